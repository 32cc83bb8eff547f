import PyProof.Rows.All
import Wide.All
import OpenK.AllK
import Wide.FinOn
import HandS.ForMost
import HandS.ForExc
import HandS.Deep
import HandS.TupAny
import HandS.ExcCtx
import HandS.HotCalls
import HandS.Flow
import HandS.Conv
import KE.KExcIs
import HandS.IsInst
import HandS.ExcField
import HandS.Property
import HandS.CallSlots
import HandS.Comp
import HandS.Iter
import HandS.Text
import HandS.SortInts
import HandS.TryMany
import HandS.More
import HandS.ExcInit
import HandS.ExcInitHot
import HandS.Strs
import KE.GoesEnum
import HandS.Words
import HandS.Ends
import KE.KIsAll
import PySem.Challenge.RW_anymap_k85_open_pairs_and_answers
set_option Elab.async false
set_option linter.all false
set_option maxRecDepth 100000
/-! SLCore: values without a heap, and how they stand in one. -/
namespace SL
open PySem L2

/-- a Python value as plain data. `lst true`, `ins true`: owned by the one who holds it -/
inductive D where
  | non
  | bl (b : Bool)
  | int (i : Int)
  | str (x : Str)
  | scr (ns : List Int)
  | tup (xs : List D)
  | lst (o : Bool) (xs : List D)
  | ins (o : Bool) (c : Nat) (xs : List D)
  | exn (c : Nat) (xs : List D)

mutual
def D.frz : D → D
  | .lst _ xs => .lst false (D.frzL xs)
  | .ins _ c xs => .ins false c (D.frzL xs)
  | .non => .non
  | .bl b => .bl b
  | .int i => .int i
  | .str x => .str x
  | .scr ns => .scr ns
  | .tup xs => .tup xs
  | .exn c xs => .exn c xs
def D.frzL : List D → List D
  | [] => []
  | d :: ds => d.frz :: D.frzL ds
end
mutual
/-- neither a list nor an instance in it -/
def D.imm : D → Bool
  | .tup xs => D.immL xs
  | .lst _ _ => false
  | .ins _ _ _ => false
  | .exn _ _ => false
  | .non => true
  | .bl _ => true
  | .int _ => true
  | .str _ => true
  | .scr _ => true
def D.immL : List D → Bool
  | [] => true
  | d :: ds => d.imm && D.immL ds
end
mutual
/-- no frozen list in it -/
def D.noF : D → Bool
  | .tup xs => D.noFL xs
  | .lst o xs => o && D.noFL xs
  | .ins _ _ xs => D.noFL xs
  | .exn _ xs => D.noFL xs
  | .non => true
  | .bl _ => true
  | .int _ => true
  | .str _ => true
  | .scr _ => true
def D.noFL : List D → Bool
  | [] => true
  | d :: ds => d.noF && D.noFL ds
end
mutual
/-- as the library's data -/
def D.py : D → Option PyData
  | .non => some .none
  | .bl b => some (.bool b)
  | .int i => some (.int i)
  | .str x => some (.str x)
  | .scr _ => none
  | .tup xs => (D.pyL xs).map PyData.tuple
  | .lst _ xs => (D.pyL xs).map PyData.list
  | .ins _ _ _ => none
  | .exn _ _ => none
def D.pyL : List D → Option (List PyData)
  | [] => some []
  | d :: ds => match d.py, D.pyL ds with
    | some p, some ps => some (p :: ps)
    | _, _ => none
end
mutual
def D.dep : D → Nat
  | .tup xs => D.depL xs + 1
  | .lst _ xs => D.depL xs + 1
  | _ => 1
def D.depL : List D → Nat
  | [] => 0
  | d :: ds => max d.dep (D.depL ds)
end
mutual
/-- == of data -/
def D.eqv : D → D → Bool
  | .non, .non => true
  | .bl a, .bl b => a == b
  | .bl a, .int j => (if a then 1 else 0) == j
  | .int i, .bl b => i == (if b then 1 else 0)
  | .int i, .int j => i == j
  | .str x, .str y => x == y
  | .lst _ xs, .lst _ ys => D.eqvL xs ys
  | .tup xs, .tup ys => D.eqvL xs ys
  | _, _ => false
def D.eqvL : List D → List D → Bool
  | [], [] => true
  | x :: xs, y :: ys => x.eqv y && D.eqvL xs ys
  | _, _ => false
end
abbrev Env := List (Option D)
end SL
set_option Elab.async false
set_option linter.all false
set_option maxRecDepth 100000
set_option maxHeartbeats 1000000
/-! SLTd: tuples made, the whole object told (a tuple's methods want it). -/
namespace SL
open PySem PySem.Spec PyProof.Rows L2
/-- a plain tuple's object -/
def TupO (o : Obj) : Prop := o.cls = .type "tuple" ∧ o.dict = none
/-- a new tuple, told whole -/
def NewT (xs : List V) (H : Hp) (Q : VK) : Prop := ∀ p o, H p = none → TupO o → Q (.ref p) (upd H p (.frz o (.tup xs)))
section
variable {X : Cx} {es : List Expr} {t : TA} {pos : Pos}
theorem new_ok {pins : List (Addr × Obj)} {σ : L2.St} {H : Hp} {s : Shared} {xs : List V} {its : List Value} (I : Inv X pins σ H s) (r : Vals xs its) (z : xs.length ≤ sizeLine) {Q : VK} (q : NewT xs H Q) :
    EP X pins σ Q (.ref s.heap.objs.size) { s with heap := s.heap.push { cls := .type "tuple", data := .seq its.toArray } } := by
  have hf : H s.heap.objs.size = none := I.hok.fresh (Nat.le_refl _)
  exact ⟨.ref s.heap.objs.size, _, I.laid (t' := s.toks) (o := .frz { cls := .type "tuple", data := .seq its.toArray } (.tup xs)) (fun b u e => Heap.get?_push_of_some _ e) (Nat.le_refl _)
    ⟨Heap.get?_push_size _ rfl, z, its, r, IsTup.new _ _⟩, rfl, q _ _ hf ⟨rfl, rfl⟩⟩
def tTupD (t : TA) : TE := fun σ H Q => t σ H fun xs H1 => xs.length ≤ sizeLine ∧ NewT xs H1 Q
theorem pe_tupD {x1} (h : PA X es t) : PE X (.Tuple es x1 pos) (tTupD t) := by
  refine ⟨fun pins s σ H Q I hq => ?_⟩
  exact wpAny_Tuple_spliced (thn (h.run pos pins s σ H _ I hq) fun us s1 ⟨xs, H1, I1, r, z, q⟩ => ⟨by rw [← r.length]; exact z, new_ok I1 r z q⟩)
/-- + of tuples -/
def rCatD (K : PySem.W.Frag) : R2 := fun x y H Q => ∃ a b xs ys, x = .ref a ∧ y = .ref b ∧ SqT K H a xs ∧ SqT K H b ys ∧ xs.length + ys.length ≤ sizeLine ∧
  (xs = [] → Q (.ref b) H) ∧ (xs ≠ [] → ys = [] → Q (.ref a) H) ∧ (xs ≠ [] → ys ≠ [] → NewT (xs ++ ys) H Q)
theorem op_catD : OpR X (binaryOp .Add) (rCatD X.K) := by
  intro pins s σ H x y v u Q I rx ry h
  obtain ⟨a, b, xs, ys, rfl, rfl, ha, hb, hz, q0, q1, q2⟩ := h
  by_cases hx : xs = []
  · exact op_catA pins s σ H _ _ v u Q I rx ry ⟨a, b, xs, ys, rfl, rfl, ha, hb, hz, q0, q1, fun z => absurd hx z⟩
  · by_cases hy : ys = []
    · exact op_catA pins s σ H _ _ v u Q I rx ry ⟨a, b, xs, ys, rfl, rfl, ha, hb, hz, q0, q1, fun _ z => absurd hy z⟩
    · cases rx
      cases ry
      obtain ⟨its, r1, p1, _⟩ := I.tuple ha
      obtain ⟨its2, r2, p2, _⟩ := I.tuple hb
      exact HT.cat_tup p1 p2 (fun z => hx (r1.nil_iff.mp z)) (fun z => absurd (r2.nil_iff.mp z) hy) (fun z => new_ok I (r1.append r2) (by rw [List.length_append]; exact hz) (q2 hx hy)) (by rw [← r1.length, ← r2.length]; exact hz)
/-- t[lo:hi] -/
def rSlD (K : PySem.W.Frag) : V → Option Int → Option Int → Hp → VK → Prop := fun x lo hi H Q => ∃ a xs, x = .ref a ∧ SqT K H a xs ∧
  (HT.sIx xs.length 0 lo = 0 ∧ HT.sIx xs.length xs.length hi = xs.length → Q (.ref a) H) ∧ (¬ (HT.sIx xs.length 0 lo = 0 ∧ HT.sIx xs.length xs.length hi = xs.length) → NewT (cutV xs lo hi) H Q)
theorem sl_tupD : SlR X (rSlD X.K) := by
  intro pins s σ H x v vl vu lo hi sl Q I rx hs pl pu h
  obtain ⟨a, xs, rfl, hx, q1, q2⟩ := h
  by_cases hw : HT.sIx xs.length 0 lo = 0 ∧ HT.sIx xs.length xs.length hi = xs.length
  · exact sl_tupA pins s σ H _ v vl vu lo hi sl Q I rx hs pl pu ⟨a, xs, rfl, hx, q1, fun z => absurd hw z⟩
  · cases rx
    obtain ⟨its, r, ht, hz⟩ := I.tuple hx
    have hlen : its.toArray.size = xs.length := by rw [List.size_toArray]; exact r.length.symm
    refine ⟨"tuple", _, PyProof.Rows.slot_tuple_getitem.lookup, ht.typeIs, ?_⟩
    refine HT.getItem_tuple_cut ht hs pl pu (by rw [hlen]; exact hw) ?_ (by rw [hlen]; exact hz)
    rw [hlen]
    exact new_ok I ((r.drop (HT.sIx xs.length 0 lo)).take (HT.sIx xs.length xs.length hi - HT.sIx xs.length 0 lo)) (Nat.le_trans (cutV_length xs lo hi) hz) (q2 hw)
/-- tuple(x) -/
theorem call_tupleD : CallR X (.type "tuple") (fun xs H Q => ∃ p ys, xs = [.ref p] ∧ ((SqL X.K H p ys ∧ NewT ys H Q) ∨ (SqT X.K H p ys ∧ Q (.ref p) H))) := by
  intro pins s σ H xs us Q I r h
  obtain ⟨p, ys, rfl, ⟨hs, q⟩ | ⟨hs, q⟩⟩ := h
  · obtain ⟨u, rfl, ru⟩ := vals1 r
    obtain rfl : u = .ref p := ru
    obtain ⟨its, rv, pl, hz⟩ := I.list hs
    refine call_tuple_list pl.isList (fun h' hk => ?_) (by rw [List.size_toArray, ← rv.length]; exact hz)
    have I1 : Inv X pins σ H { s with heap := h' } := I.kept (t' := s.toks) hk
    exact new_ok I1 rv hz q
  · exact call_tupleT pins s σ H _ us Q I r ⟨p, ys, rfl, hs, q⟩
end
end SL
set_option Elab.async false
set_option linter.all false
set_option maxRecDepth 100000
/-! SLRep: how plain data stands in the abstract heap: F the frozen part, H the heap. -/
namespace SL
open PySem L2

structure Wd where
  K : PySem.W.Frag
  /-- a class's address, its fields' names in the order of __init__ -/
  ca : Nat → Addr
  fn : Nat → List Str
  /-- the exception that is handled: where, its class, its dict -/
  hx : Option (Addr × Nat × Option Addr)

def MutO : HO → Prop
  | .lst _ => True
  | .ins _ _ _ => True
  | _ => False

/-- the script -/
def ScrAt (K : PySem.W.Frag) (F : Hp) (a : Addr) (xs : List V) : Prop :=
  (∃ o, F a = some (.frz o (.lst xs))) ∨ ∀ H : Hp, SqL K H a xs
theorem ScrAt.mono {K : PySem.W.Frag} {F G : Hp} {a : Addr} {xs : List V} (h : ScrAt K F a xs) (s : ∀ o u, F a = some (.frz o u) → G a = some (.frz o u)) : ScrAt K G a xs := by
  rcases h with ⟨o, h⟩ | h
  · exact .inl ⟨o, s _ _ h⟩
  · exact .inr h
theorem ScrAt.sql {K : PySem.W.Frag} {F : Hp} {a : Addr} {xs : List V} (h : ScrAt K F a xs) : SqL K F a xs := by
  rcases h with ⟨o, h⟩ | h
  · exact .inl (.inr ⟨o, h⟩)
  · exact h F

/-- a tuple that stands there, its object told whole -/
def SqTd (K : PySem.W.Frag) (F : Hp) (a : Addr) (ws : List V) : Prop :=
  (∃ o, F a = some (.frz o (.tup ws)) ∧ TupO o) ∨ ∃ (its : Array Value) (n : Nat) (sl : Array (Option Value)), K.lookup a = some ⟨.type "tuple", none, .seq its n, sl⟩ ∧ its.size ≤ sizeLine ∧ Vals ws its.toList
theorem SqTd.sq {K : PySem.W.Frag} {F : Hp} {a : Addr} {ws : List V} (h : SqTd K F a ws) : SqT K F a ws := by
  rcases h with ⟨o, h, _⟩ | ⟨its, n, sl, l, z, r⟩
  · exact .inl (.inr ⟨o, h⟩)
  · exact .inr ⟨_, its, n, l, rfl, rfl, z, r⟩
inductive RepL (w : Wd) (F H : Hp) : List V → List D → List Addr → Prop
  | nil : RepL w F H [] [] []
  | non {vs ds A} : RepL w F H vs ds A → RepL w F H (.non :: vs) (.non :: ds) A
  | bl {b vs ds A} : RepL w F H vs ds A → RepL w F H (.bl b :: vs) (.bl b :: ds) A
  | int {i vs ds A} : RepL w F H vs ds A → RepL w F H (.int i :: vs) (.int i :: ds) A
  | str {x vs ds A} : PySem.PyData.strOk x = true → RepL w F H vs ds A → RepL w F H (.str x :: vs) (.str x :: ds) A
  | scr {a ns vs ds A} : ScrAt w.K F a (ns.map V.int) → RepL w F H vs ds A → RepL w F H (.ref a :: vs) (.scr ns :: ds) A
  | tup {a ws xs vs ds A} : SqTd w.K F a ws → RepL w F H ws xs [] → RepL w F H vs ds A → RepL w F H (.ref a :: vs) (.tup xs :: ds) A
  | lstF {a ws xs vs ds A} : F a = some (.lst ws) → RepL w F H ws xs [] → RepL w F H vs ds A → RepL w F H (.ref a :: vs) (.lst false xs :: ds) A
  | lstO {a ws xs vs ds A B} : H a = some (.lst ws) → RepL w F H ws xs B → RepL w F H vs ds A → RepL w F H (.ref a :: vs) (.lst true xs :: ds) (a :: (B ++ A))
  | insF {a dx c ws xs vs ds A} : F a = some (.ins (w.ca c) dx ((w.fn c).zip ws)) → ws.length ≤ (w.fn c).length → RepL w F H ws xs [] → RepL w F H vs ds A → RepL w F H (.ref a :: vs) (.ins false c xs :: ds) A
  | insO {a dx c ws xs vs ds A B} : H a = some (.ins (w.ca c) dx ((w.fn c).zip ws)) → ws.length ≤ (w.fn c).length → RepL w F H ws xs B → RepL w F H vs ds A → RepL w F H (.ref a :: vs) (.ins true c xs :: ds) (a :: (B ++ A))
  | exn {a c d ws xs vs ds A} : w.hx = some (a, c, some d) → F d = some (.xd ((w.fn c).zip ws)) → ws.length ≤ (w.fn c).length → RepL w F H ws xs [] → RepL w F H vs ds A → RepL w F H (.ref a :: vs) (.exn c xs :: ds) A
  | exn0 {a c vs ds A} : w.hx = some (a, c, none) → RepL w F H vs ds A → RepL w F H (.ref a :: vs) (.exn c [] :: ds) A

abbrev Rep (w : Wd) (F H : Hp) (v : V) (d : D) (A : List Addr) : Prop := RepL w F H [v] [d] A

section
variable {w : Wd} {F H F' H' G : Hp} {vs : List V} {ds : List D} {A : List Addr}

theorem RepL.len (r : RepL w F H vs ds A) : vs.length = ds.length := by
  induction r <;> simp_all

theorem sqTd_mono {K : PySem.W.Frag} {a : Addr} {xs : List V} (s : Same F F') (h : SqTd K F a xs) : SqTd K F' a xs := by
  rcases h with ⟨o, h, t⟩ | h
  · exact .inl ⟨o, s _ _ h, t⟩
  · exact .inr h
theorem sqT_mono {K : PySem.W.Frag} {a : Addr} {xs : List V} (s : Same F F') (h : SqTd K F a xs) : SqT K F' a xs := (sqTd_mono s h).sq
theorem sqT_mono_ {K : PySem.W.Frag} {a : Addr} {xs : List V} (s : Same F F') (h : SqT K F a xs) : SqT K F' a xs := by
  rcases h with (h | ⟨o, h⟩) | h
  · exact .inl (.inl (s _ _ h))
  · exact .inl (.inr ⟨o, s _ _ h⟩)
  · exact .inr h

theorem RepL.mono (r : RepL w F H vs ds A) (s : Same F F') (h : ∀ a, 0 < A.count a → H' a = H a) : RepL w F' H' vs ds A := by
  induction r with
  | nil => exact .nil
  | non _ ih => exact .non (ih h)
  | bl _ ih => exact .bl (ih h)
  | int _ ih => exact .int (ih h)
  | str k _ ih => exact .str k (ih h)
  | scr k _ ih => exact .scr (k.mono fun _ _ => s _ _) (ih h)
  | tup k _ _ i1 i2 => exact .tup (sqTd_mono s k) (i1 (by simp)) (i2 h)
  | lstF k _ _ i1 i2 => exact .lstF (s _ _ k) (i1 (by simp)) (i2 h)
  | @lstO b _ _ _ _ A1 B1 k _ _ i1 i2 =>
    refine .lstO (a := b) ?_ (i1 fun a q => h a ?_) (i2 fun a q => h a ?_)
    · rw [h b (by simp [List.count_cons])]; exact k
    · simp only [List.count_cons, List.count_append]; omega
    · simp only [List.count_cons, List.count_append]; omega
  | insF k l _ _ i1 i2 => exact .insF (s _ _ k) l (i1 (by simp)) (i2 h)
  | @insO b dx _ _ _ _ _ A1 B1 k l _ _ i1 i2 =>
    refine .insO (a := b) (dx := dx) ?_ l (i1 fun a q => h a ?_) (i2 fun a q => h a ?_)
    · rw [h b (by simp [List.count_cons])]; exact k
    · simp only [List.count_cons, List.count_append]; omega
    · simp only [List.count_cons, List.count_append]; omega
  | exn e k l _ _ i1 i2 => exact .exn e (s _ _ k) l (i1 (by simp)) (i2 h)
  | exn0 e _ ih => exact .exn0 e (ih h)

theorem RepL.own (r : RepL w F H vs ds A) : ∀ a, 0 < A.count a → ∃ o, H a = some o ∧ MutO o := by
  induction r with
  | nil => intro a h; simp at h
  | non _ ih => exact ih
  | bl _ ih => exact ih
  | int _ ih => exact ih
  | str _ _ ih => exact ih
  | scr _ _ ih => exact ih
  | tup _ _ _ _ i2 => exact i2
  | lstF _ _ _ _ i2 => exact i2
  | @lstO b _ _ _ _ A1 B1 k _ _ i1 i2 =>
    intro a h
    by_cases e : a = b
    · subst e; exact ⟨_, k, trivial⟩
    · simp only [List.count_cons, List.count_append, beq_iff_eq, Ne.symm e, if_false] at h
      by_cases q : 0 < List.count a B1
      · exact i1 a q
      · exact i2 a (by omega)
  | insF _ _ _ _ _ i2 => exact i2
  | @insO b _ _ _ _ _ _ A1 B1 k _ _ _ i1 i2 =>
    intro a h
    by_cases e : a = b
    · subst e; exact ⟨_, k, trivial⟩
    · simp only [List.count_cons, List.count_append, beq_iff_eq, Ne.symm e, if_false] at h
      by_cases q : 0 < List.count a B1
      · exact i1 a q
      · exact i2 a (by omega)
  | exn _ _ _ _ _ _ i2 => exact i2
  | exn0 _ _ ih => exact ih

theorem RepL.app {us : List V} {es : List D} {B : List Addr} (r : RepL w F H vs ds A) (q : RepL w F H us es B) : RepL w F H (vs ++ us) (ds ++ es) (A ++ B) := by
  induction r with
  | nil => exact q
  | non _ ih => exact .non ih
  | bl _ ih => exact .bl ih
  | int _ ih => exact .int ih
  | str k _ ih => exact .str k ih
  | scr k _ ih => exact .scr k ih
  | tup k a _ _ i2 => exact .tup k a i2
  | lstF k a _ _ i2 => exact .lstF k a i2
  | lstO k a _ _ i2 =>
    have := RepL.lstO k a i2
    simpa using this
  | insF k l a _ _ i2 => exact .insF k l a i2
  | insO k l a _ _ i2 =>
    have := RepL.insO k l a i2
    simpa using this
  | exn e k l a _ _ i2 => exact .exn e k l a i2
  | exn0 e _ ih => exact .exn0 e ih

/-- the first item apart -/
theorem RepL.uncons {d : D} (r : RepL w F H vs (d :: ds) A) : ∃ v us B C, vs = v :: us ∧ Rep w F H v d B ∧ RepL w F H us ds C ∧ ∀ a, A.count a = B.count a + C.count a := by
  cases r with
  | non r => exact ⟨_, _, _, _, rfl, .non .nil, r, by simp⟩
  | bl r => exact ⟨_, _, _, _, rfl, .bl .nil, r, by simp⟩
  | int r => exact ⟨_, _, _, _, rfl, .int .nil, r, by simp⟩
  | str k r => exact ⟨_, _, _, _, rfl, .str k .nil, r, by simp⟩
  | scr k r => exact ⟨_, _, _, _, rfl, .scr k .nil, r, by simp⟩
  | tup k a r => exact ⟨_, _, _, _, rfl, .tup k a .nil, r, by simp⟩
  | lstF k a r => exact ⟨_, _, _, _, rfl, .lstF k a .nil, r, by simp⟩
  | lstO k a r => exact ⟨_, _, _, _, rfl, .lstO k a .nil, r, by intro b; simp only [List.count_cons, List.count_append, List.count_nil]; omega⟩
  | insF k l a r => exact ⟨_, _, _, _, rfl, .insF k l a .nil, r, by simp⟩
  | insO k l a r => exact ⟨_, _, _, _, rfl, .insO k l a .nil, r, by intro b; simp only [List.count_cons, List.count_append, List.count_nil]; omega⟩
  | exn e k l a r => exact ⟨_, _, _, _, rfl, .exn e k l a .nil, r, by simp⟩
  | exn0 e r => exact ⟨_, _, _, _, rfl, .exn0 e .nil, r, by simp⟩
theorem RepL.cons {v : V} {d : D} {B : List Addr} (q : Rep w F H v d B) (r : RepL w F H vs ds A) : RepL w F H (v :: vs) (d :: ds) (B ++ A) := q.app r

theorem RepL.take (n : Nat) (r : RepL w F H vs ds A) : ∃ B, RepL w F H (vs.take n) (ds.take n) B ∧ ∀ a, B.count a ≤ A.count a := by
  induction n generalizing vs ds A with
  | zero => exact ⟨[], by simpa using RepL.nil, by simp⟩
  | succ n ih =>
    cases ds with
    | nil => cases r; exact ⟨[], by simpa using RepL.nil, by simp⟩
    | cons d ds =>
      obtain ⟨v, us, B, C, rfl, q, r, hc⟩ := r.uncons
      obtain ⟨C', r', hc'⟩ := ih r
      exact ⟨B ++ C', by simpa using RepL.cons q r', fun a => by have h1 := hc a; have h2 := hc' a; simp only [List.count_append]; omega⟩
theorem RepL.drop (n : Nat) (r : RepL w F H vs ds A) : ∃ B, RepL w F H (vs.drop n) (ds.drop n) B ∧ ∀ a, B.count a ≤ A.count a := by
  induction n generalizing vs ds A with
  | zero => exact ⟨A, by simpa using r, fun _ => Nat.le_refl _⟩
  | succ n ih =>
    cases ds with
    | nil => cases r; exact ⟨[], by simpa using RepL.nil, by simp⟩
    | cons d ds =>
      obtain ⟨v, us, B, C, rfl, q, r, hc⟩ := r.uncons
      obtain ⟨C', r', hc'⟩ := ih r
      exact ⟨C', by simpa using r', fun a => by have h1 := hc a; have h2 := hc' a; omega⟩
theorem RepL.get {i : Nat} {d : D} (r : RepL w F H vs ds A) (h : ds[i]? = some d) : ∃ v B, vs[i]? = some v ∧ Rep w F H v d B ∧ ∀ a, B.count a ≤ A.count a := by
  induction i generalizing vs ds A with
  | zero =>
    cases ds with
    | nil => simp at h
    | cons e ds =>
      simp at h; subst h
      obtain ⟨v, us, B, C, rfl, q, r, hc⟩ := r.uncons
      exact ⟨v, B, rfl, q, fun a => by have := hc a; omega⟩
  | succ i ih =>
    cases ds with
    | nil => simp at h
    | cons e ds =>
      obtain ⟨v, us, B, C, rfl, q, r, hc⟩ := r.uncons
      obtain ⟨v', B', h1, h2, h3⟩ := ih r (by simpa using h)
      exact ⟨v', B', by simpa using h1, h2, fun a => by have := hc a; have := h3 a; omega⟩
/-- an item is put in an item's place -/
theorem RepL.set {i : Nat} {d e : D} {u : V} {C : List Addr} (r : RepL w F H vs ds A) (h : ds[i]? = some d) (q : Rep w F H u e C) :
    ∃ v B A', vs[i]? = some v ∧ Rep w F H v d B ∧ RepL w F H (vs.set i u) (ds.set i e) A' ∧ ∀ a, A'.count a + B.count a = A.count a + C.count a := by
  induction i generalizing vs ds A with
  | zero =>
    cases ds with
    | nil => simp at h
    | cons e' ds =>
      simp at h; subst h
      obtain ⟨v, us, B, A1, rfl, q1, r, hc⟩ := r.uncons
      exact ⟨v, B, C ++ A1, rfl, q1, by simpa using RepL.cons q r, fun a => by have := hc a; simp only [List.count_append]; omega⟩
  | succ i ih =>
    cases ds with
    | nil => simp at h
    | cons e' ds =>
      obtain ⟨v, us, B, A1, rfl, q1, r, hc⟩ := r.uncons
      obtain ⟨v', B', A', h1, h2, h3, h4⟩ := ih r (by simpa using h)
      exact ⟨v', B', B ++ A', by simpa using h1, h2, by simpa using RepL.cons q1 h3, fun a => by have := hc a; have := h4 a; simp only [List.count_append]; omega⟩

/-- frozen: what was owned is in the frozen part -/
theorem RepL.frz (r : RepL w F H vs ds A) (s : Same F G) (h : ∀ a, 0 < A.count a → G a = H a) : RepL w G H' vs (D.frzL ds) [] := by
  induction r with
  | nil => exact .nil
  | non _ ih => exact .non (ih h)
  | bl _ ih => exact .bl (ih h)
  | int _ ih => exact .int (ih h)
  | str k _ ih => exact .str k (ih h)
  | scr k _ ih => exact .scr (k.mono fun _ _ => s _ _) (ih h)
  | tup k r _ i1 i2 => exact .tup (sqTd_mono s k) (r.mono s (by simp)) (i2 h)
  | lstF k _ _ i1 i2 => exact .lstF (s _ _ k) (i1 (by simp)) (i2 h)
  | @lstO b _ _ _ _ A1 B1 k _ _ i1 i2 =>
    refine .lstF (a := b) ?_ (i1 fun a q => h a ?_) (i2 fun a q => h a ?_)
    · rw [h b (by simp [List.count_cons])]; exact k
    · simp only [List.count_cons, List.count_append]; omega
    · simp only [List.count_cons, List.count_append]; omega
  | insF k l _ _ i1 i2 => exact .insF (s _ _ k) l (i1 (by simp)) (i2 h)
  | @insO b dx _ _ _ _ _ A1 B1 k l _ _ i1 i2 =>
    refine .insF (a := b) (dx := dx) ?_ l (i1 fun a q => h a ?_) (i2 fun a q => h a ?_)
    · rw [h b (by simp [List.count_cons])]; exact k
    · simp only [List.count_cons, List.count_append]; omega
    · simp only [List.count_cons, List.count_append]; omega
  | exn e k l r _ i1 i2 => exact .exn e (s _ _ k) l (r.mono s (by simp)) (i2 h)
  | exn0 e _ ih => exact .exn0 e (ih h)

theorem sqTd_but {K : PySem.W.Frag} {a : Addr} {xs : List V} (s : ∀ a o, F a = some o → ¬ MutO o → G a = some o) (h : SqTd K F a xs) : SqTd K G a xs := by
  rcases h with ⟨o, h, t⟩ | h
  · exact .inl ⟨o, s _ _ h id, t⟩
  · exact .inr h
theorem sqT_but {K : PySem.W.Frag} {a : Addr} {xs : List V} (s : ∀ a o, F a = some o → ¬ MutO o → G a = some o) (h : SqT K F a xs) : SqT K G a xs := by
  rcases h with (h | ⟨o, h⟩) | h
  · exact .inl (.inl (s _ _ h id))
  · exact .inl (.inr ⟨o, s _ _ h id⟩)
  · exact .inr h

/-- no frozen list in it: frozen lists may be thawed -/
theorem RepL.thaw (r : RepL w F H vs ds A) (n : D.noFL ds = true) (s : ∀ a o, F a = some o → (∀ xs, o ≠ .lst xs) → G a = some o) : RepL w G H vs ds A := by
  have s' : ∀ a o, F a = some o → ¬ MutO o → G a = some o := fun a o h m => s a o h fun xs e => m (by subst e; trivial)
  induction r with
  | nil => exact .nil
  | non _ ih => exact .non (ih (by simpa [D.noFL, D.noF] using n))
  | bl _ ih => exact .bl (ih (by simpa [D.noFL, D.noF] using n))
  | int _ ih => exact .int (ih (by simpa [D.noFL, D.noF] using n))
  | str k _ ih => exact .str k (ih (by simpa [D.noFL, D.noF] using n))
  | scr k _ ih => exact .scr (k.mono fun o u h => s _ _ h (fun _ => by intro z; cases z)) (ih (by simpa [D.noFL, D.noF] using n))
  | tup k _ _ i1 i2 =>
    simp only [D.noFL, D.noF, Bool.and_eq_true] at n
    exact .tup (sqTd_but s' k) (i1 n.1) (i2 n.2)
  | lstF k _ _ i1 i2 => simp [D.noFL, D.noF] at n
  | lstO k _ _ i1 i2 =>
    simp only [D.noFL, D.noF, Bool.and_eq_true] at n
    exact .lstO k (i1 n.1.2) (i2 n.2)
  | insF k l _ _ i1 i2 =>
    simp only [D.noFL, D.noF, Bool.and_eq_true] at n
    exact .insF (s _ _ k fun _ => by intro z; cases z) l (i1 n.1) (i2 n.2)
  | insO k l _ _ i1 i2 =>
    simp only [D.noFL, D.noF, Bool.and_eq_true] at n
    exact .insO k l (i1 n.1) (i2 n.2)
  | exn e k l _ _ i1 i2 =>
    simp only [D.noFL, D.noF, Bool.and_eq_true] at n
    exact .exn e (s _ _ k fun _ => by intro z; cases z) l (i1 n.1) (i2 n.2)
  | exn0 e _ ih => exact .exn0 e (ih (by simpa [D.noFL, D.noF] using n))

/-- neither list nor instance in it: it leans on nothing that changes -/
theorem RepL.immC (r : RepL w F H vs ds A) (n : D.immL ds = true) (s : ∀ a o, F a = some o → ¬ MutO o → G a = some o) : RepL w G H' vs ds [] ∧ A = [] := by
  induction r with
  | nil => exact ⟨.nil, rfl⟩
  | non _ ih => have := ih (by simpa [D.immL, D.imm] using n); exact ⟨.non this.1, this.2⟩
  | bl _ ih => have := ih (by simpa [D.immL, D.imm] using n); exact ⟨.bl this.1, this.2⟩
  | int _ ih => have := ih (by simpa [D.immL, D.imm] using n); exact ⟨.int this.1, this.2⟩
  | str k _ ih => have := ih (by simpa [D.immL, D.imm] using n); exact ⟨.str k this.1, this.2⟩
  | scr k _ ih => have := ih (by simpa [D.immL, D.imm] using n); exact ⟨.scr (k.mono fun o u h => s _ _ h id) this.1, this.2⟩
  | tup k _ _ i1 i2 =>
    simp only [D.immL, D.imm, Bool.and_eq_true] at n
    exact ⟨.tup (sqTd_but s k) (i1 n.1).1 (i2 n.2).1, (i2 n.2).2⟩
  | lstF k _ _ i1 i2 => simp [D.immL, D.imm] at n
  | lstO k _ _ i1 i2 => simp [D.immL, D.imm] at n
  | insF k l _ _ i1 i2 => simp [D.immL, D.imm] at n
  | insO k l _ _ i1 i2 => simp [D.immL, D.imm] at n
  | exn e k l _ _ i1 i2 => simp [D.immL, D.imm] at n
  | exn0 e _ ih => simp [D.immL, D.imm] at n

theorem frzL_imm : ∀ ds : List D, D.immL ds = true → D.frzL ds = ds
  | [], _ => rfl
  | d :: ds, h => by
    simp only [D.immL, Bool.and_eq_true] at h
    rw [D.frzL, frzL_imm ds h.2]
    cases d <;> first | rfl | simp [D.imm] at h

/-! ### the library's data -/
theorem RepL.dp (r : RepL w F H vs ds A) (s : Same F H) : ∀ ps, D.pyL ds = some ps → DpAll w.K H vs ps ∧ PyData.canLayAll0 ps = true := by
  induction r with
  | nil => intro ps h; simp [D.pyL] at h; subst h; exact ⟨.nil, rfl⟩
  | @non vs ds A _ ih =>
    intro ps h
    simp only [D.pyL, D.py] at h
    cases q : D.pyL ds with
    | none => rw [q] at h; simp at h
    | some qs => rw [q] at h; simp at h; subst h; exact ⟨.cons .non (ih qs q).1, by simp [PyData.canLayAll0, PyData.canLay0, (ih qs q).2]⟩
  | @bl b vs ds A _ ih =>
    intro ps h
    simp only [D.pyL, D.py] at h
    cases q : D.pyL ds with
    | none => rw [q] at h; simp at h
    | some qs => rw [q] at h; simp at h; subst h; exact ⟨.cons (.bl b) (ih qs q).1, by simp [PyData.canLayAll0, PyData.canLay0, (ih qs q).2]⟩
  | @int b vs ds A _ ih =>
    intro ps h
    simp only [D.pyL, D.py] at h
    cases q : D.pyL ds with
    | none => rw [q] at h; simp at h
    | some qs => rw [q] at h; simp at h; subst h; exact ⟨.cons (.int b) (ih qs q).1, by simp [PyData.canLayAll0, PyData.canLay0, (ih qs q).2]⟩
  | @str b vs ds A k _ ih =>
    intro ps h
    simp only [D.pyL, D.py] at h
    cases q : D.pyL ds with
    | none => rw [q] at h; simp at h
    | some qs => rw [q] at h; simp at h; subst h; exact ⟨.cons (.str b) (ih qs q).1, by simp [PyData.canLayAll0, PyData.canLay0, (ih qs q).2, k]⟩
  | scr _ _ ih => intro ps h; simp [D.pyL, D.py] at h
  | @tup a ws xs vs ds A k _ _ i1 i2 =>
    intro ps h
    simp only [D.pyL, D.py] at h
    cases q1 : D.pyL xs with
    | none => rw [q1] at h; simp at h
    | some qs1 =>
      cases q : D.pyL ds with
      | none => rw [q] at h; simp at h
      | some qs => rw [q, q1] at h; simp at h; subst h; exact ⟨.cons (.tup (sqT_mono s k) (i1 _ q1).1) (i2 qs q).1, by simp [PyData.canLayAll0, PyData.canLay0, (i2 qs q).2, (i1 _ q1).2]⟩
  | @lstF a ws xs vs ds A k _ _ i1 i2 =>
    intro ps h
    simp only [D.pyL, D.py] at h
    cases q1 : D.pyL xs with
    | none => rw [q1] at h; simp at h
    | some qs1 =>
      cases q : D.pyL ds with
      | none => rw [q] at h; simp at h
      | some qs => rw [q, q1] at h; simp at h; subst h; exact ⟨.cons (.lst (.of (s _ _ k)) (i1 _ q1).1) (i2 qs q).1, by simp [PyData.canLayAll0, PyData.canLay0, (i2 qs q).2, (i1 _ q1).2]⟩
  | @lstO a ws xs vs ds A B k _ _ i1 i2 =>
    intro ps h
    simp only [D.pyL, D.py] at h
    cases q1 : D.pyL xs with
    | none => rw [q1] at h; simp at h
    | some qs1 =>
      cases q : D.pyL ds with
      | none => rw [q] at h; simp at h
      | some qs => rw [q, q1] at h; simp at h; subst h; exact ⟨.cons (.lst (.of k) (i1 _ q1).1) (i2 qs q).1, by simp [PyData.canLayAll0, PyData.canLay0, (i2 qs q).2, (i1 _ q1).2]⟩
  | insF _ _ _ _ _ _ => intro ps h; simp [D.pyL, D.py] at h
  | insO _ _ _ _ _ _ => intro ps h; simp [D.pyL, D.py] at h
  | exn _ _ _ _ _ _ _ => intro ps h; simp [D.pyL, D.py] at h
  | exn0 _ _ _ => intro ps h; simp [D.pyL, D.py] at h
theorem RepL.dp1 {v : V} {d : D} {p : PyData} (r : Rep w F H v d A) (s : Same F H) (h : d.py = some p) : Dp w.K H v p ∧ p.canLay0 = true := by
  have q := r.dp s [p] (by simp [D.pyL, h])
  cases q.1 with
  | cons a _ => exact ⟨a, by simpa [PyData.canLayAll0] using q.2⟩
end

mutual
theorem py_dep : ∀ (d : D) (p : PyData), d.py = some p → p.depth ≤ d.dep
  | .non, p, h => by simp [D.py] at h; subst h; simp [PyData.depth]
  | .bl _, p, h => by simp [D.py] at h; subst h; simp [PyData.depth]
  | .int _, p, h => by simp [D.py] at h; subst h; simp [PyData.depth]
  | .str _, p, h => by simp [D.py] at h; subst h; simp [PyData.depth]
  | .scr _, p, h => by simp [D.py] at h
  | .ins _ _ _, p, h => by simp [D.py] at h
  | .exn _ _, p, h => by simp [D.py] at h
  | .tup xs, p, h => by
    simp only [D.py, Option.map_eq_some_iff] at h
    obtain ⟨ps, h, rfl⟩ := h
    have := py_depL xs ps h
    simp only [PyData.depth, D.dep]; omega
  | .lst _ xs, p, h => by
    simp only [D.py, Option.map_eq_some_iff] at h
    obtain ⟨ps, h, rfl⟩ := h
    have := py_depL xs ps h
    simp only [PyData.depth, D.dep]; omega
theorem py_depL : ∀ (ds : List D) (ps : List PyData), D.pyL ds = some ps → PyData.depthAll ps ≤ D.depL ds
  | [], ps, h => by simp [D.pyL] at h; subst h; simp [PyData.depthAll]
  | d :: ds, ps, h => by
    simp only [D.pyL] at h
    cases q1 : d.py with
    | none => rw [q1] at h; simp at h
    | some p =>
      cases q2 : D.pyL ds with
      | none => rw [q2] at h; simp at h
      | some qs =>
        rw [q1, q2] at h; simp at h; subst h
        have h1 := py_dep d p q1
        have h2 := py_depL ds qs q2
        simp only [PyData.depthAll, D.depL]; omega
end
mutual
theorem py_eqv : ∀ (d e : D) (p q : PyData), d.py = some p → e.py = some q → PyData.eqv p q = d.eqv e
  | d, e, p, q, h1, h2 => by
    cases d <;> cases e <;> simp only [D.py, Option.some.injEq, Option.map_eq_some_iff, reduceCtorEq] at h1 h2 <;>
      first
      | exact h1.elim
      | exact h2.elim
      | (subst h1; subst h2; first | rfl | simp [PyData.eqv, D.eqv])
      | (obtain ⟨ps, h1, rfl⟩ := h1; obtain ⟨qs, h2, rfl⟩ := h2
         simp only [PyData.eqv, D.eqv]
         first | rfl | exact py_eqvL _ _ ps qs h1 h2)
      | (obtain ⟨ps, h1, rfl⟩ := h1; obtain ⟨qs, h2, rfl⟩ := h2; simp [PyData.eqv, D.eqv]; done)
      | (obtain ⟨ps, h1, rfl⟩ := h1; subst h2; simp [PyData.eqv, D.eqv])
      | (obtain ⟨qs, h2, rfl⟩ := h2; subst h1; simp [PyData.eqv, D.eqv])
termination_by d => sizeOf d
theorem py_eqvL : ∀ (ds es : List D) (ps qs : List PyData), D.pyL ds = some ps → D.pyL es = some qs → PyData.eqvAll ps qs = D.eqvL ds es
  | [], [], ps, qs, h1, h2 => by simp [D.pyL] at h1 h2; subst h1; subst h2; rfl
  | [], e :: es, ps, qs, h1, h2 => by
    simp only [D.pyL] at h1 h2
    simp at h1; subst h1
    cases a1 : e.py <;> cases a2 : D.pyL es <;> rw [a1, a2] at h2 <;> simp at h2
    subst h2; rfl
  | d :: ds, [], ps, qs, h1, h2 => by
    simp only [D.pyL] at h1 h2
    simp at h2; subst h2
    cases a1 : d.py <;> cases a2 : D.pyL ds <;> rw [a1, a2] at h1 <;> simp at h1
    subst h1; rfl
  | d :: ds, e :: es, ps, qs, h1, h2 => by
    simp only [D.pyL] at h1 h2
    cases a1 : d.py <;> cases a2 : D.pyL ds <;> rw [a1, a2] at h1 <;> simp at h1
    cases b1 : e.py <;> cases b2 : D.pyL es <;> rw [b1, b2] at h2 <;> simp at h2
    subst h1; subst h2
    simp only [PyData.eqvAll, D.eqvL]
    rw [py_eqv d e _ _ a1 b1, py_eqvL ds es _ _ a2 b2]
termination_by ds => sizeOf ds
end
end SL
set_option Elab.async false
set_option linter.all false
set_option maxRecDepth 100000
/-! SLEval: slim Python, and what it does to plain values. -/
namespace SL
open PySem L2

inductive Bop | add | sub | mul | fdiv | mod | pow
  deriving DecidableEq
inductive Cop | eq | ne | lt | le | gt | ge | isn | notn | in_ | nin
  deriving DecidableEq
inductive Bi | len | int | str | list | tuple | sum | any | all | min | max | abs | sorted
  deriving DecidableEq
inductive Bm | split | join | index | upper | indexT
  deriving DecidableEq
/-- what isinstance asks for -/
inductive Ic | int | bool | str | tuple | list | ve | cls (c : Nat)
  deriving DecidableEq
inductive Ik | plain | range1 | range2 | enum | zip
  deriving DecidableEq
inductive Tg | nm (i : Nat) | tp (is : List Nat)
  deriving DecidableEq

mutual
inductive Ex where
  | var (i : Nat) | take (i : Nat)
  | non | bl (b : Bool) | int (i : Int) | str (x : Str)
  | glob (g : Nat)
  | bin (o : Bop) (a b : Ex)
  | neg (a : Ex) | not_ (a : Tx)
  | bop (isAnd : Bool) (es : List Ex)
  | cmp (o : Cop) (a b : Ex)
  | chain (o o' : Cop) (a b c : Ex)
  | ife (c : Tx) (a b : Ex)
  | call (f : Nat) (es : List Ex)
  | new (c : Nat) (es : List Ex)
  | meth (m : Nat) (o : Ex) (es : List Ex)
  | fld (a : Ex) (f : Nat)
  | leni (m : Nat) (a : Ex)
  | eqi (m : Nat) (a b : Ex)
  | bi (b : Bi) (es : List Ex)
  | bm (m : Bm) (o : Ex) (es : List Ex)
  | isin (a : Ex) (c : Ic)
  | idx (a b : Ex)
  | slc (a : Ex) (lo hi : List Ex)
  | lst (es : List Ex) | tup (es : List Ex)
  | comp (own : List Nat) (elt : Ex) (tg : Tg) (ik : Ik) (ie : List Ex) (cs : List Tx)
  | box (a : Ex)
  | compM (own : List Nat) (elt : Ex) (tg : Tg) (ik : Ik) (ie : List Ex) (cs : List Tx) (rest : List Cl)
/-- a test -/
inductive Tx where
  | e (e : Ex)
  | not_ (t : Tx)
  | bop (isAnd : Bool) (ts : List Tx)
  | ife (c a b : Tx)
/-- a clause of a comprehension -/
inductive Cl where
  | mk (tg : Tg) (ik : Ik) (ie : List Ex) (cs : List Tx)
end

inductive Sx where
  | set (i : Nat) (e : Ex)
  | unp (is : List Nat) (e : Ex)
  | sset (i : Nat) (path : List Ex) (e : Ex)
  | sadd (i : Nat) (path1 path : List Ex) (pk e : Ex)
  | sfld (f : Nat) (e : Ex)
  | app (i : Nat) (path : List Ex) (e : Ex)
  | apop (i j : Nat) (e : Ex)
  | aug (i : Nat) (o : Bop) (e : Ex)
  | ex (e : Ex)
  | ret (e : Ex) | ret0
  | ite (c : Tx) (a b : List Sx)
  | for_ (tg : Tg) (ik : Ik) (ie : List Ex) (body : List Sx)
  | while_ (c : Tx) (body : List Sx)
  | raise_ (c : Nat) (es : List Ex)
  | try_ (body : List Sx) (c : Nat) (j : Option Nat) (suite : List Sx)
  | brk | cont | pass

inductive R | val (d : D) | brw (i : Nat) (d : D)
inductive Res (α : Type) | bad | ok (a : α) (ρ : Env) | exc (c : Nat) (xs : List D) (ρ : Env)
inductive Out | ret (d : D) | exc (c : Nat) (xs : List D)
inductive Fl | nx | rt (d : D) | ex (c : Nat) (xs : List D) | bk | ct

@[inline] def Res.bind {α β : Type} (r : Res α) (k : α → Env → Res β) : Res β :=
  match r with
  | .bad => .bad
  | .ok a ρ => k a ρ
  | .exc c xs ρ => .exc c xs ρ
@[simp] theorem Res.bind_bad {α β : Type} (k : α → Env → Res β) : (Res.bad : Res α).bind k = .bad := rfl
@[simp] theorem Res.bind_ok {α β : Type} (a : α) (ρ : Env) (k : α → Env → Res β) : (Res.ok a ρ).bind k = k a ρ := rfl
@[simp] theorem Res.bind_exc {α β : Type} (c : Nat) (xs : List D) (ρ : Env) (k : α → Env → Res β) : (Res.exc c xs ρ : Res α).bind k = .exc c xs ρ := rfl
/-- a value that may be lacking -/
def Res.of {α : Type} (o : Option α) (ρ : Env) : Res α := match o with | some a => .ok a ρ | none => .bad
@[simp] theorem Res.of_some {α : Type} (a : α) (ρ : Env) : Res.of (some a) ρ = .ok a ρ := rfl
@[simp] theorem Res.of_none {α : Type} (ρ : Env) : (Res.of none ρ : Res α) = .bad := rfl

structure Tab where
  /-- a class's fields (ids) in the order of its __init__; an exception's -/
  fields : Nat → List Nat
  xf : Nat → List Nat
  meth : Nat → Nat → Option Nat
  prop : Nat → Nat → Option Nat
  /-- isinstance of an instance of a class; an except clause's answer -/
  kit : Nat → Ic → Option Bool
  xkit : Nat → Ic → Option Bool
  exm : Nat → Nat → Option Bool
  glob : Nat → Option D

structure Sem where
  fn : Bool → Nat → List D → Option Out
  new : Bool → Nat → List D → Option Out
  tab : Tab

def R.d : R → D
  | .val d => d
  | .brw _ d => d
def frzAt (i : Nat) (ρ : Env) : Env := match ρ[i]? with
  | some (some d) => ρ.set i (some d.frz)
  | _ => ρ
/-- the variable still has its value -/
def live (i : Nat) (ρ : Env) : Bool := match ρ[i]? with
  | some (some _) => true
  | _ => false
/-- for keeping: it is owned, or frozen -/
def settle (r : R) (ρ : Env) : Res D := match r with
  | .val d => .ok d ρ
  | .brw i d => if live i ρ then .ok d (if d.imm then ρ else frzAt i ρ) else .bad
/-- its items, for keeping (frozen) -/
def elems (r : R) (ρ : Env) : Res (List D) := match r with
  | .val (.lst o xs) => .ok (if o then D.frzL xs else xs) ρ
  | .val (.tup xs) => .ok xs ρ
  | .val (.scr ns) => .ok (ns.map D.int) ρ
  | .brw i (.lst _ xs) => if live i ρ then .ok xs (if D.immL xs then ρ else frzAt i ρ) else .bad
  | .brw i (.tup xs) => if live i ρ then .ok xs (if D.immL xs then ρ else frzAt i ρ) else .bad
  | _ => .bad
mutual
def D.noI : D → Bool
  | .tup xs => D.noIL xs
  | .lst _ xs => D.noIL xs
  | .ins _ _ _ => false
  | .exn _ _ => true
  | .non => true
  | .bl _ => true
  | .int _ => true
  | .str _ => true
  | .scr _ => true
def D.noIL : List D → Bool
  | [] => true
  | d :: ds => d.noI && D.noIL ds
end
/-- an argument: an instance is frozen at once, a list may be handed out and come back -/
def argR (r : R) (ρ : Env) : Res R := match r with
  | .val d => .ok (.val d) ρ
  | .brw i d => match ρ[i]? with
    | some (some e) => if e.noI then .ok (.brw i d) ρ else (settle r ρ).bind fun d ρ => .ok (.val d) ρ
    | _ => .bad
def frzAll : List R → Env → Env
  | [], ρ => ρ
  | .brw i _ :: rs, ρ => frzAll rs (frzAt i ρ)
  | .val _ :: rs, ρ => frzAll rs ρ
def liveAll : List R → Env → Bool
  | [], _ => true
  | .brw i _ :: rs, ρ => (match ρ[i]? with
    | some (some e) => e.noI
    | _ => false) && liveAll rs ρ
  | .val _ :: rs, ρ => liveAll rs ρ
mutual
/-- no exception in it -/
def D.noX : D → Bool
  | .tup xs => D.noXL xs
  | .lst _ xs => D.noXL xs
  | .ins _ _ xs => D.noXL xs
  | .exn _ _ => false
  | .non => true
  | .bl _ => true
  | .int _ => true
  | .str _ => true
  | .scr _ => true
def D.noXL : List D → Bool
  | [] => true
  | d :: ds => d.noX && D.noXL ds
end
def argsOf (rs : List R) : List D := D.frzL (rs.map R.d)
/-- a call's end -/
def after (rs : List R) (o : Option Out) (ρ : Env) : Res R := match o with
  | none => .bad
  | some (.ret d) => .ok (.val d) (if d.noF then ρ else frzAll rs ρ)
  | some (.exc c xs) => .exc c xs (if D.noFL xs then ρ else frzAll rs ρ)
def callR (h : Bool) (rs : List R) (o : List D → Option Out) (ρ : Env) : Res R :=
  if liveAll rs ρ && (!h || D.noXL (argsOf rs)) then after rs (o (argsOf rs)) ρ else .bad
/-- a property is asked: nothing may be raised -/
def propR (h : Bool) (d : D) (o : List D → Option Out) (ρ : Env) : Res R :=
  if h then .bad else (match o [d.frz] with
    | some (.ret x) => .ok (.val x) ρ
    | _ => .bad)

/-- len of an instance -/
def lenR (h : Bool) (d : D) (o : List D → Option Out) (ρ : Env) : Res R :=
  if h then .bad else (match o [d.frz] with
    | some (.ret (.int n)) => if 0 ≤ n ∧ n < 2 ^ 63 then .ok (.val (.int n)) ρ else .bad
    | _ => .bad)
/-- == of instances of one class -/
def eqiR (h : Bool) (ds : List D) (o : List D → Option Out) (ρ : Env) : Res R :=
  if h then .bad else (match o (D.frzL ds) with
    | some (.ret (.bl b)) => .ok (.val (.bl b)) ρ
    | _ => .bad)
def eqiF (t : Tab) (m : Nat) : D → D → Option Nat
  | .ins _ c _, .ins _ c' _ => if c = c' then t.meth c m else none
  | _, _ => none
/-- truth -/
def truth : D → Option Bool
  | .non => some false
  | .bl b => some b
  | .int i => some (i != 0)
  | .str x => if x.length ≤ sizeLine then some (x.length != 0) else none
  | .lst _ xs => some (!xs.isEmpty)
  | .tup xs => some (!xs.isEmpty)
  | _ => none

def mulOk (i j : Int) : Bool := decide ((-(2 ^ 64) < i ∧ i < 2 ^ 64) ∨ (-(2 ^ 64) < j ∧ j < 2 ^ 64))
def binI (o : Bop) (i j : Int) : Option Int := match o with
  | .add => some (i + j)
  | .sub => some (i - j)
  | .mul => if mulOk i j then some (i * j) else none
  | .fdiv => if 0 < j ∧ j < 1073741824 then some (i / j) else none
  | .mod => if 0 < j then some (i % j) else none
  | .pow => if 0 ≤ j ∧ j ≤ 1000000 ∧ i.natAbs < 2 ^ 64 then some (i ^ j.toNat) else none
/-- a text n times -/
def strRep (x : Str) (n : Nat) : Str := ⟨(List.replicate n x.cps).foldl (· ++ ·) #[]⟩
def binR (o : Bop) (a b : R) (ρ : Env) : Res R := match a.d, b.d with
  | .int i, .int j => (Res.of (binI o i j) ρ).bind fun k ρ => .ok (.val (.int k)) ρ
  | .str x, .str y => if o = .add ∧ x.length + y.length ≤ sizeLine then .ok (.val (.str (x ++ y))) ρ else .bad
  | .lst _ _, .lst _ _ => (elems a ρ).bind fun us ρ => (elems b ρ).bind fun vs ρ => if o = .add ∧ us.length + vs.length ≤ sizeLine then .ok (.val (.lst true (us ++ vs))) ρ else .bad
  | .tup _, .tup _ => match a, b with
    | .val (.tup xs), .val (.tup ys) => if o = .add ∧ xs.length + ys.length ≤ sizeLine then .ok (.val (.tup (xs ++ ys))) ρ else .bad
    | _, _ => .bad
  | .str x, .int k => if o = .mul ∧ (2 ≤ k ∧ k < 2 ^ 63) ∧ (1 ≤ x.length ∧ x.length * k.toNat ≤ sizeLine) ∧ PyData.strOk (strRep x k.toNat) = true then .ok (.val (.str (strRep x k.toNat))) ρ else .bad
  | .lst _ _, .int k => (elems a ρ).bind fun us ρ => if o = .mul ∧ (-(2 ^ 63) ≤ k ∧ k < 2 ^ 63) ∧ us.length * k.toNat ≤ sizeLine then .ok (.val (.lst true (List.replicate k.toNat us).flatten)) ρ else .bad
  | _, _ => .bad

/-- one text within another -/
def strIn (x y : Str) : Bool := !(Builtin.Str.occurrences y x 0 y.length 1).isEmpty
def isData (d : D) : Bool := d.py.isSome
def ordD (f : Int → Int → Bool) (g : Str → Str → Bool) : D → D → Option Bool
  | .int i, .int j => some (f i j)
  | .str x, .str y => some (g x y)
  | _, _ => none
def cmpD (o : Cop) (a b : D) : Option Bool := match o with
  | .eq => if isData a && isData b && decide (a.dep ≤ 64 ∨ b.dep ≤ 64) then some (a.eqv b) else none
  | .ne => if isData a && isData b && decide (a.dep ≤ 64 ∨ b.dep ≤ 64) then some (!a.eqv b) else none
  | .lt => ordD (fun i j => decide (i < j)) (fun x y => decide (x.cps.toList < y.cps.toList)) a b
  | .le => ordD (fun i j => decide (i ≤ j)) (fun x y => !decide (y.cps.toList < x.cps.toList)) a b
  | .gt => ordD (fun i j => decide (j < i)) (fun x y => decide (y.cps.toList < x.cps.toList)) a b
  | .ge => ordD (fun i j => decide (j ≤ i)) (fun x y => !decide (x.cps.toList < y.cps.toList)) a b
  | .isn => match a with
    | .non => some true
    | _ => some false
  | .notn => match a with
    | .non => some false
    | _ => some true
  | .in_ => match b with
    | .lst _ xs => if isData a && isData b && decide (a.dep ≤ 64) then some (xs.any fun x => x.eqv a) else none
    | .tup xs => if isData a && isData b && decide (a.dep ≤ 64) then some (xs.any fun x => x.eqv a) else none
    | .str y => match a with
      | .str x => some (strIn x y)
      | _ => none
    | _ => none
  | .nin => match b with
    | .lst _ xs => if isData a && isData b && decide (a.dep ≤ 64) then some (!xs.any fun x => x.eqv a) else none
    | .tup xs => if isData a && isData b && decide (a.dep ≤ 64) then some (!xs.any fun x => x.eqv a) else none
    | .str y => match a with
      | .str x => some (!strIn x y)
      | _ => none
    | _ => none

def D.ints : List D → Option (List Int)
  | [] => some []
  | .int i :: ds => (D.ints ds).map (i :: ·)
  | _ :: _ => none
def D.bls : List D → Option (List Bool)
  | [] => some []
  | .bl b :: ds => (D.bls ds).map (b :: ·)
  | _ :: _ => none
def D.strs : List D → Option (List Str)
  | [] => some []
  | .str x :: ds => (D.strs ds).map (x :: ·)
  | _ :: _ => none
/-- a list's ints -/
def lstInts : D → Option (List Int)
  | .lst _ xs => D.ints xs
  | .scr ns => some ns
  | _ => none
def seqStrs : D → Option (List Str)
  | .lst _ xs => D.strs xs
  | .tup xs => D.strs xs
  | _ => none
def lenD : D → Option Nat
  | .lst _ xs => some xs.length
  | .tup xs => some xs.length
  | .scr ns => some ns.length
  | .str x => if x.length ≤ sizeLine then some x.length else none
  | _ => none
def maxL : List Int → Option Int
  | [] => none
  | x :: xs => some (xs.foldl max x)
def minL : List Int → Option Int
  | [] => none
  | x :: xs => some (xs.foldl min x)
def insI (x : Int) : List Int → List Int
  | [] => [x]
  | y :: ys => if x ≤ y then x :: y :: ys else y :: insI x ys
def sortI (xs : List Int) : List Int := xs.foldr insI []
/-- a built-in function's plain answer -/
def biD (b : Bi) (ds : List D) : Option D := match b, ds with
  | .len, [d] => (lenD d).map fun (n : Nat) => .int (n : Int)
  | .int, [.int i] => some (.int i)
  | .int, [.bl b] => some (.int (if b then 1 else 0))
  | .int, [.str x] => match PySem.intText? x with
    | some n => if x.length ≤ 640 then some (.int n) else none
    | none => none
  | .str, [.int i] => if i.natAbs.log2 < 1920 then some (.str (toString i)) else none
  | .sum, [d] => (lstInts d).map fun ns => .int ns.sum
  | .any, [.lst _ xs] => (D.bls xs).map fun bs => .bl (bs.any id)
  | .all, [.lst _ xs] => (D.bls xs).map fun bs => .bl (bs.all id)
  | .abs, [.int i] => some (.int (if i < 0 then -i else i))
  | .max, [.int i, .int j] => some (.int (if j > i then j else i))
  | .min, [.int i, .int j] => some (.int (if j < i then j else i))
  | .max, [d] => ((lstInts d).bind maxL).map D.int
  | .min, [d] => ((lstInts d).bind minL).map D.int
  | .sorted, [d] => (lstInts d).map fun ns => .lst true ((sortI ns).map D.int)
  | _, _ => none
def biR (h : Bool) (b : Bi) (rs : List R) (ρ : Env) : Res R := match b, rs with
  | .list, [r] => if h then .bad else (elems r ρ).bind fun xs ρ => .ok (.val (.lst true xs)) ρ
  | .tuple, [r] => if h then .bad else match r.d with
    | .tup _ => .ok r ρ
    | .lst _ _ => (elems r ρ).bind fun xs ρ => .ok (.val (.tup xs)) ρ
    | _ => .bad
  | b, rs => if h && (b != .len && b != .int) then .bad else (Res.of (biD b (rs.map R.d)) ρ).bind fun d ρ => .ok (.val d) ρ
def idxOf (x : D) : List D → Nat → Option Nat
  | [], _ => none
  | y :: ys, k => if y.eqv x then some k else idxOf x ys (k + 1)
def bmD (m : Bm) (o : D) (ds : List D) : Option D := match m, o, ds with
  | .split, .str x, [.str s] => if s.length = 0 ∨ ¬ x.length + 2 ≤ sizeLine then none else some (.lst true ((Txt.split x s).map D.str))
  | .join, .str s, [d] => match seqStrs d with
    | some ys => if (ys.map Str.length).sum + ys.length * s.length ≤ 16777216 then some (.str (Txt.join s ys)) else none
    | none => none
  | .index, .lst _ xs, [x] => if isData (.lst true xs) && isData x && decide (x.dep ≤ 60 ∧ D.depL xs ≤ 60) then (idxOf x xs 0).map fun (k : Nat) => .int (k : Int) else none
  | .indexT, .tup xs, [x] => if isData (.tup xs) && isData x && decide (x.dep ≤ 60 ∧ D.depL xs ≤ 60) then (idxOf x xs 0).map fun (k : Nat) => .int (k : Int) else none
  | .upper, .str x, [] => if x.length ≤ 5592405 ∧ PyData.strOk (Txt.upper x) = true then some (.str (Txt.upper x)) else none
  | _, _, _ => none
def bmT (m : Bm) (d : D) : Bool := match m, d with
  | .index, .lst _ _ => true
  | .index, _ => false
  | .indexT, .tup _ => true
  | .indexT, _ => false
  | _, .str _ => true
  | _, _ => false
def isInst (t : Tab) (d : D) (c : Ic) : Option Bool := match d with
  | .ins _ k _ => t.kit k c
  | .exn k _ => t.xkit k c
  | .int _ => match c with
    | .cls _ => none
    | c => some (c == .int)
  | .bl _ => match c with
    | .cls _ => none
    | c => some (c == .int || c == .bool)
  | .str _ => match c with
    | .cls _ => none
    | c => some (c == .str)
  | .tup _ => match c with
    | .cls _ => none
    | c => some (c == .tuple)
  | .lst _ _ => match c with
    | .cls _ => none
    | c => some (c == .list)
  | .scr _ => none
  | .non => match c with
    | .cls _ => none
    | _ => some false
/-- an item's place, from the front or the back -/
def ixD (n : Nat) (i : Int) : Option Nat := if 0 ≤ i then (if i < n then some i.toNat else none) else if -(n : Int) ≤ i then some (i + n).toNat else none
/-- an item of r: still r's variable's own, where it is no plain value -/
def part (r : R) (x : D) (ρ : Env) : Res R := match r with
  | .val _ => .ok (.val x) ρ
  | .brw i _ => if live i ρ then .ok (if x.imm then .val x else .brw i x) ρ else .bad
def idxR (a b : R) (ρ : Env) : Res R := match a.d, b.d with
  | .lst _ xs, .int i => (Res.of ((ixD xs.length i).bind fun j => xs[j]?) ρ).bind fun x ρ => part a x ρ
  | .tup xs, .int i => (Res.of ((ixD xs.length i).bind fun j => xs[j]?) ρ).bind fun x ρ => part a x ρ
  | .scr ns, .int i => (Res.of ((ixD ns.length i).bind fun j => ns[j]?) ρ).bind fun x ρ => .ok (.val (.int x)) ρ
  | .str z, .int i => if z.length ≤ sizeLine then (Res.of ((ixD z.cps.toList.length i).bind fun j => z.cps.toList[j]?) ρ).bind fun c ρ => .ok (.val (.str ⟨#[c]⟩)) ρ else .bad
  | _, _ => .bad
def clip (n d : Nat) : Option Int → Nat
  | none => d
  | some i => if 0 ≤ i then min i.toNat n else (i + n).toNat
def cutD {α : Type} (xs : List α) (lo hi : Option Int) : List α := (xs.drop (HT.sIx xs.length 0 lo)).take (HT.sIx xs.length xs.length hi - HT.sIx xs.length 0 lo)
def slcR (a : R) (lo hi : Option Int) (ρ : Env) : Res R := match a.d with
  | .lst _ _ => (elems a ρ).bind fun us ρ => .ok (.val (.lst true (cutD us lo hi))) ρ
  | .tup _ => match a with
    | .val (.tup xs) => .ok (.val (.tup (cutD xs lo hi))) ρ
    | _ => .bad
  | .str z => if z.length ≤ sizeLine then .ok (.val (.str (cutS z lo hi))) ρ else .bad
  | _ => .bad
def R.int? : R → Option Int
  | .val (.int i) => some i
  | _ => none

/-- a slice's part -/
def partR : List R → Option (Option Int)
  | [] => some none
  | [r] => r.int?.map some
  | _ => none
/-- what is walked -/
def seqR (r : R) (keep : Nat → Bool) (ρ : Env) : Res (List D) := match r with
  | .val _ => elems r ρ
  | .brw i d => if keep i then elems r ρ else if live i ρ then (match d with
    | .lst _ xs => .ok xs (frzAt i ρ)
    | .tup xs => .ok xs (frzAt i ρ)
    | _ => .bad) else .bad
def iterR (ik : Ik) (rs : List R) (keep : Nat → Bool) (ρ : Env) : Res (List D) := match ik, rs with
  | .plain, [r] => match r.d with
    | .str z => .ok (z.cps.toList.map fun c => .str ⟨#[c]⟩) ρ
    | _ => seqR r keep ρ
  | .range1, [.val (.int n)] => if -(2 ^ 62) ≤ n ∧ n < 2 ^ 62 then .ok ((List.range n.toNat).map fun (k : Nat) => D.int k) ρ else .bad
  | .range2, [.val (.int a), .val (.int b)] => if (-(2 ^ 62) ≤ a ∧ a < 2 ^ 62) ∧ -(2 ^ 62) ≤ b ∧ b < 2 ^ 62 then .ok ((List.range (b - a).toNat).map fun (k : Nat) => D.int (a + k)) ρ else .bad
  | .enum, [r] => match r.d with
    | .lst _ _ => (seqR r keep ρ).bind fun xs ρ => .ok (xs.zipIdx.map fun (p : D × Nat) => D.tup [.int p.2, p.1]) ρ
    | .tup _ => (seqR r keep ρ).bind fun xs ρ => .ok (xs.zipIdx.map fun (p : D × Nat) => D.tup [.int p.2, p.1]) ρ
    | _ => .bad
  | _, _ => .bad
def bindT (tg : Tg) (d : D) (ρ : Env) : Option Env := match tg, d with
  | .nm i, d => some (ρ.set i (some d))
  | .tp is, .tup xs => if is.length = xs.length then some ((is.zip xs).foldl (fun ρ p => ρ.set p.1 (some p.2)) ρ) else none
  | _, _ => none
def wipeE (ρ : Env) (vs : List Nat) : Env := vs.foldl (fun ρ i => ρ.set i none) ρ

/-- a list that is walked where it stands is still there -/
def gdR : List R → Env → Bool
  | [.brw i _], ρ => live i ρ
  | _, _ => true
/-- a comprehension's turns -/
def compL (own : List Nat) (tg : Tg) (test : Env → Res Bool) (elt : Env → Res R) : List D → List D → Env → Res (List D)
  | [], acc, ρ => .ok acc ρ
  | x :: xs, acc, ρ => match bindT tg x ρ with
    | none => .bad
    | some ρ => match test ρ with
      | .ok true ρ => match (elt ρ).bind settle with
        | .ok d ρ => if acc.length < sizeLine then compL own tg test elt xs (acc ++ [d]) (wipeE ρ own) else .bad
        | _ => .bad
      | .ok false ρ => compL own tg test elt xs acc (wipeE ρ own)
      | _ => .bad

def tgs : Tg → List Nat
  | .nm i => [i]
  | .tp is => is
/-- the names of clauses -/
def vsOf : List Cl → List Nat
  | [] => []
  | .mk tg _ _ _ :: r => tgs tg ++ vsOf r
/-- a clause's turns; inner: what is behind it -/
def loopM (vs : List Nat) (tg : Tg) (test : Env → Res Bool) (inner : List D → Env → Res (List D)) : List D → List D → Env → Res (List D)
  | [], acc, ρ => .ok acc ρ
  | x :: xs, acc, ρ => match bindT tg x ρ with
    | none => .bad
    | some ρ => match test ρ with
      | .ok true ρ => match inner acc ρ with
        | .ok acc ρ => loopM vs tg test inner xs acc (wipeE ρ vs)
        | _ => .bad
      | .ok false ρ => loopM vs tg test inner xs acc (wipeE ρ vs)
      | _ => .bad
/-- no variable was emptied -/
def keeps (ρ ρ1 : Env) : Bool := (ρ.zip ρ1).all fun p => p.1.isNone || p.2.isSome
/-- the last clause's item -/
def itemE (r : Res R) (acc : List D) : Res (List D) := match r.bind settle with
  | .ok d ρ => if acc.length < sizeLine then .ok (acc ++ [d]) ρ else .bad
  | _ => .bad
mutual
def evalE (S : Sem) (h : Bool) : Ex → Env → Res R
  | .var i, ρ => match ρ[i]? with
    | some (some (.lst true xs)) => .ok (.brw i (.lst false (D.frzL xs))) ρ
    | some (some (.ins true c xs)) => .ok (.brw i (.ins false c (D.frzL xs))) ρ
    | some (some d) => .ok (.val d) ρ
    | _ => .bad
  | .take i, ρ => match ρ[i]? with
    | some (some d) => .ok (.val d) (ρ.set i none)
    | _ => .bad
  | .non, ρ => .ok (.val .non) ρ
  | .bl b, ρ => .ok (.val (.bl b)) ρ
  | .int i, ρ => .ok (.val (.int i)) ρ
  | .str x, ρ => .ok (.val (.str x)) ρ
  | .glob g, ρ => (Res.of (S.tab.glob g) ρ).bind fun d ρ => .ok (.val d) ρ
  | .bin o a b, ρ => (evalE S h a ρ).bind fun x ρ => (evalE S h b ρ).bind fun y ρ => binR o x y ρ
  | .neg a, ρ => (evalE S h a ρ).bind fun x ρ => match x.d with
    | .int i => .ok (.val (.int (-i))) ρ
    | _ => .bad
  | .not_ a, ρ => (evalT S h a ρ).bind fun b ρ => .ok (.val (.bl (!b))) ρ
  | .bop k es, ρ => evalB S h k es ρ
  | .cmp o a b, ρ => (evalE S h a ρ).bind fun x ρ => (evalE S h b ρ).bind fun y ρ => (Res.of (cmpD o x.d y.d) ρ).bind fun c ρ => .ok (.val (.bl c)) ρ
  | .chain o o' a b c, ρ => (evalE S h a ρ).bind fun x ρ => (evalE S h b ρ).bind fun y ρ => (Res.of (cmpD o x.d y.d) ρ).bind fun k ρ =>
      if k then (evalE S h c ρ).bind fun z ρ => (Res.of (cmpD o' y.d z.d) ρ).bind fun c ρ => .ok (.val (.bl c)) ρ else .ok (.val (.bl false)) ρ
  | .ife c a b, ρ => (evalT S h c ρ).bind fun k ρ => if k then evalE S h a ρ else evalE S h b ρ
  | .call f es, ρ => (evalA S h es ρ).bind fun rs ρ => callR h rs (S.fn h f) ρ
  | .new c es, ρ => (evalA S h es ρ).bind fun rs ρ => callR h rs (S.new h c) ρ
  | .meth m o es, ρ => (evalE S h o ρ).bind fun r ρ => (settle r ρ).bind fun d ρ => match d with
    | .ins _ c _ => match S.tab.meth c m with
      | some f => (evalA S h es ρ).bind fun rs ρ => callR h (.val d :: rs) (S.fn h f) ρ
      | none => .bad
    | _ => .bad
  | .fld a f, ρ => (evalE S h a ρ).bind fun r ρ => match r.d with
    | .ins _ c xs => match S.tab.prop c f with
      | some g => (settle r ρ).bind fun d ρ => propR h d (S.fn h g) ρ
      | none => (Res.of (((S.tab.fields c).idxOf? f).bind fun k => xs[k]?) ρ).bind fun x ρ => part r x ρ
    | .exn c xs => (Res.of (((S.tab.xf c).idxOf? f).bind fun k => xs[k]?) ρ).bind fun x ρ => part r x ρ
    | _ => .bad
  | .leni m a, ρ => (evalE S h a ρ).bind fun r ρ => match r.d with
    | .ins _ c _ => match S.tab.meth c m with
      | some g => (settle r ρ).bind fun d ρ => lenR h d (S.fn h g) ρ
      | none => .bad
    | _ => .bad
  | .eqi m a b, ρ => (evalE S h a ρ).bind fun x ρ => (settle x ρ).bind fun da ρ => (evalE S h b ρ).bind fun y ρ => (settle y ρ).bind fun db ρ => match eqiF S.tab m da db with
      | some f => eqiR h [da, db] (S.fn h f) ρ
      | none => .bad
  | .bi b es, ρ => (evalEs S h es ρ).bind fun rs ρ => biR h b rs ρ
  | .bm m o es, ρ => (evalE S h o ρ).bind fun r ρ => if bmT m r.d then (evalEs S h es ρ).bind fun rs ρ => (Res.of (bmD m r.d (rs.map R.d)) ρ).bind fun d ρ => .ok (.val d) ρ else .bad
  | .isin a c, ρ => (evalE S h a ρ).bind fun r ρ => (Res.of (isInst S.tab r.d c) ρ).bind fun b ρ => .ok (.val (.bl b)) ρ
  | .idx a b, ρ => (evalE S h a ρ).bind fun x ρ => (evalE S h b ρ).bind fun y ρ => idxR x y ρ
  | .slc a lo hi, ρ => (evalE S h a ρ).bind fun x ρ => (evalEs S h lo ρ).bind fun l ρ => (Res.of (partR l) ρ).bind fun i ρ => (evalEs S h hi ρ).bind fun u ρ => (Res.of (partR u) ρ).bind fun j ρ => slcR x i j ρ
  | .lst es, ρ => (evalK S h es ρ).bind fun ds ρ => if ds.length ≤ sizeLine then .ok (.val (.lst true ds)) ρ else .bad
  | .tup es, ρ => (evalK S h es ρ).bind fun ds ρ => if ds.length ≤ sizeLine then .ok (.val (.tup (D.frzL ds))) ρ else .bad
  | .comp own elt tg ik ie cs, ρ => if h then .bad else (evalEs S h ie ρ).bind fun rs ρ => (iterR ik rs (fun _ => true) ρ).bind fun items ρ =>
      (compL own tg (evalC S h cs) (evalE S h elt) items [] (wipeE ρ own)).bind fun acc ρ => .ok (.val (.lst true acc)) ρ
  | .box a, ρ => (evalE S h a ρ).bind fun r ρ1 => match r with
    | .val d => if d.imm then .ok (.val d) ρ else if (d.noF && d.noI && d.noX && keeps ρ ρ1) = true then .ok (.val d) ρ else .bad
    | _ => .bad
  | .compM own elt tg ik ie cs rest, ρ => if h then .bad else (evalEs S h ie ρ).bind fun rs ρ => (iterR ik rs (fun _ => true) ρ).bind fun items ρ =>
      (loopM own tg (evalC S h cs) (evalM S h rest fun acc ρ => itemE (evalE S h elt ρ) acc) items [] (wipeE ρ own)).bind fun acc ρ => .ok (.val (.lst true acc)) ρ
/-- the clauses behind the first -/
def evalM (S : Sem) (h : Bool) : List Cl → (List D → Env → Res (List D)) → List D → Env → Res (List D)
  | [], inner, acc, ρ => inner acc ρ
  | .mk tg ik ie cs :: rest, inner, acc, ρ => (evalEs S h ie ρ).bind fun rs ρ => (iterR ik rs (fun _ => true) ρ).bind fun items ρ =>
      loopM (tgs tg ++ vsOf rest) tg (evalC S h cs) (evalM S h rest inner) items acc (wipeE ρ (tgs tg ++ vsOf rest))
/-- a test -/
def evalT (S : Sem) (h : Bool) : Tx → Env → Res Bool
  | .not_ a, ρ => (evalT S h a ρ).bind fun b ρ => .ok (!b) ρ
  | .bop k es, ρ => evalBT S h k es ρ
  | .ife c a b, ρ => (evalT S h c ρ).bind fun k ρ => if k then evalT S h a ρ else evalT S h b ρ
  | .e e, ρ => (evalE S h e ρ).bind fun r ρ => Res.of (truth r.d) ρ
/-- values in a row -/
def evalEs (S : Sem) (h : Bool) : List Ex → Env → Res (List R)
  | [], ρ => .ok [] ρ
  | e :: es, ρ => (evalE S h e ρ).bind fun r ρ => (evalEs S h es ρ).bind fun rs ρ => .ok (r :: rs) ρ
/-- arguments -/
def evalA (S : Sem) (h : Bool) : List Ex → Env → Res (List R)
  | [], ρ => .ok [] ρ
  | e :: es, ρ => (evalE S h e ρ).bind fun r ρ => (argR r ρ).bind fun r ρ => (evalA S h es ρ).bind fun rs ρ => .ok (r :: rs) ρ
/-- kept values in a row -/
def evalK (S : Sem) (h : Bool) : List Ex → Env → Res (List D)
  | [], ρ => .ok [] ρ
  | e :: es, ρ => (evalE S h e ρ).bind fun r ρ => (settle r ρ).bind fun d ρ => (evalK S h es ρ).bind fun ds ρ => .ok (d :: ds) ρ
/-- and, or -/
def evalB (S : Sem) (h : Bool) (k : Bool) : List Ex → Env → Res R
  | [], _ => .bad
  | [e], ρ => evalE S h e ρ
  | e :: e' :: es, ρ => (evalE S h e ρ).bind fun r ρ => (Res.of (truth r.d) ρ).bind fun b ρ => if b = k then evalB S h k (e' :: es) ρ else .ok r ρ
/-- .. as a test -/
def evalBT (S : Sem) (h : Bool) (k : Bool) : List Tx → Env → Res Bool
  | [], ρ => .ok k ρ
  | e :: es, ρ => (evalT S h e ρ).bind fun b ρ => if b = k then evalBT S h k es ρ else .ok b ρ
/-- a comprehension's ifs -/
def evalC (S : Sem) (h : Bool) : List Tx → Env → Res Bool
  | [], ρ => .ok true ρ
  | [e], ρ => evalT S h e ρ
  | _, _ => .bad
end

/-- an own item by its path -/
def getAt : List Int → D → Option D
  | [], d => some d
  | i :: is, .lst true xs => (ixD xs.length i).bind fun j => (xs[j]?).bind fun x => getAt is x
  | _ :: _, _ => none
def okAt (i : Nat) (is : List Int) (ρ : Env) : Bool := match ρ[i]? with
  | some (some d) => (getAt is d).isSome
  | _ => false
def okL (i : Nat) (is : List Int) (ρ : Env) : Bool := match ρ[i]? with
  | some (some d) => (match getAt is d with
    | some (.lst true _) => true
    | _ => false)
  | _ => false
/-- a path's numbers, each read behind the one ahead of it; what is reached so far is a list -/
def evalP (S : Sem) (h : Bool) (i : Nat) : List Ex → List Int → Env → Res (List Int)
  | [], acc, ρ => if okAt i acc ρ then .ok acc ρ else .bad
  | p :: ps, acc, ρ => if okL i acc ρ then (evalE S h p ρ).bind fun r ρ => match r.int? with
    | some k => evalP S h i ps (acc ++ [k]) ρ
    | none => .bad
    else .bad

/-! ### statements -/
abbrev SRes := Option (Fl × Env)
def Res.toS {α : Type} (r : Res α) (k : α → Env → SRes) : SRes := match r with
  | .bad => none
  | .ok a ρ => k a ρ
  | .exc c xs ρ => some (.ex c xs, ρ)
@[simp] theorem Res.toS_bad {α : Type} (k : α → Env → SRes) : (Res.bad : Res α).toS k = none := rfl
@[simp] theorem Res.toS_ok {α : Type} (a : α) (ρ : Env) (k : α → Env → SRes) : (Res.ok a ρ).toS k = k a ρ := rfl
@[simp] theorem Res.toS_exc {α : Type} (c : Nat) (xs : List D) (ρ : Env) (k : α → Env → SRes) : (Res.exc c xs ρ : Res α).toS k = some (.ex c xs, ρ) := rfl

def augI (o : Bop) (a b : Int) : Option Int := match o with
  | .add => some (a + b)
  | .sub => some (a - b)
  | _ => none
/-- d with the own list at the path changed -/
def atPath (f : D → Option D) : List Int → D → Option D
  | [], d => f d
  | i :: is, .lst true xs => (ixD xs.length i).bind fun j => (xs[j]?).bind fun x => (atPath f is x).map fun y => .lst true (xs.set j y)
  | _, _ => none
def setItem (i : Int) (v : D) : D → Option D
  | .lst true xs => (ixD xs.length i).map fun j => .lst true (xs.set j v)
  | _ => none
/-- the list at place k grows by ys -/
def addItem (k : Int) (ys : List D) : D → Option D
  | .lst true xs => (ixD xs.length k).bind fun n => match xs[n]? with
    | some (.lst true zs) => some (.lst true (xs.set n (.lst true (zs ++ ys))))
    | _ => none
  | _ => none
def okN (i : Nat) (is : List Int) (n : Nat) (ρ : Env) : Bool := match ρ[i]? with
  | some (some d) => (match getAt is d with
    | some (.lst true xs) => decide (xs.length + n ≤ sizeLine)
    | _ => false)
  | _ => false
def appItem (v : D) : D → Option D
  | .lst true xs => if xs.length < sizeLine then some (.lst true (xs ++ [v])) else none
  | _ => none
/-- self.f = d: the fields come in the order of the table -/
def fldItem (t : Tab) (f : Nat) (d : D) : D → Option D
  | .ins true c xs => match (t.fields c).idxOf? f with
    | some k => if k < xs.length then some (.ins true c (xs.set k d)) else if k = xs.length then some (.ins true c (xs ++ [d])) else none
    | none => none
  | _ => none
/-- x.pop(k), k from the front -/
def popItem (k : Int) : D → Option (D × D)
  | .lst true xs => if 0 ≤ k ∧ k < xs.length ∧ k < 1000000 then (xs[k.toNat]?).map fun x => (x, .lst true (xs.eraseIdx k.toNat)) else none
  | _ => none
/-- the variable at i changed -/
def updAt (i : Nat) (f : D → Option D) (ρ : Env) : Option Env := match ρ[i]? with
  | some (some d) => (f d).map fun d' => ρ.set i (some d')
  | _ => none
/-- stands for: the first variable is bound anew -/
def big : Nat := 1000000
def rbs (is : List Nat) : List Nat := is ++ (if is.contains 0 then [big] else [])
mutual
/-- the variables that a statement may store to or change -/
def stores : Sx → List Nat
  | .set i _ => rbs [i]
  | .unp is _ => rbs is
  | .sset i _ _ => [i]
  | .sadd i _ _ _ _ => [i]
  | .sfld _ _ => [0]
  | .app i _ _ => [i]
  | .apop i j _ => [i, j]
  | .aug i _ _ => rbs [i]
  | .ite _ a b => storesL a ++ storesL b
  | .for_ tg _ _ b => rbs (tgs tg) ++ storesL b
  | .while_ _ b => storesL b
  | .try_ b _ j s => storesL b ++ (rbs j.toList ++ storesL s)
  | .ex _ => []
  | .ret _ => []
  | .ret0 => []
  | .raise_ _ _ => []
  | .brk => []
  | .cont => []
  | .pass => []
def storesL : List Sx → List Nat
  | [] => []
  | s :: ss => stores s ++ storesL ss
end
/-- a for's turns -/
def forL (g : Env → Bool) (tg : Tg) (body : Env → SRes) : List D → Env → SRes
  | [], ρ => if g ρ then some (.nx, ρ) else none
  | x :: xs, ρ => if g ρ then (bindT tg x ρ).bind fun ρ => (body ρ).bind fun r => match r with
    | (.nx, ρ) => forL g tg body xs ρ
    | (.ct, ρ) => forL g tg body xs ρ
    | (.bk, ρ) => some (.nx, ρ)
    | r => some r
    else none
/-- a while's turns, n at most -/
def whileN (test : Env → Res Bool) (body : Env → SRes) : Nat → Env → SRes
  | 0, _ => none
  | n + 1, ρ => (test ρ).toS fun b ρ => if b then (body ρ).bind fun r => match r with
    | (.nx, ρ) => whileN test body n ρ
    | (.ct, ρ) => whileN test body n ρ
    | (.bk, ρ) => some (.nx, ρ)
    | r => some r
    else some (.nx, ρ)
open Classical in
noncomputable def whileL (test : Env → Res Bool) (body : Env → SRes) (ρ : Env) : SRes :=
  if h : ∃ n, (whileN test body n ρ).isSome then whileN test body h.choose ρ else none
theorem whileN_more {test : Env → Res Bool} {body : Env → SRes} : ∀ {n : Nat} {ρ : Env} {r : Fl × Env}, whileN test body n ρ = some r → whileN test body (n + 1) ρ = some r
  | 0, ρ, r, h => by simp [whileN] at h
  | n + 1, ρ, r, h => by
    rw [whileN] at h ⊢
    cases q : test ρ with
    | bad => rw [q] at h; simp at h
    | exc c xs ρ' => rw [q] at h; exact h
    | ok b ρ' =>
      rw [q] at h
      simp only [Res.toS_ok] at h ⊢
      cases b with
      | false => exact h
      | true =>
        simp only [if_true] at h ⊢
        cases q2 : body ρ' with
        | none => rw [q2] at h; simp at h
        | some r2 =>
          rw [q2] at h
          simp only [Option.bind_some] at h ⊢
          obtain ⟨f, ρ2⟩ := r2
          cases f with
          | nx => exact whileN_more h
          | ct => exact whileN_more h
          | bk => exact h
          | rt d => exact h
          | ex c xs => exact h
theorem whileN_le {test : Env → Res Bool} {body : Env → SRes} {n m : Nat} {ρ : Env} {r : Fl × Env} (hn : n ≤ m) (h : whileN test body n ρ = some r) : whileN test body m ρ = some r := by
  induction hn with
  | refl => exact h
  | step _ ih => exact whileN_more ih
theorem whileL_of {test : Env → Res Bool} {body : Env → SRes} {n : Nat} {ρ : Env} {r : Fl × Env} (h : whileN test body n ρ = some r) : whileL test body ρ = some r := by
  have hx : ∃ n, (whileN test body n ρ).isSome := ⟨n, by rw [h]; rfl⟩
  unfold whileL
  rw [dif_pos hx]
  obtain ⟨r', hr⟩ := Option.isSome_iff_exists.mp hx.choose_spec
  rw [hr]
  rcases Nat.le_total n hx.choose with q | q
  · rw [whileN_le q h] at hr; exact hr.symm
  · rw [whileN_le q hr] at h; exact h
theorem whileL_some {test : Env → Res Bool} {body : Env → SRes} {ρ : Env} {r : Fl × Env} (h : whileL test body ρ = some r) : ∃ n, whileN test body n ρ = some r := by
  unfold whileL at h
  split at h
  · exact ⟨_, h⟩
  · cases h

mutual
noncomputable def evalS (S : Sem) (h : Bool) : Sx → Env → SRes
  | .set i e, ρ => ((evalE S h e ρ).bind settle).toS fun d ρ => if h && !d.noX then none else some (.nx, ρ.set i (some d))
  | .unp is e, ρ => if h then none else (evalE S h e ρ).toS fun r ρ => match r with
    | .val (.tup xs) => (bindT (.tp is) (.tup xs) ρ).map fun ρ => (.nx, ρ)
    | _ => none
  | .sset i path e, ρ => if h then none else ((evalE S h e ρ).bind settle).toS fun d ρ => (evalP S h i path [] ρ).toS fun is ρ => match is.reverse with
    | [] => none
    | k :: rest => (updAt i (atPath (setItem k d) rest.reverse) ρ).map fun ρ => (.nx, ρ)
  | .sadd i path1 path pk e, ρ => if h then none else (evalP S h i path1 [] ρ).toS fun is1 ρ => if okL i is1 ρ then ((evalE S h e ρ).bind settle).toS fun d ρ => match d with
      | .lst true ys => if okN i is1 ys.length ρ then (evalP S h i path [] ρ).toS fun is ρ => if okL i is ρ then (evalE S h pk ρ).toS fun r ρ => match r.int? with
          | some k => if is1 = is ++ [k] ∧ okAt i is1 ρ = true then (updAt i (atPath (addItem k ys) is) ρ).map fun ρ => (.nx, ρ) else none
          | none => none
        else none
        else none
      | _ => none
    else none
  | .sfld f e, ρ => if h then none else ((evalE S h e ρ).bind settle).toS fun d ρ => (updAt 0 (fldItem S.tab f d) ρ).map fun ρ => (.nx, ρ)
  | .app i path e, ρ => if h then none else (evalP S h i path [] ρ).toS fun is ρ => if okL i is ρ then ((evalE S h e ρ).bind settle).toS fun d ρ => (updAt i (atPath (appItem d) is) ρ).map fun ρ => (.nx, ρ) else none
  | .apop i j e, ρ => if h then none else if !(okL i [] ρ && okL j [] ρ) then none else (evalE S h e ρ).toS fun r ρ => r.int?.bind fun k => if i = j then none else match ρ[j]? with
    | some (some d) => (popItem k d).bind fun p => (updAt i (appItem p.1) (ρ.set j (some p.2))).map fun ρ => (.nx, ρ)
    | _ => none
  | .aug i o e, ρ => match ρ[i]? with
    | some (some (.int a)) => (evalE S h e ρ).toS fun r ρ => r.int?.bind fun b => (augI o a b).map fun k => (.nx, ρ.set i (some (.int k)))
    | _ => none
  | .ex e, ρ => (evalE S h e ρ).toS fun _ ρ => some (.nx, ρ)
  | .ret e, ρ => ((evalE S h e ρ).bind settle).toS fun d ρ => some (.rt d, ρ)
  | .ret0, ρ => some (.rt .non, ρ)
  | .ite c a b, ρ => (evalT S h c ρ).toS fun k ρ => if k then evalSs S h a ρ else evalSs S h b ρ
  | .for_ tg ik ie body, ρ => if h && (ik != .range1) then none else (evalEs S h ie ρ).toS fun rs ρ => (iterR ik rs (fun i => !(rbs (tgs tg) ++ storesL body).contains i) ρ).toS fun items ρ =>
      forL (gdR rs) tg (evalSs S h body) items ρ
  | .while_ c body, ρ => whileL (evalT S h c) (evalSs S h body) ρ
  | .raise_ c es, ρ => if h then none else (evalK S h es ρ).toS fun ds ρ => if ds.length = (S.tab.xf c).length then some (.ex c (D.frzL ds.reverse), ρ) else none
  | .try_ body c j suite, ρ => if h then none else (evalSs S h body ρ).bind fun r => match r with
    | (.ex c' xs, ρ) => (S.tab.exm c' c).bind fun b => if b then (match j with
        | some j => (evalSs S true suite (ρ.set j (some (.exn c' xs)))).bind fun r => match r with
          | (.ex _ _, _) => none
          | (.rt d, ρ) => if d.noX then some (.rt d, ρ.set j none) else none
          | (f, ρ) => some (f, ρ.set j none)
        | none => (evalSs S true suite ρ).bind fun r => match r with
          | (.ex _ _, _) => none
          | (.rt d, ρ) => if d.noX then some (.rt d, ρ) else none
          | r => some r) else some (.ex c' xs, ρ)
    | r => some r
  | .brk, ρ => some (.bk, ρ)
  | .cont, ρ => some (.ct, ρ)
  | .pass, ρ => some (.nx, ρ)
noncomputable def evalSs (S : Sem) (h : Bool) : List Sx → Env → SRes
  | [], ρ => some (.nx, ρ)
  | s :: ss, ρ => (evalS S h s ρ).bind fun r => match r with
    | (.nx, ρ) => evalSs S h ss ρ
    | r => some r
end

structure FnD where
  ps : Nat
  n : Nat
  body : List Sx
noncomputable def runBody (S : Sem) (h : Bool) (fd : FnD) (ds : List D) : Option Out :=
  if ds.length = fd.ps then match evalSs S h fd.body (ds.map some ++ List.replicate (fd.n - ds.length) none) with
    | some (.nx, _) => some (.ret .non)
    | some (.rt d, _) => some (.ret d)
    | some (.ex c xs, _) => some (.exc c xs)
    | _ => none
  else none
noncomputable def runInit (S : Sem) (h : Bool) (fd : FnD) (c : Nat) (ds : List D) : Option Out :=
  if ds.length + 1 = fd.ps then match evalSs S h fd.body (some (.ins true c []) :: (ds.map some ++ List.replicate (fd.n - (ds.length + 1)) none)) with
    | some (.nx, some (.ins true c' xs) :: _) => if c' = c then some (.ret (.ins true c xs)) else none
    | some (.ex c xs, _) => some (.exc c xs)
    | _ => none
  else none
structure Prog where
  tab : Tab
  fns : Nat → Option FnD
  /-- the __init__ of a plain class -/
  init : Nat → Option Nat
  /-- defs that may be called while an exception is handled -/
  hot : Nat → Bool
noncomputable def semN (P : Prog) : Nat → Sem
  | 0 => ⟨fun _ _ _ => none, fun _ _ _ => none, P.tab⟩
  | n + 1 => ⟨fun h f ds => if h && !P.hot f then none else (P.fns f).bind fun fd => runBody (semN P n) h fd ds,
      fun h c ds => if h then none else (P.init c).bind fun f => (P.fns f).bind fun fd => runInit (semN P n) false fd c ds, P.tab⟩
end SL
set_option Elab.async false
set_option linter.all false
set_option maxRecDepth 100000
/-! SLPost: a frame's values in the heap, and what a step leaves of them. -/
namespace SL
open PySem L2

inductive EnvR (w : Wd) (F H : Hp) : St → Env → List (List Addr) → Prop
  | nil : EnvR w F H [] [] []
  | no {o σ ρ As} : EnvR w F H σ ρ As → EnvR w F H (o :: σ) (none :: ρ) ([] :: As)
  | yes {v d A σ ρ As} : Rep w F H v d A → EnvR w F H σ ρ As → EnvR w F H (some v :: σ) (some d :: ρ) (A :: As)

/-- how often an address is owned -/
abbrev own (As : List (List Addr)) (a : Addr) : Nat := As.flatten.count a
theorem own_cons (A : List Addr) (As : List (List Addr)) (a : Addr) : own (A :: As) a = A.count a + own As a := by
  simp [own, List.count_append]
theorem own_get {As : List (List Addr)} {A : List Addr} {i : Nat} (h : As[i]? = some A) (a : Addr) : A.count a ≤ own As a := by
  induction As generalizing i with
  | nil => simp at h
  | cons B As ih =>
    rw [own_cons]
    cases i with
    | zero => simp at h; subst h; omega
    | succ i => have := ih (by simpa using h); omega
theorem own_set {As : List (List Addr)} {A B : List Addr} {i : Nat} (h : As[i]? = some A) (a : Addr) : own (As.set i B) a + A.count a = own As a + B.count a := by
  induction As generalizing i with
  | nil => simp at h
  | cons E As ih =>
    cases i with
    | zero => simp at h; subst h; simp only [List.set_cons_zero, own_cons]; omega
    | succ i => have := ih (by simpa using h); simp only [List.set_cons_succ, own_cons]; omega

section
variable {w : Wd} {F H F' H' F2 H2 : Hp} {σ : St} {ρ ρ' ρ2 : Env} {As As' As2 : List (List Addr)} {C C2 : List Addr}

theorem EnvR.mono (r : EnvR w F H σ ρ As) (s : Same F F') (h : ∀ a, 0 < own As a → H' a = H a) : EnvR w F' H' σ ρ As := by
  induction r with
  | nil => exact .nil
  | no _ ih => exact .no (ih fun a q => h a (by rw [own_cons]; simpa using q))
  | yes k _ ih => exact .yes (k.mono s fun a q => h a (by rw [own_cons]; omega)) (ih fun a q => h a (by rw [own_cons]; omega))
theorem EnvR.get {i : Nat} {d : D} (r : EnvR w F H σ ρ As) (h : ρ[i]? = some (some d)) : ∃ v A, σ[i]? = some (some v) ∧ As[i]? = some A ∧ Rep w F H v d A := by
  induction r generalizing i with
  | nil => simp at h
  | no _ ih =>
    cases i with
    | zero => simp at h
    | succ i => simpa using ih (by simpa using h)
  | @yes v e A _ _ _ k _ ih =>
    cases i with
    | zero => simp at h; subst h; exact ⟨v, A, rfl, rfl, k⟩
    | succ i => simpa using ih (by simpa using h)
theorem EnvR.len (r : EnvR w F H σ ρ As) : σ.length = ρ.length ∧ As.length = ρ.length := by
  induction r <;> simp_all
theorem EnvR.at (r : EnvR w F H σ ρ As) {i : Nat} (h : i < ρ.length) : ∃ A, As[i]? = some A := by
  have := r.len.2
  exact ⟨As[i]'(by omega), List.getElem?_eq_getElem _⟩
/-- the place is given another value -/
theorem EnvR.set {i : Nat} {v : V} {d : D} {A : List Addr} (r : EnvR w F H σ ρ As) (k : Rep w F H v d A) : EnvR w F H (σ.set i (some v)) (ρ.set i (some d)) (As.set i A) := by
  induction r generalizing i with
  | nil => exact .nil
  | no r ih =>
    cases i with
    | zero => exact .yes k r
    | succ i => exact .no ih
  | yes k' r ih =>
    cases i with
    | zero => exact .yes k r
    | succ i => exact .yes k' ih
theorem EnvR.del {i : Nat} {o : Option V} (r : EnvR w F H σ ρ As) : EnvR w F H (σ.set i o) (ρ.set i none) (As.set i []) := by
  induction r generalizing i with
  | nil => exact .nil
  | no r ih =>
    cases i with
    | zero => exact .no r
    | succ i => exact .no ih
  | yes k' r ih =>
    cases i with
    | zero => exact .no r
    | succ i => exact .yes k' ih
/-- the place's value as it stands, by another view of it -/
theorem EnvR.view {i : Nat} {v : V} {d : D} {A : List Addr} (r : EnvR w F H σ ρ As) (h : σ[i]? = some (some v)) (k : Rep w F H v d A) : EnvR w F H σ (ρ.set i (some d)) (As.set i A) := by
  have e : σ.set i (some v) = σ := by
    apply List.ext_getElem?
    intro j
    by_cases hj : i = j
    · subst hj
      obtain ⟨hl, _⟩ := List.getElem?_eq_some_iff.mp h
      rw [List.getElem?_set_self hl, h]
    · rw [List.getElem?_set_ne hj]
  have := r.set (i := i) k
  rwa [e] at this
theorem EnvR.drop {i : Nat} (r : EnvR w F H σ ρ As) : EnvR w F H σ (ρ.set i none) (As.set i []) := by
  induction r generalizing i with
  | nil => exact .nil
  | no r ih =>
    cases i with
    | zero => exact .no r
    | succ i => exact .no ih
  | yes k' r ih =>
    cases i with
    | zero => exact .no r
    | succ i => exact .yes k' ih

structure Pre (w : Wd) (F H : Hp) (σ : St) (ρ : Env) (As : List (List Addr)) : Prop where
  same : Same F H
  env : EnvR w F H σ ρ As
  uni : ∀ a, own As a ≤ 1
  off : ∀ a, 0 < own As a → F a = none
theorem EnvR.there (r : EnvR w F H σ ρ As) : ∀ a, 0 < own As a → ∃ o, H a = some o ∧ MutO o := by
  induction r with
  | nil => intro a h; simp [own] at h
  | no _ ih => intro a h; exact ih a (by rw [own_cons] at h; simpa using h)
  | @yes v d A _ _ _ k _ ih =>
    intro a h
    rw [own_cons] at h
    by_cases q : 0 < A.count a
    · exact k.own a q
    · exact ih a (by omega)

/-- a variable behind a step: as it was; frozen; given away -/
def SlotR (F' : Hp) (ρ ρ' : Env) (As As' : List (List Addr)) (i : Nat) : Prop :=
  (ρ'[i]? = ρ[i]? ∧ As'[i]? = As[i]?) ∨
  (∃ d A, ρ[i]? = some (some d) ∧ As[i]? = some A ∧ ρ'[i]? = some (some d.frz) ∧ As'[i]? = some [] ∧ ∀ a, 0 < A.count a → F' a ≠ none) ∨
  (ρ'[i]? = some none ∧ As'[i]? = some [])

/-- what an expression leaves, beside an owned result C -/
structure Post (w : Wd) (σ : St) (F H : Hp) (ρ : Env) (As : List (List Addr)) (F' H' : Hp) (ρ' : Env) (As' : List (List Addr)) (C : List Addr) : Prop where
  sF : Same F F'
  sH : Same H H'
  same : Same F' H'
  env : EnvR w F' H' σ ρ' As'
  uni : ∀ a, own As' a + C.count a ≤ 1
  off : ∀ a, 0 < own As' a + C.count a → F' a = none
  old : ∀ a, 0 < own As' a + C.count a → 0 < own As a ∨ H a = none
  new : ∀ a, F a = none → F' a ≠ none → 0 < own As a ∨ H a = none
  there : ∀ a, 0 < own As' a + C.count a → H' a ≠ none
  slots : ∀ i, SlotR F' ρ ρ' As As' i

theorem Post.pre (p : Post w σ F H ρ As F' H' ρ' As' C) : Pre w F' H' σ ρ' As' :=
  ⟨p.same, p.env, fun a => by have := p.uni a; omega, fun a h => p.off a (by omega)⟩
theorem Pre.post (p : Pre w F H σ ρ As) : Post w σ F H ρ As F H ρ As [] where
  sF := Same.refl F
  sH := Same.refl H
  same := p.same
  env := p.env
  uni := fun a => by simpa using p.uni a
  off := fun a h => p.off a (by simpa using h)
  old := fun a h => .inl (by simpa using h)
  new := fun a h1 h2 => absurd h1 h2
  there := fun a h => by obtain ⟨o, e, _⟩ := p.env.there a (by simpa using h); rw [e]; simp
  slots := fun i => .inl ⟨rfl, rfl⟩
theorem frzL_frzL : ∀ ds : List D, D.frzL (D.frzL ds) = D.frzL ds
  | [] => rfl
  | d :: ds => by
    rw [D.frzL, D.frzL, frzL_frzL ds]
    congr 1
    cases d <;> simp only [D.frz]
    · rw [frzL_frzL]
    · rw [frzL_frzL]
theorem frz_frz (d : D) : d.frz.frz = d.frz := by
  cases d <;> simp only [D.frz, frzL_frzL]
theorem same_no {a : Addr} (s : Same H H') (h : H a ≠ none) : H' a ≠ none := by
  cases e : H a with
  | none => exact absurd e h
  | some o => rw [s a o e]; simp
theorem SlotR.trans {i : Nat} (sF : Same F' F2) (p : SlotR F' ρ ρ' As As' i) (q : SlotR F2 ρ' ρ2 As' As2 i) : SlotR F2 ρ ρ2 As As2 i := by
  rcases p with ⟨p1, p2⟩ | ⟨d, A, p1, p2, p3, p4, p5⟩ | ⟨p1, p2⟩
  · rcases q with ⟨q1, q2⟩ | ⟨d, A, q1, q2, q3, q4, q5⟩ | ⟨q1, q2⟩
    · exact .inl ⟨q1.trans p1, q2.trans p2⟩
    · exact .inr (.inl ⟨d, A, p1 ▸ q1, p2 ▸ q2, q3, q4, q5⟩)
    · exact .inr (.inr ⟨q1, q2⟩)
  · rcases q with ⟨q1, q2⟩ | ⟨d', A', q1, q2, q3, q4, q5⟩ | ⟨q1, q2⟩
    · exact .inr (.inl ⟨d, A, p1, p2, q1.trans p3, q2.trans p4, fun a h => same_no sF (p5 a h)⟩)
    · rw [p3] at q1
      have e := Option.some.inj (Option.some.inj q1)
      subst e
      exact .inr (.inl ⟨d, A, p1, p2, by rw [q3, frz_frz], q4, fun a h => same_no sF (p5 a h)⟩)
    · exact .inr (.inr ⟨q1, q2⟩)
  · rcases q with ⟨q1, q2⟩ | ⟨d', A', q1, q2, q3, q4, q5⟩ | ⟨q1, q2⟩
    · exact .inr (.inr ⟨q1.trans p1, q2.trans p2⟩)
    · rw [p1] at q1; cases q1
    · exact .inr (.inr ⟨q1, q2⟩)
/-- one step, then another -/
theorem Post.trans {w : Wd} (p : Post w σ F H ρ As F' H' ρ' As' C) (q : Post w σ F' H' ρ' As' F2 H2 ρ2 As2 C2) : Post w σ F H ρ As F2 H2 ρ2 As2 (C ++ C2) where
  sF := p.sF.trans q.sF
  sH := p.sH.trans q.sH
  same := q.same
  env := q.env
  uni := fun a => by
    rw [List.count_append]
    have h1 := p.uni a; have h2 := q.uni a
    by_cases hc : 0 < C.count a
    · have h3 := p.there a (by omega)
      have h4 : ¬ 0 < own As2 a + C2.count a := fun h => (q.old a h).elim (fun z => by omega) fun z => h3 z
      omega
    · omega
  off := fun a h => by
    rw [List.count_append] at h
    have h1 := p.uni a; have h2 := q.uni a
    by_cases hc : 0 < C.count a
    · have h3 := p.there a (by omega)
      have h5 := p.off a (by omega)
      cases e : F2 a with
      | none => rfl
      | some o => exact ((q.new a h5 (by rw [e]; simp)).elim (fun z => by omega) fun z => absurd z h3)
    · exact q.off a (by omega)
  old := fun a h => by
    rw [List.count_append] at h
    by_cases hc : 0 < C.count a
    · exact p.old a (by omega)
    · rcases q.old a (by omega) with z | z
      · exact p.old a (by omega)
      · cases e : H a with
        | none => exact .inr rfl
        | some o => rw [p.sH a o e] at z; cases z
  new := fun a h1 h2 => by
    by_cases e : F' a = none
    · rcases q.new a e h2 with z | z
      · exact p.old a (by omega)
      · cases e : H a with
        | none => exact .inr rfl
        | some o => rw [p.sH a o e] at z; cases z
    · exact p.new a h1 e
  there := fun a h => by
    rw [List.count_append] at h
    by_cases hc : 0 < C.count a
    · exact same_no q.sH (p.there a (by omega))
    · exact q.there a (by omega)
  slots := fun i => (p.slots i).trans q.sF (q.slots i)

/-- the frozen part with the addresses of A as they stand -/
def ov (F H : Hp) (A : List Addr) : Hp := fun a => if 0 < A.count a then H a else F a
theorem ov_nil : ov F H [] = F := by funext a; simp [ov]

/-- a result in the heap -/
inductive RepR (w : Wd) (F H : Hp) (ρ : Env) (As : List (List Addr)) : V → R → List Addr → Prop
  | val {v d C} : Rep w F H v d C → RepR w F H ρ As v (.val d) C
  | brw {v i d} : Rep w H H v d [] → (∀ A e, As[i]? = some A → ρ[i]? = some (some e) → Rep w (ov F H A) H v d []) → RepR w F H ρ As v (.brw i d) []
/-- what a result of before asks of a step -/
structure Lift (F H : Hp) (ρ : Env) (As : List (List Addr)) (F' H' : Hp) (ρ' : Env) (As' : List (List Addr)) : Prop where
  sF : Same F F'
  sH : Same H H'
  same : Same F' H'
  slots : ∀ i, SlotR F' ρ ρ' As As' i
theorem Post.lift {w : Wd} (p : Post w σ F H ρ As F' H' ρ' As' C) : Lift F H ρ As F' H' ρ' As' := ⟨p.sF, p.sH, p.same, p.slots⟩
theorem Lift.trans (p : Lift F H ρ As F' H' ρ' As') (q : Lift F' H' ρ' As' F2 H2 ρ2 As2) : Lift F H ρ As F2 H2 ρ2 As2 :=
  ⟨p.sF.trans q.sF, p.sH.trans q.sH, q.same, fun i => (p.slots i).trans q.sF (q.slots i)⟩
theorem RepR.lift {v : V} {r : R} {C0 : List Addr} (k : RepR w F H ρ As v r C0) (p : Lift F H ρ As F' H' ρ' As') (h0 : ∀ a, 0 < C0.count a → H a ≠ none) : RepR w F' H' ρ' As' v r C0 := by
  cases k with
  | val k => exact .val (k.mono p.sF fun a h => by
      cases e : H a with
      | none => exact absurd e (h0 a h)
      | some o => exact p.sH a o e)
  | @brw i d k1 k2 =>
    refine .brw (k1.mono p.sH (by simp)) fun A e hA he => ?_
    rcases p.slots i with ⟨p1, p2⟩ | ⟨d', A', p1, p2, p3, p4, p5⟩ | ⟨p1, p2⟩
    · refine (k2 A e (p2 ▸ hA) (p1 ▸ he)).mono (fun a o h => ?_) (by simp)
      unfold ov at h ⊢
      split at h
      · rename_i hc; rw [if_pos hc]; exact p.sH a o h
      · rename_i hc; rw [if_neg hc]; exact p.sF a o h
    · rw [p4] at hA; cases hA
      rw [ov_nil]
      refine (k2 A' d' p2 p1).mono (fun a o h => ?_) (by simp)
      unfold ov at h
      split at h
      · rename_i hc
        cases e2 : F' a with
        | none => exact absurd e2 (p5 a hc)
        | some u =>
          have h1 := p.sH a o h
          have h2 := p.same a u e2
          rw [h1] at h2
          cases h2
          rfl
      · exact p.sF a o h
    · rw [p1] at he; cases he

/-- a variable is frozen -/
theorem Pre.freeze {w : Wd} {i : Nat} {e : D} {A : List Addr} (p : Pre w F H σ ρ As) (he : ρ[i]? = some (some e)) (hA : As[i]? = some A) :
    Post w σ F H ρ As (ov F H A) H (ρ.set i (some e.frz)) (As.set i []) [] := by
  have nA : ∀ a o, F a = some o → A.count a = 0 := fun a o h => by
    have h1 := own_get hA a
    cases q : A.count a with
    | zero => rfl
    | succ n => rw [p.off a (by omega)] at h; cases h
  have sF : Same F (ov F H A) := fun a o h => by unfold ov; rw [if_neg (by rw [nA a o h]; omega)]; exact h
  have sm : Same (ov F H A) H := fun a o h => by
    unfold ov at h
    split at h
    · exact h
    · exact p.same a o h
  obtain ⟨v, A', hv, hA', k⟩ := p.env.get he
  rw [hA] at hA'; cases hA'
  have env : EnvR w (ov F H A) H σ (ρ.set i (some e.frz)) (As.set i []) := by
    refine (p.env.mono sF fun _ _ => rfl).view hv ?_
    have := k.frz (G := ov F H A) (H' := H) sF fun a h => by unfold ov; rw [if_pos h]
    simpa [D.frzL] using this
  have le : ∀ a, own (As.set i []) a + A.count a = own As a := fun a => by have := own_set (B := []) hA a; simpa using this
  refine ⟨sF, Same.refl H, sm, env, fun a => ?_, fun a h => ?_, fun a h => ?_, fun a h1 h2 => ?_, fun a h => ?_, fun j => ?_⟩
  · have := le a; have := p.uni a; simp only [List.count_nil]; omega
  · simp only [List.count_nil, Nat.add_zero] at h
    have h1 := le a; have h2 := p.uni a
    unfold ov; rw [if_neg (by omega)]; exact p.off a (by omega)
  · simp only [List.count_nil, Nat.add_zero] at h; have h1 := le a; exact .inl (by omega)
  · unfold ov at h2
    split at h2
    · rename_i hc; have := own_get hA a; exact .inl (by omega)
    · exact absurd h1 h2
  · simp only [List.count_nil, Nat.add_zero] at h
    obtain ⟨o, e, _⟩ := env.there a h
    rw [e]; simp
  · by_cases hj : i = j
    · subst hj
      have hl : i < ρ.length := (List.getElem?_eq_some_iff.mp he).1
      have hl2 : i < As.length := (List.getElem?_eq_some_iff.mp hA).1
      refine .inr (.inl ⟨e, A, he, hA, by simp [hl], by simp [hl2], fun a h => ?_⟩)
      unfold ov; rw [if_pos h]
      obtain ⟨o, e2, _⟩ := k.own a h
      rw [e2]; simp
    · exact .inl ⟨by simp [hj], by simp [hj]⟩
theorem frzAt_of {i : Nat} {e : D} (h : ρ[i]? = some (some e)) : frzAt i ρ = ρ.set i (some e.frz) := by
  unfold frzAt; rw [h]
theorem live_of {i : Nat} (h : live i ρ = true) : ∃ e, ρ[i]? = some (some e) := by
  unfold live at h
  split at h
  · rename_i e he; exact ⟨e, he⟩
  · cases h
/-- a temporary is frozen (B), the others stay (C') -/
theorem Post.shed {w : Wd} {B C' : List Addr} (p : Post w σ F H ρ As F' H' ρ' As' C) (hc : ∀ a, B.count a + C'.count a ≤ C.count a) :
    Post w σ F H ρ As (ov F' H' B) H' ρ' As' C' ∧ Lift F' H' ρ' As' (ov F' H' B) H' ρ' As' := by
  have nA : ∀ a o, F' a = some o → B.count a = 0 := fun a o h => by
    cases q : B.count a with
    | zero => rfl
    | succ n => have := hc a; rw [p.off a (by omega)] at h; cases h
  have sF : Same F' (ov F' H' B) := fun a o h => by unfold ov; rw [if_neg (by rw [nA a o h]; omega)]; exact h
  have sm : Same (ov F' H' B) H' := fun a o h => by
    unfold ov at h
    split at h
    · exact h
    · exact p.same a o h
  refine ⟨⟨p.sF.trans sF, p.sH, sm, p.env.mono sF fun _ _ => rfl, fun a => ?_, fun a h => ?_, fun a h => ?_, fun a h1 h2 => ?_, fun a h => ?_, fun i => ?_⟩, sF, Same.refl _, sm, fun i => .inl ⟨rfl, rfl⟩⟩
  · have := p.uni a; have := hc a; omega
  · have h1 := p.uni a; have h2 := hc a
    have h3 : B.count a = 0 := by omega
    unfold ov; rw [if_neg (by omega)]; exact p.off a (by omega)
  · have := hc a; exact p.old a (by omega)
  · unfold ov at h2
    split at h2
    · have := hc a; exact p.old a (by omega)
    · exact p.new a h1 h2
  · have := hc a; exact p.there a (by omega)
  · exact (p.slots i).trans sF (.inl ⟨rfl, rfl⟩)
theorem Post.weak {w : Wd} {C' : List Addr} (p : Post w σ F H ρ As F' H' ρ' As' C) (hc : ∀ a, C'.count a ≤ C.count a) : Post w σ F H ρ As F' H' ρ' As' C' := by
  have := (p.shed (B := []) (C' := C') fun a => by simpa using hc a).1
  rwa [ov_nil] at this

/-- what a brw's value stands on, its variable being alive -/
theorem brw_at {w : Wd} {v : V} {i : Nat} {d : D} {C0 : List Addr} (p : Pre w F H σ ρ As) (k : RepR w F H ρ As v (.brw i d) C0) (l : live i ρ = true) :
    ∃ e A, ρ[i]? = some (some e) ∧ As[i]? = some A ∧ Rep w (ov F H A) H v d [] ∧ C0 = [] ∧ ∀ a, 0 < A.count a → ∃ o, H a = some o ∧ MutO o := by
  obtain ⟨e, he⟩ := live_of l
  obtain ⟨v', A, hv, hA, k'⟩ := p.env.get he
  cases k with
  | brw k1 k2 => exact ⟨e, A, he, hA, k2 A e hA he, rfl, k'.own⟩
theorem ov_imm {A : List Addr} (h : ∀ a, 0 < A.count a → ∃ o, H a = some o ∧ MutO o) : ∀ a o, ov F H A a = some o → ¬ MutO o → F a = some o := fun a o e n => by
  unfold ov at e
  split at e
  · rename_i hc
    obtain ⟨o', e', m⟩ := h a hc
    rw [e] at e'; cases e'; exact absurd m n
  · exact e
theorem settle_ok {w : Wd} {v : V} {r : R} {d : D} {C0 : List Addr} (p : Pre w F H σ ρ As) (k : RepR w F H ρ As v r C0) (e : settle r ρ = .ok d ρ') :
    ∃ F' As', Post w σ F H ρ As F' H ρ' As' [] ∧ Rep w F' H v d C0 := by
  cases r with
  | val x =>
    simp only [settle, Res.ok.injEq] at e
    obtain ⟨rfl, rfl⟩ := e
    cases k with
    | val k => exact ⟨F, As, p.post, k⟩
  | brw i x =>
    simp only [settle] at e
    split at e
    · rename_i l
      obtain ⟨e', A, he, hA, k', rfl, m⟩ := brw_at p k l
      simp only [Res.ok.injEq] at e
      obtain ⟨rfl, e⟩ := e
      split at e
      · rename_i im
        subst e
        refine ⟨F, As, p.post, ?_⟩
        exact (k'.immC (by simp [D.immL, im]) (ov_imm m)).1
      · subst e
        rw [frzAt_of he]
        exact ⟨_, _, p.freeze he hA, k'⟩
    · cases e
end
end SL
set_option Elab.async false
set_option linter.all false
set_option maxRecDepth 100000
/-! SLOps: what the operations do to a frame's values in the heap. -/
namespace SL
open PySem L2
section
variable {w : Wd} {F H F' H' F0 H0 : Hp} {σ : St} {ρ ρ' ρ0 : Env} {As As' As0 : List (List Addr)} {C C1 C2 Ct : List Addr} {v : V} {r : R}

theorem RepR.view (k : RepR w F H ρ As v r C) (s : Same F H) : Rep w H H v r.d C := by
  cases k with
  | val k => exact k.mono s fun _ _ => rfl
  | brw k _ => exact k
theorem RepR.there (k : RepR w F H ρ As v r C) : ∀ a, 0 < C.count a → H a ≠ none := by
  intro a h
  cases k with
  | val k => obtain ⟨o, e, _⟩ := k.own a h; rw [e]; simp
  | brw _ _ => simp at h

/-- a new object that is owned -/
theorem Post.alloc {q : Addr} {o : HO} (p : Post w σ F0 H0 ρ0 As0 F H ρ As C) (hq : H q = none) : Post w σ F0 H0 ρ0 As0 F (upd H q o) ρ As (q :: C) := by
  have nF : F q = none := by
    cases e : F q with
    | none => rfl
    | some u => rw [p.same q u e] at hq; cases hq
  have nH0 : H0 q = none := by
    cases e : H0 q with
    | none => rfl
    | some u => rw [p.sH q u e] at hq; cases hq
  have no : own As q + C.count q = 0 := by
    cases e : own As q + C.count q with
    | zero => rfl
    | succ n => exact absurd hq (p.there q (by omega))
  have sH : Same H (upd H q o) := fun a u h => by rw [upd_ne (ne_of_none h hq)]; exact h
  refine ⟨p.sF, p.sH.trans sH, p.same.trans sH, p.env.mono (Same.refl _) fun a h => upd_ne fun e => by subst e; omega, fun a => ?_, fun a h => ?_, fun a h => ?_, p.new, fun a h => ?_, p.slots⟩
  · have := p.uni a
    rw [List.count_cons]
    by_cases e : q = a
    · subst e; simp; omega
    · simp [e]; exact this
  · rw [List.count_cons] at h
    by_cases e : q = a
    · subst e; exact nF
    · simp [e] at h; exact p.off a (by simpa using h)
  · rw [List.count_cons] at h
    by_cases e : q = a
    · subst e; exact .inr nH0
    · simp [e] at h; exact p.old a (by simpa using h)
  · rw [List.count_cons] at h
    by_cases e : q = a
    · subst e; rw [upd_same]; simp
    · simp [e] at h; rw [upd_ne (Ne.symm e)]; exact p.there a (by simpa using h)
/-- a new object that never changes -/
theorem Post.allocF {q : Addr} {o : HO} (p : Post w σ F0 H0 ρ0 As0 F H ρ As C) (hq : H q = none) : Post w σ F0 H0 ρ0 As0 (upd F q o) (upd H q o) ρ As C ∧ Lift F H ρ As (upd F q o) (upd H q o) ρ As := by
  have nF : F q = none := by
    cases e : F q with
    | none => rfl
    | some u => rw [p.same q u e] at hq; cases hq
  have nH0 : H0 q = none := by
    cases e : H0 q with
    | none => rfl
    | some u => rw [p.sH q u e] at hq; cases hq
  have no : own As q + C.count q = 0 := by
    cases e : own As q + C.count q with
    | zero => rfl
    | succ n => exact absurd hq (p.there q (by omega))
  have sH : Same H (upd H q o) := fun a u h => by rw [upd_ne (ne_of_none h hq)]; exact h
  have sF : Same F (upd F q o) := fun a u h => by rw [upd_ne (ne_of_none h nF)]; exact h
  have sm : Same (upd F q o) (upd H q o) := fun a u h => by
    by_cases e : a = q
    · subst e; rw [upd_same] at h ⊢; exact h
    · rw [upd_ne e] at h ⊢; exact p.same a u h
  refine ⟨⟨p.sF.trans sF, p.sH.trans sH, sm, p.env.mono sF fun a h => upd_ne fun e => by subst e; omega, p.uni, fun a h => ?_, p.old, fun a h1 h2 => ?_, fun a h => same_no sH (p.there a h), fun i => (p.slots i).trans sF (.inl ⟨rfl, rfl⟩)⟩, sF, sH, sm, fun i => .inl ⟨rfl, rfl⟩⟩
  · have e : a ≠ q := fun e => by subst e; omega
    rw [upd_ne e]; exact p.off a h
  · by_cases e : a = q
    · subst e; exact .inr nH0
    · rw [upd_ne e] at h2; exact p.new a h1 h2

/-- where a sequence's items stand -/
def SeqV (K : PySem.W.Frag) (H : Hp) (a : Addr) (ws : List V) : D → Prop
  | .lst _ _ => H a = some (.lst ws)
  | .tup _ => SqT K H a ws
  | .scr _ => SqL K H a ws
  | _ => False
theorem repInts {F H : Hp} (ns : List Int) : RepL w F H (ns.map V.int) (ns.map D.int) [] := by
  induction ns with
  | nil => exact .nil
  | cons n ns ih => exact .int ih

theorem elems_ok {xs : List D} {C' : List Addr} (p : Post w σ F0 H0 ρ0 As0 F H ρ As Ct) (k : RepR w F H ρ As v r C1) (hc : ∀ a, C1.count a + C'.count a ≤ Ct.count a) (e : elems r ρ = .ok xs ρ') :
    ∃ F' As' a ws, Post w σ F0 H0 ρ0 As0 F' H ρ' As' C' ∧ Lift F H ρ As F' H ρ' As' ∧ v = .ref a ∧ RepL w F' H ws xs [] ∧ SeqV w.K H a ws r.d := by
  cases r with
  | val d =>
    cases k with
    | val k =>
      cases d with
      | lst o ys =>
        simp only [elems, Res.ok.injEq] at e
        obtain ⟨e, rfl⟩ := e
        cases k with
        | lstF h1 h2 h3 =>
          cases h3
          simp only [Bool.false_eq_true, if_false] at e
          subst e
          have q := p.shed (B := []) (C' := C') fun a => by have := hc a; simp at this ⊢; exact this
          rw [ov_nil] at q
          exact ⟨_, _, _, _, q.1, q.2, rfl, h2, p.same _ _ h1⟩
        | @lstO a ws _ _ _ _ B h1 h2 h3 =>
          cases h3
          simp only [if_true] at e
          subst e
          have q := p.shed (B := B) (C' := C') fun a => by have := hc a; simp only [List.count_cons, List.append_nil] at this ⊢; omega
          exact ⟨_, _, _, _, q.1, q.2, rfl, h2.frz q.2.sF fun a h => by unfold ov; rw [if_pos h], h1⟩
      | tup ys =>
        simp only [elems, Res.ok.injEq] at e
        obtain ⟨rfl, rfl⟩ := e
        cases k with
        | tup h1 h2 h3 =>
          cases h3
          have q := p.shed (B := []) (C' := C') fun a => by have := hc a; simp at this ⊢; exact this
          rw [ov_nil] at q
          exact ⟨_, _, _, _, q.1, q.2, rfl, h2, sqT_mono p.same h1⟩
      | scr ns =>
        simp only [elems, Res.ok.injEq] at e
        obtain ⟨rfl, rfl⟩ := e
        cases k with
        | scr h1 h3 =>
          cases h3
          have q := p.shed (B := []) (C' := C') fun a => by have := hc a; simp at this ⊢; exact this
          rw [ov_nil] at q
          exact ⟨_, _, _, _, q.1, q.2, rfl, repInts ns, Same.seq p.same h1.sql⟩
      | non => simp [elems] at e
      | bl b => simp [elems] at e
      | int i => simp [elems] at e
      | str x => simp [elems] at e
      | ins o c ys => simp [elems] at e
      | exn c ys => simp [elems] at e
  | brw i d =>
    have fin : ∀ (ys : List D), (if live i ρ = true then Res.ok ys (if D.immL ys = true then ρ else frzAt i ρ) else Res.bad) = Res.ok xs ρ' →
        (∀ G : Hp, Rep w G H v d [] → Same G H → ∃ a ws, v = .ref a ∧ RepL w G H ws ys [] ∧ SeqV w.K H a ws d) →
        ∃ F' As' a ws, Post w σ F0 H0 ρ0 As0 F' H ρ' As' C' ∧ Lift F H ρ As F' H ρ' As' ∧ v = .ref a ∧ RepL w F' H ws xs [] ∧ SeqV w.K H a ws d := by
      intro ys q0 sub
      have l : live i ρ = true := by
        cases l : live i ρ with
        | true => rfl
        | false => rw [l] at q0; cases q0
      rw [if_pos l] at q0
      simp only [Res.ok.injEq] at q0
      obtain ⟨rfl, q0⟩ := q0
      obtain ⟨e', A, he, hA, k', rfl, m⟩ := brw_at p.pre k l
      have q := p.shed (B := []) (C' := C') fun a => by have := hc a; simp at this ⊢; exact this
      rw [ov_nil] at q
      obtain ⟨a, ws, rfl, k2, sv⟩ := sub _ k' (p.pre.freeze he hA).same
      by_cases im : D.immL ys = true
      · rw [if_pos im] at q0
        subst q0
        exact ⟨_, _, a, ws, q.1, q.2, rfl, (k2.immC im (ov_imm m)).1, sv⟩
      · rw [if_neg im] at q0
        subst q0
        rw [frzAt_of he]
        have f := p.pre.freeze he hA
        have t := (q.1.trans f).weak (C' := C') fun a => by simp
        exact ⟨_, _, a, ws, t, f.lift, rfl, k2, sv⟩
    cases d with
    | lst o ys =>
      refine fin ys (by simpa [elems] using e) fun G kG s => ?_
      cases kG with
      | lstF h1 h2 h3 => exact ⟨_, _, rfl, h2, s _ _ h1⟩
    | tup ys =>
      refine fin ys (by simpa [elems] using e) fun G kG s => ?_
      cases kG with
      | tup h1 h2 h3 => exact ⟨_, _, rfl, h2, sqT_mono s h1⟩
    | non => simp [elems] at e
    | bl b => simp [elems] at e
    | int i => simp [elems] at e
    | str x => simp [elems] at e
    | scr x => simp [elems] at e
    | ins o c ys => simp [elems] at e
    | exn c ys => simp [elems] at e
theorem elems_ne : ∀ c xs ρ', elems r ρ ≠ .exc c xs ρ' := by
  intro c xs ρ' z
  cases r with
  | val d => cases d <;> simp [elems] at z
  | brw i d => cases d <;> simp [elems] at z <;> split at z <;> cases z
theorem settle_ne : ∀ c xs ρ', settle r ρ ≠ .exc c xs ρ' := by
  intro c xs ρ' z
  cases r with
  | val d => simp [settle] at z
  | brw i d => simp only [settle] at z; split at z <;> cases z
end
end SL
set_option Elab.async false
set_option linter.all false
set_option maxRecDepth 100000
/-! SLFin: what is wanted of an evaluation's end; readings of slim expressions. -/
namespace SL
open PySem L2

/-- an exception in the frozen part -/
def RepX (w : Wd) (F : Hp) (c : Nat) (xs : List D) (d : Option Addr) : Prop := match d with
  | some dd => ∃ ws, F dd = some (.xd ((w.fn c).zip ws)) ∧ ws.length ≤ (w.fn c).length ∧ RepL w F F ws xs []
  | none => xs = []
abbrev RP (β α : Type) := Hp → Hp → Env → List (List Addr) → β → α → List Addr → Prop
def Fin {β α : Type} (rp : RP β α) (w : Wd) (σ : St) (W : WX) (F H : Hp) (ρ : Env) (As : List (List Addr)) (m : Res α) (Q : β → Hp → Prop) : Prop :=
  match m with
  | .bad => False
  | .ok r ρ' => ∀ v F' H' As' C, Post w σ F H ρ As F' H' ρ' As' C → rp F' H' ρ' As' v r C → Q v H'
  | .exc c xs ρ' => ∀ d F' H' As', Post w σ F H ρ As F' H' ρ' As' [] → RepX w F' c xs d → W (.ref (w.ca c)) d σ H'

/-- results in a row -/
inductive RepRs (w : Wd) (F H : Hp) (ρ : Env) (As : List (List Addr)) : List V → List R → List Addr → Prop
  | nil : RepRs w F H ρ As [] [] []
  | cons {v r C vs rs C'} : RepR w F H ρ As v r C → RepRs w F H ρ As vs rs C' → RepRs w F H ρ As (v :: vs) (r :: rs) (C ++ C')
def rpR (w : Wd) : RP V R := fun F H ρ As v r C => RepR w F H ρ As v r C
def rpRs (w : Wd) : RP (List V) (List R) := fun F H ρ As vs rs C => RepRs w F H ρ As vs rs C
def rpD (w : Wd) : RP V D := fun F H _ _ v d C => Rep w F H v d C
def rpDs (w : Wd) : RP (List V) (List D) := fun F H _ _ vs ds C => RepL w F H vs ds C
def rpB : RP Bool Bool := fun _ _ _ _ b b' C => b = b' ∧ C = []

section
variable {w : Wd} {F H F1 H1 F2 H2 : Hp} {σ : St} {ρ ρ1 ρ2 : Env} {As As1 As2 : List (List Addr)} {C C1 C2 : List Addr} {W : WX}
theorem RepRs.lift {vs : List V} {rs : List R} (k : RepRs w F H ρ As vs rs C) (p : Lift F H ρ As F1 H1 ρ1 As1) : RepRs w F1 H1 ρ1 As1 vs rs C := by
  induction k with
  | nil => exact .nil
  | cons k _ ih => exact .cons (k.lift p k.there) ih
theorem RepRs.view {vs : List V} {rs : List R} (k : RepRs w F H ρ As vs rs C) (s : Same F H) : RepL w H H vs (rs.map R.d) C := by
  induction k with
  | nil => exact .nil
  | cons k _ ih => exact RepL.cons (k.view s) ih
theorem Fin.bind {β α β' α' : Type} {rp : RP β α} {rp' : RP β' α'} {m : Res α} {k : α → Env → Res α'} {Q : β' → Hp → Prop} {Q1 : β → Hp → Prop}
    (p : Post w σ F H ρ As F1 H1 ρ1 As1 C1) (h : Fin rp' w σ W F H ρ As (m.bind k) Q)
    (go : ∀ r ρ2 v F2 H2 As2 C2, m = .ok r ρ2 → Post w σ F H ρ As F2 H2 ρ2 As2 (C1 ++ C2) → Post w σ F1 H1 ρ1 As1 F2 H2 ρ2 As2 C2 → rp F2 H2 ρ2 As2 v r C2 → Fin rp' w σ W F H ρ As (k r ρ2) Q → Q1 v H2) :
    Fin rp w σ W F1 H1 ρ1 As1 m Q1 := by
  cases m with
  | bad => exact h
  | ok r ρ2 => exact fun v F2 H2 As2 C2 q kr => go r ρ2 v F2 H2 As2 C2 rfl (p.trans q) q kr h
  | exc c xs ρ2 => exact fun d F2 H2 As2 q x => h d F2 H2 As2 ((p.trans q).weak fun a => by simp) x
/-- from the start -/
theorem Fin.bind0 {β α β' α' : Type} {rp : RP β α} {rp' : RP β' α'} {m : Res α} {k : α → Env → Res α'} {Q : β' → Hp → Prop} {Q1 : β → Hp → Prop}
    (h : Fin rp' w σ W F H ρ As (m.bind k) Q)
    (go : ∀ r ρ2 v F2 H2 As2 C2, m = .ok r ρ2 → Post w σ F H ρ As F2 H2 ρ2 As2 C2 → rp F2 H2 ρ2 As2 v r C2 → Fin rp' w σ W F H ρ As (k r ρ2) Q → Q1 v H2) :
    Fin rp w σ W F H ρ As m Q1 := by
  cases m with
  | bad => exact h
  | ok r ρ2 => exact fun v F2 H2 As2 C2 q kr => go r ρ2 v F2 H2 As2 C2 rfl q kr h
  | exc c xs ρ2 => exact h
/-- a total step -/
theorem Fin.of_ok {β α α' : Type} {rp : RP β α} {m : Res α'} {k : α' → Env → Res α} {Q : β → Hp → Prop} (h : Fin rp w σ W F H ρ As (m.bind k) Q) (hx : ∀ c xs ρ', m ≠ .exc c xs ρ') : ∃ a ρ', m = .ok a ρ' ∧ Fin rp w σ W F H ρ As (k a ρ') Q := by
  cases m with
  | bad => exact h.elim
  | ok a ρ' => exact ⟨a, ρ', rfl, h⟩
  | exc c xs ρ' => exact absurd rfl (hx c xs ρ')
theorem Res.of_ne {α : Type} (o : Option α) (ρ : Env) : ∀ c xs ρ', (Res.of o ρ) ≠ .exc c xs ρ' := by
  intro c xs ρ'
  cases o <;> simp
theorem Fin.ofO {β α α' : Type} {rp : RP β α} {o : Option α'} {k : α' → Env → Res α} {Q : β → Hp → Prop} {ρ' : Env} (h : Fin rp w σ W F H ρ As ((Res.of o ρ').bind k) Q) : ∃ a, o = some a ∧ Fin rp w σ W F H ρ As (k a ρ') Q := by
  cases o with
  | none => exact h.elim
  | some a => exact ⟨a, rfl, h⟩
end

/-! ### readings -/
section
variable (S : Sem) (h : Bool) (w : Wd) (W : WX)
def tEv (s : Ex) : TE := fun σ H Q => ∃ F ρ As, Pre w F H σ ρ As ∧ Fin (rpR w) w σ W F H ρ As (evalE S h s ρ) Q
def tTv (s : Tx) : TT := fun σ H Q => ∃ F ρ As, Pre w F H σ ρ As ∧ Fin rpB w σ W F H ρ As (evalT S h s ρ) Q
def tEvs (ss : List Ex) : TA := fun σ H Q => ∃ F ρ As, Pre w F H σ ρ As ∧ Fin (rpRs w) w σ W F H ρ As (evalEs S h ss ρ) Q
def tAv (ss : List Ex) : TA := fun σ H Q => ∃ F ρ As, Pre w F H σ ρ As ∧ Fin (rpRs w) w σ W F H ρ As (evalA S h ss ρ) Q
def tKv (ss : List Ex) : TA := fun σ H Q => ∃ F ρ As, Pre w F H σ ρ As ∧ Fin (rpDs w) w σ W F H ρ As (evalK S h ss ρ) Q
def tBv (k : Bool) (ss : List Ex) : TE := fun σ H Q => ∃ F ρ As, Pre w F H σ ρ As ∧ Fin (rpR w) w σ W F H ρ As (evalB S h k ss ρ) Q
def tBTv (k : Bool) (ss : List Tx) : TT := fun σ H Q => ∃ F ρ As, Pre w F H σ ρ As ∧ Fin rpB w σ W F H ρ As (evalBT S h k ss ρ) Q
end
theorem PE.of {X : Cx} {e : Expr} {t t' : TE} (h : PE X e t) (k : ∀ σ H Q, t' σ H Q → t σ H Q) : PE X e t' := ⟨fun pins s σ H Q I q => h.run pins s σ H Q I (k _ _ _ q)⟩
theorem PT.of {X : Cx} {e : Expr} {t t' : TT} (h : PT X e t) (k : ∀ σ H Q, t' σ H Q → t σ H Q) : PT X e t' := ⟨fun pins s σ H Q I q => h.run pins s σ H Q I (k _ _ _ q)⟩
theorem PW.of {X : Cx} {e : Expr} {t t' : TT} (h : PW X e t) (k : ∀ σ H Q, t' σ H Q → t σ H Q) : PW X e t' := ⟨fun wh pins s σ H Q I q => h.run wh pins s σ H Q I (k _ _ _ q)⟩
theorem PA.of {X : Cx} {es : List Expr} {t t' : TA} (h : PA X es t) (k : ∀ σ H Q, t' σ H Q → t σ H Q) : PA X es t' := ⟨fun pos pins s σ H Q I q => h.run pos pins s σ H Q I (k _ _ _ q)⟩
theorem PS.of {X : Cx} {st : Stmt} {t t' : TS} (h : PS X st t) (k : ∀ D σ H, t' D σ H → t D σ H) : PS X st t' := ⟨fun pins s σ H D I q => h.run pins s σ H D I (k _ _ _ q)⟩
theorem PSs.of {X : Cx} {st : List Stmt} {t t' : TS} (h : PSs X st t) (k : ∀ D σ H, t' D σ H → t D σ H) : PSs X st t' := ⟨fun pins s σ H D I q => h.run pins s σ H D I (k _ _ _ q)⟩
end SL
set_option Elab.async false
set_option linter.all false
set_option maxRecDepth 100000
/-! SLSnd1: names, constants, operators, comparisons, truth. -/
namespace SL
open PySem L2
section
variable {S : Sem} {h : Bool} {w : Wd} {W : WX} {X : Cx} {pos : Pos}

theorem fin_val {rp : RP V R} {F H F2 H2 : Hp} {σ : St} {ρ ρ2 : Env} {As As2 : List (List Addr)} {C2 C : List Addr} {d : D} {v : V} {Q : VK}
    (q : Fin (rpR w) w σ W F H ρ As (.ok (.val d) ρ2) Q) (p : Post w σ F H ρ As F2 H2 ρ2 As2 C2) (k : Rep w F2 H2 v d C) (hc : ∀ a, C.count a ≤ C2.count a) : Q v H2 :=
  q v F2 H2 As2 C (p.weak hc) (.val k)

theorem snd_non {j : Nat} : PE X (.Constant .none j pos) (tEv S h w W .non) := PE.of pe_non fun σ H Q ⟨F, ρ, As, p, q⟩ => fin_val (rp := rpR w) q p.post (.non .nil) (fun _ => Nat.le_refl _)
theorem snd_bl {b : Bool} {j : Nat} : PE X (.Constant (.bool b) j pos) (tEv S h w W (.bl b)) := PE.of pe_bl fun σ H Q ⟨F, ρ, As, p, q⟩ => fin_val (rp := rpR w) q p.post (.bl .nil) (fun _ => Nat.le_refl _)
theorem snd_int {i : Int} {j : Nat} : PE X (.Constant (.int i) j pos) (tEv S h w W (.int i)) := PE.of pe_int fun σ H Q ⟨F, ρ, As, p, q⟩ => fin_val (rp := rpR w) q p.post (.int .nil) (fun _ => Nat.le_refl _)
theorem snd_str {x : Str} {j : Nat} (hx : PyData.strOk x = true) : PE X (.Constant (.str x) j pos) (tEv S h w W (.str x)) := PE.of pe_str fun σ H Q ⟨F, ρ, As, p, q⟩ => fin_val (rp := rpR w) q p.post (.str hx .nil) (fun _ => Nat.le_refl _)

theorem own_some {a : Addr} : ∀ {As : List (List Addr)}, 0 < own As a → ∃ (i : Nat) (A : List Addr), As[i]? = some A ∧ 0 < A.count a
  | [], h => by simp [own] at h
  | A :: As, h => by
    rw [own_cons] at h
    by_cases q : 0 < A.count a
    · exact ⟨0, A, rfl, q⟩
    · obtain ⟨i, B, h1, h2⟩ := own_some (a := a) (As := As) (by omega)
      exact ⟨i + 1, B, by simpa using h1, h2⟩
theorem env_some {F H : Hp} {σ : St} {ρ : Env} {As : List (List Addr)} {a : Addr} (r : EnvR w F H σ ρ As) : ∀ {i : Nat} {A : List Addr}, As[i]? = some A → 0 < A.count a → ∃ d, ρ[i]? = some (some d) := by
  induction r with
  | nil => intro i A h; simp at h
  | no _ ih =>
    intro i A h m
    cases i with
    | zero => simp at h; subst h; simp at m
    | succ i => exact ih (by simpa using h) m
  | yes _ _ ih =>
    intro i A h m
    cases i with
    | zero => exact ⟨_, rfl⟩
    | succ i => exact ih (by simpa using h) m
theorem keeps_at : ∀ {ρ ρ1 : Env} {i : Nat} {d : D}, keeps ρ ρ1 = true → ρ[i]? = some (some d) → ρ1[i]? = some none → False
  | [], _, i, d, _, h, _ => by simp at h
  | x :: ρ, [], i, d, _, _, h => by simp at h
  | x :: ρ, y :: ρ1, 0, d, k, h1, h2 => by
    simp at h1 h2
    subst h1 h2
    simp [keeps] at k
  | x :: ρ, y :: ρ1, i + 1, d, k, h1, h2 => by
    have k' : keeps ρ ρ1 = true := by
      simp only [keeps, List.zip_cons_cons, List.all_cons, Bool.and_eq_true] at k
      exact k.2
    exact keeps_at k' (by simpa using h1) (by simpa using h2)
/-- neither frozen list nor instance in it: what is not the library's may be forgotten -/
theorem RepL.thaw2 {F H G : Hp} {vs : List V} {ds : List D} {A : List Addr} (r : RepL w F H vs ds A) (n : D.noFL ds = true) (ni : D.noIL ds = true) (nx : D.noXL ds = true) (s : ∀ a o, F a = some o → ¬ MutO o → G a = some o) : RepL w G H vs ds A := by
  induction r with
  | nil => exact .nil
  | non _ ih => exact .non (ih (by simpa [D.noFL, D.noF] using n) (by simpa [D.noIL, D.noI] using ni) (by simpa [D.noXL, D.noX] using nx))
  | bl _ ih => exact .bl (ih (by simpa [D.noFL, D.noF] using n) (by simpa [D.noIL, D.noI] using ni) (by simpa [D.noXL, D.noX] using nx))
  | int _ ih => exact .int (ih (by simpa [D.noFL, D.noF] using n) (by simpa [D.noIL, D.noI] using ni) (by simpa [D.noXL, D.noX] using nx))
  | str k _ ih => exact .str k (ih (by simpa [D.noFL, D.noF] using n) (by simpa [D.noIL, D.noI] using ni) (by simpa [D.noXL, D.noX] using nx))
  | scr k _ ih => exact .scr (k.mono fun o u h => s _ _ h id) (ih (by simpa [D.noFL, D.noF] using n) (by simpa [D.noIL, D.noI] using ni) (by simpa [D.noXL, D.noX] using nx))
  | tup k _ _ i1 i2 =>
    simp only [D.noFL, D.noF, Bool.and_eq_true] at n
    simp only [D.noIL, D.noI, Bool.and_eq_true] at ni
    simp only [D.noXL, D.noX, Bool.and_eq_true] at nx
    exact .tup (sqTd_but s k) (i1 n.1 ni.1 nx.1) (i2 n.2 ni.2 nx.2)
  | lstF k _ _ i1 i2 => simp [D.noFL, D.noF] at n
  | lstO k _ _ i1 i2 =>
    simp only [D.noFL, D.noF, Bool.and_eq_true] at n
    simp only [D.noIL, D.noI, Bool.and_eq_true] at ni
    simp only [D.noXL, D.noX, Bool.and_eq_true] at nx
    exact .lstO k (i1 n.1.2 ni.1 nx.1) (i2 n.2 ni.2 nx.2)
  | insF k l _ _ i1 i2 => simp [D.noIL, D.noI] at ni
  | insO k l _ _ i1 i2 => simp [D.noIL, D.noI] at ni
  | exn e k l r _ i1 i2 => simp [D.noXL, D.noX] at nx
  | exn0 e _ ih => simp [D.noXL, D.noX] at nx
/-- a plain value: all else is as before -/
theorem snd_box {e : Expr} {s : Ex} (ha : PE X e (tEv S h w W s)) : PE X e (tEv S h w W (.box s)) := PE.of ha fun σ H Q ⟨F, ρ, As, p, q⟩ => by
  refine ⟨F, ρ, As, p, ?_⟩
  rw [evalE] at q
  cases m : evalE S h s ρ with
  | bad => rw [m] at q; exact q.elim
  | exc c xs ρ' => rw [m] at q; exact q
  | ok r ρ' =>
    rw [m, Res.bind_ok] at q
    intro v F' H' As' C post k
    cases k with
    | brw k1 k2 => exact q.elim
    | @val d C k =>
      by_cases hi : d.imm = true
      · simp only [hi, if_true] at q
        obtain ⟨k1, rfl⟩ := k.immC (G := fun a => if 0 < own As a then none else F' a) (H' := H') (by simp [D.immL, hi]) fun a o h m => by
          have : ¬ 0 < own As a := fun hc => by
            obtain ⟨o2, e2, m2⟩ := p.env.there a hc
            have e3 := post.sH a o2 e2
            have e4 := post.same a o h
            rw [e3] at e4
            cases e4
            exact m m2
          simp only [this, if_false]
          exact h
        refine q v (fun a => if 0 < own As a then none else F' a) H' As [] ?_ (.val k1)
        have sF : Same F (fun a => if 0 < own As a then none else F' a) := fun a o h => by
          have : ¬ 0 < own As a := fun hc => by rw [p.off a hc] at h; cases h
          simp only [this, if_false]
          exact post.sF a o h
        refine ⟨sF, post.sH, fun a o h => ?_, p.env.mono sF fun a h => ?_, fun a => by simpa using p.uni a, fun a h => ?_, fun a h => .inl (by simpa using h), fun a h1 h2 => ?_, fun a h => ?_, fun i => .inl ⟨rfl, rfl⟩⟩
        · split at h
          · cases h
          · exact post.same a o h
        · obtain ⟨o, e, _⟩ := p.env.there a h
          rw [e, post.sH a o e]
        · simp only [List.count_nil, Nat.add_zero] at h
          simp only [h, if_true]
        · split at h2
          · exact absurd rfl h2
          · exact post.new a h1 h2
        · simp only [List.count_nil, Nat.add_zero] at h
          obtain ⟨o, e, _⟩ := p.env.there a h
          rw [post.sH a o e]; simp
      · simp only [hi, if_neg] at q
        by_cases hk : (d.noF && d.noI && d.noX && keeps ρ ρ') = true
        · simp only [hk, if_true] at q
          simp only [Bool.and_eq_true] at hk
          obtain ⟨⟨⟨hf, hni⟩, hnx⟩, hk⟩ := hk
          have away : ∀ a, 0 < C.count a → ¬ 0 < own As a := fun a hc ho => by
            obtain ⟨i, A, hA, hm⟩ := own_some ho
            obtain ⟨dd, hd⟩ := env_some p.env hA hm
            rcases post.slots i with ⟨_, e⟩ | ⟨_, A', _, eA, _, _, fz⟩ | ⟨e, _⟩
            · have h1 := own_get (e.trans hA) a
              have := post.uni a
              omega
            · rw [hA] at eA
              obtain rfl := Option.some.inj eA
              exact fz a hm (post.off a (by omega))
            · exact keeps_at hk hd e
          have k1 : Rep w (fun a => if 0 < own As a then none else F' a) H' v d C := RepL.thaw2 k (by simp [D.noFL, hf]) (by simp [D.noIL, hni]) (by simp [D.noXL, hnx]) fun a o h m => by
            have : ¬ 0 < own As a := fun hc => by
              obtain ⟨o2, e2, m2⟩ := p.env.there a hc
              have e3 := post.sH a o2 e2
              have e4 := post.same a o h
              rw [e3] at e4
              cases e4
              exact m m2
            simp only [this, if_false]
            exact h
          refine q v (fun a => if 0 < own As a then none else F' a) H' As C ?_ (.val k1)
          have sF : Same F (fun a => if 0 < own As a then none else F' a) := fun a o h => by
            have : ¬ 0 < own As a := fun hc => by rw [p.off a hc] at h; cases h
            simp only [this, if_false]
            exact post.sF a o h
          refine ⟨sF, post.sH, fun a o h => ?_, p.env.mono sF fun a h => ?_, fun a => ?_, fun a h => ?_, fun a h => ?_, fun a h1 h2 => ?_, fun a h => ?_, fun i => .inl ⟨rfl, rfl⟩⟩
          · split at h
            · cases h
            · exact post.same a o h
          · obtain ⟨o, e, _⟩ := p.env.there a h
            rw [e, post.sH a o e]
          · have h1 := p.uni a
            have h2 := post.uni a
            by_cases hc : 0 < C.count a
            · have := away a hc; omega
            · omega
          · by_cases ho : 0 < own As a
            · simp only [ho, if_true]
            · simp only [ho, if_false]
              exact post.off a (by omega)
          · by_cases ho : 0 < own As a
            · exact .inl ho
            · exact post.old a (by omega)
          · split at h2
            · exact absurd rfl h2
            · exact post.new a h1 h2
          · by_cases ho : 0 < own As a
            · obtain ⟨o, e, _⟩ := p.env.there a ho
              rw [post.sH a o e]; simp
            · exact post.there a (by omega)
        · simp only [hk] at q
          exact q.elim
theorem snd_var {i : Nat} {x : Str} (hN : X.N[i]? = some x) (hv : Vis X.env.scope x) (hd : (x == ("__debug__" : Str)) = false) (hcd : (x == ("__classdict__" : Str)) = false) : PE X (.Name x pos) (tEv S h w W (.var i)) := by
  refine PE.of (pe_var hN hv hd hcd) fun σ H Q ⟨F, ρ, As, p, q⟩ => ?_
  rw [evalE] at q
  cases e : ρ[i]? with
  | none => rw [e] at q; exact q.elim
  | some o =>
    cases o with
    | none => rw [e] at q; exact q.elim
    | some d =>
      obtain ⟨v, A, hσ, hA, k⟩ := p.env.get e
      have plain : ∀ {B}, Rep w F H v d B → B = [] → Fin (rpR w) w σ W F H ρ As (.ok (.val d) ρ) Q → Q v H := fun k hB q => by
        subst hB; exact fin_val (rp := rpR w) q p.post k (fun _ => Nat.le_refl _)
      have lent : Fin (rpR w) w σ W F H ρ As (.ok (.brw i d.frz) ρ) Q → Q v H := fun q => by
        have fz := p.freeze e hA
        have kf : Rep w (ov F H A) H v d.frz [] := by
          have := k.frz (G := ov F H A) (H' := H) fz.sF fun a h => by unfold ov; rw [if_pos h]
          simpa [D.frzL] using this
        refine q v F H As [] p.post (.brw (kf.mono fz.same (by simp)) fun A' e' hA' he' => ?_)
        rw [hA] at hA'; cases hA'
        exact kf
      refine ⟨v, hσ, ?_⟩
      rw [e] at q
      cases d with
      | lst o xs =>
        cases o with
        | true => exact lent q
        | false => cases k with | lstF h1 h2 h3 => cases h3; exact plain (.lstF h1 h2 .nil) rfl q
      | ins o c xs =>
        cases o with
        | true => exact lent q
        | false => cases k with | insF h1 hl h2 h3 => cases h3; exact plain (.insF h1 hl h2 .nil) rfl q
      | non => cases k with | non h3 => cases h3; exact plain (.non .nil) rfl q
      | bl b => cases k with | bl h3 => cases h3; exact plain (.bl .nil) rfl q
      | int b => cases k with | int h3 => cases h3; exact plain (.int .nil) rfl q
      | str b => cases k with | str h1 h3 => cases h3; exact plain (.str h1 .nil) rfl q
      | scr b => cases k with | scr h1 h3 => cases h3; exact plain (.scr h1 .nil) rfl q
      | tup b => cases k with | tup h1 h2 h3 => cases h3; exact plain (.tup h1 h2 .nil) rfl q
      | exn c b =>
        cases k with
        | exn h0 h1 hl h2 h3 => cases h3; exact plain (.exn h0 h1 hl h2 .nil) rfl q
        | exn0 h0 h3 => cases h3; exact plain (.exn0 h0 .nil) rfl q

/-- a variable's value goes to the one who asks -/
theorem Pre.give {F H : Hp} {σ : St} {ρ : Env} {As : List (List Addr)} {i : Nat} {d : D} (p : Pre w F H σ ρ As) (e : ρ[i]? = some (some d)) :
    ∃ v A, σ[i]? = some (some v) ∧ Rep w F H v d A ∧ Post w σ F H ρ As F H (ρ.set i none) (As.set i []) A := by
  obtain ⟨v, A, hσ, hA, k⟩ := p.env.get e
  have le : ∀ a, own (As.set i []) a + A.count a = own As a := fun a => by have := own_set (B := []) hA a; simpa using this
  have en := p.env.drop (i := i)
  refine ⟨v, A, hσ, k, Same.refl _, Same.refl _, p.same, en, fun a => ?_, fun a h => ?_, fun a h => ?_, fun a h1 h2 => absurd h1 h2, fun a h => ?_, fun j => ?_⟩
  · rw [le]; exact p.uni a
  · rw [le] at h; exact p.off a h
  · rw [le] at h; exact .inl h
  · rw [le] at h
    obtain ⟨o, e2, _⟩ := p.env.there a h
    rw [e2]; simp
  · by_cases hj : i = j
    · subst hj
      have hl : i < ρ.length := (List.getElem?_eq_some_iff.mp e).1
      have hl2 : i < As.length := (List.getElem?_eq_some_iff.mp hA).1
      exact .inr (.inr ⟨by simp [hl], by simp [hl2]⟩)
    · exact .inl ⟨by simp [hj], by simp [hj]⟩
theorem snd_take {i : Nat} {x : Str} (hN : X.N[i]? = some x) (hv : Vis X.env.scope x) (hd : (x == ("__debug__" : Str)) = false) (hcd : (x == ("__classdict__" : Str)) = false) : PE X (.Name x pos) (tEv S h w W (.take i)) := by
  refine PE.of (pe_var hN hv hd hcd) fun σ H Q ⟨F, ρ, As, p, q⟩ => ?_
  rw [evalE] at q
  cases e : ρ[i]? with
  | none => rw [e] at q; exact q.elim
  | some o =>
    cases o with
    | none => rw [e] at q; exact q.elim
    | some d =>
      rw [e] at q
      obtain ⟨v, A, hσ, k, p2⟩ := p.give e
      exact ⟨v, hσ, fin_val (rp := rpR w) q p2 k (fun _ => Nat.le_refl _)⟩

theorem RepR.int1 {F H : Hp} {ρ : Env} {As : List (List Addr)} {C : List Addr} {v : V} {r : R} {i : Int} (k : RepR w F H ρ As v r C) (e : r.d = .int i) : v = .int i := by
  cases k with
  | val k => simp only [R.d] at e; subst e; cases k; rfl
  | brw k _ => simp only [R.d] at e; subst e; cases k; rfl
theorem RepR.str1 {F H : Hp} {ρ : Env} {As : List (List Addr)} {C : List Addr} {v : V} {r : R} {x : Str} (k : RepR w F H ρ As v r C) (e : r.d = .str x) : v = .str x ∧ PyData.strOk x = true := by
  cases k with
  | val k => simp only [R.d] at e; subst e; cases k with | str h _ => exact ⟨rfl, h⟩
  | brw k _ => simp only [R.d] at e; subst e; cases k with | str h _ => exact ⟨rfl, h⟩
theorem strOk_append {x y : Str} (hx : PyData.strOk x = true) (hy : PyData.strOk y = true) : PyData.strOk (x ++ y) = true := by
  unfold PyData.strOk at *
  show (x.cps ++ y.cps).all _ = true
  rw [Array.all_append, hx, hy]; rfl

theorem snd_neg {a : Ex} {ea : Expr} (ha : PE X ea (tEv S h w W a)) : PE X (.UnaryOp .USub ea pos) (tEv S h w W (.neg a)) := by
  refine PE.of (pe_un un_neg ha) fun σ H Q ⟨F, ρ, As, p, q⟩ => ?_
  rw [evalE] at q
  refine ⟨F, ρ, As, p, q.bind0 fun r ρ1 v F1 H1 As1 C1 e1 p1 k1 q1 => ?_⟩
  cases e : r.d with
  | int i => rw [e] at q1; exact ⟨i, k1.int1 e, fin_val (rp := rpR w) q1 p1 (.int .nil) (by simp)⟩
  | _ => rw [e] at q1; exact q1.elim
end
end SL
set_option Elab.async false
set_option linter.all false
set_option maxRecDepth 100000
set_option maxHeartbeats 1000000
/-! SLSnd2: operators, comparisons, truth. -/
namespace SL
open PySem L2
section
variable {S : Sem} {h : Bool} {w : Wd} {W : WX} {X : Cx} {pos : Pos}
variable {F H F2 H2 : Hp} {σ : L2.St} {ρ ρ2 : Env} {As As2 : List (List Addr)} {C C1 C2 : List Addr} {v u : V} {ra rb : R} {Q : VK}

theorem RepL.flat {F H : Hp} {vs : List V} {ds : List D} (n : Nat) (k : RepL w F H vs ds []) : RepL w F H (List.replicate n vs).flatten (List.replicate n ds).flatten [] := by
  induction n with
  | zero => exact .nil
  | succ n ih =>
    rw [List.replicate_succ, List.replicate_succ, List.flatten_cons, List.flatten_cons]
    exact k.app ih
/-- what both operands' state says -/
structure Two (w : Wd) (σ : L2.St) (F H : Hp) (ρ : Env) (As : List (List Addr)) (F2 H2 : Hp) (ρ2 : Env) (As2 : List (List Addr)) (v u : V) (ra rb : R) (C1 C2 : List Addr) : Prop where
  p : Post w σ F H ρ As F2 H2 ρ2 As2 (C1 ++ C2)
  k1 : RepR w F2 H2 ρ2 As2 v ra C1
  k2 : RepR w F2 H2 ρ2 As2 u rb C2

/-- a list made of frozen items -/
theorem fin_lst {ρ3 : Env} {As3 : List (List Addr)} {F3 : Hp} {ds : List D} {ws : List V} {C : List Addr}
    (q : Fin (rpR w) w σ W F H ρ As (.ok (.val (.lst true ds)) ρ3) Q) (p : Post w σ F H ρ As F3 H2 ρ3 As3 C) (k : RepL w F3 H2 ws ds C) : ∀ a, H2 a = none → Q (.ref a) (upd H2 a (.lst ws)) := fun a ha => by
  refine q (.ref a) F3 (upd H2 a (.lst ws)) As3 (a :: C) (p.alloc ha) (.val ?_)
  have hk : RepL w F3 (upd H2 a (.lst ws)) ws ds C := k.mono (Same.refl _) fun b hb => upd_ne fun e => by
    subst e
    obtain ⟨o, e2, _⟩ := k.own b hb
    rw [ha] at e2; cases e2
  have := RepL.lstO (w := w) (F := F3) (H := upd H2 a (.lst ws)) (a := a) upd_same hk .nil
  simpa using this
theorem fin_tup {ρ3 : Env} {As3 : List (List Addr)} {F3 : Hp} {ds : List D} {ws : List V}
    (q : Fin (rpR w) w σ W F H ρ As (.ok (.val (.tup ds)) ρ3) Q) (p : Post w σ F H ρ As F3 H2 ρ3 As3 []) (k : RepL w F3 H2 ws ds []) : NewT ws H2 Q := by
  intro a o ha to_
  obtain ⟨p2, l⟩ := p.allocF (o := .frz o (.tup ws)) ha
  exact q (.ref a) (upd F3 a (.frz o (.tup ws))) (upd H2 a (.frz o (.tup ws))) As3 [] p2 (.val (.tup (.inl ⟨o, upd_same, to_⟩) (k.mono l.sF (by simp)) .nil))

theorem bin_lst (t : Two w σ F H ρ As F2 H2 ρ2 As2 v u ra rb C1 C2) {o o' : Bool} {xs ys : List D} (e1 : ra.d = .lst o xs) (e2 : rb.d = .lst o' ys) {op : Bop}
    (q : Fin (rpR w) w σ W F H ρ As ((elems ra ρ2).bind fun us ρ => (elems rb ρ).bind fun vs ρ => if op = .add ∧ us.length + vs.length ≤ sizeLine then .ok (.val (.lst true (us ++ vs))) ρ else .bad) Q) :
    op = .add ∧ rCat v u H2 Q := by
  obtain ⟨p, k1, k2⟩ := t
  obtain ⟨us, ρ3, e3, q⟩ := q.of_ok elems_ne
  obtain ⟨F3, As3, a, ws, p3, l3, rfl, kk1, s1⟩ := elems_ok (C' := C2) p k1 (fun a => by simp [List.count_append]) e3
  obtain ⟨zs, ρ4, e4, q⟩ := q.of_ok elems_ne
  obtain ⟨F4, As4, b, us', p4, l4, rfl, kk2, s2⟩ := elems_ok (C' := []) p3 (k2.lift l3 k2.there) (fun a => by simp) e4
  rw [e1] at s1; rw [e2] at s2
  have n1 := kk1.len; have n2 := kk2.len
  by_cases c : op = .add ∧ us.length + zs.length ≤ sizeLine
  · rw [if_pos c] at q
    exact ⟨c.1, a, b, ws, us', rfl, rfl, s1, s2, by omega, fin_lst q p4 ((kk1.mono l4.sF (by simp)).app kk2)⟩
  · rw [if_neg c] at q; exact q.elim
theorem bin_rep (p : Post w σ F H ρ As F2 H2 ρ2 As2 (C1 ++ C2)) (k1 : RepR w F2 H2 ρ2 As2 v ra C1) {o : Bool} {xs : List D} {k : Int} (e1 : ra.d = .lst o xs) {op : Bop}
    (q : Fin (rpR w) w σ W F H ρ As ((elems ra ρ2).bind fun us ρ => if op = .mul ∧ (-(2 ^ 63) ≤ k ∧ k < 2 ^ 63) ∧ us.length * k.toNat ≤ sizeLine then .ok (.val (.lst true (List.replicate k.toNat us).flatten)) ρ else .bad) Q) :
    op = .mul ∧ rRep v (.int k) H2 Q := by
  obtain ⟨us, ρ3, e3, q⟩ := q.of_ok elems_ne
  obtain ⟨F3, As3, a, ws, p3, l3, rfl, kk1, s1⟩ := elems_ok (C' := []) p k1 (fun a => by simp) e3
  rw [e1] at s1
  have n1 := kk1.len
  by_cases c : op = .mul ∧ (-(2 ^ 63) ≤ k ∧ k < 2 ^ 63) ∧ us.length * k.toNat ≤ sizeLine
  · rw [if_pos c] at q
    exact ⟨c.1, a, k, ws, rfl, rfl, s1, c.2.1.1, c.2.1.2, by rw [n1]; exact c.2.2, fin_lst q p3 (kk1.flat _)⟩
  · rw [if_neg c] at q; exact q.elim
theorem bin_tup (t : Two w σ F H ρ As F2 H2 ρ2 As2 v u ra rb C1 C2) {op : Bop} {xs ys : List D} (e1 : ra = .val (.tup xs)) (e2 : rb = .val (.tup ys))
    (q : Fin (rpR w) w σ W F H ρ As (if op = .add ∧ xs.length + ys.length ≤ sizeLine then .ok (.val (.tup (xs ++ ys))) ρ2 else .bad) Q) : op = .add ∧ rCatD w.K v u H2 Q := by
  obtain ⟨p, k1, k2⟩ := t
  subst e1 e2
  by_cases c : op = .add ∧ xs.length + ys.length ≤ sizeLine
  · rw [if_pos c] at q
    cases k1 with
    | val k1 =>
      cases k2 with
      | val k2 =>
        cases k1 with
        | @tup a ws _ _ _ _ h1 h2 h3 =>
          cases k2 with
          | @tup b us _ _ _ _ g1 g2 g3 =>
            have n1 := h2.len; have n2 := g2.len
            refine ⟨c.1, a, b, ws, us, rfl, rfl, sqT_mono p.same h1, sqT_mono p.same g1, by omega, fun e => ?_, fun _ e => ?_, fun _ _ => ?_⟩
            · subst e
              cases h2
              exact fin_val (rp := rpR w) q p (.tup g1 g2 .nil) (by simp)
            · subst e
              cases g2
              rw [List.append_nil] at q
              exact fin_val (rp := rpR w) q p (.tup h1 h2 .nil) (by simp)
            · exact fin_tup q (p.weak (by simp)) (h2.app g2)
  · rw [if_neg c] at q; exact q.elim

theorem snd_bin {o : Bop} {op : Operator} {a b : Ex} {ea eb : Expr} {r : R2} (hK : X.K = w.K) (hr : OpR X (binaryOp op) r) (ha : PE X ea (tEv S h w W a)) (hb : PE X eb (tEv S h w W b))
    (go : ∀ (F H F2 H2 : Hp) (σ : L2.St) (ρ ρ2 : Env) (As As2 : List (List Addr)) (C1 C2 : List Addr) (v u : V) (ra rb : R) (Q : VK), Two w σ F H ρ As F2 H2 ρ2 As2 v u ra rb C1 C2 → Fin (rpR w) w σ W F H ρ As (binR o ra rb ρ2) Q → r v u H2 Q) :
    PE X (.BinOp ea op eb pos) (tEv S h w W (.bin o a b)) := by
  refine PE.of (pe_op hr ha hb) fun σ H Q ⟨F, ρ, As, p, q⟩ => ?_
  rw [evalE] at q
  refine ⟨F, ρ, As, p, q.bind0 fun ra ρ1 v F1 H1 As1 C1 e1 p1 k1 q1 => ⟨F1, ρ1, As1, p1.pre, Fin.bind p1 q1 fun rb ρ2 u F2 H2 As2 C2 e2 p2 p12 k2 q2 => ?_⟩⟩
  exact go F H F2 H2 σ ρ ρ2 As As2 C1 C2 v u ra rb Q ⟨p2, RepR.lift k1 p12.lift (RepR.there k1), k2⟩ q2

/-- two ints -/
theorem bin_int (t : Two w σ F H ρ As F2 H2 ρ2 As2 v u ra rb C1 C2) {i j : Int} {o : Bop} (e1 : ra.d = .int i) (e2 : rb.d = .int j)
    (q : Fin (rpR w) w σ W F H ρ As ((Res.of (binI o i j) ρ2).bind fun k ρ => .ok (.val (.int k)) ρ) Q) : ∃ k, binI o i j = some k ∧ v = .int i ∧ u = .int j ∧ Q (.int k) H2 := by
  obtain ⟨k, e, q⟩ := q.ofO
  exact ⟨k, e, t.k1.int1 e1, t.k2.int1 e2, fin_val (rp := rpR w) q t.p (.int .nil) (by simp)⟩
theorem binR_cases {o : Bop} (q : Fin (rpR w) w σ W F H ρ As (binR o ra rb ρ2) Q) :
    (∃ i j, ra.d = .int i ∧ rb.d = .int j ∧ Fin (rpR w) w σ W F H ρ As ((Res.of (binI o i j) ρ2).bind fun k ρ => .ok (.val (.int k)) ρ) Q) ∨
    (∃ x y, ra.d = .str x ∧ rb.d = .str y ∧ Fin (rpR w) w σ W F H ρ As (if o = .add ∧ x.length + y.length ≤ sizeLine then .ok (.val (.str (x ++ y))) ρ2 else .bad) Q) ∨
    (∃ m m' xs ys, ra.d = .lst m xs ∧ rb.d = .lst m' ys ∧ Fin (rpR w) w σ W F H ρ As ((elems ra ρ2).bind fun us ρ => (elems rb ρ).bind fun vs ρ => if o = .add ∧ us.length + vs.length ≤ sizeLine then .ok (.val (.lst true (us ++ vs))) ρ else .bad) Q) ∨
    (∃ xs ys, ra = .val (.tup xs) ∧ rb = .val (.tup ys) ∧ Fin (rpR w) w σ W F H ρ As (if o = .add ∧ xs.length + ys.length ≤ sizeLine then .ok (.val (.tup (xs ++ ys))) ρ2 else .bad) Q) ∨
    (∃ m xs k, ra.d = .lst m xs ∧ rb.d = .int k ∧ Fin (rpR w) w σ W F H ρ As ((elems ra ρ2).bind fun us ρ => if o = .mul ∧ (-(2 ^ 63) ≤ k ∧ k < 2 ^ 63) ∧ us.length * k.toNat ≤ sizeLine then .ok (.val (.lst true (List.replicate k.toNat us).flatten)) ρ else .bad) Q) ∨
    (∃ x k, ra.d = .str x ∧ rb.d = .int k ∧ Fin (rpR w) w σ W F H ρ As (if o = .mul ∧ (2 ≤ k ∧ k < 2 ^ 63) ∧ (1 ≤ x.length ∧ x.length * k.toNat ≤ sizeLine) ∧ PyData.strOk (strRep x k.toNat) = true then .ok (.val (.str (strRep x k.toNat))) ρ2 else .bad) Q) := by
  cases e1 : ra.d <;> cases e2 : rb.d <;> simp only [binR, e1, e2] at q <;> try exact q.elim
  · exact .inl ⟨_, _, rfl, rfl, q⟩
  · exact .inr (.inr (.inr (.inr (.inr ⟨_, _, rfl, rfl, q⟩))))
  · exact .inr (.inl ⟨_, _, rfl, rfl, q⟩)
  · cases ra with
    | brw i d => exact q.elim
    | val d =>
      cases rb with
      | brw i d' => cases d <;> exact q.elim
      | val d' =>
        simp only [R.d] at e1 e2
        subst e1 e2
        exact .inr (.inr (.inr (.inl ⟨_, _, rfl, rfl, q⟩)))
  · exact .inr (.inr (.inr (.inr (.inl ⟨_, _, _, rfl, rfl, q⟩))))
  · exact .inr (.inr (.inl ⟨_, _, _, _, rfl, rfl, q⟩))
theorem snd_add {a b : Ex} {ea eb : Expr} (hK : X.K = w.K) (ha : PE X ea (tEv S h w W a)) (hb : PE X eb (tEv S h w W b)) : PE X (.BinOp ea .Add eb pos) (tEv S h w W (.bin .add a b)) := by
  refine snd_bin hK (OpR.or op_add (OpR.or op_add_str (OpR.or op_cat op_catD))) ha hb fun F H F2 H2 σ ρ ρ2 As As2 C1 C2 v u ra rb Q t q => ?_
  rcases binR_cases q with ⟨i, j, e1, e2, q⟩ | ⟨x, y, e1, e2, q⟩ | ⟨m, m', xs, ys, e1, e2, q⟩ | ⟨xs, ys, e1, e2, q⟩ | ⟨m, xs, k, e1, e2, q⟩ | ⟨x, k, e1, e2, q⟩
  · obtain ⟨k, e, rfl, rfl, q⟩ := bin_int t e1 e2 q
    simp only [binI, Option.some.injEq] at e
    subst e
    exact .inl ⟨i, j, rfl, rfl, q⟩
  · by_cases c : x.length + y.length ≤ sizeLine
    · simp only [true_and, c, if_true] at q
      exact .inr (.inl ⟨x, y, (t.k1.str1 e1).1, (t.k2.str1 e2).1, c, fin_val (rp := rpR w) q t.p (.str (strOk_append (t.k1.str1 e1).2 (t.k2.str1 e2).2) .nil) (by simp)⟩)
    · simp only [true_and, c, if_false] at q; exact q.elim
  · exact .inr (.inr (.inl (bin_lst t e1 e2 q).2))
  · rw [hK]; exact .inr (.inr (.inr (bin_tup t e1 e2 q).2))
  · have := (bin_rep t.p t.k1 e1 q).1; cases this
  · rw [if_neg (by simp)] at q; exact q.elim
theorem snd_int2 {o : Bop} {op : Operator} {a b : Ex} {ea eb : Expr} {C : Int → Int → Prop} {g : Int → Int → Int} (hK : X.K = w.K) (ho : o ≠ .add ∧ o ≠ .mul) (hr : OpR X (binaryOp op) (rI C fun i j => .int (g i j)))
    (hg : ∀ i j k, binI o i j = some k → C i j ∧ k = g i j) (ha : PE X ea (tEv S h w W a)) (hb : PE X eb (tEv S h w W b)) : PE X (.BinOp ea op eb pos) (tEv S h w W (.bin o a b)) := by
  refine snd_bin hK hr ha hb fun F H F2 H2 σ ρ ρ2 As As2 C1 C2 v u ra rb Q t q => ?_
  rcases binR_cases q with ⟨i, j, e1, e2, q⟩ | ⟨x, y, e1, e2, q⟩ | ⟨m, m', xs, ys, e1, e2, q⟩ | ⟨xs, ys, e1, e2, q⟩ | ⟨m, xs, k, e1, e2, q⟩ | ⟨x, k, e1, e2, q⟩
  · obtain ⟨k, e, rfl, rfl, q⟩ := bin_int t e1 e2 q
    obtain ⟨c, rfl⟩ := hg i j k e
    exact ⟨i, j, rfl, rfl, c, q⟩
  · rw [if_neg (by simp [ho.1])] at q; exact q.elim
  · exact absurd (bin_lst t e1 e2 q).1 ho.1
  · exact absurd (bin_tup t e1 e2 q).1 ho.1
  · exact absurd (bin_rep t.p t.k1 e1 q).1 ho.2
  · rw [if_neg (by simp [ho.2])] at q; exact q.elim
theorem foldl_size {α : Type} (x : Array α) : ∀ (n : Nat) (acc : Array α), ((List.replicate n x).foldl (· ++ ·) acc).size = acc.size + n * x.size
  | 0, acc => by simp
  | n + 1, acc => by
    rw [List.replicate_succ, List.foldl_cons, foldl_size x n, Array.size_append, Nat.add_mul, Nat.one_mul]; omega
theorem strRep_len (x : Str) (n : Nat) : (strRep x n).length = n * x.length := by
  show ((List.replicate n x.cps).foldl (· ++ ·) #[]).size = _
  rw [foldl_size]; simp [Str.length]
theorem op_strRep {X : Cx} : OpR X (binaryOp .Mult) (fun x y H Q => ∃ z k, x = .str z ∧ y = .int k ∧ (2 ≤ k ∧ k < 2 ^ 63) ∧ (1 ≤ z.length ∧ z.length * k.toNat ≤ sizeLine) ∧ Q (.str (strRep z k.toNat)) H) := by
  intro pins s σ H x y v u Q I rx ry ⟨z, k, e1, e2, ⟨h1, h2⟩, ⟨h3, h4⟩, q⟩
  subst e1; subst e2
  obtain ⟨t, rfl⟩ := rx
  obtain ⟨t', rfl⟩ := ry
  have hs : sizeLine = 16777216 := sizeLine_eq
  have hn : ¬ k < 1 := by omega
  have hm : z.length * k.toNat ≤ 16777216 := by omega
  have hk : k ≤ 16777216 := by
    have : 1 * k.toNat ≤ z.length * k.toNat := Nat.mul_le_mul_right _ h3
    omega
  have he : (k == 1 || z.length == 0) = false := by
    have a : ¬ k = 1 := by omega
    have b : ¬ z.length = 0 := by omega
    simp [a, b]
  refine P.mul_str ?_ (fun _ _ => ?_) (fun _ _ => ?_) ?_
  · have a : ¬ k < -(2 ^ 63 : Int) := by omega
    have b : ¬ k ≥ 2 ^ 63 := by omega
    rw [decide_eq_false a, decide_eq_false b]; rfl
  · rw [Int.not_gt_eq, Int.le_ediv_iff_mul_le (by omega)]
    have : (z.length : Int) * k = ((z.length * k.toNat : Nat) : Int) := by rw [Int.natCast_mul, Int.toNat_of_nonneg (by omega)]
    rw [this]; omega
  · exact decide_eq_false (show ¬ z.length * k.toNat > sizeLine by omega)
  · rw [if_neg hn, he]
    refine ⟨?_, .str _, H, I.tok _, ⟨_, rfl⟩, q⟩
    show (strRep z k.toNat).length ≤ sizeLine
    rw [strRep_len, Nat.mul_comm]; exact h4
theorem snd_mul {a b : Ex} {ea eb : Expr} (hK : X.K = w.K) (ha : PE X ea (tEv S h w W a)) (hb : PE X eb (tEv S h w W b)) : PE X (.BinOp ea .Mult eb pos) (tEv S h w W (.bin .mul a b)) := by
  refine snd_bin hK (OpR.or op_mul (OpR.or op_rep op_strRep)) ha hb fun F H F2 H2 σ ρ ρ2 As As2 C1 C2 v u ra rb Q t q => ?_
  rcases binR_cases q with ⟨i, j, e1, e2, q⟩ | ⟨x, y, e1, e2, q⟩ | ⟨m, m', xs, ys, e1, e2, q⟩ | ⟨xs, ys, e1, e2, q⟩ | ⟨m, xs, k, e1, e2, q⟩ | ⟨x, k, e1, e2, q⟩
  · obtain ⟨k, e, rfl, rfl, q⟩ := bin_int t e1 e2 q
    simp only [binI] at e
    split at e
    · rename_i c
      simp only [Option.some.injEq] at e
      subst e
      exact .inl ⟨i, j, rfl, rfl, by simpa [mulOk, CMul] using c, q⟩
    · cases e
  · rw [if_neg (by simp)] at q; exact q.elim
  · have := (bin_lst t e1 e2 q).1; cases this
  · have := (bin_tup t e1 e2 q).1; cases this
  · have e := t.k2.int1 e2; subst e; exact .inr (.inl (bin_rep t.p t.k1 e1 q).2)
  · by_cases c : (2 ≤ k ∧ k < 2 ^ 63) ∧ (1 ≤ x.length ∧ x.length * k.toNat ≤ sizeLine) ∧ PyData.strOk (strRep x k.toNat) = true
    · rw [if_pos ⟨rfl, c⟩] at q
      exact .inr (.inr ⟨x, k, (t.k1.str1 e1).1, t.k2.int1 e2, c.1, c.2.1, fin_val (rp := rpR w) q t.p (.str c.2.2 .nil) (by simp)⟩)
    · rw [if_neg (fun z => c z.2)] at q; exact q.elim
theorem snd_sub {a b : Ex} {ea eb : Expr} (hK : X.K = w.K) (ha : PE X ea (tEv S h w W a)) (hb : PE X eb (tEv S h w W b)) : PE X (.BinOp ea .Sub eb pos) (tEv S h w W (.bin .sub a b)) := by
  refine snd_int2 (C := fun _ _ => True) (g := fun i j => i - j) hK (by simp) (fun pins s σ H x y v u Q I r1 r2 ⟨i, j, e1, e2, _, q⟩ => op_sub pins s σ H x y v u Q I r1 r2 ⟨i, j, e1, e2, q⟩) (fun i j k e => ?_) ha hb
  simp only [binI, Option.some.injEq] at e
  exact ⟨trivial, e.symm⟩
theorem snd_fdiv {a b : Ex} {ea eb : Expr} (hK : X.K = w.K) (ha : PE X ea (tEv S h w W a)) (hb : PE X eb (tEv S h w W b)) : PE X (.BinOp ea .FloorDiv eb pos) (tEv S h w W (.bin .fdiv a b)) := by
  refine snd_int2 hK (by simp) op_fdiv (fun i j k e => ?_) ha hb
  simp only [binI] at e
  split at e
  · rename_i c; simp only [Option.some.injEq] at e; exact ⟨c, e.symm⟩
  · cases e
theorem snd_mod {a b : Ex} {ea eb : Expr} (hK : X.K = w.K) (ha : PE X ea (tEv S h w W a)) (hb : PE X eb (tEv S h w W b)) : PE X (.BinOp ea .Mod eb pos) (tEv S h w W (.bin .mod a b)) := by
  refine snd_int2 hK (by simp) op_mod (fun i j k e => ?_) ha hb
  simp only [binI] at e
  split at e
  · rename_i c; simp only [Option.some.injEq] at e; exact ⟨c, e.symm⟩
  · cases e
theorem snd_pow {a b : Ex} {ea eb : Expr} (hK : X.K = w.K) (ha : PE X ea (tEv S h w W a)) (hb : PE X eb (tEv S h w W b)) : PE X (.BinOp ea .Pow eb pos) (tEv S h w W (.bin .pow a b)) := by
  refine snd_int2 hK (by simp) op_pow (fun i j k e => ?_) ha hb
  simp only [binI] at e
  split at e
  · rename_i c; simp only [Option.some.injEq] at e; exact ⟨c, e.symm⟩
  · cases e
end
end SL
set_option Elab.async false
set_option linter.all false
set_option maxRecDepth 100000
set_option maxHeartbeats 1000000
/-! SLSnd3: comparisons, tests. -/
namespace SL
open PySem L2
section
variable {S : Sem} {h : Bool} {w : Wd} {W : WX} {X : Cx} {pos : Pos}

/-! ### comparisons by the library's data -/
def rEqW (K : PySem.W.Frag) (neg : Bool) : R2 := fun x y H Q => ∃ d e, Dp K H x d ∧ Dp K H y e ∧ d.canLay0 = true ∧ e.canLay0 = true ∧ min d.depth e.depth ≤ 64 ∧ Q (.bl (if neg then !PyData.eqv d e else PyData.eqv d e)) H
theorem op_eqW (hu : X.A.units + 64 < cLine) : OpR X (compareOp .Eq) (rEqW X.K false) := by
  intro pins s σ H x y v u Q I rx ry ⟨d, e, hd, he, sd, se, hm, q⟩
  obtain ⟨as, r1⟩ := Dp.reads I d x v hd rx
  obtain ⟨bs, r2⟩ := Dp.reads I e y u he ry
  exact SeqAt.compareEq_reads r1 r2 sd se (by omega) ⟨.bl _, H, I, rfl, q⟩
theorem op_neW (hu : X.A.units + 64 < cLine) : OpR X (compareOp .NotEq) (rEqW X.K true) := by
  intro pins s σ H x y v u Q I rx ry ⟨d, e, hd, he, sd, se, hm, q⟩
  obtain ⟨as, r1⟩ := Dp.reads I d x v hd rx
  obtain ⟨bs, r2⟩ := Dp.reads I e y u he ry
  exact SeqAt.compareNe_reads r1 r2 sd se (by omega) ⟨.bl _, H, I, rfl, q⟩
/-- x in a list or a tuple -/
def rInW (K : PySem.W.Frag) (neg : Bool) : R2 := fun x y H Q => ∃ d ds, Dp K H x d ∧ (Dp K H y (.list ds) ∨ Dp K H y (.tuple ds)) ∧ d.canLay0 = true ∧ PyData.canLayAll0 ds = true ∧ d.depth ≤ 64 ∧
  Q (.bl (if neg then !(ds.any fun z => PyData.eqv z d) else ds.any fun z => PyData.eqv z d)) H
theorem op_inW (hu : X.A.units + 65 < cLine) : OpR X (compareOp .In) (rInW X.K false) := by
  intro pins s σ H x y v u Q I rx ry ⟨d, ds, hd, he, sd, se, hm, q⟩
  obtain ⟨as, r1⟩ := Dp.reads I d x v hd rx
  have hr : X.A.units + 1 + min (PyData.depthAll ds) d.depth < cLine := by
    have := Nat.min_le_right (PyData.depthAll ds) d.depth; omega
  rcases he with he | he
  · obtain ⟨bs, r2⟩ := Dp.reads I _ y u he ry
    exact SeqAt.in_list_reads r2 r1 se sd hr ⟨.bl _, H, I, rfl, q⟩
  · obtain ⟨bs, r2⟩ := Dp.reads I _ y u he ry
    exact SeqAt.in_tuple_reads r2 r1 se sd hr ⟨.bl _, H, I, rfl, q⟩
theorem op_ninW (hu : X.A.units + 65 < cLine) : OpR X (compareOp .NotIn) (rInW X.K true) := by
  intro pins s σ H x y v u Q I rx ry ⟨d, ds, hd, he, sd, se, hm, q⟩
  obtain ⟨as, r1⟩ := Dp.reads I d x v hd rx
  have hr : X.A.units + 1 + min (PyData.depthAll ds) d.depth < cLine := by
    have := Nat.min_le_right (PyData.depthAll ds) d.depth; omega
  rcases he with he | he
  · obtain ⟨bs, r2⟩ := Dp.reads I _ y u he ry
    exact SeqAt.notIn_list_reads r2 r1 se sd hr ⟨.bl _, H, I, rfl, q⟩
  · obtain ⟨bs, r2⟩ := Dp.reads I _ y u he ry
    exact SeqAt.notIn_tuple_reads r2 r1 se sd hr ⟨.bl _, H, I, rfl, q⟩

def rInS (neg : Bool) : R2 := fun x y H Q => ∃ i j, x = .str i ∧ y = .str j ∧ Q (.bl (if neg then !strIn i j else strIn i j)) H
theorem op_inS : OpR X (compareOp .In) (rInS false) := fun pins s σ H x y v u Q I rx ry ⟨i, j, e1, e2, q⟩ => op_in_str pins s σ H x y v u Q I rx ry ⟨i, j, e1, e2, q⟩
theorem op_ninS : OpR X (compareOp .NotIn) (rInS true) := fun pins s σ H x y v u Q I rx ry ⟨i, j, e1, e2, q⟩ => op_notin_str pins s σ H x y v u Q I rx ry ⟨i, j, e1, e2, q⟩

/-- the operator in the text, what it asks -/
def copOf : Cop → CmpOp
  | .eq => .Eq | .ne => .NotEq | .lt => .Lt | .le => .LtE | .gt => .Gt | .ge => .GtE | .isn => .Is | .notn => .IsNot | .in_ => .In | .nin => .NotIn
def rC (K : PySem.W.Frag) : Cop → R2
  | .eq => rEqW K false
  | .ne => rEqW K true
  | .lt => fun x y H Q => rI0 (fun i j => .bl (decide (i < j))) x y H Q ∨ ∃ i j, x = .str i ∧ y = .str j ∧ Q (.bl (decide (i.cps.toList < j.cps.toList))) H
  | .le => fun x y H Q => rI0 (fun i j => .bl (decide (i ≤ j))) x y H Q ∨ ∃ i j, x = .str i ∧ y = .str j ∧ Q (.bl (!decide (j.cps.toList < i.cps.toList))) H
  | .gt => fun x y H Q => rI0 (fun i j => .bl (decide (j < i))) x y H Q ∨ ∃ i j, x = .str i ∧ y = .str j ∧ Q (.bl (decide (j.cps.toList < i.cps.toList))) H
  | .ge => fun x y H Q => rI0 (fun i j => .bl (decide (j ≤ i))) x y H Q ∨ ∃ i j, x = .str i ∧ y = .str j ∧ Q (.bl (!decide (i.cps.toList < j.cps.toList))) H
  | .isn => fun x y H Q => y = .non ∧ Q (.bl (decide (x = .non))) H
  | .notn => fun x y H Q => y = .non ∧ Q (.bl (!decide (x = .non))) H
  | .in_ => fun x y H Q => rInW K false x y H Q ∨ rInS false x y H Q
  | .nin => fun x y H Q => rInW K true x y H Q ∨ rInS true x y H Q
theorem op_C (hu : X.A.units + 65 < cLine) : ∀ o : Cop, OpR X (compareOp (copOf o)) (rC X.K o)
  | .eq => op_eqW (by omega)
  | .ne => op_neW (by omega)
  | .lt => OpR.or op_lt op_lt_str
  | .le => OpR.or op_le op_le_str
  | .gt => OpR.or op_gt op_gt_str
  | .ge => OpR.or op_ge op_ge_str
  | .isn => op_isN
  | .notn => op_notN
  | .in_ => OpR.or (op_inW hu) op_inS
  | .nin => OpR.or (op_ninW hu) op_ninS

variable {F H : Hp} {σ : L2.St} {ρ : Env} {As : List (List Addr)} {C1 C2 : List Addr} {v u : V} {ra rb : R} {Q : VK}
theorem pyL_any {a : D} {p : PyData} (ha : a.py = some p) : ∀ (xs : List D) (ps : List PyData), D.pyL xs = some ps → (ps.any fun z => PyData.eqv z p) = xs.any fun x => x.eqv a
  | [], ps, e => by simp [D.pyL] at e; subst e; rfl
  | x :: xs, ps, e => by
    simp only [D.pyL] at e
    cases q1 : x.py with
    | none => rw [q1] at e; simp at e
    | some p1 =>
      cases q2 : D.pyL xs with
      | none => rw [q1, q2] at e; simp at e
      | some qs =>
        rw [q1, q2] at e; simp at e; subst e
        rw [List.any_cons, List.any_cons, pyL_any ha xs qs q2, py_eqv x a p1 p q1 ha]
theorem isData_iff {d : D} : isData d = true ↔ ∃ p, d.py = some p := by
  unfold isData; rw [Option.isSome_iff_exists]
theorem rep_non {F H : Hp} {C : List Addr} {v : V} {d : D} (k : Rep w F H v d C) : (v = .non ↔ d = .non) := by
  cases k <;> simp
theorem cmp_go {o : Cop} {c : Bool} (s : Same F H) (k1 : RepR w F H ρ As v ra C1) (k2 : RepR w F H ρ As u rb C2) (e : cmpD o ra.d rb.d = some c) (hn : o = .isn ∨ o = .notn → rb.d = .non) (q : Q (.bl c) H) : rC w.K o v u H Q := by
  have v1 := k1.view s; have v2 := k2.view s
  have data : ∀ {a b : D} {neg : Bool} {x y : V} {B C : List Addr}, Rep w H H x a B → Rep w H H y b C → (if isData a && isData b && decide (a.dep ≤ 64 ∨ b.dep ≤ 64) then some (if neg then !a.eqv b else a.eqv b) else none) = some c → rEqW w.K neg x y H Q := by
    intro a b neg x y B C r1 r2 e
    split at e
    · rename_i hc
      simp only [Bool.and_eq_true, decide_eq_true_eq] at hc
      obtain ⟨p, h1⟩ := isData_iff.mp hc.1.1
      obtain ⟨p2, h2⟩ := isData_iff.mp hc.1.2
      simp only [Option.some.injEq] at e
      have d1 := r1.dp1 (Same.refl _) h1
      have d2 := r2.dp1 (Same.refl _) h2
      have m1 := py_dep _ _ h1; have m2 := py_dep _ _ h2
      refine ⟨p, p2, d1.1, d2.1, d1.2, d2.2, by omega, ?_⟩
      rw [py_eqv a b p p2 h1 h2, e]; exact q
    · cases e
  have inn : ∀ {a b : D} {neg : Bool} {xs : List D} {x y : V} {B C : List Addr}, (∃ o, b = .lst o xs) ∨ b = .tup xs → Rep w H H x a B → Rep w H H y b C → (if isData a && isData b && decide (a.dep ≤ 64) then some (if neg then !(xs.any fun x => x.eqv a) else xs.any fun x => x.eqv a) else none) = some c → rInW w.K neg x y H Q := by
    intro a b neg xs x y B C hb r1 r2 e
    split at e
    · rename_i hc
      simp only [Bool.and_eq_true, decide_eq_true_eq] at hc
      obtain ⟨p, h1⟩ := isData_iff.mp hc.1.1
      obtain ⟨p2, h2⟩ := isData_iff.mp hc.1.2
      simp only [Option.some.injEq] at e
      have d1 := r1.dp1 (Same.refl _) h1
      have d2 := r2.dp1 (Same.refl _) h2
      have m1 := py_dep _ _ h1
      rcases hb with ⟨o, rfl⟩ | rfl
      · simp only [D.py, Option.map_eq_some_iff] at h2
        obtain ⟨ps, h2, rfl⟩ := h2
        refine ⟨p, ps, d1.1, .inl d2.1, d1.2, d2.2, by omega, ?_⟩
        rw [pyL_any h1 xs ps h2, e]; exact q
      · simp only [D.py, Option.map_eq_some_iff] at h2
        obtain ⟨ps, h2, rfl⟩ := h2
        refine ⟨p, ps, d1.1, .inr d2.1, d1.2, d2.2, by omega, ?_⟩
        rw [pyL_any h1 xs ps h2, e]; exact q
    · cases e
  have ord : ∀ {f : Int → Int → Bool} {g : Str → Str → Bool}, ordD f g ra.d rb.d = some c →
      (rI0 (fun i j => .bl (f i j)) v u H Q ∨ ∃ i j, v = .str i ∧ u = .str j ∧ Q (.bl (g i j)) H) := by
    intro f g e
    unfold ordD at e
    split at e
    · rename_i i j e1 e2
      simp only [Option.some.injEq] at e
      exact .inl ⟨i, j, k1.int1 e1, k2.int1 e2, by show Q (.bl (f i j)) H; rw [e]; exact q⟩
    · rename_i i j e1 e2
      simp only [Option.some.injEq] at e
      exact .inr ⟨i, j, (k1.str1 e1).1, (k2.str1 e2).1, by rw [e]; exact q⟩
    · cases e
  cases o with
  | eq => exact data (neg := false) v1 v2 (by simpa [cmpD] using e)
  | ne => exact data (neg := true) v1 v2 (by simpa [cmpD] using e)
  | lt => exact ord e
  | le => exact ord e
  | gt => exact ord e
  | ge => exact ord e
  | isn =>
    have hb := hn (.inl rfl)
    rw [hb] at v2
    have hu : u = .non := (rep_non v2).mpr rfl
    refine ⟨hu, ?_⟩
    simp only [cmpD] at e
    split at e <;> rename_i hd <;> simp only [Option.some.injEq] at e <;> subst e
    · rw [hd] at v1; rw [decide_eq_true ((rep_non v1).mpr rfl)]; exact q
    · rw [decide_eq_false (fun z => hd ((rep_non v1).mp z))]; exact q
  | notn =>
    have hb := hn (.inr rfl)
    rw [hb] at v2
    have hu : u = .non := (rep_non v2).mpr rfl
    refine ⟨hu, ?_⟩
    simp only [cmpD] at e
    split at e <;> rename_i hd <;> simp only [Option.some.injEq] at e <;> subst e
    · rw [hd] at v1; rw [decide_eq_true ((rep_non v1).mpr rfl)]; exact q
    · rw [decide_eq_false (fun z => hd ((rep_non v1).mp z))]; exact q
  | in_ =>
    simp only [cmpD] at e
    split at e
    · rename_i o xs hb; exact .inl (inn (neg := false) (.inl ⟨o, hb⟩) v1 v2 (by simpa [hb] using e))
    · rename_i xs hb; exact .inl (inn (neg := false) (.inr hb) v1 v2 (by simpa [hb] using e))
    · rename_i y hb
      split at e
      · rename_i x ha
        simp only [Option.some.injEq] at e
        exact .inr ⟨x, y, (k1.str1 ha).1, (k2.str1 hb).1, by simpa [e] using q⟩
      · cases e
    · cases e
  | nin =>
    simp only [cmpD] at e
    split at e
    · rename_i o xs hb; exact .inl (inn (neg := true) (.inl ⟨o, hb⟩) v1 v2 (by simpa [hb] using e))
    · rename_i xs hb; exact .inl (inn (neg := true) (.inr hb) v1 v2 (by simpa [hb] using e))
    · rename_i y hb
      split at e
      · rename_i x ha
        simp only [Option.some.injEq] at e
        exact .inr ⟨x, y, (k1.str1 ha).1, (k2.str1 hb).1, by simpa [e] using q⟩
      · cases e
    · cases e
end
end SL
set_option Elab.async false
set_option linter.all false
set_option maxRecDepth 100000
set_option maxHeartbeats 1000000
/-! SLSnd4: rows of expressions, tests, and, or, not, if, chains, items, slices, displays. -/
namespace SL
open PySem L2

def noStar : Expr → Bool
  | .Starred _ _ => false
  | _ => true
theorem star_cons {e : Expr} {es : List Expr} {env : PySem.Env} (h : noStar e = true) : starEach (e :: es) env = (false, eval e env) :: starEach es env := by
  cases e <;> first | rfl | cases h
theorem star_any {pos : Pos} {env : PySem.Env} : ∀ {es : List Expr}, es.all noStar = true → (backTo pos (starEach es env)).any (·.1) = false
  | [], _ => rfl
  | e :: es, h => by
    simp only [List.all_cons, Bool.and_eq_true] at h
    rw [star_cons h.1]
    show (false || (backTo pos (starEach es env)).any (·.1)) = false
    rw [star_any h.2]; rfl
section
variable {S : Sem} {h : Bool} {w : Wd} {W : WX} {X : Cx} {pos : Pos}
variable {s : Ex} {ss : List Ex} {e : Expr} {es : List Expr}

theorem snd_es_nil : PA X [] (tEvs S h w W []) := PA.of pa_nil fun σ H Q ⟨F, ρ, As, p, q⟩ => q [] F H As [] p.post .nil
theorem snd_es_cons (he : PE X e (tEv S h w W s)) (hes : PA X es (tEvs S h w W ss)) (ns : noStar e = true) : PA X (e :: es) (tEvs S h w W (s :: ss)) := by
  refine PA.of (pa_cons he hes (star_cons ns)) fun σ H Q ⟨F, ρ, As, p, q⟩ => ?_
  rw [evalEs] at q
  exact ⟨F, ρ, As, p, q.bind0 fun r ρ1 v F1 H1 As1 C1 e1 p1 k1 q1 => ⟨F1, ρ1, As1, p1.pre, Fin.bind p1 q1 fun rs ρ2 vs F2 H2 As2 C2 e2 p2 p12 k2 q2 =>
    q2 (v :: vs) F2 H2 As2 (C1 ++ C2) p2 (.cons (RepR.lift k1 p12.lift (RepR.there k1)) k2)⟩⟩

theorem snd_k_nil : PA X [] (tKv S h w W []) := PA.of pa_nil fun σ H Q ⟨F, ρ, As, p, q⟩ => q [] F H As [] p.post .nil
theorem Rep.up {F H F' H' : Hp} {ρ ρ' : Env} {As As' : List (List Addr)} {vs : List V} {ds : List D} {C : List Addr} (k : RepL w F H vs ds C) (l : Lift F H ρ As F' H' ρ' As') : RepL w F' H' vs ds C :=
  k.mono l.sF fun a h => by obtain ⟨o, e, _⟩ := k.own a h; rw [e]; exact l.sH a o e
theorem snd_k_cons (he : PE X e (tEv S h w W s)) (hes : PA X es (tKv S h w W ss)) (ns : noStar e = true) : PA X (e :: es) (tKv S h w W (s :: ss)) := by
  refine PA.of (pa_cons he hes (star_cons ns)) fun σ H Q ⟨F, ρ, As, p, q⟩ => ?_
  rw [evalK] at q
  refine ⟨F, ρ, As, p, q.bind0 fun r ρ1 v F1 H1 As1 C1 e1 p1 k1 q1 => ?_⟩
  obtain ⟨d, ρ1', e1', q1⟩ := q1.of_ok settle_ne
  obtain ⟨F1', As1', t, k1'⟩ := settle_ok p1.pre k1 e1'
  refine ⟨F1', ρ1', As1', t.pre, Fin.bind ((p1.trans t).weak (C' := C1) fun a => by simp) q1 fun ds ρ2 vs F2 H2 As2 C2 e2 p2 p12 k2 q2 => ?_⟩
  exact q2 (v :: vs) F2 H2 As2 (C1 ++ C2) p2 (RepL.cons (Rep.up k1' p12.lift) k2)

theorem argR_ne {r : R} {ρ : Env} : ∀ c xs ρ', argR r ρ ≠ .exc c xs ρ' := by
  intro c xs ρ' z
  cases r with
  | val d => simp [argR] at z
  | brw i d =>
    simp only [argR] at z
    split at z
    · split at z
      · cases z
      · cases e : settle (R.brw i d) ρ with
        | bad => rw [e] at z; simp at z
        | ok a ρ2 => rw [e] at z; simp at z
        | exc c2 xs2 ρ2 => exact settle_ne _ _ _ e
    · cases z
theorem argR_ok {F H : Hp} {σ : L2.St} {ρ ρ' : Env} {As : List (List Addr)} {v : V} {r r' : R} {C0 : List Addr} (p : Pre w F H σ ρ As) (k : RepR w F H ρ As v r C0) (e : argR r ρ = .ok r' ρ') :
    ∃ F' As', Post w σ F H ρ As F' H ρ' As' [] ∧ RepR w F' H ρ' As' v r' C0 := by
  cases r with
  | val d =>
    simp only [argR, Res.ok.injEq] at e
    obtain ⟨rfl, rfl⟩ := e
    exact ⟨F, As, p.post, k⟩
  | brw i d =>
    simp only [argR] at e
    split at e
    · split at e
      · simp only [Res.ok.injEq] at e
        obtain ⟨rfl, rfl⟩ := e
        exact ⟨F, As, p.post, k⟩
      · cases e2 : settle (R.brw i d) ρ with
        | bad => rw [e2] at e; simp at e
        | exc c xs ρ2 => rw [e2] at e; simp at e
        | ok a ρ2 =>
          rw [e2] at e
          simp only [Res.bind_ok, Res.ok.injEq] at e
          obtain ⟨rfl, rfl⟩ := e
          obtain ⟨F', As', t, k'⟩ := settle_ok p k e2
          exact ⟨F', As', t, .val k'⟩
    · cases e
/-! ### arguments -/
theorem snd_a_nil : PA X [] (tAv S h w W []) := PA.of pa_nil fun σ H Q ⟨F, ρ, As, p, q⟩ => q [] F H As [] p.post .nil
theorem snd_a_cons (he : PE X e (tEv S h w W s)) (hes : PA X es (tAv S h w W ss)) (ns : noStar e = true) : PA X (e :: es) (tAv S h w W (s :: ss)) := by
  refine PA.of (pa_cons he hes (star_cons ns)) fun σ H Q ⟨F, ρ, As, p, q⟩ => ?_
  rw [evalA] at q
  refine ⟨F, ρ, As, p, q.bind0 fun r ρ1 v F1 H1 As1 C1 e1 p1 k1 q1 => ?_⟩
  obtain ⟨r', ρ1', e1', q1⟩ := q1.of_ok argR_ne
  obtain ⟨F1', As1', t, k1'⟩ := argR_ok p1.pre k1 e1'
  exact ⟨F1', ρ1', As1', t.pre, Fin.bind ((p1.trans t).weak (C' := C1) fun a => by simp) q1 fun rs ρ2 vs F2 H2 As2 C2 e2 p2 p12 k2 q2 =>
    q2 (v :: vs) F2 H2 As2 (C1 ++ C2) p2 (.cons (RepR.lift k1' p12.lift (RepR.there k1')) k2)⟩

/-! ### displays -/
theorem snd_lst (hes : PA X es (tKv S h w W ss)) : PE X (.List es pos) (tEv S h w W (.lst ss)) := by
  refine PE.of (pe_lst hes) fun σ H Q ⟨F, ρ, As, p, q⟩ => ?_
  rw [evalE] at q
  refine ⟨F, ρ, As, p, q.bind0 fun ds ρ1 vs F1 H1 As1 C1 e1 p1 k1 q1 => ?_⟩
  have n := RepL.len (w := w) k1
  by_cases c : ds.length ≤ sizeLine
  · rw [if_pos c] at q1
    exact ⟨by omega, fin_lst q1 p1 k1⟩
  · rw [if_neg c] at q1; exact q1.elim
theorem snd_tup {j : Nat} (hes : PA X es (tKv S h w W ss)) : PE X (.Tuple es j pos) (tEv S h w W (.tup ss)) := by
  refine PE.of (pe_tupD hes) fun σ H Q ⟨F, ρ, As, p, q⟩ => ?_
  rw [evalE] at q
  refine ⟨F, ρ, As, p, q.bind0 fun ds ρ1 vs F1 H1 As1 C1 e1 p1 k1 q1 => ?_⟩
  have n := RepL.len (w := w) k1
  by_cases c : ds.length ≤ sizeLine
  · rw [if_pos c] at q1
    have sh := p1.shed (B := C1) (C' := []) (by simp)
    exact ⟨by omega, fin_tup q1 sh.1 (RepL.frz (w := w) k1 sh.2.sF fun a ha => by unfold ov; rw [if_pos ha])⟩
  · rw [if_neg c] at q1; exact q1.elim

/-! ### truth -/
theorem truV_of {F H : Hp} {v : V} {d : D} {C : List Addr} {b : Bool} {K : PySem.W.Frag} (hK : K = w.K) (k : Rep w H H v d C) (e : truth d = some b) : TruV K v H b := by
  subst hK
  cases k with
  | non _ => simp [truth] at e; subst e; rfl
  | bl _ => simp [truth] at e; subst e; rfl
  | int _ => simp only [truth, Option.some.injEq] at e; subst e; rfl
  | str hx _ =>
    simp only [truth] at e
    split at e
    · rename_i hc; simp only [Option.some.injEq] at e; subst e; exact ⟨hc, by rw [Bool.eq_iff_iff]; simp⟩
    · cases e
  | scr _ _ => simp [truth] at e
  | @tup a ws xs _ _ _ h1 h2 _ =>
    simp only [truth, Option.some.injEq] at e; subst e
    have n := h2.len
    refine .inr (.inl ⟨ws, h1.sq, ?_⟩)
    cases ws <;> cases xs <;> simp_all
  | @lstF a ws xs _ _ _ h1 h2 _ =>
    simp only [truth, Option.some.injEq] at e; subst e
    have n := h2.len
    refine .inl ⟨ws, .of h1, ?_⟩
    cases ws <;> cases xs <;> simp_all
  | @lstO a ws xs _ _ _ B h1 h2 _ =>
    simp only [truth, Option.some.injEq] at e; subst e
    have n := h2.len
    refine .inl ⟨ws, .of h1, ?_⟩
    cases ws <;> cases xs <;> simp_all
  | insF _ _ _ _ => simp [truth] at e
  | insO _ _ _ _ => simp [truth] at e
  | exn _ _ _ _ _ => simp [truth] at e
  | exn0 _ _ => simp [truth] at e
theorem fin_b {F H F2 H2 : Hp} {σ : L2.St} {ρ ρ2 : Env} {As As2 : List (List Addr)} {C2 : List Addr} {b : Bool} {Q : Bool → Hp → Prop}
    (q : Fin rpB w σ W F H ρ As (.ok b ρ2) Q) (p : Post w σ F H ρ As F2 H2 ρ2 As2 C2) : Q b H2 := q b F2 H2 As2 [] (p.weak (by simp)) ⟨rfl, rfl⟩
/-- an expression of any kind as a test -/
theorem snd_te (hK : X.K = w.K) (he : PE X e (tEv S h w W s)) (hi : ∀ whole, isTrue e X.env whole = (do let v ← whole; standAt e.pos; holding [v] (truthy v))) : PT X e (tTv S h w W (.e s)) := by
  refine PT.of (pt_truth he hi) fun σ H Q ⟨F, ρ, As, p, q⟩ => ?_
  rw [evalT] at q
  refine ⟨F, ρ, As, p, q.bind0 fun r ρ1 v F1 H1 As1 C1 e1 p1 k1 q1 => ?_⟩
  cases e2 : truth r.d with
  | none => rw [e2] at q1; exact q1.elim
  | some b =>
    rw [e2] at q1
    exact ⟨b, truV_of (F := F1) hK (RepR.view k1 p1.same) e2, fin_b q1 p1⟩

/-! ### comparisons -/
variable {o o' : Cop} {a b c : Ex} {ea eb ec : Expr}
def isNon : Expr → Bool
  | .Constant .none _ _ => true
  | _ => false
theorem non_of (hb : b = .non) {r : R} {ρ ρ' : Env} (e : evalE S h b ρ = .ok r ρ') : r.d = .non := by
  subst hb; rw [evalE] at e; cases e; rfl
theorem snd_cmp2 (hK : X.K = w.K) (ha : PE X ea (tEv S h w W a)) (hb : PE X eb (tEv S h w W b)) (hn : o = .isn ∨ o = .notn → b = .non) {σ : L2.St} {H : Hp} {Q : VK} {α : Type} {β : Type} {rp : RP β α} {Q2 : β → Hp → Prop} {F : Hp} {ρ : Env} {As : List (List Addr)}
    {kk : Bool → Env → Res α} (p : Pre w F H σ ρ As) (q : Fin rp w σ W F H ρ As ((evalE S h a ρ).bind fun x ρ => (evalE S h b ρ).bind fun y ρ => (Res.of (cmpD o x.d y.d) ρ).bind kk) Q2)
    (go : ∀ c ρ2 F2 H2 As2 C2, Post w σ F H ρ As F2 H2 ρ2 As2 C2 → Fin rp w σ W F H ρ As (kk c ρ2) Q2 → Q (.bl c) H2) : tOp (rC X.K o) (tEv S h w W a) (tEv S h w W b) σ H Q := by
  refine ⟨F, ρ, As, p, q.bind0 fun ra ρ1 v F1 H1 As1 C1 e1 p1 k1 q1 => ⟨F1, ρ1, As1, p1.pre, Fin.bind p1 q1 fun rb ρ2 u F2 H2 As2 C2 e2 p2 p12 k2 q2 => ?_⟩⟩
  obtain ⟨c, e3, q3⟩ := q2.ofO
  rw [hK]
  exact cmp_go p2.same (RepR.lift k1 p12.lift (RepR.there k1)) k2 e3 (fun z => non_of (hn z) e2) (go c ρ2 F2 H2 As2 _ p2 q3)
theorem snd_cmp (hK : X.K = w.K) (hu : X.A.units + 65 < cLine) (ha : PE X ea (tEv S h w W a)) (hb : PE X eb (tEv S h w W b)) (hn : o = .isn ∨ o = .notn → b = .non) (hm : behindInMarks (copOf o) eb = false) :
    PE X (.Compare ea [copOf o] [eb] pos) (tEv S h w W (.cmp o a b)) := by
  refine PE.of (pe_cmpR (op_C hu o) ha hb hm) fun σ H Q ⟨F, ρ, As, p, q⟩ => ?_
  rw [evalE] at q
  exact snd_cmp2 hK ha hb hn p q fun c ρ2 F2 H2 As2 C2 p2 q2 => fin_val (rp := rpR w) q2 p2 (.bl .nil) (by simp)
theorem snd_tcmp (hK : X.K = w.K) (hu : X.A.units + 65 < cLine) (ha : PE X ea (tEv S h w W a)) (hb : PE X eb (tEv S h w W b)) (hn : o = .isn ∨ o = .notn → b = .non) (hm : behindInMarks (copOf o) eb = false) :
    PT X (.Compare ea [copOf o] [eb] pos) (tTv S h w W (.e (.cmp o a b))) := by
  refine PT.of (pt_cmpR (op_C hu o) ha hb hm) fun σ H Q ⟨F, ρ, As, p, q⟩ => ?_
  rw [evalT, evalE] at q
  have assoc : ∀ (m : Res R) (f : R → Env → Res R) (g : R → Env → Res Bool), (m.bind f).bind g = m.bind fun r ρ => (f r ρ).bind g := by
    intro m f g; cases m <;> rfl
  rw [assoc] at q
  have q' : Fin rpB w σ W F H ρ As ((evalE S h a ρ).bind fun x ρ => (evalE S h b ρ).bind fun y ρ => (Res.of (cmpD o x.d y.d) ρ).bind fun c ρ => .ok c ρ) Q := by
    have e : ((evalE S h a ρ).bind fun r ρ => ((evalE S h b ρ).bind fun y ρ => (Res.of (cmpD o r.d y.d) ρ).bind fun c ρ => Res.ok (R.val (D.bl c)) ρ).bind fun r ρ => Res.of (truth r.d) ρ) =
      ((evalE S h a ρ).bind fun x ρ => (evalE S h b ρ).bind fun y ρ => (Res.of (cmpD o x.d y.d) ρ).bind fun c ρ => .ok c ρ) := by
      cases evalE S h a ρ with
      | bad => rfl
      | exc c xs ρ' => rfl
      | ok r ρ1 =>
        simp only [Res.bind_ok]
        cases evalE S h b ρ1 with
        | bad => rfl
        | exc c xs ρ' => rfl
        | ok r2 ρ2 =>
          simp only [Res.bind_ok]
          cases cmpD o r.d r2.d <;> rfl
    rw [e] at q; exact q
  exact snd_cmp2 (Q := fun x H' => ∃ k, x = .bl k ∧ Q k H') hK ha hb hn p q' fun c ρ2 F2 H2 As2 C2 p2 q2 => ⟨c, rfl, fin_b q2 p2⟩
end
end SL
set_option Elab.async false
set_option linter.all false
set_option maxRecDepth 100000
set_option maxHeartbeats 1000000
/-! SLSnd5: chains, and, or, not, if, items, slices, fields. -/
namespace SL
open PySem L2
section
variable {S : Sem} {h : Bool} {w : Wd} {W : WX} {X : Cx} {pos : Pos}
variable {s : Ex} {ss : List Ex} {e : Expr} {es : List Expr} {o o' : Cop} {a b c : Ex} {ea eb ec : Expr}

/-! ### a chain of two comparisons -/
theorem snd_chain2 (hK : X.K = w.K) (hc : PE X ec (tEv S h w W c)) (hn : ¬ (o = .isn ∨ o = .notn)) (hn' : ¬ (o' = .isn ∨ o' = .notn)) {σ : L2.St} {H : Hp} {Q : VK} {α : Type} {β : Type} {rp : RP β α} {Q2 : β → Hp → Prop} {F : Hp} {ρ : Env} {As : List (List Addr)}
    {kk : Bool → Env → Res α} (p : Pre w F H σ ρ As) (q : Fin rp w σ W F H ρ As ((evalE S h a ρ).bind fun x ρ => (evalE S h b ρ).bind fun y ρ => (Res.of (cmpD o x.d y.d) ρ).bind fun k ρ =>
      if k then (evalE S h c ρ).bind fun z ρ => (Res.of (cmpD o' y.d z.d) ρ).bind kk else kk false ρ) Q2)
    (go : ∀ c ρ2 F2 H2 As2 C2, Post w σ F H ρ As F2 H2 ρ2 As2 C2 → Fin rp w σ W F H ρ As (kk c ρ2) Q2 → Q (.bl c) H2) : tChain (rC X.K o) (rC X.K o') (tEv S h w W a) (tEv S h w W b) (tEv S h w W c) σ H Q := by
  refine ⟨F, ρ, As, p, q.bind0 fun ra ρ1 v F1 H1 As1 C1 e1 p1 k1 q1 => ⟨F1, ρ1, As1, p1.pre, Fin.bind p1 q1 fun rb ρ2 u F2 H2 As2 C2 e2 p2 p12 k2 q2 => ?_⟩⟩
  obtain ⟨k, e3, q3⟩ := q2.ofO
  rw [hK]
  refine cmp_go p2.same (RepR.lift k1 p12.lift (RepR.there k1)) k2 e3 (fun z => absurd z hn) ⟨k, rfl, ?_⟩
  cases k with
  | false => exact go false ρ2 F2 H2 As2 _ p2 q3
  | true =>
    simp only [if_true] at q3 ⊢
    refine ⟨F2, ρ2, As2, p2.pre, Fin.bind p2 q3 fun rc ρ3 z F3 H3 As3 C3 e4 p3 p23 k3 q4 => ?_⟩
    obtain ⟨k', e5, q5⟩ := q4.ofO
    exact cmp_go p3.same (RepR.lift k2 p23.lift (RepR.there k2)) k3 e5 (fun z => absurd z hn') (go k' ρ3 F3 H3 As3 _ p3 q5)
theorem lastMarks2 {op op' : CmpOp} {b c : Expr} (hm : behindInMarks op' c = false) : lastMarks [op, op'] [b, c] = false := hm
theorem snd_chain (hK : X.K = w.K) (hu : X.A.units + 65 < cLine) (ha : PE X ea (tEv S h w W a)) (hb : PE X eb (tEv S h w W b)) (hc : PE X ec (tEv S h w W c)) (hn : ¬ (o = .isn ∨ o = .notn)) (hn' : ¬ (o' = .isn ∨ o' = .notn)) (hm : behindInMarks (copOf o') ec = false) :
    PE X (.Compare ea [copOf o, copOf o'] [eb, ec] pos) (tEv S h w W (.chain o o' a b c)) := by
  refine PE.of (pe_chain (op_C hu o) (op_C hu o') ha hb hc (lastMarks2 hm)) fun σ H Q ⟨F, ρ, As, p, q⟩ => ?_
  rw [evalE] at q
  exact snd_chain2 (rp := rpR w) (W := W) (kk := fun c ρ => Res.ok (R.val (D.bl c)) ρ) hK hc hn hn' p q fun c ρ2 F2 H2 As2 C2 p2 q2 => fin_val (rp := rpR w) q2 p2 (.bl .nil) (by simp)
theorem snd_tchain (hK : X.K = w.K) (hu : X.A.units + 65 < cLine) (ha : PE X ea (tEv S h w W a)) (hb : PE X eb (tEv S h w W b)) (hc : PE X ec (tEv S h w W c)) (hn : ¬ (o = .isn ∨ o = .notn)) (hn' : ¬ (o' = .isn ∨ o' = .notn)) (hm : behindInMarks (copOf o') ec = false) :
    PT X (.Compare ea [copOf o, copOf o'] [eb, ec] pos) (tTv S h w W (.e (.chain o o' a b c))) := by
  refine PT.of (pt_chain (op_C hu o) (op_C hu o') ha hb hc (lastMarks2 hm)) fun σ H Q ⟨F, ρ, As, p, q⟩ => ?_
  rw [evalT, evalE] at q
  have q' : Fin rpB w σ W F H ρ As ((evalE S h a ρ).bind fun x ρ => (evalE S h b ρ).bind fun y ρ => (Res.of (cmpD o x.d y.d) ρ).bind fun k ρ =>
      if k then (evalE S h c ρ).bind fun z ρ => (Res.of (cmpD o' y.d z.d) ρ).bind fun c ρ => .ok c ρ else (fun c ρ => Res.ok c ρ) false ρ) Q := by
    refine Eq.mp ?_ q
    congr 1
    cases evalE S h a ρ with
    | bad => rfl
    | exc c xs ρ' => rfl
    | ok r ρ1 =>
      simp only [Res.bind_ok]
      cases evalE S h b ρ1 with
      | bad => rfl
      | exc c xs ρ' => rfl
      | ok r2 ρ2 =>
        simp only [Res.bind_ok]
        cases cmpD o r.d r2.d with
        | none => rfl
        | some k =>
          cases k with
          | false => rfl
          | true =>
            simp only [Res.of_some, Res.bind_ok, if_true]
            cases evalE S h c ρ2 with
            | bad => rfl
            | exc c xs ρ' => rfl
            | ok r3 ρ3 =>
              simp only [Res.bind_ok]
              cases cmpD o' r2.d r3.d <;> rfl
  exact snd_chain2 (kk := fun c ρ => .ok c ρ) (Q := fun x H' => ∃ k, x = .bl k ∧ Q k H') hK hc hn hn' p q' fun c ρ2 F2 H2 As2 C2 p2 q2 => ⟨c, rfl, fin_b q2 p2⟩

/-! ### and, or, not, if -/
def bopOf : Bool → BoolOp
  | true => .And
  | false => .Or
theorem snd_b1 {k : Bool} (ha : PE X ea (tEv S h w W a)) : PE X (.BoolOp (bopOf k) [ea] pos) (tBv S h w W k [a]) := PE.of (pe_one ha) fun σ H Q q => q
theorem snd_b2 {k : Bool} {ss : List Ex} {es : List Expr} (hK : X.K = w.K) (ha : PE X ea (tEv S h w W a)) (hb : PE X (.BoolOp (bopOf k) (eb :: es) pos) (tBv S h w W k (b :: ss))) : PE X (.BoolOp (bopOf k) (ea :: eb :: es) pos) (tBv S h w W k (a :: b :: ss)) := by
  have go : ∀ (σ : L2.St) (H : Hp) (Q : VK), tBv S h w W k (a :: b :: ss) σ H Q → tEv S h w W a σ H fun x H1 => ∃ c, TruV X.K x H1 c ∧ if c = k then tBv S h w W k (b :: ss) σ H1 Q else Q x H1 := by
    intro σ H Q ⟨F, ρ, As, p, q⟩
    rw [evalB] at q
    refine ⟨F, ρ, As, p, q.bind0 fun r ρ1 v F1 H1 As1 C1 e1 p1 k1 q1 => ?_⟩
    obtain ⟨c, e2, q2⟩ := q1.ofO
    refine ⟨c, truV_of (F := F1) hK (RepR.view k1 p1.same) e2, ?_⟩
    by_cases hc : c = k
    · rw [if_pos hc] at q2 ⊢
      refine ⟨F1, ρ1, As1, p1.pre, ?_⟩
      have q2' : Fin (rpR w) w σ W F H ρ As ((evalB S h k (b :: ss) ρ1).bind fun r ρ => .ok r ρ) Q := by
        cases e3 : evalB S h k (b :: ss) ρ1 <;> rw [e3] at q2 <;> exact q2
      exact Fin.bind p1 q2' fun r2 ρ2 v2 F2 H2 As2 C2 e2 p2 p12 k2 q3 => q3 v2 F2 H2 As2 C2 (p2.weak fun a => by rw [List.count_append]; omega) k2
    · rw [if_neg hc] at q2 ⊢
      exact q2 v F1 H1 As1 C1 p1 k1
  cases k with
  | true =>
    refine PE.of (pe_andT ha hb) fun σ H Q q => ?_
    obtain ⟨F, ρ, As, p, q⟩ := go σ H Q q
    exact ⟨F, ρ, As, p, q⟩
  | false =>
    refine PE.of (pe_orT ha hb) fun σ H Q q => ?_
    obtain ⟨F, ρ, As, p, q⟩ := go σ H Q q
    refine ⟨F, ρ, As, p, ?_⟩
    cases e : evalE S h a ρ with
    | bad => rw [e] at q; exact q
    | exc c xs ρ' => rw [e] at q; exact q
    | ok r ρ' =>
      rw [e] at q
      refine fun v F' H' As' C p' k' => ?_
      obtain ⟨c, tv, z⟩ := q v F' H' As' C p' k'
      refine ⟨c, tv, ?_⟩
      cases c with
      | true => simpa using z
      | false => simpa using z
theorem snd_bop {k : Bool} (hb : PE X (.BoolOp (bopOf k) es pos) (tBv S h w W k ss)) : PE X (.BoolOp (bopOf k) es pos) (tEv S h w W (.bop k ss)) :=
  PE.of hb fun σ H Q ⟨F, ρ, As, p, q⟩ => ⟨F, ρ, As, p, by rw [evalE] at q; exact q⟩
theorem snd_not (hK : X.K = w.K) (ha : PE X ea (tEv S h w W a)) : PE X (.UnaryOp .Not ea pos) (tEv S h w W (.not_ (.e a))) := by
  refine PE.of (pe_notT ha) fun σ H Q ⟨F, ρ, As, p, q⟩ => ?_
  rw [evalE, evalT] at q
  have q' : Fin (rpR w) w σ W F H ρ As ((evalE S h a ρ).bind fun r ρ => (Res.of (truth r.d) ρ).bind fun b ρ => .ok (.val (.bl (!b))) ρ) Q := by
    cases e : evalE S h a ρ <;> rw [e] at q <;> exact q
  refine ⟨F, ρ, As, p, q'.bind0 fun r ρ1 v F1 H1 As1 C1 e1 p1 k1 q1 => ?_⟩
  obtain ⟨c, e2, q2⟩ := q1.ofO
  exact ⟨c, truV_of (F := F1) hK (RepR.view k1 p1.same) e2, fin_val (rp := rpR w) q2 p1 (.bl .nil) (by simp)⟩
variable {t t' : Tx} {ts : List Tx}
/-- a test, then something -/
theorem tT_bind {σ : L2.St} {H F : Hp} {ρ : Env} {As : List (List Addr)} {α β : Type} {rp : RP β α} {Q : β → Hp → Prop} {kk : Bool → Env → Res α} (p : Pre w F H σ ρ As) (q : Fin rp w σ W F H ρ As ((evalT S h t ρ).bind kk) Q) {Q1 : Bool → Hp → Prop}
    (go : ∀ b ρ1 F1 H1 As1, Post w σ F H ρ As F1 H1 ρ1 As1 [] → Fin rp w σ W F H ρ As (kk b ρ1) Q → Q1 b H1) : tTv S h w W t σ H Q1 :=
  ⟨F, ρ, As, p, q.bind0 fun b ρ1 b' F1 H1 As1 C1 e1 p1 k1 q1 => by obtain ⟨rfl, rfl⟩ := k1; exact go _ ρ1 F1 H1 As1 p1 q1⟩
/-- the rest of an evaluation, from a later state -/
theorem fin_rest {σ : L2.St} {H F F1 H1 : Hp} {ρ ρ1 : Env} {As As1 : List (List Addr)} {α β : Type} {rp : RP β α} {Q : β → Hp → Prop} {m : Res α} (p : Post w σ F H ρ As F1 H1 ρ1 As1 []) (q : Fin rp w σ W F H ρ As m Q) : Fin rp w σ W F1 H1 ρ1 As1 m Q := by
  cases m with
  | bad => exact q
  | ok r ρ2 => exact fun v F2 H2 As2 C2 p2 k2 => q v F2 H2 As2 C2 (p.trans p2) k2
  | exc c xs ρ2 => exact fun d F2 H2 As2 p2 x => q d F2 H2 As2 (p.trans p2) x
theorem snd_ife (ht : PT X ec (tTv S h w W t)) (ha : PE X ea (tEv S h w W a)) (hb : PE X eb (tEv S h w W b)) : PE X (.IfExp ec ea eb pos) (tEv S h w W (.ife t a b)) := by
  refine PE.of (pe_ifExp ht ha hb) fun σ H Q ⟨F, ρ, As, p, q⟩ => ?_
  rw [evalE] at q
  refine tT_bind p q fun k ρ1 F1 H1 As1 p1 q1 => ?_
  cases k with
  | true => exact ⟨F1, ρ1, As1, p1.pre, fin_rest p1 q1⟩
  | false => exact ⟨F1, ρ1, As1, p1.pre, fin_rest p1 q1⟩
theorem snd_tnot (ht : PT X ec (tTv S h w W t)) : PT X (.UnaryOp .Not ec pos) (tTv S h w W (.not_ t)) := by
  refine PT.of (pt_not ht) fun σ H Q ⟨F, ρ, As, p, q⟩ => ?_
  rw [evalT] at q
  exact tT_bind p q fun k ρ1 F1 H1 As1 p1 q1 => fin_b q1 p1
theorem snd_tb1 {k : Bool} (ht : PT X ec (tTv S h w W t)) : PW X (.BoolOp (bopOf k) [ec] pos) (tBTv S h w W k [t]) := by
  have go : ∀ (σ : L2.St) (H : Hp) (Q : Bool → Hp → Prop), tBTv S h w W k [t] σ H Q → tTv S h w W t σ H Q := fun σ H Q ⟨F, ρ, As, p, q⟩ => by
    rw [evalBT] at q
    refine tT_bind p q fun b ρ1 F1 H1 As1 p1 q1 => ?_
    by_cases c : b = k
    · rw [if_pos c, evalBT] at q1; subst c; exact fin_b q1 p1
    · rw [if_neg c] at q1; exact fin_b q1 p1
  cases k with
  | true => exact PW.of (pw_and1 ht) go
  | false => exact PW.of (pw_or1 ht) go
theorem snd_tb2 {k : Bool} (ht : PT X ec (tTv S h w W t)) (hb : PW X (.BoolOp (bopOf k) (eb :: es) pos) (tBTv S h w W k (t' :: ts))) : PW X (.BoolOp (bopOf k) (ec :: eb :: es) pos) (tBTv S h w W k (t :: t' :: ts)) := by
  have go : ∀ (σ : L2.St) (H : Hp) (Q : Bool → Hp → Prop), tBTv S h w W k (t :: t' :: ts) σ H Q → tTv S h w W t σ H fun b H1 => if b = k then tBTv S h w W k (t' :: ts) σ H1 Q else Q b H1 := fun σ H Q ⟨F, ρ, As, p, q⟩ => by
    rw [evalBT] at q
    refine tT_bind p q fun b ρ1 F1 H1 As1 p1 q1 => ?_
    by_cases c : b = k
    · rw [if_pos c] at q1 ⊢; exact ⟨F1, ρ1, As1, p1.pre, fin_rest p1 q1⟩
    · rw [if_neg c] at q1 ⊢; exact fin_b q1 p1
  cases k with
  | true =>
    refine PW.of (pw_and ht hb) fun σ H Q q => ?_
    obtain ⟨F, ρ, As, p, q⟩ := go σ H Q q
    refine ⟨F, ρ, As, p, ?_⟩
    cases e : evalT S h t ρ with
    | bad => rw [e] at q; exact q
    | exc c xs ρ' => rw [e] at q; exact q
    | ok r ρ' =>
      rw [e] at q
      intro b F' H' As' C p' k'
      have z := q b F' H' As' C p' k'
      cases b with
      | true => simpa using z
      | false => simpa using z
  | false =>
    refine PW.of (pw_or ht hb) fun σ H Q q => ?_
    obtain ⟨F, ρ, As, p, q⟩ := go σ H Q q
    refine ⟨F, ρ, As, p, ?_⟩
    cases e : evalT S h t ρ with
    | bad => rw [e] at q; exact q
    | exc c xs ρ' => rw [e] at q; exact q
    | ok r ρ' =>
      rw [e] at q
      intro b F' H' As' C p' k'
      have z := q b F' H' As' C p' k'
      cases b with
      | true => simpa using z
      | false => simpa using z
theorem snd_tbop {k : Bool} {es : List Expr} (hb : PW X (.BoolOp (bopOf k) es pos) (tBTv S h w W k ts)) : PT X (.BoolOp (bopOf k) es pos) (tTv S h w W (.bop k ts)) :=
  PT.of hb.pt fun σ H Q ⟨F, ρ, As, p, q⟩ => ⟨F, ρ, As, p, by rw [evalT] at q; exact q⟩

/-! ### items and slices -/
theorem ixN_eq (n : Nat) (i : Int) : ixD n i = ixN n i := rfl
/-- the value whose part is asked for stands in G, and so may the part -/
theorem part_open {F0 H0 F H : Hp} {σ : L2.St} {ρ0 ρ : Env} {As0 As : List (List Addr)} {v : V} {r : R} {C Ct : List Addr} {Q : VK} (p : Post w σ F0 H0 ρ0 As0 F H ρ As Ct) (k : RepR w F H ρ As v r C)
    (hc : ∀ a, C.count a ≤ Ct.count a) : ∃ (G : Hp) (B : List Addr), Same G H ∧ Rep w G H v r.d B ∧
      ∀ x, Fin (rpR w) w σ W F0 H0 ρ0 As0 (part r x ρ) Q → ∀ u B', Rep w G H u x B' → (∀ a, B'.count a ≤ B.count a) → Q u H := by
  cases r with
  | val d =>
    cases k with
    | val k => exact ⟨F, C, p.same, k, fun x q u B' k' hb => fin_val (rp := rpR w) q p k' fun a => Nat.le_trans (hb a) (hc a)⟩
  | brw i d =>
    cases l : live i ρ with
    | false => exact ⟨H, C, Same.refl _, k.view p.same, fun x q => by simp only [part, l] at q; exact q.elim⟩
    | true =>
      obtain ⟨e', A, he, hA, k', rfl, m⟩ := brw_at p.pre k l
      refine ⟨_, [], (p.pre.freeze he hA).same, k', fun x q u B' k2 hb => ?_⟩
      have hB : B' = [] := List.eq_nil_iff_forall_not_mem.mpr fun a ha => by
        have h1 := List.count_pos_iff.mpr ha
        have h2 := hb a
        rw [List.count_nil] at h2
        omega
      subst hB
      simp only [part, l, if_true] at q
      by_cases im : x.imm = true
      · rw [if_pos im] at q
        exact fin_val (rp := rpR w) q p (k2.immC (by simp [D.immL, im]) (ov_imm m)).1 (by simp)
      · rw [if_neg im] at q
        refine q u F H As [] (p.weak (by simp)) (.brw (k2.mono (p.pre.freeze he hA).same (by simp)) fun A2 e2 hA2 he2 => ?_)
        rw [hA] at hA2; cases hA2
        exact k2
theorem get_of {F H : Hp} {ws : List V} {xs : List D} {A : List Addr} {i : Int} {x : D} (k : RepL w F H ws xs A) (e : ((ixD xs.length i).bind fun j => xs[j]?) = some x) : ∃ v B, atI ws i = some v ∧ Rep w F H v x B ∧ ∀ a, B.count a ≤ A.count a := by
  cases e2 : ixD xs.length i with
  | none => rw [e2] at e; simp at e
  | some j =>
    rw [e2] at e
    simp only [Option.bind_some] at e
    obtain ⟨v, B, h1, h2, h3⟩ := k.get e
    refine ⟨v, B, ?_, h2, h3⟩
    unfold atI
    rw [k.len, ← ixN_eq, e2]
    exact h1
end
end SL
set_option Elab.async false
set_option linter.all false
set_option maxRecDepth 100000
set_option maxHeartbeats 1000000
/-! SLSnd6: items, slices, fields, isinstance. -/
namespace SL
open PySem L2
section
variable {S : Sem} {h : Bool} {w : Wd} {W : WX} {X : Cx} {pos : Pos}
variable {s : Ex} {ss : List Ex} {e : Expr} {es : List Expr} {a b c : Ex} {ea eb ec : Expr}

theorem atI_map {α β : Type} (f : α → β) (xs : List α) (i : Int) : atI (xs.map f) i = (atI xs i).map f := by
  unfold atI
  rw [List.length_map]
  cases ixN xs.length i <;> simp
theorem strOk_sign {z : Str} {i : Int} {c : Nat} (hz : PyData.strOk z = true) (hc : atI z.cps.toList i = some c) : PyData.strOk ⟨#[c]⟩ = true := by
  unfold atI at hc
  cases e : ixN z.cps.toList.length i with
  | none => rw [e] at hc; simp at hc
  | some j =>
    rw [e] at hc
    simp only [Option.bind_some] at hc
    unfold PyData.strOk at hz ⊢
    rw [Array.all_eq_true_iff_forall_mem] at hz ⊢
    intro x hx
    simp at hx
    subst hx
    exact hz x (Array.mem_toList_iff.mp (List.mem_of_getElem? hc))
theorem snd_idx (hK : X.K = w.K) (ha : PE X ea (tEv S h w W a)) (hb : PE X eb (tEv S h w W b)) (hs : PlainIx eb) : PE X (.Subscript ea eb pos) (tEv S h w W (.idx a b)) := by
  refine PE.of (pe_ix ix_seq ha hb hs) fun σ H Q ⟨F, ρ, As, p, q⟩ => ?_
  rw [evalE] at q
  refine ⟨F, ρ, As, p, q.bind0 fun ra ρ1 v F1 H1 As1 C1 e1 p1 k1 q1 => ⟨F1, ρ1, As1, p1.pre, Fin.bind p1 q1 fun rb ρ2 u F2 H2 As2 C2 e2 p2 p12 k2 q2 => ?_⟩⟩
  have k1' := RepR.lift k1 p12.lift (RepR.there k1)
  have kv := k1'.view p2.same
  rw [hK]
  cases eb : rb.d with
  | int i =>
    have hu := RepR.int1 k2 eb
    subst hu
    obtain ⟨G, B, hG, kG, fin⟩ := part_open (W := W) (Q := Q) p2 k1' (fun a => by rw [List.count_append]; omega)
    cases ea : ra.d with
    | lst o xs =>
      simp only [idxR, ea, eb] at q2
      obtain ⟨x, e3, q3⟩ := q2.ofO
      rw [ea] at kG
      cases kG with
      | lstF h1 h2 h3 =>
        obtain ⟨y, B2, i1, i2, i3⟩ := get_of h2 e3
        exact .inl ⟨_, _, i, y, rfl, rfl, .of (hG _ _ h1), i1, fin x q3 y B2 i2 fun a => Nat.le_trans (i3 a) (by simp)⟩
      | lstO h1 h2 h3 =>
        obtain ⟨y, B2, i1, i2, i3⟩ := get_of h2 e3
        exact .inl ⟨_, _, i, y, rfl, rfl, .of h1, i1, fin x q3 y B2 i2 fun a => Nat.le_trans (i3 a) (by rw [List.count_cons, List.count_append]; omega)⟩
    | tup xs =>
      simp only [idxR, ea, eb] at q2
      obtain ⟨x, e3, q3⟩ := q2.ofO
      rw [ea] at kG
      cases kG with
      | tup h1 h2 h3 =>
        obtain ⟨y, B2, i1, i2, i3⟩ := get_of h2 e3
        exact .inr (.inl ⟨_, _, i, y, rfl, rfl, sqT_mono hG h1, i1, fin x q3 y B2 i2 fun a => Nat.le_trans (i3 a) (by simp)⟩)
    | scr ns =>
      simp only [idxR, ea, eb] at q2
      obtain ⟨x, e3, q3⟩ := q2.ofO
      rw [ea] at kv
      cases kv with
      | @scr p0 _ _ _ _ h1 h3 =>
        refine .inl ⟨p0, ns.map V.int, i, .int x, rfl, rfl, h1.sql, ?_, fin_val (rp := rpR w) q3 p2 (.int .nil) (by simp)⟩
        rw [atI_map]
        have : atI ns i = some x := e3
        rw [this]; rfl
    | str z =>
      simp only [idxR, ea, eb] at q2
      split at q2
      · rename_i hz
        obtain ⟨x, e3, q3⟩ := q2.ofO
        obtain ⟨hv, ok⟩ := RepR.str1 k1' ea
        have hx : atI z.cps.toList i = some x := e3
        exact .inr (.inr ⟨z, i, x, hv, rfl, hz, hx, fin_val (rp := rpR w) q3 p2 (.str (strOk_sign ok hx) .nil) (by simp)⟩)
      · exact q2.elim
    | _ => simp only [idxR, ea, eb] at q2; exact q2.elim
  | _ => cases ea : ra.d <;> simp only [idxR, ea, eb] at q2 <;> exact q2.elim

/-! ### slices -/
theorem cut_rep {F H : Hp} {ws : List V} {xs : List D} {lo hi : Option Int} (k : RepL w F H ws xs []) : RepL w F H (cutV ws lo hi) (cutD xs lo hi) [] := by
  unfold cutV cutD
  rw [k.len]
  obtain ⟨B, k1, h1⟩ := k.drop (HT.sIx xs.length 0 lo)
  have e1 : B = [] := List.eq_nil_iff_forall_not_mem.mpr fun a ha => by
    have h2 := List.count_pos_iff.mpr ha; have h3 := h1 a; rw [List.count_nil] at h3; omega
  subst e1
  obtain ⟨B, k2, h2⟩ := k1.take (HT.sIx xs.length xs.length hi - HT.sIx xs.length 0 lo)
  have e1 : B = [] := List.eq_nil_iff_forall_not_mem.mpr fun a ha => by
    have h2' := List.count_pos_iff.mpr ha; have h3 := h2 a; rw [List.count_nil] at h3; omega
  subst e1
  exact k2
theorem all_sub {p : Nat → Bool} {l l' : List Nat} (h : ∀ x ∈ l, p x = true) (s : ∀ x ∈ l', x ∈ l) : ∀ x ∈ l', p x = true := fun x hx => h x (s x hx)
theorem strOk_list {z : Str} : PyData.strOk z = true ↔ ∀ c ∈ z.cps.toList, c < 0x110000 := by
  unfold PyData.strOk
  rw [Array.all_eq_true_iff_forall_mem]
  constructor
  · intro h c hc; simpa using h c (Array.mem_toList_iff.mp hc)
  · intro h c hc; simpa using h c (Array.mem_toList_iff.mpr hc)
theorem strOk_cut {z : Str} {lo hi : Option Int} (hz : PyData.strOk z = true) : PyData.strOk (cutS z lo hi) = true := by
  rw [strOk_list] at hz ⊢
  intro c hc
  refine hz c ?_
  unfold cutS at hc
  simp at hc
  first
  | exact Array.mem_toList_iff.mpr (Array.mem_of_mem_extract hc)
  | (have := List.mem_of_mem_take hc; exact List.mem_of_mem_drop this)
theorem slc_go {F0 H0 F H : Hp} {σ : L2.St} {ρ0 ρ : Env} {As0 As : List (List Addr)} {v : V} {r : R} {C Ct : List Addr} {Q : VK} {lo hi : Option Int} (p : Post w σ F0 H0 ρ0 As0 F H ρ As Ct) (k : RepR w F H ρ As v r C)
    (hc : ∀ a, C.count a ≤ Ct.count a) (q : Fin (rpR w) w σ W F0 H0 ρ0 As0 (slcR r lo hi ρ) Q) : rSlL w.K v lo hi H Q ∨ (rSlD w.K v lo hi H Q ∨ rSlS v lo hi H Q) := by
  cases e : r.d with
  | lst o xs =>
    simp only [slcR, e] at q
    obtain ⟨us, ρ3, e3, q⟩ := q.of_ok elems_ne
    obtain ⟨F3, As3, a, ws, p3, l3, rfl, kk1, s1⟩ := elems_ok (C' := []) p k (fun a => by simpa using hc a) e3
    rw [e] at s1
    exact .inl ⟨a, ws, rfl, .of s1, fin_lst q p3 (cut_rep kk1)⟩
  | tup xs =>
    simp only [slcR, e] at q
    cases r with
    | brw i d => exact q.elim
    | val d =>
      simp only [R.d] at e
      subst e
      cases k with
      | val k =>
        cases k with
        | @tup a ws _ _ _ _ h1 h2 h3 =>
          cases h3
          refine .inr (.inl ⟨a, ws, rfl, sqT_mono p.same h1, fun hw => ?_, fun _ => fin_tup q (p.weak (by simp)) (cut_rep h2)⟩)
          have e1 : cutD xs lo hi = xs := by
            unfold cutD
            rw [h2.len] at hw
            rw [hw.1, hw.2]; simp
          have q' : Fin (rpR w) w σ W F0 H0 ρ0 As0 (Res.ok (R.val (D.tup (cutD xs lo hi))) ρ) Q := q
          rw [e1] at q'
          exact fin_val (rp := rpR w) q' p (.tup h1 h2 .nil) (by simp)
  | str z =>
    simp only [slcR, e] at q
    split at q
    · rename_i hz
      obtain ⟨hv, ok⟩ := k.str1 e
      exact .inr (.inr ⟨z, hv, hz, fin_val (rp := rpR w) q p (.str (strOk_cut ok) .nil) (by simp)⟩)
    · exact q.elim
  | _ => simp only [slcR, e] at q; exact q.elim
theorem RepR.intP {F H : Hp} {ρ : Env} {As : List (List Addr)} {C : List Addr} {v : V} {r : R} {i : Int} (k : RepR w F H ρ As v r C) (e : r.int? = some i) : v = .int i := by
  cases r with
  | val d => cases d <;> simp [R.int?] at e; subst e; exact k.int1 rfl
  | brw _ _ => simp [R.int?] at e
/-- an optional part: at most one expression -/
def tOv (S : Sem) (h : Bool) (w : Wd) (W : WX) : List Ex → TO
  | [] => tNoPart
  | [s] => tPart (tEv S h w W s)
  | _ => fun _ _ _ => False
/-- a part is read -/
theorem tOv_go {ss : List Ex} {F H F1 H1 : Hp} {σ : L2.St} {ρ ρ1 : Env} {As As1 : List (List Addr)} {C1 : List Addr} {β α : Type} {rp : RP β α} {Q : β → Hp → Prop} {kk : List R → Env → Res α} {Q1 : Option Int → Hp → Prop}
    (hs : ss.length ≤ 1) (p1 : Post w σ F H ρ As F1 H1 ρ1 As1 C1) (q : Fin rp w σ W F H ρ As ((evalEs S h ss ρ1).bind kk) Q)
    (hk : ∀ rs ρ2 F2 H2 As2 C2, Post w σ F H ρ As F2 H2 ρ2 As2 (C1 ++ C2) → Post w σ F1 H1 ρ1 As1 F2 H2 ρ2 As2 C2 → Fin rp w σ W F H ρ As (kk rs ρ2) Q → ∃ i, partR rs = some i)
    (go : ∀ rs i ρ2 F2 H2 As2 C2, partR rs = some i → Post w σ F H ρ As F2 H2 ρ2 As2 (C1 ++ C2) → Post w σ F1 H1 ρ1 As1 F2 H2 ρ2 As2 C2 → Fin rp w σ W F H ρ As (kk rs ρ2) Q → Q1 i H2) : tOv S h w W ss σ H1 Q1 := by
  match ss, hs with
  | [], _ =>
    rw [evalEs] at q
    exact go [] none ρ1 F1 H1 As1 [] rfl (p1.weak fun a => by simp) p1.pre.post q
  | [s], _ =>
    rw [evalEs] at q
    have q' : Fin rp w σ W F H ρ As ((evalE S h s ρ1).bind fun r ρ => kk [r] ρ) Q := by
      have e : (((evalE S h s ρ1).bind fun r ρ => (evalEs S h [] ρ).bind fun rs ρ => Res.ok (r :: rs) ρ).bind kk) = ((evalE S h s ρ1).bind fun r ρ => kk [r] ρ) := by
        cases evalE S h s ρ1 with
        | bad => rfl
        | exc c xs ρ' => rfl
        | ok r ρ2 => simp only [Res.bind_ok, evalEs]
      rw [e] at q; exact q
    refine ⟨F1, ρ1, As1, p1.pre, Fin.bind p1 q' fun r ρ2 v F2 H2 As2 C2 e2 p2 p12 k2 q2 => ?_⟩
    obtain ⟨i, hi⟩ := hk [r] ρ2 F2 H2 As2 C2 p2 p12 q2
    simp only [partR, Option.map_eq_some_iff] at hi
    obtain ⟨j, hj, rfl⟩ := hi
    exact ⟨j, RepR.intP k2 hj, go [r] (some j) ρ2 F2 H2 As2 C2 (by simp [partR, hj]) p2 p12 q2⟩
theorem snd_slc {lo hi : List Ex} {el eh : Option Expr} {p2 : Pos} (hK : X.K = w.K) (ha : PE X ea (tEv S h w W a)) (hl : PO X el (tOv S h w W lo)) (hh : PO X eh (tOv S h w W hi)) (nl : lo.length ≤ 1) (nh : hi.length ≤ 1) :
    PE X (.Subscript ea (.Slice el eh none p2) pos) (tEv S h w W (.slc a lo hi)) := by
  refine PE.of (pe_slice (SlR.or sl_list (SlR.or sl_tupD sl_str)) ha hl hh) fun σ H Q ⟨F, ρ, As, p, q⟩ => ?_
  rw [evalE] at q
  refine ⟨F, ρ, As, p, q.bind0 fun ra ρ1 v F1 H1 As1 C1 e1 p1 k1 q1 => ?_⟩
  refine tOv_go nl p1 q1 (fun rs ρ2 F2 H2 As2 C2 p2 p12 q2 => ?_) fun rs i ρ2 F2 H2 As2 C2 hi p2 p12 q2 => ?_
  · obtain ⟨a, e, _⟩ := Fin.ofO q2; exact ⟨a, e⟩
  · obtain ⟨i', e, q2⟩ := q2.ofO
    rw [hi] at e; cases e
    refine tOv_go nh p2 q2 (fun us ρ3 F3 H3 As3 C3 p3 p23 q3 => ?_) fun us j ρ3 F3 H3 As3 C3 hj p3 p23 q3 => ?_
    · obtain ⟨a, e, _⟩ := Fin.ofO q3; exact ⟨a, e⟩
    · obtain ⟨j', e, q5⟩ := q3.ofO
      rw [hj] at e; cases e
      rw [hK]
      have k1' := RepR.lift (RepR.lift k1 p12.lift (RepR.there k1)) p23.lift (fun a h => same_no p12.sH (RepR.there k1 a h))
      exact slc_go p3 k1' (fun a => by simp only [List.count_append]; omega) q5
end
end SL
set_option Elab.async false
set_option linter.all false
set_option maxRecDepth 100000
set_option maxHeartbeats 1000000
/-! SLCall: what a def promises, and what a call leaves. -/
namespace SL
open PySem L2

/-- behind a call: everything stands, the result is new -/
abbrev CPost (w : Wd) (F H F' H' : Hp) (C : List Addr) : Prop := Post w [] F H [] [] F' H' [] [] C
def FinO (w : Wd) (F H : Hp) (o : Option Out) (Q : VK) (E : XK) : Prop := match o with
  | none => False
  | some (.ret d) => ∀ v F' H' C, CPost w F H F' H' C → Rep w F' H' v d C → Q v H'
  | some (.exc c xs) => ∀ d F' H', CPost w F H F' H' [] → RepX w F' c xs d → E (.ref (w.ca c)) d H'
def spF (w0 : Wd) (o : List D → Option Out) : Sp := fun vs H Q E => ∃ F ds, Same F H ∧ RepL w0 F H vs ds [] ∧ FinO w0 F H (o ds) Q E

section
variable {w w0 : Wd} {F H F' H' F0 H0 G : Hp} {σ : L2.St} {ρ ρ' ρ0 : Env} {As As' As0 : List (List Addr)} {C C1 Ct : List Addr} {W : WX}

/-- the worlds that differ by the handled exception alone -/
structure Wd.Like (w0 w : Wd) : Prop where
  K : w.K = w0.K
  ca : w.ca = w0.ca
  fn : w.fn = w0.fn
  no : w0.hx = none
theorem RepL.toW (l : w0.Like w) {vs : List V} {ds : List D} {A : List Addr} (r : RepL w0 F H vs ds A) : RepL w F H vs ds A := by
  induction r with
  | nil => exact .nil
  | non _ ih => exact .non ih
  | bl _ ih => exact .bl ih
  | int _ ih => exact .int ih
  | str k _ ih => exact .str k ih
  | scr k _ ih => exact .scr (by rw [l.K]; exact k) ih
  | tup k _ _ i1 i2 => exact .tup (by rw [l.K]; exact k) i1 i2
  | lstF k _ _ i1 i2 => exact .lstF k i1 i2
  | lstO k _ _ i1 i2 => exact .lstO k i1 i2
  | insF k h _ _ i1 i2 => exact .insF (by rw [l.ca, l.fn]; exact k) (by rw [l.fn]; exact h) i1 i2
  | insO k h _ _ i1 i2 => exact .insO (by rw [l.ca, l.fn]; exact k) (by rw [l.fn]; exact h) i1 i2
  | exn e _ _ _ _ _ _ => rw [l.no] at e; cases e
  | exn0 e _ _ => rw [l.no] at e; cases e
theorem RepL.toW0 (l : w0.Like w) {vs : List V} {ds : List D} {A : List Addr} (r : RepL w F H vs ds A) (n : D.noXL ds = true) : RepL w0 F H vs ds A := by
  induction r with
  | nil => exact .nil
  | non _ ih => exact .non (ih (by simpa [D.noXL, D.noX] using n))
  | bl _ ih => exact .bl (ih (by simpa [D.noXL, D.noX] using n))
  | int _ ih => exact .int (ih (by simpa [D.noXL, D.noX] using n))
  | str k _ ih => exact .str k (ih (by simpa [D.noXL, D.noX] using n))
  | scr k _ ih => exact .scr (by rw [← l.K]; exact k) (ih (by simpa [D.noXL, D.noX] using n))
  | tup k _ _ i1 i2 =>
    simp only [D.noXL, D.noX, Bool.and_eq_true] at n
    exact .tup (by rw [← l.K]; exact k) (i1 n.1) (i2 n.2)
  | lstF k _ _ i1 i2 =>
    simp only [D.noXL, D.noX, Bool.and_eq_true] at n
    exact .lstF k (i1 n.1) (i2 n.2)
  | lstO k _ _ i1 i2 =>
    simp only [D.noXL, D.noX, Bool.and_eq_true] at n
    exact .lstO k (i1 n.1) (i2 n.2)
  | insF k h _ _ i1 i2 =>
    simp only [D.noXL, D.noX, Bool.and_eq_true] at n
    exact .insF (by rw [← l.ca, ← l.fn]; exact k) (by rw [← l.fn]; exact h) (i1 n.1) (i2 n.2)
  | insO k h _ _ i1 i2 =>
    simp only [D.noXL, D.noX, Bool.and_eq_true] at n
    exact .insO (by rw [← l.ca, ← l.fn]; exact k) (by rw [← l.fn]; exact h) (i1 n.1) (i2 n.2)
  | exn _ _ _ _ _ _ _ => simp [D.noXL, D.noX] at n
  | exn0 _ _ _ => simp [D.noXL, D.noX] at n
/-- where nothing is handled no exception is at hand -/
theorem RepL.noX (e : w.hx = none) {vs : List V} {ds : List D} {A : List Addr} (r : RepL w F H vs ds A) : D.noXL ds = true := by
  induction r with
  | nil => rfl
  | exn h _ _ _ _ _ _ => rw [e] at h; cases h
  | exn0 h _ _ => rw [e] at h; cases h
  | _ => simp_all [D.noXL, D.noX]
theorem noX_frz : ∀ (ds : List D), D.noXL ds = true → D.noXL (D.frzL ds) = true
  | [], _ => rfl
  | d :: ds, h => by
    simp only [D.noXL, Bool.and_eq_true] at h
    simp only [D.frzL, D.noXL, Bool.and_eq_true]
    refine ⟨?_, noX_frz ds h.2⟩
    cases d with
    | lst o xs => simp only [D.frz, D.noX] at h ⊢; exact noX_frz xs h.1
    | ins o c xs => simp only [D.frz, D.noX] at h ⊢; exact noX_frz xs h.1
    | _ => exact h.1

/-- the addresses of what is lent -/
def lent (As : List (List Addr)) : List R → List Addr
  | [] => []
  | .brw i _ :: rs => (As[i]?).getD [] ++ lent As rs
  | .val _ :: rs => lent As rs
theorem lent_own {rs : List R} {a : Addr} (h : 0 < (lent As rs).count a) : 0 < own As a := by
  induction rs with
  | nil => simp [lent] at h
  | cons r rs ih =>
    cases r with
    | val d => exact ih h
    | brw i d =>
      simp only [lent, List.count_append] at h
      by_cases q : 0 < (lent As rs).count a
      · exact ih q
      · cases e : As[i]? with
        | none => rw [e] at h; simp only [Option.getD_none, List.count_nil] at h; omega
        | some A =>
          rw [e] at h
          simp only [Option.getD_some] at h
          have := own_get e a; omega
/-- the arguments as the callee gets them: all frozen -/
theorem args_frz {vs : List V} {rs : List R} (p : Pre w F H σ ρ As) (k : RepRs w F H ρ As vs rs C) (l : liveAll rs ρ = true) (sG : Same F G) (hG : ∀ a, 0 < C.count a ∨ 0 < (lent As rs).count a → G a = H a) :
    RepL w G H vs (argsOf rs) [] := by
  induction k with
  | nil => exact .nil
  | @cons v r C1 vs rs C2 k1 _ ih =>
    have l2 : liveAll rs ρ = true := by
      cases r with
      | val d => exact l
      | brw i d => simp only [liveAll, Bool.and_eq_true] at l; exact l.2
    have r2 := ih l2 fun a h => hG a (by
      rcases h with h | h
      · exact .inl (by rw [List.count_append]; omega)
      · refine .inr ?_
        cases r with
        | val d => exact h
        | brw i d => simp only [lent, List.count_append]; omega)
    have r1 : Rep w G H v r.d.frz [] := by
      cases r with
      | val d =>
        cases k1 with
        | val k1 =>
          have := k1.frz (G := G) (H' := H) sG fun a h => hG a (.inl (by rw [List.count_append]; omega))
          simpa [D.frzL, R.d] using this
      | brw i d =>
        simp only [liveAll, Bool.and_eq_true] at l
        have ll : live i ρ = true := by
          have := l.1
          unfold live
          split at this
          · rfl
          · cases this
        obtain ⟨e', A, he, hA, k', _, m⟩ := brw_at p k1 ll
        have hs : Same (ov F H A) G := fun a o h => by
          unfold ov at h
          split at h
          · rename_i hc
            rw [hG a (.inr (by simp only [lent, hA, Option.getD_some, List.count_append]; omega))]; exact h
          · exact sG a o h
        have := k'.frz (G := G) (H' := H) hs (by simp)
        simpa [D.frzL, R.d] using this
    exact r1.cons r2
theorem noI_lst : ∀ {vs : List V} {ds : List D} {A : List Addr}, RepL w F H vs ds A → D.noIL ds = true → ∀ a, 0 < A.count a → ∃ ws, H a = some (.lst ws) := by
  intro vs ds A r
  induction r with
  | nil => intro _ a h; simp at h
  | non _ ih => intro n; exact ih (by simpa [D.noIL, D.noI] using n)
  | bl _ ih => intro n; exact ih (by simpa [D.noIL, D.noI] using n)
  | int _ ih => intro n; exact ih (by simpa [D.noIL, D.noI] using n)
  | str _ _ ih => intro n; exact ih (by simpa [D.noIL, D.noI] using n)
  | scr _ _ ih => intro n; exact ih (by simpa [D.noIL, D.noI] using n)
  | tup _ _ _ _ i2 => intro n; simp only [D.noIL, D.noI, Bool.and_eq_true] at n; exact i2 n.2
  | lstF _ _ _ _ i2 => intro n; simp only [D.noIL, D.noI, Bool.and_eq_true] at n; exact i2 n.2
  | @lstO b _ _ _ _ A1 B1 k _ _ i1 i2 =>
    intro n a h
    simp only [D.noIL, D.noI, Bool.and_eq_true] at n
    by_cases e : a = b
    · subst e; exact ⟨_, k⟩
    · simp only [List.count_cons, List.count_append, beq_iff_eq, Ne.symm e, if_false] at h
      by_cases q : 0 < List.count a B1
      · exact i1 n.1 a q
      · exact i2 n.2 a (by omega)
  | insF _ _ _ _ _ i2 => intro n; simp [D.noIL, D.noI] at n
  | insO _ _ _ _ _ i2 => intro n; simp [D.noIL, D.noI] at n
  | exn _ _ _ _ _ _ i2 => intro n; simp only [D.noIL, D.noI, Bool.and_eq_true] at n; exact i2 n.2
  | exn0 _ _ ih => intro n; simp only [D.noIL, D.noI, Bool.and_eq_true] at n; exact ih n.2
mutual
theorem noI_frz : ∀ d : D, d.noI = true → d.frz.noI = true
  | .lst _ xs, h => by simp only [D.frz, D.noI] at h ⊢; exact noI_frzL xs h
  | .ins _ _ _, h => by simp [D.noI] at h
  | .tup xs, h => h
  | .exn _ _, h => rfl
  | .non, _ => rfl
  | .bl _, _ => rfl
  | .int _, _ => rfl
  | .str _, _ => rfl
  | .scr _, _ => rfl
theorem noI_frzL : ∀ ds : List D, D.noIL ds = true → D.noIL (D.frzL ds) = true
  | [], _ => rfl
  | d :: ds, h => by
    simp only [D.noIL, Bool.and_eq_true] at h
    simp only [D.frzL, D.noIL, Bool.and_eq_true]
    exact ⟨noI_frz d h.1, noI_frzL ds h.2⟩
end
end
end SL
set_option Elab.async false
set_option linter.all false
set_option maxRecDepth 100000
/-! SLCallB: a call's end. -/
namespace SL
open PySem L2
section
variable {w w0 : Wd} {F H F' H' F0 H0 G F1 H1 : Hp} {σ : L2.St} {ρ ρ' ρ0 ρ1 : Env} {As As' As0 As1 : List (List Addr)} {C C1 Ct : List Addr} {W : WX}

/-- what a callee leaves, beside a frame that lent nothing -/
theorem CPost.frame (p : Pre w F H σ ρ As) (q : CPost w0 F H F' H' C) : Post w σ F H ρ As F' H' ρ As C := by
  have nz : ∀ a, 0 < own As a → H a ≠ none := fun a h => by
    obtain ⟨o, e, _⟩ := p.env.there a h
    rw [e]; simp
  have cz : ∀ a, 0 < C.count a → H a = none := fun a h => by
    rcases q.old a (by omega) with z | z
    · simp [own] at z
    · exact z
  have ez : ∀ a, own [] a = 0 := fun a => by simp [own]
  refine ⟨q.sF, q.sH, q.same, p.env.mono q.sF fun a h => ?_, fun a => ?_, fun a h => ?_, fun a h => ?_, fun a h1 h2 => ?_, fun a h => ?_, fun i => .inl ⟨rfl, rfl⟩⟩
  · obtain ⟨o, e, _⟩ := p.env.there a h
    rw [e]; exact q.sH a o e
  · have h1 := p.uni a; have h2 := q.uni a; have h3 := ez a
    by_cases hc : 0 < C.count a
    · by_cases ho : 0 < own As a
      · exact absurd (cz a hc) (nz a ho)
      · omega
    · omega
  · by_cases hc : 0 < C.count a
    · exact q.off a (by omega)
    · have ho : 0 < own As a := by omega
      cases e : F' a with
      | none => rfl
      | some o =>
        rcases q.new a (p.off a ho) (by rw [e]; simp) with z | z
        · simp [own] at z
        · exact absurd z (nz a ho)
  · by_cases hc : 0 < C.count a
    · exact .inr (cz a hc)
    · exact .inl (by omega)
  · rcases q.new a h1 h2 with z | z
    · simp [own] at z
    · exact .inr z
  · by_cases hc : 0 < C.count a
    · exact q.there a (by omega)
    · exact same_no q.sH (nz a (by omega))

theorem ov_app (F H : Hp) (A B : List Addr) : ov (ov F H A) H B = ov F H (A ++ B) := by
  funext a
  unfold ov
  rw [List.count_append]
  by_cases h1 : 0 < B.count a
  · rw [if_pos h1, if_pos (by omega)]
  · by_cases h2 : 0 < A.count a
    · rw [if_neg h1, if_pos h2, if_pos (by omega)]
    · rw [if_neg h1, if_neg h2, if_neg (by omega)]
theorem ov_congr {A B : List Addr} (h : ∀ a, 0 < A.count a ↔ 0 < B.count a) : ov F H A = ov F H B := by
  funext a
  unfold ov
  by_cases h1 : 0 < A.count a
  · rw [if_pos h1, if_pos ((h a).mp h1)]
  · rw [if_neg h1, if_neg fun z => h1 ((h a).mpr z)]
theorem lent_set {rs : List R} {i : Nat} {A : List Addr} (hA : As[i]? = some A) (a : Addr) : 0 < (A ++ lent (As.set i []) rs).count a ↔ 0 < (A ++ lent As rs).count a := by
  induction rs with
  | nil => simp [lent]
  | cons r rs ih =>
    cases r with
    | val d => exact ih
    | brw j d =>
      simp only [lent, List.count_append] at ih ⊢
      by_cases e : i = j
      · subst e
        have hl : i < As.length := (List.getElem?_eq_some_iff.mp hA).1
        rw [List.getElem?_set_self hl, hA]
        simp only [Option.getD_some, List.count_nil]
        omega
      · rw [List.getElem?_set_ne e]
        omega
/-- all that is lent is frozen -/
theorem Pre.freezeAll {rs : List R} (p : Pre w F H σ ρ As) (l : liveAll rs ρ = true) : ∃ As', Post w σ F H ρ As (ov F H (lent As rs)) H (frzAll rs ρ) As' [] := by
  induction rs generalizing F ρ As with
  | nil => exact ⟨As, by rw [lent, ov_nil]; exact p.post⟩
  | cons r rs ih =>
    cases r with
    | val d => exact ih p l
    | brw i d =>
      simp only [liveAll, Bool.and_eq_true] at l
      have ⟨e, he⟩ : ∃ e, ρ[i]? = some (some e) := by
        have h1 := l.1
        split at h1
        · rename_i e he; exact ⟨e, he⟩
        · cases h1
      obtain ⟨v, A, hv, hA, k⟩ := p.env.get he
      have f := p.freeze he hA
      have l2 : liveAll rs (ρ.set i (some e.frz)) = true := by
        have h2 := l.2
        clear ih l
        induction rs with
        | nil => rfl
        | cons r rs ih2 =>
          cases r with
          | val d => exact ih2 h2
          | brw j d =>
            simp only [liveAll, Bool.and_eq_true] at h2 ⊢
            refine ⟨?_, ih2 h2.2⟩
            by_cases c : i = j
            · subst c
              have hl : i < ρ.length := (List.getElem?_eq_some_iff.mp he).1
              rw [List.getElem?_set_self hl]
              have h1 := h2.1
              rw [he] at h1
              exact noI_frz e h1
            · rw [List.getElem?_set_ne c]; exact h2.1
      obtain ⟨As', q⟩ := ih f.pre l2
      refine ⟨As', ?_⟩
      have t := (f.trans q).weak (C' := []) (by simp)
      rw [ov_app, ov_congr (B := lent As (.brw i d :: rs)) (fun a => by
        have z := lent_set (rs := rs) hA a
        simp only [lent, hA, Option.getD_some]; exact z)] at t
      rw [frzAll, frzAt_of he]
      exact t
/-- what was lent is taken back: it stands as it did -/
theorem CPost.back {rs : List R} (p : Pre w F H σ ρ As) (l : liveAll rs ρ = true) (q : CPost w0 (ov F H (lent As rs)) H F' H' C) :
    Post w σ F H ρ As (fun a => if 0 < (lent As rs).count a then none else F' a) H' ρ As C ∧
    ∀ a o, F' a = some o → (∀ xs, o ≠ .lst xs) → (fun a => if 0 < (lent As rs).count a then none else F' a) a = some o := by
  have nz : ∀ a, 0 < own As a → H a ≠ none := fun a h => by
    obtain ⟨o, e, _⟩ := p.env.there a h
    rw [e]; simp
  have cz : ∀ a, 0 < C.count a → H a = none := fun a h => by
    rcases q.old a (by omega) with z | z
    · simp [own] at z
    · exact z
  have ez : ∀ a, own [] a = 0 := fun a => by simp [own]
  have lo : ∀ a, 0 < (lent As rs).count a → 0 < own As a := fun a h => lent_own h
  have nl : ∀ a o, F a = some o → ¬ 0 < (lent As rs).count a := fun a o e h => by rw [p.off a (lo a h)] at e; cases e
  have sF : Same F (fun a => if 0 < (lent As rs).count a then none else F' a) := fun a o e => by
    show (if 0 < (lent As rs).count a then none else F' a) = some o
    rw [if_neg (nl a o e)]
    exact q.sF a o (by unfold ov; rw [if_neg (nl a o e)]; exact e)
  refine ⟨⟨sF, q.sH, fun a o e => ?_, p.env.mono sF fun a h => ?_, fun a => ?_, fun a h => ?_, fun a h => ?_, fun a h1 h2 => ?_, fun a h => ?_, fun i => .inl ⟨rfl, rfl⟩⟩, fun a o e n => ?_⟩
  · have e' : (if 0 < (lent As rs).count a then none else F' a) = some o := e
    split at e'
    · cases e'
    · exact q.same a o e'
  · obtain ⟨o, e, _⟩ := p.env.there a h
    rw [e]; exact q.sH a o e
  · have h1 := p.uni a; have h2 := q.uni a; have h3 := ez a
    by_cases hc : 0 < C.count a
    · by_cases ho : 0 < own As a
      · exact absurd (cz a hc) (nz a ho)
      · omega
    · omega
  · show (if 0 < (lent As rs).count a then none else F' a) = none
    split
    · rfl
    · rename_i hn
      by_cases hc : 0 < C.count a
      · exact q.off a (by omega)
      · have ho : 0 < own As a := by omega
        cases e : F' a with
        | none => rfl
        | some o =>
          rcases q.new a (by unfold ov; rw [if_neg hn]; exact p.off a ho) (by rw [e]; simp) with z | z
          · simp [own] at z
          · exact absurd z (nz a ho)
  · by_cases hc : 0 < C.count a
    · exact .inr (cz a hc)
    · exact .inl (by omega)
  · have h2' : (if 0 < (lent As rs).count a then none else F' a) ≠ none := h2
    split at h2'
    · exact absurd rfl h2'
    · rename_i hn
      rcases q.new a (by unfold ov; rw [if_neg hn]; exact h1) h2' with z | z
      · simp [own] at z
      · exact .inr z
  · by_cases hc : 0 < C.count a
    · exact q.there a (by omega)
    · exact same_no q.sH (nz a (by omega))
  · show (if 0 < (lent As rs).count a then none else F' a) = some o
    split
    · rename_i hl
      have ⟨ws, hw⟩ : ∃ ws, H a = some (.lst ws) := by
        clear sF nl lo q ez cz nz e n
        induction rs with
        | nil => simp [lent] at hl
        | cons r rs ih =>
          cases r with
          | val d => exact ih l hl
          | brw i d =>
            simp only [liveAll, Bool.and_eq_true] at l
            simp only [lent, List.count_append] at hl
            by_cases c : 0 < (lent As rs).count a
            · exact ih l.2 c
            · have h1 := l.1
              split at h1
              · rename_i e he
                obtain ⟨v, A, hv, hA, k⟩ := p.env.get he
                rw [hA] at hl
                simp only [Option.getD_some] at hl
                exact noI_lst k (by simp only [D.noIL, Bool.and_true]; exact h1) a (by omega)
              · cases h1
      have h1 := q.sF a _ (by unfold ov; rw [if_pos hl]; exact hw)
      rw [e] at h1
      cases h1
      exact absurd rfl (n ws)
    · exact e
end
end SL
set_option Elab.async false
set_option linter.all false
set_option maxRecDepth 100000
/-! SLCallC: calls of defs. -/
namespace SL
open PySem L2
section
variable {w w0 : Wd} {F H F' H' F0 H0 G F1 H1 : Hp} {σ : L2.St} {ρ ρ' ρ0 ρ1 : Env} {As As' As0 As1 : List (List Addr)} {C C1 Ct : List Addr} {W : WX} {h : Bool}

theorem RepX.thaw {c : Nat} {xs : List D} {d : Option Addr} (l : w0.Like w) (r : RepX w0 F c xs d) (n : D.noFL xs = true) (s : ∀ a o, F a = some o → (∀ xs, o ≠ .lst xs) → G a = some o) : RepX w G c xs d := by
  cases d with
  | none => exact r
  | some dd =>
    obtain ⟨ws, h1, h2, h3⟩ := r
    refine ⟨ws, ?_, ?_, ?_⟩
    · rw [l.fn]; exact s _ _ h1 fun _ => by intro z; cases z
    · rw [l.fn]; exact h2
    · exact ((RepL.toW l h3).thaw n s).mono (Same.refl _) (by simp)
theorem RepX.to (l : w0.Like w) {c : Nat} {xs : List D} {d : Option Addr} (r : RepX w0 F c xs d) : RepX w F c xs d := by
  cases d with
  | none => exact r
  | some dd =>
    obtain ⟨ws, h1, h2, h3⟩ := r
    exact ⟨ws, by rw [l.fn]; exact h1, by rw [l.fn]; exact h2, RepL.toW l h3⟩
/-- a call's arguments are read; what is behind it is what the evaluator says -/
theorem call_go {o : List D → Option Out} {rs : List R} {vs : List V} {Q : VK} (l0 : w0.Like w) (hx : h = false → w.hx = none) (p : Post w σ F0 H0 ρ0 As0 F H ρ As C) (k : RepRs w F H ρ As vs rs C)
    (q : Fin (rpR w) w σ W F0 H0 ρ0 As0 (callR h rs o ρ) Q) : spF w0 o vs H Q (fun cls d H' => W cls d σ H') := by
  unfold callR at q
  split at q
  · rename_i hc
    simp only [Bool.and_eq_true] at hc
    obtain ⟨sh, _⟩ := p.shed (B := C) (C' := []) (by simp)
    have pr := sh.pre
    have l := hc.1
    obtain ⟨As2, fz⟩ := pr.freezeAll l
    have ra : RepL w (ov (ov F H C) H (lent As rs)) H vs (argsOf rs) [] := by
      refine args_frz p.pre k l ?_ fun a z => ?_
      · intro a u e
        exact fz.sF a u (((p.shed (B := C) (C' := []) (by simp)).2).sF a u e)
      · unfold ov
        by_cases c2 : 0 < (lent As rs).count a
        · rw [if_pos c2]
        · rw [if_neg c2, if_pos (z.elim id fun z => absurd z c2)]
    have nx : D.noXL (argsOf rs) = true := by
      cases h with
      | true => simpa using hc.2
      | false => exact RepL.noX (hx rfl) ra
    refine ⟨_, argsOf rs, fz.same, RepL.toW0 l0 ra nx, ?_⟩
    cases e : o (argsOf rs) with
    | none => rw [e] at q; exact q.elim
    | some out =>
      rw [e] at q
      cases out with
      | ret d =>
        intro v F' H' C' cp r
        have r' := RepL.toW l0 r
        by_cases n : d.noF = true
        · simp only [after, n, if_true] at q
          obtain ⟨b, th⟩ := CPost.back pr l cp
          exact q v _ H' As C' ((sh.trans b).weak (by simp)) (.val (r'.thaw (by simp [D.noFL, n]) th))
        · simp only [after, n, if_false] at q
          have b := CPost.frame fz.pre cp
          exact q v F' H' As2 C' (((sh.trans fz).trans b).weak (by simp)) (.val r')
      | exc c xs =>
        intro d F' H' cp r
        have ca : w0.ca = w.ca := l0.ca.symm
        rw [ca]
        by_cases n : D.noFL xs = true
        · simp only [after, n, if_true] at q
          obtain ⟨b, th⟩ := CPost.back pr l cp
          exact q d _ H' As ((sh.trans b).weak (by simp)) (RepX.thaw l0 r n th)
        · simp only [after, n, if_false] at q
          have b := CPost.frame fz.pre cp
          exact q d F' H' As2 (((sh.trans fz).trans b).weak (by simp)) (RepX.to l0 r)
  · exact q.elim
end
end SL
set_option Elab.async false
set_option linter.all false
set_option maxRecDepth 100000
/-! SLFx: what is known of the program; calls of defs and methods, making. -/
namespace SL
open PySem L2

/-- names -/
structure NT where
  fn : Nat → Str
  cl : Nat → Str
  at_ : Nat → Str
  gl : Nat → Str
  /-- defs with a name of their own; plain classes -/
  gf : Nat → Bool
  gc : Nat → Bool
  /-- classes of isinstance -/
  oc : Nat → Bool
  /-- exceptions that are raised -/
  rc : Nat → Bool
  /-- the names in except clauses -/
  xn : Nat → Str

def icU (w : Wd) : Ic → Value
  | .int => .type "int"
  | .bool => .type "bool"
  | .str => .type "str"
  | .tuple => .type "tuple"
  | .list => .type "list"
  | .ve => .type "ValueError"
  | .cls c => .ref (w.ca c)
def icV (w : Wd) : Ic → V
  | .int => .ty "int"
  | .bool => .ty "bool"
  | .str => .ty "str"
  | .tuple => .ty "tuple"
  | .list => .ty "list"
  | .ve => .ty "ValueError"
  | .cls c => .ref (w.ca c)
/-- __class__ is object's -/
structure ClsOb (K : PySem.W.Frag) (C : Addr) : Prop where
  ha : PySem.W.findIn K (.ref C) "__class__" = some (some (.builtin "object.__class__"))
  hn : PySem.W.specialIn K (.builtin "object.__class__") "__get__" = some (some (.builtin "getset_descriptor.__get__"))
  htk : PySem.W.takesIn K (.builtin "object.__class__") = some true
  hm : PySem.W.mroIn K C (.type "object") = some true
/-- __init__'s promise: H1 the heap ahead of the instance -/
def spI (w0 : Wd) (c : Nat) (o : List D → Option Out) : Sp := fun vs H Q E => ∃ H1 x dx us F ds, vs = .ref x :: us ∧ H1 x = none ∧ H1 dx = none ∧ dx ≠ x ∧
  H = upd (upd H1 dx (.own x)) x (.ins (w0.ca c) dx []) ∧ Same F H1 ∧ RepL w0 F H1 us ds [] ∧ FinO w0 F H1 (o ds) (fun v H' => v = .ref x → Q .non H') E
theorem FinO.imp {w : Wd} {F H : Hp} {o : Option Out} {Q Q' : VK} {E : XK} (h : FinO w F H o Q E) (k : ∀ v H, Q v H → Q' v H) : FinO w F H o Q' E := by
  cases o with
  | none => exact h
  | some r =>
    cases r with
    | ret d => exact fun v F' H' C c r => k _ _ (h v F' H' C c r)
    | exc c xs => exact h

structure World0 where
  P : Program
  w : World
  mg : Str → Option Value
  base : Heap
structure FnAt (W0 : World0) (w0 : Wd) (fa : Nat → Addr) (S : Sem) (k : Nat) (f : Nat) : Prop where
  ex : ∃ (fd : FuncData) (ps : List Str), Binds w0.K fd ps [] ∧ FnOk W0.P W0.w w0.K W0.mg W0.base (L2N.CX W0.P W0.w) k (fa f) fd ps (spF w0 (S.fn false f)) ∧
    L2H.FnH W0.P W0.w w0.K W0.mg W0.base (L2N.CX W0.P W0.w) k (fa f) fd ps (spF w0 (S.fn true f))
  kp : PySem.W.keepIn w0.K (.ref (fa f)) = true
structure NewAt (W0 : World0) (w0 : Wd) (S : Sem) (k : Nat) (c : Nat) : Prop where
  ex : ∃ (f : Addr) (fd : FuncData) (ps : List Str), Mk w0.K (w0.ca c) f ∧ Binds w0.K fd ps [] ∧ FnOk W0.P W0.w w0.K W0.mg W0.base (L2N.CX W0.P W0.w) k f fd ps (spI w0 c (S.new false c))
/-- what a promise of an exception's __init__ is (SLRz) -/
def spX (K : PySem.W.Frag) (C : Addr) (gs : List Str) : Sp := fun vs H Q _ => ∃ a ys, vs = .ref a :: ys ∧ ys.length = gs.length ∧ OexC K C ∧ (∀ g ∈ gs, PySem.W.findIn K (.ref C) g = some none) ∧ gs.length ≤ 800 ∧ H a = some (exo a C none) ∧
  ∀ dx, H dx = none → dx ≠ a → Q .non (upd (upd H dx (exd dx (gs.zip ys).reverse)) a (exo a C (some dx)))
structure RzAt (T : NT) (W0 : World0) (w0 : Wd) (S : Sem) (c : Nat) : Prop where
  ex : ∃ (fI : Addr) (fd : FuncData) (ps : List Str), PySem.W.findIn w0.K (.ref (w0.ca c)) "__init__" = some (some (.ref fI)) ∧ PySem.W.typeIn w0.K (.ref fI) = some (.type "function") ∧ Binds w0.K fd ps [] ∧
    FnOk W0.P W0.w w0.K W0.mg W0.base (L2N.CX W0.P W0.w) 1 fI fd ps (spX w0.K (w0.ca c) (w0.fn c).reverse)
  cls : OexC w0.K (w0.ca c)
  no : ∀ g ∈ w0.fn c, PySem.W.findIn w0.K (.ref (w0.ca c)) g = some none
  mg : W0.mg (T.cl c) = some (.ref (w0.ca c)) ∧ (T.cl c == ("__debug__" : Str)) = false
  len : (w0.fn c).length ≤ 800 ∧ (w0.fn c).length = (S.tab.xf c).length
/-- what does not hang on the evaluator's depth -/
structure Prog0 (T : NT) (W0 : World0) (w0 : Wd) (fa : Nat → Addr) (cv : Nat → Value) (tab : Tab) : Prop where
  no : w0.hx = none
  blt : ∀ x ∈ (["len", "int", "str", "list", "tuple", "sum", "any", "all", "min", "max", "abs", "sorted", "isinstance", "range", "enumerate", "zip", "bool", "ValueError"] : List Str), W0.mg x = none
  gf : ∀ f, T.gf f = true → W0.mg (T.fn f) = some (.ref (fa f)) ∧ (T.fn f == ("__debug__" : Str)) = false
  gc : ∀ c, T.gc c = true → W0.mg (T.cl c) = some (.ref (w0.ca c)) ∧ (T.cl c == ("__debug__" : Str)) = false
  glob : ∀ g d, tab.glob g = some d → (T.gl g == ("__debug__" : Str)) = false ∧ ∃ u v, W0.mg (T.gl g) = some u ∧ RelV v u ∧ ∀ F H : Hp, Rep w0 F H v d []
  meth : ∀ c m f, tab.meth c m = some f → Cls w0.K (w0.ca c) ∧ L2.Meth w0.K (w0.ca c) (T.at_ m) (fa f) ∧ T.at_ m ∉ w0.fn c
  prop : ∀ c p g, tab.prop c p = some g → Cls w0.K (w0.ca c) ∧ ∃ pa, PropOf w0.K (w0.ca c) (T.at_ p) pa (fa g)
  fl : ∀ c, (w0.fn c).length < 900
  fld : ∀ c f k, (tab.fields c).idxOf? f = some k → Cls w0.K (w0.ca c) ∧ NoAttr w0.K (w0.ca c) (T.at_ f) ∧ (w0.fn c)[k]? = some (T.at_ f)
  nd : ∀ c, (w0.fn c).Nodup
  xf : ∀ c f k, (tab.xf c).idxOf? f = some k → XfC w0.K (w0.ca c) ∧ PySem.W.findIn w0.K (.ref (w0.ca c)) (T.at_ f) = some none ∧ (w0.fn c)[k]? = some (T.at_ f)
  kit : ∀ c ic b, tab.kit c ic = some b → PySem.W.kitOne w0.K (.ref (w0.ca c)) (icU w0 ic) = some b ∧ Cls w0.K (w0.ca c) ∧ ClsOb w0.K (w0.ca c)
  xkit : ∀ c ic b, tab.xkit c ic = some b → PySem.W.kitOne w0.K (.ref (w0.ca c)) (icU w0 ic) = some b ∧ XfC w0.K (w0.ca c) ∧ (PySem.W.clsIn w0.K (w0.ca c)).isSome = true ∧ ClsOb w0.K (w0.ca c)
  exm : ∀ c' c b, tab.exm c' c = some b → PySem.W.exmOne w0.K (.ref (w0.ca c')) (.ref (w0.ca c)) = some b
  /-- a class that is asked for -/
  own : ∀ c, T.oc c = true → W0.mg (T.cl c) = some (.ref (w0.ca c)) ∧ (T.cl c == ("__debug__" : Str)) = false
/-- what a context must have -/
structure XF (T : NT) (W0 : World0) (w0 w : Wd) (fa : Nat → Addr) (cv : Nat → Value) (S : Sem) (h : Bool) (k : Nat) (W : WX) (X : Cx) : Prop where
  pr : Prog0 T W0 w0 fa cv S.tab
  prog : X.prog = W0.P
  wd : X.w = W0.w
  mg : X.mg = W0.mg
  base : X.base = W0.base
  K : X.K = w0.K
  like : w0.Like w
  hx : h = false → w.hx = none
  units : X.A.units + 65 < cLine
  room : h = false → Room (k + 1) X.A ∧ X.calm = true
  hot : h = true → L2H.RoomH (k + 1) X.A ∧ L2H.HotC X
  hxp : ∀ a c d, w.hx = some (a, c, d) → ∃ oe vs, (a, oe) ∈ X.pn ∧ Zc (.ref (w0.ca c)) d oe ∧ oe.data = .fields vs
  tk : L2N.Takes X W
  fn : ∀ f, T.gf f = true → FnAt W0 w0 fa S k f
  fm : ∀ c m f, S.tab.meth c m = some f → FnAt W0 w0 fa S k f
  fp : ∀ c m f, S.tab.prop c m = some f → FnAt W0 w0 fa S k f
  nw : ∀ c, T.gc c = true → NewAt W0 w0 S k c
  rz : ∀ c, T.rc c = true → RzAt T W0 w0 S c

section
variable {T : NT} {W0 : World0} {w0 w : Wd} {fa : Nat → Addr} {cv : Nat → Value} {S : Sem} {h : Bool} {k : Nat} {W : WX} {X : Cx} {pos p apos : Pos}
variable {s : Ex} {ss : List Ex} {e : Expr} {es : List Expr} {a b c : Ex} {ea eb ec : Expr} {o : Expr}
theorem XF.KK (x : XF T W0 w0 w fa cv S h k W X) : X.K = w.K := x.K.trans x.like.K.symm

/-! ### calls of defs -/
theorem tA_call {f : List D → Option Out} {σ : L2.St} {H : Hp} {Q : VK} (l : w0.Like w) (hx : h = false → w.hx = none) {kk : List R → Env → Res R} {F : Hp} {ρ : Env} {As : List (List Addr)} (hk : ∀ rs ρ, kk rs ρ = callR h rs f ρ)
    (pr : Pre w F H σ ρ As) (q : Fin (rpR w) w σ W F H ρ As ((evalA S h ss ρ).bind kk) Q) : tAv S h w W ss σ H fun vs H1 => spF w0 f vs H1 Q (fun cls d H' => W cls d σ H') :=
  ⟨F, ρ, As, pr, q.bind0 fun rs ρ1 vs F1 H1 As1 C1 e1 p1 k1 q1 => call_go (w0 := w0) l hx p1 k1 (by rw [hk] at q1; exact q1)⟩
theorem snd_call (x : XF T W0 w0 w fa cv S h k W X) {f : Nat} (hf : T.gf f = true) (hg : Gl X (T.fn f)) (ha : PA X (e :: es) (tAv S h w W ss)) (hn : noStar e = true) (hns : es.all noStar = true) :
    PE X (.Call (.Name (T.fn f) p) (e :: es) [] pos) (tEv S h w W (.call f ss)) := by
  obtain ⟨⟨fd, ps, hb, F, FH⟩, kp⟩ := x.fn f hf
  obtain ⟨m1, m2⟩ := x.pr.gf f hf
  rw [← x.K] at hb F FH kp
  rw [← x.mg] at m1 F FH
  rw [← x.prog, ← x.wd, ← x.base] at F FH
  cases h with
  | false =>
    refine PE.of (pe_callSD F ((x.room rfl).1.mono (by omega)) hg m1 kp hb .nil (fun σ => L2N.passAt x.tk σ) ha m2 (star_cons hn) (star_any hns)) fun σ H Q ⟨F, ρ, As, pr, q⟩ => ?_
    rw [evalE] at q
    obtain ⟨F, ρ, As, pr, q⟩ := tA_call (w0 := w0) x.like x.hx (fun _ _ => rfl) pr q
    unfold tCallSD
    simp only [List.append_nil]
    exact ⟨F, ρ, As, pr, q⟩
  | true =>
    refine PE.of (L2H.pe_callH FH ((x.hot rfl).1.mono (by omega)) (x.hot rfl).2 hg m1 kp hb (fun σ => L2N.passAt x.tk σ) ha m2 (star_cons hn) (star_any hns)) fun σ H Q ⟨F, ρ, As, pr, q⟩ => ?_
    rw [evalE] at q
    exact tA_call (w0 := w0) x.like x.hx (fun _ _ => rfl) pr q
/-- f() -/
theorem snd_call0 (x : XF T W0 w0 w fa cv S h k W X) {f : Nat} (hf : T.gf f = true) (hg : Gl X (T.fn f)) : PE X (.Call (.Name (T.fn f) p) [] [] pos) (tEv S h w W (.call f [])) := by
  obtain ⟨⟨fd, ps, hb, F, FH⟩, kp⟩ := x.fn f hf
  obtain ⟨m1, m2⟩ := x.pr.gf f hf
  rw [← x.K] at hb F FH kp
  rw [← x.mg] at m1 F FH
  rw [← x.prog, ← x.wd, ← x.base] at F FH
  refine ⟨fun pins st σ H Q I q0 => wpAny_Call_Name_kw (ld_glob I hg m1 (PySem.W.callWith_K0 I.kIn kp ?_) m2)⟩
  obtain ⟨F', ρ, As, pr, q⟩ := q0
  rw [evalE] at q
  obtain ⟨F', ρ, As, pr, q⟩ := tA_call (w0 := w0) x.like x.hx (fun _ _ => rfl) pr q
  rw [evalA] at q
  have q2 : spF w0 (S.fn h f) [] H Q (fun cls d H' => W cls d σ H') := q [] F' H As [] pr.post .nil
  cases h with
  | false => exact run_fnSD (us := []) (vs := []) (dvs := []) (ds := []) F ((x.room rfl).1.mono (by omega)) hb .nil (L2N.passAt x.tk σ) I .nil q2
  | true => exact L2H.run_fnH (E := fun σ => WE W σ) (us := []) (vs := []) FH ((x.hot rfl).1.mono (by omega)) (x.hot rfl).2 hb (L2N.passAt x.tk σ) I .nil q2
end
end SL
set_option Elab.async false
set_option linter.all false
set_option maxRecDepth 100000
set_option maxHeartbeats 1000000
/-! SLFy: making, methods, properties, fields. -/
namespace SL
open PySem L2

theorem zip_no {α β : Type} [BEq α] [LawfulBEq α] {m : α} : ∀ {ns : List α} {ws : List β}, m ∉ ns → (ns.zip ws).lookup m = none
  | [], _, _ => rfl
  | _ :: _, [], _ => rfl
  | n :: ns, u :: ws, h => by
    rw [List.zip_cons_cons, List.lookup_cons]
    have h1 : (m == n) = false := by
      cases e : m == n with
      | false => rfl
      | true => exact absurd (by rw [LawfulBEq.eq_of_beq e]; exact List.mem_cons_self) h
    rw [h1]
    exact zip_no fun z => h (List.mem_cons_of_mem _ z)
theorem zip_at {α β : Type} [BEq α] [LawfulBEq α] {m : α} {v : β} : ∀ {ns : List α} {ws : List β} {k : Nat}, ns.Nodup → ns[k]? = some m → ws[k]? = some v → (ns.zip ws).lookup m = some v
  | [], _, k, _, h, _ => by simp at h
  | _ :: _, [], k, _, _, h => by simp at h
  | n :: ns, u :: ws, 0, _, h1, h2 => by
    simp at h1 h2; subst h1; subst h2
    rw [List.zip_cons_cons, List.lookup_cons]; simp
  | n :: ns, u :: ws, k + 1, nd, h1, h2 => by
    rw [List.zip_cons_cons, List.lookup_cons]
    have hm : m ∈ ns := List.mem_of_getElem? (by simpa using h1)
    have e : (m == n) = false := by
      cases e : m == n with
      | false => rfl
      | true => exact absurd (by rw [← LawfulBEq.eq_of_beq e]; exact hm) (List.nodup_cons.mp nd).1
    rw [e]
    exact zip_at (List.nodup_cons.mp nd).2 (by simpa using h1) (by simpa using h2)
/-- no super() -/
def noSup : Expr → Bool
  | .Call (.Name id _) [] [] _ => id != ("super" : Str)
  | _ => true
theorem ab_of {o : Expr} {f : Str} {env : PySem.Env} {m : PySem.Sem Value} (h : noSup o = true) : attributeBase o f env m = m := by
  unfold attributeBase
  split
  · rename_i id p2 pos
    have e : (id != ("super" : Str)) = true := h
    simp [e]
  · rfl
def starF : List Expr → Bool := fun es => es.all noStar
theorem all_plain {env : PySem.Env} {pos : Pos} : ∀ {es : List Expr}, es.all noStar = true → (backTo pos (starEach es env)).all (fun x => !x.1) = true
  | [], _ => rfl
  | e :: es, h => by
    simp only [List.all_cons, Bool.and_eq_true] at h
    rw [star_cons h.1]
    show (true && (backTo pos (starEach es env)).all (fun x => !x.1)) = true
    rw [all_plain h.2]; rfl
/-- how o.m(..) is run -/
theorem meth_eq {o : Expr} {m : Str} {apos pos : Pos} {args : List Expr} {env : PySem.Env} (h1 : noSup o = true) (h2 : args.all noStar = true) (h3 : args.length < 20) (h4 : (apos.endLine == pos.line) = true) :
    eval (.Call (.Attribute o m apos) args [] pos) env = (do
      let ov ← eval o env
      standAt apos.atName
      let r ← holding [ov] (getMethod ov m (do return (← importBound o env).getD true))
      callWith pos r.1 r.2 (backTo pos (starEach args env)) (backToKw pos (keywordEach [] env))) := by
  rw [arm_eval_Call, ab_of h1]
  have hform : methodCallForm (args.length + ([] : List Keyword).length) (backTo pos (starEach args env)) (backToKw pos (keywordEach [] env)) = true := by
    unfold methodCallForm
    rw [all_plain h2]
    have : decide (args.length + ([] : List Keyword).length + (if (backToKw pos (keywordEach [] env)).isEmpty = true then 0 else 1) < 30) = true := by
      have : (if (backToKw pos (keywordEach [] env)).isEmpty = true then 0 else 1) ≤ 1 := by split <;> omega
      simp only [List.length_nil, decide_eq_true_eq]; omega
    rw [this]; rfl
  have hpos : methodCallPos true o env apos pos = pure pos := by unfold methodCallPos; simp [h4]
  congr 1
  funext ov
  congr 1
  funext _
  unfold methodCall
  rw [hform, hpos]
  unfold calleeOf
  simp

section
variable {T : NT} {W0 : World0} {w0 w : Wd} {fa : Nat → Addr} {cv : Nat → Value} {S : Sem} {h : Bool} {k : Nat} {W : WX} {X : Cx} {pos p apos : Pos}
variable {s : Ex} {ss : List Ex} {e : Expr} {es : List Expr} {a b c : Ex} {ea eb ec : Expr} {o : Expr}

/-! ### making -/
theorem run_new {CX : CXT} {k : Nat} {f C : Addr} {fd : FuncData} {ps : List Str} {sp : Sp} {E : XK} {pins : List (Addr × Obj)} {σ : L2.St} {H : Hp} {st : Shared} {Q : VK} {us : List Value} {vs : List V}
    (M : Mk X.K C f) (F : FnOk X.prog X.w X.K X.mg X.base CX k f fd ps sp) (hr : Room (k + 1) X.A) (hb : Binds X.K fd ps []) (hx : PassesAt CX X σ E) (I : Inv X pins σ H st) (r : Vals vs us)
    (go : ∀ x dx, H x = none → H dx = none → dx ≠ x → sp (.ref x :: vs) (upd (upd H dx (.own x)) x (.ins C dx [])) (fun v H2 => v = .non ∧ Q (.ref x) H2) E) : wpAny (model X.prog X.w) X.A (call (.ref C) us) (EP X pins σ Q) X.xe st := by
  have I2 := Inv.made (C := C) I
  have g := go (st.heap.objs.size + 1) st.heap.objs.size (I.hok.fresh (Nat.le_succ _)) (I.hok.fresh (Nat.le_refl _)) (Nat.ne_of_lt (Nat.lt_succ_self _))
  have rr : Vals (V.ref (st.heap.objs.size + 1) :: vs) (Value.ref (st.heap.objs.size + 1) :: us) := .cons rfl r
  have len : (Value.ref (st.heap.objs.size + 1) :: us).length = ps.length := by rw [← rr.length]; exact F.len _ _ _ _ g
  have bb := hb _ (Value.ref (st.heap.objs.size + 1) :: us) I2.kIn (by simpa using len)
  rw [List.append_nil] at bb
  refine wpAny_call (make_map (f := f) I.kIn M.makes M.init (beq_iff_eq.mp M.fn) ?_)
  refine codeAny_mono (F.run _ X.stack _ _ ⟨_, []⟩ _ _ _ E (hr.make C us []) (I2.env0.make C us []) bb rr g) fun res s' z => ?_
  cases res with
  | error er => exact hx pins _ _ er s' I2 z
  | ok fl =>
    cases fl with
    | ret u =>
      obtain ⟨v, H', I3, rv, e1, q3⟩ := I2.after z
      subst e1
      exact ⟨rv, V.ref (st.heap.objs.size + 1), H', I3, rfl, q3⟩
    | next => exact z.elim
    | brk => exact z.elim
    | cont => exact z.elim
theorem spF_new {c : Nat} {vs : List V} {H : Hp} {Q : VK} {E : XK} {f : List D → Option Out} (q : spF w0 f vs H Q E) : ∀ x dx, H x = none → H dx = none → dx ≠ x →
    spI w0 c f (.ref x :: vs) (upd (upd H dx (.own x)) x (.ins (w0.ca c) dx [])) (fun v H2 => v = .non ∧ Q (.ref x) H2) E := fun x dx hx hd ne => by
  obtain ⟨F, ds, sm, r, fin⟩ := q
  exact ⟨H, x, dx, vs, F, ds, rfl, hx, hd, ne, rfl, sm, r, fin.imp fun v H' z e => ⟨rfl, by rw [← e]; exact z⟩⟩
theorem snd_new (x : XF T W0 w0 w fa cv S false k W X) {c : Nat} (hc : T.gc c = true) (hg : Gl X (T.cl c)) (ha : PA X (e :: es) (tAv S false w W ss)) (hn : noStar e = true) (hns : es.all noStar = true) :
    PE X (.Call (.Name (T.cl c) p) (e :: es) [] pos) (tEv S false w W (.new c ss)) := by
  obtain ⟨⟨f, fd, ps, M, hb, F⟩⟩ := x.nw c hc
  obtain ⟨m1, m2⟩ := x.pr.gc c hc
  rw [← x.K] at M hb F
  rw [← x.mg] at m1 F
  rw [← x.prog, ← x.wd, ← x.base] at F
  refine ⟨fun pins st σ H Q I q0 => wpAny_Call_Name_kw (ld_glob I hg m1 ?_ m2)⟩
  obtain ⟨F', ρ, As, pr, q⟩ := q0
  rw [evalE] at q
  have q1 := tA_call (w0 := w0) x.like x.hx (fun _ _ => rfl) pr q
  refine PySem.W.callWith_K (h₀ := X.base) I.ok.mod.kin M.kp (thn (ha.run pos pins st σ H _ I q1) fun us s1 ⟨vs, H1, I1, r, q2⟩ => ⟨I1.kIn, ?_⟩) (star_cons hn) (star_any hns)
  exact run_new M F (x.room rfl).1 hb (L2N.passAt x.tk σ) I1 r (spF_new q2)
theorem snd_new0 (x : XF T W0 w0 w fa cv S false k W X) {c : Nat} (hc : T.gc c = true) (hg : Gl X (T.cl c)) : PE X (.Call (.Name (T.cl c) p) [] [] pos) (tEv S false w W (.new c [])) := by
  obtain ⟨⟨f, fd, ps, M, hb, F⟩⟩ := x.nw c hc
  obtain ⟨m1, m2⟩ := x.pr.gc c hc
  rw [← x.K] at M hb F
  rw [← x.mg] at m1 F
  rw [← x.prog, ← x.wd, ← x.base] at F
  refine ⟨fun pins st σ H Q I q0 => wpAny_Call_Name_kw (ld_glob I hg m1 (PySem.W.callWith_K0 I.kIn M.kp ?_) m2)⟩
  obtain ⟨F', ρ, As, pr, q⟩ := q0
  rw [evalE] at q
  obtain ⟨F', ρ, As, pr, q⟩ := tA_call (w0 := w0) x.like x.hx (fun _ _ => rfl) pr q
  rw [evalA] at q
  have q2 : spF w0 (S.new false c) [] H Q (fun cls d H' => W cls d σ H') := q [] F' H As [] pr.post .nil
  exact run_new (us := []) (vs := []) M F (x.room rfl).1 hb (L2N.passAt x.tk σ) I .nil (spF_new q2)

/-! ### methods -/
/-- an instance in the heap -/
theorem ins_at {F H : Hp} {v : V} {o : Bool} {c : Nat} {xs : List D} {C : List Addr} (s : Same F H) (r : Rep w F H v (.ins o c xs) C) : ∃ a dx ws, v = .ref a ∧ H a = some (.ins (w.ca c) dx ((w.fn c).zip ws)) ∧ ws.length = xs.length ∧ ws.length ≤ (w.fn c).length := by
  cases r with
  | insF k l a _ => exact ⟨_, _, _, rfl, s _ _ k, a.len, l⟩
  | insO k l a _ => exact ⟨_, _, _, rfl, k, a.len, l⟩
theorem tM_call {m : Nat} {σ : L2.St} {H : Hp} {Q : VK} (x : XF T W0 w0 w fa cv S h k W X) {F : Hp} {ρ : Env} {As : List (List Addr)} (pr : Pre w F H σ ρ As) (q : Fin (rpR w) w σ W F H ρ As (evalE S h (.meth m s ss) ρ) Q) :
    tEv S h w W s σ H fun v H1 => ∃ a c dx ws f, v = .ref a ∧ H1 a = some (.ins (w0.ca c) dx ((w0.fn c).zip ws)) ∧ S.tab.meth c m = some f ∧
      tAv S h w W ss σ H1 fun vs H2 => spF w0 (S.fn h f) (.ref a :: vs) H2 Q (fun cls d H' => W cls d σ H') := by
  rw [evalE] at q
  refine ⟨F, ρ, As, pr, q.bind0 fun r ρ1 v F1 H1 As1 C1 e1 p1 k1 q1 => ?_⟩
  obtain ⟨d, ρ1', e1', q1⟩ := q1.of_ok settle_ne
  obtain ⟨F1', As1', t, k1'⟩ := settle_ok p1.pre k1 e1'
  have p1' := (p1.trans t).weak (C' := C1) fun a => by simp
  cases d with
  | ins o c xs =>
    obtain ⟨a, dx, ws, ev, ha, _, _⟩ := ins_at t.same k1'
    subst ev
    simp only at q1
    cases hf : S.tab.meth c m with
    | none => rw [hf] at q1; exact q1.elim
    | some f =>
      rw [hf] at q1
      refine ⟨a, c, dx, ws, f, rfl, by rw [← x.like.ca, ← x.like.fn]; exact ha, hf, F1', ρ1', As1', t.pre, Fin.bind p1' q1 fun rs ρ2 vs F2 H2 As2 C2 e2 p2 p12 k2 q2 => ?_⟩
      exact call_go (w0 := w0) x.like x.hx p2 (.cons (.val (Rep.up k1' p12.lift)) k2) q2
  | _ => exact q1.elim
theorem snd_meth (x : XF T W0 w0 w fa cv S h k W X) {m : Nat} (ho : PE X o (tEv S h w W s)) (ha : PA X (e :: es) (tAv S h w W ss)) (hn : noStar e = true) (hns : es.all noStar = true) (h1 : noSup o = true) (h3 : es.length < 19) (h4 : (apos.endLine == pos.line) = true) :
    PE X (.Call (.Attribute o (T.at_ m) apos) (e :: es) [] pos) (tEv S h w W (.meth m s ss)) := by
  refine ⟨fun pins st σ H Q I q0 => ?_⟩
  obtain ⟨F, ρ, As, pr, q⟩ := q0
  have q1 := tM_call x pr q
  refine PySem.W.methodCall_KW (pl := do return (← importBound o X.env).getD true) (thn (ho.run pins st σ H _ I q1) fun u s1 z => ?_) (meth_eq h1 (by simp [hn]; simpa using hns) (by simp; omega) h4)
  obtain ⟨y, H1, I1, rx, a, c, dx, ws, f, ev, hi, hm, q2⟩ := z
  subst ev
  obtain rfl : u = Value.ref a := rx
  obtain ⟨cl, me, no⟩ := x.pr.meth c m f hm
  obtain ⟨⟨fd, ps, hb, F, FH⟩, kp⟩ := x.fm c m f hm
  rw [← x.K] at cl me hb F FH kp
  rw [← x.mg] at F FH
  rw [← x.prog, ← x.wd, ← x.base] at F FH
  refine getmeth_ok I1 hi cl me (zip_no no) ?_
  refine PySem.W.callWith_K (first := [.ref a]) (h₀ := X.base) I.ok.mod.kin kp (thn (ha.run pos pins s1 σ H1 _ I1 q2) fun us s2 ⟨vs, H2, I2, r, q3⟩ => ⟨I2.kIn, ?_⟩) (star_cons hn) (star_any hns)
  cases h with
  | false => exact run_fnSD (us := .ref a :: us) (vs := .ref a :: vs) (dvs := []) (ds := []) F ((x.room rfl).1.mono (by omega)) hb .nil (L2N.passAt x.tk σ) I2 (.cons rfl r) (by rw [List.append_nil]; exact q3)
  | true => exact L2H.run_fnH (E := fun σ => WE W σ) (us := .ref a :: us) (vs := .ref a :: vs) FH ((x.hot rfl).1.mono (by omega)) (x.hot rfl).2 hb (L2N.passAt x.tk σ) I2 (.cons rfl r) q3
theorem snd_meth0 (x : XF T W0 w0 w fa cv S h k W X) {m : Nat} (ho : PE X o (tEv S h w W s)) (h1 : noSup o = true) (h4 : (apos.endLine == pos.line) = true) :
    PE X (.Call (.Attribute o (T.at_ m) apos) [] [] pos) (tEv S h w W (.meth m s [])) := by
  refine ⟨fun pins st σ H Q I q0 => ?_⟩
  obtain ⟨F, ρ, As, pr, q⟩ := q0
  have q1 := tM_call x pr q
  refine PySem.W.methodCall_KW (pl := do return (← importBound o X.env).getD true) (thn (ho.run pins st σ H _ I q1) fun u s1 z => ?_) (meth_eq h1 rfl (by simp) h4)
  obtain ⟨y, H1, I1, rx, a, c, dx, ws, f, ev, hi, hm, F1, ρ1, As1, pr1, q2⟩ := z
  subst ev
  obtain rfl : u = Value.ref a := rx
  obtain ⟨cl, me, no⟩ := x.pr.meth c m f hm
  obtain ⟨⟨fd, ps, hb, F, FH⟩, kp⟩ := x.fm c m f hm
  rw [← x.K] at cl me hb F FH kp
  rw [← x.mg] at F FH
  rw [← x.prog, ← x.wd, ← x.base] at F FH
  rw [evalA] at q2
  have q3 := q2 [] F1 H1 As1 [] pr1.post .nil
  refine getmeth_ok I1 hi cl me (zip_no no) ?_
  refine PySem.W.callWith_K0 (first := [.ref a]) I1.kIn kp ?_
  cases h with
  | false => exact run_fnSD (us := [.ref a]) (vs := [.ref a]) (dvs := []) (ds := []) F ((x.room rfl).1.mono (by omega)) hb .nil (L2N.passAt x.tk σ) I1 (.cons rfl .nil) (by rw [List.append_nil]; exact q3)
  | true => exact L2H.run_fnH (E := fun σ => WE W σ) (us := [.ref a]) (vs := [.ref a]) FH ((x.hot rfl).1.mono (by omega)) (x.hot rfl).2 hb (L2N.passAt x.tk σ) I1 (.cons rfl .nil) q3
end
end SL
set_option Elab.async false
set_option linter.all false
set_option maxRecDepth 100000
set_option maxHeartbeats 1000000
/-! SLFz: properties, fields, isinstance, the module's constants. -/
namespace SL
open PySem L2
section
variable {T : NT} {W0 : World0} {w0 w : Wd} {fa : Nat → Addr} {cv : Nat → Value} {S : Sem} {h : Bool} {k : Nat} {W : WX} {X : Cx} {pos p apos : Pos}
variable {s : Ex} {ss : List Ex} {e : Expr} {es : List Expr} {a b c : Ex} {ea eb ec : Expr} {o : Expr}

theorem snd_glob (x : XF T W0 w0 w fa cv S h k W X) {g : Nat} (hg : Gl X (T.gl g)) (ht : (S.tab.glob g).isSome = true) : PE X (.Name (T.gl g) pos) (tEv S h w W (.glob g)) := by
  cases e : S.tab.glob g with
  | none => rw [e] at ht; cases ht
  | some d =>
    obtain ⟨hd, u, v, hm, rv, k⟩ := x.pr.glob g d e
    rw [← x.mg] at hm
    refine PE.of (pe_glob hg hm rv hd) fun σ H Q ⟨F, ρ, As, p, q⟩ => ?_
    rw [evalE, e] at q
    exact fin_val (rp := rpR w) q p.post (RepL.toW x.like (k F H)) (by simp)

/-! ### attributes -/
theorem no_pass {X : Cx} (σ : L2.St) : Passes (L2N.CX X.prog X.w) X.nox (fun _ _ _ => False) := by
  intro pins σ H st u s' I c
  have tk : L2N.Takes X.nox (fun _ _ _ _ => False) := fun u s' z => by
    obtain ⟨a, B, sI, pins, σ, H, cls, d, _, _, _, _, _, _, _, _, w⟩ := z
    exact w
  exact L2N.passAt tk σ pins H st u s' I c
/-- what an attribute's object is -/
def AttrAt (T : NT) (w0 w : Wd) (S : Sem) (h : Bool) (f : Nat) (v : V) (H : Hp) (Q : VK) : Prop :=
  (∃ a c dx ws k u, v = .ref a ∧ H a = some (.ins (w0.ca c) dx ((w0.fn c).zip ws)) ∧ S.tab.prop c f = none ∧ (S.tab.fields c).idxOf? f = some k ∧ ws[k]? = some u ∧ Q u H) ∨
  (∃ a c dx ws g, h = false ∧ v = .ref a ∧ H a = some (.ins (w0.ca c) dx ((w0.fn c).zip ws)) ∧ S.tab.prop c f = some g ∧ spF w0 (S.fn false g) [.ref a] H Q (fun _ _ _ => False)) ∨
  (∃ a c dd ws k u, v = .ref a ∧ w.hx = some (a, c, some dd) ∧ H dd = some (.xd ((w0.fn c).zip ws)) ∧ (S.tab.xf c).idxOf? f = some k ∧ ws[k]? = some u ∧ Q u H)
theorem attr_go (x : XF T W0 w0 w fa cv S h k W X) {f : Nat} {F0 H0 F H : Hp} {σ : L2.St} {ρ0 ρ : Env} {As0 As : List (List Addr)} {v : V} {r : R} {C : List Addr} {Q : VK} (p : Post w σ F0 H0 ρ0 As0 F H ρ As C) (k : RepR w F H ρ As v r C)
    (q : Fin (rpR w) w σ W F0 H0 ρ0 As0 (match r.d with
      | .ins _ c xs => match S.tab.prop c f with
        | some g => (settle r ρ).bind fun d ρ => propR h d (S.fn h g) ρ
        | none => (Res.of (((S.tab.fields c).idxOf? f).bind fun k => xs[k]?) ρ).bind fun x ρ => part r x ρ
      | .exn c xs => (Res.of (((S.tab.xf c).idxOf? f).bind fun k => xs[k]?) ρ).bind fun x ρ => part r x ρ
      | _ => .bad) Q) : AttrAt T w0 w S h f v H Q := by
  obtain ⟨G, B, sG, kG, fin⟩ := part_open (W := W) (Q := Q) p k (fun a => Nat.le_refl _)
  cases e : r.d with
  | ins o c xs =>
    rw [e] at q kG
    cases hp : S.tab.prop c f with
    | none =>
      simp only [hp] at q
      obtain ⟨y, e1, q⟩ := q.ofO
      cases e2 : (S.tab.fields c).idxOf? f with
      | none => rw [e2] at e1; simp at e1
      | some i =>
        rw [e2] at e1
        have e1 : xs[i]? = some y := e1
        have ⟨a, dx, ws, ev, ha, B', u, hu, ru, hb⟩ : ∃ a dx ws, v = .ref a ∧ H a = some (.ins (w.ca c) dx ((w.fn c).zip ws)) ∧ ∃ B' u, ws[i]? = some u ∧ Rep w G H u y B' ∧ ∀ a, B'.count a ≤ B.count a := by
          cases kG with
          | insF k1 l k2 k3 =>
            cases k3
            obtain ⟨u, B', h1, h2, h3⟩ := k2.get e1
            exact ⟨_, _, _, rfl, sG _ _ k1, B', u, h1, h2, fun a => by simpa using h3 a⟩
          | insO k1 l k2 k3 =>
            cases k3
            obtain ⟨u, B', h1, h2, h3⟩ := k2.get e1
            exact ⟨_, _, _, rfl, k1, B', u, h1, h2, fun a => by have := h3 a; rw [List.count_cons, List.count_append]; omega⟩
        exact .inl ⟨a, c, dx, ws, i, u, ev, by rw [← x.like.ca, ← x.like.fn]; exact ha, hp, e2, hu, fin y q u B' ru hb⟩
    | some g =>
      simp only [hp] at q
      obtain ⟨d, ρ1, e1, q⟩ := q.of_ok settle_ne
      obtain ⟨F1, As1, t, k1⟩ := settle_ok p.pre k e1
      have p1 := (p.trans t).weak (C' := C) fun a => by simp
      cases h with
      | true => exact q.elim
      | false =>
        have hd : ∃ o' xs', d = .ins o' c xs' := by
          cases r with
          | val d' => simp only [settle, Res.ok.injEq] at e1; obtain ⟨rfl, _⟩ := e1; exact ⟨_, _, e⟩
          | brw i d' =>
            simp only [settle] at e1
            split at e1
            · simp only [Res.ok.injEq] at e1; obtain ⟨rfl, _⟩ := e1; exact ⟨_, _, e⟩
            · cases e1
        obtain ⟨o', xs', rfl⟩ := hd
        obtain ⟨a, dx, ws, ev, ha, _, _⟩ := ins_at t.same k1
        subst ev
        refine .inr (.inl ⟨a, c, dx, ws, g, rfl, rfl, by rw [← x.like.ca, ← x.like.fn]; exact ha, hp, ?_⟩)
        have q' : Fin (rpR w) w σ (fun _ _ _ _ => False) F0 H0 ρ0 As0 (callR false [.val (.ins o' c xs')] (S.fn false g) ρ1) Q := by
          unfold callR
          have l1 : (liveAll [R.val (D.ins o' c xs')] ρ1 && (!false || D.noXL (argsOf [R.val (D.ins o' c xs')]))) = true := rfl
          rw [if_pos l1]
          unfold propR at q
          simp only [Bool.false_eq_true, if_false] at q
          have ea : argsOf [R.val (D.ins o' c xs')] = [(D.ins o' c xs').frz] := rfl
          rw [ea]
          cases eo : S.fn false g [(D.ins o' c xs').frz] with
          | none => rw [eo] at q; exact q.elim
          | some out =>
            rw [eo] at q
            cases out with
            | ret y => simp only [after, frzAll, ite_self]; exact q
            | exc _ _ => exact q.elim
        have z := call_go (w0 := w0) x.like x.hx p1 (by have := RepRs.cons (ρ := ρ1) (As := As1) (RepR.val k1) RepRs.nil; simpa using this) (by simpa using q')
        exact z
  | exn c xs =>
    rw [e] at q kG
    simp only at q
    obtain ⟨y, e1, q⟩ := q.ofO
    cases e2 : (S.tab.xf c).idxOf? f with
    | none => rw [e2] at e1; simp at e1
    | some i =>
      rw [e2] at e1
      have e1 : xs[i]? = some y := e1
      cases kG with
      | exn k0 k1 l k2 k3 =>
        cases k3
        obtain ⟨u, B', h1, h2, h3⟩ := k2.get e1
        exact .inr (.inr ⟨_, c, _, _, i, u, rfl, k0, by rw [← x.like.fn]; exact sG _ _ k1, e2, h1, fin y q u B' h2 fun a => by have := h3 a; simp at this ⊢; omega⟩)
      | exn0 _ _ => simp at e1
  | _ => rw [e] at q; exact q.elim
end
end SL
set_option Elab.async false
set_option linter.all false
set_option maxRecDepth 100000
set_option maxHeartbeats 1000000
/-! SLZa: e.f, isinstance. -/
namespace SL
open PySem L2
section
variable {T : NT} {W0 : World0} {w0 w : Wd} {fa : Nat → Addr} {cv : Nat → Value} {S : Sem} {h : Bool} {k : Nat} {W : WX} {X : Cx} {pos p apos : Pos}
variable {s : Ex} {ss : List Ex} {e : Expr} {es : List Expr} {a b c : Ex} {ea eb ec : Expr} {o : Expr}

/-- the handled exception in the heap -/
theorem exc_inst (x : XF T W0 w0 w fa cv S h k W X) {pins : List (Addr × Obj)} {σ : L2.St} {H : Hp} {st : Shared} (I : Inv X pins σ H st) {a : Addr} {c : Nat} {d : Option Addr} (hx : w.hx = some (a, c, d)) (hd : ∀ dd, d = some dd → ∃ fs, H dd = some (.xd fs)) :
    ∃ oe od, PySem.W.InstAt st.heap a oe (w0.ca c) od ∧ ∀ dd fs, d = some dd → H dd = some (.xd fs) → ∃ (o : Obj) (mA : Str → Option Value), od = some o ∧ (∀ n, PySem.W.lookIn n o = some (mA n)) ∧ ∀ n, RelO (fs.lookup n) (mA n) := by
  obtain ⟨oe, vs, hm, hz, hv⟩ := x.hxp a c d hx
  obtain ⟨ha, _⟩ := I.pin (a, oe) (List.mem_append_left _ hm)
  have nc : PySem.W.notCls oe = true := by unfold PySem.W.notCls; rw [hv]
  cases d with
  | none => exact ⟨oe, none, ⟨ha, hz.1, nc, by rw [hz.2]; trivial⟩, fun dd fs e => by cases e⟩
  | some dd =>
    obtain ⟨fs, hfs⟩ := hd dd rfl
    obtain ⟨mA, hns, hr⟩ := (show ObjOk X.prog X.w H st.heap dd (.xd fs) from I.hok dd _ hfs)
    obtain ⟨od, ho, hl⟩ := lookIn_ns hns
    refine ⟨oe, some od, ⟨ha, hz.1, nc, by rw [hz.2]; exact ho⟩, fun dd' fs' e e2 => ?_⟩
    cases e
    rw [hfs] at e2
    cases e2
    exact ⟨od, mA, rfl, hl, hr⟩
theorem snd_fld (x : XF T W0 w0 w fa cv S h k W X) {f : Nat} (he : PE X e (tEv S h w W s)) (h1 : noSup e = true) : PE X (.Attribute e (T.at_ f) pos) (tEv S h w W (.fld s f)) := by
  refine ⟨fun pins st σ H Q I q0 => ?_⟩
  obtain ⟨F, ρ, As, pr, q⟩ := q0
  rw [evalE] at q
  have q1 : tEv S h w W s σ H (fun v H1 => AttrAt T w0 w S h f v H1 Q) := ⟨F, ρ, As, pr, q.bind0 fun r ρ1 v F1 H1 As1 C1 e1 p1 k1 q1 => attr_go x p1 k1 q1⟩
  refine attr_of (ab_of h1) (thn (he.run pins st σ H _ I q1) fun u s1 z => ?_)
  obtain ⟨y, H1, I1, rx, z⟩ := z
  rcases z with ⟨a, c, dx, ws, i, v, ev, hi, hp, hf, hu, q2⟩ | ⟨a, c, dx, ws, g, hh, ev, hi, hp, q2⟩ | ⟨a, c, dd, ws, i, v, ev, hh, hi, hf, hu, q2⟩
  · subst ev
    obtain rfl : u = Value.ref a := rx
    obtain ⟨cl, na, hn⟩ := x.pr.fld c f i hf
    rw [← x.K] at cl na
    exact getattr_ok I1 hi cl na (zip_at (x.pr.nd c) hn hu) fun u' s2 I2 ru => ⟨v, H1, I2, ru, q2⟩
  · subst ev
    subst hh
    obtain rfl : u = Value.ref a := rx
    obtain ⟨cl, pa, po⟩ := x.pr.prop c f g hp
    obtain ⟨⟨fd, ps, hb, FF, _⟩, _⟩ := x.fp c f g hp
    rw [← x.K] at cl po hb FF
    rw [← x.mg] at FF
    rw [← x.prog, ← x.wd, ← x.base] at FF
    exact getprop_ok (ds := []) (dvs := []) I1 hi cl po FF (x.room rfl).1 hb .nil (no_pass σ) q2
  · subst ev
    obtain rfl : u = Value.ref a := rx
    obtain ⟨xc, no, hn⟩ := x.pr.xf c f i hf
    rw [← x.K] at xc no
    obtain ⟨oe, od, J, lk⟩ := exc_inst x I1 hh (fun d' e => by cases e; exact ⟨_, hi⟩)
    obtain ⟨o, mA, e1, e2, e3⟩ := lk dd _ rfl hi
    subst e1
    obtain ⟨u, hu2, ru⟩ := RelO.some_of (v := v) (o := mA (T.at_ f)) (by rw [← zip_at (x.pr.nd c) hn hu]; exact e3 (T.at_ f))
    exact HandSPX.exc_get I1.kIn J xc.ga xc.gg xc.exC (PySem.W.findObj_own xc.hdC no rfl (by rw [e2, hu2])) (handed_of ru) ⟨v, H1, I1.tok _, ru, q2⟩

/-! ### isinstance -/
theorem icV_cls (ic : Ic) : ClsV (icV w0 ic) (icU w0 ic) := by cases ic <;> first | exact .ty _ | exact .own _
/-- the two ways an answer comes -/
def rIsX (X : Cx) (w0 w : Wd) (ic : Ic) : List V → Hp → VK → Prop := fun xs H Q => ∃ v b, xs = [v, icV w0 ic] ∧ Q (.bl b) H ∧
  ((∃ t, TyX X.K H v t ∧ PySem.W.kitOne X.K t (icU w0 ic) = some b) ∨
    ∃ a c d, v = .ref a ∧ w.hx = some (a, c, d) ∧ (∀ dd, d = some dd → ∃ fs, H dd = some (.xd fs)) ∧ PySem.W.kitOne X.K (.ref (w0.ca c)) (icU w0 ic) = some b ∧ XfC X.K (w0.ca c) ∧ (PySem.W.clsIn X.K (w0.ca c)).isSome = true ∧ ClsOb X.K (w0.ca c))
theorem call_isX (x : XF T W0 w0 w fa cv S h k W X) {ic : Ic} : CallR X (.builtin "isinstance") (rIsX X w0 w ic) := by
  intro pins st σ H xs us Q I r z
  obtain ⟨v, b, rfl, q, z⟩ := z
  rcases z with ⟨t, ty, e⟩ | ⟨a, c, d, rfl, hx, hd, e, xc, ci, ob⟩
  · exact call_isi pins st σ H _ us Q I r ⟨v, icV w0 ic, t, icU w0 ic, b, rfl, icV_cls ic, ty, e, q⟩
  · obtain ⟨u1, u2, rfl, r1, r2⟩ := vals2 r
    obtain rfl := (icV_cls (w0 := w0) ic).eq r2
    obtain rfl : u1 = Value.ref a := r1
    obtain ⟨oe, od, J, _⟩ := exc_inst x I hx hd
    exact PySem.W.kia_one (PySem.W.kitx_exc ci xc.ga xc.gg xc.exC ob.ha ob.hn ob.htk ob.hm) I.kIn J e (fun z => nomatch z) fun tk => ⟨.bl b, H, I.tok tk, rfl, q⟩

theorem kits : ∀ (t : Ic) (ic : Ic), t ∈ [Ic.int, .bool, .str, .tuple, .list] → (∀ c, ic ≠ .cls c) → PySem.W.kitOne w0.K (icU w0 t) (icU w0 ic) = some (ic == t || (t == .bool && ic == .int)) := by
  intro t ic ht hc
  simp only [List.mem_cons, List.not_mem_nil, or_false] at ht
  cases ic with
  | cls c => exact absurd rfl (hc c)
  | _ => rcases ht with rfl | rfl | rfl | rfl | rfl <;> exact kit_ty (by decide +kernel)
theorem kit_non (ic : Ic) (hc : ∀ c, ic ≠ .cls c) : PySem.W.kitOne w0.K (.type "NoneType") (icU w0 ic) = some false := by
  cases ic with
  | cls c => exact absurd rfl (hc c)
  | _ => exact kit_ty (by decide +kernel)
theorem is_go (x : XF T W0 w0 w fa cv S h k W X) {ic : Ic} {v : V} {d : D} {H : Hp} {C : List Addr} {b : Bool} {Q : VK} (r : Rep w H H v d C) (e : isInst S.tab d ic = some b) (q : Q (.bl b) H) : rIsX X w0 w ic [v, icV w0 ic] H Q := by
  refine ⟨v, b, rfl, q, ?_⟩
  have Kw : w.K = X.K := x.KK.symm
  have basic : ∀ (t : Ic), t ∈ [Ic.int, .bool, .str, .tuple, .list] → (∀ c, ic ≠ .cls c) → TyX X.K H v (icU w0 t) → b = (ic == t || (t == .bool && ic == .int)) → ∃ t, TyX X.K H v t ∧ PySem.W.kitOne X.K t (icU w0 ic) = some b := fun t ht hc ty eb => by
    refine ⟨_, ty, ?_⟩
    rw [x.K, kits t ic ht hc, eb]
  have nc : ∀ {o : Option Bool}, (match ic with | .cls _ => none | _ => o) = some b → (∀ c, ic ≠ .cls c) ∧ o = some b := fun {o} z => by
    cases ic <;> first | (cases z; done) | exact ⟨(fun c q => nomatch q), z⟩
  cases r with
  | non _ =>
    have z : (∀ c, ic ≠ .cls c) ∧ b = false := by cases ic <;> first | (cases (show (none : Option Bool) = some b from e); done) | exact ⟨(fun c q => nomatch q), (Option.some.inj e).symm⟩
    exact .inl ⟨_, .base .non, by rw [x.K, z.2]; exact kit_non ic z.1⟩
  | bl _ =>
    have z : (∀ c, ic ≠ .cls c) ∧ b = (ic == .int || ic == .bool) := by cases ic <;> first | (cases (show (none : Option Bool) = some b from e); done) | exact ⟨(fun c q => nomatch q), (Option.some.inj e).symm⟩
    exact .inl (basic .bool (by simp) z.1 (.base (.bl _)) (by rw [z.2]; cases ic <;> rfl))
  | int _ =>
    have z : (∀ c, ic ≠ .cls c) ∧ b = (ic == .int) := by cases ic <;> first | (cases (show (none : Option Bool) = some b from e); done) | exact ⟨(fun c q => nomatch q), (Option.some.inj e).symm⟩
    exact .inl (basic .int (by simp) z.1 (.base (.int _)) (by rw [z.2]; cases ic <;> rfl))
  | str _ _ =>
    have z : (∀ c, ic ≠ .cls c) ∧ b = (ic == .str) := by cases ic <;> first | (cases (show (none : Option Bool) = some b from e); done) | exact ⟨(fun c q => nomatch q), (Option.some.inj e).symm⟩
    exact .inl (basic .str (by simp) z.1 (.base (.str _)) (by rw [z.2]; cases ic <;> rfl))
  | scr _ _ => simp [isInst] at e
  | tup k1 _ _ =>
    have z : (∀ c, ic ≠ .cls c) ∧ b = (ic == .tuple) := by cases ic <;> first | (cases (show (none : Option Bool) = some b from e); done) | exact ⟨(fun c q => nomatch q), (Option.some.inj e).symm⟩
    refine .inl (basic .tuple (by simp) z.1 ?_ (by rw [z.2]; cases ic <;> rfl))
    rcases k1.sq with (k1 | ⟨o, k1⟩) | ⟨o, its, n, k1, k2, _⟩
    · exact .base (.tup k1)
    · exact .fTuple k1
    · rw [Kw] at k1; exact .kTuple k1 k2
  | lstF k1 _ _ =>
    have z : (∀ c, ic ≠ .cls c) ∧ b = (ic == .list) := by cases ic <;> first | (cases (show (none : Option Bool) = some b from e); done) | exact ⟨(fun c q => nomatch q), (Option.some.inj e).symm⟩
    exact .inl (basic .list (by simp) z.1 (.base (.lst k1)) (by rw [z.2]; cases ic <;> rfl))
  | lstO k1 _ _ =>
    have z : (∀ c, ic ≠ .cls c) ∧ b = (ic == .list) := by cases ic <;> first | (cases (show (none : Option Bool) = some b from e); done) | exact ⟨(fun c q => nomatch q), (Option.some.inj e).symm⟩
    exact .inl (basic .list (by simp) z.1 (.base (.lst k1)) (by rw [z.2]; cases ic <;> rfl))
  | @insF _ _ c _ _ _ _ _ k1 _ _ _ =>
    obtain ⟨k2, cl, ob⟩ := x.pr.kit c ic b e
    rw [← x.K] at k2 cl ob
    rw [x.like.ca] at k1
    exact .inl ⟨_, .base (.ins k1 cl ob.ha ob.hn ob.htk ob.hm), k2⟩
  | @insO _ _ c _ _ _ _ _ _ k1 _ _ _ =>
    obtain ⟨k2, cl, ob⟩ := x.pr.kit c ic b e
    rw [← x.K] at k2 cl ob
    rw [x.like.ca] at k1
    exact .inl ⟨_, .base (.ins k1 cl ob.ha ob.hn ob.htk ob.hm), k2⟩
  | @exn a c d _ _ _ _ _ k0 k1 _ _ _ =>
    obtain ⟨k2, xc, ci, ob⟩ := x.pr.xkit c ic b e
    rw [← x.K] at k2 xc ci ob
    exact .inr ⟨a, c, _, rfl, k0, (fun dd z => by cases z; exact ⟨_, k1⟩), k2, xc, ci, ob⟩
  | @exn0 a c _ _ _ k0 _ =>
    obtain ⟨k2, xc, ci, ob⟩ := x.pr.xkit c ic b e
    rw [← x.K] at k2 xc ci ob
    exact .inr ⟨a, c, _, rfl, k0, (fun dd z => nomatch z), k2, xc, ci, ob⟩
def icN (T : NT) : Ic → Str
  | .int => "int"
  | .bool => "bool"
  | .str => "str"
  | .tuple => "tuple"
  | .list => "list"
  | .ve => "ValueError"
  | .cls c => T.cl c
theorem pe_ic (x : XF T W0 w0 w fa cv S h k W X) {ic : Ic} (hg : Gl X (icN T ic)) (hc : ∀ c, ic = .cls c → T.oc c = true) : PE X (.Name (icN T ic) pos) (tC (icV w0 ic)) := by
  have bl : ∀ (y : Str) (n : String), Gl X y → y ∈ (["len", "int", "str", "list", "tuple", "sum", "any", "all", "min", "max", "abs", "sorted", "isinstance", "range", "enumerate", "zip", "bool", "ValueError"] : List Str) → bootBuiltins y = some (.type n) → y ≠ "__name__" → (y == ("__debug__" : Str)) = false → PE X (.Name y pos) (tC (.ty n)) := fun y n hg hy hv h1 h2 =>
    ⟨fun pins st σ H Q I q => ld_blt I hg (by rw [x.mg]; exact x.pr.blt y hy) hv ⟨.ty n, H, I, rfl, q⟩ h1 h2⟩
  cases ic with
  | cls c =>
    obtain ⟨m1, m2⟩ := x.pr.own c (hc c rfl)
    exact pe_glob hg (by rw [x.mg]; exact m1) rfl m2
  | int => exact bl "int" _ hg (by decide) PyProof.Rows.boot_int (by decide) (by decide)
  | bool => exact bl "bool" _ hg (by decide) PyProof.Rows.boot_bool (by decide) (by decide)
  | str => exact bl "str" _ hg (by decide) PyProof.Rows.boot_str (by decide) (by decide)
  | tuple => exact bl "tuple" _ hg (by decide) PyProof.Rows.boot_tuple (by decide) (by decide)
  | list => exact bl "list" _ hg (by decide) PyProof.Rows.boot_list (by decide) (by decide)
  | ve => exact bl "ValueError" _ hg (by decide) PyProof.Rows.Boot.«ValueError» (by decide) (by decide)
theorem snd_isin (x : XF T W0 w0 w fa cv S h k W X) {ic : Ic} {p2 : Pos} (he : PE X e (tEv S h w W s)) (ns : noStar e = true) (hg : Gl X (icN T ic)) (hc : ∀ c, ic = .cls c → T.oc c = true) (hi : Gl X "isinstance") :
    PE X (.Call (.Name "isinstance" p) [e, .Name (icN T ic) p2] [] pos) (tEv S h w W (.isin s ic)) := by
  have ha : PA X [e, .Name (icN T ic) p2] (tCons (tEv S h w W s) (tCons (tC (icV w0 ic)) tNil)) := pa_cons he (pa_cons (pe_ic x hg hc) pa_nil) (star_cons ns)
  refine PE.of (pe_callB (call_isX (ic := ic) x) hi (by rw [x.mg]; exact x.pr.blt _ (by decide)) PyProof.Rows.boot_isinstance ha (he := star_cons ns)) fun σ H Q ⟨F, ρ, As, pr, q⟩ => ?_
  rw [evalE] at q
  refine ⟨F, ρ, As, pr, q.bind0 fun r ρ1 v F1 H1 As1 C1 e1 p1 k1 q1 => ?_⟩
  obtain ⟨b, e2, q2⟩ := q1.ofO
  exact is_go x (RepR.view k1 p1.same) e2 (fin_val (rp := rpR w) q2 p1 (.bl .nil) (by simp))
end
end SL
set_option Elab.async false
set_option linter.all false
set_option maxRecDepth 100000
set_option maxHeartbeats 1000000
/-! SLZb: built-in functions. -/
namespace SL
open PySem L2
def biN : Bi → Str
  | .len => "len"
  | .int => "int"
  | .str => "str"
  | .list => "list"
  | .tuple => "tuple"
  | .sum => "sum"
  | .any => "any"
  | .all => "all"
  | .min => "min"
  | .max => "max"
  | .abs => "abs"
  | .sorted => "sorted"
def biV : Bi → Value
  | .len => .builtin "len"
  | .int => .type "int"
  | .str => .type "str"
  | .list => .type "list"
  | .tuple => .type "tuple"
  | .sum => .builtin "sum"
  | .any => .builtin "any"
  | .all => .builtin "all"
  | .min => .builtin "min"
  | .max => .builtin "max"
  | .abs => .builtin "abs"
  | .sorted => .builtin "sorted"
def biRu (K : PySem.W.Frag) : Bi → List V → Hp → VK → Prop
  | .len => fun xs H Q => ∃ x n, xs = [x] ∧ LenV K x H n ∧ Q (.int n) H
  | .int => fun xs H Q => ((∃ i, xs = [.int i] ∧ Q (.int i) H) ∨ ∃ k, xs = [.bl k] ∧ Q (.int (if k then 1 else 0)) H) ∨ ∃ a n, xs = [.str a] ∧ PySem.intText? a = some n ∧ a.length ≤ 640 ∧ Q (.int n) H
  | .str => fun xs H Q => ∃ i, xs = [.int i] ∧ i.natAbs.log2 < 1920 ∧ Q (.str (toString i)) H
  | .list => fun xs H Q => ∃ p ys, xs = [.ref p] ∧ (SqL K H p ys ∨ SqT K H p ys) ∧ ∀ l, H l = none → Q (.ref l) (upd H l (.lst ys))
  | .tuple => fun xs H Q => ∃ p ys, xs = [.ref p] ∧ ((SqL K H p ys ∧ NewT ys H Q) ∨ (SqT K H p ys ∧ Q (.ref p) H))
  | .sum => rSum K
  | .any => rAny K
  | .all => rAll K
  | .min => fun xs H Q => rMin K xs H Q ∨ ∃ i j, xs = [.int i, .int j] ∧ Q (.int (if j < i then j else i)) H
  | .max => fun xs H Q => rMax K xs H Q ∨ ∃ i j, xs = [.int i, .int j] ∧ Q (.int (if j > i then j else i)) H
  | .abs => fun xs H Q => ∃ i, xs = [.int i] ∧ Q (.int (if i < 0 then -i else i)) H
  | .sorted => rSortedI K
theorem bi_call {X : Cx} (h : Bool) (hc : h = false → X.calm = true) (b : Bi) (hb : h = true → b = .len ∨ b = .int) : CallR X (biV b) (biRu X.K b) := by
  cases h with
  | true => rcases hb rfl with rfl | rfl
            · exact call_len
            · exact CallR.or call_int1 call_int_str
  | false =>
    have hc := hc rfl
    cases b with
    | len => exact call_len
    | int => exact CallR.or call_int1 call_int_str
    | str => exact call_str_int
    | list => exact call_list_of
    | tuple => exact call_tupleD
    | sum => exact cr_sum hc
    | any => exact cr_any hc
    | all => exact cr_all hc
    | min => exact CallR.or (cr_min hc) (call_min2 hc)
    | max => exact CallR.or (cr_max hc) (call_max2 hc)
    | abs => exact call_abs
    | sorted => exact cr_sortedI

theorem strOk_of (s : String) : PyData.strOk (PySem.Str.ofString s) = true := by
  unfold PyData.strOk
  rw [Array.all_eq_true_iff_forall_mem]
  intro x hx
  have : ∃ c : Char, c.toNat = x := by
    first
    | (rw [PySem.Str.ofString_eq_toList] at hx; simp at hx; obtain ⟨c, _, e⟩ := hx; exact ⟨c, e⟩)
  obtain ⟨c, rfl⟩ := this
  have h := c.valid
  simp only [decide_eq_true_eq]
  rcases h with h | h
  · have := h; unfold Char.toNat; omega
  · have := h.2; unfold Char.toNat; omega
theorem strOk_int (i : Int) : PyData.strOk (PySem.Str.ofString (toString i)) = true := strOk_of _

/-! ### lists of plain values -/
section
variable {w : Wd} {F H : Hp} {vs : List V} {ds : List D} {A : List Addr}
theorem RepL.ints (r : RepL w F H vs ds A) : ∀ ns, D.ints ds = some ns → vs = ns.map V.int := by
  induction r with
  | nil => intro ns e; simp [D.ints] at e; subst e; rfl
  | int _ ih =>
    intro ns e
    simp only [D.ints, Option.map_eq_some_iff] at e
    obtain ⟨l, e, rfl⟩ := e
    rw [ih l e]; rfl
  | _ => intro ns e; simp [D.ints] at e
theorem RepL.bls (r : RepL w F H vs ds A) : ∀ ns, D.bls ds = some ns → vs = ns.map V.bl := by
  induction r with
  | nil => intro ns e; simp [D.bls] at e; subst e; rfl
  | bl _ ih =>
    intro ns e
    simp only [D.bls, Option.map_eq_some_iff] at e
    obtain ⟨l, e, rfl⟩ := e
    rw [ih l e]; rfl
  | _ => intro ns e; simp [D.bls] at e
theorem RepL.strs (r : RepL w F H vs ds A) : ∀ ns, D.strs ds = some ns → vs = ns.map V.str ∧ ∀ x ∈ ns, PyData.strOk x = true := by
  induction r with
  | nil => intro ns e; simp [D.strs] at e; subst e; exact ⟨rfl, by simp⟩
  | str hx _ ih =>
    intro ns e
    simp only [D.strs, Option.map_eq_some_iff] at e
    obtain ⟨l, e, rfl⟩ := e
    obtain ⟨h1, h2⟩ := ih l e
    exact ⟨by rw [h1]; rfl, by simpa using ⟨hx, h2⟩⟩
  | _ => intro ns e; simp [D.strs] at e
theorem rep_ints (ns : List Int) : RepL w F H (ns.map V.int) (ns.map D.int) [] := repInts ns
theorem rep_strs {ns : List Str} (h : ∀ x ∈ ns, PyData.strOk x = true) : RepL w F H (ns.map V.str) (ns.map D.str) [] := by
  induction ns with
  | nil => exact .nil
  | cons n ns ih => exact .str (h n List.mem_cons_self) (ih fun x hx => h x (List.mem_cons_of_mem _ hx))
/-- the ints of a list that stands there -/
theorem lstInts_at {v : V} {d : D} {ns : List Int} (r : Rep w H H v d A) (e : lstInts d = some ns) : ∃ a, v = .ref a ∧ SqL w.K H a (ns.map V.int) := by
  cases r with
  | scr k _ => simp only [lstInts, Option.some.injEq] at e; subst e; exact ⟨_, rfl, k.sql⟩
  | lstF k1 k2 _ =>
    have e' : D.ints _ = some ns := e
    have := RepL.ints k2 ns e'
    subst this
    exact ⟨_, rfl, .of k1⟩
  | lstO k1 k2 _ =>
    have e' : D.ints _ = some ns := e
    have := RepL.ints k2 ns e'
    subst this
    exact ⟨_, rfl, .of k1⟩
  | _ => simp [lstInts] at e
theorem lenV_at {v : V} {d : D} {n : Nat} (r : Rep w H H v d A) (e : lenD d = some n) : LenV w.K v H n := by
  cases r with
  | str hx _ =>
    simp only [lenD] at e
    split at e
    · rename_i hz; simp only [Option.some.injEq] at e; exact ⟨hz, e.symm⟩
    · cases e
  | scr k _ => simp only [lenD, Option.some.injEq] at e; exact .inl ⟨_, k.sql, by rw [← e]; simp⟩
  | tup k1 k2 _ => simp only [lenD, Option.some.injEq] at e; exact .inr ⟨_, k1.sq, by rw [← e, k2.len]⟩
  | lstF k1 k2 _ => simp only [lenD, Option.some.injEq] at e; exact .inl ⟨_, .of k1, by rw [← e, k2.len]⟩
  | lstO k1 k2 _ => simp only [lenD, Option.some.injEq] at e; exact .inl ⟨_, .of k1, by rw [← e, k2.len]⟩
  | _ => simp [lenD] at e
end
theorem foldl_max_mem : ∀ (xs : List Int) (x : Int), xs.foldl max x ∈ x :: xs ∧ ∀ y ∈ x :: xs, y ≤ xs.foldl max x
  | [], x => by simp
  | z :: xs, x => by
    obtain ⟨h1, h2⟩ := foldl_max_mem xs (max x z)
    simp only [List.foldl_cons]
    refine ⟨?_, fun y hy => ?_⟩
    · rcases List.mem_cons.mp h1 with e | e
      · rw [e]
        by_cases c : x ≤ z
        · rw [Int.max_eq_right c]; simp
        · rw [Int.max_eq_left (by omega)]; simp
      · exact List.mem_cons_of_mem _ (List.mem_cons_of_mem _ e)
    · have h3 := h2 (max x z) List.mem_cons_self
      rcases List.mem_cons.mp hy with e | e
      · subst e; omega
      · rcases List.mem_cons.mp e with e | e
        · subst e; omega
        · exact h2 y (List.mem_cons_of_mem _ e)
theorem foldl_min_mem : ∀ (xs : List Int) (x : Int), xs.foldl min x ∈ x :: xs ∧ ∀ y ∈ x :: xs, xs.foldl min x ≤ y
  | [], x => by simp
  | z :: xs, x => by
    obtain ⟨h1, h2⟩ := foldl_min_mem xs (min x z)
    simp only [List.foldl_cons]
    refine ⟨?_, fun y hy => ?_⟩
    · rcases List.mem_cons.mp h1 with e | e
      · rw [e]
        by_cases c : x ≤ z
        · rw [Int.min_eq_left c]; simp
        · rw [Int.min_eq_right (by omega)]; simp
      · exact List.mem_cons_of_mem _ (List.mem_cons_of_mem _ e)
    · have h3 := h2 (min x z) List.mem_cons_self
      rcases List.mem_cons.mp hy with e | e
      · subst e; omega
      · rcases List.mem_cons.mp e with e | e
        · subst e; omega
        · exact h2 y (List.mem_cons_of_mem _ e)
theorem maxL_of {ns : List Int} {m k : Int} (e : maxL ns = some m) (h1 : k ∈ ns) (h2 : ∀ y, y ∈ ns → y ≤ k) : k = m := by
  cases ns with
  | nil => cases e
  | cons x xs =>
    simp only [maxL, Option.some.injEq] at e
    obtain ⟨a1, a2⟩ := foldl_max_mem xs x
    rw [e] at a1 a2
    have := a2 k h1; have := h2 m a1; omega
theorem minL_of {ns : List Int} {m k : Int} (e : minL ns = some m) (h1 : k ∈ ns) (h2 : ∀ y, y ∈ ns → k ≤ y) : k = m := by
  cases ns with
  | nil => cases e
  | cons x xs =>
    simp only [minL, Option.some.injEq] at e
    obtain ⟨a1, a2⟩ := foldl_min_mem xs x
    rw [e] at a1 a2
    have := a2 k h1; have := h2 m a1; omega
theorem insI_perm (x : Int) : ∀ ys : List Int, (insI x ys).Perm (x :: ys)
  | [] => .refl _
  | y :: ys => by
    unfold insI
    split
    · exact .refl _
    · exact ((insI_perm x ys).cons y).trans (.swap x y ys)
theorem insI_sorted (x : Int) : ∀ {ys : List Int}, ys.Pairwise (· ≤ ·) → (insI x ys).Pairwise (· ≤ ·)
  | [], _ => by simp [insI]
  | y :: ys, h => by
    unfold insI
    split
    · rename_i hxy
      refine List.pairwise_cons.mpr ⟨fun z hz => ?_, h⟩
      rcases List.mem_cons.mp hz with e | e
      · subst e; exact hxy
      · have := (List.pairwise_cons.mp h).1 z e; omega
    · rename_i hxy
      obtain ⟨h1, h2⟩ := List.pairwise_cons.mp h
      refine List.pairwise_cons.mpr ⟨fun z hz => ?_, insI_sorted x h2⟩
      rcases List.mem_cons.mp ((insI_perm x ys).mem_iff.mp hz) with e | e
      · subst e; omega
      · exact h1 z e
theorem sortI_perm : ∀ xs : List Int, (sortI xs).Perm xs
  | [] => .refl _
  | x :: xs => (insI_perm x _).trans ((sortI_perm xs).cons x)
theorem sortI_sorted : ∀ xs : List Int, (sortI xs).Pairwise (· ≤ ·)
  | [] => .nil
  | x :: xs => insI_sorted x (sortI_sorted xs)
theorem sortI_of {xs ys : List Int} (h1 : ys.Perm xs) (h2 : ys.Pairwise (· ≤ ·)) : ys = sortI xs :=
  (h1.trans (sortI_perm xs).symm).eq_of_pairwise (fun a b _ _ p q => by omega) h2 (sortI_sorted xs)

section
variable {T : NT} {W0 : World0} {w0 w : Wd} {fa : Nat → Addr} {cv : Nat → Value} {S : Sem} {h : Bool} {k : Nat} {W : WX} {X : Cx} {pos p apos : Pos}
variable {s : Ex} {ss : List Ex} {e : Expr} {es : List Expr} {a b c : Ex} {ea eb ec : Expr} {o : Expr}
theorem RepRs.one {F H : Hp} {ρ : Env} {As : List (List Addr)} {vs : List V} {r : R} {C : List Addr} (k : RepRs w F H ρ As vs [r] C) : ∃ v, vs = [v] ∧ RepR w F H ρ As v r C := by
  cases k with
  | cons k1 k2 => cases k2; exact ⟨_, rfl, by simpa using k1⟩
theorem RepRs.two {F H : Hp} {ρ : Env} {As : List (List Addr)} {vs : List V} {r r' : R} {C : List Addr} (k : RepRs w F H ρ As vs [r, r'] C) : ∃ v v' C1 C2, vs = [v, v'] ∧ RepR w F H ρ As v r C1 ∧ RepR w F H ρ As v' r' C2 ∧ C = C1 ++ C2 := by
  cases k with
  | cons k1 k2 =>
    obtain ⟨v', rfl, k3⟩ := RepRs.one k2
    exact ⟨_, v', _, _, rfl, k1, k3, rfl⟩
/-- a plain answer -/
theorem bi_plain {h : Bool} {b : Bi} {rs : List R} {F0 H0 F H : Hp} {σ : L2.St} {ρ0 ρ : Env} {As0 As : List (List Addr)} {vs : List V} {C : List Addr} {Q : VK} (p : Post w σ F0 H0 ρ0 As0 F H ρ As C) (k : RepRs w F H ρ As vs rs C)
    (q : Fin (rpR w) w σ W F0 H0 ρ0 As0 ((Res.of (biD b (rs.map R.d)) ρ).bind fun d ρ => .ok (.val d) ρ) Q) : biRu w.K b vs H Q := by
  obtain ⟨d, e, q⟩ := q.ofO
  match rs, k, e with
  | [], k, e => cases b <;> simp [biD] at e
  | [r], k, e =>
    obtain ⟨v, rfl, kr⟩ := k.one
    have kv := RepR.view kr p.same
    cases b with
    | len =>
      simp only [List.map, biD, Option.map_eq_some_iff] at e
      obtain ⟨n, e1, rfl⟩ := e
      exact ⟨v, n, rfl, lenV_at kv e1, fin_val (rp := rpR w) q p (.int .nil) (by simp)⟩
    | int =>
      cases er : r.d with
      | int i => simp only [List.map, er, biD, Option.some.injEq] at e; subst e; exact .inl (.inl ⟨i, by rw [kr.int1 er], fin_val (rp := rpR w) q p (.int .nil) (by simp)⟩)
      | bl i =>
        simp only [List.map, er, biD, Option.some.injEq] at e; subst e
        rw [er] at kv
        cases kv with
        | bl _ => exact .inl (.inr ⟨i, rfl, fin_val (rp := rpR w) q p (.int .nil) (by simp)⟩)
      | str z =>
        simp only [List.map, er, biD] at e
        cases e1 : PySem.intText? z with
        | none => rw [e1] at e; cases e
        | some n =>
          rw [e1] at e
          simp only at e
          split at e
          · rename_i hz; simp only [Option.some.injEq] at e; subst e; exact .inr ⟨z, n, by rw [(kr.str1 er).1], e1, hz, fin_val (rp := rpR w) q p (.int .nil) (by simp)⟩
          · cases e
      | _ => simp [List.map, er, biD] at e
    | str =>
      cases er : r.d with
      | int i =>
        simp only [List.map, er, biD] at e
        split at e
        · rename_i hz
          simp only [Option.some.injEq] at e; subst e
          exact ⟨i, by rw [kr.int1 er], hz, fin_val (rp := rpR w) q p (.str (strOk_int i) .nil) (by simp)⟩
        · cases e
      | _ => simp [List.map, er, biD] at e
    | list => simp [biD] at e
    | tuple => simp [biD] at e
    | sum =>
      simp only [List.map, biD, Option.map_eq_some_iff] at e
      obtain ⟨ns, e1, rfl⟩ := e
      obtain ⟨a, rfl, hs⟩ := lstInts_at kv e1
      exact ⟨a, ns, rfl, hs, fin_val (rp := rpR w) q p (.int .nil) (by simp)⟩
    | any =>
      cases er : r.d with
      | lst o xs =>
        simp only [List.map, er, biD, Option.map_eq_some_iff] at e
        obtain ⟨bs, e1, rfl⟩ := e
        rw [er] at kv
        cases kv with
        | lstF k1 k2 _ => have := RepL.bls k2 bs e1; subst this; exact ⟨_, bs, rfl, .of k1, fin_val (rp := rpR w) q p (.bl .nil) (by simp)⟩
        | lstO k1 k2 _ => have := RepL.bls k2 bs e1; subst this; exact ⟨_, bs, rfl, .of k1, fin_val (rp := rpR w) q p (.bl .nil) (by simp)⟩
      | _ => simp [List.map, er, biD] at e
    | all =>
      cases er : r.d with
      | lst o xs =>
        simp only [List.map, er, biD, Option.map_eq_some_iff] at e
        obtain ⟨bs, e1, rfl⟩ := e
        rw [er] at kv
        cases kv with
        | lstF k1 k2 _ => have := RepL.bls k2 bs e1; subst this; exact ⟨_, bs, rfl, .of k1, fin_val (rp := rpR w) q p (.bl .nil) (by simp)⟩
        | lstO k1 k2 _ => have := RepL.bls k2 bs e1; subst this; exact ⟨_, bs, rfl, .of k1, fin_val (rp := rpR w) q p (.bl .nil) (by simp)⟩
      | _ => simp [List.map, er, biD] at e
    | abs =>
      cases er : r.d with
      | int i => simp only [List.map, er, biD, Option.some.injEq] at e; subst e; exact ⟨i, by rw [kr.int1 er], fin_val (rp := rpR w) q p (.int .nil) (by simp)⟩
      | _ => simp [List.map, er, biD] at e
    | max =>
      have e' : ((lstInts r.d).bind maxL).map D.int = some d := by cases er : r.d <;> simp only [List.map, er, biD] at e <;> exact e
      simp only [Option.map_eq_some_iff, Option.bind_eq_some_iff] at e'
      obtain ⟨m, ⟨ns, e1, e2⟩, rfl⟩ := e'
      obtain ⟨a, rfl, hs⟩ := lstInts_at kv e1
      exact .inl ⟨a, ns, rfl, hs, by cases ns with | nil => cases e2 | cons _ _ => simp, fun j h1 h2 => by rw [maxL_of e2 h1 h2]; exact fin_val (rp := rpR w) q p (.int .nil) (by simp)⟩
    | min =>
      have e' : ((lstInts r.d).bind minL).map D.int = some d := by cases er : r.d <;> simp only [List.map, er, biD] at e <;> exact e
      simp only [Option.map_eq_some_iff, Option.bind_eq_some_iff] at e'
      obtain ⟨m, ⟨ns, e1, e2⟩, rfl⟩ := e'
      obtain ⟨a, rfl, hs⟩ := lstInts_at kv e1
      exact .inl ⟨a, ns, rfl, hs, by cases ns with | nil => cases e2 | cons _ _ => simp, fun j h1 h2 => by rw [minL_of e2 h1 h2]; exact fin_val (rp := rpR w) q p (.int .nil) (by simp)⟩
    | sorted =>
      simp only [List.map, biD, Option.map_eq_some_iff] at e
      obtain ⟨ns, e1, rfl⟩ := e
      obtain ⟨a, rfl, hs⟩ := lstInts_at kv e1
      refine ⟨a, ns, rfl, hs, fun ns' l h1 h2 hl => ?_⟩
      rw [sortI_of h1 h2]
      exact fin_lst q (p.weak (by simp)) (rep_ints _) l hl
  | [r, r'], k, e =>
    obtain ⟨v, v', C1, C2, rfl, kr, kr', rfl⟩ := k.two
    cases b with
    | max =>
      cases er : r.d <;> cases er' : r'.d <;> simp only [List.map, er, er', biD, Option.some.injEq, reduceCtorEq] at e
      subst e
      exact .inr ⟨_, _, by rw [kr.int1 er, kr'.int1 er'], fin_val (rp := rpR w) q p (.int .nil) (by simp)⟩
    | min =>
      cases er : r.d <;> cases er' : r'.d <;> simp only [List.map, er, er', biD, Option.some.injEq, reduceCtorEq] at e
      subst e
      exact .inr ⟨_, _, by rw [kr.int1 er, kr'.int1 er'], fin_val (rp := rpR w) q p (.int .nil) (by simp)⟩
    | _ => simp [biD] at e
  | _ :: _ :: _ :: _, k, e => cases b <;> simp [biD] at e
end
end SL
set_option Elab.async false
set_option linter.all false
set_option maxRecDepth 100000
set_option maxHeartbeats 1000000
/-! SLTi: tuple.index. -/
namespace SL
open PySem PySem.Spec PyProof.Rows L2
section
variable {X : Cx}
def rIndexTD (K : PySem.W.Frag) : V → List V → Hp → VK → Prop := fun x xs H Q => ∃ (a : Addr) (y : V) (d : PyData) (ds : List PyData) (j : Nat) (z : PyData), x = V.ref a ∧ xs = [y] ∧ Dp K H (V.ref a) (.tuple ds) ∧ Dp K H y d ∧
  SeqAt.shaped (.tuple ds) = true ∧ SeqAt.shaped d = true ∧ ds[j]? = some z ∧ PyData.eqv z d = true ∧ (∀ (m : Nat) (z' : PyData), m < j → ds[m]? = some z' → PyData.eqv z' d = false) ∧ Q (.int (j : Nat)) H
theorem mt_indexTD (hu : X.A.units + 65 < cLine) : MtR X "tuple.index" (rIndexTD X.K) := by
  intro pins s σ H x xs v us Q I rx rxs h
  obtain ⟨a, y, d, ds, j, z, rfl, rfl, hl, hy, sl, sd, hz, hzj, hno, q⟩ := h
  cases rx
  cases rxs with
  | cons ry rt =>
    rename_i uy ut
    cases rt
    obtain ⟨bs, r1⟩ := Dp.reads I d y uy hy ry
    have hxs : PyData.canLayAll0 ds = true := SeqAt.canLay_of_shaped sl
    have hroom : X.A.units + 1 + min (PyData.depthAll ds) d.depth < cLine := room_in_shaped sd hu
    cases hl with
    | tup hs ha =>
      obtain ⟨its, rv, ⟨⟨cls, dd, data, sls⟩, ho, hc, n, hdt⟩, hlen⟩ := I.tuple hs
      simp only at hc hdt
      subst hc hdt
      obtain ⟨as, h4⟩ := Dp.readsAll I ds _ its ha rv
      have hn : its.length = ds.length := SeqAt.ReadsAll.length ds its as h4
      have hmap : its.map (SeqAt.readOf s.heap) = ds := SeqAt.readsAll_map ds its as hxs h4
      have hvl := rv.length
      have hsl := sizeLine_eq
      obtain ⟨hjd, _⟩ := List.getElem?_eq_some_iff.mp hz
      have hjl : j < its.length := by omega
      have hj : j < its.toArray.size := by simpa using hjl
      have at_ : ∀ (m : Nat) (hm : m < its.toArray.size) (z' : PyData), ds[m]? = some z' → SeqAt.readOf s.heap its.toArray[m] = z' := by
        intro m hm z' hz'
        have hml : m < its.length := by simpa using hm
        rw [← hmap, List.getElem?_map, List.getElem?_eq_getElem hml] at hz'
        have e1 : SeqAt.readOf s.heap its[m] = z' := Option.some.inj (show some (SeqAt.readOf s.heap its[m]) = some z' from hz')
        simpa using e1
      refine call_meets PySem.F.slot_tuple_index ⟨_, ho, rfl⟩ PySem.F.entry_tuple_index (PySem.F.args_tuple_index_2 _ _)
        (TI.tuple_indexAt a its.toArray n dd sls uy (fun u => PyData.eqv (SeqAt.readOf s.heap u) d) j hj ?_ ?_) ⟨ho, SeqAt.items_eqAt (vs := its.toArray) (show ReadsAll s.heap its.toArray.toList ds as from h4) r1 hxs (SeqAt.canLay_of_shaped sd) hroom, ?_⟩
      · show PyData.eqv (SeqAt.readOf s.heap its.toArray[j]) d = true
        rw [at_ j hj z hz]
        exact hzj
      · intro m hm hmj
        have hmd : m < ds.length := by omega
        have hz' : ds[m]? = some ds[m] := List.getElem?_eq_getElem hmd
        show PyData.eqv (SeqAt.readOf s.heap its.toArray[m]) d = false
        rw [at_ m hm _ hz']
        exact hno m _ hmj hz'
      · exact ⟨.int (j : Nat), H, I.tok _, ⟨_, rfl⟩, q⟩
/-! ### a method of a built-in type, a made tuple's too -/
def tyW (K : PySem.W.Frag) (T : String) (x : V) (H : Hp) : Prop := tyV K T x H ∨ (T = "tuple" ∧ ∃ a ws, x = .ref a ∧ SqTd K H a ws)
theorem tyW_is {pins : List (Addr × Obj)} {σ : L2.St} {H : Hp} {s : Shared} {T : String} {x : V} {v : Value} (I : Inv X pins σ H s) (r : RelV x v) (ty : tyW X.K T x H) :
    s.TypeIs v T ∧ ∀ a, v = .ref a → ∃ ob, s.heap.get? a = some ob ∧ ob.dict = none := by
  rcases ty with ty | ⟨rfl, a, ws, rfl, ⟨o, h, hc, hd⟩ | ⟨its, n, sl, l, _, _⟩⟩
  · exact tyV_is I r ty
  · cases r
    obtain ⟨e, _⟩ := (show ObjOk X.prog X.w H s.heap a (.frz o (.tup ws)) from I.hok a _ h)
    exact ⟨⟨o, e, hc⟩, fun b q => by cases q; exact ⟨o, e, hd⟩⟩
  · cases r
    have e := I.kIn a _ l
    exact ⟨⟨_, e, rfl⟩, fun b q => by cases q; exact ⟨_, e, rfl⟩⟩
def tBMW (K : PySem.W.Frag) (T : String) (r : V → List V → Hp → VK → Prop) (to : TE) (t : TA) : TE := fun σ H Q => to σ H fun x H1 => tyW K T x H1 ∧ t σ H1 fun xs H2 => r x xs H2 Q
variable {o e : Expr} {es : List Expr} {to : TE} {t : TA} {name : Str} {apos cpos : Pos} {T id : String} {r : V → List V → Hp → VK → Prop}
theorem pe_bmW (pa : PlainAttrs T) (slot : Slot T name id) (hty : typeOf (.builtin id) = pure (.type "method_descriptor")) (hm : MtR X id r) (ho : PE X o to) (ha : PA X (e :: es) t)
    (hbase : attributeBase o name X.env (eval o X.env) = eval o X.env)
    (hfew : ((backTo cpos (starEach (e :: es) X.env)).all (fun x => !x.1) && (backToKw cpos (keywordEach [] X.env)).all (fun x => x.1.isSome)
      && decide ((e :: es).length + ([] : List Keyword).length + (if ([] : List Keyword).isEmpty then 0 else 1) < 30)) = true)
    (hline : (apos.endLine == cpos.line) = true) (hs : starEach (e :: es) X.env = (false, eval e X.env) :: starEach es X.env) (hplain : (backTo cpos (starEach es X.env)).any (·.1) = false) :
    PE X (.Call (.Attribute o name apos) (e :: es) [] cpos) (tBMW X.K T r to t) := by
  refine ⟨fun pins s σ H Q I h => ?_⟩
  refine wpAny_Call_method_late hbase hfew hline rfl (thn (ho.run pins s σ H _ I h) fun v s1 ⟨x, H1, I1, r1, ty, q1⟩ => ?_)
  obtain ⟨h1, h2⟩ := tyW_is I1 r1 ty
  refine ⟨T, id, pa, slot, hty, h1, h2, ?_⟩
  have hA := ha.run cpos pins s1 σ H1 _ I1 q1
  rw [hs] at hA ⊢
  refine Calls.callWith_builtin (by show (false || (backTo cpos (starEach es X.env)).any (·.1)) = false; rw [hplain] <;> rfl) (Calls.evalArgs_plain ?_)
  exact thn hA fun us s2 ⟨vs, H2, I2, r2, q2⟩ => hm pins s2 σ H2 x vs v us Q I2 r1 r2 q2
end
end SL
set_option Elab.async false
set_option linter.all false
set_option maxRecDepth 100000
set_option maxHeartbeats 1000000
/-! SLZc: built-in functions and methods called. -/
namespace SL
open PySem L2
section
variable {T : NT} {W0 : World0} {w0 w : Wd} {fa : Nat → Addr} {cv : Nat → Value} {S : Sem} {h : Bool} {k : Nat} {W : WX} {X : Cx} {pos p apos : Pos}
variable {s : Ex} {ss : List Ex} {e : Expr} {es : List Expr} {a b c : Ex} {ea eb ec : Expr} {o : Expr}

theorem seq_at {K : PySem.W.Frag} {H : Hp} {a : Addr} {ws : List V} {d : D} (h : SeqV K H a ws d) : SqL K H a ws ∨ SqT K H a ws := by
  cases d with
  | lst _ _ => exact .inl (.of h)
  | scr _ => exact .inl h
  | tup _ => exact .inr h
  | _ => exact h.elim
theorem bi_goP {h : Bool} {b : Bi} {rs : List R} {F0 H0 F H : Hp} {σ : L2.St} {ρ0 ρ : Env} {As0 As : List (List Addr)} {vs : List V} {C : List Addr} {Q : VK} (p : Post w σ F0 H0 ρ0 As0 F H ρ As C) (k : RepRs w F H ρ As vs rs C)
    (q : Fin (rpR w) w σ W F0 H0 ρ0 As0 (biR h b rs ρ) Q) (e : biR h b rs ρ = if (h && (b != .len && b != .int)) = true then .bad else (Res.of (biD b (rs.map R.d)) ρ).bind fun d ρ => .ok (.val d) ρ) : biRu w.K b vs H Q ∧ (h = true → b = .len ∨ b = .int) := by
  rw [e] at q
  split at q
  · exact q.elim
  · rename_i hb
    refine ⟨bi_plain (h := h) p k q, fun hh => ?_⟩
    subst hh
    cases b <;> simp_all
theorem bi_go {h : Bool} {b : Bi} {rs : List R} {F0 H0 F H : Hp} {σ : L2.St} {ρ0 ρ : Env} {As0 As : List (List Addr)} {vs : List V} {C : List Addr} {Q : VK} (p : Post w σ F0 H0 ρ0 As0 F H ρ As C) (k : RepRs w F H ρ As vs rs C)
    (q : Fin (rpR w) w σ W F0 H0 ρ0 As0 (biR h b rs ρ) Q) : biRu w.K b vs H Q ∧ (h = true → b = .len ∨ b = .int) := by
  cases b with
  | list =>
    match rs, k, q with
    | [], k, q => exact bi_goP p k q (by unfold biR; rfl)
    | _ :: _ :: _, k, q => exact bi_goP p k q (by unfold biR; rfl)
    | [r], k, q =>
      obtain ⟨v, rfl, kr⟩ := k.one
      cases h with
      | true => exact q.elim
      | false =>
        have q : Fin (rpR w) w σ W F0 H0 ρ0 As0 ((elems r ρ).bind fun xs ρ => .ok (.val (.lst true xs)) ρ) Q := q
        obtain ⟨xs, ρ', e1, q⟩ := q.of_ok elems_ne
        obtain ⟨F', As', a, ws, p', l, rfl, kk, sv⟩ := elems_ok (C' := []) p kr (by simp) e1
        exact ⟨⟨a, ws, rfl, seq_at sv, fin_lst q p' kk⟩, fun z => by cases z⟩
  | tuple =>
    match rs, k, q with
    | [], k, q => exact bi_goP p k q (by unfold biR; rfl)
    | _ :: _ :: _, k, q => exact bi_goP p k q (by unfold biR; rfl)
    | [r], k, q =>
      obtain ⟨v, rfl, kr⟩ := k.one
      cases h with
      | true => exact q.elim
      | false =>
        have q : Fin (rpR w) w σ W F0 H0 ρ0 As0 (match r.d with
          | .tup _ => .ok r ρ
          | .lst _ _ => (elems r ρ).bind fun xs ρ => .ok (.val (.tup xs)) ρ
          | _ => .bad) Q := q
        refine ⟨?_, fun z => by cases z⟩
        cases er : r.d with
        | tup xs =>
          rw [er] at q
          have kv := RepR.view kr p.same
          rw [er] at kv
          cases kv with
          | tup k1 k2 _ => exact ⟨_, _, rfl, .inr ⟨k1.sq, q _ F H As C p kr⟩⟩
        | lst o xs =>
          rw [er] at q
          obtain ⟨ys, ρ', e1, q⟩ := Fin.of_ok q elems_ne
          obtain ⟨F', As', a, ws, p', l, rfl, kk, sv⟩ := elems_ok (C' := []) p kr (by simp) e1
          rw [er] at sv
          exact ⟨a, ws, rfl, .inl ⟨.of sv, fin_tup q p' kk⟩⟩
        | _ => rw [er] at q; exact q.elim
  | _ => exact bi_goP p k q (by unfold biR; rfl)
theorem bi_nameT {x : Str} {id : String} {r : List V → Hp → VK → Prop} {t : TA} (hc : CallR X (.type id) r) (hg : Gl X x) (hm : X.mg x = none) (hv : bootBuiltins x = some (.type id)) (ha : PA X (e :: es) t) (hn : x ≠ "__name__") (hd : (x == ("__debug__" : Str)) = false) (n1 : noStar e = true) (n2 : es.all noStar = true) :
    PE X (.Call (.Name x p) (e :: es) [] pos) (tCB r t) := pe_callTy hc hg hm hv ha hn hd (star_cons n1) (star_any n2)
theorem bi_nameB {x : Str} {id : String} {r : List V → Hp → VK → Prop} {t : TA} (hc : CallR X (.builtin id) r) (hg : Gl X x) (hm : X.mg x = none) (hv : bootBuiltins x = some (.builtin id)) (ha : PA X (e :: es) t) (hn : x ≠ "__name__") (hd : (x == ("__debug__" : Str)) = false) (n1 : noStar e = true) (n2 : es.all noStar = true) :
    PE X (.Call (.Name x p) (e :: es) [] pos) (tCB r t) := pe_callB hc hg hm hv ha hn hd (star_cons n1) (star_any n2)
theorem boot_max' : bootBuiltins "max" = some (.builtin "max") := by decide +kernel
theorem boot_min' : bootBuiltins "min" = some (.builtin "min") := by decide +kernel
theorem boot_sum' : bootBuiltins "sum" = some (.builtin "sum") := by decide +kernel
theorem boot_any' : bootBuiltins "any" = some (.builtin "any") := by decide +kernel
theorem boot_all' : bootBuiltins "all" = some (.builtin "all") := by decide +kernel
theorem boot_len' : bootBuiltins "len" = some (.builtin "len") := by decide +kernel
theorem bi_pe (x : XF T W0 w0 w fa cv S h k W X) {b : Bi} {t : TA} (hb : h = true → b = .len ∨ b = .int) (hg : Gl X (biN b)) (ha : PA X (e :: es) t) (n1 : noStar e = true) (n2 : es.all noStar = true) :
    PE X (.Call (.Name (biN b) p) (e :: es) [] pos) (tCB (biRu X.K b) t) := by
  have hc := bi_call (X := X) h (fun z => (x.room z).2) b hb
  have hm : X.mg (biN b) = none := by rw [x.mg]; exact x.pr.blt _ (by cases b <;> decide)
  cases b with
  | len => exact bi_nameB hc hg hm boot_len' ha (by decide) (by decide) n1 n2
  | int => exact bi_nameT hc hg hm PyProof.Rows.boot_int ha (by decide) (by decide) n1 n2
  | str => exact bi_nameT hc hg hm PyProof.Rows.boot_str ha (by decide) (by decide) n1 n2
  | list => exact bi_nameT hc hg hm PyProof.Rows.boot_list ha (by decide) (by decide) n1 n2
  | tuple => exact bi_nameT hc hg hm PyProof.Rows.boot_tuple ha (by decide) (by decide) n1 n2
  | sum => exact bi_nameB hc hg hm boot_sum' ha (by decide) (by decide) n1 n2
  | any => exact bi_nameB hc hg hm boot_any' ha (by decide) (by decide) n1 n2
  | all => exact bi_nameB hc hg hm boot_all' ha (by decide) (by decide) n1 n2
  | min => exact bi_nameB hc hg hm boot_min' ha (by decide) (by decide) n1 n2
  | max => exact bi_nameB hc hg hm boot_max' ha (by decide) (by decide) n1 n2
  | abs => exact bi_nameB hc hg hm PyProof.Rows.boot_abs ha (by decide) (by decide) n1 n2
  | sorted => exact bi_nameB hc hg hm PyProof.Rows.boot_sorted ha (by decide) (by decide) n1 n2
theorem snd_bi (x : XF T W0 w0 w fa cv S h k W X) {b : Bi} (hb : h = true → b = .len ∨ b = .int) (hg : Gl X (biN b)) (ha : PA X (e :: es) (tEvs S h w W ss)) (n1 : noStar e = true) (n2 : es.all noStar = true) :
    PE X (.Call (.Name (biN b) p) (e :: es) [] pos) (tEv S h w W (.bi b ss)) := by
  refine PE.of (bi_pe x hb hg ha n1 n2) fun σ H Q ⟨F, ρ, As, pr, q⟩ => ?_
  rw [evalE] at q
  refine ⟨F, ρ, As, pr, q.bind0 fun rs ρ1 vs F1 H1 As1 C1 e1 p1 k1 q1 => ?_⟩
  rw [x.KK]
  exact (bi_go p1 k1 q1).1

/-! ### methods of lists and texts -/
def bmN : Bm → Str
  | .split => "split"
  | .join => "join"
  | .index => "index"
  | .indexT => "index"
  | .upper => "upper"
def bmY : Bm → String
  | .index => "list"
  | .indexT => "tuple"
  | _ => "str"
def bmI : Bm → String
  | .split => "str.split"
  | .join => "str.join"
  | .index => "list.index"
  | .indexT => "tuple.index"
  | .upper => "str.upper"
def bmRu (K : PySem.W.Frag) : Bm → V → List V → Hp → VK → Prop
  | .split => fun x xs H Q => ∃ a b, x = .str a ∧ xs = [.str b] ∧ (b.length == 0) = false ∧ a.length + 2 ≤ sizeLine ∧ rNewStrs (Txt.split a b) H Q
  | .join => fun x xs H Q => ∃ a p, ∃ ys : List Str, x = .str a ∧ xs = [.ref p] ∧ (SqL K H p (ys.map V.str) ∨ SqT K H p (ys.map V.str)) ∧
    (ys.map (·.length)).sum + ys.length * a.length ≤ 16777216 ∧ Q (.str (Txt.join a ys)) H
  | .index => rIndexD K
  | .indexT => rIndexTD K
  | .upper => fun x xs H Q => ∃ a, x = .str a ∧ xs = [] ∧ a.length ≤ 5592405 ∧ Q (.str (Txt.upper a)) H
theorem bm_pe {X : Cx} (hu : X.A.units + 65 < cLine) {m : Bm} {to : TE} {t : TA} (ho : PE X o to) (ha : PA X (e :: es) t) (h1 : noSup o = true) (n1 : noStar e = true) (n2 : es.all noStar = true) (h3 : es.length < 19) (h4 : (apos.endLine == pos.line) = true) :
    PE X (.Call (.Attribute o (bmN m) apos) (e :: es) [] pos) (tBMW X.K (bmY m) (bmRu X.K m) to t) := by
  have few : ((backTo pos (starEach (e :: es) X.env)).all (fun x => !x.1) && (backToKw pos (keywordEach [] X.env)).all (fun x => x.1.isSome) && decide ((e :: es).length + ([] : List Keyword).length + (if ([] : List Keyword).isEmpty then 0 else 1) < 30)) = true := by
    rw [all_plain (by simp [n1]; simpa using n2)]
    have : decide ((e :: es).length + ([] : List Keyword).length + (if ([] : List Keyword).isEmpty then 0 else 1) < 30) = true := by simp; omega
    rw [this]; rfl
  cases m with
  | split => exact pe_bmW PySem.F.plainAttrs_str PySem.F.slot_str_split PySem.F.type_str_split mt_split ho ha (ab_of h1) few h4 (star_cons n1) (star_any n2)
  | join => exact pe_bmW PySem.F.plainAttrs_str PySem.F.slot_str_join PySem.F.type_str_join mt_join ho ha (ab_of h1) few h4 (star_cons n1) (star_any n2)
  | upper => exact pe_bmW PySem.F.plainAttrs_str PySem.F.slot_str_upper PySem.F.type_str_upper mt_upper ho ha (ab_of h1) few h4 (star_cons n1) (star_any n2)
  | index => exact pe_bmW PySem.F.plainAttrs_list PySem.F.slot_list_index PySem.F.type_list_index (mt_indexD hu) ho ha (ab_of h1) few h4 (star_cons n1) (star_any n2)
  | indexT => exact pe_bmW PySem.F.plainAttrs_tuple PySem.F.slot_tuple_index PySem.F.type_tuple_index (mt_indexTD hu) ho ha (ab_of h1) few h4 (star_cons n1) (star_any n2)
theorem bm_pe0 {X : Cx} {to : TE} (ho : PE X o to) (h1 : noSup o = true) (h4 : (apos.endLine == pos.line) = true) : PE X (.Call (.Attribute o (bmN .upper) apos) [] [] pos) (tBM0 X.K (bmY .upper) (bmRu X.K .upper) to) :=
  pe_bm0 PySem.F.plainAttrs_str PySem.F.slot_str_upper PySem.F.type_str_upper mt_upper ho (ab_of h1) h4
theorem tyV_at {F H : Hp} {ρ : Env} {As : List (List Addr)} {C : List Addr} {v : V} {r : R} {m : Bm} (k : RepR w F H ρ As v r C) (s : Same F H) (e : bmT m r.d = true) : tyW w.K (bmY m) v H := by
  have kv := RepR.view k s
  cases er : r.d with
  | str z => rw [(k.str1 er).1]; cases m <;> first | exact .inl rfl | (simp [er, bmT] at e)
  | lst o xs =>
    rw [er] at kv
    cases m <;> simp [er, bmT] at e
    cases kv with
    | lstF k1 _ _ => exact .inl (.inl ⟨rfl, _, .of k1⟩)
    | lstO k1 _ _ => exact .inl (.inl ⟨rfl, _, .of k1⟩)
  | tup xs =>
    rw [er] at kv
    cases m <;> simp [er, bmT] at e
    cases kv with
    | tup k1 _ _ => exact .inr ⟨rfl, _, _, rfl, k1⟩
  | _ => cases m <;> simp [er, bmT] at e
theorem idxOf_ok {x : D} : ∀ {xs : List D} {n k : Nat}, idxOf x xs n = some k → ∃ j y, k = n + j ∧ xs[j]? = some y ∧ y.eqv x = true ∧ ∀ i z, i < j → xs[i]? = some z → z.eqv x = false
  | [], n, k, e => by simp [idxOf] at e
  | y :: ys, n, k, e => by
    unfold idxOf at e
    split at e
    · rename_i c
      simp only [Option.some.injEq] at e
      exact ⟨0, y, by omega, rfl, c, fun i z h => by omega⟩
    · rename_i c
      obtain ⟨j, z, h1, h2, h3, h4⟩ := idxOf_ok e
      refine ⟨j + 1, z, by omega, by simpa using h2, h3, fun i u hi hu => ?_⟩
      cases i with
      | zero => simp at hu; subst hu; simpa using c
      | succ i => exact h4 i u (by omega) (by simpa using hu)
theorem pyL_get : ∀ {xs : List D} {ps : List PyData} {j : Nat}, D.pyL xs = some ps → (∀ p, ps[j]? = some p → ∃ d, xs[j]? = some d ∧ d.py = some p) ∧ (∀ d, xs[j]? = some d → ∃ p, ps[j]? = some p ∧ d.py = some p)
  | [], ps, j, e => by simp [D.pyL] at e; subst e; simp
  | d :: ds, ps, j, e => by
    simp only [D.pyL] at e
    cases q1 : d.py with
    | none => rw [q1] at e; simp at e
    | some p =>
      cases q2 : D.pyL ds with
      | none => rw [q1, q2] at e; simp at e
      | some qs =>
        rw [q1, q2] at e
        simp only [Option.some.injEq] at e
        subst e
        cases j with
        | zero => simp [q1]
        | succ j => simpa using pyL_get (j := j) q2
/-- the texts of a list or tuple that stands there -/
theorem seqStrs_at {H : Hp} {v : V} {d : D} {A : List Addr} {ns : List Str} (r : Rep w H H v d A) (e : seqStrs d = some ns) : ∃ a, v = .ref a ∧ (SqL w.K H a (ns.map V.str) ∨ SqT w.K H a (ns.map V.str)) ∧ ∀ x ∈ ns, PyData.strOk x = true := by
  cases r with
  | tup k1 k2 _ =>
    have e' : D.strs _ = some ns := e
    obtain ⟨h1, h2⟩ := RepL.strs k2 ns e'
    subst h1
    exact ⟨_, rfl, .inr k1.sq, h2⟩
  | lstF k1 k2 _ =>
    have e' : D.strs _ = some ns := e
    obtain ⟨h1, h2⟩ := RepL.strs k2 ns e'
    subst h1
    exact ⟨_, rfl, .inl (.of k1), h2⟩
  | lstO k1 k2 _ =>
    have e' : D.strs _ = some ns := e
    obtain ⟨h1, h2⟩ := RepL.strs k2 ns e'
    subst h1
    exact ⟨_, rfl, .inl (.of k1), h2⟩
  | _ => simp [seqStrs] at e
theorem strOk_sub {x : Str} {i j : Nat} (hx : PyData.strOk x = true) : PyData.strOk (Builtin.Str.strSub x i j) = true := by
  rw [strOk_list] at hx ⊢
  rw [StrLaws.strSub_toList]
  intro c hc
  exact hx c (List.mem_of_mem_drop (List.mem_of_mem_take hc))
theorem strOk_split {x s : Str} (hx : PyData.strOk x = true) : ∀ y ∈ Txt.split x s, PyData.strOk y = true := by
  intro y hy
  unfold Txt.split at hy
  split at hy
  · simp at hy; subst hy; exact hx
  · split at hy
    · simp at hy; subst hy; exact hx
    · unfold Builtin.Str.partsBetween at hy
      simp only [List.mem_map] at hy
      obtain ⟨p, _, e⟩ := hy
      rw [← e]
      exact strOk_sub hx
theorem strOk_join' {s : Str} (hs : PyData.strOk s = true) : ∀ {ys : List Str}, (∀ y ∈ ys, PyData.strOk y = true) → PyData.strOk (Str.join s ys) = true
  | [], _ => strOk_list.mpr (fun c hc => by cases hc)
  | [y], h => h y List.mem_cons_self
  | y :: z :: ys, h => by
    have := strOk_join' hs (ys := z :: ys) fun u hu => h u (List.mem_cons_of_mem _ hu)
    show PyData.strOk (y ++ s ++ Str.join s (z :: ys)) = true
    exact strOk_append (strOk_append (h y List.mem_cons_self) hs) this
theorem strOk_join {s : Str} {ys : List Str} (hs : PyData.strOk s = true) (hy : ∀ y ∈ ys, PyData.strOk y = true) : PyData.strOk (Txt.join s ys) = true := by
  unfold Txt.join
  rw [StrLaws.glued_eq_join]
  exact strOk_join' hs hy
theorem bm_go {m : Bm} {r : R} {rs : List R} {F0 H0 F H : Hp} {σ : L2.St} {ρ0 ρ : Env} {As0 As : List (List Addr)} {v : V} {vs : List V} {C C1 C2 : List Addr} {Q : VK} (p : Post w σ F0 H0 ρ0 As0 F H ρ As C) (k1 : RepR w F H ρ As v r C1) (k : RepRs w F H ρ As vs rs C2)
    (q : Fin (rpR w) w σ W F0 H0 ρ0 As0 ((Res.of (bmD m r.d (rs.map R.d)) ρ).bind fun d ρ => .ok (.val d) ρ) Q) : bmRu w.K m v vs H Q := by
  obtain ⟨d, e, q⟩ := q.ofO
  cases m with
  | split =>
    match rs, k, e with
    | [], k, e => cases er : r.d <;> simp [er, bmD] at e
    | _ :: _ :: _, k, e => cases er : r.d <;> simp [er, bmD] at e
    | [r2], k, e =>
      obtain ⟨u, rfl, k2⟩ := k.one
      cases er : r.d <;> cases er2 : r2.d <;> simp only [List.map, er, er2, bmD, reduceCtorEq] at e
      split at e
      · cases e
      · rename_i hz
        simp only [Option.some.injEq] at e; subst e
        obtain ⟨hv, o1⟩ := k1.str1 er
        obtain ⟨hu, o2⟩ := k2.str1 er2
        have hz' := not_or.mp hz
        exact ⟨_, _, hv, by rw [hu], by simpa using hz'.1, by have := hz'.2; omega, fin_lst q (p.weak (by simp)) (rep_strs (strOk_split o1))⟩
  | join =>
    match rs, k, e with
    | [], k, e => cases er : r.d <;> simp [er, bmD] at e
    | _ :: _ :: _, k, e => cases er : r.d <;> simp [er, bmD] at e
    | [r2], k, e =>
      obtain ⟨u, rfl, k2⟩ := k.one
      cases er : r.d <;> simp only [List.map, er, bmD, reduceCtorEq] at e
      cases e2 : seqStrs r2.d with
      | none => rw [e2] at e; cases e
      | some ys =>
        rw [e2] at e
        simp only at e
        split at e
        · rename_i hz
          simp only [Option.some.injEq] at e; subst e
          obtain ⟨hv, o1⟩ := k1.str1 er
          obtain ⟨a, rfl, h1, h2⟩ := seqStrs_at (RepR.view k2 p.same) e2
          exact ⟨_, a, ys, hv, rfl, h1, hz, fin_val (rp := rpR w) q p (.str (strOk_join o1 h2) .nil) (by simp)⟩
        · cases e
  | upper =>
    match rs, k, e with
    | _ :: _, k, e => cases er : r.d <;> simp [er, bmD] at e
    | [], k, e =>
      cases er : r.d <;> simp only [List.map, er, bmD, reduceCtorEq] at e
      split at e
      · rename_i hz
        simp only [Option.some.injEq] at e; subst e
        obtain ⟨hv, o1⟩ := k1.str1 er
        cases k
        exact ⟨_, hv, rfl, hz.1, fin_val (rp := rpR w) q p (.str hz.2 .nil) (by simp)⟩
      · cases e
  | index =>
    match rs, k, e with
    | [], k, e => cases er : r.d <;> simp [er, bmD] at e
    | _ :: _ :: _, k, e => cases er : r.d <;> simp [er, bmD] at e
    | [r2], k, e =>
      obtain ⟨u, rfl, k2⟩ := k.one
      cases er : r.d <;> simp only [List.map, er, bmD, reduceCtorEq] at e
      rename_i o xs
      split at e
      · rename_i hz
        simp only [Bool.and_eq_true, decide_eq_true_eq] at hz
        obtain ⟨⟨z1, z2⟩, z3, z4⟩ := hz
        simp only [Option.map_eq_some_iff] at e
        obtain ⟨j, e9, rfl⟩ := e
        obtain ⟨j', y, rfl, hy, he, hno⟩ := idxOf_ok e9
        obtain ⟨pl, hpl⟩ := Option.isSome_iff_exists.mp z1
        simp only [D.py, Option.map_eq_some_iff] at hpl
        obtain ⟨ps, hps, rfl⟩ := hpl
        obtain ⟨px, hpx⟩ := Option.isSome_iff_exists.mp z2
        have v1 := RepR.view k1 p.same
        rw [er] at v1
        obtain ⟨d1, l1⟩ := RepL.dp1 v1 (Same.refl _) (p := .list ps) (by simp only [D.py, hps, Option.map_some])
        obtain ⟨d2, l2⟩ := RepL.dp1 (RepR.view k2 p.same) (Same.refl _) hpx
        have hv : ∃ a, v = .ref a := by cases v1 <;> exact ⟨_, rfl⟩
        obtain ⟨a, rfl⟩ := hv
        have dp1 := py_depL xs ps hps
        have dp2 := py_dep _ px hpx
        obtain ⟨py, h1, h2⟩ := (pyL_get (j := j') hps).2 y hy
        refine ⟨a, u, px, ps, j', py, rfl, rfl, d1, d2, ?_, ?_, h1, by rw [py_eqv _ _ _ _ h2 hpx]; exact he, fun m z' hm hz' => ?_, ?_⟩
        · unfold SeqAt.shaped
          rw [l1]
          have e7 : (PyData.list ps).depth = PyData.depthAll ps + 1 := rfl
          have e8 : (PyData.list ps).depth ≤ 64 := by omega
          simp [e8]
        · unfold SeqAt.shaped
          rw [l2]
          simp only [Bool.true_and, decide_eq_true_eq]; omega
        · obtain ⟨dz, g1, g2⟩ := (pyL_get (j := m) hps).1 z' hz'
          rw [py_eqv _ _ _ _ g2 hpx]; exact hno m dz hm g1
        · have := fin_val (rp := rpR w) q p (.int .nil) (by simp)
          simpa using this
      · cases e
  | indexT =>
    match rs, k, e with
    | [], k, e => cases er : r.d <;> simp [er, bmD] at e
    | _ :: _ :: _, k, e => cases er : r.d <;> simp [er, bmD] at e
    | [r2], k, e =>
      obtain ⟨u, rfl, k2⟩ := k.one
      cases er : r.d <;> simp only [List.map, er, bmD, reduceCtorEq] at e
      rename_i xs
      split at e
      · rename_i hz
        simp only [Bool.and_eq_true, decide_eq_true_eq] at hz
        obtain ⟨⟨z1, z2⟩, z3, z4⟩ := hz
        simp only [Option.map_eq_some_iff] at e
        obtain ⟨j, e9, rfl⟩ := e
        obtain ⟨j', y, rfl, hy, he, hno⟩ := idxOf_ok e9
        obtain ⟨pl, hpl⟩ := Option.isSome_iff_exists.mp z1
        simp only [D.py, Option.map_eq_some_iff] at hpl
        obtain ⟨ps, hps, rfl⟩ := hpl
        obtain ⟨px, hpx⟩ := Option.isSome_iff_exists.mp z2
        have v1 := RepR.view k1 p.same
        rw [er] at v1
        obtain ⟨d1, l1⟩ := RepL.dp1 v1 (Same.refl _) (p := .tuple ps) (by simp only [D.py, hps, Option.map_some])
        obtain ⟨d2, l2⟩ := RepL.dp1 (RepR.view k2 p.same) (Same.refl _) hpx
        have hv : ∃ a, v = .ref a := by cases v1 <;> exact ⟨_, rfl⟩
        obtain ⟨a, rfl⟩ := hv
        have dp1 := py_depL xs ps hps
        have dp2 := py_dep _ px hpx
        obtain ⟨py, h1, h2⟩ := (pyL_get (j := j') hps).2 y hy
        refine ⟨a, u, px, ps, j', py, rfl, rfl, d1, d2, ?_, ?_, h1, by rw [py_eqv _ _ _ _ h2 hpx]; exact he, fun m z' hm hz' => ?_, ?_⟩
        · unfold SeqAt.shaped
          rw [l1]
          have e7 : (PyData.tuple ps).depth = PyData.depthAll ps + 1 := rfl
          have e8 : (PyData.tuple ps).depth ≤ 64 := by omega
          simp [e8]
        · unfold SeqAt.shaped
          rw [l2]
          simp only [Bool.true_and, decide_eq_true_eq]; omega
        · obtain ⟨dz, g1, g2⟩ := (pyL_get (j := m) hps).1 z' hz'
          rw [py_eqv _ _ _ _ g2 hpx]; exact hno m dz hm g1
        · have := fin_val (rp := rpR w) q p (.int .nil) (by simp)
          simpa using this
      · cases e
theorem snd_bm (x : XF T W0 w0 w fa cv S h k W X) {m : Bm} (ho : PE X o (tEv S h w W s)) (ha : PA X (e :: es) (tEvs S h w W ss)) (h1 : noSup o = true) (n1 : noStar e = true) (n2 : es.all noStar = true) (h3 : es.length < 19) (h4 : (apos.endLine == pos.line) = true) :
    PE X (.Call (.Attribute o (bmN m) apos) (e :: es) [] pos) (tEv S h w W (.bm m s ss)) := by
  refine PE.of (bm_pe x.units ho ha h1 n1 n2 h3 h4) fun σ H Q ⟨F, ρ, As, pr, q⟩ => ?_
  rw [evalE] at q
  refine ⟨F, ρ, As, pr, q.bind0 fun r ρ1 v F1 H1 As1 C1 e1 p1 k1 q1 => ?_⟩
  rw [x.KK]
  cases ht : bmT m r.d with
  | false => rw [ht] at q1; exact q1.elim
  | true =>
    rw [ht] at q1
    refine ⟨tyV_at k1 p1.same ht, F1, ρ1, As1, p1.pre, Fin.bind p1 q1 fun rs ρ2 vs F2 H2 As2 C2 e2 p2 p12 k2 q2 => ?_⟩
    exact bm_go p2 (RepR.lift k1 p12.lift (RepR.there k1)) k2 q2
theorem snd_bm0 (x : XF T W0 w0 w fa cv S h k W X) (ho : PE X o (tEv S h w W s)) (h1 : noSup o = true) (h4 : (apos.endLine == pos.line) = true) :
    PE X (.Call (.Attribute o (bmN .upper) apos) [] [] pos) (tEv S h w W (.bm .upper s [])) := by
  refine PE.of (bm_pe0 ho h1 h4) fun σ H Q ⟨F, ρ, As, pr, q⟩ => ?_
  rw [evalE] at q
  refine ⟨F, ρ, As, pr, q.bind0 fun r ρ1 v F1 H1 As1 C1 e1 p1 k1 q1 => ?_⟩
  rw [x.KK]
  cases ht : bmT .upper r.d with
  | false => rw [ht] at q1; exact q1.elim
  | true =>
    rw [ht] at q1
    rw [evalEs] at q1
    exact ⟨(tyV_at k1 p1.same ht).elim id fun z => absurd z.1 (by decide), bm_go p1 k1 .nil q1⟩
end
end SL
set_option Elab.async false
set_option linter.all false
set_option maxRecDepth 100000
set_option maxHeartbeats 1000000
/-! SLSt: what a statement leaves. -/
namespace SL
open PySem L2

/-- a variable that the statement does not name: as it was, its objects too; frozen; given away -/
def KeepR (F' H H' : Hp) (ρ ρ' : Env) (As As' : List (List Addr)) (i : Nat) : Prop :=
  (ρ'[i]? = ρ[i]? ∧ As'[i]? = As[i]? ∧ ∀ A, As[i]? = some A → ∀ a, 0 < A.count a → H' a = H a) ∨
  (∃ d A, ρ[i]? = some (some d) ∧ As[i]? = some A ∧ ρ'[i]? = some (some d.frz) ∧ As'[i]? = some [] ∧ ∀ a, 0 < A.count a → F' a ≠ none ∧ F' a = H a) ∨
  (ρ'[i]? = some none ∧ As'[i]? = some [])
/-- no exception but at j -/
def NXJ (j : Nat) (ρ : Env) : Prop := ∀ i d, i ≠ j → ρ[i]? = some (some d) → d.noX = true
theorem NXJ.set {j i : Nat} {ρ : Env} {d : D} (h : NXJ j ρ) (hd : d.noX = true) : NXJ j (ρ.set i (some d)) := fun k e hk he => by
  by_cases c : i = k
  · subst c
    have hl : i < ρ.length := by
      by_cases q : i < ρ.length
      · exact q
      · rw [List.getElem?_eq_none (by simpa using q)] at he; cases he
    rw [List.getElem?_set_self hl] at he
    cases he; exact hd
  · rw [List.getElem?_set_ne c] at he; exact h k e hk he
theorem NXJ.del {j i : Nat} {ρ : Env} (h : NXJ j ρ) : NXJ j (ρ.set i none) := fun k e hk he => by
  by_cases c : i = k
  · subst c
    by_cases q : i < ρ.length
    · rw [List.getElem?_set_self q] at he; cases he
    · rw [List.getElem?_eq_none (by simpa using q)] at he; cases he
  · rw [List.getElem?_set_ne c] at he; exact h k e hk he
structure SPost (w : Wd) (st : Nat → Prop) (σ : L2.St) (F H : Hp) (ρ : Env) (As : List (List Addr)) (σ' : L2.St) (F' H' : Hp) (ρ' : Env) (As' : List (List Addr)) (C : List Addr) : Prop where
  sF : Same F F'
  kH : ∀ a o, H a = some o → own As a = 0 → H' a = some o
  more : ∀ a, H a ≠ none → H' a ≠ none
  same : Same F' H'
  env : EnvR w F' H' σ' ρ' As'
  uni : ∀ a, own As' a + C.count a ≤ 1
  off : ∀ a, 0 < own As' a + C.count a → F' a = none
  old : ∀ a, 0 < own As' a + C.count a → 0 < own As a ∨ H a = none
  new : ∀ a, F a = none → F' a ≠ none → 0 < own As a ∨ H a = none
  there : ∀ a, 0 < own As' a + C.count a → H' a ≠ none
  keep : ∀ i, ¬ st i → σ'[i]? = σ[i]? ∧ KeepR F' H H' ρ ρ' As As' i
  nox : ∀ j, NXJ j ρ → NXJ j ρ'
  sig : ¬ st big → σ'[0]? = σ[0]?

section
variable {w : Wd} {st st' : Nat → Prop} {σ σ' σ2 : L2.St} {F H F' H' F2 H2 : Hp} {ρ ρ' ρ2 : Env} {As As' As2 : List (List Addr)} {C C' C2 B : List Addr} {W : WX}
theorem SPost.pre (p : SPost w st σ F H ρ As σ' F' H' ρ' As' C) : Pre w F' H' σ' ρ' As' :=
  ⟨p.same, p.env, fun a => by have := p.uni a; omega, fun a h => p.off a (by omega)⟩
theorem Pre.nz (p : Pre w F H σ ρ As) (a : Addr) (h : 0 < own As a) : H a ≠ none := by
  obtain ⟨o, e, _⟩ := p.env.there a h
  rw [e]; simp
theorem Post.spost (pr : Pre w F H σ ρ As) (p : Post w σ F H ρ As F' H' ρ' As' C) : SPost w st σ F H ρ As σ F' H' ρ' As' C where
  sF := p.sF
  kH := fun a o e _ => p.sH a o e
  more := fun a h => same_no p.sH h
  same := p.same
  env := p.env
  uni := p.uni
  off := p.off
  old := p.old
  new := p.new
  there := p.there
  keep := fun i _ => ⟨rfl, by
    have same : ∀ A, As[i]? = some A → ∀ a, 0 < A.count a → H' a = H a := fun A hA a ha => by
      have := own_get hA a
      obtain ⟨o, e, _⟩ := pr.env.there a (by omega)
      rw [e]; exact p.sH a o e
    rcases p.slots i with ⟨h1, h2⟩ | ⟨d, A, h1, h2, h3, h4, h5⟩ | h
    · exact .inl ⟨h1, h2, same⟩
    · refine .inr (.inl ⟨d, A, h1, h2, h3, h4, fun a ha => ⟨h5 a ha, ?_⟩⟩)
      rw [← same A h2 a ha]
      cases e : F' a with
      | none => exact absurd e (h5 a ha)
      | some o => rw [p.same a o e]
    · exact .inr (.inr h)⟩
  nox := fun j hj i d hi hd => by
    rcases p.slots i with ⟨h1, _⟩ | ⟨d', A, h1, _, h3, _⟩ | ⟨h1, _⟩
    · rw [h1] at hd; exact hj i d hi hd
    · rw [h3] at hd; cases hd
      have := noX_frz [d'] (by simp [D.noXL, hj i d' hi h1])
      simpa [D.frzL, D.noXL] using this
    · rw [h1] at hd; cases hd
  sig := fun _ => rfl
theorem Pre.spost (pr : Pre w F H σ ρ As) : SPost w st σ F H ρ As σ F H ρ As [] := Post.spost pr pr.post
theorem KeepR.trans {i : Nat} (sF : Same F' F2) (sm : Same F' H') (sm2 : Same F2 H2) (p : KeepR F' H H' ρ ρ' As As' i) (q : KeepR F2 H' H2 ρ' ρ2 As' As2 i) : KeepR F2 H H2 ρ ρ2 As As2 i := by
  rcases p with ⟨p1, p2, p3⟩ | ⟨d, A, p1, p2, p3, p4, p5⟩ | ⟨p1, p2⟩
  · rcases q with ⟨q1, q2, q3⟩ | ⟨d, A, q1, q2, q3, q4, q5⟩ | ⟨q1, q2⟩
    · exact .inl ⟨q1.trans p1, q2.trans p2, fun A hA a ha => (q3 A (p2.trans hA) a ha).trans (p3 A hA a ha)⟩
    · exact .inr (.inl ⟨d, A, p1 ▸ q1, p2 ▸ q2, q3, q4, fun a ha => ⟨(q5 a ha).1, (q5 a ha).2.trans (p3 A (p2 ▸ q2) a ha)⟩⟩)
    · exact .inr (.inr ⟨q1, q2⟩)
  · have st : ∀ a, 0 < A.count a → F2 a ≠ none ∧ F2 a = H a := fun a ha => by
      obtain ⟨h1, h2⟩ := p5 a ha
      cases e : F' a with
      | none => exact absurd e h1
      | some o =>
        have := sF a o e
        rw [this, ← h2, e]; simp
    rcases q with ⟨q1, q2, q3⟩ | ⟨d', A', q1, q2, q3, q4, q5⟩ | ⟨q1, q2⟩
    · exact .inr (.inl ⟨d, A, p1, p2, q1.trans p3, q2.trans p4, st⟩)
    · rw [p3] at q1
      have e := Option.some.inj (Option.some.inj q1)
      subst e
      exact .inr (.inl ⟨d, A, p1, p2, by rw [q3, frz_frz], q4, st⟩)
    · exact .inr (.inr ⟨q1, q2⟩)
  · rcases q with ⟨q1, q2, q3⟩ | ⟨d', A', q1, q2, q3, q4, q5⟩ | ⟨q1, q2⟩
    · exact .inr (.inr ⟨q1.trans p1, q2.trans p2⟩)
    · rw [p1] at q1; cases q1
    · exact .inr (.inr ⟨q1, q2⟩)
/-- one statement, then another; the first one's C is not touched by the second -/
theorem SPost.trans (p : SPost w st σ F H ρ As σ' F' H' ρ' As' C) (q : SPost w st σ' F' H' ρ' As' σ2 F2 H2 ρ2 As2 C2) (hC : ∀ a, 0 < C.count a → H2 a = H' a) : SPost w st σ F H ρ As σ2 F2 H2 ρ2 As2 (C ++ C2) where
  sF := p.sF.trans q.sF
  kH := fun a o e h => by
    refine q.kH a o (p.kH a o e h) ?_
    cases n : own As' a with
    | zero => rfl
    | succ m =>
      rcases p.old a (by omega) with z | z
      · omega
      · rw [z] at e; cases e
  more := fun a h => q.more a (p.more a h)
  same := q.same
  env := q.env
  uni := fun a => by
    rw [List.count_append]
    have h1 := p.uni a; have h2 := q.uni a
    by_cases hc : 0 < C.count a
    · have h3 := p.there a (by omega)
      have h4 : ¬ 0 < own As2 a + C2.count a := fun h => (q.old a h).elim (fun z => by omega) fun z => h3 z
      omega
    · omega
  off := fun a h => by
    rw [List.count_append] at h
    have h1 := p.uni a; have h2 := q.uni a
    by_cases hc : 0 < C.count a
    · have h3 := p.there a (by omega)
      have h5 := p.off a (by omega)
      cases e : F2 a with
      | none => rfl
      | some o => exact ((q.new a h5 (by rw [e]; simp)).elim (fun z => by omega) fun z => absurd z h3)
    · exact q.off a (by omega)
  old := fun a h => by
    rw [List.count_append] at h
    by_cases hc : 0 < C.count a
    · exact p.old a (by omega)
    · rcases q.old a (by omega) with z | z
      · exact p.old a (by omega)
      · cases e : H a with
        | none => exact .inr rfl
        | some o => exact absurd z (p.more a (by rw [e]; simp))
  new := fun a h1 h2 => by
    by_cases e : F' a = none
    · rcases q.new a e h2 with z | z
      · exact p.old a (by omega)
      · cases e : H a with
        | none => exact .inr rfl
        | some o => exact absurd z (p.more a (by rw [e]; simp))
    · exact p.new a h1 e
  there := fun a h => by
    rw [List.count_append] at h
    by_cases hc : 0 < C.count a
    · rw [hC a hc]; exact p.there a (by omega)
    · exact q.there a (by omega)
  keep := fun i hi => ⟨(q.keep i hi).1.trans (p.keep i hi).1, (p.keep i hi).2.trans q.sF p.same q.same (q.keep i hi).2⟩
  nox := fun j h => q.nox j (p.nox j h)
  sig := fun h => (q.sig h).trans (p.sig h)
theorem SPost.trans0 (p : SPost w st σ F H ρ As σ' F' H' ρ' As' []) (q : SPost w st σ' F' H' ρ' As' σ2 F2 H2 ρ2 As2 C2) : SPost w st σ F H ρ As σ2 F2 H2 ρ2 As2 C2 := by
  have := p.trans q (by simp)
  simpa using this
theorem SPost.transE (p : SPost w st σ F H ρ As σ' F' H' ρ' As' C) (q : Post w σ' F' H' ρ' As' F2 H2 ρ2 As2 C2) : SPost w st σ F H ρ As σ' F2 H2 ρ2 As2 (C ++ C2) :=
  p.trans (Post.spost p.pre q) fun a h => by
    cases e : H' a with
    | none => exact absurd e (p.there a (by omega))
    | some o => exact q.sH a o e
theorem SPost.mono (p : SPost w st σ F H ρ As σ' F' H' ρ' As' C) (h : ∀ i, st i → st' i) : SPost w st' σ F H ρ As σ' F' H' ρ' As' C :=
  { p with keep := fun i hi => p.keep i fun z => hi (h i z), sig := fun hb => p.sig fun z => hb (h _ z) }
theorem SPost.weak (p : SPost w st σ F H ρ As σ' F' H' ρ' As' C) (hc : ∀ a, C'.count a ≤ C.count a) : SPost w st σ F H ρ As σ' F' H' ρ' As' C' :=
  { p with
    uni := fun a => by have := p.uni a; have := hc a; omega
    off := fun a h => p.off a (by have := hc a; omega)
    old := fun a h => p.old a (by have := hc a; omega)
    there := fun a h => p.there a (by have := hc a; omega) }
theorem own_setL (As : List (List Addr)) (B : List Addr) (i : Nat) (a : Addr) : own (As.set i B) a ≤ own As a + B.count a := by
  cases e : As[i]? with
  | none =>
    rw [List.set_eq_of_length_le (by simpa using e)]; omega
  | some A => have := own_set (B := B) e a; omega
/-- a value is stored -/
theorem SPost.set {i : Nat} {v : V} {d : D} (p : SPost w st σ F H ρ As σ' F' H' ρ' As' C) (k : Rep w F' H' v d B) (hn : d.noX = true) (hc : ∀ a, B.count a + C'.count a ≤ C.count a) (hi : st i) (hb : σ'[i]? = some (some v) ∨ (i = 0 → st big)) :
    SPost w st σ F H ρ As (σ'.set i (some v)) F' H' (ρ'.set i (some d)) (As'.set i B) C' := by
  have le : ∀ a, own (As'.set i B) a + C'.count a ≤ own As' a + C.count a := fun a => by have := own_setL As' B i a; have := hc a; omega
  have sg : ¬ st big → (σ'.set i (some v))[0]? = σ[0]? := fun h => by
    by_cases e : i = 0
    · rcases hb with hb | hb
      · subst e
        rw [List.getElem?_set_self (List.getElem?_eq_some_iff.mp hb).1, ← hb]
        exact p.sig h
      · exact absurd (hb e) h
    · rw [List.getElem?_set_ne e]; exact p.sig h
  refine { p with sig := sg, nox := fun j h => (p.nox j h).set hn, env := p.env.set k, uni := fun a => by have := le a; have := p.uni a; omega, off := fun a h => p.off a (by have := le a; omega), old := fun a h => p.old a (by have := le a; omega), there := fun a h => p.there a (by have := le a; omega), keep := fun j hj => ?_ }
  have ne : i ≠ j := fun e => hj (e ▸ hi)
  obtain ⟨h1, h2⟩ := p.keep j hj
  refine ⟨by rw [List.getElem?_set_ne ne]; exact h1, ?_⟩
  unfold KeepR at h2 ⊢
  rw [List.getElem?_set_ne ne, List.getElem?_set_ne ne]
  exact h2
/-- a variable is forgotten -/
theorem SPost.del {i : Nat} {o : Option V} (p : SPost w st σ F H ρ As σ' F' H' ρ' As' C) (hi : st i) (hb : i = 0 → st big) : SPost w st σ F H ρ As (σ'.set i o) F' H' (ρ'.set i none) (As'.set i []) C := by
  have le : ∀ a, own (As'.set i []) a ≤ own As' a := fun a => by have := own_setL As' [] i a; simpa using this
  have sg : ¬ st big → (σ'.set i o)[0]? = σ[0]? := fun h => by
    by_cases e : i = 0
    · exact absurd (hb e) h
    · rw [List.getElem?_set_ne e]; exact p.sig h
  refine { p with sig := sg, nox := fun j h => (p.nox j h).del, env := p.env.del, uni := fun a => by have := le a; have := p.uni a; omega, off := fun a h => p.off a (by have := le a; omega), old := fun a h => p.old a (by have := le a; omega), there := fun a h => p.there a (by have := le a; omega), keep := fun j hj => ?_ }
  have ne : i ≠ j := fun e => hj (e ▸ hi)
  obtain ⟨h1, h2⟩ := p.keep j hj
  refine ⟨by rw [List.getElem?_set_ne ne]; exact h1, ?_⟩
  unfold KeepR at h2 ⊢
  rw [List.getElem?_set_ne ne, List.getElem?_set_ne ne]
  exact h2

/-! ### a statement's end -/
def FinS (w : Wd) (W : WX) (st : Nat → Prop) (σ : L2.St) (F H : Hp) (ρ : Env) (As : List (List Addr)) (m : SRes) (D : Ends) : Prop := match m with
  | none => False
  | some (.nx, ρ') => ∀ σ' F' H' As', SPost w st σ F H ρ As σ' F' H' ρ' As' [] → D.nx σ' H'
  | some (.bk, ρ') => ∀ σ' F' H' As', SPost w st σ F H ρ As σ' F' H' ρ' As' [] → D.bk σ' H'
  | some (.ct, ρ') => ∀ σ' F' H' As', SPost w st σ F H ρ As σ' F' H' ρ' As' [] → D.ct σ' H'
  | some (.rt d, ρ') => ∀ v σ' F' H' As' C, SPost w st σ F H ρ As σ' F' H' ρ' As' C → Rep w F' H' v d C → D.rt v H'
  | some (.ex c xs, ρ') => ∀ dd σ' F' H' As', SPost w st σ F H ρ As σ' F' H' ρ' As' [] → RepX w F' c xs dd → W (.ref (w.ca c)) dd σ' H'
variable {D : Ends} {m : SRes}
theorem FinS.rest (p : SPost w st σ F H ρ As σ' F' H' ρ' As' []) (q : FinS w W st σ F H ρ As m D) (h : ∀ i, st' i → st i) : FinS w W st' σ' F' H' ρ' As' m D := by
  match m, q with
  | none, q => exact q
  | some (.nx, _), q => exact fun σ2 F2 H2 As2 z => q σ2 F2 H2 As2 (p.trans0 (z.mono h))
  | some (.bk, _), q => exact fun σ2 F2 H2 As2 z => q σ2 F2 H2 As2 (p.trans0 (z.mono h))
  | some (.ct, _), q => exact fun σ2 F2 H2 As2 z => q σ2 F2 H2 As2 (p.trans0 (z.mono h))
  | some (.rt d, _), q => exact fun v σ2 F2 H2 As2 C z r => q v σ2 F2 H2 As2 C (p.trans0 (z.mono h)) r
  | some (.ex c xs, _), q => exact fun dd σ2 F2 H2 As2 z x => q dd σ2 F2 H2 As2 (p.trans0 (z.mono h)) x
theorem FinS.ends {D D' : Ends} (q : FinS w W st σ F H ρ As m D) (h1 : ∀ σ H, D.nx σ H → D'.nx σ H) (h2 : ∀ v H, D.rt v H → D'.rt v H) (h3 : ∀ σ H, D.bk σ H → D'.bk σ H) (h4 : ∀ σ H, D.ct σ H → D'.ct σ H) : FinS w W st σ F H ρ As m D' := by
  match m, q with
  | none, q => exact q
  | some (.nx, _), q => exact fun σ2 F2 H2 As2 z => h1 _ _ (q σ2 F2 H2 As2 z)
  | some (.bk, _), q => exact fun σ2 F2 H2 As2 z => h3 _ _ (q σ2 F2 H2 As2 z)
  | some (.ct, _), q => exact fun σ2 F2 H2 As2 z => h4 _ _ (q σ2 F2 H2 As2 z)
  | some (.rt d, _), q => exact fun v σ2 F2 H2 As2 C z r => h2 _ _ (q v σ2 F2 H2 As2 C z r)
  | some (.ex c xs, _), q => exact q
/-- an expression at a statement's start -/
theorem FinS.ofE {α β : Type} {rp : RP β α} {m : Res α} {k : α → Env → SRes} {Q1 : β → Hp → Prop} (pr : Pre w F H σ ρ As) (q : FinS w W st σ F H ρ As (m.toS k) D)
    (go : ∀ r ρ2 v F2 H2 As2 C2, m = .ok r ρ2 → Post w σ F H ρ As F2 H2 ρ2 As2 C2 → rp F2 H2 ρ2 As2 v r C2 → FinS w W st σ F H ρ As (k r ρ2) D → Q1 v H2) : Fin rp w σ W F H ρ As m Q1 := by
  cases m with
  | bad => exact q
  | ok r ρ2 => exact fun v F2 H2 As2 C2 p kr => go r ρ2 v F2 H2 As2 C2 rfl p kr q
  | exc c xs ρ2 => exact fun d F2 H2 As2 p x => q d σ F2 H2 As2 (Post.spost pr p) x
/-- .. behind another one -/
theorem FinS.ofE2 {α β : Type} {rp : RP β α} {m : Res α} {k : α → Env → SRes} {Q1 : β → Hp → Prop} {F1 H1 : Hp} {ρ1 : Env} {As1 : List (List Addr)} {C1 : List Addr} (pr : Pre w F H σ ρ As) (p1 : Post w σ F H ρ As F1 H1 ρ1 As1 C1) (q : FinS w W st σ F H ρ As (m.toS k) D)
    (go : ∀ r ρ2 v F2 H2 As2 C2, m = .ok r ρ2 → Post w σ F H ρ As F2 H2 ρ2 As2 (C1 ++ C2) → Post w σ F1 H1 ρ1 As1 F2 H2 ρ2 As2 C2 → rp F2 H2 ρ2 As2 v r C2 → FinS w W st σ F H ρ As (k r ρ2) D → Q1 v H2) : Fin rp w σ W F1 H1 ρ1 As1 m Q1 := by
  cases m with
  | bad => exact q
  | ok r ρ2 => exact fun v F2 H2 As2 C2 p kr => go r ρ2 v F2 H2 As2 C2 rfl (p1.trans p) p kr q
  | exc c xs ρ2 => exact fun d F2 H2 As2 p x => q d σ F2 H2 As2 (Post.spost pr ((p1.trans p).weak fun a => by simp)) x
end
end SL
set_option Elab.async false
set_option linter.all false
set_option maxRecDepth 100000
set_option maxHeartbeats 1000000
/-! SLIt: what is walked. -/
namespace SL
open PySem L2

def gdS : R → Nat → Prop
  | .brw i _, j => i = j
  | .val _, _ => False
section
variable {w : Wd} {F H F' H' F0 H0 : Hp} {σ : L2.St} {ρ ρ' ρ0 : Env} {As As' As0 : List (List Addr)} {C C1 C' Ct : List Addr} {v : V} {r : R} {W : WX}

theorem elems_st {xs : List D} (p : Post w σ F0 H0 ρ0 As0 F H ρ As Ct) (k : RepR w F H ρ As v r C1) (hc : ∀ a, C1.count a + C'.count a ≤ Ct.count a) (e : elems r ρ = .ok xs ρ') :
    ∃ F' As' a ws, Post w σ F0 H0 ρ0 As0 F' H ρ' As' C' ∧ Lift F H ρ As F' H ρ' As' ∧ v = .ref a ∧ RepL w F' H ws xs [] ∧
      ∀ H', Same F' H' → (∀ i A, gdS r i → As'[i]? = some A → ∀ b, 0 < A.count b → H' b = H b) → SeqV w.K H' a ws r.d := by
  cases r with
  | val d =>
    cases k with
    | val k =>
      cases d with
      | lst o ys =>
        simp only [elems, Res.ok.injEq] at e
        obtain ⟨e, rfl⟩ := e
        cases k with
        | lstF h1 h2 h3 =>
          cases h3
          simp only [Bool.false_eq_true, if_false] at e
          subst e
          have q := p.shed (B := []) (C' := C') fun a => by have := hc a; simp at this ⊢; exact this
          rw [ov_nil] at q
          exact ⟨_, _, _, _, q.1, q.2, rfl, h2, fun H' s _ => s _ _ h1⟩
        | @lstO a ws _ _ _ _ B h1 h2 h3 =>
          cases h3
          simp only [if_true] at e
          subst e
          have q := p.shed (B := a :: B) (C' := C') fun b => by have := hc b; simp only [List.append_nil] at this; exact this
          exact ⟨_, _, _, _, q.1, q.2, rfl, h2.frz q.2.sF fun b h => by unfold ov; rw [if_pos (by rw [List.count_cons]; omega)], fun H' s _ => s _ _ (by unfold ov; rw [if_pos (by simp [List.count_cons])]; exact h1)⟩
      | tup ys =>
        simp only [elems, Res.ok.injEq] at e
        obtain ⟨rfl, rfl⟩ := e
        cases k with
        | tup h1 h2 h3 =>
          cases h3
          have q := p.shed (B := []) (C' := C') fun a => by have := hc a; simp at this ⊢; exact this
          rw [ov_nil] at q
          exact ⟨_, _, _, _, q.1, q.2, rfl, h2, fun H' s _ => sqT_mono s h1⟩
      | scr ns =>
        simp only [elems, Res.ok.injEq] at e
        obtain ⟨rfl, rfl⟩ := e
        cases k with
        | scr h1 h3 =>
          cases h3
          have q := p.shed (B := []) (C' := C') fun a => by have := hc a; simp at this ⊢; exact this
          rw [ov_nil] at q
          exact ⟨_, _, _, _, q.1, q.2, rfl, repInts ns, fun H' s _ => Same.seq s h1.sql⟩
      | non => simp [elems] at e
      | bl b => simp [elems] at e
      | int i => simp [elems] at e
      | str x => simp [elems] at e
      | ins o c ys => simp [elems] at e
      | exn c ys => simp [elems] at e
  | brw i d =>
    have fin : ∀ (ys : List D), (if live i ρ = true then Res.ok ys (if D.immL ys = true then ρ else frzAt i ρ) else Res.bad) = Res.ok xs ρ' →
        (∀ G : Hp, Rep w G H v d [] → Same G H → ∃ a ws, v = .ref a ∧ RepL w G H ws ys [] ∧ ∀ H', (∀ b o, G b = some o → H' b = some o) → SeqV w.K H' a ws d) →
        ∃ F' As' a ws, Post w σ F0 H0 ρ0 As0 F' H ρ' As' C' ∧ Lift F H ρ As F' H ρ' As' ∧ v = .ref a ∧ RepL w F' H ws xs [] ∧
          ∀ H', Same F' H' → (∀ j A, i = j → As'[j]? = some A → ∀ b, 0 < A.count b → H' b = H b) → SeqV w.K H' a ws d := by
      intro ys q0 sub
      have l : live i ρ = true := by
        cases l : live i ρ with
        | true => rfl
        | false => rw [l] at q0; cases q0
      rw [if_pos l] at q0
      simp only [Res.ok.injEq] at q0
      obtain ⟨rfl, q0⟩ := q0
      obtain ⟨e', A, he, hA, k', rfl, m⟩ := brw_at p.pre k l
      have q := p.shed (B := []) (C' := C') fun a => by have := hc a; simp at this ⊢; exact this
      rw [ov_nil] at q
      obtain ⟨a, ws, rfl, k2, sv⟩ := sub _ k' (p.pre.freeze he hA).same
      by_cases im : D.immL ys = true
      · rw [if_pos im] at q0
        subst q0
        refine ⟨_, _, a, ws, q.1, q.2, rfl, (k2.immC im (ov_imm m)).1, fun H' s hg => sv H' fun b o hb => ?_⟩
        unfold ov at hb
        split at hb
        · rename_i hc; rw [hg i A rfl hA b hc]; exact hb
        · exact s b o hb
      · rw [if_neg im] at q0
        subst q0
        rw [frzAt_of he]
        have f := p.pre.freeze he hA
        have t := (q.1.trans f).weak (C' := C') fun a => by simp
        exact ⟨_, _, a, ws, t, f.lift, rfl, k2, fun H' s _ => sv H' s⟩
    cases d with
    | lst o ys =>
      refine fin ys (by simpa [elems] using e) fun G kG s => ?_
      cases kG with
      | lstF h1 h2 h3 => exact ⟨_, _, rfl, h2, fun H' s => s _ _ h1⟩
    | tup ys =>
      refine fin ys (by simpa [elems] using e) fun G kG s => ?_
      cases kG with
      | tup h1 h2 h3 => exact ⟨_, _, rfl, h2, fun H' s => sqT_mono s h1⟩
    | non => simp [elems] at e
    | bl b => simp [elems] at e
    | int i => simp [elems] at e
    | str x => simp [elems] at e
    | scr x => simp [elems] at e
    | ins o c ys => simp [elems] at e
    | exn c ys => simp [elems] at e
/-- a sequence to be walked: what the loop may change is frozen at once -/
theorem seqR_st {keep : Nat → Bool} {xs : List D} (p : Post w σ F0 H0 ρ0 As0 F H ρ As Ct) (k : RepR w F H ρ As v r C1) (hc : ∀ a, C1.count a + C'.count a ≤ Ct.count a) (e : seqR r keep ρ = .ok xs ρ') :
    ∃ F' As' a ws, Post w σ F0 H0 ρ0 As0 F' H ρ' As' C' ∧ Lift F H ρ As F' H ρ' As' ∧ v = .ref a ∧ RepL w F' H ws xs [] ∧
      ∀ H', Same F' H' → (∀ i A, gdS r i ∧ keep i = true → As'[i]? = some A → ∀ b, 0 < A.count b → H' b = H b) → SeqV w.K H' a ws r.d := by
  cases r with
  | val d =>
    obtain ⟨F', As', a, ws, h1, h2, h3, h4, h5⟩ := elems_st p k hc (show elems (.val d) ρ = .ok xs ρ' from e)
    exact ⟨F', As', a, ws, h1, h2, h3, h4, fun H' s _ => h5 H' s fun i A hi => hi.elim⟩
  | brw i d =>
    by_cases hk : keep i = true
    · simp only [seqR, hk, if_true] at e
      obtain ⟨F', As', a, ws, h1, h2, h3, h4, h5⟩ := elems_st p k hc e
      refine ⟨F', As', a, ws, h1, h2, h3, h4, fun H' s hg => h5 H' s fun j A hj hA => hg j A ⟨hj, ?_⟩ hA⟩
      have : i = j := hj
      rw [← this]; exact hk
    · simp only [seqR, hk, if_false] at e
      cases l : live i ρ with
      | false => rw [l] at e; cases e
      | true =>
        rw [l] at e
        obtain ⟨e', A, he, hA, k', rfl, m⟩ := brw_at p.pre k l
        have f := p.pre.freeze he hA
        have t := ((p.weak (C' := C') fun a => by have := hc a; omega).trans f).weak (C' := C') fun a => by simp
        cases d with
        | lst o ys =>
          simp only [if_true, Res.ok.injEq] at e
          obtain ⟨rfl, rfl⟩ := e
          rw [frzAt_of he]
          cases k' with
          | lstF h1 h2 h3 => exact ⟨_, _, _, _, t, f.lift, rfl, h2, fun H' s _ => s _ _ h1⟩
        | tup ys =>
          simp only [if_true, Res.ok.injEq] at e
          obtain ⟨rfl, rfl⟩ := e
          rw [frzAt_of he]
          cases k' with
          | tup h1 h2 h3 => exact ⟨_, _, _, _, t, f.lift, rfl, h2, fun H' s _ => sqT_mono s h1⟩
        | _ => cases e
theorem seqR_ne {keep : Nat → Bool} : ∀ c xs ρ', seqR r keep ρ ≠ .exc c xs ρ' := by
  intro c xs ρ' z
  cases r with
  | val d => exact elems_ne _ _ _ z
  | brw i d =>
    unfold seqR at z
    simp only at z
    split at z
    · exact elems_ne _ _ _ z
    · split at z
      · cases d <;> cases z
      · cases z

/-- the iterator J yields xs, as long as K holds of the heap -/
structure JOk (w : Wd) (F0 : Hp) (J : It) (K : Hp → Prop) (xs : List D) : Prop where
  go : ∀ i H, i < xs.length → K H → J.go i H
  stop : ∀ i H, xs.length ≤ i → K H → J.stop i H
  yld : ∀ i H v H' x, xs[i]? = some x → K H → J.yld i H v H' → (H' = H ∧ ∀ F H, Same F0 F → Rep w F H v x []) ∨ ∃ a ws ds o, v = .ref a ∧ H a = none ∧ TupO o ∧ H' = upd H a (.frz o (.tup ws)) ∧ x = .tup ds ∧ ∀ F H, Same F0 F → RepL w F H ws ds []
/-- .. to be walked from here -/
def rpJ (w : Wd) (g : Nat → Prop) : RP It (List D) := fun F H ρ As J xs C => C = [] ∧ ∃ K, JOk w F J K xs ∧ ∀ H', Same F H' → (∀ i A, g i → As[i]? = some A → ∀ b, 0 < A.count b → H' b = H b) → K H'

theorem rep_any {F0 : Hp} {ws : List V} {xs : List D} (k : RepL w F0 H ws xs []) {i : Nat} {x : D} {v : V} (e : xs[i]? = some x) (hv : ws[i]? = some v) : ∀ F H, Same F0 F → Rep w F H v x [] := by
  intro F H s
  obtain ⟨u, B, h1, h2, h3⟩ := k.get e
  rw [hv] at h1; cases h1
  have : B = [] := List.eq_nil_iff_forall_not_mem.mpr fun a ha => by
    have h1 := List.count_pos_iff.mpr ha
    have h2 := h3 a
    rw [List.count_nil] at h2
    omega
  subst this
  exact h2.mono s (by simp)
theorem jok_list {K : PySem.W.Frag} {F0 : Hp} {a : Addr} {ws : List V} {xs : List D} (k : RepL w F0 H ws xs []) : JOk w F0 (Itl K a) (fun H => SqL K H a ws) xs where
  go := fun i H hi hk => ⟨ws, ws[i]'(by rw [k.len]; exact hi), hk, by simp⟩
  stop := fun i H hi hk => ⟨ws, hk, by rw [k.len]; exact hi⟩
  yld := fun i H v H' x e hk y => .inl ⟨y.1, rep_any k e (y.2 ws hk)⟩
theorem jok_tup {K : PySem.W.Frag} {F0 : Hp} {a : Addr} {ws : List V} {xs : List D} (k : RepL w F0 H ws xs []) : JOk w F0 (Itt K a) (fun H => SqT K H a ws) xs where
  go := fun i H hi hk => ⟨ws, ws[i]'(by rw [k.len]; exact hi), hk, by simp⟩
  stop := fun i H hi hk => ⟨ws, hk, by rw [k.len]; exact hi⟩
  yld := fun i H v H' x e hk y => .inl ⟨y.1, rep_any k e (y.2 ws hk)⟩
theorem jok_str {F0 : Hp} {z : Str} (hz : PyData.strOk z = true) : JOk w F0 (Its z) (fun _ => True) (z.cps.toList.map fun c => .str ⟨#[c]⟩) where
  go := fun i H hi _ => (by simpa using hi : i < z.cps.size)
  stop := fun i H hi _ => (by simpa using hi : z.cps.size ≤ i)
  yld := fun i H v H' x e _ y => by
    obtain ⟨e1, c, hc, ev⟩ := y
    refine .inl ⟨e1, fun F H s => ?_⟩
    subst ev
    rw [List.getElem?_map] at e
    rw [← Array.getElem?_toList] at hc
    rw [hc] at e
    simp only [Option.map_some, Option.some.injEq] at e
    subst e
    refine .str ?_ .nil
    rw [strOk_list] at hz ⊢
    intro x hx
    simp at hx
    subst hx
    exact hz x (List.mem_of_getElem? hc)
theorem jok_range {F0 : Hp} {lo : Int} {n : Nat} : JOk w F0 (Itr lo n) (fun _ => True) ((List.range n).map fun (k : Nat) => D.int (lo + k)) where
  go := fun i H hi _ => (by simpa using hi : i < n)
  stop := fun i H hi _ => (by simpa using hi : n ≤ i)
  yld := fun i H v H' x e _ y => by
    obtain ⟨e1, ev⟩ := y
    refine .inl ⟨e1, fun F H s => ?_⟩
    subst ev
    rw [List.getElem?_map] at e
    have hi : i < n := by
      by_cases c : i < n
      · exact c
      · rw [List.getElem?_eq_none (by simpa using c)] at e; simp at e
    rw [List.getElem?_range hi] at e
    simp only [Option.map_some, Option.some.injEq] at e
    subst e
    exact .int .nil
/-! ### the iterator made -/
/-- a list, a tuple, a text -/
def iSeqA (K : PySem.W.Frag) (te : TE) : TI := fun σ H R => te σ H fun x H1 =>
  (∃ a ws, x = .ref a ∧ SqL K H1 a ws ∧ R (Itl K a) H1) ∨ (∃ a ws, x = .ref a ∧ SqT K H1 a ws ∧ R (Itt K a) H1) ∨ ∃ z, x = .str z ∧ R (Its z) H1
theorem pi_seqA {X : Cx} {tg e : Expr} {te : TE} (he : PE X e te) : PI X tg e (iSeqA X.K te) := by
  refine ⟨fun pins st σ H R I q => thn (he.run pins st σ H _ I q) fun v s1 z => ?_⟩
  obtain ⟨y, H1, I1, rv, z⟩ := z
  rcases z with ⟨a, ws, rfl, hs, q⟩ | ⟨a, ws, rfl, hs, q⟩ | ⟨z, rfl, q⟩
  · cases rv
    obtain ⟨its, _, il, _⟩ := I1.list hs
    exact wpAny_pyIter_list il.isList (pi_one (tk := s1.toks) I1 _ (turn_list a _) ⟨_, Heap.get?_push_size _ rfl, rfl, rfl⟩ q)
  · cases rv
    obtain ⟨its, _, il, _⟩ := I1.tuple hs
    exact wpAny_pyIter_tuple (show s1.heap.IsTuple a its.toArray from il) (pi_one (tk := s1.toks) I1 _ (turn_tuple a _) ⟨_, Heap.get?_push_size _ rfl, rfl, rfl⟩ q)
  · obtain ⟨t, rfl⟩ := rv
    by_cases hw : z.cps.all (· < 128) = true
    · exact wpAny_pyIter_ascii hw (pi_one (tk := s1.toks) I1 _ (turn_str _ z t "str_ascii_iterator" (.inl rfl)) ⟨_, Heap.get?_push_size _ rfl, rfl, rfl⟩ q)
    · exact wpAny_pyIter_wide (Bool.eq_false_iff.mpr hw) (pi_one (tk := s1.toks) I1 _ (turn_str _ z t "str_iterator" (.inr rfl)) ⟨_, Heap.get?_push_size _ rfl, rfl, rfl⟩ q)
end
end SL
set_option Elab.async false
set_option linter.all false
set_option maxRecDepth 100000
set_option maxHeartbeats 2000000
/-! SLEn: enumerate(tuple). -/
namespace PySem
open Sem (wp)
open Builtin
set_option maxHeartbeats 2000000 in
theorem meets_enumerate_newT (a : Addr) (items : Array Value) :
    Meets (Builtin.«enumerate.__new__» ⟨[.type "enumerate", .ref a], []⟩) (fun _ R s => s.heap.IsTuple a items ∧
      R (.ok (.ret (.ref (s.heap.push { cls := .type "tuple_iterator", data := .fields #[.ref a, .int 0 0] }).objs.size)))
        { s with heap := (s.heap.push { cls := .type "tuple_iterator", data := .fields #[.ref a, .int 0 0] }).push { cls := .type "enumerate", data := .fields #[.none, .bool false, .ref s.heap.objs.size, rawInt 0, .none, .none] } }) :=
  .of_wp fun prog w A R s ⟨ht, h⟩ => by
    obtain ⟨hp, g, d, tk, os⟩ := s
    have hsub := sub_enumerate
    wp_walk
    refine wpAny_stack_any fun st => wpAny_pure ?_
    split
    · rename_i c _ _ _ _ _
      cases (c == Value.type "enumerate")
      · wp_walk using wpAny_pyIter_tuple ht
        exact ⟨_, rfl, h⟩
      · wp_walk using wpAny_pyIter_tuple ht
        exact ⟨_, rfl, h⟩
    · wp_walk using wpAny_pyIter_tuple ht
      exact ⟨_, rfl, h⟩
section
variable {prog : Program} {w : World} {A : Around} {E : Value → Shared → Prop} {s : Shared}
theorem call_enumerate_tuple {l : Addr} {items : Array Value} {Q : Value → Shared → Prop} (hL : s.heap.IsTuple l items)
    (h : ∀ h', IsEnum h' (s.heap.objs.size + 1) s.heap.objs.size 0 .none → h'.IsTupleIter s.heap.objs.size l 0 → h'.objs.size = s.heap.objs.size + 2 →
      (∀ b o, s.heap.get? b = some o → h'.get? b = some o) → Q (.ref (s.heap.objs.size + 1)) { s with heap := h' }) :
    wpAny (model prog w) A (call (.type "enumerate") [.ref l]) Q E s := by
  refine callType_new F.called_enumerate (by decide) (F.typeCall_enumerate_1 _) (F.newCall_enumerate_1 _) (fun obj => F.args_object_init_2 obj _) F.entry_enumerate_new
    (meets_enumerate_newT l items) ⟨hL, ?_⟩
  have hz : (s.heap.push { cls := .type "tuple_iterator", data := .fields #[.ref l, .int 0 0] }).objs.size = s.heap.objs.size + 1 := Heap.size_push ..
  show _ ∧ _
  rw [hz]
  have he : IsEnum ((s.heap.push { cls := .type "tuple_iterator", data := .fields #[.ref l, .int 0 0] }).push
      { cls := .type "enumerate", data := .fields #[.none, .bool false, .ref s.heap.objs.size, rawInt 0, .none, .none] }) (s.heap.objs.size + 1) s.heap.objs.size 0 .none := by
    have := Heap.get?_push_size (s.heap.push { cls := .type "tuple_iterator", data := .fields #[.ref l, .int 0 0] })
      (o := { cls := .type "enumerate", data := .fields #[.none, .bool false, .ref s.heap.objs.size, rawInt 0, .none, .none] }) rfl
    rw [hz] at this; exact this
  refine ⟨⟨_, he, rfl⟩, h _ he ⟨_, Heap.get?_push_of_some _ (Heap.get?_push_size _ rfl), rfl, rfl⟩ (by rw [Heap.size_push, hz]) fun b o x => Heap.get?_push_of_some _ (Heap.get?_push_of_some _ x)⟩
theorem wpAny_pyNext_enum_endT {e it l : Addr} {i : Nat} {k : Int} {items : Array Value} {old : Value} {Q : Option Value → Shared → Prop} (hh : A.handled = none)
    (he : IsEnum s.heap e it k old) (hit : s.heap.IsTupleIter it l i) (hl : s.heap.IsTuple l items) (hx : items[i]? = none)
    (hQ : ∀ h', Heap.ExtBut it s.heap h' → Q none { s with heap := h' }) : wpAny (model prog w) A (pyNext (.ref e)) Q E s := by
  have hT : s.TypeIs (.ref e) "enumerate" := ⟨_, he, rfl⟩
  unfold pyNext
  refine wpAny_bind (wpAny_attempt (wpAny_callSpecial?_slot (name := Str.ofString "__next__") hT F.slot_enumerate_next
    (wpAny_call_entry F.slot_enumerate_next hT F.entry_enumerate_next ?_ (F.args_enumerate_next_1 _))))
  show wpAny _ _ (field (.ref e) 2 >>= _) _ _ _
  refine wpAny_bind (wpAny_field he rfl (x := .ref it) rfl ?_)
  refine wpAny_bind (wpAny_nextOf_tuple_end (A := A.in1) hh hit hl hx fun h' x he' hx' => ?_)
  obtain ⟨o, ho, hc⟩ := hx'
  refine wpAny_bind (wpAny_isInstance (T := "StopIteration") (b := true) ⟨o, ho, hc⟩ isSubtype_stop ?_)
  exact wpAny_pure (hQ _ he')
end
end PySem
namespace SL
open PySem PySem.Spec PyProof.Rows L2
/-- the tuple at a as it stands at each turn, each item in a new pair -/
def Itte (K : PySem.W.Frag) (a : Addr) : It :=
  ⟨fun i H => ∃ (xs : List V) (x : V), SqT K H a xs ∧ xs[i]? = some x, fun i H v H' => ∃ T x o, v = .ref T ∧ H T = none ∧ TupO o ∧ H' = upd H T (.frz o (.tup [.int (i : Nat), x])) ∧ ∀ xs, SqT K H a xs → xs[i]? = some x, fun i H => ∃ xs : List V, SqT K H a xs ∧ xs.length ≤ i⟩
theorem turn_enumT {P : Program} {w : World} {K : PySem.W.Frag} {elts : List Expr} {kk : Nat} {tpos : Pos} (a e it : Addr) (hne : e ≠ it) (hai : a ≠ it) (hae : e ≠ a) :
    Turn P w K (.Tuple elts kk tpos) (Itte K a) [e, it] e (fun i h => (∃ old, IsEnum h e it ((i : Nat) : Int) old) ∧ h.IsTupleIter it a i) where
  mem := by simp
  obj := fun i h st b hb => by
    obtain ⟨⟨old, he⟩, ⟨o, ho, hc, hd⟩⟩ := st
    have e' : b = e ∨ b = it := by simpa using hb
    rcases e' with z | z
    · rw [z]; exact ⟨_, he, fun v q => nomatch q⟩
    · rw [z]; exact ⟨o, ho, fun v q => by rw [hd] at q; cases q⟩
  keep := fun i h h' st k => let ⟨⟨old, he⟩, hi⟩ := st; ⟨⟨old, k e (by simp) _ he⟩, hi.at fun o q => k it (by simp) o q⟩
  item := by
    intro X hP hw hK hc i pins s σ H E I hf st hg
    subst hP hw hK
    obtain ⟨⟨old, he⟩, hit⟩ := st
    obtain ⟨xs, x, hq, hx⟩ := hg
    obtain ⟨its, rv, p, hz⟩ := I.tuple hq
    obtain ⟨u, hu, ru⟩ := rv.get hx
    have hel : e < s.heap.objs.size := Heap.lt_size he
    have hil : it < s.heap.objs.size := by obtain ⟨_, q, _⟩ := hit; exact Heap.lt_size q
    have hi : i < its.toArray.size := by
      have := (List.getElem?_eq_some_iff.mp hu).1
      simpa using this
    refine wpAny_pyNext_enum_itemD (Draws.tuple (A := X.A.in1) (I.ok.hd hc) it a hai its.toArray) he ⟨hit, p⟩ hi hne (by simp [hne, hae]) fun x' h' tk hPx ho hit' hT hsz hk => ?_
    obtain rfl : u = x' := by
      have h1 : its[i]? = some x' := by simpa using hPx
      rw [hu] at h1; exact Option.some.inj h1
    refine ⟨_, rfl, wpAny_letOwnedTupleGo_enum (s := { s with heap := h', toks := tk + 1 }) ho fun h'' he' sb => ?_⟩
    have hT2 : h''.get? s.heap.objs.size = some { cls := .type "tuple", data := .seq #[.int i tk, u] } := (sb.2 _ (Nat.ne_of_gt hel)).trans hT
    have new : ObjOk X.prog X.w (upd H s.heap.objs.size (.frz { cls := .type "tuple", data := .seq #[.int i tk, u] } (.tup [.int (i : Nat), x]))) h'' s.heap.objs.size (.frz { cls := .type "tuple", data := .seq #[.int i tk, u] } (.tup [.int (i : Nat), x])) :=
      ⟨hT2, by show 2 ≤ sizeLine; decide, [.int i tk, u], .cons ⟨_, rfl⟩ (.cons ru .nil), ⟨_, hT2, rfl, _, rfl⟩⟩
    have I1 : Inv X pins σ (upd H s.heap.objs.size (.frz { cls := .type "tuple", data := .seq #[.int i tk, u] } (.tup [.int (i : Nat), x]))) { s with heap := h'', toks := tk + 1 } :=
      I.turnedNew (ch := [e, it]) (fun b ob hb q => (sb.2 b (fun z => hb (by simp [z]))).trans (hk b ob (fun z => hb (by simp [z])) (fun z => hb (by simp [z])) q)) hf (Nat.le_refl _) new
    refine ⟨.ref s.heap.objs.size, _, I1, rfl, ⟨_, x, _, rfl, I.hok.fresh (Nat.le_refl _), ⟨rfl, rfl⟩, rfl, fun ys hy => ?_⟩, ⟨⟨u, ?_⟩, hit'.1.at fun o q => (sb.2 it (Ne.symm hne)).trans q⟩, fun b hb => ?_⟩
    · rw [I.tuple_inj hy hq]; exact hx
    · have e1 : ((i + 1 : Nat) : Int) = (i : Int) + 1 := by omega
      rw [e1]; exact he'
    · have hb' : b < s.heap.objs.size := by
        have e' : b = e ∨ b = it := by simpa using hb
        rcases e' with z | z
        · rw [z]; exact hel
        · rw [z]; exact hil
      rw [upd_ne (Nat.ne_of_lt hb')]
      exact (hf b hb).1
  done := by
    intro X hP hw hK hc i pins s σ H E I hf st hg
    subst hP hw hK
    obtain ⟨⟨old, he⟩, hit⟩ := st
    obtain ⟨xs, hq, hx⟩ := hg
    obtain ⟨its, rv, p, hz⟩ := I.tuple hq
    obtain ⟨f0, f1, f2, f3, f4, f5⟩ := hf it (by simp)
    have hl := rv.length
    exact wpAny_pyNext_enum_endT (I.ok.hd hc) he hit p (by simp; omega) fun h' eb => ⟨rfl, I.turned (t' := s.toks) (fun b o hb q => eb b o hb q) f0 f1 f3 f4 f5⟩
  self := fun A i s Q E st h => let ⟨⟨_, he⟩, _⟩ := st; wpAny_pyIter_enum he h
/-- the list at a as it stands at each turn, each item in a new pair -/
def Itel (K : PySem.W.Frag) (a : Addr) : It :=
  ⟨fun i H => ∃ (xs : List V) (x : V), SqL K H a xs ∧ xs[i]? = some x, fun i H v H' => ∃ T x o, v = .ref T ∧ H T = none ∧ TupO o ∧ H' = upd H T (.frz o (.tup [.int (i : Nat), x])) ∧ ∀ xs, SqL K H a xs → xs[i]? = some x, fun i H => ∃ xs : List V, SqL K H a xs ∧ xs.length ≤ i⟩
theorem turn_enumL {P : Program} {w : World} {K : PySem.W.Frag} {elts : List Expr} {kk : Nat} {tpos : Pos} (a e it : Addr) (hne : e ≠ it) :
    Turn P w K (.Tuple elts kk tpos) (Itel K a) [e, it] e (fun i h => (∃ old, IsEnum h e it ((i : Nat) : Int) old) ∧ h.IsListIter it a i) where
  mem := by simp
  obj := fun i h st b hb => by
    obtain ⟨⟨old, he⟩, ⟨o, ho, hc, hd⟩⟩ := st
    have e' : b = e ∨ b = it := by simpa using hb
    rcases e' with z | z
    · rw [z]; exact ⟨_, he, fun v q => nomatch q⟩
    · rw [z]; exact ⟨o, ho, fun v q => by rw [hd] at q; cases q⟩
  keep := fun i h h' st k => let ⟨⟨old, he⟩, hi⟩ := st; ⟨⟨old, k e (by simp) _ he⟩, hi.at fun o q => k it (by simp) o q⟩
  item := by
    intro X hP hw hK hc i pins s σ H E I hf st hg
    subst hP hw hK
    obtain ⟨⟨old, he⟩, hit⟩ := st
    obtain ⟨xs, x, hq, hx⟩ := hg
    obtain ⟨its, rv, p, hz⟩ := I.list hq
    obtain ⟨u, hu, ru⟩ := rv.get hx
    have hel : e < s.heap.objs.size := Heap.lt_size he
    have hil : it < s.heap.objs.size := by obtain ⟨_, q, _⟩ := hit; exact Heap.lt_size q
    have hi : i < its.toArray.size := by
      have := (List.getElem?_eq_some_iff.mp hu).1
      simpa using this
    refine wpAny_pyNext_enum_item he hit p.isList (x := u) (by simpa using hu) hne fun h' ho hit' hT hsz hk => ?_
    refine ⟨_, rfl, wpAny_letOwnedTupleGo_enum (s := { s with heap := h', toks := s.toks + 1 }) ho fun h'' he' sb => ?_⟩
    have hT2 : h''.get? s.heap.objs.size = some { cls := .type "tuple", data := .seq #[(.int i s.toks), u] } := (sb.2 _ (Nat.ne_of_gt hel)).trans hT
    have new : ObjOk X.prog X.w (upd H s.heap.objs.size (.frz { cls := .type "tuple", data := .seq #[(.int i s.toks), u] } (.tup [.int (i : Nat), x]))) h'' s.heap.objs.size (.frz { cls := .type "tuple", data := .seq #[(.int i s.toks), u] } (.tup [.int (i : Nat), x])) :=
      ⟨hT2, by show 2 ≤ sizeLine; decide, [(.int i s.toks), u], .cons ⟨_, rfl⟩ (.cons ru .nil), ⟨_, hT2, rfl, _, rfl⟩⟩
    have I1 : Inv X pins σ (upd H s.heap.objs.size (.frz { cls := .type "tuple", data := .seq #[(.int i s.toks), u] } (.tup [.int (i : Nat), x]))) { s with heap := h'', toks := s.toks + 1 } :=
      I.turnedNew (ch := [e, it]) (fun b ob hb q => (sb.2 b (fun z => hb (by simp [z]))).trans (hk b ob (fun z => hb (by simp [z])) (fun z => hb (by simp [z])) q)) hf (Nat.le_refl _) new
    refine ⟨.ref s.heap.objs.size, _, I1, rfl, ⟨_, x, _, rfl, I.hok.fresh (Nat.le_refl _), ⟨rfl, rfl⟩, rfl, fun ys hy => ?_⟩, ⟨⟨u, ?_⟩, hit'.at fun o q => (sb.2 it (Ne.symm hne)).trans q⟩, fun b hb => ?_⟩
    · rw [I.list_inj hy hq]; exact hx
    · have e1 : ((i + 1 : Nat) : Int) = (i : Int) + 1 := by omega
      rw [e1]; exact he'
    · have hb' : b < s.heap.objs.size := by
        have e' : b = e ∨ b = it := by simpa using hb
        rcases e' with z | z
        · rw [z]; exact hel
        · rw [z]; exact hil
      rw [upd_ne (Nat.ne_of_lt hb')]
      exact (hf b hb).1
  done := by
    intro X hP hw hK hc i pins s σ H E I hf st hg
    subst hP hw hK
    obtain ⟨⟨old, he⟩, hit⟩ := st
    obtain ⟨xs, hq, hx⟩ := hg
    obtain ⟨its, rv, p, hz⟩ := I.list hq
    obtain ⟨f0, f1, f2, f3, f4, f5⟩ := hf it (by simp)
    have hl := rv.length
    exact wpAny_pyNext_enum_end (I.ok.hd hc) he hit p.isList (by simp; omega) fun h' eb => ⟨rfl, I.turned (t' := s.toks) (fun b o hb q => eb b o hb q) f0 f1 f3 f4 f5⟩
  self := fun A i s Q E st h => let ⟨⟨_, he⟩, _⟩ := st; wpAny_pyIter_enum he h
/-- a list or a tuple, counted -/
def iEnumA (K : PySem.W.Frag) (ta : TA) : TI := fun σ H R => ta σ H fun vs H1 => (∃ a xs, vs = [.ref a] ∧ SqL K H1 a xs ∧ R (Itel K a) H1) ∨ ∃ a xs, vs = [.ref a] ∧ SqT K H1 a xs ∧ R (Itte K a) H1
theorem pi_enumA {X : Cx} {e : Expr} {ta : TA} {p pos tpos : Pos} {elts : List Expr} {kk : Nat} (hg : Gl X "enumerate") (hm : X.mg "enumerate" = none) (ha : PA X [e] ta) (hs : starEach [e] X.env = [(false, eval e X.env)] := by rfl) :
    PI X (.Tuple elts kk tpos) (.Call (.Name "enumerate" p) [e] [] pos) (iEnumA X.K ta) := by
  refine ⟨fun pins s σ H R I h => ?_⟩
  refine Call_ (ld_blt I hg hm boot_enumerate (PyProof.Rows.callWith_type1 (thn (ha.run pos pins s σ H _ I h) fun us s1 ⟨vs, H1, I1, r1, q1⟩ => ?_) hs rfl))
  have fp : ∀ b ∈ [s1.heap.objs.size + 1, s1.heap.objs.size], s1.heap.objs.size ≤ b := fun b hb => by
    have e' : b = s1.heap.objs.size + 1 ∨ b = s1.heap.objs.size := by simpa using hb
    rcases e' with z | z
    · rw [z]; exact Nat.le_add_right _ _
    · rw [z]; exact Nat.le_refl _
  rcases q1 with ⟨a, xs, ex, hq, q⟩ | ⟨a, xs, ex, hq, q⟩
  · subst ex
    cases r1 with
    | cons r rr =>
      cases rr
      cases r
      obtain ⟨its, rv, p', hz⟩ := I1.list hq
      refine call_enumerate_list p'.isList fun h' he hit hsz hk => wpAny_pyIter_enum he ?_
      have I2 : Inv X pins σ H1 { s1 with heap := h' } := I1.kept (t' := s1.toks) hk
      exact ⟨s1.heap.objs.size + 1, [s1.heap.objs.size + 1, s1.heap.objs.size], _, _, H1, rfl, I2, turn_enumL a (s1.heap.objs.size + 1) s1.heap.objs.size (Nat.succ_ne_self _), ⟨⟨.none, he⟩, hit⟩, fun b hb => I1.fpOk (fp b hb) (I1.hok.fresh (fp b hb)), q⟩
  · subst ex
    cases r1 with
    | cons r rr =>
      cases rr
      cases r
      obtain ⟨its, rv, p', hz⟩ := I1.tuple hq
      have hlt : a < s1.heap.objs.size := by obtain ⟨o, ho, _⟩ := (show s1.heap.IsTuple a its.toArray from p'); exact Heap.lt_size ho
      refine call_enumerate_tuple p' fun h' he hit hsz hk => wpAny_pyIter_enum he ?_
      have I2 : Inv X pins σ H1 { s1 with heap := h' } := I1.kept (t' := s1.toks) hk
      exact ⟨s1.heap.objs.size + 1, [s1.heap.objs.size + 1, s1.heap.objs.size], _, _, H1, rfl, I2, turn_enumT a (s1.heap.objs.size + 1) s1.heap.objs.size (Nat.succ_ne_self _) (Nat.ne_of_lt hlt) (Nat.ne_of_gt (Nat.lt_succ_of_lt hlt)), ⟨⟨.none, he⟩, hit⟩, fun b hb => I1.fpOk (fp b hb) (I1.hok.fresh (fp b hb)), q⟩
theorem jok_enumT {w : Wd} {K : PySem.W.Frag} {F0 : Hp} {a : Addr} {ws : List V} {xs : List D} (k : RepL w F0 H ws xs []) : JOk w F0 (Itte K a) (fun H => SqT K H a ws) (xs.zipIdx.map fun (p : D × Nat) => D.tup [.int p.2, p.1]) where
  go := fun i H hi hk => ⟨ws, ws[i]'(by rw [k.len]; simpa using hi), hk, by simp⟩
  stop := fun i H hi hk => ⟨ws, hk, by rw [k.len]; simpa using hi⟩
  yld := fun i H v H' x e hk y => by
    obtain ⟨t, u, o, ev, hn, to, eh, hu⟩ := y
    rw [List.getElem?_map, List.getElem?_zipIdx] at e
    cases ex : xs[i]? with
    | none => rw [ex] at e; simp at e
    | some d =>
      rw [ex] at e
      simp only [Option.map_some, Nat.zero_add, Option.some.injEq] at e
      subst e
      exact .inr ⟨t, _, _, o, ev, hn, to, eh, rfl, fun F H s => .int (rep_any k ex (hu ws hk) F H s)⟩
theorem jok_enum {w : Wd} {K : PySem.W.Frag} {F0 : Hp} {a : Addr} {ws : List V} {xs : List D} (k : RepL w F0 H ws xs []) : JOk w F0 (Itel K a) (fun H => SqL K H a ws) (xs.zipIdx.map fun (p : D × Nat) => D.tup [.int p.2, p.1]) where
  go := fun i H hi hk => ⟨ws, ws[i]'(by rw [k.len]; simpa using hi), hk, by simp⟩
  stop := fun i H hi hk => ⟨ws, hk, by rw [k.len]; simpa using hi⟩
  yld := fun i H v H' x e hk y => by
    obtain ⟨t, u, o, ev, hn, to, eh, hu⟩ := y
    rw [List.getElem?_map, List.getElem?_zipIdx] at e
    cases ex : xs[i]? with
    | none => rw [ex] at e; simp at e
    | some d =>
      rw [ex] at e
      simp only [Option.map_some, Nat.zero_add, Option.some.injEq] at e
      subst e
      exact .inr ⟨t, _, _, o, ev, hn, to, eh, rfl, fun F H s => .int (rep_any k ex (hu ws hk) F H s)⟩
end SL
set_option Elab.async false
set_option linter.all false
set_option maxRecDepth 100000
set_option maxHeartbeats 1000000
/-! SLIu: iterables evaluated; targets. -/
namespace SL
open PySem L2

def gdL : List R → Nat → Prop
  | [.brw j _], i => j = i
  | _, _ => False
def rpJ2 (w : Wd) (keep : Nat → Bool) : RP It (List R × List D) := fun F H ρ As J x C => rpJ w (fun i => gdL x.1 i ∧ keep i = true) F H ρ As J x.2 C
def itM (S : Sem) (h : Bool) (ik : Ik) (ie : List Ex) (keep : Nat → Bool) (ρ : Env) : Res (List R × List D) := (evalEs S h ie ρ).bind fun rs ρ => (iterR ik rs keep ρ).bind fun items ρ => .ok (rs, items) ρ
def tItv (S : Sem) (h : Bool) (w : Wd) (W : WX) (ik : Ik) (ie : List Ex) (keep : Nat → Bool) : TI := fun σ H R => ∃ F ρ As, Pre w F H σ ρ As ∧ Fin (rpJ2 w keep) w σ W F H ρ As (itM S h ik ie keep ρ) R
theorem PI.of {X : Cx} {tg e : Expr} {t t' : TI} (h : PI X tg e t) (k : ∀ σ H R, t' σ H R → t σ H R) : PI X tg e t' := ⟨fun pins s σ H R I q => h.run pins s σ H R I (k _ _ _ q)⟩
theorem PIH.of {X : Cx} {tg e : Expr} {t t' : TI} (h : L2H.PIH X tg e t) (k : ∀ σ H R, t' σ H R → t σ H R) : L2H.PIH X tg e t' := ⟨fun pins s σ H R I q => h.run pins s σ H R I (k _ _ _ q)⟩

section
variable {w : Wd} {F H F' H' F0 H0 : Hp} {σ : L2.St} {ρ ρ' ρ0 : Env} {As As' As0 : List (List Addr)} {C C1 C' Ct : List Addr} {v : V} {r : R} {W : WX} {keep : Nat → Bool} {Rk : It → Hp → Prop}

theorem gdS_gdL {r : R} {i : Nat} (h : gdL [r] i) : gdS r i := by
  cases r with
  | val d => exact h
  | brw j d => exact h
theorem gdL_gdS {r : R} {i : Nat} (h : gdS r i) : gdL [r] i := by
  cases r with
  | val d => exact h
  | brw j d => exact h
theorem it_plain (p : Post w σ F0 H0 ρ0 As0 F H ρ As Ct) (k : RepR w F H ρ As v r Ct)
    (q : Fin (rpJ2 w keep) w σ W F0 H0 ρ0 As0 ((iterR .plain [r] keep ρ).bind fun items ρ => .ok ([r], items) ρ) Rk) :
    (∃ a ws, v = .ref a ∧ SqL w.K H a ws ∧ Rk (Itl w.K a) H) ∨ (∃ a ws, v = .ref a ∧ SqT w.K H a ws ∧ Rk (Itt w.K a) H) ∨ ∃ z, v = .str z ∧ Rk (Its z) H := by
  have el : Fin (rpJ2 w keep) w σ W F0 H0 ρ0 As0 ((seqR r keep ρ).bind fun items ρ => .ok ([r], items) ρ) Rk →
      (∃ a ws, v = .ref a ∧ SqL w.K H a ws ∧ Rk (Itl w.K a) H) ∨ (∃ a ws, v = .ref a ∧ SqT w.K H a ws ∧ Rk (Itt w.K a) H) ∨ ∃ z, v = .str z ∧ Rk (Its z) H := fun q => by
    obtain ⟨xs, ρ', e, q⟩ := q.of_ok seqR_ne
    obtain ⟨F', As', a, ws, p', _, rfl, kk, sv⟩ := seqR_st (C' := []) p k (by simp) e
    have sv0 := sv H p'.same fun _ _ _ _ _ _ => rfl
    cases er : r.d with
    | lst o ys =>
      rw [er] at sv sv0
      refine .inl ⟨a, ws, rfl, .of sv0, q (Itl w.K a) F' H As' [] p' ⟨rfl, _, jok_list kk, fun H' s hg => .of (sv H' s fun i A hi hA => hg i A ⟨gdL_gdS hi.1, hi.2⟩ hA)⟩⟩
    | scr ys =>
      rw [er] at sv sv0
      refine .inl ⟨a, ws, rfl, sv0, q (Itl w.K a) F' H As' [] p' ⟨rfl, _, jok_list kk, fun H' s hg => sv H' s fun i A hi hA => hg i A ⟨gdL_gdS hi.1, hi.2⟩ hA⟩⟩
    | tup ys =>
      rw [er] at sv sv0
      refine .inr (.inl ⟨a, ws, rfl, sv0, q (Itt w.K a) F' H As' [] p' ⟨rfl, _, jok_tup kk, fun H' s hg => sv H' s fun i A hi hA => hg i A ⟨gdL_gdS hi.1, hi.2⟩ hA⟩⟩)
    | _ => rw [er] at sv0; exact sv0.elim
  cases er : r.d with
  | str z =>
    simp only [iterR, er] at q
    obtain ⟨hv, hz⟩ := k.str1 er
    exact .inr (.inr ⟨z, hv, q (Its z) F H As [] (p.weak (by simp)) ⟨rfl, _, jok_str hz, fun _ _ _ => trivial⟩⟩)
  | _ => simp only [iterR, er] at q; exact el q
theorem it_enum (p : Post w σ F0 H0 ρ0 As0 F H ρ As Ct) (k : RepR w F H ρ As v r Ct)
    (q : Fin (rpJ2 w keep) w σ W F0 H0 ρ0 As0 ((iterR .enum [r] keep ρ).bind fun items ρ => .ok ([r], items) ρ) Rk) : (∃ a ws, v = .ref a ∧ SqL w.K H a ws ∧ Rk (Itel w.K a) H) ∨ ∃ a ws, v = .ref a ∧ SqT w.K H a ws ∧ Rk (Itte w.K a) H := by
  cases er : r.d with
  | lst o ys =>
    simp only [iterR, er] at q
    cases e : seqR r keep ρ with
    | bad => rw [e] at q; exact q.elim
    | exc c xs ρ' => exact absurd e (seqR_ne _ _ _)
    | ok xs ρ' =>
      rw [e] at q
      obtain ⟨F', As', a, ws, p', _, rfl, kk, sv⟩ := seqR_st (C' := []) p k (by simp) e
      rw [er] at sv
      have sv0 := sv H p'.same fun _ _ _ _ _ _ => rfl
      exact .inl ⟨a, ws, rfl, .of sv0, q (Itel w.K a) F' H As' [] p' ⟨rfl, _, jok_enum kk, fun H' s hg => .of (sv H' s fun i A hi hA => hg i A ⟨gdL_gdS hi.1, hi.2⟩ hA)⟩⟩
  | tup ys =>
    simp only [iterR, er] at q
    cases e : seqR r keep ρ with
    | bad => rw [e] at q; exact q.elim
    | exc c xs ρ' => exact absurd e (seqR_ne _ _ _)
    | ok xs ρ' =>
      rw [e] at q
      obtain ⟨F', As', a, ws, p', _, rfl, kk, sv⟩ := seqR_st (C' := []) p k (by simp) e
      rw [er] at sv
      have sv0 := sv H p'.same fun _ _ _ _ _ _ => rfl
      exact .inr ⟨a, ws, rfl, sv0, q (Itte w.K a) F' H As' [] p' ⟨rfl, _, jok_enumT kk, fun H' s hg => sv H' s fun i A hi hA => hg i A ⟨gdL_gdS hi.1, hi.2⟩ hA⟩⟩
  | _ => simp only [iterR, er] at q; exact q.elim

variable {T : NT} {W0 : World0} {w0 : Wd} {fa : Nat → Addr} {cv : Nat → Value} {S : Sem} {h : Bool} {kd : Nat} {X : Cx} {pos pp : Pos} {s s' : Ex} {ss : List Ex} {e ea eb tg : Expr}
theorem es_one {ρ : Env} {α : Type} (f : List R → Env → Res α) : ((evalEs S h [s] ρ).bind f) = ((evalE S h s ρ).bind fun r ρ => f [r] ρ) := by
  rw [evalEs]
  cases evalE S h s ρ with
  | bad => rfl
  | exc c xs ρ' => rfl
  | ok r ρ1 => simp only [Res.bind_ok, evalEs]
theorem snd_it_plain (hK : X.K = w.K) (he : PE X e (tEv S h w W s)) : PI X tg e (tItv S h w W .plain [s] keep) := by
  refine PI.of (pi_seqA he) fun σ H R ⟨F, ρ, As, pr, q⟩ => ?_
  unfold itM at q
  rw [es_one] at q
  rw [hK]
  exact ⟨F, ρ, As, pr, q.bind0 fun r ρ1 v F1 H1 As1 C1 e1 p1 k1 q1 => it_plain p1 k1 q1⟩
theorem snd_it_enum {elts : List Expr} {kk : Nat} {tpos : Pos} (x : XF T W0 w0 w fa cv S h kd W X) (hg : Gl X "enumerate") (he : PE X e (tEv S h w W s)) (ns : noStar e = true) : PI X (.Tuple elts kk tpos) (.Call (.Name "enumerate" pp) [e] [] pos) (tItv S h w W .enum [s] keep) := by
  refine PI.of (pi_enumA hg (by rw [x.mg]; exact x.pr.blt _ (by decide)) (pa_cons he pa_nil (star_cons ns)) (star_cons ns)) fun σ H R ⟨F, ρ, As, pr, q⟩ => ?_
  unfold itM at q
  rw [es_one] at q
  rw [x.KK]
  refine ⟨F, ρ, As, pr, q.bind0 fun r ρ1 v F1 H1 As1 C1 e1 p1 k1 q1 => ?_⟩
  rcases it_enum p1 k1 q1 with ⟨a, ws, rfl, h1, h2⟩ | ⟨a, ws, rfl, h1, h2⟩
  · exact .inl ⟨a, ws, rfl, h1, h2⟩
  · exact .inr ⟨a, ws, rfl, h1, h2⟩
theorem rng1_go {σ : L2.St} {H : Hp} {R : It → Hp → Prop} (q : tItv S h w W .range1 [s] keep σ H R) : iRng1 (tCons (tEv S h w W s) tNil) σ H R := by
  obtain ⟨F, ρ, As, pr, q⟩ := q
  unfold itM at q
  rw [es_one] at q
  refine ⟨F, ρ, As, pr, q.bind0 fun r ρ1 v F1 H1 As1 C1 e1 p1 k1 q1 => ?_⟩
  cases r with
  | brw i d => exact q1.elim
  | val d =>
    cases d with
    | int n =>
      have := k1.int1 rfl
      subst this
      simp only [iterR] at q1
      split at q1
      · rename_i hn
        have q2 := q1 (Itr 0 n.toNat) F1 H1 As1 [] (p1.weak (by simp)) ⟨rfl, _, by simpa using jok_range (w := w) (F0 := F1) (lo := 0) (n := n.toNat), fun _ _ _ => trivial⟩
        exact ⟨n, rfl, hn.1, hn.2, q2⟩
      · exact q1.elim
    | _ => exact q1.elim
theorem snd_it_range1 (x : XF T W0 w0 w fa cv S h kd W X) (hg : Gl X "range") (he : PE X e (tEv S h w W s)) (ns : noStar e = true) : PI X tg (.Call (.Name "range" pp) [e] [] pos) (tItv S h w W .range1 [s] keep) :=
  PI.of (pi_range1 hg (by rw [x.mg]; exact x.pr.blt _ (by decide)) (pa_cons he pa_nil (star_cons ns)) (star_cons ns)) fun σ H R q => rng1_go q
theorem snd_it_range1H (x : XF T W0 w0 w fa cv S h kd W X) (hg : Gl X "range") (he : PE X e (tEv S h w W s)) (ns : noStar e = true) : L2H.PIH X tg (.Call (.Name "range" pp) [e] [] pos) (tItv S h w W .range1 [s] keep) :=
  PIH.of (L2H.pi_range1H hg (by rw [x.mg]; exact x.pr.blt _ (by decide)) (pa_cons he pa_nil (star_cons ns)) (star_cons ns)) fun σ H R q => rng1_go q
theorem es_two {ρ : Env} {α : Type} (f : List R → Env → Res α) : ((evalEs S h [s, s'] ρ).bind f) = ((evalE S h s ρ).bind fun r ρ => (evalE S h s' ρ).bind fun r' ρ => f [r, r'] ρ) := by
  rw [evalEs]
  cases evalE S h s ρ with
  | bad => rfl
  | exc c xs ρ' => rfl
  | ok r ρ1 =>
    simp only [Res.bind_ok]
    rw [evalEs]
    cases evalE S h s' ρ1 with
    | bad => rfl
    | exc c xs ρ' => rfl
    | ok r ρ1 => simp only [Res.bind_ok, evalEs]
theorem snd_it_range2 (x : XF T W0 w0 w fa cv S h kd W X) (hg : Gl X "range") (ha : PE X ea (tEv S h w W s)) (hb : PE X eb (tEv S h w W s')) (na : noStar ea = true) (nb : noStar eb = true) : PI X tg (.Call (.Name "range" pp) [ea, eb] [] pos) (tItv S h w W .range2 [s, s'] keep) := by
  refine PI.of (pi_range2 hg (by rw [x.mg]; exact x.pr.blt _ (by decide)) (pa_cons ha (pa_cons hb pa_nil (star_cons nb)) (star_cons na)) (by rw [star_cons na, star_cons nb]; rfl) (star_cons nb)) fun σ H R ⟨F, ρ, As, pr, q⟩ => ?_
  unfold itM at q
  rw [es_two] at q
  refine ⟨F, ρ, As, pr, q.bind0 fun r ρ1 v F1 H1 As1 C1 e1 p1 k1 q1 => ⟨F1, ρ1, As1, p1.pre, Fin.bind p1 q1 fun r' ρ2 u F2 H2 As2 C2 e2 p2 p12 k2 q2 => ?_⟩⟩
  have no : ∀ {P : Prop}, Fin (rpJ2 w keep) w σ W F H ρ As ((Res.bad : Res (List D)).bind fun items ρ => .ok ([r, r'], items) ρ) R → P := fun z => z.elim
  cases r with
  | brw i d => exact q2.elim
  | val d =>
    cases r' with
    | brw i d' => cases d <;> exact q2.elim
    | val d' =>
      cases d with
      | int a =>
        cases d' with
        | int b =>
          have h1 := k1.int1 rfl
          have h2 := k2.int1 rfl
          subst h1; subst h2
          simp only [iterR] at q2
          split at q2
          · rename_i hn
            have q3 := q2 (Itr a (b - a).toNat) F2 H2 As2 [] (p2.weak (by simp)) ⟨rfl, _, jok_range (w := w) (F0 := F2), fun _ _ _ => trivial⟩
            exact ⟨a, b, rfl, ⟨hn.1.1, hn.1.2, hn.2.1, hn.2.2⟩, q3⟩
          · exact q2.elim
        | _ => exact q2.elim
      | _ => cases d' <;> exact q2.elim
end
end SL
set_option Elab.async false
set_option linter.all false
set_option maxRecDepth 100000
set_option maxHeartbeats 1000000
/-! SLTg: targets; the turns of a for. -/
namespace SL
open PySem L2

def gNms : List Nat → TGs
  | [] => gNil
  | i :: is => gCons (gName i) (gNms is)
def tgG (K : PySem.W.Frag) : Tg → TG
  | .nm i => gName i
  | .tp is => gTup K is.length (gNms is)
section
variable {w : Wd} {st : Nat → Prop} {σ σ' σ0 : L2.St} {F H F' H' F0 H0 : Hp} {ρ ρ' ρ0 : Env} {As As' As0 : List (List Addr)} {C C' B : List Addr} {W : WX} {v : V} {x : D} {Dn : Ends}
theorem names_ok {Q : L2.St → Hp → Prop} : ∀ {is : List Nat} {ws : List V} {xs : List D} {σ : L2.St} {ρ : Env} {As : List (List Addr)}, is.length = xs.length → D.noXL xs = true → RepL w F H ws xs [] → SPost w st σ0 F0 H0 ρ0 As0 σ F H ρ As C → (∀ i ∈ is, st i) → (0 ∈ is → st big) →
    (∀ σ' As', SPost w st σ0 F0 H0 ρ0 As0 σ' F H ((is.zip xs).foldl (fun ρ p => ρ.set p.1 (some p.2)) ρ) As' C → (∀ j, j ∉ is → σ'[j]? = σ[j]?) → σ'.length = σ.length → Q σ' H) → gNms is ws σ H Q
  | [], ws, xs, σ, ρ, As, hl, hn, k, p, hs, hb, go => by
    have : xs = [] := List.length_eq_zero_iff.mp hl.symm
    subst this
    cases k
    exact ⟨rfl, go σ As p (fun _ _ => rfl) rfl⟩
  | i :: is, ws, xs, σ, ρ, As, hl, hn, k, p, hs, hb, go => by
    cases xs with
    | nil => simp at hl
    | cons x xs =>
      obtain ⟨v, us, B, C2, rfl, k1, k2, hc⟩ := k.uncons
      have e1 : B = [] := List.eq_nil_iff_forall_not_mem.mpr fun a ha => by
        have h1 := List.count_pos_iff.mpr ha; have h2 := hc a; simp at h2; omega
      have e2 : C2 = [] := List.eq_nil_iff_forall_not_mem.mpr fun a ha => by
        have h1 := List.count_pos_iff.mpr ha; have h2 := hc a; simp at h2; omega
      subst e1; subst e2
      refine ⟨v, us, rfl, ?_⟩
      simp only [D.noXL, Bool.and_eq_true] at hn
      have p2 := p.set (i := i) k1 hn.1 (C' := C) (by simp) (hs i List.mem_cons_self) (.inr fun e => hb (by rw [e]; exact List.mem_cons_self))
      refine names_ok (by simpa using hl) hn.2 k2 p2 (fun j hj => hs j (List.mem_cons_of_mem _ hj)) (fun z => hb (List.mem_cons_of_mem _ z)) fun σ' As' p3 h1 h2 => ?_
      refine go σ' As' p3 (fun j hj => ?_) (by rw [h2]; simp)
      simp only [List.mem_cons, not_or] at hj
      rw [h1 j hj.2, List.getElem?_set_ne (Ne.symm hj.1)]
theorem bind_ok {tg : Tg} {Q : L2.St → Hp → Prop} (k : Rep w F H v x []) (hn : x.noX = true) (e : bindT tg x ρ = some ρ') (p : SPost w st σ0 F0 H0 ρ0 As0 σ F H ρ As C) (hs : ∀ i ∈ tgs tg, st i) (hb : 0 ∈ tgs tg → st big)
    (go : ∀ σ' As', SPost w st σ0 F0 H0 ρ0 As0 σ' F H ρ' As' C → (∀ j, j ∉ tgs tg → σ'[j]? = σ[j]?) → σ'.length = σ.length → Q σ' H) : tgG w.K tg v σ H Q := by
  cases tg with
  | nm i =>
    simp only [bindT, Option.some.injEq] at e
    subst e
    have p2 := p.set (i := i) k hn (C' := C) (by simp) (hs i (by simp [tgs])) (.inr fun e => hb (by simp [tgs, e]))
    exact go _ _ p2 (fun j hj => List.getElem?_set_ne (fun z => hj (by simp [tgs, z]))) (by simp)
  | tp is =>
    cases x with
    | tup xs =>
      simp only [bindT] at e
      split at e
      · rename_i hl
        simp only [Option.some.injEq] at e
        subst e
        cases k with
        | tup k1 k2 _ => exact ⟨_, _, rfl, sqT_mono p.same k1, by rw [k2.len, hl], names_ok hl (by simpa [D.noX] using hn) k2 p hs hb go⟩
      · cases e
    | _ => simp [bindT] at e

/-! ### a for's turns -/
theorem SPost.allocF {q : Addr} {o : HO} (p : SPost w st σ0 F0 H0 ρ0 As0 σ F H ρ As C) (hq : H q = none) : SPost w st σ0 F0 H0 ρ0 As0 σ (upd F q o) (upd H q o) ρ As C := by
  have nF : F q = none := by
    cases e : F q with
    | none => rfl
    | some u => rw [p.same q u e] at hq; cases hq
  have nH0 : H0 q = none := by
    cases e : H0 q with
    | none => rfl
    | some u => exact absurd hq (p.more q (by rw [e]; simp))
  have no : own As q + C.count q = 0 := by
    cases e : own As q + C.count q with
    | zero => rfl
    | succ n => exact absurd hq (p.there q (by omega))
  have sH : Same H (upd H q o) := fun a u h => by rw [upd_ne (ne_of_none h hq)]; exact h
  have sF : Same F (upd F q o) := fun a u h => by rw [upd_ne (ne_of_none h nF)]; exact h
  refine { sig := p.sig, nox := p.nox, sF := p.sF.trans sF, kH := fun a u h1 h2 => sH a u (p.kH a u h1 h2), more := fun a h => same_no sH (p.more a h), same := fun a u h => ?_, env := p.env.mono sF fun a h => upd_ne fun e => by subst e; omega, uni := p.uni, off := fun a h => ?_, old := p.old, new := fun a h1 h2 => ?_, there := fun a h => same_no sH (p.there a h), keep := fun i hi => ⟨(p.keep i hi).1, ?_⟩ }
  · by_cases e : a = q
    · subst e; rw [upd_same] at h ⊢; exact h
    · rw [upd_ne e] at h ⊢; exact p.same a u h
  · have e : a ≠ q := fun e => by subst e; omega
    rw [upd_ne e]; exact p.off a h
  · by_cases e : a = q
    · subst e; exact .inr nH0
    · rw [upd_ne e] at h2; exact p.new a h1 h2
  · rcases (p.keep i hi).2 with ⟨h1, h2, h3⟩ | ⟨d, A, h1, h2, h3, h4, h5⟩ | h
    · refine .inl ⟨h1, h2, fun A hA a ha => ?_⟩
      have : own As a ≠ 0 := by have := own_get (h2.trans hA) a; omega
      rw [upd_ne fun e => by subst e; omega]; exact h3 A hA a ha
    · refine .inr (.inl ⟨d, A, h1, h2, h3, h4, fun a ha => ?_⟩)
      obtain ⟨g1, g2⟩ := h5 a ha
      rw [upd_ne fun e => by subst e; exact g1 nF]
      exact ⟨g1, g2⟩
    · exact .inr (.inr h)
variable {m : SRes}
/-- a body's end, then what follows -/
theorem FinS.bind {st' : Nat → Prop} {k : Fl × Env → SRes} {Dn Dn' : Ends} {σ1 : L2.St} {F1 H1 : Hp} {ρ1 : Env} {As1 : List (List Addr)} (q : FinS w W st σ F H ρ As (m.bind k) Dn) (p : SPost w st σ F H ρ As σ1 F1 H1 ρ1 As1 []) (hst : ∀ i, st' i → st i)
    (nx : ∀ σ2 F2 H2 ρ2 As2, SPost w st σ F H ρ As σ2 F2 H2 ρ2 As2 [] → FinS w W st σ F H ρ As (k (.nx, ρ2)) Dn → Dn'.nx σ2 H2)
    (bk : ∀ σ2 F2 H2 ρ2 As2, SPost w st σ F H ρ As σ2 F2 H2 ρ2 As2 [] → FinS w W st σ F H ρ As (k (.bk, ρ2)) Dn → Dn'.bk σ2 H2)
    (ct : ∀ σ2 F2 H2 ρ2 As2, SPost w st σ F H ρ As σ2 F2 H2 ρ2 As2 [] → FinS w W st σ F H ρ As (k (.ct, ρ2)) Dn → Dn'.ct σ2 H2)
    (rt : ∀ d ρ2, FinS w W st σ F H ρ As (k (.rt d, ρ2)) Dn → FinS w W st σ F H ρ As (some (.rt d, ρ2)) Dn')
    (ex : ∀ c xs ρ2, FinS w W st σ F H ρ As (k (.ex c xs, ρ2)) Dn → FinS w W st σ F H ρ As (some (.ex c xs, ρ2)) Dn') : FinS w W st' σ1 F1 H1 ρ1 As1 m Dn' := by
  match m, q with
  | none, q => exact q
  | some (.nx, ρ2), q => exact fun σ2 F2 H2 As2 z => nx σ2 F2 H2 ρ2 As2 (p.trans0 (z.mono hst)) q
  | some (.bk, ρ2), q => exact fun σ2 F2 H2 As2 z => bk σ2 F2 H2 ρ2 As2 (p.trans0 (z.mono hst)) q
  | some (.ct, ρ2), q => exact fun σ2 F2 H2 As2 z => ct σ2 F2 H2 ρ2 As2 (p.trans0 (z.mono hst)) q
  | some (.rt d, ρ2), q => exact FinS.rest p (rt d ρ2 q) hst
  | some (.ex c xs, ρ2), q => exact FinS.rest p (ex c xs ρ2 q) hst
def tSs (S : Sem) (h : Bool) (w : Wd) (W : WX) (st : Nat → Prop) (ss : List Sx) : TS := fun Dn σ H => ∃ F ρ As, Pre w F H σ ρ As ∧ FinS w W st σ F H ρ As (evalSs S h ss ρ) Dn
theorem keep_of {rs : List R} {keep : Nat → Bool} {F1 H1 : Hp} {σ1 : L2.St} {ρ1 : Env} {As1 : List (List Addr)} (p : SPost w st σ1 F1 H1 ρ1 As1 σ F H ρ As C) (hk : ∀ i, keep i = true → ¬ st i) (g : gdR rs ρ = true) :
    ∀ i A, gdL rs i ∧ keep i = true → As1[i]? = some A → ∀ b, 0 < A.count b → H b = H1 b := by
  intro i A hi hA b hb
  rcases (p.keep i (hk i hi.2)).2 with ⟨_, _, h3⟩ | ⟨d, A', h1, h2, h3, h4, h5⟩ | ⟨h1, _⟩
  · exact h3 A hA b hb
  · rw [hA] at h2; cases h2
    obtain ⟨g1, g2⟩ := h5 b hb
    cases e : F b with
    | none => exact absurd e g1
    | some o => rw [p.same b o e, ← g2, e]
  · have h0 := hi.1
    match rs, h0, g with
    | [.brw j _], h0, g =>
      have e : j = i := h0
      subst e
      unfold gdR live at g
      simp only at g
      rw [h1] at g
      cases g
theorem for_go {S : Sem} {h : Bool} {body : List Sx} {tg : Tg} {rs : List R} {keep : Nat → Bool} {items : List D} {J : It} {K : Hp → Prop} (p0 : Pre w F H σ ρ As) (jk : JOk w F J K items)
    (hK : ∀ H', Same F H' → (∀ i A, gdL rs i ∧ keep i = true → As[i]? = some A → ∀ b, 0 < A.count b → H' b = H b) → K H') (hk : ∀ i, keep i = true → ¬ st i) (hnx : w.hx = none ∨ ∀ x ∈ items, x.noX = true) (ht : ∀ i ∈ tgs tg, st i) (ht0 : 0 ∈ tgs tg → st big) (stb : Nat → Prop) (hb : ∀ i, stb i → st i)
    (q : FinS w W st σ F H ρ As (forL (gdR rs) tg (evalSs S h body) items ρ) Dn) :
    ∃ Wi : Nat → Nat → L2.St → Hp → Prop, (∃ m, Wi 0 m σ H) ∧ ∀ i m σ H, Wi i m σ H →
      (J.stop i H ∧ Dn.nx σ H) ∨ (J.go i H ∧ ∃ N : L2.St → Hp → Prop, (∀ σ' H', N σ' H' → ∃ m', m' < m ∧ Wi (i + 1) m' σ' H') ∧ ∀ x H', J.yld i H x H' → tgG w.K tg x σ H' fun σ2 H2 => tSs S h w W stb body { Dn with nx := N, ct := N, bk := Dn.nx } σ2 H2) := by
  refine ⟨fun i m σ' H' => m = items.length - i ∧ i ≤ items.length ∧ ∃ F' ρ' As', SPost w st σ F H ρ As σ' F' H' ρ' As' [] ∧ FinS w W st σ F H ρ As (forL (gdR rs) tg (evalSs S h body) (items.drop i) ρ') Dn,
    ⟨items.length, by simp, Nat.zero_le _, F, ρ, As, p0.spost, by simpa using q⟩, ?_⟩
  rintro i m σ1 H1 ⟨rfl, hi, F1, ρ1, As1, p1, q1⟩
  have gd : gdR rs ρ1 = true := by
    cases g : gdR rs ρ1 with
    | true => rfl
    | false =>
      cases e : items.drop i with
      | nil => rw [e] at q1; unfold forL at q1; rw [g] at q1; exact q1.elim
      | cons x xs => rw [e] at q1; unfold forL at q1; rw [g] at q1; exact q1.elim
  have hK1 : K H1 := hK H1 (fun a o e => p1.same a o (p1.sF a o e)) (keep_of p1 hk gd)
  by_cases hlt : i < items.length
  · have e : items.drop i = items[i] :: items.drop (i + 1) := List.drop_eq_getElem_cons hlt
    rw [e] at q1
    unfold forL at q1
    rw [gd, if_pos rfl] at q1
    refine .inr ⟨jk.go i H1 hlt hK1, fun σ' H' => ∃ F' ρ' As', SPost w st σ F H ρ As σ' F' H' ρ' As' [] ∧ FinS w W st σ F H ρ As (forL (gdR rs) tg (evalSs S h body) (items.drop (i + 1)) ρ') Dn, fun σ' H' ⟨F', ρ', As', a, b⟩ => ⟨_, by omega, rfl, hlt, F', ρ', As', a, b⟩, fun v H2 y => ?_⟩
    cases eb : bindT tg items[i] ρ1 with
    | none => rw [eb] at q1; exact q1.elim
    | some ρ2 =>
      rw [eb] at q1
      simp only [Option.bind_some] at q1
      have body_ok : ∀ (N : L2.St → Hp → Prop), (∀ σ' F' H' ρ' As', SPost w st σ F H ρ As σ' F' H' ρ' As' [] → FinS w W st σ F H ρ As (forL (gdR rs) tg (evalSs S h body) (items.drop (i + 1)) ρ') Dn → N σ' H') →
          ∀ F2, SPost w st σ F H ρ As σ1 F2 H2 ρ1 As1 [] → Rep w F2 H2 v items[i] [] → tgG w.K tg v σ1 H2 fun σ2 H2 => tSs S h w W stb body { Dn with nx := N, ct := N, bk := Dn.nx } σ2 H2 := fun N hN F2 p2 k2 => by
        refine bind_ok k2 (hnx.elim (fun e => by have := RepL.noX e k2; simpa [D.noXL] using this) fun z => z _ (List.getElem_mem hlt)) eb p2 ht ht0 fun σ3 As3 p3 _ _ => ⟨F2, ρ2, As3, p3.pre, ?_⟩
        exact FinS.bind q1 p3 hb (fun σ2 F2 H2 ρ2 As2 pp qq => hN _ _ _ _ _ pp qq) (fun σ2 F2 H2 ρ2 As2 pp qq => qq σ2 F2 H2 As2 pp) (fun σ2 F2 H2 ρ2 As2 pp qq => hN _ _ _ _ _ pp qq) (fun d ρ2 qq => qq) (fun c xs ρ2 qq => qq)
      rcases jk.yld i H1 v H2 items[i] (List.getElem?_eq_getElem hlt) hK1 y with ⟨rfl, r⟩ | ⟨a, ws, ds, o9, rfl, hn, to9, rfl, ed, r⟩
      · exact body_ok _ (fun σ' F' H' ρ' As' a b => ⟨F', ρ', As', a, b⟩) F1 p1 (r F1 _ p1.sF)
      · have p2 := p1.allocF (o := .frz o9 (.tup ws)) hn
        refine body_ok _ (fun σ' F' H' ρ' As' a b => ⟨F', ρ', As', a, b⟩) _ p2 ?_
        rw [ed]
        exact .tup (.inl ⟨o9, upd_same, to9⟩) (r _ _ p2.sF) .nil
  · have e : i = items.length := by omega
    subst e
    rw [List.drop_length] at q1
    unfold forL at q1
    rw [gd, if_pos rfl] at q1
    exact .inl ⟨jk.stop _ H1 (Nat.le_refl _) hK1, q1 σ1 F1 H1 As1 p1⟩
end
end SL
set_option Elab.async false
set_option linter.all false
set_option maxRecDepth 100000
set_option maxHeartbeats 1000000
/-! SLSs: plain statements. -/
namespace SL
open PySem L2

structure XS (T : NT) (W0 : World0) (w0 w : Wd) (fa : Nat → Addr) (cv : Nat → Value) (S : Sem) (h : Bool) (k : Nat) (W : WX) (X : Cx) : Prop where
  f : XF T W0 w0 w fa cv S h k W X
  stack : X.stack = X.env :: X.outer
  frame : X.env.frame = some X.env.locals
  nd : X.N.Nodup
  po : PassesOwn (model X.prog X.w) X.A X.env X.xe
  fnt : ∀ x, X.fn x = true
  fk : X.env.scope.kind = .function
def tSv (S : Sem) (h : Bool) (w : Wd) (W : WX) (s : Sx) : TS := fun Dn σ H => ∃ F ρ As, Pre w F H σ ρ As ∧ FinS w W (fun i => i ∈ stores s) σ F H ρ As (evalS S h s ρ) Dn
def tSsv (S : Sem) (h : Bool) (w : Wd) (W : WX) (ss : List Sx) : TS := tSs S h w W (fun i => i ∈ storesL ss) ss
theorem rbs_mem {i : Nat} {is : List Nat} (h : i ∈ is) : i ∈ rbs is := List.mem_append_left _ h
theorem rbs_big {is : List Nat} (h : 0 ∈ is) : big ∈ rbs is := by
  unfold rbs
  have : is.contains 0 = true := by simpa using h
  rw [this]
  simp
/-- no comprehension as the whole value -/
def noLc : Expr → Bool
  | .ListComp .. => false
  | .SetComp .. => false
  | .DictComp .. => false
  | _ => true
theorem sw_no {e : Expr} {t : Option Expr} {l : Nat} {env : PySem.Env} (h : noLc e = true) : swapsWith e t l env = pure false := by
  unfold swapsWith
  cases e <;> first | rfl | cases h
theorem swS_no {e : Expr} {t : Expr} {l : Nat} {env : PySem.Env} (h : noLc e = true) : swapsWithSole [t] e l env = pure false := sw_no h
def noTup : Expr → Bool
  | .Tuple .. => false
  | _ => true
theorem sws_no {e t : Expr} {env : PySem.Env} (h : noTup e = true) : swappedStores [t] e env = pure none := by
  unfold swappedStores
  cases e <;> first | (cases t <;> rfl) | cases h
section
variable {T : NT} {W0 : World0} {w0 w : Wd} {fa : Nat → Addr} {cv : Nat → Value} {S : Sem} {h : Bool} {k : Nat} {W : WX} {X : Cx} {pos p p2 apos : Pos}
variable {s : Sx} {ss : List Sx} {st : Stmt} {sts : List Stmt} {e : Expr} {a : Ex} {x : Str} {i : Nat}

theorem snd_ss_nil : PSs X [] (tSsv S h w W []) := PSs.of pss_nil fun Dn σ H ⟨F, ρ, As, pr, q⟩ => by
  rw [evalSs] at q
  exact q σ F H As pr.spost
theorem snd_ss_cons (h1 : PS X st (tSv S h w W s)) (h2 : PSs X sts (tSsv S h w W ss)) : PSs X (st :: sts) (tSsv S h w W (s :: ss)) := by
  refine PSs.of (pss_cons h1 h2) fun Dn σ H ⟨F, ρ, As, pr, q⟩ => ⟨F, ρ, As, pr, ?_⟩
  rw [evalSs] at q
  refine FinS.bind q pr.spost (fun i hi => by rw [storesL]; exact List.mem_append_left _ hi) (fun σ2 F2 H2 ρ2 As2 p2 q2 => ⟨F2, ρ2, As2, p2.pre, FinS.rest p2 q2 fun i hi => by rw [storesL]; exact List.mem_append_right _ hi⟩)
    (fun σ2 F2 H2 ρ2 As2 p2 q2 => q2 σ2 F2 H2 As2 p2) (fun σ2 F2 H2 ρ2 As2 p2 q2 => q2 σ2 F2 H2 As2 p2) (fun d ρ2 q2 => q2) (fun c xs ρ2 q2 => q2)
theorem snd_brk : PS X (.Break pos) (tSv S h w W .brk) := PS.of ps_break fun Dn σ H ⟨F, ρ, As, pr, q⟩ => by
  rw [evalS] at q; exact q σ F H As pr.spost
theorem snd_cont : PS X (.Continue pos) (tSv S h w W .cont) := PS.of ps_continue fun Dn σ H ⟨F, ρ, As, pr, q⟩ => by
  rw [evalS] at q; exact q σ F H As pr.spost
theorem snd_pass : PS X (.Pass pos) (tSv S h w W .pass) := PS.of ps_pass fun Dn σ H ⟨F, ρ, As, pr, q⟩ => by
  rw [evalS] at q; exact q σ F H As pr.spost
theorem snd_ret0 : PS X (.Return none pos) (tSv S h w W .ret0) := PS.of ps_retN fun Dn σ H ⟨F, ρ, As, pr, q⟩ => by
  rw [evalS] at q; exact q .non σ F H As [] pr.spost (.non .nil)
/-- a value for keeping, at a statement's start -/
theorem FinS.kept {st : Nat → Prop} {σ : L2.St} {F H : Hp} {ρ : Env} {As : List (List Addr)} {Dn : Ends} {kk : D → Env → SRes} {Q1 : VK} (pr : Pre w F H σ ρ As) (q : FinS w W st σ F H ρ As (((evalE S h a ρ).bind settle).toS kk) Dn)
    (go : ∀ d ρ2 v F2 H2 As2 C, Post w σ F H ρ As F2 H2 ρ2 As2 C → Rep w F2 H2 v d C → FinS w W st σ F H ρ As (kk d ρ2) Dn → Q1 v H2) : tEv S h w W a σ H Q1 := by
  have q' : FinS w W st σ F H ρ As ((evalE S h a ρ).toS fun r ρ => (settle r ρ).toS kk) Dn := by
    cases e : evalE S h a ρ <;> rw [e] at q <;> exact q
  refine ⟨F, ρ, As, pr, FinS.ofE pr q' fun r ρ2 v F2 H2 As2 C2 e1 p1 k1 q1 => ?_⟩
  cases e2 : settle r ρ2 with
  | bad => rw [e2] at q1; exact q1.elim
  | exc c xs ρ' => exact absurd e2 (settle_ne _ _ _)
  | ok d ρ3 =>
    rw [e2] at q1
    obtain ⟨F3, As3, t, k3⟩ := settle_ok p1.pre k1 e2
    exact go d ρ3 v F3 H2 As3 C2 ((p1.trans t).weak fun a => by simp) k3 q1
theorem snd_ret (he : PE X e (tEv S h w W a)) : PS X (.Return (some e) pos) (tSv S h w W (.ret a)) := by
  refine PS.of (ps_ret he) fun Dn σ H ⟨F, ρ, As, pr, q⟩ => ?_
  rw [evalS] at q
  exact FinS.kept pr q fun d ρ2 v F2 H2 As2 C p1 k1 q1 => q1 v σ F2 H2 As2 C (Post.spost pr p1) k1
theorem snd_ex (he : PE X e (tEv S h w W a)) (hl : noLc e = true) : PS X (.Expr e pos) (tSv S h w W (.ex a)) := by
  refine PS.of (ps_expr he (sw_no hl)) fun Dn σ H ⟨F, ρ, As, pr, q⟩ => ?_
  rw [evalS] at q
  exact ⟨F, ρ, As, pr, FinS.ofE (rp := rpR w) pr q fun r ρ2 v F2 H2 As2 C2 e1 p1 k1 q1 => q1 σ F2 H2 As2 (Post.spost pr (p1.weak (by simp)))⟩
theorem snd_set (g : XS T W0 w0 w fa cv S h k W X) (hi : X.N[i]? = some x) (hx : Loc X.env.scope x) (he : PE X e (tEv S h w W a)) (hl : noLc e = true) : PS X (.Assign [.Name x p] e pos) (tSv S h w W (.set i a)) := by
  refine PS.of (ps_set g.nd hi hx he (sw_no hl) (.inl (g.fnt x))) fun Dn σ H ⟨F, ρ, As, pr, q⟩ => ?_
  rw [evalS] at q
  refine FinS.kept pr q fun d ρ2 v F2 H2 As2 C p1 k1 q1 => ?_
  split at q1
  · exact q1.elim
  · rename_i hc
    have hn : d.noX = true := by
      cases h with
      | true => simpa using hc
      | false => have := RepL.noX (g.f.hx rfl) k1; simpa [D.noXL] using this
    exact q1 (σ.set i (some v)) F2 H2 (As2.set i C) ((Post.spost pr p1).set k1 hn (by simp) (rbs_mem (by simp)) (.inr fun e => rbs_big (by simp [e])))
variable {c : Expr} {t : Tx} {sa sb : List Sx} {ba bb : List Stmt}
theorem snd_ite (hc : PT X c (tTv S h w W t)) (ha : PSs X ba (tSsv S h w W sa)) (hb : PSs X bb (tSsv S h w W sb)) : PS X (.If c ba bb pos) (tSv S h w W (.ite t sa sb)) := by
  refine PS.of (ps_if hc ha hb) fun Dn σ H ⟨F, ρ, As, pr, q⟩ => ?_
  rw [evalS] at q
  refine ⟨F, ρ, As, pr, FinS.ofE (rp := rpB) pr q fun b ρ2 b' F2 H2 As2 C2 e1 p1 k1 q1 => ?_⟩
  obtain ⟨rfl, rfl⟩ := k1
  have sp := Post.spost (st := fun i => i ∈ stores (.ite t sa sb)) pr p1
  cases b' with
  | true => exact ⟨F2, ρ2, As2, p1.pre, FinS.rest sp q1 fun i hi => by rw [stores]; exact List.mem_append_left _ hi⟩
  | false => exact ⟨F2, ρ2, As2, p1.pre, FinS.rest sp q1 fun i hi => by rw [stores]; exact List.mem_append_right _ hi⟩
theorem RepR.intR {F H : Hp} {ρ : Env} {As : List (List Addr)} {C : List Addr} {v : V} {r : R} {i : Int} (k : RepR w F H ρ As v r C) (e : r.int? = some i) : v = .int i := RepR.intP k e
theorem snd_aug (g : XS T W0 w0 w fa cv S h k W X) {o : Bop} {op : Operator} (ho : (o = .add ∧ op = .Add) ∨ (o = .sub ∧ op = .Sub)) (hi : X.N[i]? = some x) (hx : Loc X.env.scope x) (he : PE X e (tEv S h w W a)) : PS X (.AugAssign (.Name x p) op e pos) (tSv S h w W (.aug i o a)) := by
  have main : ∀ {f : Int → Int → Int}, PIp X op (ipI f) → (∀ m n, augI o m n = some (f m n)) → PS X (.AugAssign (.Name x p) op e pos) (tSv S h w W (.aug i o a)) := fun {f} hp hf => by
    refine PS.of (ps_aug g.nd hi hx he hp (.inl (g.fnt x))) fun Dn σ H ⟨F, ρ, As, pr, q⟩ => ?_
    rw [evalS] at q
    cases e1 : ρ[i]? with
    | none => rw [e1] at q; exact q.elim
    | some od =>
      cases od with
      | none => rw [e1] at q; exact q.elim
      | some d =>
        cases d with
        | int m =>
          rw [e1] at q
          obtain ⟨v, A, hσ, hA, kv⟩ := pr.env.get e1
          cases kv
          refine ⟨_, hσ, F, ρ, As, pr, FinS.ofE (rp := rpR w) pr q fun r ρ2 v F2 H2 As2 C2 e2 p1 k1 q1 => ?_⟩
          cases e3 : r.int? with
          | none => rw [e3] at q1; exact q1.elim
          | some n =>
            rw [e3] at q1
            simp only [Option.bind_some] at q1
            rw [hf m n] at q1
            have := RepR.intR k1 e3
            subst this
            exact ⟨m, n, rfl, rfl, q1 _ F2 H2 _ ((Post.spost pr p1).set (i := i) (d := .int (f m n)) (.int .nil) rfl (C' := []) (by simp) (rbs_mem (by simp)) (.inr fun e => rbs_big (by simp [e])))⟩
        | _ => rw [e1] at q; exact q.elim
  rcases ho with ⟨rfl, rfl⟩ | ⟨rfl, rfl⟩
  · exact main ip_add fun m n => rfl
  · exact main ip_sub fun m n => rfl
theorem snd_while (g : XS T W0 w0 w fa cv S h k W X) (hc : PT X c (tTv S h w W t)) (hb : PSs X ba (tSsv S h w W sa)) : PS X (.While c ba [] pos) (tSv S h w W (.while_ t sa)) := by
  refine PS.of (ps_while g.po hc hb) fun Dn σ H ⟨F, ρ, As, pr, q⟩ => ?_
  rw [evalS] at q
  have ⟨n, q⟩ : ∃ n, FinS w W (fun i => i ∈ storesL sa) σ F H ρ As (whileN (evalT S h t) (evalSs S h sa) n ρ) Dn := by
    cases e : whileL (evalT S h t) (evalSs S h sa) ρ with
    | none => rw [e] at q; exact q.elim
    | some r =>
      obtain ⟨n, hn⟩ := whileL_some e
      rw [e] at q
      have es : (fun i => i ∈ stores (.while_ t sa)) = fun i => i ∈ storesL sa := by funext i; rw [stores]
      rw [es] at q
      exact ⟨n, by rw [hn]; exact q⟩
  refine ⟨fun m σ' H' => ∃ F' ρ' As', SPost w (fun i => i ∈ storesL sa) σ F H ρ As σ' F' H' ρ' As' [] ∧ FinS w W (fun i => i ∈ storesL sa) σ F H ρ As (whileN (evalT S h t) (evalSs S h sa) m ρ') Dn, ⟨n, F, ρ, As, pr.spost, q⟩, ?_⟩
  rintro m σ1 H1 ⟨F1, ρ1, As1, p1, q1⟩
  cases m with
  | zero => exact q1.elim
  | succ m =>
    rw [whileN] at q1
    have q2 := FinS.rest (st' := fun i => i ∈ storesL sa) p1 q1 (fun i hi => hi)
    refine ⟨F1, ρ1, As1, p1.pre, FinS.ofE (rp := rpB) p1.pre q2 fun b ρ2 b' F2 H2 As2 C2 e1 pp k1 q3 => ?_⟩
    obtain ⟨rfl, rfl⟩ := k1
    have sp := p1.transE pp
    simp only [List.append_nil] at sp
    rw [e1] at q1
    simp only [Res.toS_ok] at q1
    cases b' with
    | true =>
      simp only [if_true] at q1 ⊢
      refine ⟨fun σ' H' => ∃ F' ρ' As', SPost w (fun i => i ∈ storesL sa) σ F H ρ As σ' F' H' ρ' As' [] ∧ FinS w W (fun i => i ∈ storesL sa) σ F H ρ As (whileN (evalT S h t) (evalSs S h sa) m ρ') Dn, fun σ' H' z => ⟨m, Nat.lt_succ_self _, z⟩, F2, ρ2, As2, sp.pre, ?_⟩
      exact FinS.bind q1 sp (fun i hi => hi) (fun σ2 F2 H2 ρ2 As2 p2 q2 => ⟨F2, ρ2, As2, p2, q2⟩) (fun σ2 F2 H2 ρ2 As2 p2 q2 => q2 σ2 F2 H2 As2 p2) (fun σ2 F2 H2 ρ2 As2 p2 q2 => ⟨F2, ρ2, As2, p2, q2⟩) (fun d ρ2 q2 => q2) (fun c xs ρ2 q2 => q2)
    | false =>
      simp only [Bool.false_eq_true, if_false] at q1 ⊢
      exact q1 σ1 F2 H2 As2 sp
end
end SL
set_option Elab.async false
set_option linter.all false
set_option maxRecDepth 100000
set_option maxHeartbeats 1000000
/-! SLSf: for, unpacking, fields of self. -/
namespace SL
open PySem L2

/-- the names at the places is -/
def chkNms (N : List Str) (sc : Scope) (fnb : Str → Bool) : List Expr → List Nat → Bool
  | [], [] => true
  | .Name x _ :: es, i :: is => decide (N[i]? = some x) && (decide (sc.names.lookup x = some .local) || (fnb x && decide (sc.names.lookup x = some .cell))) && chkNms N sc fnb es is
  | _, _ => false
def chkTg (N : List Str) (sc : Scope) (fnb : Str → Bool) : Expr → Tg → Bool
  | .Name x _, .nm i => decide (N[i]? = some x) && (decide (sc.names.lookup x = some .local) || (fnb x && decide (sc.names.lookup x = some .cell)))
  | .Tuple es _ _, .tp is => chkNms N sc fnb es is
  | _, _ => false
def isTupE : Expr → Bool
  | .Tuple .. => true
  | _ => false
section
variable {T : NT} {W0 : World0} {w0 w : Wd} {fa : Nat → Addr} {cv : Nat → Value} {S : Sem} {h : Bool} {k : Nat} {W : WX} {X : Cx} {pos p p2 apos : Pos}
variable {s : Sx} {ss : List Sx} {st : Stmt} {sts : List Stmt} {e iter : Expr} {a : Ex} {x : Str} {i : Nat} {tg : Tg} {te : Expr}

theorem nm_loc {sc : Scope} {fnb : Str → Bool} {x : Str} (h : (decide (sc.names.lookup x = some NameKind.local) || (fnb x && decide (sc.names.lookup x = some NameKind.cell))) = true) : L2.Loc sc x ∧ (fnb x = true ∨ sc.names.lookup x = some .local) := by
  simp only [Bool.or_eq_true, Bool.and_eq_true, decide_eq_true_eq] at h
  rcases h with h | ⟨h1, h2⟩
  · exact ⟨.inl h, .inr h⟩
  · exact ⟨.inr h2, .inl h1⟩
theorem chkNms_ok (hN : X.N.Nodup) : ∀ {es : List Expr} {is : List Nat}, chkNms X.N X.env.scope X.fn es is = true → PGs X es (gNms is) ∧ (assignEach es X.env).length = is.length ∧ (assignEach es X.env).findIdx? (·.1) = none
  | [], [], _ => ⟨pgs_nil, rfl, rfl⟩
  | [], _ :: _, h => by simp [chkNms] at h
  | e :: es, [], h => by cases e <;> simp [chkNms] at h
  | e :: es, i :: is, h => by
    cases e <;> simp only [chkNms, Bool.false_eq_true] at h
    rename_i x p
    rw [Bool.and_eq_true, Bool.and_eq_true] at h
    obtain ⟨⟨h1, h2⟩, h3⟩ := h
    obtain ⟨g1, g2⟩ := nm_loc h2
    obtain ⟨q1, q2, q3⟩ := chkNms_ok hN h3
    refine ⟨pgs_cons (pg_name hN (of_decide_eq_true h1) g1 g2) q1, ?_, ?_⟩
    · show (assignEach es X.env).length + 1 = is.length + 1
      rw [q2]
    · show List.findIdx? (·.1) ((false, assign (.Name x p) X.env) :: assignEach es X.env) = none
      rw [List.findIdx?_cons, q3]; rfl
theorem chkTg_ok (hN : X.N.Nodup) (hK : X.K = w.K) (hc : X.calm = true ∨ isTupE te = false) (h : chkTg X.N X.env.scope X.fn te tg = true) : PG X te (tgG w.K tg) := by
  cases te <;> cases tg <;> simp only [chkTg, Bool.false_eq_true] at h
  · rw [Bool.and_eq_true] at h
    obtain ⟨g1, g2⟩ := nm_loc h.2
    exact pg_name hN (of_decide_eq_true h.1) g1 g2
  · rcases hc with hc | hc
    · obtain ⟨q1, q2, q3⟩ := chkNms_ok hN h
      show PG X _ (gTup w.K _ _)
      rw [← hK]
      exact pg_tup hc q1 q2 q3
    · cases hc
def noSet : Expr → Bool
  | .Set .. => false
  | _ => true
theorem fs_no {e : Expr} {env : PySem.Env} (h : noSet e = true) : ∀ x, foldedSetIterable e env x = pure x := by
  intro x
  unfold foldedSetIterable
  cases e <;> first | rfl | cases h
theorem snd_unp (g : XS T W0 w0 w fa cv S false k W X) {is : List Nat} (ht : chkTg X.N X.env.scope X.fn te (.tp is) = true) (he : PE X e (tEv S false w W a)) (h1 : noLc e = true) (h2 : noTup e = true) (hst : noStar te = true) : PS X (.Assign [te] e pos) (tSv S false w W (.unp is a)) := by
  refine PS.of (ps_asg he (chkTg_ok g.nd g.f.KK (.inl (g.f.room rfl).2) ht) (swS_no h1) (sws_no h2) (by cases te <;> first | rfl | cases hst)) fun Dn σ H ⟨F, ρ, As, pr, q⟩ => ?_
  rw [evalS] at q
  simp only [Bool.false_eq_true, if_false] at q
  refine ⟨F, ρ, As, pr, FinS.ofE (rp := rpR w) pr q fun r ρ2 v F2 H2 As2 C2 e1 p1 k1 q1 => ?_⟩
  cases r with
  | brw _ _ => exact q1.elim
  | val d =>
    cases d with
    | tup xs =>
      simp only at q1
      cases eb : bindT (.tp is) (.tup xs) ρ2 with
      | none => rw [eb] at q1; exact q1.elim
      | some ρ3 =>
        rw [eb] at q1
        cases k1 with
        | val k1 =>
          have kr : Rep w F2 H2 v (.tup xs) [] := by
            cases k1 with
            | tup a b c => exact .tup a b .nil
          refine bind_ok (C := []) kr (by have := RepL.noX (g.f.hx rfl) kr; simpa [D.noXL] using this) eb ((Post.spost (st := fun i => i ∈ stores (.unp is a)) pr p1).weak (by simp)) (fun i hi => rbs_mem (by simpa [tgs] using hi)) (fun h0 => rbs_big (by simpa [tgs] using h0)) fun σ' As' p' _ _ => q1 σ' F2 H2 As' p'
    | _ => exact q1.elim
theorem for_eq {ik : Ik} {ie : List Ex} {keep : Nat → Bool} {ρ : Env} {kk : List R → List D → Env → SRes} : ((evalEs S h ie ρ).toS fun rs ρ => (iterR ik rs keep ρ).toS fun items ρ => kk rs items ρ) = (itM S h ik ie keep ρ).toS fun x ρ => kk x.1 x.2 ρ := by
  unfold itM
  cases evalEs S h ie ρ with
  | bad => rfl
  | exc c xs ρ' => rfl
  | ok rs ρ1 =>
    simp only [Res.toS_ok, Res.bind_ok]
    cases iterR ik rs keep ρ1 <;> rfl
variable {body : List Stmt} {sb : List Sx} {ik : Ik} {ie : List Ex}
/-- what a for leaves while it turns -/
def fKeep (tg : Tg) (sb : List Sx) : Nat → Bool := fun i => !(rbs (tgs tg) ++ storesL sb).contains i
theorem rng_noX {keep : Nat → Bool} {rs : List R} {ρ ρ' : Env} {items : List D} (e : iterR .range1 rs keep ρ = .ok items ρ') : ∀ x ∈ items, x.noX = true := by
  match rs, e with
  | [.val (.int n)], e =>
    simp only [iterR] at e
    split at e
    · simp only [Res.ok.injEq] at e
      intro x hx
      rw [← e.1] at hx
      simp only [List.mem_map] at hx
      obtain ⟨a, _, rfl⟩ := hx
      rfl
    · cases e
  | [], e => simp [iterR] at e
  | [.val .non], e => simp [iterR] at e
  | [.val (.bl _)], e => simp [iterR] at e
  | [.val (.str _)], e => simp [iterR] at e
  | [.val (.scr _)], e => simp [iterR] at e
  | [.val (.tup _)], e => simp [iterR] at e
  | [.val (.lst _ _)], e => simp [iterR] at e
  | [.val (.ins _ _ _)], e => simp [iterR] at e
  | [.val (.exn _ _)], e => simp [iterR] at e
  | [.brw _ _], e => simp [iterR] at e
  | _ :: _ :: _, e => simp [iterR] at e
theorem for_read {Dn : Ends} {σ : L2.St} {H : Hp} (hw : h = false → w.hx = none) (q : tSv S h w W (.for_ tg ik ie sb) Dn σ H) : tFor (tItv S h w W ik ie (fKeep tg sb)) (tgG w.K tg) (tSsv S h w W sb) Dn σ H := by
  obtain ⟨F, ρ, As, pr, q⟩ := q
  rw [evalS] at q
  split at q
  · exact q.elim
  · rename_i hc
    rw [for_eq (kk := fun rs items ρ => forL (gdR rs) tg (evalSs S h sb) items ρ)] at q
    refine ⟨F, ρ, As, pr, FinS.ofE (rp := rpJ2 w (fKeep tg sb)) pr q fun x ρ2 J F2 H2 As2 C2 e1 p1 k1 q1 => ?_⟩
    obtain ⟨rfl, K, jk, hK⟩ := k1
    have sp := Post.spost (st := fun i => i ∈ stores (.for_ tg ik ie sb)) pr p1
    have hnx : w.hx = none ∨ ∀ y ∈ x.2, y.noX = true := by
      cases h with
      | false => exact .inl (hw rfl)
      | true =>
        have hik : ik = .range1 := by simpa using hc
        subst hik
        right
        unfold itM at e1
        cases e5 : evalEs S true ie ρ with
        | bad => rw [e5] at e1; cases e1
        | exc c xs ρ' => rw [e5] at e1; cases e1
        | ok rs ρ5 =>
          rw [e5] at e1
          simp only [Res.bind_ok] at e1
          cases e6 : iterR .range1 rs (fKeep tg sb) ρ5 with
          | bad => rw [e6] at e1; cases e1
          | exc c xs ρ' => rw [e6] at e1; cases e1
          | ok items ρ6 =>
            rw [e6] at e1
            simp only [Res.bind_ok, Res.ok.injEq] at e1
            obtain ⟨rfl, _⟩ := e1
            exact rng_noX e6
    exact for_go (st := fun i => i ∈ stores (.for_ tg ik ie sb)) p1.pre jk hK (fun i hi => by
      unfold fKeep at hi
      simp only [Bool.not_eq_true', List.contains_eq_mem, decide_eq_false_iff_not] at hi
      rw [stores]; exact hi) hnx (fun i hi => by rw [stores]; exact List.mem_append_left _ (rbs_mem hi)) (fun h0 => by show big ∈ stores _; rw [stores]; exact List.mem_append_left _ (rbs_big h0)) (fun i => i ∈ storesL sb) (fun i hi => by rw [stores]; exact List.mem_append_right _ hi) (FinS.rest sp q1 fun i hi => hi)
theorem snd_for (g : XS T W0 w0 w fa cv S false k W X) (ht : chkTg X.N X.env.scope X.fn te tg = true) (hi : PI X te iter (tItv S false w W ik ie (fKeep tg sb))) (hb : PSs X body (tSsv S false w W sb)) (hn : noSet iter = true) : PS X (.For te iter body [] pos) (tSv S false w W (.for_ tg ik ie sb)) :=
  PS.of (ps_for g.po (g.f.room rfl).2 hi (chkTg_ok g.nd g.f.KK (.inl (g.f.room rfl).2) ht) hb (fs_no hn)) fun Dn σ H q => for_read g.f.hx q
theorem snd_forH (g : XS T W0 w0 w fa cv S true k W X) (ht : chkTg X.N X.env.scope X.fn te tg = true) (hnt : isTupE te = false) (hi : L2H.PIH X te iter (tItv S true w W ik ie (fKeep tg sb))) (hb : PSs X body (tSsv S true w W sb)) (hn : noSet iter = true) : PS X (.For te iter body [] pos) (tSv S true w W (.for_ tg ik ie sb)) :=
  PS.of (L2H.ps_forH g.po (g.f.hot rfl).2 hi (chkTg_ok g.nd g.f.KK (.inr hnt) ht) hb (fs_no hn)) fun Dn σ H q => for_read g.f.hx q
end
end SL
set_option Elab.async false
set_option linter.all false
set_option maxRecDepth 100000
set_option maxHeartbeats 1000000
/-! SLPath: stores into own lists. -/
namespace SL
open PySem L2

/-- v is reached from v0 by the items -/
def Reach (H : Hp) : V → List Int → V → Prop
  | v0, [], v => v = v0
  | v0, i :: is, v => ∃ a ws u, v0 = .ref a ∧ H a = some (.lst ws) ∧ atI ws i = some u ∧ Reach H u is v
theorem Reach.mono {H H' : Hp} (s : Same H H') : ∀ {is : List Int} {v0 v : V}, Reach H v0 is v → Reach H' v0 is v
  | [], _, _, h => h
  | _ :: _, _, _, ⟨a, ws, u, h1, h2, h3, h4⟩ => ⟨a, ws, u, h1, s _ _ h2, h3, Reach.mono s h4⟩
theorem Reach.det {H : Hp} : ∀ {is : List Int} {v0 v v' : V}, Reach H v0 is v → Reach H v0 is v' → v = v'
  | [], _, _, _, h, h' => h.trans h'.symm
  | _ :: _, _, _, _, ⟨a, ws, u, h1, h2, h3, h4⟩, ⟨a', ws', u', g1, g2, g3, g4⟩ => by
    subst h1
    cases g1
    rw [h2] at g2; cases g2
    rw [h3] at g3; cases g3
    exact Reach.det h4 g4
theorem Reach.snoc {H : Hp} : ∀ {is : List Int} {k : Int} {v0 v u : V} {a : Addr} {ws : List V}, Reach H v0 is v → v = .ref a → H a = some (.lst ws) → atI ws k = some u → Reach H v0 (is ++ [k]) u
  | [], _, _, _, _, a, ws, h, e, h2, h3 => ⟨a, ws, _, by rw [← h, e], h2, h3, rfl⟩
  | _ :: _, _, _, _, _, a, ws, ⟨b, us, z, g1, g2, g3, g4⟩, e, h2, h3 => ⟨b, us, z, g1, g2, g3, Reach.snoc g4 e h2 h3⟩
section
variable {w : Wd} {F H F' H' F0 H0 : Hp} {σ σ' : L2.St} {ρ ρ' ρ0 : Env} {As As' As0 : List (List Addr)} {C C1 C' B : List Addr} {v : V} {r : R} {W : WX} {st : Nat → Prop}
theorem getAt_ok : ∀ {is : List Int} {d x : D} {v : V} {A : List Addr}, Rep w F H v d A → getAt is d = some x → ∃ u B, Reach H v is u ∧ Rep w F H u x B ∧ ∀ b, B.count b ≤ A.count b
  | [], d, x, v, A, k, e => by
    simp only [getAt, Option.some.injEq] at e
    subst e
    exact ⟨v, A, rfl, k, fun _ => Nat.le_refl _⟩
  | i :: is, d, x, v, A, k, e => by
    cases d with
    | lst o xs =>
      cases o with
      | false => simp [getAt] at e
      | true =>
        simp only [getAt] at e
        cases k with
        | @lstO a ws _ _ _ _ B k1 k2 k3 =>
          cases e1 : ixD xs.length i with
          | none => rw [e1] at e; simp at e
          | some n =>
            rw [e1] at e
            simp only [Option.bind_some] at e
            cases e2 : xs[n]? with
            | none => rw [e2] at e; simp at e
            | some y =>
              rw [e2] at e
              simp only [Option.bind_some] at e
              obtain ⟨u, B1, h1, h2, h3⟩ := k2.get e2
              obtain ⟨z, B2, g1, g2, g3⟩ := getAt_ok h2 e
              refine ⟨z, B2, ⟨a, ws, u, rfl, k1, ?_, g1⟩, g2, fun b => ?_⟩
              · unfold atI; rw [k2.len, ← ixN_eq, e1]; exact h1
              · have := g3 b; have := h3 b; rw [List.count_cons, List.count_append]; omega
    | _ => simp [getAt] at e
theorem RepL.split : ∀ {vs : List V} {ds : List D} {A : List Addr} {n : Nat} {x : D}, RepL w F H vs ds A → ds[n]? = some x → ∃ v A1 B A2, vs[n]? = some v ∧ RepL w F H (vs.take n) (ds.take n) A1 ∧ Rep w F H v x B ∧ RepL w F H (vs.drop (n + 1)) (ds.drop (n + 1)) A2 ∧ ∀ b, A.count b = A1.count b + B.count b + A2.count b
  | vs, [], A, n, x, r, e => by simp at e
  | vs, d :: ds, A, 0, x, r, e => by
    simp at e; subst e
    obtain ⟨v, us, B, C, rfl, q, r, hc⟩ := r.uncons
    exact ⟨v, [], B, C, rfl, .nil, q, r, fun b => by rw [hc]; simp⟩
  | vs, d :: ds, A, n + 1, x, r, e => by
    obtain ⟨v, us, B, C, rfl, q, r, hc⟩ := r.uncons
    obtain ⟨u, A1, B1, A2, h1, h2, h3, h4, h5⟩ := RepL.split r (by simpa using e)
    refine ⟨u, B ++ A1, B1, A2, by simpa using h1, by simpa using RepL.cons q h2, h3, by simpa using h4, fun b => ?_⟩
    have := hc b; have := h5 b
    rw [List.count_append]; omega
theorem list_at {α : Type} {xs : List α} {n : Nat} {x y : α} (h : xs[n]? = some x) : xs.set n y = xs.take n ++ y :: xs.drop (n + 1) := by
  obtain ⟨hl, _⟩ := List.getElem?_eq_some_iff.mp h
  rw [List.set_eq_take_append_cons_drop, if_pos hl]
/-- the own list that a path leads to, changed -/
theorem path_ok {f : D → Option D} (hf : ∀ x y, f x = some y → ∃ xs ys, x = .lst true xs ∧ y = .lst true ys) : ∀ {is : List Int} {d d' : D} {v : V} {A : List Addr}, Rep w F H v d A → (∀ b, A.count b ≤ 1) → atPath f is d = some d' →
    ∃ a ws xs ys B, Reach H v is (.ref a) ∧ H a = some (.lst ws) ∧ RepL w F H ws xs B ∧ f (.lst true xs) = some (.lst true ys) ∧ 0 < A.count a ∧ (∀ b, B.count b ≤ A.count b) ∧ B.count a = 0 ∧
      ∀ H' ws' By, (∀ c, c ≠ a → H' c = H c) → H' a = some (.lst ws') → RepL w F H' ws' ys By → ∃ A', Rep w F H' v d' A' ∧ ∀ b, A'.count b + B.count b = A.count b + By.count b
  | [], d, d', v, A, k, u, e => by
    simp only [atPath] at e
    obtain ⟨xs, ys, rfl, rfl⟩ := hf _ _ e
    cases k with
    | @lstO a ws _ _ _ _ B k1 k2 k3 =>
      cases k3
      refine ⟨a, ws, xs, ys, B, rfl, k1, k2, e, by simp [List.count_cons], fun b => by rw [List.count_cons, List.append_nil]; omega, ?_, fun H' ws' By h1 h2 h3 => ⟨a :: (By ++ []), .lstO h2 h3 .nil, fun b => ?_⟩⟩
      · have := u a
        simp only [List.count_cons, List.append_nil, beq_self_eq_true, if_true] at this
        omega
      · simp only [List.count_cons, List.append_nil]; omega
  | i :: is, d, d', v, A, k, u, e => by
    cases d with
    | lst o xs =>
      cases o with
      | false => simp [atPath] at e
      | true =>
        simp only [atPath] at e
        cases e1 : ixD xs.length i with
        | none => rw [e1] at e; simp at e
        | some n =>
          rw [e1] at e
          simp only [Option.bind_some] at e
          cases e2 : xs[n]? with
          | none => rw [e2] at e; simp at e
          | some y =>
            rw [e2] at e
            simp only [Option.bind_some, Option.map_eq_some_iff] at e
            obtain ⟨y', e3, rfl⟩ := e
            cases k with
            | @lstO c ws _ _ _ _ Bc k1 k2 k3 =>
              cases k3
              obtain ⟨z, A1, B1, A2, h1, h2, h3, h4, h5⟩ := k2.split e2
              have u1 : ∀ b, (if c == b then 1 else 0) + (A1.count b + B1.count b + A2.count b) ≤ 1 := fun b => by
                have := u b
                rw [List.count_cons, List.append_nil, h5] at this
                omega
              obtain ⟨a, us, zs, ys, B, g1, g2, g3, g4, g5, g6, g7, g8⟩ := path_ok hf h3 (fun b => by have := u1 b; omega) e3
              have nc : c ≠ a := fun q => by subst q; have := u1 c; simp only [beq_self_eq_true, if_true] at this; omega
              have nca : (c == a) = false := by simpa using nc
              refine ⟨a, us, zs, ys, B, ⟨c, ws, z, rfl, k1, by unfold atI; rw [k2.len, ← ixN_eq, e1]; exact h1, g1⟩, g2, g3, g4, ?_, fun b => ?_, g7, fun H' ws' By q1 q2 q3 => ?_⟩
              · rw [List.count_cons, List.append_nil, h5]; omega
              · rw [List.count_cons, List.append_nil, h5]; have := g6 b; omega
              · obtain ⟨A', r1, r2⟩ := g8 H' ws' By q1 q2 q3
                have m1 : RepL w F H' (ws.take n) (xs.take n) A1 := h2.mono (Same.refl _) fun b hb => q1 b fun q => by subst q; have := u1 b; omega
                have m2 : RepL w F H' (ws.drop (n + 1)) (xs.drop (n + 1)) A2 := h4.mono (Same.refl _) fun b hb => q1 b fun q => by subst q; have := u1 b; omega
                have all := m1.app (RepL.cons r1 m2)
                have ew : ws.take n ++ z :: ws.drop (n + 1) = ws := by
                  have := list_at (y := z) h1
                  rw [← this]
                  apply List.ext_getElem?
                  intro j
                  by_cases hj : n = j
                  · subst hj
                    rw [List.getElem?_set_self (List.getElem?_eq_some_iff.mp h1).1, h1]
                  · rw [List.getElem?_set_ne hj]
                rw [ew, ← list_at e2] at all
                refine ⟨c :: ((A1 ++ (A' ++ A2)) ++ []), .lstO (by rw [q1 c nc]; exact k1) all .nil, fun b => ?_⟩
                have := r2 b
                simp only [List.count_cons, List.append_nil, List.count_append, h5]
                omega
    | _ => simp [atPath] at e

/-! ### the frame behind it -/
theorem SPost.give {i : Nat} {A : List Addr} (p : SPost w st σ F0 H0 ρ0 As0 σ' F H ρ As C) (hA : As[i]? = some A) (hi : st i) : SPost w st σ F0 H0 ρ0 As0 σ' F H (ρ.set i none) (As.set i []) (C ++ A) := by
  have le : ∀ a, own (As.set i []) a + A.count a = own As a := fun a => by have := own_set (B := []) hA a; simpa using this
  refine { p with nox := fun j h => (p.nox j h).del, env := p.env.drop, uni := fun a => by rw [List.count_append]; have := le a; have := p.uni a; omega, off := fun a h => p.off a (by rw [List.count_append] at h; have := le a; omega), old := fun a h => p.old a (by rw [List.count_append] at h; have := le a; omega), there := fun a h => p.there a (by rw [List.count_append] at h; have := le a; omega), keep := fun j hj => ?_ }
  have ne : i ≠ j := fun e => hj (e ▸ hi)
  obtain ⟨h1, h2⟩ := p.keep j hj
  refine ⟨h1, ?_⟩
  unfold KeepR at h2 ⊢
  rw [List.getElem?_set_ne ne, List.getElem?_set_ne ne]
  exact h2
theorem SPost.poke {a : Addr} {o : HO} (p : SPost w st σ F0 H0 ρ0 As0 σ' F H ρ As C) (hC : 0 < C.count a) : SPost w st σ F0 H0 ρ0 As0 σ' F (upd H a o) ρ As C := by
  have nF : F a = none := p.off a (by omega)
  have no : own As a = 0 := by have := p.uni a; omega
  have up : ∀ b, H b ≠ none → upd H a o b ≠ none := fun b h => by
    by_cases e : b = a
    · subst e; rw [upd_same]; simp
    · rw [upd_ne e]; exact h
  refine { p with kH := fun b u h1 h2 => ?_, more := fun b h => up b (p.more b h), same := fun b u h => ?_, env := p.env.mono (Same.refl _) fun b h => upd_ne fun e => by subst e; omega, there := fun b h => up b (p.there b h), keep := fun i hi => ⟨(p.keep i hi).1, ?_⟩ }
  · rw [upd_ne fun e => ?_]
    · exact p.kH b u h1 h2
    · subst e
      rcases p.old b (by omega) with z | z
      · omega
      · rw [z] at h1; cases h1
  · rw [upd_ne fun e => by subst e; rw [nF] at h; cases h]
    exact p.same b u h
  · rcases (p.keep i hi).2 with ⟨h1, h2, h3⟩ | ⟨d, A, h1, h2, h3, h4, h5⟩ | z
    · refine .inl ⟨h1, h2, fun A hA b hb => ?_⟩
      have := own_get (h2.trans hA) b
      rw [upd_ne fun e => by subst e; omega]
      exact h3 A hA b hb
    · exact .inr (.inl ⟨d, A, h1, h2, h3, h4, h5⟩)
    · exact .inr (.inr z)
theorem set_eq {α : Type} {xs : List α} {i : Nat} {x : α} (h : xs[i]? = some x) : xs.set i x = xs := by
  apply List.ext_getElem?
  intro j
  by_cases hj : i = j
  · subst hj
    rw [List.getElem?_set_self (List.getElem?_eq_some_iff.mp h).1, h]
  · rw [List.getElem?_set_ne hj]
/-- the variable's own list changed; v: the value, kept; C': what is kept behind it -/
theorem upd_okC {f : D → Option D} {is : List Int} {i : Nat} {d0 d1 d : D} {v : V} (hf : ∀ x y, f x = some y → ∃ xs ys, x = .lst true xs ∧ y = .lst true ys) (hw : w.hx = none) (p : SPost w st σ F0 H0 ρ0 As0 σ' F H ρ As C) (hi : st i) (e0 : ρ[i]? = some (some d0)) (e1 : atPath f is d0 = some d1) (kv : Rep w F H v d C) :
    ∃ v0 a ws xs ys B, σ'[i]? = some (some v0) ∧ Reach H v0 is (.ref a) ∧ H a = some (.lst ws) ∧ RepL w F H ws xs B ∧ f (.lst true xs) = some (.lst true ys) ∧ C.count a = 0 ∧ B.count a = 0 ∧
      ∀ ws' By C', (∀ H', (∀ c, c ≠ a → H' c = H c) → RepL w F H' ws' ys By) → (∀ b, By.count b + C'.count b ≤ B.count b + C.count b) → ∃ As', SPost w st σ F0 H0 ρ0 As0 σ' F (upd H a (.lst ws')) (ρ.set i (some d1)) As' C' := by
  obtain ⟨v0, A, hσ, hA, k0⟩ := p.pre.env.get e0
  have uA : ∀ b, A.count b ≤ 1 := fun b => by have := own_get hA b; have := p.uni b; omega
  obtain ⟨a, ws, xs, ys, B, g1, g2, g3, g4, g5, g6, g7, g8⟩ := path_ok hf k0 uA e1
  have cA : C.count a = 0 := by have := own_get hA a; have := p.uni a; omega
  refine ⟨v0, a, ws, xs, ys, B, hσ, g1, g2, g3, g4, cA, g7, fun ws' By C' hR hB => ?_⟩
  have p1 := p.give hA hi
  have p2 := p1.poke (a := a) (o := .lst ws') (by rw [List.count_append]; omega)
  obtain ⟨A', r1, r2⟩ := g8 (upd H a (.lst ws')) ws' By (fun c hc => upd_ne hc) upd_same (hR _ fun c hc => upd_ne hc)
  have p3 := p2.set (i := i) (C' := C') r1 (by have := RepL.noX hw r1; simpa [D.noXL] using this) (fun b => by
    have h1 := r2 b; have h2 := hB b; have h3 := g6 b
    simp only [List.count_append]; omega) hi (.inl hσ)
  rw [set_eq hσ, List.set_set] at p3
  rw [List.set_set] at p3
  exact ⟨_, p3⟩
/-- .. with nothing kept behind it -/
theorem upd_ok {f : D → Option D} {is : List Int} {i : Nat} {d0 d1 d : D} {v : V} (hf : ∀ x y, f x = some y → ∃ xs ys, x = .lst true xs ∧ y = .lst true ys) (hw : w.hx = none) (p : SPost w st σ F0 H0 ρ0 As0 σ' F H ρ As C) (hi : st i) (e0 : ρ[i]? = some (some d0)) (e1 : atPath f is d0 = some d1) (kv : Rep w F H v d C) :
    ∃ v0 a ws xs ys B, σ'[i]? = some (some v0) ∧ Reach H v0 is (.ref a) ∧ H a = some (.lst ws) ∧ RepL w F H ws xs B ∧ f (.lst true xs) = some (.lst true ys) ∧ C.count a = 0 ∧ B.count a = 0 ∧
      ∀ ws' By, (∀ H', (∀ c, c ≠ a → H' c = H c) → RepL w F H' ws' ys By) → (∀ b, By.count b ≤ B.count b + C.count b) → ∃ As', SPost w st σ F0 H0 ρ0 As0 σ' F (upd H a (.lst ws')) (ρ.set i (some d1)) As' [] := by
  obtain ⟨v0, a, ws, xs, ys, B, g1, g2, g3, g4, g5, g6, g7, g8⟩ := upd_okC hf hw p hi e0 e1 kv
  exact ⟨v0, a, ws, xs, ys, B, g1, g2, g3, g4, g5, g6, g7, fun ws' By h1 h2 => g8 ws' By [] h1 fun b => by have := h2 b; simpa using this⟩
end
end SL
set_option Elab.async false
set_option linter.all false
set_option maxRecDepth 100000
set_option maxHeartbeats 1000000
/-! SLPb: x[..] = e, x[..].append(e), self.f = e. -/
namespace SL
open PySem L2

def rpP (σ : L2.St) (i : Nat) : RP V (List Int) := fun F H ρ As v is C => C = [] ∧ ∃ d v0, ρ[i]? = some (some d) ∧ σ[i]? = some (some v0) ∧ (getAt is d).isSome = true ∧ Reach H v0 is v
def tPv (S : Sem) (h : Bool) (w : Wd) (W : WX) (i : Nat) (path : List Ex) : TE := fun σ H Q => ∃ F ρ As, Pre w F H σ ρ As ∧ Fin (rpP σ i) w σ W F H ρ As (evalP S h i path [] ρ) Q
def noSlc : Expr → Bool
  | .Slice .. => false
  | _ => true
theorem plain_ix {e : Expr} (h : noSlc e = true) : PlainIx e := by
  intro o i
  unfold subscripted
  cases e <;> first | rfl | cases h
section
variable {T : NT} {W0 : World0} {w0 w : Wd} {fa : Nat → Addr} {cv : Nat → Value} {S : Sem} {h : Bool} {k : Nat} {W : WX} {X : Cx} {pos p p2 apos : Pos}
variable {e eR eP : Expr} {a pk : Ex} {x : Str} {i : Nat} {path : List Ex}
theorem okL_at {i : Nat} {is : List Int} {ρ : Env} (h : okL i is ρ = true) : ∃ d xs, ρ[i]? = some (some d) ∧ getAt is d = some (.lst true xs) := by
  unfold okL at h
  split at h
  · rename_i d hd
    split at h
    · rename_i xs hx
      exact ⟨d, xs, hd, hx⟩
    · cases h
  · cases h
theorem okAt_at {i : Nat} {is : List Int} {ρ : Env} (h : okAt i is ρ = true) : ∃ d, ρ[i]? = some (some d) ∧ (getAt is d).isSome = true := by
  unfold okAt at h
  split at h
  · rename_i d hd; exact ⟨d, hd, h⟩
  · cases h
theorem okL_okAt {i : Nat} {is : List Int} {ρ : Env} (h : okL i is ρ = true) : okAt i is ρ = true := by
  obtain ⟨d, xs, h1, h2⟩ := okL_at h
  unfold okAt
  rw [h1]
  simp [h2]
theorem evalP_snoc : ∀ {path : List Ex} {acc : List Int} {ρ : Env}, evalP S h i (path ++ [pk]) acc ρ = (evalP S h i path acc ρ).bind fun is ρ => if okL i is ρ then (evalE S h pk ρ).bind fun r ρ => match r.int? with
    | some k => if okAt i (is ++ [k]) ρ then .ok (is ++ [k]) ρ else .bad
    | none => .bad
    else .bad
  | [], acc, ρ => by
    simp only [List.nil_append, evalP]
    cases c : okL i acc ρ with
    | true =>
      rw [okL_okAt c]
      simp only [if_true, Res.bind_ok, c]
      try rfl
    | false =>
      cases c2 : okAt i acc ρ with
      | true => simp [c]
      | false => simp
  | q :: path, acc, ρ => by
    simp only [List.cons_append, evalP]
    cases c : okL i acc ρ with
    | false => simp
    | true =>
      simp only [if_true]
      cases evalE S h q ρ with
      | bad => rfl
      | exc c xs ρ' => rfl
      | ok r ρ1 =>
        simp only [Res.bind_ok]
        cases r.int? with
        | none => rfl
        | some k => exact evalP_snoc
theorem snd_pv0 (hN : X.N[i]? = some x) (hv : Vis X.env.scope x) (hd : (x == ("__debug__" : Str)) = false) (hcd : (x == ("__classdict__" : Str)) = false) : PE X (.Name x pos) (tPv S h w W i []) := by
  refine PE.of (pe_var hN hv hd hcd) fun σ H Q ⟨F, ρ, As, pr, q⟩ => ?_
  rw [evalP] at q
  cases c : okAt i [] ρ with
  | false => rw [c] at q; exact q.elim
  | true =>
    rw [c] at q
    obtain ⟨d, h1, h2⟩ := okAt_at c
    obtain ⟨v0, A, hσ, hA, kv⟩ := pr.env.get h1
    exact ⟨v0, hσ, q v0 F H As [] pr.post ⟨rfl, d, v0, h1, hσ, h2, rfl⟩⟩
/-- what stands at a path -/
theorem pv_list {σ : L2.St} {F1 H1 : Hp} {ρ1 : Env} {As1 : List (List Addr)} {v : V} {is : List Int} (p1 : Pre w F1 H1 σ ρ1 As1) (k1 : rpP σ i F1 H1 ρ1 As1 v is []) (c : okL i is ρ1 = true) :
    ∃ a ws xs, v = .ref a ∧ H1 a = some (.lst ws) ∧ ws.length = xs.length ∧ ∃ d, ρ1[i]? = some (some d) ∧ getAt is d = some (.lst true xs) := by
  obtain ⟨_, d, v0, h1, h2, h3, h4⟩ := k1
  obtain ⟨d', xs, g1, g2⟩ := okL_at c
  rw [h1] at g1; cases g1
  obtain ⟨v0', A, hσ, hA, kv⟩ := p1.env.get h1
  rw [h2] at hσ; cases hσ
  obtain ⟨u, B, r1, r2, r3⟩ := getAt_ok kv g2
  have := Reach.det h4 r1
  subst this
  cases r2 with
  | lstO k1 k2 _ => exact ⟨_, _, xs, rfl, k1, k2.len, d, h1, g2⟩
theorem getAt_snoc : ∀ {is : List Int} {k : Int} {d : D}, getAt (is ++ [k]) d = (getAt is d).bind (getAt [k])
  | [], k, d => rfl
  | i :: is, k, d => by
    cases d with
    | lst o xs =>
      cases o with
      | false => rfl
      | true =>
        simp only [List.cons_append, getAt]
        cases ixD xs.length i with
        | none => rfl
        | some n =>
          simp only [Option.bind_some]
          cases xs[n]? with
          | none => rfl
          | some y =>
            simp only [Option.bind_some]
            exact getAt_snoc
    | _ => rfl
theorem Reach.lift {w : Wd} {F H F' H' : Hp} {is : List Int} {v0 v : V} {σ : L2.St} {ρ ρ' : Env} {As As' : List (List Addr)} {C : List Addr} (p : Post w σ F H ρ As F' H' ρ' As' C) (r : Reach H v0 is v) : Reach H' v0 is v := r.mono p.sH
/-- the last item's place is there -/
theorem last_at {is : List Int} {kk : Int} {d : D} {xs : List D} (g : getAt is d = some (.lst true xs)) (s : (getAt (is ++ [kk]) d).isSome = true) : ∃ n, ixD xs.length kk = some n ∧ n < xs.length := by
  rw [getAt_snoc, g] at s
  simp only [Option.bind_some, getAt] at s
  cases e : ixD xs.length kk with
  | none => rw [e] at s; simp at s
  | some n =>
    rw [e] at s
    simp only [Option.bind_some] at s
    cases e2 : xs[n]? with
    | none => rw [e2] at s; simp at s
    | some y => exact ⟨n, rfl, (List.getElem?_eq_some_iff.mp e2).1⟩
/-- the variable's value behind a number's evaluation, if the path is still there: it has not changed -/
theorem pv_same {σ : L2.St} {F1 H1 F2 H2 : Hp} {ρ1 ρ2 : Env} {As1 As2 : List (List Addr)} {C : List Addr} {is : List Int} {d d2 : D} {xs : List D} (p : Post w σ F1 H1 ρ1 As1 F2 H2 ρ2 As2 C) (h1 : ρ1[i]? = some (some d)) (g : getAt is d = some (.lst true xs)) (h2 : ρ2[i]? = some (some d2)) {kk : Int}
    (s : (getAt (is ++ [kk]) d2).isSome = true) : d2 = d := by
  rcases p.slots i with ⟨e1, _⟩ | ⟨d', A, e1, e2, e3, e4, _⟩ | ⟨e1, _⟩
  · rw [h2, h1] at e1; cases e1; rfl
  · rw [h1] at e1; cases e1
    rw [h2] at e3; cases e3
    cases is with
    | nil =>
      simp only [getAt, Option.some.injEq] at g
      subst g
      simp [getAt, D.frz] at s
    | cons j is =>
      cases d with
      | lst o ys => simp [getAt, D.frz] at s
      | _ => simp [getAt] at g
  · rw [h2] at e1; cases e1
theorem snd_pvS (hK : X.K = w.K) (hR : PE X eR (tPv S h w W i path)) (hP : PE X eP (tEv S h w W pk)) (hs : noSlc eP = true) : PE X (.Subscript eR eP pos) (tPv S h w W i (path ++ [pk])) := by
  refine PE.of (pe_ix ix_seq hR hP (plain_ix hs)) fun σ H Q ⟨F, ρ, As, pr, q⟩ => ?_
  rw [evalP_snoc] at q
  refine ⟨F, ρ, As, pr, q.bind0 fun is ρ1 v F1 H1 As1 C1 e1 p1 k1 q1 => ?_⟩
  have hC := k1.1
  subst hC
  cases c : okL i is ρ1 with
  | false => rw [c] at q1; exact q1.elim
  | true =>
    rw [c] at q1
    obtain ⟨a, ws, xs, rfl, ha, hl, d, hd, hg⟩ := pv_list p1.pre k1 c
    refine ⟨F1, ρ1, As1, p1.pre, Fin.bind p1 q1 fun r ρ2 u F2 H2 As2 C2 e2 p2 p12 k2 q2 => ?_⟩
    cases e3 : r.int? with
    | none => rw [e3] at q2; exact q2.elim
    | some kk =>
      rw [e3] at q2
      simp only at q2
      cases c2 : okAt i (is ++ [kk]) ρ2 with
      | false => rw [c2] at q2; exact q2.elim
      | true =>
        rw [c2] at q2
        have hu := RepR.intP k2 e3
        subst hu
        obtain ⟨d2, hd2, hg2⟩ := okAt_at c2
        have ed := pv_same p12 hd hg hd2 hg2
        subst ed
        obtain ⟨n, hn, hnl⟩ := last_at hg hg2
        obtain ⟨_, d', v0, g1, g2, g3, g4⟩ := k1
        have haw := p12.sH a _ ha
        have hnw : n < ws.length := by omega
        have hat : atI ws kk = some ws[n] := by unfold atI; rw [hl, ← ixN_eq, hn]; simp [hnw]
        rw [hK]
        refine .inl ⟨a, ws, kk, ws[n], rfl, rfl, .of haw, hat, ?_⟩
        exact q2 _ F2 H2 As2 [] (p2.weak (by simp)) ⟨rfl, d2, v0, hd2, g2, hg2, (g4.mono p12.sH).snoc rfl haw hat⟩
/-- a kept value behind an evaluation -/
theorem FinS.kept2 {st : Nat → Prop} {σ : L2.St} {F H : Hp} {ρ : Env} {As : List (List Addr)} {Dn : Ends} {kk : D → Env → SRes} {Q1 : VK} {F1 H1 : Hp} {ρ1 : Env} {As1 : List (List Addr)} {C1 : List Addr} (pr : Pre w F H σ ρ As) (p1 : Post w σ F H ρ As F1 H1 ρ1 As1 C1) (q : FinS w W st σ F H ρ As (((evalE S h a ρ1).bind settle).toS kk) Dn)
    (go : ∀ d ρ2 v F2 H2 As2 C, Post w σ F H ρ As F2 H2 ρ2 As2 C → Post w σ F1 H1 ρ1 As1 F2 H2 ρ2 As2 C → Rep w F2 H2 v d C → FinS w W st σ F H ρ As (kk d ρ2) Dn → Q1 v H2) : tEv S h w W a σ H1 Q1 := by
  have q' : FinS w W st σ F H ρ As ((evalE S h a ρ1).toS fun r ρ => (settle r ρ).toS kk) Dn := by
    cases e : evalE S h a ρ1 <;> rw [e] at q <;> exact q
  refine ⟨F1, ρ1, As1, p1.pre, FinS.ofE2 pr p1 q' fun r ρ2 v F2 H2 As2 C2 e1 p2 p12 k1 q1 => ?_⟩
  cases e2 : settle r ρ2 with
  | bad => rw [e2] at q1; exact q1.elim
  | exc c xs ρ' => exact absurd e2 (settle_ne _ _ _)
  | ok d ρ3 =>
    rw [e2] at q1
    obtain ⟨F3, As3, t, k3⟩ := settle_ok p2.pre k1 e2
    exact go d ρ3 v F3 H2 As3 C2 ((p2.trans t).weak fun a => by simp only [List.count_append]; omega) ((p12.trans t).weak fun a => by simp) k3 q1
theorem app_shape {d : D} : ∀ x y, appItem d x = some y → ∃ xs ys, x = .lst true xs ∧ y = .lst true ys := by
  intro x y e
  unfold appItem at e
  split at e
  · split at e
    · simp only [Option.some.injEq] at e; subst e; exact ⟨_, _, rfl, rfl⟩
    · cases e
  · cases e
theorem set_shape {j : Int} {d : D} : ∀ x y, setItem j d x = some y → ∃ xs ys, x = .lst true xs ∧ y = .lst true ys := by
  intro x y e
  unfold setItem at e
  split at e
  · simp only [Option.map_eq_some_iff] at e
    obtain ⟨n, _, rfl⟩ := e
    exact ⟨_, _, rfl, rfl⟩
  · cases e
theorem updAt_at {f : D → Option D} {ρ ρ' : Env} (e : updAt i f ρ = some ρ') : ∃ d d', ρ[i]? = some (some d) ∧ f d = some d' ∧ ρ' = ρ.set i (some d') := by
  unfold updAt at e
  split at e
  · rename_i d hd
    simp only [Option.map_eq_some_iff] at e
    obtain ⟨d', e1, e2⟩ := e
    exact ⟨d, d', hd, e1, e2.symm⟩
  · cases e
theorem snd_app (hw : h = false → w.hx = none) (hK : X.K = w.K) (hR : PE X eR (tPv S h w W i path)) (he : PE X e (tEv S h w W a)) (n1 : noStar e = true) (h1 : noSup eR = true) (h4 : (apos.endLine == p.line) = true) :
    PS X (.Expr (.Call (.Attribute eR "append" apos) [e] [] p) pos) (tSv S h w W (.app i path a)) := by
  have few : ((backTo p (starEach [e] X.env)).all (fun x => !x.1) && (backToKw p (keywordEach [] X.env)).all (fun x => x.1.isSome) && decide ([e].length + ([] : List Keyword).length + (if ([] : List Keyword).isEmpty then 0 else 1) < 30)) = true := by
    rw [all_plain (by simp [n1])]; rfl
  have hE := pe_bm (r := rAppend) PySem.F.plainAttrs_list PySem.F.slot_list_append PySem.F.type_list_append mt_append hR (pa_cons he pa_nil (star_cons n1)) (ab_of h1) few h4 (star_cons n1) rfl
  refine PS.of (ps_expr hE (sw_no rfl)) fun Dn σ H ⟨F, ρ, As, pr, q⟩ => ?_
  rw [evalS] at q
  cases h with
  | true => exact q.elim
  | false =>
  simp only [Bool.false_eq_true, if_false] at q
  refine ⟨F, ρ, As, pr, FinS.ofE (rp := rpP σ i) pr q fun is ρ1 v F1 H1 As1 C1 e1 p1 k1 q1 => ?_⟩
  have hC := k1.1
  subst hC
  cases c : okL i is ρ1 with
  | false => rw [c] at q1; exact q1.elim
  | true =>
    rw [c] at q1
    obtain ⟨a0, ws0, xs0, rfl, ha, hl, d, hd, hg⟩ := pv_list p1.pre k1 c
    refine ⟨.inl ⟨rfl, _, .of ha⟩, FinS.kept2 pr p1 q1 fun dv ρ2 y F2 H2 As2 C p2 p12 k2 q2 => ?_⟩
    cases eu : updAt i (atPath (appItem dv) is) ρ2 with
    | none => rw [eu] at q2; exact q2.elim
    | some ρ3 =>
      rw [eu] at q2
      obtain ⟨d0, d1, u1, u2, rfl⟩ := updAt_at eu
      have sp := Post.spost (st := fun j => j ∈ stores (.app i path a)) pr p2
      obtain ⟨v0, b, ws, xs, ys, B, g1, g2, g3, g4, g5, g6, g7, g8⟩ := upd_ok app_shape (hw rfl) sp (by simp [stores]) u1 u2 k2
      obtain ⟨_, d', v0', r1, r2, r3, r4⟩ := k1
      rw [g1] at r2; cases r2
      have eb := Reach.det (r4.mono p12.sH) g2
      cases eb
      simp only [appItem] at g5
      split at g5
      · rename_i hz
        simp only [Option.some.injEq, D.lst.injEq, true_and] at g5
        subst g5
        obtain ⟨As3, fin⟩ := g8 (ws ++ [y]) (B ++ C) (fun H' hc => (g4.mono (Same.refl _) fun b hb => hc b fun e => by subst e; omega).app (k2.mono (Same.refl _) fun b hb => hc b fun e => by subst e; omega)) (fun b => by rw [List.count_append]; omega)
        exact ⟨a0, ws, y, rfl, rfl, g3, by rw [g4.len]; exact hz, q2 σ F2 _ As3 fin⟩
      · cases g5
/-- an item taken out of a list -/
theorem RepL.outAt {F H : Hp} {vs : List V} {ds : List D} {A : List Addr} {n : Nat} {x : D} (r : RepL w F H vs ds A) (hx : ds[n]? = some x) :
    ∃ v B A', vs[n]? = some v ∧ Rep w F H v x B ∧ RepL w F H (vs.eraseIdx n) (ds.eraseIdx n) A' ∧ ∀ b, A.count b = A'.count b + B.count b := by
  obtain ⟨v, A1, B, A2, h1, h2, h3, h4, h5⟩ := r.split hx
  refine ⟨v, B, A1 ++ A2, h1, h3, ?_, fun b => by have := h5 b; simp only [List.count_append]; omega⟩
  have := h2.app h4
  rwa [← List.eraseIdx_eq_take_drop_succ, ← List.eraseIdx_eq_take_drop_succ] at this
open Classical in
noncomputable def popF (k : Int) (x0 : D) (d : D) : Option D := (popItem k d).bind fun p => if p.1 = x0 then some p.2 else none
theorem popF_at {k : Int} {x0 d y : D} (e : popF k x0 d = some y) : popItem k d = some (x0, y) := by
  unfold popF at e
  simp only [Option.bind_eq_some_iff] at e
  obtain ⟨⟨u, z⟩, e1, e2⟩ := e
  split at e2
  · rename_i h; cases h; cases e2; exact e1
  · cases e2
theorem popF_of {k : Int} {x0 d y : D} (e : popItem k d = some (x0, y)) : popF k x0 d = some y := by
  unfold popF
  rw [e]
  simp
theorem pop_shape {k : Int} {x0 : D} : ∀ x y, popF k x0 x = some y → ∃ xs ys, x = .lst true xs ∧ y = .lst true ys := by
  intro x y e
  have e := popF_at e
  unfold popItem at e
  split at e
  · split at e
    · simp only [Option.map_eq_some_iff, Prod.mk.injEq] at e
      obtain ⟨_, _, _, rfl⟩ := e
      exact ⟨_, _, rfl, rfl⟩
    · cases e
  · cases e
theorem popItem_at {k : Int} {xs : List D} {x y : D} (e : popItem k (.lst true xs) = some (x, y)) : 0 ≤ k ∧ k < xs.length ∧ k < 1000000 ∧ xs[k.toNat]? = some x ∧ y = .lst true (xs.eraseIdx k.toNat) := by
  unfold popItem at e
  simp only at e
  split at e
  · rename_i h
    simp only [Option.map_eq_some_iff, Prod.mk.injEq] at e
    obtain ⟨x0, h1, rfl, rfl⟩ := e
    exact ⟨h.1, h.2.1, h.2.2, h1, rfl⟩
  · cases e
theorem okL_var {i : Nat} {ρ : Env} (h : okL i [] ρ = true) : ∃ xs, ρ[i]? = some (some (.lst true xs)) := by
  obtain ⟨d, xs, h1, h2⟩ := okL_at h
  simp only [getAt, Option.some.injEq] at h2
  subst h2
  exact ⟨xs, h1⟩
theorem snd_apop {x2 : Str} {j : Nat} {px py apos2 : Pos} (hw : h = false → w.hx = none) (hN : X.N[i]? = some x) (hv : Vis X.env.scope x) (hd : (x == ("__debug__" : Str)) = false) (hcd : (x == ("__classdict__" : Str)) = false)
    (hN2 : X.N[j]? = some x2) (hv2 : Vis X.env.scope x2) (hd2 : (x2 == ("__debug__" : Str)) = false) (hcd2 : (x2 == ("__classdict__" : Str)) = false)
    (he : PE X e (tEv S h w W a)) (n1 : noStar e = true) (h4 : (apos.endLine == p.line) = true) (h5 : (apos2.endLine == p2.line) = true) :
    PS X (.Expr (.Call (.Attribute (.Name x px) "append" apos) [.Call (.Attribute (.Name x2 py) "pop" apos2) [e] [] p2] [] p) pos) (tSv S h w W (.apop i j a)) := by
  have few2 : ((backTo p2 (starEach [e] X.env)).all (fun x => !x.1) && (backToKw p2 (keywordEach [] X.env)).all (fun x => x.1.isSome) && decide ([e].length + ([] : List Keyword).length + (if ([] : List Keyword).isEmpty then 0 else 1) < 30)) = true := by
    rw [all_plain (by simp [n1])]; rfl
  have hP := pe_bm (r := rPopAt) PySem.F.plainAttrs_list PySem.F.slot_list_pop PySem.F.type_list_pop mt_popAt (pe_var (pos := py) hN2 hv2 hd2 hcd2) (pa_cons he pa_nil (star_cons n1)) (ab_of rfl) few2 h5 (star_cons n1) rfl
  have n2 : noStar (.Call (.Attribute (.Name x2 py) "pop" apos2) [e] [] p2) = true := rfl
  have few : ((backTo p (starEach [.Call (.Attribute (.Name x2 py) "pop" apos2) [e] [] p2] X.env)).all (fun x => !x.1) && (backToKw p (keywordEach [] X.env)).all (fun x => x.1.isSome) && decide ([Expr.Call (.Attribute (.Name x2 py) "pop" apos2) [e] [] p2].length + ([] : List Keyword).length + (if ([] : List Keyword).isEmpty then 0 else 1) < 30)) = true := by
    rw [all_plain (by simp [n2])]; rfl
  have hE := pe_bm (r := rAppend) PySem.F.plainAttrs_list PySem.F.slot_list_append PySem.F.type_list_append mt_append (pe_var (pos := px) hN hv hd hcd) (pa_cons hP pa_nil (star_cons n2)) (ab_of rfl) few h4 (star_cons n2) rfl
  refine PS.of (ps_expr hE (sw_no rfl)) fun Dn σ H ⟨F, ρ, As, pr, q⟩ => ?_
  rw [evalS] at q
  cases h with
  | true => exact q.elim
  | false =>
  simp only [Bool.false_eq_true, if_false] at q
  cases c : okL i [] ρ && okL j [] ρ with
  | false => rw [c] at q; exact q.elim
  | true =>
    rw [c] at q
    simp only [Bool.not_true, Bool.false_eq_true, if_false] at q
    rw [Bool.and_eq_true] at c
    obtain ⟨xs1, hi⟩ := okL_var c.1
    obtain ⟨xs2, hj⟩ := okL_var c.2
    obtain ⟨vi, Ai, si, _, ki⟩ := pr.env.get hi
    obtain ⟨vj, Aj, sj, _, kj⟩ := pr.env.get hj
    cases ki with | @lstO ai wsi _ _ _ _ _ hai _ _ =>
    cases kj with | @lstO aj wsj _ _ _ _ _ haj _ _ =>
    refine ⟨_, si, .inl ⟨rfl, _, .of hai⟩, _, sj, .inl ⟨rfl, _, .of haj⟩, F, ρ, As, pr, FinS.ofE (rp := rpR w) pr q fun r ρ2 u F2 H2 As2 C2 e1 p2 k2 q2 => ?_⟩
    cases e3 : r.int? with
    | none => rw [e3] at q2; exact q2.elim
    | some kk =>
      rw [e3] at q2
      simp only [Option.bind_some] at q2
      have hu := RepR.intP k2 e3
      subst hu
      by_cases ij : i = j
      · rw [if_pos ij] at q2; exact q2.elim
      · rw [if_neg ij] at q2
        split at q2
        · rename_i d hd2
          cases ep : popItem kk d with
          | none => rw [ep] at q2; exact q2.elim
          | some xy =>
            obtain ⟨x0, y0⟩ := xy
            rw [ep] at q2
            simp only [Option.bind_some] at q2
            cases eu : updAt i (appItem x0) (ρ2.set j (some y0)) with
            | none => rw [eu] at q2; exact q2.elim
            | some ρ3 =>
              rw [eu] at q2
              obtain ⟨d0, d1, u1, u2, rfl⟩ := updAt_at eu
              have sp := Post.spost (st := fun j' => j' ∈ stores (.apop i j a)) pr (p2.weak (C' := []) fun b => by simp)
              obtain ⟨v0, b, ws, xs, ys, B, g1, g2, g3, g4, g5, g6, g7, g8⟩ := upd_okC (f := popF kk x0) (is := []) (v := .non) (d := .non) pop_shape (hw rfl) sp (by simp [stores]) hd2 (by simp only [atPath]; exact popF_of ep) (.non .nil)
              rw [g1] at sj
              cases sj
              cases g2
              obtain ⟨z1, z2, z3, z4, z5⟩ := popItem_at (popF_at g5)
              cases z5
              obtain ⟨z, Bx, By, o1, o2, o3, o4⟩ := g4.outAt z4
              obtain ⟨As3, sp3⟩ := g8 (ws.eraseIdx kk.toNat) By Bx (fun H' hc => o3.mono (Same.refl _) fun b hb => hc b fun e => by subst e; have := o4 b; omega) (fun b => by have := o4 b; simp only [List.count_nil]; omega)
              have kz : Rep w F2 (upd H2 aj (.lst (ws.eraseIdx kk.toNat))) z x0 Bx := o2.mono (Same.refl _) fun b hb => upd_ne fun e => by subst e; have := o4 b; omega
              obtain ⟨v0', b', ws', xs', ys', B', g1', g2', g3', g4', g5', g6', g7', g8'⟩ := upd_ok (is := []) app_shape (hw rfl) sp3 (by simp [stores]) u1 u2 kz
              rw [g1'] at si
              cases si
              cases g2'
              simp only [appItem] at g5'
              split at g5'
              · rename_i hz
                simp only [Option.some.injEq, D.lst.injEq, true_and] at g5'
                subst g5'
                obtain ⟨As4, fin⟩ := g8' (ws' ++ [z]) (B' ++ Bx) (fun H' hc => (g4'.mono (Same.refl _) fun b hb => hc b fun e => by subst e; omega).app (kz.mono (Same.refl _) fun b hb => hc b fun e => by subst e; omega)) (fun b => by rw [List.count_append]; omega)
                have hl : ws.length = xs.length := g4.len
                refine ⟨aj, ws, kk, kk.toNat, z, rfl, rfl, g3, by omega, by omega, ?_, o1, ai, ws', z, rfl, rfl, g3', by rw [g4'.len]; exact hz, q2 σ F2 _ As4 fin⟩
                unfold seqIndex?
                simp only [hl]
                first | (rw [if_pos (by omega)]; try omega) | skip
                all_goals (first | rfl | (simp; omega) | (split <;> simp <;> omega) | trace_state)
              · cases g5'
        · exact q2.elim
theorem swS_sub {e er ek : Expr} {q : Pos} {l : Nat} {env : PySem.Env} : swapsWithSole [.Subscript er ek q] e l env = pure false := by
  unfold swapsWithSole swapsWith
  cases e <;> rfl
theorem snd_sset (hw : h = false → w.hx = none) (hK : X.K = w.K) (hR : PE X eR (tPv S h w W i path)) (hP : PE X eP (tEv S h w W pk)) (he : PE X e (tEv S h w W a)) (hs : noSlc eP = true) (h2 : noTup e = true) :
    PS X (.Assign [.Subscript eR eP p] e pos) (tSv S h w W (.sset i (path ++ [pk]) a)) := by
  have pg : PG X (.Subscript eR eP p) (gSub (tPv S h w W i path) (tEv S h w W pk) rSetL) := pg_sub hR hP set_list fun v => by
    cases eP <;> first | rfl | cases hs
  refine PS.of (ps_asg he pg swS_sub (sws_no h2) rfl) fun Dn σ H ⟨F, ρ, As, pr, q⟩ => ?_
  rw [evalS] at q
  cases h with
  | true => exact q.elim
  | false =>
  simp only [Bool.false_eq_true, if_false] at q
  refine FinS.kept pr q fun dv ρ0 y F0 H0 As0 C p0 k0 q0 => ?_
  have q0' : FinS w W (fun j => j ∈ stores (.sset i (path ++ [pk]) a)) σ F H ρ As ((evalP S false i path [] ρ0).toS fun is ρ => if okL i is ρ then (evalE S false pk ρ).toS fun r ρ => match r.int? with
      | some k => if okAt i (is ++ [k]) ρ then (updAt i (atPath (setItem k dv) is) ρ).map fun ρ => (.nx, ρ) else none
      | none => none
      else none) Dn := by
    rw [evalP_snoc] at q0
    cases e1 : evalP S false i path [] ρ0 with
    | bad => rw [e1] at q0; exact q0
    | exc c xs ρ' => rw [e1] at q0; exact q0
    | ok is ρ1 =>
      rw [e1] at q0
      simp only [Res.bind_ok, Res.toS_ok] at q0 ⊢
      cases c : okL i is ρ1 with
      | false => rw [c] at q0; exact q0
      | true =>
        rw [c] at q0
        simp only [if_true] at q0 ⊢
        cases e2 : evalE S false pk ρ1 with
        | bad => rw [e2] at q0; exact q0
        | exc c xs ρ' => rw [e2] at q0; exact q0
        | ok r ρ2 =>
          rw [e2] at q0
          simp only [Res.bind_ok, Res.toS_ok] at q0 ⊢
          cases e3 : r.int? with
          | none => rw [e3] at q0; exact q0
          | some kk =>
            rw [e3] at q0
            simp only at q0 ⊢
            cases c2 : okAt i (is ++ [kk]) ρ2 with
            | false => rw [c2] at q0; exact q0
            | true =>
              rw [c2] at q0
              simpa using q0
  refine ⟨F0, ρ0, As0, p0.pre, FinS.ofE2 (rp := rpP σ i) pr p0 q0' fun is ρ1 v F1 H1 As1 C1 e1 p1 p01 k1 q1 => ?_⟩
  have hC := k1.1
  subst hC
  cases c : okL i is ρ1 with
  | false => rw [c] at q1; exact q1.elim
  | true =>
    rw [c] at q1
    simp only [if_true] at q1
    obtain ⟨a0, ws0, xs0, rfl, ha, hl, d, hd, hg⟩ := pv_list p1.pre k1 c
    refine ⟨F1, ρ1, As1, p1.pre, FinS.ofE2 (rp := rpR w) pr p1 q1 fun r ρ2 u F2 H2 As2 C2 e2 p2 p12 k2 q2 => ?_⟩
    cases e3 : r.int? with
    | none => rw [e3] at q2; exact q2.elim
    | some kk =>
      rw [e3] at q2
      simp only at q2
      cases c2 : okAt i (is ++ [kk]) ρ2 with
      | false => rw [c2] at q2; exact q2.elim
      | true =>
        rw [c2] at q2
        simp only [if_true] at q2
        have hu := RepR.intP k2 e3
        subst hu
        cases eu : updAt i (atPath (setItem kk dv) is) ρ2 with
        | none => rw [eu] at q2; exact q2.elim
        | some ρ3 =>
          rw [eu] at q2
          obtain ⟨d0, d1, u1, u2, rfl⟩ := updAt_at eu
          have kv : Rep w F2 H2 y dv C := Rep.up (Rep.up k0 p01.lift) p12.lift
          have sp := Post.spost (st := fun j => j ∈ stores (.sset i (path ++ [pk]) a)) pr (p2.weak (C' := C) fun b => by simp only [List.count_append]; omega)
          obtain ⟨v0, b, ws, xs, ys, B, g1, g2, g3, g4, g5, g6, g7, g8⟩ := upd_ok set_shape (hw rfl) sp (by simp [stores]) u1 u2 kv
          obtain ⟨_, d', v0', r1, r2, r3, r4⟩ := k1
          rw [g1] at r2; cases r2
          have eb := Reach.det (r4.mono p12.sH) g2
          cases eb
          simp only [setItem, Option.map_eq_some_iff, D.lst.injEq, true_and] at g5
          obtain ⟨n, hn, rfl⟩ := g5
          have hnl : n < xs.length := by
            unfold ixD at hn
            split at hn
            · split at hn
              · simp only [Option.some.injEq] at hn; omega
              · cases hn
            · split at hn
              · simp only [Option.some.injEq] at hn; omega
              · cases hn
          obtain ⟨x0, hx0⟩ : ∃ x0, xs[n]? = some x0 := ⟨xs[n], List.getElem?_eq_getElem hnl⟩
          obtain ⟨z, B1, A', s1, s2, s3, s4⟩ := g4.set hx0 kv
          obtain ⟨As3, fin⟩ := g8 (ws.set n y) A' (fun H' hc => s3.mono (Same.refl _) fun b hb => hc b fun e => by
            subst e
            have := s4 b
            omega) (fun b => by have := s4 b; omega)
          exact ⟨a0, ws, kk, n, rfl, rfl, g3, by rw [← ixN_eq, g4.len]; exact hn, q2 σ F2 _ As3 fin⟩
end
end SL
set_option Elab.async false
set_option linter.all false
set_option maxRecDepth 100000
set_option maxHeartbeats 1000000
/-! SLPc: x[..] = x[..] + e: a list that stands in a list grows. -/
namespace SL
open PySem L2
section
variable {w : Wd} {F H F0 H0 : Hp} {σ σ' : L2.St} {ρ ρ0 : Env} {As As0 : List (List Addr)} {C : List Addr} {st : Nat → Prop}
/-- upd_ok, whatever the kept addresses stand for -/
theorem upd_free {f : D → Option D} {is : List Int} {i : Nat} {d0 d1 : D} (hf : ∀ x y, f x = some y → ∃ xs ys, x = .lst true xs ∧ y = .lst true ys) (hw : w.hx = none) (p : SPost w st σ F0 H0 ρ0 As0 σ' F H ρ As C) (hi : st i) (e0 : ρ[i]? = some (some d0)) (e1 : atPath f is d0 = some d1) :
    ∃ v0 a ws xs ys B, σ'[i]? = some (some v0) ∧ Reach H v0 is (.ref a) ∧ H a = some (.lst ws) ∧ RepL w F H ws xs B ∧ f (.lst true xs) = some (.lst true ys) ∧ C.count a = 0 ∧ B.count a = 0 ∧
      ∀ ws' By, (∀ H', (∀ c, c ≠ a → H' c = H c) → RepL w F H' ws' ys By) → (∀ b, By.count b ≤ B.count b + C.count b) → ∃ As', SPost w st σ F0 H0 ρ0 As0 σ' F (upd H a (.lst ws')) (ρ.set i (some d1)) As' [] := by
  obtain ⟨v0, A, hσ, hA, k0⟩ := p.pre.env.get e0
  have uA : ∀ b, A.count b ≤ 1 := fun b => by have := own_get hA b; have := p.uni b; omega
  obtain ⟨a, ws, xs, ys, B, g1, g2, g3, g4, g5, g6, g7, g8⟩ := path_ok hf k0 uA e1
  have cA : C.count a = 0 := by have := own_get hA a; have := p.uni a; omega
  refine ⟨v0, a, ws, xs, ys, B, hσ, g1, g2, g3, g4, cA, g7, fun ws' By hR hB => ?_⟩
  have p1 := p.give hA hi
  have p2 := p1.poke (a := a) (o := .lst ws') (by rw [List.count_append]; omega)
  obtain ⟨A', r1, r2⟩ := g8 (upd H a (.lst ws')) ws' By (fun c hc => upd_ne hc) upd_same (hR _ fun c hc => upd_ne hc)
  have p3 := p2.set (i := i) (C' := []) r1 (by have := RepL.noX hw r1; simpa [D.noXL] using this) (fun b => by
    have h1 := r2 b; have h2 := hB b; have h3 := g6 b
    simp only [List.count_append, List.count_nil]; omega) hi (.inl hσ)
  rw [set_eq hσ, List.set_set] at p3
  rw [List.set_set] at p3
  exact ⟨_, p3⟩
theorem add_shape {k : Int} {zs : List D} : ∀ x y, addItem k zs x = some y → ∃ xs ys, x = .lst true xs ∧ y = .lst true ys := by
  intro x y h
  unfold addItem at h
  split at h
  · rename_i xs
    obtain ⟨n, _, h⟩ := Option.bind_eq_some_iff.mp h
    split at h
    · exact ⟨_, _, rfl, (Option.some.inj h).symm⟩
    · cases h
  · cases h
theorem add_at {k : Int} {ys xs zs : List D} (h : addItem k ys (.lst true xs) = some (.lst true zs)) : ∃ n us, ixD xs.length k = some n ∧ xs[n]? = some (.lst true us) ∧ zs = xs.set n (.lst true (us ++ ys)) := by
  unfold addItem at h
  simp only at h
  obtain ⟨n, hn, h⟩ := Option.bind_eq_some_iff.mp h
  split at h
  · rename_i us e
    refine ⟨n, us, hn, e, ?_⟩
    simpa using h.symm
  · cases h
theorem okN_at {i : Nat} {is : List Int} {n : Nat} {ρ : Env} (h : okN i is n ρ = true) : ∃ d xs, ρ[i]? = some (some d) ∧ getAt is d = some (.lst true xs) ∧ xs.length + n ≤ sizeLine := by
  unfold okN at h
  split at h
  · rename_i d e
    split at h
    · rename_i xs e2
      exact ⟨d, xs, e, e2, of_decide_eq_true h⟩
    · cases h
  · cases h
end
section
variable {w : Wd} {S : Sem} {h : Bool} {W : WX} {X : Cx} {pos p q : Pos} {i : Nat} {path1 path : List Ex} {pk a : Ex} {eL eR eP e : Expr}
theorem pv_same0 {σ : L2.St} {F1 H1 F2 H2 : Hp} {ρ1 ρ2 : Env} {As1 As2 : List (List Addr)} {C : List Addr} {is : List Int} {d d2 : D} {xs xs2 : List D} (p : Post w σ F1 H1 ρ1 As1 F2 H2 ρ2 As2 C) (h1 : ρ1[i]? = some (some d)) (g : getAt is d = some (.lst true xs)) (h2 : ρ2[i]? = some (some d2))
    (s : getAt is d2 = some (.lst true xs2)) : d2 = d := by
  rcases p.slots i with ⟨e1, _⟩ | ⟨d', A, e1, e2, e3, e4, _⟩ | ⟨e1, _⟩
  · rw [h2, h1] at e1; cases e1; rfl
  · rw [h1] at e1; cases e1
    rw [h2] at e3; cases e3
    cases is with
    | nil =>
      simp only [getAt, Option.some.injEq] at g
      subst g
      simp [getAt, D.frz] at s
    | cons j is =>
      cases d with
      | lst o ys => simp [getAt, D.frz] at s
      | _ => simp [getAt] at g
  · rw [h2] at e1; cases e1
theorem snd_sadd (hw : h = false → w.hx = none) (hK : X.K = w.K) (hL : PE X eL (tPv S h w W i path1)) (hR : PE X eR (tPv S h w W i path)) (hP : PE X eP (tEv S h w W pk)) (he : PE X e (tEv S h w W a)) (hs : noSlc eP = true) :
    PS X (.Assign [.Subscript eR eP p] (.BinOp eL .Add e q) pos) (tSv S h w W (.sadd i path1 path pk a)) := by
  have pg : PG X (.Subscript eR eP p) (gSub (tPv S h w W i path) (tEv S h w W pk) rSetL) := pg_sub hR hP set_list fun v => by
    cases eP <;> first | rfl | cases hs
  refine PS.of (ps_asg (pe_op op_cat hL he) pg swS_sub (sws_no rfl) rfl) fun Dn σ H ⟨F, ρ, As, pr, q⟩ => ?_
  rw [evalS] at q
  cases h with
  | true => exact q.elim
  | false =>
  simp only [Bool.false_eq_true, if_false] at q
  refine ⟨F, ρ, As, pr, FinS.ofE (rp := rpP σ i) pr q fun is1 ρ1 v1 F1 H1 As1 C1 e1 p1 k1 q1 => ?_⟩
  have hC := k1.1
  subst hC
  cases c1 : okL i is1 ρ1 with
  | false => rw [c1] at q1; exact q1.elim
  | true =>
  rw [c1] at q1
  simp only [if_true] at q1
  obtain ⟨a0, ws0, xs0, rfl, ha0, hl0, d0, hd0, hg0⟩ := pv_list p1.pre k1 c1
  refine FinS.kept2 pr p1 q1 fun dv ρ2 u F2 H2 As2 C p02 p12 kv q2 => ?_
  obtain ⟨ys, rfl⟩ : ∃ ys, dv = .lst true ys := by
    cases dv with
    | lst o ys => cases o with
      | true => exact ⟨ys, rfl⟩
      | false => exact q2.elim
    | _ => exact q2.elim
  simp only at q2
  cases c2 : okN i is1 ys.length ρ2 with
  | false => rw [c2] at q2; exact q2.elim
  | true =>
  rw [c2] at q2
  simp only [if_true] at q2
  obtain ⟨d2, xs2, hd2, hg2, hsz⟩ := okN_at c2
  have ed := pv_same0 p12 hd0 hg0 hd2 hg2
  subst ed
  rw [hg0] at hg2
  cases hg2
  obtain ⟨b, us, rfl, hb, hul⟩ : ∃ b us, u = .ref b ∧ H2 b = some (.lst us) ∧ us.length = ys.length := by
    cases kv with
    | lstO k1 k2 _ => exact ⟨_, _, rfl, k1, k2.len⟩
  have ha2 := p12.sH _ _ ha0
  refine ⟨a0, b, ws0, us, rfl, rfl, ha2, hb, by omega, fun D hD => ?_⟩
  have p3 := p02.alloc (o := .lst (ws0 ++ us)) hD
  have sD : Same H2 (upd H2 D (.lst (ws0 ++ us))) := fun c o hc => by
    rw [upd_ne fun z => by subst z; rw [hD] at hc; cases hc]; exact hc
  have kv3 : Rep w F2 (upd H2 D (.lst (ws0 ++ us))) (.ref b) (.lst true ys) C := kv.mono (Same.refl _) fun c hc => by
    obtain ⟨o, ho, _⟩ := kv.own c hc
    rw [ho]; exact sD _ _ ho
  refine ⟨F2, ρ2, As2, p3.pre, FinS.ofE2 (rp := rpP σ i) pr p3 q2 fun is ρ4 v4 F4 H4 As4 C4 e4 p4 p34 k4 q4 => ?_⟩
  have hC4 := k4.1
  subst hC4
  cases c4 : okL i is ρ4 with
  | false => rw [c4] at q4; exact q4.elim
  | true =>
  rw [c4] at q4
  simp only [if_true] at q4
  obtain ⟨a4, ws4, xs4, rfl, ha4, hl4, d4, hd4, hg4⟩ := pv_list p4.pre k4 c4
  refine ⟨F4, ρ4, As4, p4.pre, FinS.ofE2 (rp := rpR w) pr p4 q4 fun r ρ5 u5 F5 H5 As5 C5 e5 p5 p45 k5 q5 => ?_⟩
  cases e6 : r.int? with
  | none => rw [e6] at q5; exact q5.elim
  | some kk =>
  rw [e6] at q5
  simp only at q5
  by_cases cc : is1 = is ++ [kk] ∧ okAt i is1 ρ5 = true
  · rw [if_pos cc] at q5
    obtain ⟨rfl, cc⟩ := cc
    have hu := RepR.intP k5 e6
    subst hu
    cases eu : updAt i (atPath (addItem kk ys) is) ρ5 with
    | none => rw [eu] at q5; exact q5.elim
    | some ρ6 =>
      rw [eu] at q5
      obtain ⟨dd0, dd1, u1, u2, rfl⟩ := updAt_at eu
      have kv5 : Rep w F5 H5 (.ref b) (.lst true ys) C := Rep.up (Rep.up kv3 p34.lift) p45.lift
      have sp := Post.spost (st := fun j => j ∈ stores (.sadd i path1 path pk a)) pr (p5.weak (C' := D :: C) fun b => by simp only [List.count_append, List.count_nil]; omega)
      obtain ⟨v0, ap, ws, xs, zs, Bp, g1, g2, g3, g4, g5, g6, g7, g8⟩ := upd_free add_shape (hw rfl) sp (by simp [stores]) u1 u2
      obtain ⟨_, d', v0', r1, r2, r3, r4⟩ := k4
      rw [g1] at r2; cases r2
      have eb := Reach.det (r4.mono p45.sH) g2
      cases eb
      obtain ⟨n, vs, hn, hx, rfl⟩ := add_at g5
      have sAll : Same H1 H5 := ((p12.sH.trans sD).trans p34.sH).trans p45.sH
      have ha5 := sAll _ _ ha0
      have hD5 : H5 D = some (.lst (ws0 ++ us)) := p45.sH _ _ (p34.sH _ _ upd_same)
      have hb5 : H5 b = some (.lst us) := p45.sH _ _ (p34.sH _ _ (sD _ _ hb))
      obtain ⟨z, A1, Bn, A2, s1, s2, s3, s4, s5⟩ := g4.split hx
      have hat : atI ws kk = some z := by
        unfold atI; rw [g4.len, ← ixN_eq, hn]; exact s1
      obtain ⟨_, dd', vv0, t1, t2, t3, t4⟩ := k1
      rw [g1] at t2; cases t2
      have ez := Reach.det (t4.mono sAll) (g2.snoc rfl g3 hat)
      subst ez
      cases s3 with
      | @lstO _ wsz _ _ _ _ Bx j1 j2 j3 =>
      rw [ha5] at j1; cases j1
      cases j3
      cases kv5 with
      | @lstO _ wsy _ _ _ _ By m1 m2 m3 =>
      rw [hb5] at m1; cases m1
      cases m3
      have hDp : D ≠ a4 := fun z => by
        rw [z] at g6
        simp [List.count_cons] at g6
      have aw : ∀ c, 0 < (A1 ++ (Bx ++ By ++ A2)).count c → c ≠ a4 := fun c hc z => by
        rw [z] at hc
        have := s5 a4
        simp only [List.count_append, List.count_cons, List.count_nil] at *
        omega
      obtain ⟨As3, fin⟩ := g8 (ws.set n (.ref D)) (A1 ++ (D :: ((Bx ++ By) ++ A2))) (fun H' hc => by
        rw [list_at s1, list_at hx]
        have n1 : RepL w F5 H' (ws.take n) (xs.take n) A1 := s2.mono (Same.refl _) fun c h => hc c (aw c (by simp only [List.count_append]; omega))
        have n2 : RepL w F5 H' (ws0 ++ us) (vs ++ ys) (Bx ++ By) := (j2.app m2).mono (Same.refl _) fun c h => hc c (aw c (by simp only [List.count_append] at *; omega))
        have n3 : RepL w F5 H' (ws.drop (n + 1)) (xs.drop (n + 1)) A2 := s4.mono (Same.refl _) fun c h => hc c (aw c (by simp only [List.count_append]; omega))
        exact n1.app (.lstO (by rw [hc D hDp]; exact hD5) n2 n3)) (fun c => by
        have := s5 c
        simp only [List.count_append, List.count_cons, List.count_nil] at *
        omega)
      exact ⟨_, ws, kk, n, rfl, rfl, g3, by rw [← ixN_eq, g4.len]; exact hn, q5 σ F5 _ As3 fin⟩
  · rw [if_neg cc] at q5; exact q5.elim
end
end SL
set_option Elab.async false
set_option linter.all false
set_option maxRecDepth 100000
set_option maxHeartbeats 1000000
/-! SLRz: own exceptions made and raised. -/
namespace SL
open PySem L2

/-- the rest of an exception's __init__: self.f = p, one after another, from the k-th -/
def chkXi (N : List Str) (sc : Scope) : List Stmt → List Str → Nat → Bool
  | [], [], _ => true
  | .Assign [.Attribute (.Name s q1) f q2] (.Name p q3) q4 :: sts, g :: gs, k => decide (N[0]? = some s) && decide (N[k + 1]? = some p) && decide (f = g) && decide (sc.names.lookup s = some .local) && decide (sc.names.lookup p = some .local) &&
    decide ((s == ("__debug__" : Str)) = false) && decide ((s == ("__classdict__" : Str)) = false) && decide ((p == ("__debug__" : Str)) = false) && decide ((p == ("__classdict__" : Str)) = false) && chkXi N sc sts gs (k + 1)
  | _, _, _ => false
theorem ost_stmt {X : Cx} {s f pn : Str} {p1 p2 p3 p4 : Pos} {k : Nat} (h0 : X.N[0]? = some s) (h1 : X.N[k + 1]? = some pn) (v0 : X.env.scope.names.lookup s = some .local) (v1 : X.env.scope.names.lookup pn = some .local)
    (d0 : (s == ("__debug__" : Str)) = false) (c0 : (s == ("__classdict__" : Str)) = false) (d1 : (pn == ("__debug__" : Str)) = false) (c1 : (pn == ("__classdict__" : Str)) = false) :
    PS X (.Assign [.Attribute (.Name s p1) f p2] (.Name pn p3) p4) (tOst X.K f (tVar 0) (tVar (k + 1))) :=
  ps_ost (pe_var h0 (.inl v0) d0 c0) (pe_var h1 (.inl v1) d1 c1) (sw_no rfl)
def tXiR (K : PySem.W.Frag) (C : Addr) (gs : List Str) (k : Nat) : TS := fun Dn σ H => ∃ (a dx : Addr) (fs : List (Str × V)) (ys : List V), σ[0]? = some (some (.ref a)) ∧ ys.length = gs.length ∧ (∀ j y, ys[j]? = some y → σ[k + 1 + j]? = some (some y)) ∧
  OexC K C ∧ (∀ g ∈ gs, PySem.W.findIn K (.ref C) g = some none) ∧ H a = some (exo a C (some dx)) ∧ H dx = some (exd dx fs) ∧ a ≠ dx ∧ fs.length + gs.length ≤ 900 ∧ Dn.nx σ (upd H dx (exd dx ((gs.zip ys).reverse ++ fs)))
theorem xi_rest {X : Cx} {C : Addr} : ∀ {sts : List Stmt} {gs : List Str} {k : Nat}, chkXi X.N X.env.scope sts gs k = true → PSs X sts (tXiR X.K C gs k)
  | [], [], k, _ => PSs.of pss_nil fun Dn σ H ⟨a, dx, fs, ys, h0, hl, hy, hC, hg, ha, hd, ne, hz, q⟩ => by
    have e : upd H dx (exd dx fs) = H := by
      funext b
      by_cases e : b = dx
      · subst e; rw [upd_same, hd]
      · rw [upd_ne e]
    have e2 : (([] : List Str).zip ys).reverse ++ fs = fs := by simp
    rw [e2, e] at q
    exact q
  | st :: sts, gs, k, h => by
    cases gs with
    | nil =>
      unfold chkXi at h
      split at h <;> first | (rename_i e1 e2; cases e1; done) | (rename_i e1 e2; cases e2; done) | (cases h; done)
    | cons g gs =>
      unfold chkXi at h
      split at h
      · rename_i e1 e2; cases e1
      · rename_i k s p1 f p2 pn p3 p4 sts' g' gs' e1 e2
        cases e1
        cases e2
        simp only [Bool.and_eq_true, decide_eq_true_eq] at h
        obtain ⟨⟨⟨⟨⟨⟨⟨⟨⟨a1, a2⟩, a3⟩, a4⟩, a5⟩, a6⟩, a7⟩, a8⟩, a9⟩, a10⟩ := h
        subst a3
        refine PSs.of (pss_cons (ost_stmt a1 a2 a4 a5 a6 a7 a8 a9) (xi_rest (C := C) a10)) fun Dn σ H ⟨a, dx, fs, ys, h0, hl, hy, hC, hg, ha, hd, ne, hz, q⟩ => ?_
        cases ys with
        | nil => simp at hl
        | cons y ys =>
          have hk := hy 0 y rfl
          refine ⟨y, by simpa using hk, .ref a, h0, a, C, rfl, hC, hg _ List.mem_cons_self, .inr ⟨dx, fs, ha, hd, by simp only [List.length_cons] at hz; omega, ?_⟩⟩
          refine ⟨a, dx, (f, y) :: fs, ys, h0, by simpa using hl, fun j z hj => ?_, hC, fun g' hg' => hg g' (List.mem_cons_of_mem _ hg'), by rw [upd_ne ne]; exact ha, upd_same, ne, by simp only [List.length_cons] at hz ⊢; omega, ?_⟩
          · have := hy (j + 1) z (by simpa using hj)
            have e7 : ∀ n : Nat, n + 1 + 1 + j = n + 1 + (j + 1) := fun n => by omega
            rw [e7]
            exact this
          · have e : upd (upd H dx (exd dx ((f, y) :: fs))) dx (exd dx ((gs.zip ys).reverse ++ (f, y) :: fs)) = upd H dx (exd dx (((f :: gs).zip (y :: ys)).reverse ++ fs)) := by
              funext b
              by_cases e : b = dx
              · subst e; rw [upd_same, upd_same]; simp
              · rw [upd_ne e, upd_ne e, upd_ne e]
            rw [e]; exact q
      · cases h
theorem xi_fn {X : Cx} {C : Addr} {sts : List Stmt} {g : Str} {gs : List Str} (h : chkXi X.N X.env.scope sts (g :: gs) 0 = true) {vs : List V} {H : Hp} {Q : VK} {E : XK} (hsp : spX X.K C (g :: gs) vs H Q E) (hN : X.N.length = vs.length) :
    ∃ t, PSs X sts t ∧ t { nx := fun _ H' => Q .non H', rt := Q } (L2.start X.N vs) H := by
  obtain ⟨a, ys, rfl, hl, hC, hg, hz, ha, q⟩ := hsp
  cases sts with
  | nil => unfold chkXi at h; cases h
  | cons st sts =>
    unfold chkXi at h
    split at h
    · rename_i e1 e2; cases e1
    · rename_i k' s p1 f p2 pn p3 p4 sts' g' gs' e1 e2
      cases e1
      cases e2
      simp only [Bool.and_eq_true, decide_eq_true_eq] at h
      obtain ⟨⟨⟨⟨⟨⟨⟨⟨⟨a1, a2⟩, a3⟩, a4⟩, a5⟩, a6⟩, a7⟩, a8⟩, a9⟩, a10⟩ := h
      subst a3
      refine ⟨_, pss_cons (ost_stmt a1 a2 a4 a5 a6 a7 a8 a9) (xi_rest (C := C) a10), ?_⟩
      cases ys with
      | nil => simp at hl
      | cons y ys =>
        have hst : ∀ j (v : V), (V.ref a :: y :: ys)[j]? = some v → (L2.start X.N (V.ref a :: y :: ys))[j]? = some (some v) := fun j v hj => by
          unfold L2.start
          have hjl : j < (V.ref a :: y :: ys).length := (List.getElem?_eq_some_iff.mp hj).1
          rw [List.getElem?_append_left (by simpa using hjl), List.getElem?_map, hj]; rfl
        refine ⟨y, hst 1 y rfl, .ref a, hst 0 _ rfl, a, C, rfl, hC, hg _ List.mem_cons_self, .inl ⟨ha, fun dx hdx ne => ?_⟩⟩
        refine ⟨a, dx, [(f, y)], ys, hst 0 _ rfl, by simpa using hl, fun j z hj => ?_, hC, fun g' hg' => hg g' (List.mem_cons_of_mem _ hg'), upd_same, by rw [upd_ne ne]; exact upd_same, fun e => ne e.symm, by simp only [List.length_cons] at hz ⊢; simp; omega, ?_⟩
        · have := hst (j + 2) z (by simpa using hj)
          rw [show 0 + 1 + 1 + j = j + 2 by omega]
          exact this
        · have e : upd (upd (upd H dx (exd dx [(f, y)])) a (exo a C (some dx))) dx (exd dx ((gs.zip ys).reverse ++ [(f, y)])) = upd (upd H dx (exd dx ((f :: gs).zip (y :: ys)).reverse)) a (exo a C (some dx)) := by
            funext b
            by_cases e : b = dx
            · subst e; rw [upd_same, upd_ne ne, upd_same]; simp
            · rw [upd_ne e]
              by_cases e2 : b = a
              · subst e2; rw [upd_same, upd_same]
              · rw [upd_ne e2, upd_ne e2, upd_ne e, upd_ne e]
          rw [e]; exact q dx hdx ne
    · cases h
/-- C(e, ..): a fresh dict that bears the values -/
def tRz (C : Addr) (gs : List Str) (ta : TA) : L2.St → Hp → XK → Prop := fun σ H Q => ta σ H fun vs H1 => vs.length = gs.length ∧ ∀ d, H1 d = none → Q (.ref C) (some d) (upd H1 d (.xd (gs.zip vs).reverse))
section
variable {X : Cx} {x : Str} {C fI : Addr} {k : Nat} {fd : FuncData} {ps gs : List Str} {e : Expr} {es : List Expr} {p pos : Pos} {ta : TA}
theorem pass_no (X : Cx) : Passes (L2N.CX X.prog X.w) X (fun _ _ _ => False) := by
  intro pins σ H st u s' I c
  have z := L2N.XE.of_call (W := fun _ _ _ _ => False) I (fun _ _ _ h => h) c
  obtain ⟨_, _, _, _, _, _, _, _, _, _, _, _, _, _, _, _, w⟩ := z
  exact w.elim
theorem pmk_rz (T : OexC X.K C) (iC : PySem.W.findIn X.K (.ref C) "__init__" = some (some (.ref fI))) (tI : PySem.W.typeIn X.K (.ref fI) = some (.type "function"))
    (F1 : FnOk X.prog X.w X.K X.mg X.base (L2N.CX X.prog X.w) k fI fd ps (spX X.K C gs)) (hr : Room (k + 1) X.A) (hb : Binds X.K fd ps []) (hg : Gl X x) (hm : X.mg x = some (.ref C)) (hgs : ∀ g ∈ gs, PySem.W.findIn X.K (.ref C) g = some none) (hz : gs.length ≤ 800)
    (ha : PA X (e :: es) ta) (hdb : (x == ("__debug__" : Str)) = false) (he : starEach (e :: es) X.env = (false, eval e X.env) :: starEach es X.env) (hpl : (backTo pos (starEach es X.env)).any (·.1) = false) :
    L2N.PMk X (.Call (.Name x p) (e :: es) [] pos) (tRz C gs ta) := by
  intro pins s σ H Q I h
  obtain ⟨nm, q, N, bs, bm, sn, sub, ab, col, dd, k0, k1, k2, k3, k5, hC, hbm⟩ := T.cls
  refine wpAny_Call_Name_kw (ld_glob I hg hm ?_ hdb)
  refine PySem.W.callWith_K (h₀ := X.base) I.ok.mod.kin T.kC (thn (ha.run pos pins s σ H _ I h) fun us s1 z => ?_) he hpl
  obtain ⟨vs, H1, I1, r1, hl, q1⟩ := z
  refine ⟨I1.kIn, ?_⟩
  show wpAny _ _ (call (.ref C) us) _ _ _
  obtain ⟨hp, g, dr, tk, os⟩ := s1
  have up : hp.objs.size ≤ hp.objs.size + 1 := Nat.le_succ _
  have free : H1 (hp.objs.size + 1) = none := I1.hok.fresh up
  have kk : ∀ b o, hp.get? b = some o → ((hp.push (PySem.W.kdv_tup us)).push (PySem.HandSPX.excO C hp.objs.size)).get? b = some o := fun b o w => Heap.get?_push_of_some _ (Heap.get?_push_of_some _ w)
  have there : ((hp.push (PySem.W.kdv_tup us)).push (PySem.HandSPX.excO C hp.objs.size)).get? (hp.objs.size + 1) = some (PySem.HandSPX.excO C hp.objs.size) := by heap_get
  have I2 : Inv X pins σ (upd H1 (hp.objs.size + 1) (exo (hp.objs.size + 1) C none)) ⟨(hp.push (PySem.W.kdv_tup us)).push (PySem.HandSPX.excO C hp.objs.size), g, dr, tk, os⟩ := I1.laid kk up (exo_ok there)
  have rr : Vals (V.ref (hp.objs.size + 1) :: vs) (Value.ref (hp.objs.size + 1) :: us) := .cons rfl r1
  have hq : spX X.K C gs (V.ref (hp.objs.size + 1) :: vs) (upd H1 (hp.objs.size + 1) (exo (hp.objs.size + 1) C none))
      (fun v H2 => v = .non ∧ ∃ (d : Addr) (fs : List (Str × V)), H2 (hp.objs.size + 1) = some (exo (hp.objs.size + 1) C (some d)) ∧ H2 d = some (exd d fs) ∧ H1 d = none ∧ Q (.ref C) (some d) (upd (del H2 (hp.objs.size + 1)) d (.xd fs))) (fun _ _ _ => False) := by
    refine ⟨_, vs, rfl, hl, T, hgs, hz, upd_same, fun dx hdx ne => ⟨rfl, dx, _, upd_same, by rw [upd_ne ne]; exact upd_same, ?_, ?_⟩⟩
    · rw [upd_ne ne] at hdx; exact hdx
    · rw [upd_ne ne] at hdx
      have e1 : upd (del (upd (upd (upd H1 (hp.objs.size + 1) (exo (hp.objs.size + 1) C none)) dx (exd dx (gs.zip vs).reverse)) (hp.objs.size + 1) (exo (hp.objs.size + 1) C (some dx))) (hp.objs.size + 1)) dx (.xd (gs.zip vs).reverse) = upd H1 dx (.xd (gs.zip vs).reverse) := by
        funext b
        by_cases e : b = dx
        · subst e; rw [upd_same, upd_same]
        · rw [upd_ne e, upd_ne e]
          by_cases e2 : b = hp.objs.size + 1
          · subst e2; rw [del_same, free]
          · rw [del_ne e2, upd_ne e2, upd_ne e, upd_ne e2]
      rw [e1]; exact q1 dx hdx
  have hln : (Value.ref (hp.objs.size + 1) :: us).length = ps.length := by rw [← rr.length]; exact F1.len _ _ _ _ hq
  have bb := hb _ (Value.ref (hp.objs.size + 1) :: us) I2.kIn (by simpa using hln)
  rw [List.append_nil] at bb
  have hus : us.length ≤ sizeLine := by rw [← Paired.length r1, hl, sizeLine_eq]; omega
  refine wpAny_call (PySem.HandSPX.call_own F.excBase_ValueError (fun Y => PySem.HandSPX.refsVE_contains Y bm hbm) (I1.kIn _ _ hC) (PySem.W.looks_findIn I1.kIn iC) (fun self => PySem.W.bind_fn I1.kIn self tI) hus
    (codeAny_mono (F1.run _ X.stack _ _ ⟨_, []⟩ _ _ _ (fun _ _ _ => False) (hr.make C us []) (I2.env0.make C us []) bb rr hq) fun r s' hq' => ?_))
  cases r with
  | error er => exact (pass_no X) pins σ _ _ er s' I2 hq'
  | ok fl =>
    cases fl with
    | ret u =>
      obtain ⟨v, H2, os2, bare2, un2, hok2, rv, ev, d, fs, ea, ed, hd1, q2⟩ := hq'
      subst ev
      obtain ⟨h2, g2, d2, t2, os'⟩ := s'
      obtain ⟨t0, G, J, kG, ge, hoe, na⟩ := mk_end0 (d2 := d2) (t2 := t2) I1 up kk un2 hok2 os2 bare2 ea ed hd1
      exact ⟨rv, hp.objs.size + 1, _, _, ⟨G, g2, d2, t2, os'⟩, _, .ref C, some d, rfl, J, kG, ge, hoe, ⟨rfl, rfl, fun vs hv => by cases hv; rfl⟩, rfl, rfl, na, rfl, bare2, raises_own T.exC T.tyC, q2⟩
    | next => exact hq'.elim
    | brk => exact hq'.elim
    | cont => exact hq'.elim
end
end SL
set_option Elab.async false
set_option linter.all false
set_option maxRecDepth 100000
set_option maxHeartbeats 1000000
/-! SLTr: raise, self.f = e, try. -/
namespace SL
open PySem L2

theorem RepL.rev {w : Wd} {F H : Hp} {vs : List V} {ds : List D} (r : RepL w F H vs ds []) : RepL w F H vs.reverse ds.reverse [] := by
  induction ds generalizing vs with
  | nil => cases r; exact .nil
  | cons d ds ih =>
    obtain ⟨v, us, B, C, rfl, k1, k2, hc⟩ := r.uncons
    have e1 : B = [] := List.eq_nil_iff_forall_not_mem.mpr fun a ha => by
      have h1 := List.count_pos_iff.mpr ha; have h2 := hc a; simp at h2; omega
    have e2 : C = [] := List.eq_nil_iff_forall_not_mem.mpr fun a ha => by
      have h1 := List.count_pos_iff.mpr ha; have h2 := hc a; simp at h2; omega
    subst e1; subst e2
    have := (ih k2).app k1
    simpa using this
theorem frzL_rev : ∀ ds : List D, D.frzL ds.reverse = (D.frzL ds).reverse := by
  have app : ∀ (a b : List D), D.frzL (a ++ b) = D.frzL a ++ D.frzL b := by
    intro a b
    induction a with
    | nil => rfl
    | cons d ds ih => simp [D.frzL, ih]
  intro ds
  induction ds with
  | nil => rfl
  | cons d ds ih => rw [List.reverse_cons, app, ih]; simp [D.frzL]
theorem zip_rev {α β : Type} : ∀ {xs : List α} {ys : List β}, xs.length = ys.length → (xs.zip ys).reverse = xs.reverse.zip ys.reverse := by
  intro xs
  induction xs with
  | nil => intro ys h; simp
  | cons x xs ih =>
    intro ys h
    cases ys with
    | nil => simp at h
    | cons y ys =>
      have hl : xs.length = ys.length := by simpa using h
      rw [List.zip_cons_cons, List.reverse_cons, List.reverse_cons, List.reverse_cons, ih hl, List.zip_append (by simp [hl])]
      simp
section
variable {T : NT} {W0 : World0} {w0 w : Wd} {fa : Nat → Addr} {cv : Nat → Value} {S : Sem} {h : Bool} {k : Nat} {W : WX} {X : Cx} {pos p p2 apos : Pos}
variable {s : Sx} {ss : List Ex} {st : Stmt} {sts : List Stmt} {e : Expr} {es : List Expr} {a : Ex} {x : Str} {i : Nat}

theorem snd_raise (g : XS T W0 w0 w fa cv S false k W X) {c : Nat} (hc : T.rc c = true) (hk : 1 ≤ k) (hg : Gl X (T.cl c)) (ha : PA X (e :: es) (tKv S false w W ss)) (n1 : noStar e = true) (n2 : es.all noStar = true) :
    PS X (.Raise (some (.Call (.Name (T.cl c) p) (e :: es) [] p2)) none pos) (tSv S false w W (.raise_ c ss)) := by
  obtain ⟨⟨fI, fd, ps, iC, tI, hb, F⟩, hcl, hno, ⟨m1, m2⟩, hz, hl⟩ := g.f.rz c hc
  have Kx := g.f.K
  rw [← Kx] at iC tI hb F hcl hno
  rw [← g.f.mg] at m1 F
  rw [← g.f.prog, ← g.f.wd, ← g.f.base] at F
  have mk := pmk_rz (gs := (w0.fn c).reverse) (p := p) (pos := p2) hcl iC tI F ((g.f.room rfl).1.mono (by omega)) hb hg m1 (fun y hy => hno y (by simpa using hy)) (by simpa using hz) ha m2 (star_cons n1) (star_any n2)
  refine PS.of (L2N.ps_raise (g.f.room rfl).2 g.f.tk mk) fun Dn σ H ⟨F', ρ, As, pr, q⟩ => ?_
  rw [evalS] at q
  simp only [Bool.false_eq_true, if_false] at q
  refine ⟨F', ρ, As, pr, FinS.ofE (rp := rpDs w) pr q fun ds ρ2 vs F2 H2 As2 C2 e1 p1 k1 q1 => ?_⟩
  split at q1
  · rename_i hd
    have n := RepL.len (w := w) k1
    refine ⟨by rw [List.length_reverse]; omega, fun d hdn => ?_⟩
    obtain ⟨sh, lf⟩ := p1.shed (B := C2) (C' := []) (by simp)
    have fz : RepL w (ov F2 H2 C2) H2 vs (D.frzL ds) [] := RepL.frz (w := w) k1 lf.sF fun a ha => by unfold ov; rw [if_pos ha]
    obtain ⟨al, la⟩ := sh.allocF (o := .xd ((w0.fn c).zip vs.reverse)) hdn
    have e2 : ((w0.fn c).reverse.zip vs).reverse = (w0.fn c).zip vs.reverse := by
      rw [zip_rev (by rw [List.length_reverse]; omega), List.reverse_reverse]
    rw [e2, ← g.f.like.ca]
    refine q1 (some d) σ _ _ As2 (Post.spost pr al) ⟨vs.reverse, ?_, ?_, ?_⟩
    · rw [g.f.like.fn]; exact upd_same
    · rw [g.f.like.fn, List.length_reverse]; omega
    · rw [frzL_rev]
      exact (fz.mono la.sF (by simp)).rev
  · exact q1.elim

/-! ### self.f = e -/
theorem putF_set {f : Str} {y : V} : ∀ {ns : List Str} {ws : List V} {k : Nat}, ns.Nodup → ns[k]? = some f → k < ws.length → putF f y (ns.zip ws) = ns.zip (ws.set k y)
  | [], ws, k, _, h, _ => by simp at h
  | n :: ns, [], k, _, _, h => by simp at h
  | n :: ns, u :: ws, 0, nd, h, _ => by
    simp at h; subst h
    simp [putF]
  | n :: ns, u :: ws, k + 1, nd, h, hl => by
    have hm : f ∈ ns := List.mem_of_getElem? (by simpa using h)
    have ne : n ≠ f := fun e => (List.nodup_cons.mp nd).1 (e ▸ hm)
    have ih := putF_set (y := y) (List.nodup_cons.mp nd).2 (by simpa using h) (by simpa using hl)
    simp only [List.zip_cons_cons, List.set_cons_succ, putF]
    first
    | (rw [if_neg (Ne.symm ne), ih])
    | (rw [if_neg ne, ih])
    | (simp [ne, Ne.symm ne, ih])
theorem putF_new {f : Str} {y : V} : ∀ {ns : List Str} {ws : List V}, ns.Nodup → ns[ws.length]? = some f → putF f y (ns.zip ws) = ns.zip (ws ++ [y])
  | [], ws, _, h => by simp at h
  | n :: ns, [], _, h => by
    simp at h; subst h
    simp [putF]
  | n :: ns, u :: ws, nd, h => by
    have hm : f ∈ ns := List.mem_of_getElem? (by simpa using h)
    have ne : n ≠ f := fun e => (List.nodup_cons.mp nd).1 (e ▸ hm)
    have ih := putF_new (y := y) (List.nodup_cons.mp nd).2 (by simpa using h)
    simp only [List.zip_cons_cons, List.cons_append, putF]
    first
    | (rw [if_neg (Ne.symm ne), ih])
    | (rw [if_neg ne, ih])
    | (simp [ne, Ne.symm ne, ih])
theorem snd_sfld (g : XS T W0 w0 w fa cv S h k W X) {f : Nat} (hN : X.N[0]? = some x) (hv : Vis X.env.scope x) (hd : (x == ("__debug__" : Str)) = false) (hcd : (x == ("__classdict__" : Str)) = false) (he : PE X e (tEv S h w W a)) (hl : noLc e = true) :
    PS X (.Assign [.Attribute (.Name x p) (T.at_ f) p2] e pos) (tSv S h w W (.sfld f a)) := by
  refine PS.of (ps_fld (pe_var hN hv hd hcd) he (sw_no hl)) fun Dn σ H ⟨F, ρ, As, pr, q⟩ => ?_
  rw [evalS] at q
  cases h with
  | true => exact q.elim
  | false =>
    simp only [Bool.false_eq_true, if_false] at q
    have hw := g.f.hx rfl
    refine FinS.kept pr q fun d ρ2 v F2 H2 As2 C p1 k1 q1 => ?_
    cases eu : updAt 0 (fldItem S.tab f d) ρ2 with
    | none => rw [eu] at q1; exact q1.elim
    | some ρ3 =>
      rw [eu] at q1
      obtain ⟨d0, d1, u1, u2, rfl⟩ := updAt_at eu
      have sp := Post.spost (st := fun j => j ∈ stores (.sfld f a)) pr p1
      have st0 : (fun j => j ∈ stores (.sfld f a)) 0 := by simp [stores]
      obtain ⟨v0, A, hσ, hA, k0⟩ := sp.pre.env.get u1
      cases d0 with
      | ins o c xs =>
        cases o with
        | false => simp [fldItem] at u2
        | true =>
          simp only [fldItem] at u2
          cases hk : (S.tab.fields c).idxOf? f with
          | none => rw [hk] at u2; cases u2
          | some kk =>
            rw [hk] at u2
            simp only at u2
            obtain ⟨cl, na, hn⟩ := g.f.pr.fld c f kk hk
            have nd := g.f.pr.nd c
            have fl := g.f.pr.fl c
            rw [← g.f.K] at cl na
            cases k0 with
            | @insO b dx _ ws _ _ _ _ B kb lb kw kn =>
              cases kn
              rw [g.f.like.ca, g.f.like.fn] at kb
              rw [g.f.like.fn] at lb
              have uA : C.count b = 0 ∧ B.count b = 0 := by
                have h1 := own_get hA b; have h2 := sp.uni b
                simp only [List.count_cons, List.append_nil, beq_self_eq_true, if_true] at h1
                omega
              have hz : ((w0.fn c).zip ws).length < 1000 := by rw [List.length_zip]; omega
              refine ⟨_, hσ, b, _, dx, _, rfl, kb, cl, na, hz, ?_⟩
              have fin : ∀ (ws' : List V) (ys : List D) (By : List Addr), putF (T.at_ f) v ((w0.fn c).zip ws) = (w0.fn c).zip ws' → ws'.length ≤ (w0.fn c).length → (∀ H', (∀ c, c ≠ b → H' c = H2 c) → RepL w F2 H' ws' ys By) → (∀ x, By.count x ≤ B.count x + C.count x) → d1 = .ins true c ys →
                  Dn.nx σ (upd H2 b (.ins (w0.ca c) dx (putF (T.at_ f) v ((w0.fn c).zip ws)))) := fun ws' ys By e1 e2 e3 e4 e5 => by
                subst e5
                rw [e1]
                have p2 := (sp.give hA st0).poke (a := b) (o := .ins (w0.ca c) dx ((w0.fn c).zip ws')) (by rw [List.count_append, List.count_cons]; simp; omega)
                have rr : Rep w F2 (upd H2 b (.ins (w0.ca c) dx ((w0.fn c).zip ws'))) (.ref b) (.ins true c ys) (b :: (By ++ [])) := .insO (by rw [g.f.like.ca, g.f.like.fn]; exact upd_same) (by rw [g.f.like.fn]; exact e2) (e3 _ fun c hc => upd_ne hc) .nil
                have p3 := p2.set (i := 0) (C' := []) rr (by have := RepL.noX hw rr; simpa [D.noXL] using this) (fun x => by
                  have := e4 x
                  simp only [List.count_cons, List.append_nil, List.count_append, List.count_nil]; omega) st0 (.inl hσ)
                rw [set_eq hσ, List.set_set, List.set_set] at p3
                exact q1 σ F2 _ _ p3
              have keepB : ∀ H', (∀ c, c ≠ b → H' c = H2 c) → RepL w F2 H' ws xs B := fun H' hc => kw.mono (Same.refl _) fun z hz => hc z fun e => by subst e; omega
              have keepC : ∀ H', (∀ c, c ≠ b → H' c = H2 c) → Rep w F2 H' v d C := fun H' hc => k1.mono (Same.refl _) fun z hz => hc z fun e => by subst e; omega
              have hwl := kw.len
              split at u2
              · rename_i hlt
                simp only [Option.some.injEq] at u2
                obtain ⟨x0, hx0⟩ : ∃ x0, xs[kk]? = some x0 := ⟨xs[kk], List.getElem?_eq_getElem hlt⟩
                obtain ⟨z, B1, A', s1, s2, s3, s4⟩ := kw.set hx0 k1
                exact fin (ws.set kk v) (xs.set kk d) A' (putF_set nd hn (by omega)) (by simpa using lb) (fun H' hc => s3.mono (Same.refl _) fun z hz => hc z fun e => by subst e; have := s4 z; omega) (fun x => by have := s4 x; omega) u2.symm
              · split at u2
                · rename_i hlt heq
                  simp only [Option.some.injEq] at u2
                  have hn' : (w0.fn c)[ws.length]? = some (T.at_ f) := by rw [hwl, ← heq]; exact hn
                  have hlen : ws.length < (w0.fn c).length := (List.getElem?_eq_some_iff.mp hn').1
                  exact fin (ws ++ [v]) (xs ++ [d]) (B ++ C) (putF_new nd hn') (by simp; omega) (fun H' hc => (keepB H' hc).app (keepC H' hc)) (fun x => by rw [List.count_append]; omega) u2.symm
                · cases u2
      | _ => simp [fldItem] at u2
end
end SL
set_option Elab.async false
set_option linter.all false
set_option maxRecDepth 100000
set_option maxHeartbeats 1000000
/-! SLTy: try. -/
namespace SL
open PySem L2

/-- while an exception is handled -/
def wx (w : Wd) (a : Addr) (c : Nat) (d : Option Addr) : Wd := { w with hx := some (a, c, d) }
abbrev WF : WX := fun _ _ _ _ => False
section
variable {w w' : Wd} {F H F1 H1 F2 H2 : Hp} {σ σ1 σ2 : L2.St} {ρ ρ1 ρ2 : Env} {As As1 As2 : List (List Addr)} {C : List Addr} {st stS : Nat → Prop} {j : Nat} {W : WX}
theorem EnvR.toW (l : w.Like w') (r : EnvR w F H σ ρ As) : EnvR w' F H σ ρ As := by
  induction r with
  | nil => exact .nil
  | no _ ih => exact .no ih
  | yes k _ ih => exact .yes (RepL.toW l k) ih
theorem EnvR.toW0 (l : w.Like w') (r : EnvR w' F H σ ρ As) (n : ∀ (i : Nat) (d : D), ρ[i]? = some (some d) → d.noX = true) : EnvR w F H σ ρ As := by
  induction r with
  | nil => exact .nil
  | no _ ih => exact .no (ih fun i d h => n (i + 1) d (by simpa using h))
  | yes k _ ih => exact .yes (RepL.toW0 l k (by simp only [D.noXL, Bool.and_true]; exact n 0 _ rfl)) (ih fun i d h => n (i + 1) d (by simpa using h))
theorem EnvR.noX (e : w.hx = none) (r : EnvR w F H σ ρ As) {i : Nat} {d : D} (h : ρ[i]? = some (some d)) : d.noX = true := by
  obtain ⟨v, A, _, _, k⟩ := r.get h
  have := RepL.noX e k
  simpa [D.noXL] using this
theorem like_wx {w0 w : Wd} (l : w0.Like w) {a : Addr} {c : Nat} {d : Option Addr} : w0.Like (wx w a c d) := ⟨l.K, l.ca, l.fn, l.no⟩
theorem like_wx' (hw : w.hx = none) {a : Addr} {c : Nat} {d : Option Addr} : w.Like (wx w a c d) := ⟨rfl, rfl, rfl, hw⟩
theorem NXJ.all (h0 : NXJ 0 ρ) (h1 : NXJ 1 ρ) : ∀ (i : Nat) (d : D), ρ[i]? = some (some d) → d.noX = true := fun i d h => by
  by_cases e : i = 0
  · exact h1 i d (by omega) h
  · exact h0 i d e h
/-- a suite has run: except x -/
theorem suite0 (l : w.Like w') (p1 : SPost w st σ F H ρ As σ1 F1 H1 ρ1 As1 []) (p2 : SPost w' stS σ1 F1 H1 ρ1 As1 σ2 F2 H2 ρ2 As2 C) (hs : ∀ i, stS i → st i) : SPost w st σ F H ρ As σ2 F2 H2 ρ2 As2 C := by
  have nx : ∀ k, NXJ k ρ1 := fun k i d _ h => EnvR.noX l.no p1.env h
  have en := EnvR.toW0 l p2.env ((p2.nox 0 (nx 0)).all (p2.nox 1 (nx 1)))
  exact p1.trans0 ⟨p2.sF, p2.kH, p2.more, p2.same, en, p2.uni, p2.off, p2.old, p2.new, p2.there, fun i hi => p2.keep i fun z => hi (hs i z), p2.nox, fun h => p2.sig fun z => h (hs _ z)⟩
/-- .. except x as n, n at j -/
theorem suiteJ (l : w.Like w') {v : V} {c : Nat} {xs : List D} (p1 : SPost w st σ F H ρ As σ1 F1 H1 ρ1 As1 []) (p2 : SPost w' stS (σ1.set j (some v)) F1 H1 (ρ1.set j (some (.exn c xs))) (As1.set j []) σ2 F2 H2 ρ2 As2 C) (hs : ∀ i, stS i → st i) (hj : st j) (hb : j = 0 → st big) :
    SPost w st σ F H ρ As (σ2.set j none) F2 H2 (ρ2.set j none) (As2.set j []) C := by
  have le1 : ∀ a, own (As1.set j []) a ≤ own As1 a := fun a => by have := own_setL As1 [] j a; simpa using this
  have le2 : ∀ a, own (As2.set j []) a ≤ own As2 a := fun a => by have := own_setL As2 [] j a; simpa using this
  have nx : NXJ j (ρ1.set j (some (.exn c xs))) := fun i d hi h => by
    rw [List.getElem?_set_ne (Ne.symm hi)] at h
    exact EnvR.noX l.no p1.env h
  have nx2 := p2.nox j nx
  have en : EnvR w F2 H2 (σ2.set j none) (ρ2.set j none) (As2.set j []) := EnvR.toW0 l p2.env.del fun i d h => by
    by_cases e : j = i
    · subst e
      by_cases q : j < ρ2.length
      · rw [List.getElem?_set_self q] at h; cases h
      · rw [List.getElem?_eq_none (by simpa using q)] at h; cases h
    · rw [List.getElem?_set_ne e] at h
      exact nx2 i d (Ne.symm e) h
  refine p1.trans0 ⟨p2.sF, fun a o h1 h2 => p2.kH a o h1 (by have := le1 a; omega), p2.more, p2.same, en, fun a => by have := p2.uni a; have := le2 a; omega, fun a h => p2.off a (by have := le2 a; omega), fun a h => ?_, fun a h1 h2 => ?_, fun a h => p2.there a (by have := le2 a; omega), fun i hi => ?_, fun k hk i d hik h => EnvR.noX l.no en h, fun h => ?_⟩
  · rcases p2.old a (by have := le2 a; omega) with z | z
    · exact .inl (by have := le1 a; omega)
    · exact .inr z
  · rcases p2.new a h1 h2 with z | z
    · exact .inl (by have := le1 a; omega)
    · exact .inr z
  · have ne : j ≠ i := fun e => hi (e ▸ hj)
    obtain ⟨h1, h2⟩ := p2.keep i fun z => hi (hs i z)
    rw [List.getElem?_set_ne ne] at h1
    refine ⟨by rw [List.getElem?_set_ne ne]; exact h1, ?_⟩
    unfold KeepR at h2 ⊢
    rw [List.getElem?_set_ne ne, List.getElem?_set_ne ne] at h2
    rw [List.getElem?_set_ne ne, List.getElem?_set_ne ne]
    exact h2
  · have ne : j ≠ 0 := fun e => h (hb e)
    have := p2.sig fun z => h (hs _ z)
    rw [List.getElem?_set_ne ne] at this
    rw [List.getElem?_set_ne ne]
    exact this
end
section
variable {T : NT} {W0 : World0} {w0 w : Wd} {fa : Nat → Addr} {cv : Nat → Value} {S : Sem} {h : Bool} {k : Nat} {W : WX} {X : Cx} {pos p p2 apos : Pos}
variable {x n : Str} {i c : Nat} {sb ss : List Sx} {body suite : List Stmt} {b₀ : Stmt} {np pos' : Pos}

theorem xs_tr (g : XS T W0 w0 w fa cv S false k W X) {W' : WX} {pn : List (Addr × Obj)} {xe : Value → Shared → Prop} (tk : L2N.Takes (X.tr pn xe) W') (po : PassesOwn (model X.prog X.w) X.A X.env xe) : XS T W0 w0 w fa cv S false k W' (X.tr pn xe) where
  f := { pr := g.f.pr, prog := g.f.prog, wd := g.f.wd, mg := g.f.mg, base := g.f.base, K := g.f.K, like := g.f.like, hx := g.f.hx, units := g.f.units, room := g.f.room, hot := (fun z => nomatch z), hxp := (fun a c d e => by rw [g.f.hx rfl] at e; cases e), tk := tk, fn := g.f.fn, fm := g.f.fm, fp := g.f.fp, nw := g.f.nw, rz := g.f.rz }
  stack := g.stack
  frame := g.frame
  nd := g.nd
  po := po
  fnt := g.fnt
  fk := g.fk
theorem takes_no (X : Cx) : L2N.Takes X WF := fun u s' z => by
  obtain ⟨_, _, _, _, _, _, _, _, _, _, _, _, _, _, _, _, q⟩ := z
  exact q.elim
theorem xs_suite (g : XS T W0 w0 w fa cv S false k W X) {a : Addr} {oe : Obj} {c : Nat} {d : Option Addr} {pn : List (Addr × Obj)} (hz : L2N.Zn (.ref (w0.ca c)) d oe) {vs : Array Value} (hv : oe.data = .fields vs) :
    XS T W0 w0 (wx w a c d) fa cv S true k WF (X.suite a ((a, oe) :: pn)) where
  f := { pr := g.f.pr, prog := g.f.prog, wd := g.f.wd, mg := g.f.mg, base := g.f.base, K := g.f.K, like := like_wx g.f.like, hx := (fun z => nomatch z), units := g.f.units, room := (fun z => nomatch z),
         hot := fun _ => ⟨L2H.roomH_mark (g.f.room rfl).1 _, (a, oe), ⟨rfl, vs, hv, hz.2.2 vs hv⟩, List.mem_cons_self⟩,
         hxp := (fun a' c' d' e => by
           have e' : some (a, c, d) = some (a', c', d') := e
           cases e'
           exact ⟨oe, vs, List.mem_cons_self, hz.zc, hv⟩),
         tk := takes_no _, fn := g.f.fn, fm := g.f.fm, fp := g.f.fp, nw := g.f.nw, rz := g.f.rz }
  stack := g.stack
  frame := g.frame
  nd := g.nd
  po := PassesOwn.never
  fnt := g.fnt
  fk := g.fk
/-- the suite, whatever is handled -/
def tsS (S : Sem) (w : Wd) (ss : List Sx) : Addr → Value → Option Addr → TS := fun a cls d Dn σ H => ∃ c, cls = .ref (w.ca c) ∧ tSsv S true (wx w a c d) WF ss Dn σ H
theorem names_of (g : XF T W0 w0 w fa cv S h k W X) (hc : T.oc c = true) (hg : Gl X (T.cl c)) : Names X (T.cl c) (.ref (w0.ca c)) := by
  obtain ⟨m1, m2⟩ := g.pr.own c hc
  exact ⟨hg, m2, .inl (by rw [g.mg]; exact m1)⟩
theorem exn_rep {F H : Hp} {c : Nat} {xs : List D} {d : Option Addr} {a : Addr} (hw : w.hx = none) (r : RepX w F c xs d) : Rep (wx w a c d) F H (.ref a) (.exn c xs) [] := by
  cases d with
  | none =>
    have e : xs = [] := r
    subst e
    exact .exn0 rfl .nil
  | some dd =>
    obtain ⟨ws, h1, h2, h3⟩ := r
    exact .exn rfl h1 h2 ((RepL.toW (like_wx' hw) h3).mono (Same.refl _) (by simp)) .nil
theorem snd_try_as (g : XS T W0 w0 w fa cv S false k W X) (hi : X.N[i]? = some n) (hl : X.env.scope.names.lookup n = some .local) (hc : T.oc c = true) (hg : Gl X (T.cl c))
    (hb : ∀ (W' : WX) (pn : List (Addr × Obj)) (xe : Value → Shared → Prop), XS T W0 w0 w fa cv S false k W' (X.tr pn xe) → PSs (X.tr pn xe) body (tSsv S false w W' sb))
    (hsu : ∀ (w' : Wd) (a : Addr) (pn : List (Addr × Obj)), XS T W0 w0 w' fa cv S true k WF (X.suite a pn) → PSs (X.suite a pn) (b₀ :: suite) (tSsv S true w' WF ss)) :
    PS X (.Try body [.ExceptHandler (some (.Name (T.cl c) np)) (some n) (b₀ :: suite) pos'] [] [] pos) (tSv S false w W (.try_ sb c (some i) ss)) := by
  have hw := g.f.hx rfl
  refine PS.of (L2N.ps_try_as (tb := fun W' => tSsv S false w W' sb) (ts := tsS S w ss) g.stack g.frame g.nd hi hl (names_of g.f hc hg) g.f.tk (fun W' pn xe tk po => hb W' pn xe (xs_tr g tk po)) fun a oe cls d pn hz hv => ?_) ?_
  · refine ⟨fun pins st σ H Dn I q => ?_⟩
    obtain ⟨c', rfl, q⟩ := q
    obtain ⟨vs, hv⟩ := hv
    rw [g.f.like.ca] at hz
    exact (hsu _ a _ (xs_suite g hz hv)).run pins st σ H Dn I q
  · intro Dn σ H ⟨F, ρ, As, pr, q⟩
    rw [evalS] at q
    simp only [Bool.false_eq_true, if_false] at q
    refine ⟨F, ρ, As, pr, ?_⟩
    have sub : ∀ j, (fun j => j ∈ storesL sb) j → (fun j => j ∈ stores (.try_ sb c (some i) ss)) j := fun j hj => by show j ∈ stores _; rw [stores]; exact List.mem_append_left _ hj
    cases e : evalSs S false sb ρ with
    | none => rw [e] at q; exact q.elim
    | some r =>
      obtain ⟨f, ρ1⟩ := r
      rw [e] at q
      simp only [Option.bind_some] at q
      cases f with
      | nx => exact fun σ2 F2 H2 As2 z => q σ2 F2 H2 As2 (z.mono sub)
      | bk => exact fun σ2 F2 H2 As2 z => q σ2 F2 H2 As2 (z.mono sub)
      | ct => exact fun σ2 F2 H2 As2 z => q σ2 F2 H2 As2 (z.mono sub)
      | rt d => exact fun v σ2 F2 H2 As2 C z r => q v σ2 F2 H2 As2 C (z.mono sub) r
      | ex c' xs =>
        intro dd σ1 F1 H1 As1 z rx
        have z' := z.mono sub
        cases eb : S.tab.exm c' c with
        | none => simp only [eb] at q; exact q.elim
        | some b =>
          simp only [eb, Option.bind_some] at q
          have ex := g.f.pr.exm c' c b eb
          rw [← g.f.K, ← g.f.like.ca] at ex
          have e0 : w0.ca c = w.ca c := by rw [g.f.like.ca]
          refine ⟨b, by rw [e0]; exact ex, fun hbt a ha => ?_, fun hbf => ?_⟩
          · subst hbt
            simp only [if_true] at q
            refine ⟨c', rfl, F1, ρ1.set i (some (.exn c' xs)), As1.set i [], ⟨z.same, (EnvR.toW (like_wx' hw) z.env).set (exn_rep hw rx), fun b => ?_, fun b hb => ?_⟩, ?_⟩
            · have h1 := own_setL As1 [] i b; have h2 := z.uni b; rw [List.count_nil] at h1; omega
            · exact z.off b (by have h1 := own_setL As1 [] i b; rw [List.count_nil] at h1; omega)
            · have subS : ∀ j, (fun j => j ∈ storesL ss) j → (fun j => j ∈ stores (.try_ sb c (some i) ss)) j := fun j hj => by show j ∈ stores _; rw [stores]; exact List.mem_append_right _ (List.mem_append_right _ hj)
              have hij : (fun j => j ∈ stores (.try_ sb c (some i) ss)) i := by show i ∈ stores _; rw [stores]; exact List.mem_append_right _ (List.mem_append_left _ (rbs_mem (by simp)))
              have hib : i = 0 → (fun j => j ∈ stores (.try_ sb c (some i) ss)) big := fun e => by show big ∈ stores _; rw [stores]; exact List.mem_append_right _ (List.mem_append_left _ (rbs_big (by simp [e])))
              have bk : ∀ {σ2 : L2.St} {F2 H2 : Hp} {ρ2 : Env} {As2 : List (List Addr)} {C : List Addr}, SPost (wx w a c' dd) (fun j => j ∈ storesL ss) (σ1.set i (some (.ref a))) F1 H1 (ρ1.set i (some (.exn c' xs))) (As1.set i []) σ2 F2 H2 ρ2 As2 C →
                  SPost w (fun j => j ∈ stores (.try_ sb c (some i) ss)) σ F H ρ As (σ2.set i none) F2 H2 (ρ2.set i none) (As2.set i []) C := fun p2 => suiteJ (like_wx' hw) z' p2 subS hij hib
              cases e2 : evalSs S true ss (ρ1.set i (some (.exn c' xs))) with
              | none => rw [e2] at q; exact q.elim
              | some r2 =>
                obtain ⟨f2, ρ2⟩ := r2
                rw [e2] at q
                simp only [Option.bind_some] at q
                cases f2 with
                | nx => exact fun σ2 F2 H2 As2 p2 => q _ F2 H2 _ (bk p2)
                | bk => exact fun σ2 F2 H2 As2 p2 => q _ F2 H2 _ (bk p2)
                | ct => exact fun σ2 F2 H2 As2 p2 => q _ F2 H2 _ (bk p2)
                | rt d =>
                  simp only at q
                  split at q
                  · rename_i hn
                    exact fun v σ2 F2 H2 As2 C p2 r => q v _ F2 H2 _ C (bk p2) (RepL.toW0 (like_wx' hw) r (by simp only [D.noXL, hn, Bool.and_true]))
                  · exact q.elim
                | ex _ _ => exact q.elim
          · subst hbf
            simp only [Bool.false_eq_true, if_false] at q
            exact q dd σ1 F1 H1 As1 z' rx
/-- except x: -/
theorem snd_try_0 (g : XS T W0 w0 w fa cv S false k W X) (hc : T.oc c = true) (hg : Gl X (T.cl c))
    (hb : ∀ (W' : WX) (pn : List (Addr × Obj)) (xe : Value → Shared → Prop), XS T W0 w0 w fa cv S false k W' (X.tr pn xe) → PSs (X.tr pn xe) body (tSsv S false w W' sb))
    (hsu : ∀ (w' : Wd) (a : Addr) (pn : List (Addr × Obj)), XS T W0 w0 w' fa cv S true k WF (X.suite a pn) → PSs (X.suite a pn) (b₀ :: suite) (tSsv S true w' WF ss)) :
    PS X (.Try body [.ExceptHandler (some (.Name (T.cl c) np)) none (b₀ :: suite) pos'] [] [] pos) (tSv S false w W (.try_ sb c none ss)) := by
  have hw := g.f.hx rfl
  refine PS.of (L2N.ps_try_many (tb := fun W' => tSsv S false w W' sb) (l := [(.ref (w0.ca c), tsS S w ss)]) g.stack g.frame g.f.tk (fun W' pn xe tk po => hb W' pn xe (xs_tr g tk po)) (.cons (names_of g.f hc hg) (fun a oe cls d pn hz hv => ?_) .nil)) ?_
  · refine ⟨fun pins st σ H Dn I q => ?_⟩
    obtain ⟨c', rfl, q⟩ := q
    obtain ⟨vs, hv⟩ := hv
    rw [g.f.like.ca] at hz
    exact (hsu _ a _ (xs_suite g hz hv)).run pins st σ H Dn I q
  · intro Dn σ H ⟨F, ρ, As, pr, q⟩
    rw [evalS] at q
    simp only [Bool.false_eq_true, if_false] at q
    refine ⟨F, ρ, As, pr, ?_⟩
    have sub : ∀ j, (fun j => j ∈ storesL sb) j → (fun j => j ∈ stores (.try_ sb c none ss)) j := fun j hj => by show j ∈ stores _; rw [stores]; exact List.mem_append_left _ hj
    cases e : evalSs S false sb ρ with
    | none => rw [e] at q; exact q.elim
    | some r =>
      obtain ⟨f, ρ1⟩ := r
      rw [e] at q
      simp only [Option.bind_some] at q
      cases f with
      | nx => exact fun σ2 F2 H2 As2 z => q σ2 F2 H2 As2 (z.mono sub)
      | bk => exact fun σ2 F2 H2 As2 z => q σ2 F2 H2 As2 (z.mono sub)
      | ct => exact fun σ2 F2 H2 As2 z => q σ2 F2 H2 As2 (z.mono sub)
      | rt d => exact fun v σ2 F2 H2 As2 C z r => q v σ2 F2 H2 As2 C (z.mono sub) r
      | ex c' xs =>
        intro dd σ1 F1 H1 As1 z rx
        have z' := z.mono sub
        cases eb : S.tab.exm c' c with
        | none => simp only [eb] at q; exact q.elim
        | some b =>
          simp only [eb, Option.bind_some] at q
          have ex := g.f.pr.exm c' c b eb
          rw [← g.f.K, ← g.f.like.ca] at ex
          have e0 : w0.ca c = w.ca c := by rw [g.f.like.ca]
          refine ⟨b, by rw [e0]; exact ex, fun hbt a ha => ?_, fun hbf => ?_⟩
          · subst hbt
            simp only [if_true] at q
            refine ⟨c', rfl, F1, ρ1, As1, ⟨z.same, EnvR.toW (like_wx' hw) z.env, z.pre.uni, z.pre.off⟩, ?_⟩
            have subS : ∀ j, (fun j => j ∈ storesL ss) j → (fun j => j ∈ stores (.try_ sb c none ss)) j := fun j hj => by show j ∈ stores _; rw [stores]; exact List.mem_append_right _ (List.mem_append_right _ hj)
            have bk : ∀ {σ2 : L2.St} {F2 H2 : Hp} {ρ2 : Env} {As2 : List (List Addr)} {C : List Addr}, SPost (wx w a c' dd) (fun j => j ∈ storesL ss) σ1 F1 H1 ρ1 As1 σ2 F2 H2 ρ2 As2 C →
                SPost w (fun j => j ∈ stores (.try_ sb c none ss)) σ F H ρ As σ2 F2 H2 ρ2 As2 C := fun p2 => suite0 (like_wx' hw) z' p2 subS
            cases e2 : evalSs S true ss ρ1 with
            | none => rw [e2] at q; exact q.elim
            | some r2 =>
              obtain ⟨f2, ρ2⟩ := r2
              rw [e2] at q
              simp only [Option.bind_some] at q
              cases f2 with
              | nx => exact fun σ2 F2 H2 As2 p2 => q _ F2 H2 _ (bk p2)
              | bk => exact fun σ2 F2 H2 As2 p2 => q _ F2 H2 _ (bk p2)
              | ct => exact fun σ2 F2 H2 As2 p2 => q _ F2 H2 _ (bk p2)
              | rt d =>
                simp only at q
                split at q
                · rename_i hn
                  exact fun v σ2 F2 H2 As2 C p2 r => q v _ F2 H2 _ C (bk p2) (RepL.toW0 (like_wx' hw) r (by simp only [D.noXL, hn, Bool.and_true]))
                · exact q.elim
              | ex _ _ => exact q.elim
          · subst hbf
            simp only [Bool.false_eq_true, if_false] at q
            exact q dd σ1 F1 H1 As1 z' rx
end
end SL
set_option Elab.async false
set_option linter.all false
set_option maxRecDepth 100000
set_option maxHeartbeats 1000000
/-! SLLc: list comprehensions. -/
namespace SL
open PySem L2

def wipeA (As : List (List Addr)) (vs : List Nat) : List (List Addr) := vs.foldl (fun A i => A.set i []) As
theorem foldl_set {α : Type} (x : α) : ∀ (vs : List Nat) (l : List α) (j : Nat), (vs.foldl (fun l i => l.set i x) l)[j]? = if j ∈ vs ∧ j < l.length then some x else l[j]?
  | [], l, j => by simp
  | v :: vs, l, j => by
    rw [List.foldl_cons, foldl_set x vs (l.set v x) j, List.length_set]
    by_cases h1 : j ∈ vs ∧ j < l.length
    · rw [if_pos h1, if_pos ⟨List.mem_cons_of_mem _ h1.1, h1.2⟩]
    · rw [if_neg h1]
      by_cases e : v = j
      · subst e
        by_cases hl : v < l.length
        · rw [List.getElem?_set_self hl, if_pos ⟨List.mem_cons_self, hl⟩]
        · rw [if_neg fun z => hl z.2, List.getElem?_eq_none (by simpa using hl), List.getElem?_eq_none (by simpa using hl)]
      · rw [List.getElem?_set_ne e, if_neg]
        intro z
        rcases List.mem_cons.mp z.1 with q | q
        · exact e q.symm
        · exact h1 ⟨q, z.2⟩
theorem wipeE_at (ρ : Env) (vs : List Nat) (j : Nat) : (wipeE ρ vs)[j]? = if j ∈ vs ∧ j < ρ.length then some none else ρ[j]? := foldl_set none vs ρ j
theorem wipeA_at (As : List (List Addr)) (vs : List Nat) (j : Nat) : (wipeA As vs)[j]? = if j ∈ vs ∧ j < As.length then some [] else As[j]? := foldl_set [] vs As j
theorem wipe_at (σ : L2.St) : ∀ (vs : List Nat) (j : Nat), (L2.wipe σ vs)[j]? = if j ∈ vs ∧ j < σ.length then some none else σ[j]?
  | [], j => by simp [L2.wipe]
  | v :: vs, j => by
    unfold L2.wipe
    by_cases e : v = j
    · subst e
      by_cases hl : v < σ.length
      · rw [List.getElem?_set_self (by rw [wipe_length]; exact hl), if_pos ⟨List.mem_cons_self, hl⟩]
      · rw [if_neg fun z => hl z.2, List.getElem?_eq_none (by rw [List.length_set, wipe_length]; omega), List.getElem?_eq_none (by omega)]
    · rw [List.getElem?_set_ne e, wipe_at σ vs j]
      by_cases h1 : j ∈ vs ∧ j < σ.length
      · rw [if_pos h1, if_pos ⟨List.mem_cons_of_mem _ h1.1, h1.2⟩]
      · rw [if_neg h1, if_neg]
        intro z
        rcases List.mem_cons.mp z.1 with q | q
        · exact e q.symm
        · exact h1 ⟨q, z.2⟩
theorem wipeE_len (ρ : Env) (vs : List Nat) : (wipeE ρ vs).length = ρ.length := by
  unfold wipeE
  induction vs generalizing ρ with
  | nil => rfl
  | cons v vs ih => rw [List.foldl_cons, ih, List.length_set]
theorem wipeA_len (ρ : List (List Addr)) (vs : List Nat) : (wipeA ρ vs).length = ρ.length := by
  unfold wipeA
  induction vs generalizing ρ with
  | nil => rfl
  | cons v vs ih => rw [List.foldl_cons, ih, List.length_set]
theorem own_wipe (As : List (List Addr)) (vs : List Nat) (a : Addr) : own (wipeA As vs) a ≤ own As a := by
  unfold wipeA
  induction vs generalizing As with
  | nil => exact Nat.le_refl _
  | cons v vs ih =>
    rw [List.foldl_cons]
    have h1 := ih (As.set v [])
    have h2 := own_setL As [] v a
    rw [List.count_nil] at h2
    omega
section
variable {w : Wd} {F H F1 H1 F2 H2 F3 H3 : Hp} {σ σ1 σ2 : L2.St} {ρ ρ1 ρ2 ρ3 : Env} {As As1 As2 As3 : List (List Addr)} {C C2 : List Addr} {own_ : List Nat} {W : WX}
/-- env by places -/
theorem EnvR.of_at : ∀ {σ : L2.St} {ρ : Env} {As : List (List Addr)}, σ.length = ρ.length → As.length = ρ.length → (∀ (i : Nat) (d : D), ρ[i]? = some (some d) → ∃ v A, σ[i]? = some (some v) ∧ As[i]? = some A ∧ Rep w F H v d A) → (∀ i : Nat, ρ[i]? = some none → As[i]? = some []) → EnvR w F H σ ρ As
  | [], [], [], _, _, _, _ => .nil
  | o :: σ, none :: ρ, A :: As, h1, h2, h3, h4 => by
    have e := h4 0 rfl
    simp at e
    subst e
    exact .no (EnvR.of_at (by simpa using h1) (by simpa using h2) (fun i d h => by simpa using h3 (i + 1) d (by simpa using h)) fun i h => by simpa using h4 (i + 1) (by simpa using h))
  | o :: σ, some d :: ρ, A :: As, h1, h2, h3, h4 => by
    obtain ⟨v, B, e1, e2, k⟩ := h3 0 d rfl
    simp at e1 e2
    subst e1; subst e2
    exact .yes k (EnvR.of_at (by simpa using h1) (by simpa using h2) (fun i d h => by simpa using h3 (i + 1) d (by simpa using h)) fun i h => by simpa using h4 (i + 1) (by simpa using h))
  | [], _ :: _, _, h1, _, _, _ => by simp at h1
  | _ :: _, [], _, h1, _, _, _ => by simp at h1
  | [], [], _ :: _, _, h2, _, _ => by simp at h2
  | _ :: _, _ :: _, [], _, h2, _, _ => by simp at h2
theorem EnvR.none_at (r : EnvR w F H σ ρ As) {i : Nat} (h : ρ[i]? = some none) : As[i]? = some [] := by
  induction r generalizing i with
  | nil => simp at h
  | no _ ih =>
    cases i with
    | zero => rfl
    | succ i => simpa using ih (by simpa using h)
  | yes _ _ ih =>
    cases i with
    | zero => simp at h
    | succ i => simpa using ih (by simpa using h)
/-- other slots, where the variables are alive as they are -/
theorem EnvR.swap (r : EnvR w F H σ ρ As) (hl : σ1.length = σ.length) (h : ∀ (i : Nat) (d : D), ρ[i]? = some (some d) → σ1[i]? = σ[i]?) : EnvR w F H σ1 ρ As :=
  EnvR.of_at (by rw [hl]; exact r.len.1) r.len.2 (fun i d e => by
    obtain ⟨v, A, h1, h2, k⟩ := r.get e
    exact ⟨v, A, by rw [h i d e]; exact h1, h2, k⟩) fun i e => r.none_at e
/-- forgotten variables -/
theorem EnvR.wiped (r : EnvR w F H σ ρ As) (hl : σ1.length = σ.length) (vs : List Nat) (h : ∀ j, j ∉ vs → σ1[j]? = σ[j]?) : EnvR w F H σ1 (wipeE ρ vs) (wipeA As vs) := by
  refine EnvR.of_at (by rw [wipeE_len, hl]; exact r.len.1) (by rw [wipeE_len, wipeA_len]; exact r.len.2) (fun i d e => ?_) fun i e => ?_
  · rw [wipeE_at] at e
    split at e
    · cases e
    · rename_i hi
      obtain ⟨v, A, h1, h2, k⟩ := r.get e
      have hl2 : i < ρ.length := (List.getElem?_eq_some_iff.mp e).1
      have ni : i ∉ vs := fun z => hi ⟨z, hl2⟩
      exact ⟨v, A, by rw [h i ni]; exact h1, by rw [wipeA_at, if_neg fun z => ni z.1]; exact h2, k⟩
  · rw [wipeE_at] at e
    split at e
    · rename_i hi
      rw [wipeA_at, if_pos ⟨hi.1, by rw [r.len.2]; exact hi.2⟩]
    · rename_i hi
      have hl2 : i < ρ.length := (List.getElem?_eq_some_iff.mp e).1
      rw [wipeA_at, if_neg fun z => hi ⟨z.1, hl2⟩]
      exact r.none_at e
/-- .. is a step -/
theorem Post.wipe (p : Post w σ F1 H1 ρ1 As1 F H ρ As C) (vs : List Nat) : Post w σ F1 H1 ρ1 As1 F H (wipeE ρ vs) (wipeA As vs) C := by
  have le := own_wipe As vs
  refine ⟨p.sF, p.sH, p.same, p.env.wiped rfl vs fun _ _ => rfl, fun a => by have := le a; have := p.uni a; omega, fun a h => p.off a (by have := le a; omega), fun a h => p.old a (by have := le a; omega), p.new, fun a h => p.there a (by have := le a; omega), fun i => ?_⟩
  rw [SlotR, wipeE_at, wipeA_at]
  by_cases h : i ∈ vs ∧ i < ρ.length
  · rw [if_pos h, if_pos ⟨h.1, by rw [p.env.len.2]; exact h.2⟩]
    exact .inr (.inr ⟨rfl, rfl⟩)
  · rw [if_neg h, if_neg fun z => h ⟨z.1, by rw [← p.env.len.2]; exact z.2⟩]
    exact p.slots i
theorem Post.env' (p : Post w σ F H ρ As F1 H1 ρ1 As1 C) (e : EnvR w F1 H1 σ1 ρ1 As1) : Post w σ1 F H ρ As F1 H1 ρ1 As1 C := { p with env := e }
/-- a target is bound -/
theorem names_env {Q : L2.St → Hp → Prop} : ∀ {is : List Nat} {ws : List V} {xs : List D} {σ : L2.St} {ρ : Env} {As : List (List Addr)}, is.length = xs.length → RepL w F H ws xs [] → EnvR w F H σ ρ As →
    (∀ σ' As', EnvR w F H σ' ((is.zip xs).foldl (fun ρ p => ρ.set p.1 (some p.2)) ρ) As' → (∀ j, j ∉ is → σ'[j]? = σ[j]? ∧ ((is.zip xs).foldl (fun (ρ : Env) p => ρ.set p.1 (some p.2)) ρ)[j]? = ρ[j]? ∧ As'[j]? = As[j]?) → (∀ a, own As' a ≤ own As a) → σ'.length = σ.length → Q σ' H) → gNms is ws σ H Q
  | [], ws, xs, σ, ρ, As, hl, k, r, go => by
    have : xs = [] := List.length_eq_zero_iff.mp hl.symm
    subst this
    cases k
    exact ⟨rfl, go σ As r (fun _ _ => ⟨rfl, rfl, rfl⟩) (fun _ => Nat.le_refl _) rfl⟩
  | i :: is, ws, xs, σ, ρ, As, hl, k, r, go => by
    cases xs with
    | nil => simp at hl
    | cons x xs =>
      obtain ⟨v, us, B, C2, rfl, k1, k2, hc⟩ := k.uncons
      have e1 : B = [] := List.eq_nil_iff_forall_not_mem.mpr fun a ha => by
        have h1 := List.count_pos_iff.mpr ha; have h2 := hc a; simp at h2; omega
      have e2 : C2 = [] := List.eq_nil_iff_forall_not_mem.mpr fun a ha => by
        have h1 := List.count_pos_iff.mpr ha; have h2 := hc a; simp at h2; omega
      subst e1; subst e2
      refine ⟨v, us, rfl, ?_⟩
      refine names_env (by simpa using hl) k2 (r.set (i := i) k1) fun σ' As' r' h1 h2 h3 => ?_
      refine go σ' As' r' (fun j hj => ?_) (fun a => ?_) (by rw [h3]; simp)
      · simp only [List.mem_cons, not_or] at hj
        obtain ⟨g1, g2, g3⟩ := h1 j hj.2
        exact ⟨by rw [g1, List.getElem?_set_ne (Ne.symm hj.1)], by rw [List.zip_cons_cons, List.foldl_cons, g2, List.getElem?_set_ne (Ne.symm hj.1)], by rw [g3, List.getElem?_set_ne (Ne.symm hj.1)]⟩
      · have := h2 a; have h4 := own_setL As [] i a; rw [List.count_nil] at h4; omega
theorem bind_env {tg : Tg} {x : D} {v : V} {ρ' : Env} {Q : L2.St → Hp → Prop} (k : Rep w F H v x []) (sm : Same F H) (e : bindT tg x ρ = some ρ') (r : EnvR w F H σ ρ As)
    (go : ∀ σ' As', EnvR w F H σ' ρ' As' → (∀ j, j ∉ tgs tg → σ'[j]? = σ[j]? ∧ ρ'[j]? = ρ[j]? ∧ As'[j]? = As[j]?) → (∀ a, own As' a ≤ own As a) → σ'.length = σ.length → Q σ' H) : tgG w.K tg v σ H Q := by
  cases tg with
  | nm i =>
    simp only [bindT, Option.some.injEq] at e
    subst e
    exact go _ _ (r.set (i := i) k) (fun j hj => by
      have ne : i ≠ j := fun z => hj (by simp [tgs, z])
      exact ⟨List.getElem?_set_ne ne, List.getElem?_set_ne ne, List.getElem?_set_ne ne⟩) (fun a => by have := own_setL As [] i a; rw [List.count_nil] at this; omega) (by simp)
  | tp is =>
    cases x with
    | tup xs =>
      simp only [bindT] at e
      split at e
      · rename_i hl
        simp only [Option.some.injEq] at e
        subst e
        cases k with
        | tup k1 k2 _ => exact ⟨_, _, rfl, sqT_mono sm k1, by rw [k2.len, hl], names_env hl k2 r go⟩
      · cases e
    | _ => simp [bindT] at e
/-- what a turn leaves when its own variables are forgotten -/
theorem Post.scope {tg : Tg} (q : Post w σ2 F2 H2 ρ2 As2 F3 H3 ρ3 As3 C2) (r : EnvR w F2 H2 σ ρ As) (ho : ∀ a, own As2 a ≤ own As a) (ht : ∀ i ∈ tgs tg, i ∈ own_) (hs : ∀ j, j ∉ tgs tg → σ2[j]? = σ[j]? ∧ ρ2[j]? = ρ[j]? ∧ As2[j]? = As[j]?) (hl : σ2.length = σ.length) :
    Post w σ F2 H2 ρ As F3 H3 (wipeE ρ3 own_) (wipeA As3 own_) C2 := by
  have le := own_wipe As3 own_
  have ns : ∀ j, j ∉ own_ → j ∉ tgs tg := fun j hj z => hj (ht j z)
  refine ⟨q.sF, q.sH, q.same, q.env.wiped hl.symm own_ fun j hj => ((hs j (ns j hj)).1).symm, fun a => by have := le a; have := q.uni a; omega, fun a h => q.off a (by have := le a; omega), fun a h => ?_, fun a h1 h2 => ?_, fun a h => q.there a (by have := le a; omega), fun i => ?_⟩
  · rcases q.old a (by have := le a; omega) with z | z
    · exact .inl (by have := ho a; omega)
    · exact .inr z
  · rcases q.new a h1 h2 with z | z
    · exact .inl (by have := ho a; omega)
    · exact .inr z
  · have l3 : ρ3.length = ρ.length := by rw [← q.env.len.1, hl, r.len.1]
    have a3 : As3.length = ρ.length := by rw [q.env.len.2, l3]
    rw [SlotR, wipeE_at, wipeA_at]
    by_cases h : i ∈ own_
    · by_cases hi : i < ρ.length
      · rw [if_pos ⟨h, by omega⟩, if_pos ⟨h, by omega⟩]
        exact .inr (.inr ⟨rfl, rfl⟩)
      · rw [if_neg fun z => hi (by have := z.2; omega), if_neg fun z => hi (by have := z.2; omega)]
        exact .inl ⟨by rw [List.getElem?_eq_none (by omega), List.getElem?_eq_none (by omega)], by rw [List.getElem?_eq_none (by omega), List.getElem?_eq_none (by have := r.len.2; omega)]⟩
    · rw [if_neg fun z => h z.1, if_neg fun z => h z.1]
      have := q.slots i
      rw [SlotR, (hs i (ns i h)).2.1, (hs i (ns i h)).2.2] at this
      exact this
theorem Post.poke {a : Addr} {o : HO} (p : Post w σ F H ρ As F1 H1 ρ1 As1 C) (hC : 0 < C.count a) (hn : H a = none) : Post w σ F H ρ As F1 (upd H1 a o) ρ1 As1 C := by
  have nF : F1 a = none := p.off a (by omega)
  have no : own As1 a = 0 := by have := p.uni a; omega
  have up : ∀ b, H1 b ≠ none → upd H1 a o b ≠ none := fun b h => by
    by_cases e : b = a
    · subst e; rw [upd_same]; simp
    · rw [upd_ne e]; exact h
  exact { p with
    sH := fun b u h => by rw [upd_ne fun e => by subst e; rw [hn] at h; cases h]; exact p.sH b u h
    same := fun b u h => by rw [upd_ne fun e => by subst e; rw [nF] at h; cases h]; exact p.same b u h
    env := p.env.mono (Same.refl _) fun b h => upd_ne fun e => by subst e; omega
    there := fun b h => up b (p.there b h) }
end
end SL
set_option Elab.async false
set_option linter.all false
set_option maxRecDepth 100000
set_option maxHeartbeats 1000000
/-! SLLd: list comprehensions, the rule. -/
namespace SL
open PySem L2

section
variable {T : NT} {W0 : World0} {w0 w : Wd} {fa : Nat → Addr} {cv : Nat → Value} {S : Sem} {h : Bool} {k : Nat} {W : WX} {X : Cx} {pos p p2 apos : Pos}
variable {own_ : List Nat} {elt : Ex} {tg : Tg} {ik : Ik} {ie : List Ex} {cs : List Tx}

def tCv (S : Sem) (h : Bool) (w : Wd) (W : WX) (cs : List Tx) : TT := fun σ H Q => ∃ F ρ As, Pre w F H σ ρ As ∧ Fin rpB w σ W F H ρ As (evalC S h cs ρ) Q
theorem PTs.of {X : Cx} {ifs : List Expr} {t t' : TT} (h : PTs X ifs t) (k : ∀ σ H Q, t' σ H Q → t σ H Q) : PTs X ifs t' := ⟨fun pins s σ H Q I q => h.run pins s σ H Q I (k _ _ _ q)⟩
theorem snd_c0 : PTs X [] (tCv S h w W []) := PTs.of pts_nil fun σ H Q ⟨F, ρ, As, pr, q⟩ => by
  rw [evalC] at q
  exact q true F H As [] pr.post ⟨rfl, rfl⟩
theorem snd_c1 {c : Expr} {t : Tx} (hc : PT X c (tTv S h w W t)) : PTs X [c] (tCv S h w W [t]) := PTs.of (pts_one hc) fun σ H Q ⟨F, ρ, As, pr, q⟩ => ⟨F, ρ, As, pr, by rw [evalC] at q; exact q⟩
theorem it_bind {α : Type} {keep : Nat → Bool} {ρ : Env} {kk : List D → Env → Res α} : ((evalEs S h ie ρ).bind fun rs ρ => (iterR ik rs keep ρ).bind fun items ρ => kk items ρ) = (itM S h ik ie keep ρ).bind fun x ρ => kk x.2 ρ := by
  unfold itM
  cases evalEs S h ie ρ with
  | bad => rfl
  | exc c xs ρ' => rfl
  | ok rs ρ1 =>
    simp only [Res.bind_ok]
    cases iterR ik rs keep ρ1 <;> rfl
/-- the reading of a comprehension -/
theorem comp_read {own : List (Str × Nat)} (hv : own.map (·.2) = own_) (ht : ∀ i ∈ tgs tg, i ∈ own_) {σ : L2.St} {H : Hp} {Q : VK} (q0 : tEv S false w W (.comp own_ elt tg ik ie cs) σ H Q) :
    tLc (tItv S false w W ik ie (fun _ => true)) (tgG w.K tg) (tCv S false w WF cs) (tEv S false w WF elt) (own.map (·.2)) σ H Q := by
  obtain ⟨F, ρ, As, pr, q⟩ := q0
  rw [hv]
  rw [evalE] at q
  simp only [Bool.false_eq_true, if_false] at q
  rw [it_bind (α := R) (kk := fun items ρ => (compL own_ tg (evalC S false cs) (evalE S false elt) items [] (wipeE ρ own_)).bind fun acc ρ => .ok (.val (.lst true acc)) ρ)] at q
  refine ⟨F, ρ, As, pr, q.bind0 fun it ρ1 J F1 H1 As1 C1 e1 p1 k1 q1 => ?_⟩
  obtain ⟨rfl, K, jk, hK⟩ := k1
  obtain ⟨rs, items⟩ := it
  simp only at jk hK q1
  intro D0 hD
  -- the start of the turns
  have pw := p1.wipe own_
  have lw : (wipe σ own_).length = σ.length := wipe_length σ own_
  have ew : ∀ {F' H' : Hp} {ρ' : Env} {As' : List (List Addr)}, EnvR w F' H' σ ρ' As' → (∀ j, j ∈ own_ → ∀ d, ρ'[j]? ≠ some (some d)) → EnvR w F' H' (wipe σ own_) ρ' As' := fun r hn => r.swap lw fun i d e => by
    rw [wipe_at, if_neg]
    exact fun z => hn i z.1 d e
  have ew' : ∀ {F' H' : Hp} {ρ' : Env} {As' : List (List Addr)}, EnvR w F' H' (wipe σ own_) ρ' As' → (∀ j, j ∈ own_ → ∀ d, ρ'[j]? ≠ some (some d)) → EnvR w F' H' σ ρ' As' := fun r hn => r.swap lw.symm fun i d e => by
    rw [wipe_at, if_neg]
    exact fun z => hn i z.1 d e
  have hno : ∀ (ρ' : Env), ∀ j, j ∈ own_ → ∀ d, (wipeE ρ' own_)[j]? ≠ some (some d) := fun ρ' j hj d e => by
    rw [wipeE_at] at e
    split at e
    · cases e
    · rename_i hc
      have := (List.getElem?_eq_some_iff.mp e).1
      exact hc ⟨hj, this⟩
  -- the invariant
  refine ⟨fun i m H' => m = items.length - i ∧ i ≤ items.length ∧ ∃ F' ρ' As' B accV accD, Post w (wipe σ own_) F1 H1 (wipeE ρ1 own_) (wipeA As1 own_) F' H' (wipeE ρ' own_) As' (D0 :: B) ∧ H' D0 = some (.lst accV) ∧ RepL w F' H' accV accD B ∧
    Fin (rpR w) w σ W F H ρ As ((compL own_ tg (evalC S false cs) (evalE S false elt) (items.drop i) accD (wipeE ρ' own_)).bind fun acc ρ => .ok (.val (.lst true acc)) ρ) Q,
    ⟨items.length, by simp, Nat.zero_le _, F1, ρ1, wipeA As1 own_, [], [], [], ?_, upd_same, .nil, q1⟩, ?_⟩
  · have b0 : Post w (wipe σ own_) F1 H1 (wipeE ρ1 own_) (wipeA As1 own_) F1 H1 (wipeE ρ1 own_) (wipeA As1 own_) [] := Pre.post ⟨pw.same, ew pw.env (hno ρ1), fun a => by have := pw.uni a; omega, fun a h => pw.off a (by omega)⟩
    exact b0.alloc (o := .lst []) hD
  · rintro i m H2 ⟨rfl, hi, F2, ρ2, As2, B, accV, accD, p2, hacc, kacc, q2⟩
    have hK2 : K H2 := hK H2 (fun a o e => p2.same a o (p2.sF a o e)) fun j A _ hA b hb => by
      have := own_get hA b
      obtain ⟨o, e, _⟩ := p1.env.there b (by omega)
      rw [e]; exact p2.sH b o e
    have uD : (D0 :: B).count D0 ≤ 1 := by have := p2.uni D0; omega
    have nB : B.count D0 = 0 := by simp only [List.count_cons, beq_self_eq_true, if_true] at uD; omega
    by_cases hlt : i < items.length
    · have e : items.drop i = items[i] :: items.drop (i + 1) := List.drop_eq_getElem_cons hlt
      rw [e, compL] at q2
      refine .inr ⟨jk.go i H2 hlt hK2, fun H' => ∃ F' ρ' As' B accV accD, Post w (wipe σ own_) F1 H1 (wipeE ρ1 own_) (wipeA As1 own_) F' H' (wipeE ρ' own_) As' (D0 :: B) ∧ H' D0 = some (.lst accV) ∧ RepL w F' H' accV accD B ∧
        Fin (rpR w) w σ W F H ρ As ((compL own_ tg (evalC S false cs) (evalE S false elt) (items.drop (i + 1)) accD (wipeE ρ' own_)).bind fun acc ρ => .ok (.val (.lst true acc)) ρ) Q,
        fun H' ⟨F', ρ', As', B, aV, aD, z⟩ => ⟨_, by omega, rfl, hlt, F', ρ', As', B, aV, aD, z⟩, fun v H3 y => ?_⟩
      cases eb : bindT tg items[i] (wipeE ρ2 own_) with
      | none => rw [eb] at q2; exact q2.elim
      | some ρ3 =>
        rw [eb] at q2
        simp only at q2
        have main : ∀ (Nx : Hp → Prop), (∀ H' F' ρ' As' B accV accD, Post w (wipe σ own_) F1 H1 (wipeE ρ1 own_) (wipeA As1 own_) F' H' (wipeE ρ' own_) As' (D0 :: B) → H' D0 = some (.lst accV) → RepL w F' H' accV accD B →
            Fin (rpR w) w σ W F H ρ As ((compL own_ tg (evalC S false cs) (evalE S false elt) (items.drop (i + 1)) accD (wipeE ρ' own_)).bind fun acc ρ => .ok (.val (.lst true acc)) ρ) Q → Nx H') →
            ∀ F3, Post w (wipe σ own_) F1 H1 (wipeE ρ1 own_) (wipeA As1 own_) F3 H3 (wipeE ρ2 own_) As2 (D0 :: B) → H3 D0 = some (.lst accV) → RepL w F3 H3 accV accD B → Rep w F3 H3 v items[i] [] →
            tgG w.K tg v (wipe σ own_) H3 fun σ2 H2 => wipe σ2 own_ = wipe σ own_ ∧ tCv S false w WF cs σ2 H2 fun b H3 =>
              if b = true then tEv S false w WF elt σ2 H3 fun y H4 => ∃ acc, H4 D0 = some (.lst acc) ∧ acc.length < sizeLine ∧ Nx (upd H4 D0 (.lst (acc ++ [y]))) else Nx H3 := by
          intro Nx hNx F3 p3 ha3 ka3 k3
          refine bind_env k3 p3.same eb p3.env fun σ4 As4 r4 g1 g2 g3 => ⟨?_, ?_⟩
          · apply List.ext_getElem?
            intro j
            rw [wipe_at, wipe_at, g3, lw]
            by_cases hj : j ∈ own_ ∧ j < σ.length
            · rw [if_pos hj, if_pos hj]
            · rw [if_neg hj, if_neg hj]
              have : j ∉ tgs tg ∨ ¬ j < σ.length := by
                by_cases c : j ∈ own_
                · exact .inr fun z => hj ⟨c, z⟩
                · exact .inl fun z => c (ht j z)
              rcases this with z | z
              · rw [(g1 j z).1, wipe_at, if_neg hj]
              · rw [List.getElem?_eq_none (by rw [g3, lw]; omega), List.getElem?_eq_none (by omega)]
          · have pr4 : Pre w F3 H3 σ4 ρ3 As4 := ⟨p3.same, r4, fun a => by have := g2 a; have := p3.uni a; omega, fun a h => p3.off a (by have := g2 a; omega)⟩
            have scope_ : ∀ {F5 H5 : Hp} {ρ5 : Env} {As5 : List (List Addr)} {C5 : List Addr}, Post w σ4 F3 H3 ρ3 As4 F5 H5 ρ5 As5 C5 → Post w (wipe σ own_) F1 H1 (wipeE ρ1 own_) (wipeA As1 own_) F5 H5 (wipeE ρ5 own_) (wipeA As5 own_) ((D0 :: B) ++ C5) := fun q5 =>
              p3.trans (q5.scope p3.env g2 ht g1 g3)
            refine ⟨F3, ρ3, As4, pr4, ?_⟩
            cases ec : evalC S false cs ρ3 with
            | bad => rw [ec] at q2; exact q2.elim
            | exc c xs ρ' => rw [ec] at q2; exact q2.elim
            | ok b ρ4 =>
              rw [ec] at q2
              intro b' F4 H4 As4' C4 p4 kb
              obtain ⟨rfl, rfl⟩ := kb
              have ha4 : H4 D0 = some (.lst accV) := p4.sH _ _ ha3
              have ka4 : RepL w F4 H4 accV accD B := Rep.up ka3 p4.lift
              cases b' with
              | false =>
                simp only [Bool.false_eq_true, if_false] at q2 ⊢
                have s4 := scope_ p4
                rw [List.append_nil] at s4
                exact hNx H4 F4 ρ4 _ B accV accD s4 ha4 ka4 q2
              | true =>
                simp only [if_true] at q2 ⊢
                refine ⟨F4, ρ4, As4', p4.pre, ?_⟩
                cases ee : evalE S false elt ρ4 with
                | bad => rw [ee] at q2; exact q2.elim
                | exc c xs ρ' => rw [ee] at q2; exact q2.elim
                | ok r ρ5 =>
                  rw [ee] at q2
                  simp only [Res.bind_ok] at q2
                  intro y F5 H5 As5 C5 p5 k5
                  cases es : settle r ρ5 with
                  | bad => rw [es] at q2; exact q2.elim
                  | exc c xs ρ' => exact absurd es (settle_ne _ _ _)
                  | ok d ρ6 =>
                    rw [es] at q2
                    simp only at q2
                    obtain ⟨F6, As6, t, k6⟩ := settle_ok p5.pre k5 es
                    split at q2
                    · rename_i hz
                      have p6 := (p4.trans (p5.trans t)).weak (C' := C5) fun a => by simp
                      have s6 := scope_ p6
                      have ha5 : H5 D0 = some (.lst accV) := p5.sH _ _ ha4
                      have ka6 : RepL w F6 H5 accV accD B := Rep.up (Rep.up ka4 p5.lift) t.lift
                      have u6 : C5.count D0 = 0 := by
                        have := s6.uni D0
                        simp only [List.count_append, List.count_cons, beq_self_eq_true, if_true] at this
                        omega
                      refine ⟨accV, ha5, by rw [ka6.len]; exact hz, ?_⟩
                      have pk := s6.poke (a := D0) (o := .lst (accV ++ [y])) (by simp [List.count_append, List.count_cons]) hD
                      exact hNx _ F6 ρ6 _ (B ++ C5) (accV ++ [y]) (accD ++ [d]) (pk.weak fun a => by simp only [List.count_append, List.count_cons]; omega) upd_same
                        ((ka6.mono (Same.refl _) fun b hb => upd_ne fun e => by subst e; omega).app (k6.mono (Same.refl _) fun b hb => upd_ne fun e => by subst e; omega)) q2
                    · exact q2.elim
        rcases jk.yld i H2 v H3 items[i] (List.getElem?_eq_getElem hlt) hK2 y with ⟨rfl, r⟩ | ⟨a, ws, ds, o9, rfl, hn, to9, rfl, ed, r⟩
        · exact main _ (fun H' F' ρ' As' B aV aD z1 z2 z3 z4 => ⟨F', ρ', As', B, aV, aD, z1, z2, z3, z4⟩) F2 p2 hacc kacc (r F2 _ p2.sF)
        · obtain ⟨pa, la⟩ := p2.allocF (o := .frz o9 (.tup ws)) hn
          have nD : D0 ≠ a := fun e => by rw [e, hn] at hacc; cases hacc
          refine main _ (fun H' F' ρ' As' B aV aD z1 z2 z3 z4 => ⟨F', ρ', As', B, aV, aD, z1, z2, z3, z4⟩) _ pa (by rw [upd_ne nD]; exact hacc) (Rep.up kacc la) ?_
          rw [ed]
          exact .tup (.inl ⟨o9, upd_same, to9⟩) (r _ _ pa.sF) .nil
    · have e : i = items.length := by omega
      subst e
      rw [List.drop_length, compL] at q2
      refine .inl ⟨jk.stop _ H2 (Nat.le_refl _) hK2, ?_⟩
      have pf := p2.env' (ew' p2.env (hno ρ2))
      exact q2 (.ref D0) F2 H2 As2 (D0 :: B) ((pw.trans pf).weak (by simp)) (.val (by have := RepL.lstO hacc kacc RepL.nil; simpa using this))
/-- the block's context -/
theorem xf_blk (x : XF T W0 w0 w fa cv S false k W X) {scope : Scope} (s : Shared) (H : Hp) (C : Addr) (cl : List (Str × Addr)) (fp : List Addr) : XF T W0 w0 w fa cv S false k WF (X.blk s H scope (compEnvC scope cl C X.env) fp) :=
  { pr := x.pr, prog := x.prog, wd := x.wd, mg := x.mg, base := x.base, K := x.K, like := x.like, hx := x.hx, units := x.units, room := x.room, hot := (fun z => nomatch z), hxp := (fun a c d e => by rw [x.hx rfl] at e; cases e), tk := takes_no _, fn := x.fn, fm := x.fm, fp := x.fp, nw := x.nw, rz := x.rz }
variable {eltE te iter : Expr} {ifs : List Expr} {scope : Scope} {own : List (Str × Nat)}
/-- what of a comprehension's block must hold -/
def BlkS (T : NT) (W0 : World0) (w0 w : Wd) (fa : Nat → Addr) (cv : Nat → Value) (S : Sem) (k : Nat) (X : Cx) (scope : Scope) (te : Expr) (tg : Tg) (ifs : List Expr) (cs : List Tx) (eltE : Expr) (elt : Ex) : Prop :=
  ∀ X' : Cx, XF T W0 w0 w fa cv S false k WF X' → X'.N = X.N → X'.env.scope = relS scope X.env.scope → (X'.fn = fun x => scope.names.lookup x == some .cell) → PG X' te (tgG w.K tg) ∧ PTs X' ifs (tCv S false w WF cs) ∧ PE X' eltE (tEv S false w WF elt)
theorem snd_comp (x : XF T W0 w0 w fa cv S false k W X) (hN : X.N.Nodup) (ok : BlkOk X.N X.env.scope scope own) (hv : own.map (·.2) = own_) (ht : ∀ i ∈ tgs tg, i ∈ own_)
    (hi : PI X te iter (tItv S false w W ik ie (fun _ => true))) (hs : noSet iter = true) (hb : BlkS T W0 w0 w fa cv S k X scope te tg ifs cs eltE elt) :
    PE X (.ListComp eltE [⟨te, iter, ifs, 0⟩] scope pos) (tEv S false w W (.comp own_ elt tg ik ie cs)) := by
  have blk := fun s H C cl fp => hb _ (xf_blk x (scope := scope) s H C cl fp) rfl rfl rfl
  exact PE.of (pe_lc (x.room rfl).2 hN hi ok (fun s H C cl fp => (blk s H C cl fp).1) (fun s H C cl fp => (blk s H C cl fp).2.1) (fun s H C cl fp => (blk s H C cl fp).2.2) (fs_no hs)) fun σ H Q q => comp_read hv ht q
/-- name = [..] -/
theorem snd_setLc (g : XS T W0 w0 w fa cv S false k W X) {i : Nat} {y : Str} {py : Pos} (hi0 : X.N[i]? = some y) (hy : X.env.scope.names.lookup y = some .local) (hl : (py.line == p.line) = true) (ha : (scope.names.any fun (n, k) => n == y && (k == .local || k == .cell)) = false)
    (ok : BlkOk X.N X.env.scope scope own) (hv : own.map (·.2) = own_) (ht : ∀ i ∈ tgs tg, i ∈ own_)
    (hi : PI X te iter (tItv S false w W ik ie (fun _ => true))) (hs : noSet iter = true) (hb : BlkS T W0 w0 w fa cv S k X scope te tg ifs cs eltE elt) :
    PS X (.Assign [.Name y py] (.ListComp eltE [⟨te, iter, ifs, 0⟩] scope p) pos) (tSv S false w W (.set i (.comp own_ elt tg ik ie cs))) := by
  have blk := fun s H C cl fp => hb _ (xf_blk g.f (scope := scope) s H C cl fp) rfl rfl rfl
  refine PS.of (ps_setLc (g.f.room rfl).2 g.nd hi0 hy (sw_true g.fk hy hl ha) hi ok (fun s H C cl fp => (blk s H C cl fp).1) (fun s H C cl fp => (blk s H C cl fp).2.1) (fun s H C cl fp => (blk s H C cl fp).2.2) (fs_no hs)) fun Dn σ H ⟨F, ρ, As, pr, q⟩ => ?_
  rw [evalS] at q
  refine comp_read hv ht (FinS.kept pr q fun d ρ2 v F2 H2 As2 C p1 k1 q1 => ?_)
  have hn : d.noX = true := by have := RepL.noX (g.f.hx rfl) k1; simpa [D.noXL] using this
  exact q1 (σ.set i (some v)) F2 H2 (As2.set i C) ((Post.spost pr p1).set k1 hn (by simp) (rbs_mem (by simp)) (.inr fun e => rbs_big (by simp [e])))
/-- a captured name: stored behind it -/
theorem sw_cell {elt : Expr} {gs : List Comprehension} {p py : Pos} {y : Str} {l : Nat} {env : PySem.Env} (hy : env.scope.names.lookup y = some .cell) : swapsWith (.ListComp elt gs scope p) (some (.Name y py)) l env = pure false := by
  have ky : env.kindOf y = some .cell := hy
  unfold swapsWith
  simp only [ky]
  have e : (NameKind.cell == NameKind.local) = false := rfl
  simp [e]
theorem snd_setLcC (g : XS T W0 w0 w fa cv S false k W X) {i : Nat} {y : Str} {py : Pos} {a : Ex} {gs : List Comprehension} (hi0 : X.N[i]? = some y) (hy : X.env.scope.names.lookup y = some .cell) (he : PE X (.ListComp eltE gs scope p) (tEv S false w W a)) :
    PS X (.Assign [.Name y py] (.ListComp eltE gs scope p) pos) (tSv S false w W (.set i a)) := by
  refine PS.of (ps_set g.nd hi0 (.inr hy) he (sw_cell hy) (.inl (g.fnt y))) fun Dn σ H ⟨F, ρ, As, pr, q⟩ => ?_
  rw [evalS] at q
  refine FinS.kept pr q fun d ρ2 v F2 H2 As2 C p1 k1 q1 => ?_
  have hn : d.noX = true := by have := RepL.noX (g.f.hx rfl) k1; simpa [D.noXL] using this
  exact q1 (σ.set i (some v)) F2 H2 (As2.set i C) ((Post.spost pr p1).set k1 hn (by simp) (rbs_mem (by simp)) (.inr fun e => rbs_big (by simp [e])))
end
end SL
set_option Elab.async false
set_option linter.all false
set_option maxRecDepth 100000
set_option maxHeartbeats 1000000
/-! SLM1: list comprehensions of any number of clauses: the turns of a clause. -/
namespace SL
open PySem PySem.Spec PyProof.Rows L2
section
variable {prog : Program} {w : World} {A : Around} {R : Result → Shared → Prop} {s : Shared} {elt t i t1 i1 : Expr} {ifs ifs1 : List Expr} {gs : List Comprehension} {scope : Scope} {pos : Pos} {it acc : Value} {env : PySem.Env} {k : Nat}
/-- the tests of a clause -/
abbrev testsM (ifs : List Expr) (env : PySem.Env) : PySem.Sem Bool := forIn ifs true fun c b => if b = true then (isTrue c env (eval c env) >>= fun z => pure (ForInStep.yield z)) else pure (ForInStep.yield b)
/-- behind an item: the target, the tests, then P -/
abbrev itemM (prog : Program) (w : World) (A : Around) (t : Expr) (ifs : List Expr) (it v : Value) (env : PySem.Env) (P : Bool → Shared → Prop) (Ex : Value → Shared → Prop) (s : Shared) : Prop :=
  wpAny (model prog w) A (letOwnedTupleGo t it v) (fun _ a => wpAny (model prog w) A (assign t env v) (fun _ b => wpAny (model prog w) A (testsM ifs env) P Ex b) Ex a) Ex s
/-- the tail of a turn of the last clause -/
abbrev lastM (elt : Expr) (acc : Value) (env : PySem.Env) (again_ : PySem.Sem PySem.Fin) : PySem.Sem PySem.Fin := (eval elt env >>= fun x => call (.builtin "list.append") [acc, x] >>= fun _ => pure ()) >>= fun _ => again_
/-- .. of another one: i1 is the next clause's source, c its start -/
abbrev nextM (i1 : Expr) (env : PySem.Env) (c : Value → Code) (again_ : PySem.Sem PySem.Fin) : PySem.Sem PySem.Fin :=
  eval i1 env >>= fun x => standAt i1.pos >>= fun _ => foldedSetIterable i1 env x >>= fun y => holding [y] (pyIter y) >>= fun z => runOwn (c z) env >>= fun _ => again_
abbrev turnM (t i : Expr) (ifs : List Expr) (it : Value) (env : PySem.Env) (tail again_ : PySem.Sem PySem.Fin) : PySem.Sem PySem.Fin :=
  standAt i.pos >>= fun _ => pyNext it >>= fun r => match r with
    | none => pure (.done .next)
    | some v => letOwnedTupleGo t it v >>= fun _ => assign t env v >>= fun _ => testsM ifs env >>= fun ok => if ok = true then tail else again_
theorem lc_turn_last (hk : gs[k]? = some ⟨t, i, ifs, 0⟩) (hn : gs[k + 1]? = none) : compTurn (.ListComp elt gs scope pos) k it acc env = turnM t i ifs it env (lastM elt acc env (again (.compLoop (.ListComp elt gs scope pos) k it acc env))) (again (.compLoop (.ListComp elt gs scope pos) k it acc env)) := by
  unfold compTurn
  simp only [hk, hn]
  rfl
theorem lc_turn_next (hk : gs[k]? = some ⟨t, i, ifs, 0⟩) (hn : gs[k + 1]? = some ⟨t1, i1, ifs1, 0⟩) : compTurn (.ListComp elt gs scope pos) k it acc env = turnM t i ifs it env (nextM i1 env (fun z => .compStart (.ListComp elt gs scope pos) (k + 1) z acc env) (again (.compLoop (.ListComp elt gs scope pos) k it acc env))) (again (.compLoop (.ListComp elt gs scope pos) k it acc env)) := by
  unfold compTurn
  simp only [hk, hn]
  rfl
/-- a clause's loop: turn by turn; tailP: what the tail leaves -/
theorem lc_loop {tail : PySem.Sem PySem.Fin} (he : compTurn (.ListComp elt gs scope pos) k it acc env = turnM t i ifs it env tail (again (.compLoop (.ListComp elt gs scope pos) k it acc env))) (I : Nat → Shared → Prop)
    (turn : ∀ n s, I n s → wpAny (model prog w) A (pyNext it) (fun r a => match r with
      | none => R (.ok .next) a
      | some v => itemM prog w A t ifs it v env (fun ok b => if ok = true then wpAny (model prog w) A tail (fun fin c => fin = .again (.compLoop (.ListComp elt gs scope pos) k it acc env) ∧ ∃ m, m < n ∧ I m c) (notedBy (model prog w) A env fun e c => R (.error e) c) b else ∃ m, m < n ∧ I m b) (notedBy (model prog w) A env fun e c => R (.error e) c) a) (notedBy (model prog w) A env fun e c => R (.error e) c) s)
    (n : Nat) (h : I n s) : codeAny (model prog w) A (.compLoop (.ListComp elt gs scope pos) k it acc env) R s := by
  refine codeAny_loop rfl I (fun n s hI => ?_) n h
  show wpAny _ A ((compTurn (.ListComp elt gs scope pos) k it acc env).onRaise (fun x => do noteFrame x env; theTreesLotGoes x)) _ _ s
  refine wpAny_noted ?_
  rw [he]
  refine wpAny_bind (wpAny_standAt (wpAny_bind (wpAny_mono (turn n s hI) (fun r a h1 => ?_) fun _ _ z => z)))
  cases r with
  | none => exact wpAny_pure h1
  | some v =>
    refine wpAny_bind (wpAny_mono h1 (fun _ b h2 => ?_) fun _ _ z => z)
    refine wpAny_bind (wpAny_mono h2 (fun _ b h3 => wpAny_bind (wpAny_mono h3 (fun ok c h4 => ?_) fun _ _ z => z)) fun _ _ z => z)
    cases ok with
    | false => exact wpAny_pure ⟨rfl, h4⟩
    | true =>
      simp only [if_true] at h4 ⊢
      exact wpAny_mono h4 (fun fin d ⟨e1, h5⟩ => by subst e1; exact ⟨rfl, h5⟩) fun _ _ z => z
/-- the last clause's tail -/
theorem lastM_ok {P : Shared → Prop} {Ex : Value → Shared → Prop} {c : Code} (h : wpAny (model prog w) A (eval elt env) (fun x a => wpAny (model prog w) A (call (.builtin "list.append") [acc, x]) (fun _ b => P b) Ex a) Ex s) :
    wpAny (model prog w) A (lastM elt acc env (again c)) (fun fin b => fin = .again c ∧ P b) Ex s :=
  wpAny_bind (wpAny_bind (wpAny_mono h (fun x a h1 => wpAny_bind (wpAny_mono h1 (fun _ b h2 => wpAny_pure (wpAny_pure ⟨rfl, h2⟩)) fun _ _ z => z)) fun _ _ z => z))
/-- another one's -/
theorem nextM_ok {P : Shared → Prop} {Ex : Value → Shared → Prop} {c : Code} {d : Value → Code} (hs : ∀ x, foldedSetIterable i1 env x = pure x)
    (h : wpAny (model prog w) A (eval i1 env) (fun x a => wpAny (model prog w) A (pyIter x) (fun y b => codeAny (model prog w) A (d y) (fun r e => match r with | .ok _ => P e | .error _ => False) b) Ex a) Ex s) :
    wpAny (model prog w) A (nextM i1 env d (again c)) (fun fin b => fin = .again c ∧ P b) Ex s := by
  refine wpAny_bind (wpAny_mono h (fun x a h1 => ?_) fun _ _ z => z)
  refine wpAny_bind (wpAny_standAt (wpAny_bind (wpAny_of_eq (hs x) (wpAny_bind (wpAny_holding (wpAny_mono h1 (fun y b h2 => ?_) fun _ _ z => z))))))
  refine wpAny_bind (wpAny_runOwn ?_)
  rw [Around.mark_none]
  refine codeAny_mono h2 fun r e h3 => ?_
  cases r with
  | ok f => exact wpAny_pure ⟨rfl, h3⟩
  | error e => exact h3.elim
/-- a clause's start -/
theorem lc_start (hk : gs[k]? = some ⟨t, i, ifs, 0⟩) (h0 : codeAny (model prog w) A (.compLoop (.ListComp elt gs scope pos) k it acc env) R s)
    (h : wpAny (model prog w) A (pyIter it) (fun it' a => codeAny (model prog w) A (.compLoop (.ListComp elt gs scope pos) k it' acc env) R a) (notedBy (model prog w) A env fun x a => R (.error x) a) s) :
    codeAny (model prog w) A (.compStart (.ListComp elt gs scope pos) k it acc env) R s := by
  refine codeAny_of_tree ?_
  show wpAny _ _ ((compStart (.ListComp elt gs scope pos) k it acc env).onRaise (fun x => do noteFrame x env; standAt theWindowsPlace)) _ _ s
  refine wpAny_notedAt ?_
  unfold compStart
  have hc : clausesOf (.ListComp elt gs scope pos) = gs := rfl
  simp only [hc, hk]
  show wpAny _ _ (ask >>= _) _ _ s
  refine wpAny_bind (wpAny_askSetting (wpAny_ite ?_))
  split
  · first
      | exact wpAny_bind (wpAny_pure (wpAny_pure (And.intro rfl h0)))
      | exact wpAny_pure (And.intro rfl h0)
  · first
      | exact wpAny_bind (wpAny_rule (wpAny_bind (wpAny_standAt (wpAny_bind (wpAny_mono h (fun it' s' h' => wpAny_pure (And.intro rfl h')) fun _ _ x => x)))))
      | (refine wpAny_bind (wpAny_rule ?_); refine wpAny_bind (wpAny_standAt ?_); exact wpAny_bind (wpAny_mono h (fun it' s' h' => wpAny_pure (And.intro rfl h')) fun _ _ x => x))
end
end SL
set_option Elab.async false
set_option linter.all false
set_option maxRecDepth 100000
set_option maxHeartbeats 2000000
/-! SLM2: list comprehensions of any number of clauses: the rule. -/
namespace SL
open PySem PySem.Spec PyProof.Rows L2
abbrev TB := Addr → L2.St → Hp → (Hp → Prop) → Prop
/-- the tail of clause k's turn -/
def tailM (elt : Expr) (gs : List Comprehension) (scope : Scope) (pos : Pos) (k : Nat) (it acc : Value) (env : PySem.Env) : PySem.Sem PySem.Fin := match gs[k + 1]? with
  | none => lastM elt acc env (again (.compLoop (.ListComp elt gs scope pos) k it acc env))
  | some g => nextM g.iter env (fun z => .compStart (.ListComp elt gs scope pos) (k + 1) z acc env) (again (.compLoop (.ListComp elt gs scope pos) k it acc env))
/-- in a block's context: tb is enough for clause k's tail; vs: the names of the clauses behind it -/
def TailOk (Xb : Cx) (elt : Expr) (gs : List Comprehension) (scope : Scope) (pos : Pos) (k : Nat) (vs : List Nat) (tb : TB) : Prop :=
  ∀ (D : Addr) (it : Value) (pins : List (Addr × Obj)) (s : Shared) (σ : L2.St) (H : Hp) (Nx : Hp → Prop), Inv Xb pins σ H s → tb D σ H Nx →
    wpAny (model Xb.prog Xb.w) Xb.A (tailM elt gs scope pos k it (.ref D) Xb.env) (fun fin s' => fin = .again (.compLoop (.ListComp elt gs scope pos) k it (.ref D) Xb.env) ∧ ∃ H', Inv Xb pins (wipe σ vs) H' s' ∧ Nx H') (fun _ _ => False) s
theorem TailOk.of {Xb : Cx} {elt : Expr} {gs : List Comprehension} {scope : Scope} {pos : Pos} {k : Nat} {vs : List Nat} {tb tb' : TB} (h : TailOk Xb elt gs scope pos k vs tb) (hk : ∀ D σ H Nx, tb' D σ H Nx → tb D σ H Nx) : TailOk Xb elt gs scope pos k vs tb' := fun D it pins s σ H Nx I q => h D it pins s σ H Nx I (hk _ _ _ _ q)
def lastB (te : TE) : TB := fun D σ H Nx => te σ H fun y H1 => ∃ acc, H1 D = some (.lst acc) ∧ acc.length < sizeLine ∧ Nx (upd H1 D (.lst (acc ++ [y])))
/-- the turns of a clause within another one's turn -/
def turnsB (g : TG) (tt : TT) (vs : List Nat) (tb : TB) (D : Addr) (σ : L2.St) (J : It) (Nx : Hp → Prop) (W : Nat → Nat → Hp → Prop) : Prop := ∀ j m H, W j m H →
  (J.stop j H ∧ Nx H) ∨ (J.go j H ∧ ∃ Nx1 : Hp → Prop, (∀ H', Nx1 H' → ∃ m', m' < m ∧ W (j + 1) m' H') ∧ ∀ x H', J.yld j H x H' → g x (wipe σ vs) H' fun σ1 H1 => wipe σ1 vs = wipe σ vs ∧ tt σ1 H1 fun b H2 => if b = true then tb D σ1 H2 Nx1 else Nx1 H2)
def nextB (wi : TI) (g : TG) (tt : TT) (vs : List Nat) (tb : TB) : TB := fun D σ H Nx => wi σ H fun J H4 => ∃ W : Nat → Nat → Hp → Prop, (∃ m, W 0 m H4) ∧ turnsB g tt vs tb D σ J Nx W
section
variable {Xb : Cx} {elt t1 i1 : Expr} {ifs1 : List Expr} {gs : List Comprehension} {scope : Scope} {pos : Pos} {k : Nat} {vs vs1 : List Nat} {tb : TB} {te : TE} {wi : TI} {g : TG} {tt : TT}
theorem tail_last (hx : Xb.xe = fun _ _ => False) (hn : gs[k + 1]? = none) (pe : PE Xb elt te) : TailOk Xb elt gs scope pos k [] (lastB te) := fun D it pins s σ H Nx I q => by
  unfold tailM
  rw [hn]
  refine lastM_ok ?_
  have r := pe.run pins s σ H _ I q
  rw [hx] at r
  refine thnF r fun z a ⟨yv, H1, I1, r1, acc, hD, hz, nx⟩ => ?_
  exact app_ok (X := Xb) I1 hD hz r1 fun b I2 => ⟨_, I2, nx⟩
/-- the loop of an inner clause -/
theorem turn_of (ha : ∀ g ∈ gs, g.is_async = 0) (hk : gs[k]? = some ⟨t1, i1, ifs1, 0⟩) {it acc : Value} {env : PySem.Env} : compTurn (.ListComp elt gs scope pos) k it acc env = turnM t1 i1 ifs1 it env (tailM elt gs scope pos k it acc env) (again (.compLoop (.ListComp elt gs scope pos) k it acc env)) := by
  unfold tailM
  cases e : gs[k + 1]? with
  | none => exact lc_turn_last hk e
  | some gg =>
    obtain ⟨t2, i2, ifs2, as2⟩ := gg
    have z := ha _ (List.mem_of_getElem? e)
    simp only at z
    subst z
    exact lc_turn_next hk e
theorem inner_loop (ha : ∀ g ∈ gs, g.is_async = 0) (hx : Xb.xe = fun _ _ => False) (hc : Xb.calm = true) (hk : gs[k]? = some ⟨t1, i1, ifs1, 0⟩) (pg : PG Xb t1 g) (pt : PTs Xb ifs1 tt) (hv : ∀ i ∈ vs, i ∈ vs1) (T : TailOk Xb elt gs scope pos k vs tb)
    {D it : Addr} {fp : List Addr} {tn : Nat → Heap → Prop} {J : It} {pins : List (Addr × Obj)} {s : Shared} {σ : L2.St} {H : Hp} {Nx : Hp → Prop} {W : Nat → Nat → Hp → Prop} {m0 : Nat} {R : Result → Shared → Prop}
    (Ty : Turn Xb.prog Xb.w Xb.K t1 J fp it tn) (f0 : ∀ b ∈ fp, FpOk Xb pins H b) (I : Inv Xb pins σ H s) (st : tn 0 s.heap) (w0 : W 0 m0 H) (q : turnsB g tt vs1 tb D σ J Nx W)
    (fin : ∀ s' H', Inv Xb pins (wipe σ vs1) H' s' → Nx H' → R (.ok .next) s') :
    codeAny (model Xb.prog Xb.w) Xb.A (.compLoop (.ListComp elt gs scope pos) k (.ref it) (.ref D) Xb.env) R s := by
  have stat : ∀ {H' : Hp}, (∀ b ∈ fp, H' b = none) → ∀ b ∈ fp, FpOk Xb pins H' b := fun hn b hb => ⟨hn b hb, (f0 b hb).2⟩
  have he : compTurn (.ListComp elt gs scope pos) k (.ref it) (.ref D) Xb.env = turnM t1 i1 ifs1 (.ref it) Xb.env (tailM elt gs scope pos k (.ref it) (.ref D) Xb.env) (again (.compLoop (.ListComp elt gs scope pos) k (.ref it) (.ref D) Xb.env)) := by
    exact turn_of ha hk
  refine lc_loop he (fun m a => ∃ j H', Inv Xb pins (wipe σ vs1) H' a ∧ tn j a.heap ∧ (∀ b ∈ fp, H' b = none) ∧ W j m H') ?_ m0 ⟨0, H, I.weak (wipe_length _ _) (fun j v e => (wipe_some e).1), st, fun b hb => (f0 b hb).1, w0⟩
  rintro m a ⟨j, H1, I1, st1, n1, w1⟩
  rcases q j m H1 w1 with ⟨stop, nx⟩ | ⟨go, Nx1, hNx, step⟩
  · refine thnF (Ty.done Xb rfl rfl rfl hc j _ a (wipe σ vs1) H1 (fun _ _ => False) I1 (stat n1) st1 stop) fun r b ⟨hr, I2⟩ => ?_
    subst hr
    exact fin b H1 I2 nx
  · refine thnF (Ty.item Xb rfl rfl rfl hc j _ a (wipe σ vs1) H1 (fun _ _ => False) I1 (stat n1) st1 go) fun r b ⟨u, hr, h2⟩ => ?_
    subst hr
    refine thnF h2 fun _ c ⟨x, H2, I2, r2, y2, st2, n2⟩ => ?_
    have I2' := I2.pinned (stat n2) (Ty.obj _ _ st2)
    have rg := pg.run _ c (wipe σ vs1) H2 x u _ I2' r2 (step x H2 y2)
    rw [hx] at rg
    refine thnF rg fun _ d ⟨σ3, H3, I3, hw3, q3⟩ => ?_
    have rt := pt.run _ d σ3 H3 _ I3 q3
    rw [hx] at rt
    refine thnF rt fun ok e ⟨H4, I4, q4⟩ => ?_
    have back : ∀ {σ9 : L2.St} {s' : Shared} {H' : Hp}, Inv Xb (pins ++ pinsAt fp c.heap) σ9 H' s' → σ9.length = σ3.length → (∀ (i : Nat) v, (wipe σ vs1)[i]? = some (some v) → σ9[i]? = some (some v)) → Nx1 H' → ∃ m', m' < m ∧ ∃ j H', Inv Xb pins (wipe σ vs1) H' s' ∧ tn j s'.heap ∧ (∀ b ∈ fp, H' b = none) ∧ W j m' H' := fun {σ9 s' H'} I' hl hk nx => by
      obtain ⟨m', hm, w'⟩ := hNx H' nx
      have pin' : ∀ b ∈ fp, ∀ o, c.heap.get? b = some o → s'.heap.get? b = some o ∧ H' b = none := fun b hb o e =>
        let z := I'.pin (b, o) (List.mem_append_right _ (List.mem_append_right _ (mem_pinsAt hb e)))
        ⟨z.1, z.2.1⟩
      refine ⟨m', hm, j + 1, H', I'.unpinned.weak (by rw [hl, ← wipe_length σ3 vs1, hw3]) hk, Ty.keep _ _ _ st2 fun b hb o e => (pin' b hb o e).1, fun b hb => ?_, w'⟩
      obtain ⟨o, e, _⟩ := Ty.obj _ _ st2 b hb
      exact (pin' b hb o e).2
    have k3 : ∀ (i : Nat) v, (wipe σ vs1)[i]? = some (some v) → i ∉ vs1 ∧ σ3[i]? = some (some v) := fun i v e => by
      rw [← hw3] at e
      exact ⟨(wipe_some e).2, (wipe_some e).1⟩
    cases ok with
    | false =>
      simp only [Bool.false_eq_true, if_false] at q4 ⊢
      exact back I4 rfl (fun i v e => (k3 i v e).2) q4
    | true =>
      simp only [if_true] at q4 ⊢
      have rt := T D (.ref it) _ e σ3 H4 Nx1 I4 q4
      refine thnF rt fun fn f ⟨e1, H5, I5, nx⟩ => ⟨e1, back I5 (wipe_length _ _) (fun i v e => ?_) nx⟩
      obtain ⟨n, e⟩ := k3 i v e
      rw [wipe_out fun z => n (hv i z)]
      exact e
theorem tail_next (ha : ∀ g ∈ gs, g.is_async = 0) (hx : Xb.xe = fun _ _ => False) (hc : Xb.calm = true) (hk : gs[k + 1]? = some ⟨t1, i1, ifs1, 0⟩) (pi : PI Xb t1 i1 wi) (pg : PG Xb t1 g) (pt : PTs Xb ifs1 tt) (hs : ∀ env x, foldedSetIterable i1 env x = pure x)
    (hv : ∀ i ∈ vs, i ∈ vs1) (T : TailOk Xb elt gs scope pos (k + 1) vs tb) : TailOk Xb elt gs scope pos k vs1 (nextB wi g tt vs1 tb) := fun D it pins s σ H Nx I q => by
  unfold tailM
  rw [hk]
  refine nextM_ok (hs _) ?_
  have r := pi.run pins s σ H _ I q
  rw [hx] at r
  refine thnF r fun v a h1 => thnF h1 fun y b h2 => ?_
  obtain ⟨it1, fp, tn, J, H1, e1, I1, Ty, st1, f1, W, ⟨m0, w0⟩, q1⟩ := h2
  subst e1
  have lp := inner_loop ha hx hc hk pg pt hv T Ty f1 I1 st1 w0 q1 (R := fun r s' => match r with | .ok _ => ∃ H', Inv Xb pins (wipe σ vs1) H' s' ∧ Nx H' | .error _ => False) fun s' H' I' nx => ⟨H', I', nx⟩
  exact lc_start hk lp (Ty.self Xb.A 0 _ _ _ st1 lp)
end
section
variable {X : Cx}
/-- the whole -/
def tLcM (wi : TI) (g : TG) (tt : TT) (vs : List Nat) (tb : TB) : TE := fun σ H Q => wi σ H fun J H1 => ∀ D, H1 D = none → ∃ W : Nat → Nat → Hp → Prop, (∃ m, W 0 m (upd H1 D (.lst []))) ∧ turnsB g tt vs tb D σ J (Q (.ref D)) W
theorem lcM_core {pins : List (Addr × Obj)} {s : Shared} {σ : L2.St} {H : Hp} {Q : VK} {elt tg iter : Expr} {ifs : List Expr} {rest : List Comprehension} {scope : Scope} {own : List (Str × Nat)} {vs : List Nat} {pos pos' : Pos} {wi : TI} {g : TG} {tt : TT} {tb : TB} {use : Option (Value → PySem.Sem Unit)} {Qf : Value → Shared → Prop}
    (ha : ∀ g ∈ rest, g.is_async = 0) (hc : X.calm = true) (hN : X.N.Nodup) (I : Inv X pins σ H s) (hi : PI X tg iter wi) (ok : BlkOk X.N X.env.scope scope own) (hv : ∀ i ∈ vs, i ∈ own.map (·.2)) (hs : ∀ x, foldedSetIterable iter X.env x = pure x)
    (hb : ∀ (s : Shared) (H : Hp) (C : Addr) (cl : List (Str × Addr)) (fp : List Addr), PG (X.blk s H scope (compEnvC scope cl C X.env) fp) tg g ∧ PTs (X.blk s H scope (compEnvC scope cl C X.env) fp) ifs tt ∧ TailOk (X.blk s H scope (compEnvC scope cl C X.env) fp) elt (⟨tg, iter, ifs, 0⟩ :: rest) scope pos 0 vs tb)
    (h : tLcM wi g tt (own.map (·.2)) tb σ H Q)
    (hRR : ∀ D C s' m H', Inv X pins σ H' s' → Q (.ref D) H' → s'.heap.Ns C m → FpOk X pins H' C → compPost (model X.prog X.w) X.A X.xe use Qf (.ref D) C (.ok .next) s') :
    wpAny (model X.prog X.w) X.A (comprehension (.ListComp elt (⟨tg, iter, ifs, 0⟩ :: rest) scope pos) scope X.env pos' (newList []) false (eval iter X.env) use) Qf X.xe s := by
  have hfree : ∀ y ∈ scope.names, y.2 = .free → ∃ c, X.env.cells.lookup y.1 = some c := fun y hy e => I.ok.has _ (ok.free y hy e)
  have ha' : ∀ g ∈ (⟨tg, iter, ifs, 0⟩ :: rest : List Comprehension), g.is_async = 0 := fun g hg => by
    rcases List.mem_cons.mp hg with rfl | hg
    · rfl
    · exact ha g hg
  refine wpAny_comprehension_free (use := use) rfl hs (closure_ok hfree) ok.kind (fun y hy e => by rw [ok.uniq y hy, e]) (thn (hi.run pins s σ H _ I h) fun xv s1 hx => thn hx fun itv s2 h2 => ?_)
  obtain ⟨it, fp, tn, J, H2, e, I2, Ty, st2, f2, q⟩ := h2
  subst e
  refine wpAny_newObj_type (newEnv_comp ?_) (by show 0 ≤ sizeLine; decide)
  generalize hD : s2.heap.objs.size = D
  obtain ⟨W, ⟨m0, w0⟩, turns⟩ := q D (I2.hok.fresh (Nat.le_of_eq hD))
  generalize hs3 : ({ s2 with heap := s2.heap.push { cls := .type "list", data := .seq ([] : List Value).toArray } } : Shared) = s3
  have h3 : s3.heap = s2.heap.push { cls := .type "list", data := .seq ([] : List Value).toArray } := by rw [← hs3]
  have I3 : Inv X pins σ (upd H2 D (.lst [])) s3 := by
    rw [← hs3]
    refine I2.laid (t' := s2.toks) (fun b o e => Heap.get?_push_of_some _ e) (Nat.le_of_eq hD) ⟨Nat.zero_le _, [], 0, .nil, ?_⟩
    rw [← hD]
    exact Heap.get?_push_size _ rfl
  have f3 : ∀ b ∈ fp, FpOk X pins (upd H2 D (.lst [])) b ∧ b < s3.heap.objs.size := fun b hb => by
    obtain ⟨o, e, _⟩ := Ty.obj _ _ st2 b hb
    have hlt := Heap.lt_size e
    refine ⟨⟨?_, (f2 b hb).2⟩, by rw [h3, Heap.size_push]; exact Nat.lt_succ_of_lt hlt⟩
    rw [upd_ne (by rw [← hD]; exact Nat.ne_of_lt hlt)]
    exact (f2 b hb).1
  have I4 := block_start I3 ok hN f3
  obtain ⟨pg, pt, T⟩ := hb s3 (upd H2 D (.lst [])) s3.heap.objs.size (cellsFrom (s3.heap.objs.size + 1) scope.names (cloFrom X.env.cells scope.names [])) fp
  show codeAny _ _ (.compStart (.ListComp elt (⟨tg, iter, ifs, 0⟩ :: rest) scope pos) 0 (.ref it) (.ref D) (compEnvC scope (cellsFrom (s3.heap.objs.size + 1) scope.names (cloFrom X.env.cells scope.names [])) s3.heap.objs.size X.env)) (compPost (model X.prog X.w) X.A X.xe use Qf (.ref D) s3.heap.objs.size) { s3 with heap := pushCells (s3.heap.push { cls := .type "dict", data := .dict #[] }) scope.names }
  have st3 : tn 0 s3.heap := Ty.keep _ _ _ st2 fun b _ o e => by rw [h3]; exact Heap.get?_push_of_some _ e
  generalize hce : compEnvC scope (cellsFrom (s3.heap.objs.size + 1) scope.names (cloFrom X.env.cells scope.names [])) s3.heap.objs.size X.env = ce at I4 pg pt T ⊢
  have cL : ce.locals = s3.heap.objs.size := by subst hce; rfl
  generalize hH3 : upd H2 D (.lst []) = H3 at I3 I4 pg pt T w0 f3
  generalize hs4 : ({ s3 with heap := pushCells (s3.heap.push { cls := .type "dict", data := .dict #[] }) scope.names } : Shared) = s4 at I4 ⊢
  have st4 : tn 0 s4.heap := Ty.keep _ _ _ st3 fun b _ o e => by rw [← hs4]; exact pushCells_keeps _ _ _ _ (Heap.get?_push_of_some _ e)
  have ww : wipe (wipe σ (own.map (·.2))) (own.map (·.2)) = wipe σ (own.map (·.2)) := by
    apply List.ext_getElem?
    intro j
    rw [wipe_at, wipe_at, wipe_length]
    split
    · rfl
    · rfl
  have loop : codeAny (model X.prog X.w) X.A (.compLoop (.ListComp elt (⟨tg, iter, ifs, 0⟩ :: rest) scope pos) 0 (.ref it) (.ref D) ce) (compPost (model X.prog X.w) X.A X.xe use Qf (.ref D) s3.heap.objs.size) s4 := by
    refine inner_loop (Xb := X.blk s3 H3 scope ce fp) (σ := wipe σ (own.map (·.2))) (vs1 := own.map (·.2)) (Nx := Q (.ref D)) ha' rfl hc rfl pg pt hv T Ty ?_ I4 st4 w0 ?_ ?_
    · exact fun b hb => ⟨(f3 b hb).1.1, (I4.ok.exf b hb).1, I4.ok.exfs b hb, .inl hb, fun x c e => (I4.ok.exf b hb).2 x c e, fun p hp => absurd (show p ∈ ([] : List (Addr × Obj)) ++ [] from hp) (by simp)⟩
    · unfold turnsB at turns ⊢
      rw [ww]
      exact turns
    · intro s6 H5 I6 qq
      rw [ww] at I6
      have I7 : Inv X pins σ H5 s6 := I3.call' (ch := fp) I6.os I6.base I6.hok I6.bare fun b hb => ⟨(f3 b hb).1.2.2.2.1, (f3 b hb).1.2.1, (f3 b hb).1.2.2.2.2.1, (f3 b hb).1.2.2.2.2.2⟩
      have nC : H5 s3.heap.objs.size = none := by
        have z : H5 ce.locals = none := I6.free
        rw [cL] at z
        exact z
      obtain ⟨m, hn, _⟩ := I6.loc
      have hn : s6.heap.Ns ce.locals m := hn
      rw [cL] at hn
      exact hRR D s3.heap.objs.size s6 m H5 I7 qq hn (I3.fpOk (Nat.le_refl _) nC)
  exact codeAny_compStart_list loop (Ty.self X.A 0 _ _ _ st4 loop)
theorem pe_lcM {elt tg iter : Expr} {ifs : List Expr} {rest : List Comprehension} {scope : Scope} {own : List (Str × Nat)} {vs : List Nat} {pos : Pos} {wi : TI} {g : TG} {tt : TT} {tb : TB} (ha : ∀ g ∈ rest, g.is_async = 0) (hc : X.calm = true) (hN : X.N.Nodup) (hi : PI X tg iter wi) (ok : BlkOk X.N X.env.scope scope own) (hv : ∀ i ∈ vs, i ∈ own.map (·.2)) (hs : ∀ x, foldedSetIterable iter X.env x = pure x)
    (hb : ∀ (s : Shared) (H : Hp) (C : Addr) (cl : List (Str × Addr)) (fp : List Addr), PG (X.blk s H scope (compEnvC scope cl C X.env) fp) tg g ∧ PTs (X.blk s H scope (compEnvC scope cl C X.env) fp) ifs tt ∧ TailOk (X.blk s H scope (compEnvC scope cl C X.env) fp) elt (⟨tg, iter, ifs, 0⟩ :: rest) scope pos 0 vs tb) :
    PE X (.ListComp elt (⟨tg, iter, ifs, 0⟩ :: rest) scope pos) (tLcM wi g tt (own.map (·.2)) tb) := by
  refine ⟨fun pins s σ H Q I h => ?_⟩
  rw [eval_ListComp]
  refine lcM_core ha hc hN I hi ok hv hs hb h fun D C s' m H' I' q hn f => ⟨m, hn, fun h'' sb => ?_⟩
  obtain ⟨f0, f1, f2, f3, f4, f5⟩ := f
  exact ⟨.ref D, H', I'.turned (t' := s'.toks) (fun b o hb e => (sb.2 b hb).trans e) f0 f1 f3 f4 f5, rfl, q⟩
end
end SL
set_option Elab.async false
set_option linter.all false
set_option maxRecDepth 100000
set_option maxHeartbeats 1000000
/-! SLM3: list comprehensions of any number of clauses: soundness. -/
namespace SL
open PySem L2
/-- what a turn's tail leaves: D is the new list, B what its items own -/
structure PostD (w : Wd) (σ : L2.St) (D : Addr) (F H : Hp) (ρ : Env) (As : List (List Addr)) (B : List Addr) (F' H' : Hp) (ρ' : Env) (As' : List (List Addr)) (B' : List Addr) : Prop where
  sF : Same F F'
  sH : ∀ a o, a ≠ D → H a = some o → H' a = some o
  same : Same F' H'
  env : EnvR w F' H' σ ρ' As'
  uni : ∀ a, own As' a + (D :: B').count a ≤ 1
  off : ∀ a, 0 < own As' a + (D :: B').count a → F' a = none
  old : ∀ a, 0 < own As' a + (D :: B').count a → 0 < own As a + (D :: B).count a ∨ H a = none
  new : ∀ a, F a = none → F' a ≠ none → 0 < own As a + (D :: B).count a ∨ H a = none
  there : ∀ a, 0 < own As' a + (D :: B').count a → H' a ≠ none
  slots : ∀ i, SlotR F' ρ ρ' As As' i
section
variable {w : Wd} {F H F1 H1 F2 H2 F3 H3 : Hp} {σ σ1 σ2 : L2.St} {ρ ρ1 ρ2 ρ3 : Env} {As As1 As2 As3 : List (List Addr)} {B B1 B2 B3 C : List Addr} {D : Addr}
theorem PostD.trans (p : PostD w σ D F H ρ As B F1 H1 ρ1 As1 B1) (q : PostD w σ1 D F1 H1 ρ1 As1 B1 F2 H2 ρ2 As2 B2) : PostD w σ1 D F H ρ As B F2 H2 ρ2 As2 B2 where
  sF := p.sF.trans q.sF
  sH := fun a o n h => q.sH a o n (p.sH a o n h)
  same := q.same
  env := q.env
  uni := q.uni
  off := q.off
  old := fun a h => by
    rcases q.old a h with z | z
    · exact p.old a z
    · by_cases e : a = D
      · subst e; exact .inl (by simp only [List.count_cons, beq_self_eq_true, if_true]; omega)
      · cases e2 : H a with
        | none => exact .inr rfl
        | some o => rw [p.sH a o e e2] at z; cases z
  new := fun a h1 h2 => by
    by_cases e : F1 a = none
    · rcases q.new a e h2 with z | z
      · exact p.old a z
      · by_cases e : a = D
        · subst e; exact .inl (by simp only [List.count_cons, beq_self_eq_true, if_true]; omega)
        · cases e2 : H a with
          | none => exact .inr rfl
          | some o => rw [p.sH a o e e2] at z; cases z
    · exact p.new a h1 e
  there := q.there
  slots := fun i => (p.slots i).trans q.sF (q.slots i)
/-- from before the list was made -/
theorem PostD.post (p : Post w σ F H ρ As F1 H1 ρ1 As1 (D :: B)) (hD : H D = none) (q : PostD w σ1 D F1 H1 ρ1 As1 B F2 H2 ρ2 As2 B2) : Post w σ1 F H ρ As F2 H2 ρ2 As2 (D :: B2) where
  sF := p.sF.trans q.sF
  sH := fun a o h => q.sH a o (fun e => by subst e; rw [hD] at h; cases h) (p.sH a o h)
  same := q.same
  env := q.env
  uni := q.uni
  off := q.off
  old := fun a h => by
    rcases q.old a h with z | z
    · exact p.old a z
    · cases e2 : H a with
      | none => exact .inr rfl
      | some o => rw [p.sH a o e2] at z; cases z
  new := fun a h1 h2 => by
    by_cases e : F1 a = none
    · rcases q.new a e h2 with z | z
      · exact p.old a z
      · cases e2 : H a with
        | none => exact .inr rfl
        | some o => rw [p.sH a o e2] at z; cases z
    · exact p.new a h1 e
  there := q.there
  slots := fun i => (p.slots i).trans q.sF (q.slots i)
/-- where a list is being made -/
structure PreD (w : Wd) (D : Addr) (F H : Hp) (σ : L2.St) (ρ : Env) (As : List (List Addr)) (B : List Addr) : Prop where
  same : Same F H
  env : EnvR w F H σ ρ As
  uni : ∀ a, own As a + (D :: B).count a ≤ 1
  off : ∀ a, 0 < own As a + (D :: B).count a → F a = none
  there : ∀ a, 0 < own As a + (D :: B).count a → H a ≠ none
theorem PreD.pre (p : PreD w D F H σ ρ As B) : Pre w F H σ ρ As := ⟨p.same, p.env, fun a => by have := p.uni a; omega, fun a h => p.off a (by omega)⟩
theorem PreD.refl (p : PreD w D F H σ ρ As B) : PostD w σ D F H ρ As B F H ρ As B := ⟨Same.refl F, fun _ _ _ h => h, p.same, p.env, p.uni, p.off, fun a h => .inl h, fun a h1 h2 => absurd h1 h2, p.there, fun i => .inl ⟨rfl, rfl⟩⟩
theorem PostD.pre (p : PostD w σ D F H ρ As B F1 H1 ρ1 As1 B1) : PreD w D F1 H1 σ ρ1 As1 B1 := ⟨p.same, p.env, p.uni, p.off, p.there⟩
/-- an expression's step; C is kept for the list -/
theorem PreD.step (p : PreD w D F H σ ρ As B) (q : Post w σ F H ρ As F1 H1 ρ1 As1 C) : PostD w σ D F H ρ As B F1 H1 ρ1 As1 (B ++ C) := by
  have no : ∀ a, 0 < (D :: B).count a → own As1 a + C.count a = 0 := fun a h => by
    cases z : own As1 a + C.count a with
    | zero => rfl
    | succ n =>
      rcases q.old a (by omega) with y | y
      · have := p.uni a; omega
      · exact absurd y (p.there a (by omega))
  have cnt : ∀ a, (D :: (B ++ C)).count a = (D :: B).count a + C.count a := fun a => by rw [← List.cons_append, List.count_append]
  refine ⟨q.sF, fun a o _ h => q.sH a o h, q.same, q.env, fun a => ?_, fun a h => ?_, fun a h => ?_, fun a h1 h2 => ?_, fun a h => ?_, q.slots⟩
  · rw [cnt]
    by_cases h : 0 < (D :: B).count a
    · have := no a h; have := p.uni a; omega
    · have := q.uni a; omega
  · rw [cnt] at h
    by_cases h2 : 0 < (D :: B).count a
    · cases e : F1 a with
      | none => rfl
      | some o =>
        rcases q.new a (p.off a (by omega)) (by rw [e]; simp) with y | y
        · have := p.uni a; omega
        · exact absurd y (p.there a (by omega))
    · exact q.off a (by omega)
  · rw [cnt] at h
    by_cases h2 : 0 < (D :: B).count a
    · exact .inl (by omega)
    · rcases q.old a (by omega) with y | y
      · exact .inl (by omega)
      · exact .inr y
  · rcases q.new a h1 h2 with y | y
    · exact .inl (by omega)
    · exact .inr y
  · rw [cnt] at h
    by_cases h2 : 0 < (D :: B).count a
    · have := p.there a (by omega)
      cases e : H a with
      | none => exact absurd e this
      | some o => rw [q.sH a o e]; simp
    · exact q.there a (by omega)
/-- the list is changed -/
theorem PostD.poke {o : HO} (p : PostD w σ D F H ρ As B F1 H1 ρ1 As1 B1) : PostD w σ D F H ρ As B F1 (upd H1 D o) ρ1 As1 B1 := by
  have nF : F1 D = none := p.off D (by simp only [List.count_cons, beq_self_eq_true, if_true]; omega)
  have no : own As1 D = 0 := by have := p.uni D; simp only [List.count_cons, beq_self_eq_true, if_true] at this; omega
  exact { p with
    sH := fun b u n h => by rw [upd_ne n]; exact p.sH b u n h
    same := fun b u h => by rw [upd_ne fun e => by subst e; rw [nF] at h; cases h]; exact p.same b u h
    env := p.env.mono (Same.refl _) fun b h => upd_ne fun e => by subst e; omega
    there := fun b h => by
      by_cases e : b = D
      · subst e; rw [upd_same]; simp
      · rw [upd_ne e]; exact p.there b h }
/-- forgotten names -/
theorem PostD.wipe (p : PostD w σ D F H ρ As B F1 H1 ρ1 As1 B1) (vs : List Nat) : PostD w σ D F H ρ As B F1 H1 (wipeE ρ1 vs) (wipeA As1 vs) B1 := by
  have le := own_wipe As1 vs
  refine ⟨p.sF, p.sH, p.same, p.env.wiped rfl vs fun _ _ => rfl, fun a => by have := le a; have := p.uni a; omega, fun a h => p.off a (by have := le a; omega), fun a h => p.old a (by have := le a; omega), p.new, fun a h => p.there a (by have := le a; omega), fun i => ?_⟩
  rw [SlotR, wipeE_at, wipeA_at]
  by_cases h : i ∈ vs ∧ i < ρ1.length
  · rw [if_pos h, if_pos ⟨h.1, by rw [p.env.len.2]; exact h.2⟩]
    exact .inr (.inr ⟨rfl, rfl⟩)
  · rw [if_neg h, if_neg fun z => h ⟨z.1, by rw [← p.env.len.2]; exact z.2⟩]
    exact p.slots i
theorem PostD.env' (p : PostD w σ D F H ρ As B F1 H1 ρ1 As1 B1) (e : EnvR w F1 H1 σ1 ρ1 As1) : PostD w σ1 D F H ρ As B F1 H1 ρ1 As1 B1 := { p with env := e }
/-- what a turn leaves when its own names are forgotten -/
theorem PostD.scope {tg : Tg} {own_ : List Nat} (q : PostD w σ2 D F2 H2 ρ2 As2 B2 F3 H3 ρ3 As3 B3) (r : EnvR w F2 H2 σ ρ As) (ho : ∀ a, own As2 a ≤ own As a) (ht : ∀ i ∈ tgs tg, i ∈ own_) (hs : ∀ j, j ∉ tgs tg → σ2[j]? = σ[j]? ∧ ρ2[j]? = ρ[j]? ∧ As2[j]? = As[j]?) (hl : σ2.length = σ.length) :
    PostD w σ D F2 H2 ρ As B2 F3 H3 (wipeE ρ3 own_) (wipeA As3 own_) B3 := by
  have le := own_wipe As3 own_
  have ns : ∀ j, j ∉ own_ → j ∉ tgs tg := fun j hj z => hj (ht j z)
  refine ⟨q.sF, q.sH, q.same, q.env.wiped hl.symm own_ fun j hj => ((hs j (ns j hj)).1).symm, fun a => by have := le a; have := q.uni a; omega, fun a h => q.off a (by have := le a; omega), fun a h => ?_, fun a h1 h2 => ?_, fun a h => q.there a (by have := le a; omega), fun i => ?_⟩
  · rcases q.old a (by have := le a; omega) with z | z
    · exact .inl (by have := ho a; omega)
    · exact .inr z
  · rcases q.new a h1 h2 with z | z
    · exact .inl (by have := ho a; omega)
    · exact .inr z
  · have l3 : ρ3.length = ρ.length := by rw [← q.env.len.1, hl, r.len.1]
    have a3 : As3.length = ρ.length := by rw [q.env.len.2, l3]
    rw [SlotR, wipeE_at, wipeA_at]
    by_cases h : i ∈ own_
    · by_cases hi : i < ρ.length
      · rw [if_pos ⟨h, by omega⟩, if_pos ⟨h, by omega⟩]
        exact .inr (.inr ⟨rfl, rfl⟩)
      · rw [if_neg fun z => hi (by have := z.2; omega), if_neg fun z => hi (by have := z.2; omega)]
        exact .inl ⟨by rw [List.getElem?_eq_none (by omega), List.getElem?_eq_none (by omega)], by rw [List.getElem?_eq_none (by omega), List.getElem?_eq_none (by have := r.len.2; omega)]⟩
    · rw [if_neg fun z => h z.1, if_neg fun z => h z.1]
      have := q.slots i
      rw [SlotR, (hs i (ns i h)).2.1, (hs i (ns i h)).2.2] at this
      exact this
/-- a tuple that a turn makes is frozen at once -/
theorem PostD.allocF {q : Addr} {o : HO} (p : PostD w σ D F H ρ As B F1 H1 ρ1 As1 B1) (hq : H1 q = none) (hD : H1 D ≠ none) : PostD w σ D F H ρ As B (upd F1 q o) (upd H1 q o) ρ1 As1 B1 ∧ Lift F1 H1 ρ1 As1 (upd F1 q o) (upd H1 q o) ρ1 As1 := by
  have nF : F1 q = none := by
    cases e : F1 q with
    | none => rfl
    | some u => rw [p.same q u e] at hq; cases hq
  have qD : q ≠ D := fun e => by subst e; exact hD hq
  have no : ∀ a, 0 < own As1 a + (D :: B1).count a → a ≠ q := fun a h e => by subst e; exact p.there a h hq
  have sF1 : Same F1 (upd F1 q o) := fun a u h => by rw [upd_ne fun e => by subst e; rw [nF] at h; cases h]; exact h
  have sH1 : Same H1 (upd H1 q o) := fun a u h => by rw [upd_ne fun e => by subst e; rw [hq] at h; cases h]; exact h
  have sm : Same (upd F1 q o) (upd H1 q o) := fun a u h => by
    by_cases e : a = q
    · subst e; rw [upd_same] at h ⊢; exact h
    · rw [upd_ne e] at h ⊢; exact p.same a u h
  have sl : ∀ i, SlotR (upd F1 q o) ρ1 ρ1 As1 As1 i := fun i => .inl ⟨rfl, rfl⟩
  refine ⟨⟨p.sF.trans sF1, fun a u n h => sH1 a u (p.sH a u n h), sm, p.env.mono sF1 fun a h => upd_ne (no a (by omega)), p.uni, fun a h => by rw [upd_ne (no a h)]; exact p.off a h, p.old, fun a h1 h2 => ?_, fun a h => by rw [upd_ne (no a h)]; exact p.there a h, fun i => (p.slots i).trans sF1 (sl i)⟩, ⟨sF1, sH1, sm, sl⟩⟩
  by_cases e : a = q
  · subst e
    refine .inr ?_
    cases e2 : H a with
    | none => rfl
    | some u => rw [p.sH a u qD e2] at hq; cases hq
  · rw [upd_ne e] at h2
    exact p.new a h1 h2
end
end SL
set_option Elab.async false
set_option linter.all false
set_option maxRecDepth 100000
set_option maxHeartbeats 1000000
/-! SLM4: list comprehensions of any number of clauses: readings. -/
namespace SL
open PySem L2
/-- the evaluator's part behind a clause's tests -/
def tMv (w : Wd) (inner : List D → Env → Res (List D)) : TB := fun Da σ H Nx => ∃ F ρ As B accV accD acc' ρ', PreD w Da F H σ ρ As B ∧ H Da = some (.lst accV) ∧ RepL w F H accV accD B ∧ inner accD ρ = .ok acc' ρ' ∧
  ∀ F' H' As' B' accV', PostD w σ Da F H ρ As B F' H' ρ' As' B' → H' Da = some (.lst accV') → RepL w F' H' accV' acc' B' → Nx H'
theorem loopM_ne {vs : List Nat} {tg : Tg} {test : Env → Res Bool} {inner : List D → Env → Res (List D)} : ∀ {xs acc : List D} {ρ : Env} {c : Nat} {ys : List D} {ρ' : Env}, loopM vs tg test inner xs acc ρ ≠ .exc c ys ρ'
  | [], _, _, _, _, _, e => by rw [loopM] at e; cases e
  | x :: xs, acc, ρ, c, ys, ρ', e => by
    rw [loopM] at e
    split at e
    · cases e
    · split at e
      · split at e
        · exact loopM_ne e
        · cases e
      · exact loopM_ne e
      · cases e
section
variable {w : Wd} {S : Sem} {elt : Ex} {tg : Tg} {ik : Ik} {ie : List Ex} {cs : List Tx} {rest : List Cl} {inner : List D → Env → Res (List D)} {vs : List Nat}
theorem last_read {Da : Addr} {σ : L2.St} {H : Hp} {Nx : Hp → Prop} (q : tMv w (fun acc ρ => itemE (evalE S false elt ρ) acc) Da σ H Nx) : lastB (tEv S false w WF elt) Da σ H Nx := by
  obtain ⟨F, ρ, As, B, accV, accD, acc', ρ', pd, ha, ka, e, fin⟩ := q
  refine ⟨F, ρ, As, pd.pre, ?_⟩
  have e : itemE (evalE S false elt ρ) accD = .ok acc' ρ' := e
  unfold itemE at e
  cases ee : evalE S false elt ρ with
  | bad => rw [ee] at e; cases e
  | exc c xs ρ1 => rw [ee] at e; cases e
  | ok r ρ5 =>
    rw [ee, Res.bind_ok] at e
    intro y F5 H5 As5 C5 p5 k5
    cases es : settle r ρ5 with
    | bad => rw [es] at e; cases e
    | exc c xs ρ1 => exact absurd es (settle_ne _ _ _)
    | ok d ρ6 =>
      rw [es] at e
      simp only at e
      obtain ⟨F6, As6, t, k6⟩ := settle_ok p5.pre k5 es
      split at e
      · rename_i hz
        cases e
        have p6 := (p5.trans t).weak (C' := C5) fun a => by simp
        have ha5 : H5 Da = some (.lst accV) := p5.sH _ _ ha
        have ka6 : RepL w F6 H5 accV accD B := Rep.up (Rep.up ka p5.lift) t.lift
        have d6 := pd.step p6
        have u6 : (B ++ C5).count Da = 0 := by
          have := d6.uni Da
          simp only [List.count_cons, beq_self_eq_true, if_true] at this
          omega
        rw [List.count_append] at u6
        refine ⟨accV, ha5, by rw [ka6.len]; exact hz, ?_⟩
        exact fin F6 _ As6 (B ++ C5) (accV ++ [y]) d6.poke upd_same ((ka6.mono (Same.refl _) fun b hb => upd_ne fun e => by subst e; omega).app (k6.mono (Same.refl _) fun b hb => upd_ne fun e => by subst e; omega))
      · cases e
theorem turns_read (ht : ∀ i ∈ tgs tg, i ∈ vs) {Da : Addr} {σ : L2.St} {F1 H1 : Hp} {ρ1 : Env} {As1 : List (List Addr)} {B1 : List Addr} {accV1 : List V} {accD1 acc' : List D} {ρe : Env} {items : List D} {J : It} {K : Hp → Prop} {Nx : Hp → Prop}
    (jk : JOk w F1 J K items) (hK : ∀ H', Same F1 H' → (∀ (j : Nat) (A : List Addr), As1[j]? = some A → ∀ b, 0 < A.count b → H' b = H1 b) → K H') (pd : PreD w Da F1 H1 σ ρ1 As1 B1) (ha : H1 Da = some (.lst accV1)) (ka : RepL w F1 H1 accV1 accD1 B1)
    (e0 : loopM vs tg (evalC S false cs) inner items accD1 (wipeE ρ1 vs) = .ok acc' ρe)
    (fin : ∀ F' H' As' B' accV', PostD w σ Da F1 H1 ρ1 As1 B1 F' H' ρe As' B' → H' Da = some (.lst accV') → RepL w F' H' accV' acc' B' → Nx H') :
    ∃ W : Nat → Nat → Hp → Prop, (∃ m, W 0 m H1) ∧ turnsB (tgG w.K tg) (tCv S false w WF cs) vs (tMv w inner) Da σ J Nx W := by
  have lw : (wipe σ vs).length = σ.length := wipe_length σ vs
  have ew : ∀ {F' H' : Hp} {ρ' : Env} {As' : List (List Addr)}, EnvR w F' H' σ ρ' As' → (∀ j, j ∈ vs → ∀ d, ρ'[j]? ≠ some (some d)) → EnvR w F' H' (wipe σ vs) ρ' As' := fun r hn => r.swap lw fun i d e => by
    rw [wipe_at, if_neg]
    exact fun z => hn i z.1 d e
  have ew' : ∀ {F' H' : Hp} {ρ' : Env} {As' : List (List Addr)}, EnvR w F' H' (wipe σ vs) ρ' As' → (∀ j, j ∈ vs → ∀ d, ρ'[j]? ≠ some (some d)) → EnvR w F' H' σ ρ' As' := fun r hn => r.swap lw.symm fun i d e => by
    rw [wipe_at, if_neg]
    exact fun z => hn i z.1 d e
  have hno : ∀ (ρ' : Env), ∀ j, j ∈ vs → ∀ d, (wipeE ρ' vs)[j]? ≠ some (some d) := fun ρ' j hj d e => by
    rw [wipeE_at] at e
    split at e
    · cases e
    · rename_i hc
      have := (List.getElem?_eq_some_iff.mp e).1
      exact hc ⟨hj, this⟩
  have pw := pd.refl.wipe vs
  refine ⟨fun i m H' => m = items.length - i ∧ i ≤ items.length ∧ ∃ F' ρ' As' B accV accD, PostD w (wipe σ vs) Da F1 H1 (wipeE ρ1 vs) (wipeA As1 vs) B1 F' H' (wipeE ρ' vs) As' B ∧ H' Da = some (.lst accV) ∧ RepL w F' H' accV accD B ∧ loopM vs tg (evalC S false cs) inner (items.drop i) accD (wipeE ρ' vs) = .ok acc' ρe,
    ⟨items.length, by simp, Nat.zero_le _, F1, ρ1, wipeA As1 vs, B1, accV1, accD1, ?_, ha, ka, e0⟩, ?_⟩
  · exact PreD.refl ⟨pw.same, ew pw.env (hno ρ1), pw.uni, pw.off, pw.there⟩
  · rintro i m H2 ⟨rfl, hi, F2, ρ2, As2, B, accV, accD, p2, hacc, kacc, q2⟩
    have hDa : H2 Da ≠ none := by rw [hacc]; simp
    have hK2 : K H2 := hK H2 (fun a o e => p2.same a o (p2.sF a o e)) fun j A hA b hb => by
      have h1 := own_get hA b
      have h2 := pd.there b (by omega)
      have h3 : b ≠ Da := fun e => by
        subst e
        have := pd.uni b
        simp only [List.count_cons, beq_self_eq_true, if_true] at this
        omega
      obtain ⟨o, e⟩ := Option.ne_none_iff_exists'.mp h2
      rw [e]
      exact p2.sH b o h3 e
    by_cases hlt : i < items.length
    · have e : items.drop i = items[i] :: items.drop (i + 1) := List.drop_eq_getElem_cons hlt
      rw [e, loopM] at q2
      refine .inr ⟨jk.go i H2 hlt hK2, fun H' => ∃ F' ρ' As' B accV accD, PostD w (wipe σ vs) Da F1 H1 (wipeE ρ1 vs) (wipeA As1 vs) B1 F' H' (wipeE ρ' vs) As' B ∧ H' Da = some (.lst accV) ∧ RepL w F' H' accV accD B ∧ loopM vs tg (evalC S false cs) inner (items.drop (i + 1)) accD (wipeE ρ' vs) = .ok acc' ρe,
        fun H' ⟨F', ρ', As', B, aV, aD, z⟩ => ⟨_, by omega, rfl, hlt, F', ρ', As', B, aV, aD, z⟩, fun v H3 y => ?_⟩
      cases eb : bindT tg items[i] (wipeE ρ2 vs) with
      | none => rw [eb] at q2; cases q2
      | some ρ3 =>
        rw [eb] at q2
        simp only at q2
        have main : ∀ F3, PostD w (wipe σ vs) Da F1 H1 (wipeE ρ1 vs) (wipeA As1 vs) B1 F3 H3 (wipeE ρ2 vs) As2 B → H3 Da = some (.lst accV) → RepL w F3 H3 accV accD B → Rep w F3 H3 v items[i] [] →
            tgG w.K tg v (wipe σ vs) H3 fun σ1 H1' => wipe σ1 vs = wipe σ vs ∧ tCv S false w WF cs σ1 H1' fun b H2' =>
              if b = true then tMv w inner Da σ1 H2' (fun H' => ∃ F' ρ' As' B accV accD, PostD w (wipe σ vs) Da F1 H1 (wipeE ρ1 vs) (wipeA As1 vs) B1 F' H' (wipeE ρ' vs) As' B ∧ H' Da = some (.lst accV) ∧ RepL w F' H' accV accD B ∧ loopM vs tg (evalC S false cs) inner (items.drop (i + 1)) accD (wipeE ρ' vs) = .ok acc' ρe)
              else ∃ F' ρ' As' B accV accD, PostD w (wipe σ vs) Da F1 H1 (wipeE ρ1 vs) (wipeA As1 vs) B1 F' H2' (wipeE ρ' vs) As' B ∧ H2' Da = some (.lst accV) ∧ RepL w F' H2' accV accD B ∧ loopM vs tg (evalC S false cs) inner (items.drop (i + 1)) accD (wipeE ρ' vs) = .ok acc' ρe := by
          intro F3 p3 ha3 ka3 k3
          refine bind_env k3 p3.same eb p3.env fun σ4 As4 r4 g1 g2 g3 => ⟨?_, ?_⟩
          · apply List.ext_getElem?
            intro j
            rw [wipe_at, wipe_at, g3, lw]
            by_cases hj : j ∈ vs ∧ j < σ.length
            · rw [if_pos hj, if_pos hj]
            · rw [if_neg hj, if_neg hj]
              have : j ∉ tgs tg ∨ ¬ j < σ.length := by
                by_cases c : j ∈ vs
                · exact .inr fun z => hj ⟨c, z⟩
                · exact .inl fun z => c (ht j z)
              rcases this with z | z
              · rw [(g1 j z).1, wipe_at, if_neg hj]
              · rw [List.getElem?_eq_none (by rw [g3, lw]; omega), List.getElem?_eq_none (by omega)]
          · have pd4 : PreD w Da F3 H3 σ4 ρ3 As4 B := ⟨p3.same, r4, fun a => by have := g2 a; have := p3.uni a; omega, fun a h => p3.off a (by have := g2 a; omega), fun a h => p3.there a (by have := g2 a; omega)⟩
            refine ⟨F3, ρ3, As4, pd4.pre, ?_⟩
            cases ec : evalC S false cs ρ3 with
            | bad => rw [ec] at q2; cases q2
            | exc c xs ρ' => rw [ec] at q2; cases q2
            | ok b ρ4 =>
              rw [ec] at q2
              intro b' F4 H4 As4' C4 p4 kb
              obtain ⟨rfl, rfl⟩ := kb
              have ha4 : H4 Da = some (.lst accV) := p4.sH _ _ ha3
              have ka4 : RepL w F4 H4 accV accD B := Rep.up ka3 p4.lift
              have d4 := pd4.step p4
              rw [List.append_nil] at d4
              cases b' with
              | false =>
                simp only [Bool.false_eq_true, if_false] at q2 ⊢
                exact ⟨F4, ρ4, _, B, accV, accD, p3.trans (d4.scope p3.env g2 ht g1 g3), ha4, ka4, q2⟩
              | true =>
                simp only [if_true] at q2 ⊢
                cases ei : inner accD ρ4 with
                | bad => rw [ei] at q2; cases q2
                | exc c xs ρ' => rw [ei] at q2; cases q2
                | ok acc2 ρ5 =>
                  rw [ei] at q2
                  simp only at q2
                  exact ⟨F4, ρ4, As4', B, accV, accD, acc2, ρ5, d4.pre, ha4, ka4, ei, fun F' H' As' B' accV' q5 h1 h2 => ⟨F', ρ5, _, B', accV', acc2, p3.trans ((d4.trans q5).scope p3.env g2 ht g1 g3), h1, h2, q2⟩⟩
        rcases jk.yld i H2 v H3 items[i] (List.getElem?_eq_getElem hlt) hK2 y with ⟨rfl, r⟩ | ⟨a, ws, ds, o9, rfl, hn, to9, rfl, ed, r⟩
        · exact main F2 p2 hacc kacc (r F2 _ p2.sF)
        · obtain ⟨pa, la⟩ := p2.allocF (o := .frz o9 (.tup ws)) hn hDa
          have nD : Da ≠ a := fun e => by rw [e, hn] at hacc; cases hacc
          refine main _ pa (by rw [upd_ne nD]; exact hacc) (Rep.up kacc la) ?_
          rw [ed]
          exact .tup (.inl ⟨o9, upd_same, to9⟩) (r _ _ pa.sF) .nil
    · have e : i = items.length := by omega
      subst e
      rw [List.drop_length, loopM] at q2
      cases q2
      exact .inl ⟨jk.stop _ H2 (Nat.le_refl _) hK2, fin F2 H2 As2 B accV (pw.trans (p2.env' (ew' p2.env (hno ρ2)))) hacc kacc⟩
/-- an inner clause -/
theorem next_read {Da : Addr} {σ : L2.St} {H : Hp} {Nx : Hp → Prop} (q : tMv w (evalM S false (.mk tg ik ie cs :: rest) inner) Da σ H Nx) :
    nextB (tItv S false w WF ik ie (fun _ => true)) (tgG w.K tg) (tCv S false w WF cs) (tgs tg ++ vsOf rest) (tMv w (evalM S false rest inner)) Da σ H Nx := by
  obtain ⟨F, ρ, As, B, accV, accD, acc', ρ', pd, ha, ka, e, fin⟩ := q
  rw [evalM, it_bind] at e
  refine ⟨F, ρ, As, pd.pre, ?_⟩
  cases ee : itM S false ik ie (fun _ => true) ρ with
  | bad => rw [ee] at e; cases e
  | exc c xs ρ1 => rw [ee] at e; cases e
  | ok it ρ1 =>
    rw [ee, Res.bind_ok] at e
    intro J F1 H1 As1 C1 p1 k1
    obtain ⟨rfl, K, jk, hK⟩ := k1
    have d1 := pd.step p1
    rw [List.append_nil] at d1
    exact turns_read (fun i hi => List.mem_append_left _ hi) jk (fun H' s h => hK H' s fun j A _ hA => h j A hA) d1.pre (p1.sH _ _ ha) (Rep.up ka p1.lift) e fun F' H' As' B' accV' z h1 h2 => fin F' H' As' B' accV' (d1.trans z) h1 h2
/-- the whole -/
theorem compM_read {own_ : List Nat} {own : List (Str × Nat)} {W : WX} (hv : own.map (·.2) = own_) (ht : ∀ i ∈ tgs tg, i ∈ own_) {σ : L2.St} {H : Hp} {Q : VK} (q0 : tEv S false w W (.compM own_ elt tg ik ie cs rest) σ H Q) :
    tLcM (tItv S false w W ik ie (fun _ => true)) (tgG w.K tg) (tCv S false w WF cs) (own.map (·.2)) (tMv w (evalM S false rest fun acc ρ => itemE (evalE S false elt ρ) acc)) σ H Q := by
  obtain ⟨F, ρ, As, pr, q⟩ := q0
  rw [hv]
  rw [evalE] at q
  simp only [Bool.false_eq_true, if_false] at q
  rw [it_bind (α := R) (kk := fun items ρ => (loopM own_ tg (evalC S false cs) (evalM S false rest fun acc ρ => itemE (evalE S false elt ρ) acc) items [] (wipeE ρ own_)).bind fun acc ρ => .ok (.val (.lst true acc)) ρ)] at q
  refine ⟨F, ρ, As, pr, q.bind0 fun it ρ1 J F1 H1 As1 C1 e1 p1 k1 q1 => ?_⟩
  obtain ⟨rfl, K, jk, hK⟩ := k1
  intro D0 hD
  have pa := p1.alloc (o := .lst []) hD
  have hH : H D0 = none := by
    cases e : H D0 with
    | none => rfl
    | some o => rw [p1.sH _ _ e] at hD; cases hD
  cases el : loopM own_ tg (evalC S false cs) (evalM S false rest fun acc ρ => itemE (evalE S false elt ρ) acc) it.2 [] (wipeE ρ1 own_) with
  | bad => rw [el] at q1; exact q1.elim
  | exc c xs ρ' => exact absurd el loopM_ne
  | ok acc' ρe =>
    rw [el, Res.bind_ok] at q1
    have pd : PreD w D0 F1 (upd H1 D0 (.lst [])) σ ρ1 As1 [] := ⟨pa.same, pa.env, pa.uni, pa.off, pa.there⟩
    refine turns_read ht jk (fun H' s h => hK H' s fun j A _ hA b hb => ?_) pd upd_same .nil el fun F' H' As' B' accV' z h1 h2 => ?_
    · rw [h j A hA b hb, upd_ne]
      intro e
      subst e
      have h1 := own_get hA b
      have := p1.there b (by omega)
      exact this hD
    · exact q1 (.ref D0) F' H' As' (D0 :: B') (z.post pa hH) (.val (by have := RepL.lstO h1 h2 RepL.nil; simpa using this))
end
end SL
set_option Elab.async false
set_option linter.all false
set_option maxRecDepth 100000
set_option maxHeartbeats 1000000
/-! SLLn: len of an instance by its own __len__. -/
namespace SL
open PySem PySem.Spec PyProof.Rows L2
section
variable {prog : Program} {w : World} {A : Around} {E : Value → Shared → Prop} {s : Shared}
theorem len_own {K : PySem.W.Frag} {x C f : Addr} {ox : Obj} {odd : Option Obj} {Q : Value → Shared → Prop} (X : K.In s.heap) (I : PySem.W.InstAt s.heap x ox C odd) (hs : PySem.W.findIn K (.ref C) "__len__" = some (some (.ref f))) (hf : PySem.W.isFn K (.ref f) = true)
    (h : wpAny (model prog w) A.in1 (call (.ref f) [.ref x]) (fun r s₁ => ∃ (n : Int) (u : Tok), r = Value.int n u ∧ 0 ≤ n ∧ n < 2 ^ 63 ∧ ∀ k, Q (.int n k) { s₁ with toks := k + 1 }) E s) : wpAny (model prog w) A (call (.builtin "len") [.ref x]) Q E s := by
  refine Calls.call_function_entry kind_len plain_len entry_len (args_len1 _) ?_
  unfold Builtin.«len»
  refine wpAny_bind (m := oneArg "len" _) (wpAny_pure ?_)
  refine wpAny_bind (m := callSpecial? (.ref x) (Str.ofString "__len__")) (PySem.W.special_fn X I hs (beq_iff_eq.mp hf) (wpAny_mono h (fun r s' hr => ?_) fun _ _ y => y))
  obtain ⟨n, u, rfl, h0, h1, hq⟩ := hr
  refine wpAny_bind (wpAny_holding (wpAny_pure ?_))
  refine wpAny_bind (wpAny_letGo ?_)
  show wpAny _ _ (if n < 0 then _ else _) _ _ _
  rw [if_neg (by omega)]
  show wpAny _ _ (if n ≥ 2 ^ 63 then _ else _) _ _ _
  rw [if_neg (by omega)]
  exact wpAny_bind (wpAny_mkInt (wpAny_pure ⟨_, rfl, hq _⟩))
end
section
variable {T : NT} {W0 : World0} {w0 w : Wd} {fa : Nat → Addr} {cv : Nat → Value} {S : Sem} {h : Bool} {k : Nat} {W : WX} {X : Cx} {pos p apos : Pos}
variable {s : Ex} {ss : List Ex} {e : Expr} {es : List Expr} {a b c : Ex} {ea eb ec : Expr} {o : Expr}
/-- what is asked of a value whose own length is asked -/
def LenAt (w0 : Wd) (S : Sem) (h : Bool) (m : Nat) (v : V) (H : Hp) (Q : VK) : Prop :=
  ∃ a c dx ws g, h = false ∧ v = .ref a ∧ H a = some (.ins (w0.ca c) dx ((w0.fn c).zip ws)) ∧ S.tab.meth c m = some g ∧ spF w0 (S.fn false g) [.ref a] H (fun v H' => ∃ n : Int, v = .int n ∧ 0 ≤ n ∧ n < 2 ^ 63 ∧ Q (.int n) H') (fun _ _ _ => False)
theorem len_go (x : XF T W0 w0 w fa cv S h k W X) {m : Nat} {F0 H0 F H : Hp} {σ : L2.St} {ρ0 ρ : SL.Env} {As0 As : List (List Addr)} {v : V} {r : R} {C : List Addr} {Q : VK} (p : Post w σ F0 H0 ρ0 As0 F H ρ As C) (kr : RepR w F H ρ As v r C)
    (q : Fin (rpR w) w σ W F0 H0 ρ0 As0 (match r.d with
      | .ins _ c _ => match S.tab.meth c m with
        | some g => (SL.settle r ρ).bind fun d ρ => lenR h d (S.fn h g) ρ
        | none => .bad
      | _ => .bad) Q) : LenAt w0 S h m v H Q := by
  cases e : r.d with
  | ins o c xs =>
    rw [e] at q
    cases hp : S.tab.meth c m with
    | none => simp only [hp] at q; exact q.elim
    | some g =>
      simp only [hp] at q
      obtain ⟨d, ρ1, e1, q⟩ := q.of_ok settle_ne
      obtain ⟨F1, As1, t, k1⟩ := settle_ok p.pre kr e1
      have p1 := (p.trans t).weak (C' := C) fun a => by simp
      cases h with
      | true => exact q.elim
      | false =>
        have hd : ∃ o' xs', d = .ins o' c xs' := by
          cases r with
          | val d' => simp only [SL.settle, Res.ok.injEq] at e1; obtain ⟨rfl, _⟩ := e1; exact ⟨_, _, e⟩
          | brw i d' =>
            simp only [SL.settle] at e1
            split at e1
            · simp only [Res.ok.injEq] at e1; obtain ⟨rfl, _⟩ := e1; exact ⟨_, _, e⟩
            · cases e1
        obtain ⟨o', xs', rfl⟩ := hd
        obtain ⟨a, dx, ws, ev, ha, _, _⟩ := ins_at t.same k1
        subst ev
        refine ⟨a, c, dx, ws, g, rfl, rfl, by rw [← x.like.ca, ← x.like.fn]; exact ha, hp, ?_⟩
        unfold lenR at q
        simp only [Bool.false_eq_true, if_false] at q
        cases eo : S.fn false g [(D.ins o' c xs').frz] with
        | none => rw [eo] at q; exact q.elim
        | some out =>
          rw [eo] at q
          cases out with
          | exc _ _ => exact q.elim
          | ret y =>
            cases y with
            | int n =>
              simp only at q
              split at q
              · rename_i hn
                have q' : Fin (rpR w) w σ (fun _ _ _ _ => False) F0 H0 ρ0 As0 (callR false [.val (.ins o' c xs')] (S.fn false g) ρ1) (fun v H' => ∃ n : Int, v = .int n ∧ 0 ≤ n ∧ n < 2 ^ 63 ∧ Q (.int n) H') := by
                  unfold callR
                  have l1 : (liveAll [R.val (D.ins o' c xs')] ρ1 && (!false || D.noXL (argsOf [R.val (D.ins o' c xs')]))) = true := rfl
                  rw [if_pos l1]
                  have ea : argsOf [R.val (D.ins o' c xs')] = [(D.ins o' c xs').frz] := rfl
                  rw [ea, eo]
                  simp only [after, frzAll, ite_self]
                  intro v F' H' As' C' p' r'
                  have z := q v F' H' As' C' p' r'
                  cases r' with
                  | val r2 => cases r2; exact ⟨n, rfl, hn.1, hn.2, z⟩
                have z := call_go (w0 := w0) x.like x.hx p1 (by have := RepRs.cons (ρ := ρ1) (As := As1) (RepR.val k1) RepRs.nil; simpa using this) (by simpa using q')
                exact z
              · exact q.elim
            | _ => exact q.elim
  | _ => rw [e] at q; exact q.elim
theorem snd_leni (x : XF T W0 w0 w fa cv S h k W X) {m : Nat} (hm : T.at_ m = "__len__") (hg : Gl X "len") (he : PE X e (tEv S h w W s)) (hn : noStar e = true) : PE X (.Call (.Name "len" p) [e] [] pos) (tEv S h w W (.leni m s)) := by
  have hc : CallR X (.builtin "len") (fun xs H Q => ∃ v, xs = [v] ∧ LenAt w0 S h m v H Q) := by
    intro pins st σ H xs us Q I r z
    obtain ⟨v, rfl, a, c, dx, ws, g, hh, rfl, hi, hp, q2⟩ := z
    subst hh
    obtain ⟨u, rfl, rx⟩ := vals1 r
    obtain rfl : u = Value.ref a := rx
    obtain ⟨cl, me, no⟩ := x.pr.meth c m g hp
    obtain ⟨⟨fd, ps, hb, FF, _⟩, kp⟩ := x.fm c m g hp
    rw [← x.K] at cl me hb FF kp
    rw [← x.mg] at FF
    rw [← x.prog, ← x.wd, ← x.base] at FF
    rw [hm] at me
    obtain ⟨mA, O, _, _, _, _⟩ := ins_get I.hok hi
    obtain ⟨od, J, _⟩ := O.look
    refine len_own I.kIn J me.at_ me.fn (wpAny_call (codeAny_mono (FF.run X.A.in1 X.stack st H ⟨[.ref a], []⟩ [.ref a] [.ref a] _ _ (x.room rfl).1.in1 I.env0.in1 (hb _ [.ref a] I.kIn ?_) (.cons rfl .nil) q2) fun r s' hq => ?_))
    · exact FF.len _ _ _ _ q2
    · cases r with
      | error er => exact False.elim (no_pass (X := X) σ pins σ H st er s' (I.wish _) hq)
      | ok fl =>
        cases fl with
        | ret u =>
          obtain ⟨v, H', I3, rv, n, ev, h0, h1, q3⟩ := I.after hq
          subst ev
          obtain ⟨t, rfl⟩ := rv
          exact ⟨n, t, rfl, h0, h1, fun k => ⟨.int n, H', I3.tok _, ⟨_, rfl⟩, q3⟩⟩
        | next => exact False.elim hq
        | brk => exact False.elim hq
        | cont => exact False.elim hq
  have ha : PA X [e] (tCons (tEv S h w W s) tNil) := pa_cons he pa_nil (star_cons hn)
  refine PE.of (pe_callB hc hg (by rw [x.mg]; exact x.pr.blt _ (by decide)) boot_len ha (by decide) (by decide) (star_cons hn) (star_any rfl)) fun σ H Q ⟨F, ρ, As, pr, q⟩ => ?_
  rw [evalE] at q
  exact ⟨F, ρ, As, pr, q.bind0 fun r ρ1 v F1 H1 As1 C1 e1 p1 k1 q1 => ⟨v, rfl, len_go x p1 k1 q1⟩⟩
/-! ### == of instances -/
theorem eqi_inv {t : Tab} {m : Nat} {da db : D} {f : Nat} (h : eqiF t m da db = some f) : ∃ o c xs o' ys, da = .ins o c xs ∧ db = .ins o' c ys ∧ t.meth c m = some f := by
  unfold eqiF at h
  split at h
  · split at h
    · rename_i e; subst e; exact ⟨_, _, _, _, _, rfl, rfl, h⟩
    · cases h
  · cases h
def EqAt (w0 : Wd) (S : Sem) (h : Bool) (m : Nat) (v u : V) (H : Hp) (Q : VK) : Prop :=
  ∃ a b c dx dy ws us f, h = false ∧ v = .ref a ∧ u = .ref b ∧ H a = some (.ins (w0.ca c) dx ((w0.fn c).zip ws)) ∧ H b = some (.ins (w0.ca c) dy ((w0.fn c).zip us)) ∧ S.tab.meth c m = some f ∧
    spF w0 (S.fn false f) [.ref a, .ref b] H (fun v H' => ∃ b : Bool, v = .bl b ∧ Q (.bl b) H') (fun _ _ _ => False)
theorem op_eqi (x : XF T W0 w0 w fa cv S h k W X) {m : Nat} (hm : T.at_ m = "__eq__") : OpR X (compareOp .Eq) (EqAt w0 S h m) := by
  intro pins st σ H v u vv uu Q I r1 r2 ⟨a, b, c, dx, dy, ws, us, f, hh, e1, e2, ha, hb, hf, q⟩
  subst e1; subst e2; subst hh
  obtain rfl : vv = Value.ref a := r1
  obtain rfl : uu = Value.ref b := r2
  obtain ⟨cl, me, no⟩ := x.pr.meth c m f hf
  obtain ⟨⟨fd, ps, hbd, FF, _⟩, kp⟩ := x.fm c m f hf
  rw [← x.K] at cl me hbd FF kp
  rw [← x.mg] at FF
  rw [← x.prog, ← x.wd, ← x.base] at FF
  rw [hm] at me
  obtain ⟨mA, O, _, _, _, _⟩ := ins_get I.hok ha
  obtain ⟨od, J, _⟩ := O.look
  obtain ⟨mB, O', _, _, _, _⟩ := ins_get I.hok hb
  obtain ⟨od', J', _⟩ := O'.look
  obtain ⟨mm, hF⟩ := I.fr
  show wpAny (model X.prog X.w) X.A (richCompare .Eq (.ref a) (.ref b)) (EP X pins σ Q) X.xe st
  have hl := FF.len _ _ _ _ q
  refine PySem.W.cmp_K (op := .Eq) (tb := .ref (w0.ca c)) (by have := x.units; omega) hF I.ok.mod.kin J J'.type (by simp [PySem.W.notFirst]) me.at_ me.fn ?_
  refine wpAny_call (codeAny_mono (FF.run X.A X.stack st H ⟨[.ref a, .ref b], []⟩ [.ref a, .ref b] [.ref a, .ref b] _ _ ((x.room rfl).1.mono (by omega)) I.env0 (by
    have := hbd st [.ref a, .ref b] I.kIn (by simpa using hl)
    simpa using this) (.cons rfl (.cons rfl .nil)) q) fun r s' hq => ?_)
  cases r with
  | error er => exact False.elim (no_pass (X := X) σ pins σ H st er s' (I.wish _) hq)
  | ok fl =>
    cases fl with
    | ret w =>
      obtain ⟨z, H', I', rz, bb, ez, q2⟩ := I.after hq
      subst ez
      cases rz
      exact ⟨.bl bb, H', I', rfl, q2⟩
    | next => exact False.elim hq
    | brk => exact False.elim hq
    | cont => exact False.elim hq
theorem eqi_go (x : XF T W0 w0 w fa cv S h k W X) {m : Nat} {β α : Type} {rp : RP β α} {Q2 : β → Hp → Prop} {kk : Bool → SL.Env → Res α} {F H : Hp} {σ : L2.St} {ρ : SL.Env} {As : List (List Addr)} {Q : VK} (p : Pre w F H σ ρ As)
    (q : Fin rp w σ W F H ρ As ((evalE S h a ρ).bind fun x ρ => (SL.settle x ρ).bind fun da ρ => (evalE S h b ρ).bind fun y ρ => (SL.settle y ρ).bind fun db ρ => match eqiF S.tab m da db with
      | some f => (eqiR h [da, db] (S.fn h f) ρ).bind fun r ρ => (Res.of (match r.d with | .bl c => some c | _ => none) ρ).bind kk
      | none => .bad) Q2)
    (go : ∀ c ρ2 F2 H2 As2 C2, Post w σ F H ρ As F2 H2 ρ2 As2 C2 → Fin rp w σ W F H ρ As (kk c ρ2) Q2 → Q (.bl c) H2) : tOp (EqAt w0 S h m) (tEv S h w W a) (tEv S h w W b) σ H Q := by
  refine ⟨F, ρ, As, p, q.bind0 fun ra ρ1 v F1 H1 As1 C1 e1 p1 k1 q1 => ?_⟩
  obtain ⟨da, ρ1', e1', q1⟩ := q1.of_ok settle_ne
  obtain ⟨F1', As1', t, k1'⟩ := settle_ok p1.pre k1 e1'
  have p1' := (p1.trans t).weak (C' := C1) fun a => by simp
  refine ⟨F1', ρ1', As1', t.pre, Fin.bind p1' q1 fun rb ρ2 u F2 H2 As2 C2 e2 p2 p12 k2 q2 => ?_⟩
  obtain ⟨db, ρ2', e2', q2⟩ := q2.of_ok settle_ne
  obtain ⟨F2', As2', t2, k2'⟩ := settle_ok p2.pre k2 e2'
  have ka := Rep.up (Rep.up k1' p12.lift) t2.lift
  have p3 := (p2.trans t2).weak (C' := C1 ++ C2) fun a => by simp
  cases ef : eqiF S.tab m da db with
  | none => rw [ef] at q2; exact q2.elim
  | some f =>
    rw [ef] at q2
    obtain ⟨o, c, xs, o', ys, rfl, rfl, hf⟩ := eqi_inv ef
    obtain ⟨aa, dx, ws, ev, ha, _, _⟩ := ins_at t2.same ka
    obtain ⟨bb, dy, us, eu, hb, _, _⟩ := ins_at t2.same k2'
    subst ev; subst eu
    cases h with
    | true => exact q2.elim
    | false =>
      refine ⟨aa, bb, c, dx, dy, ws, us, f, rfl, rfl, rfl, by rw [← x.like.ca, ← x.like.fn]; exact ha, by rw [← x.like.ca, ← x.like.fn]; exact hb, hf, ?_⟩
      unfold eqiR at q2
      simp only [Bool.false_eq_true, if_false] at q2
      cases eo : S.fn false f (D.frzL [.ins o c xs, .ins o' c ys]) with
      | none => rw [eo] at q2; exact q2.elim
      | some out =>
        rw [eo] at q2
        cases out with
        | exc _ _ => exact q2.elim
        | ret y =>
          cases y with
          | bl b =>
            simp only [Res.bind_ok, R.d, Res.of_some] at q2
            have q' : Fin (rpR w) w σ (fun _ _ _ _ => False) F H ρ As (callR false [.val (.ins o c xs), .val (.ins o' c ys)] (S.fn false f) ρ2') (fun v H' => ∃ b : Bool, v = .bl b ∧ Q (.bl b) H') := by
              unfold callR
              have l1 : (liveAll [R.val (D.ins o c xs), R.val (D.ins o' c ys)] ρ2' && (!false || D.noXL (argsOf [R.val (D.ins o c xs), R.val (D.ins o' c ys)]))) = true := rfl
              rw [if_pos l1]
              have ea : argsOf [R.val (D.ins o c xs), R.val (D.ins o' c ys)] = D.frzL [.ins o c xs, .ins o' c ys] := rfl
              rw [ea, eo]
              simp only [after, frzAll, ite_self]
              intro v F' H' As' C' p' r'
              cases r' with
              | val r2 => cases r2; exact ⟨b, rfl, go b ρ2' F' H' As' C' p' q2⟩
            exact call_go (w0 := w0) x.like x.hx p3 (.cons (.val ka) (by have := RepRs.cons (ρ := ρ2') (As := As2') (RepR.val k2') RepRs.nil; simpa using this)) q'
          | _ => exact q2.elim
theorem snd_eqi (x : XF T W0 w0 w fa cv S h k W X) {m : Nat} (hm : T.at_ m = "__eq__") (ha : PE X ea (tEv S h w W a)) (hb : PE X eb (tEv S h w W b)) (hmk : behindInMarks .Eq eb = false) :
    PE X (.Compare ea [.Eq] [eb] pos) (tEv S h w W (.eqi m a b)) := by
  refine PE.of (pe_cmpR (op_eqi x hm) ha hb hmk) fun σ H Q ⟨F, ρ, As, p, q⟩ => ?_
  rw [evalE] at q
  refine eqi_go (rp := rpR w) (kk := fun c ρ => .ok (.val (.bl c)) ρ) x p ?_ fun c ρ2 F2 H2 As2 C2 p2 q2 => fin_val (rp := rpR w) q2 p2 (.bl .nil) (by simp)
  have e : ((evalE S h a ρ).bind fun x ρ => (SL.settle x ρ).bind fun da ρ => (evalE S h b ρ).bind fun y ρ => (SL.settle y ρ).bind fun db ρ => match eqiF S.tab m da db with
      | some f => (eqiR h [da, db] (S.fn h f) ρ).bind fun r ρ => (Res.of (match r.d with | .bl c => some c | _ => none) ρ).bind fun c ρ => .ok (.val (.bl c)) ρ
      | none => .bad) = ((evalE S h a ρ).bind fun x ρ => (SL.settle x ρ).bind fun da ρ => (evalE S h b ρ).bind fun y ρ => (SL.settle y ρ).bind fun db ρ => match eqiF S.tab m da db with
      | some f => eqiR h [da, db] (S.fn h f) ρ
      | none => .bad) := by
    congr 1; funext x ρ; congr 1; funext da ρ; congr 1; funext y ρ; congr 1; funext db ρ
    cases eqiF S.tab m da db with
    | none => rfl
    | some f =>
      simp only [eqiR]
      split
      · rfl
      · split <;> rfl
  rw [e]; exact q
theorem bind_assoc' {α β γ : Type} (m : Res α) (f : α → SL.Env → Res β) (g : β → SL.Env → Res γ) : (m.bind f).bind g = m.bind fun r ρ => (f r ρ).bind g := by cases m <;> rfl
theorem snd_teqi (x : XF T W0 w0 w fa cv S h k W X) {m : Nat} (hm : T.at_ m = "__eq__") (ha : PE X ea (tEv S h w W a)) (hb : PE X eb (tEv S h w W b)) (hmk : behindInMarks .Eq eb = false) :
    PT X (.Compare ea [.Eq] [eb] pos) (tTv S h w W (.e (.eqi m a b))) := by
  refine PT.of (pt_cmpR (op_eqi x hm) ha hb hmk) fun σ H Q ⟨F, ρ, As, p, q⟩ => ?_
  rw [evalT, evalE] at q
  refine eqi_go (rp := rpB) (kk := fun c ρ => .ok c ρ) (Q := fun x H' => ∃ k, x = .bl k ∧ Q k H') x p ?_ fun c ρ2 F2 H2 As2 C2 p2 q2 => ⟨c, rfl, fin_b q2 p2⟩
  have e : (((evalE S h a ρ).bind fun x ρ => (SL.settle x ρ).bind fun da ρ => (evalE S h b ρ).bind fun y ρ => (SL.settle y ρ).bind fun db ρ => match eqiF S.tab m da db with
      | some f => eqiR h [da, db] (S.fn h f) ρ
      | none => .bad).bind fun r ρ => Res.of (truth r.d) ρ) = ((evalE S h a ρ).bind fun x ρ => (SL.settle x ρ).bind fun da ρ => (evalE S h b ρ).bind fun y ρ => (SL.settle y ρ).bind fun db ρ => match eqiF S.tab m da db with
      | some f => (eqiR h [da, db] (S.fn h f) ρ).bind fun r ρ => (Res.of (match r.d with | .bl c => some c | _ => none) ρ).bind fun c ρ => .ok c ρ
      | none => .bad) := by
    rw [bind_assoc']; congr 1; funext x ρ; rw [bind_assoc']; congr 1; funext da ρ; rw [bind_assoc']; congr 1; funext y ρ; rw [bind_assoc']; congr 1; funext db ρ
    cases eqiF S.tab m da db with
    | none => rfl
    | some f =>
      simp only [eqiR]
      split
      · rfl
      · split <;> rfl
  exact Eq.mp (congrArg (fun m => Fin rpB w σ W F H ρ As m Q) e) q
end
end SL
set_option Elab.async false
set_option linter.all false
set_option maxRecDepth 100000
set_option maxHeartbeats 1000000
/-! SLM5: list comprehensions of any number of clauses: the rule over a block's context. -/
namespace SL
open PySem L2
section
variable {T : NT} {W0 : World0} {w0 w : Wd} {fa : Nat → Addr} {cv : Nat → Value} {S : Sem} {k : Nat} {W : WX} {X : Cx} {pos p : Pos}
variable {own_ : List Nat} {elt : Ex} {tg : Tg} {ik : Ik} {ie : List Ex} {cs : List Tx} {rest : List Cl} {eltE te iter : Expr} {ifs : List Expr} {grest : List Comprehension} {scope : Scope} {own : List (Str × Nat)}
/-- what of the clauses behind the first must hold in the block -/
def ClsOk (X' : Cx) (S : Sem) (w : Wd) : List Cl → List Comprehension → Prop
  | [], [] => True
  | .mk tg ik ie cs :: r, ⟨te, iter, ifs, as⟩ :: gs => as = 0 ∧ PI X' te iter (tItv S false w WF ik ie (fun _ => true)) ∧ noSet iter = true ∧ PG X' te (tgG w.K tg) ∧ PTs X' ifs (tCv S false w WF cs) ∧ ClsOk X' S w r gs
  | _, _ => False
theorem tails_ok {Xb : Cx} (hx : Xb.xe = fun _ _ => False) (hc : Xb.calm = true) (pe : PE Xb eltE (tEv S false w WF elt)) (gs : List Comprehension) (ha : ∀ g ∈ gs, g.is_async = 0) : ∀ (rest : List Cl) (grest : List Comprehension) (k : Nat), gs.drop (k + 1) = grest → ClsOk Xb S w rest grest →
    TailOk Xb eltE gs scope pos k (vsOf rest) (tMv w (evalM S false rest fun acc ρ => itemE (evalE S false elt ρ) acc))
  | [], [], k, e, _ => by
    have hn : gs[k + 1]? = none := by
      rw [List.getElem?_eq_none_iff]
      have := congrArg List.length e
      rw [List.length_drop] at this
      simp at this
      omega
    have h := tail_last (scope := scope) (pos := pos) hx hn pe
    exact h.of fun D σ H Nx q => last_read q
  | .mk tg ik ie cs :: r, ⟨te, iter, ifs, as⟩ :: gr, k, e, h => by
    obtain ⟨rfl, h1, h2, h3, h4, h5⟩ := h
    have hk : gs[k + 1]? = some ⟨te, iter, ifs, 0⟩ := by
      have := List.getElem?_drop (xs := gs) (i := k + 1) (j := 0)
      rw [e] at this
      simpa using this.symm
    have e2 : gs.drop (k + 1 + 1) = gr := by
      have : gs.drop (k + 1 + 1) = (gs.drop (k + 1)).drop 1 := by rw [List.drop_drop]
      rw [this, e]; rfl
    have ih := tails_ok hx hc pe gs ha r gr (k + 1) e2 h5
    have t := tail_next ha hx hc hk h1 h3 h4 (fun env => fs_no h2) (vs1 := tgs tg ++ vsOf r) (fun i hi => List.mem_append_right _ hi) ih
    exact t.of fun D σ H Nx q => next_read q
  | [], _ :: _, _, _, h => h.elim
  | .mk _ _ _ _ :: _, [], _, _, h => h.elim
theorem snd_compM (x : XF T W0 w0 w fa cv S false k W X) (hN : X.N.Nodup) (ok : BlkOk X.N X.env.scope scope own) (hv : own.map (·.2) = own_) (ht : ∀ i ∈ tgs tg, i ∈ own_) (hr : ∀ i ∈ vsOf rest, i ∈ own_) (ha : ∀ g ∈ grest, g.is_async = 0)
    (hi : PI X te iter (tItv S false w W ik ie (fun _ => true))) (hs : noSet iter = true)
    (hb : ∀ X' : Cx, XF T W0 w0 w fa cv S false k WF X' → X'.N = X.N → X'.env.scope = relS scope X.env.scope → (X'.fn = fun x => scope.names.lookup x == some .cell) → (PG X' te (tgG w.K tg) ∧ PTs X' ifs (tCv S false w WF cs) ∧ PE X' eltE (tEv S false w WF elt)) ∧ ClsOk X' S w rest grest) :
    PE X (.ListComp eltE (⟨te, iter, ifs, 0⟩ :: grest) scope pos) (tEv S false w W (.compM own_ elt tg ik ie cs rest)) := by
  have blk := fun s H C cl fp => hb _ (xf_blk x (scope := scope) s H C cl fp) rfl rfl rfl
  have hc := (x.room rfl).2
  refine PE.of (pe_lcM (vs := vsOf rest) (tb := tMv w (evalM S false rest fun acc ρ => itemE (evalE S false elt ρ) acc)) ha hc hN hi ok (fun i hi => by rw [hv]; exact hr i hi) (fs_no hs) (fun s H C cl fp => ?_)) fun σ H Q q => compM_read hv ht q
  obtain ⟨⟨b1, b2, b3⟩, b4⟩ := blk s H C cl fp
  refine ⟨b1, b2, tails_ok (Xb := X.blk s H scope (compEnvC scope cl C X.env) fp) rfl hc b3 _ (fun g hg => ?_) rest grest 0 rfl b4⟩
  rcases List.mem_cons.mp hg with rfl | hg
  · rfl
  · exact ha g hg
end
end SL
set_option Elab.async false
set_option linter.all false
set_option maxRecDepth 100000
set_option maxHeartbeats 1000000
/-! SLChk: is this slim text the erased text of that one? -/
namespace SL
open PySem L2

def all2 {α β : Type} (f : α → β → Bool) : List α → List β → Bool
  | [], [] => true
  | a :: as, b :: bs => f a b && all2 f as bs
  | _, _ => false
def nilB {α : Type} : List α → Bool
  | [] => true
  | _ => false
def visC (N : List Str) (sc : Scope) (i : Nat) (x : Str) : Bool :=
  decide (N[i]? = some x) && (match sc.names.lookup x with | some .local => true | some .cell => true | some .free => true | _ => false) && !(x == ("__debug__" : Str)) && !(x == ("__classdict__" : Str))
def glC (sc : Scope) (x : Str) : Bool := decide (sc.names.lookup x = some .globalImplicit)
def locC (N : List Str) (sc : Scope) (i : Nat) (x : Str) : Bool := decide (N[i]? = some x) && (decide (sc.names.lookup x = some .local) || decide (sc.names.lookup x = some .cell))
def bopC : Bop → Operator → Bool
  | .add, .Add => true
  | .sub, .Sub => true
  | .mul, .Mult => true
  | .fdiv, .FloorDiv => true
  | .mod, .Mod => true
  | .pow, .Pow => true
  | _, _ => false
def bolC : Bool → BoolOp → Bool
  | true, .And => true
  | false, .Or => true
  | _, _ => false
def copC : Cop → CmpOp → Bool
  | .eq, .Eq => true
  | .ne, .NotEq => true
  | .lt, .Lt => true
  | .le, .LtE => true
  | .gt, .Gt => true
  | .ge, .GtE => true
  | .isn, .Is => true
  | .notn, .IsNot => true
  | .in_, .In => true
  | .nin, .NotIn => true
  | _, _ => false
def isNone : Ex → Bool
  | .non => true
  | _ => false
def copN (o : Cop) (b : Ex) : Bool := match o with
  | .isn => isNone b
  | .notn => isNone b
  | _ => true
def copP : Cop → Bool
  | .isn => false
  | .notn => false
  | _ => true
/-- a test that is a value's truth -/
def plainT : Expr → Bool
  | .UnaryOp .Not _ _ => false
  | .BoolOp _ _ _ => false
  | .IfExp _ _ _ _ => false
  | .Compare _ _ _ _ => false
  | _ => true
structure CkC where
  T : NT
  glob : Nat → Bool
  N : List Str
  hot : Bool
def icC (T : NT) : Ic → Bool
  | .cls c => T.oc c
  | _ => true
def biH (h : Bool) : Bi → Bool
  | .len => true
  | .int => true
  | _ => !h
def bmNe : Bm → Bool
  | .upper => false
  | _ => true
abbrev Rec (α : Type) := Scope → α → Expr → Bool
/-- an iterable -/
def chkI (c : CkC) (rE : Rec Ex) (sc : Scope) (te : Expr) : Ik → List Ex → Expr → Bool
  | .plain, [s], e => rE sc s e && noSet e
  | .range1, [s], .Call (.Name x _) [a] [] _ => decide (x = ("range" : Str)) && glC sc x && rE sc s a && noStar a
  | .range2, [s, s'], .Call (.Name x _) [a, b] [] _ => decide (x = ("range" : Str)) && glC sc x && rE sc s a && rE sc s' b && noStar a && noStar b
  | .enum, [s], .Call (.Name x _) [a] [] _ => decide (x = ("enumerate" : Str)) && glC sc x && rE sc s a && noStar a && isTupE te
  | _, _, _ => false
def ownL (N : List Str) (is : List Nat) : List (Str × Nat) := is.map fun i => (N.getD i Str.empty, i)
def chkO (rE : Rec Ex) (sc : Scope) : List Ex → Option Expr → Bool
  | [], none => true
  | [s], some e => rE sc s e
  | _, _ => false
def chkCs (rT : Rec Tx) (sc : Scope) : List Tx → List Expr → Bool
  | [], [] => true
  | [t], [e] => rT sc t e
  | _, _ => false
def chkLc (c : CkC) (rE : Rec Ex) (rT : Rec Tx) (sc : Scope) (own : List Nat) (elt : Ex) (tg : Tg) (ik : Ik) (ie : List Ex) (cs : List Tx) : Expr → Bool
  | .ListComp eltE [⟨te, iter, ifs, 0⟩] scope _ => blkC c.N sc scope (ownL c.N own) && (tgs tg).all (fun i => own.contains i) && chkI c rE sc te ik ie iter && noSet iter &&
    chkTg c.N (relS scope sc) (fun x => scope.names.lookup x == some .cell) te tg && chkCs rT (relS scope sc) cs ifs && rE (relS scope sc) elt eltE
  | _ => false
/-- the clauses behind the first -/
def chkCls (c : CkC) (rE : Rec Ex) (rT : Rec Tx) (sc : Scope) (cell : Str → Bool) : List Cl → List Comprehension → Bool
  | [], [] => true
  | .mk tg ik ie cs :: r, ⟨te, iter, ifs, as⟩ :: gs => decide (as = 0) && chkI c rE sc te ik ie iter && noSet iter && chkTg c.N sc cell te tg && chkCs rT sc cs ifs && chkCls c rE rT sc cell r gs
  | _, _ => false
def chkM (c : CkC) (rE : Rec Ex) (rT : Rec Tx) (sc : Scope) (own : List Nat) (elt : Ex) (tg : Tg) (ik : Ik) (ie : List Ex) (cs : List Tx) (rest : List Cl) : Expr → Bool
  | .ListComp eltE (g :: gs) scope p => chkLc c rE rT sc own elt tg ik ie cs (.ListComp eltE [g] scope p) && (vsOf rest).all (fun i => own.contains i) && chkCls c rE rT (relS scope sc) (fun x => scope.names.lookup x == some .cell) rest gs
  | _ => false
def stE (c : CkC) (rE : Rec Ex) (rT : Rec Tx) (sc : Scope) : Ex → Expr → Bool
  | .var i, .Name x _ => visC c.N sc i x
  | .take i, .Name x _ => visC c.N sc i x
  | .non, .Constant .none _ _ => true
  | .bl b, .Constant (.bool b') _ _ => b == b'
  | .int i, .Constant (.int j) _ _ => decide (i = j)
  | .str x, .Constant (.str y) _ _ => decide (x = y) && PyData.strOk x
  | .glob g, .Name x _ => decide (x = c.T.gl g) && glC sc x && c.glob g
  | .bin o a b, .BinOp ea op eb _ => bopC o op && rE sc a ea && rE sc b eb
  | .neg a, .UnaryOp .USub ea _ => rE sc a ea
  | .not_ (.e a), .UnaryOp .Not ea _ => rE sc a ea
  | .bop k es, .BoolOp op es' _ => bolC k op && !nilB es && all2 (rE sc) es es'
  | .cmp o a b, .Compare ea [op] [eb] _ => copC o op && copN o b && !behindInMarks op eb && rE sc a ea && rE sc b eb
  | .chain o o' a b d, .Compare ea [op, op'] [eb, ed] _ => copC o op && copC o' op' && copP o && copP o' && !behindInMarks op' ed && rE sc a ea && rE sc b eb && rE sc d ed
  | .ife t a b, .IfExp et ea eb _ => rT sc t et && rE sc a ea && rE sc b eb
  | .call f es, .Call (.Name x _) args [] _ => decide (x = c.T.fn f) && glC sc x && c.T.gf f && args.all noStar && all2 (rE sc) es args
  | .new d es, .Call (.Name x _) args [] _ => !c.hot && decide (x = c.T.cl d) && glC sc x && c.T.gc d && args.all noStar && all2 (rE sc) es args
  | .meth m o es, .Call (.Attribute eo y ap) args [] p => decide (y = c.T.at_ m) && noSup eo && decide (args.length < 19) && (ap.endLine == p.line) && args.all noStar && rE sc o eo && all2 (rE sc) es args
  | .fld a f, .Attribute ea y _ => decide (y = c.T.at_ f) && noSup ea && rE sc a ea
  | .eqi m a b, .Compare ea [.Eq] [eb] _ => decide (c.T.at_ m = ("__eq__" : Str)) && !behindInMarks .Eq eb && rE sc a ea && rE sc b eb
  | .leni m a, .Call (.Name x _) [e] [] _ => decide (x = ("len" : Str)) && glC sc x && decide (c.T.at_ m = ("__len__" : Str)) && noStar e && rE sc a e
  | .bi b es, .Call (.Name x _) args [] _ => decide (x = biN b) && glC sc x && biH c.hot b && !nilB args && args.all noStar && all2 (rE sc) es args
  | .bm m o es, .Call (.Attribute eo y ap) args [] p => !c.hot && decide (y = bmN m) && noSup eo && decide (args.length < 19) && (ap.endLine == p.line) && args.all noStar && (bmNe m != nilB args) && rE sc o eo && all2 (rE sc) es args
  | .isin a ic, .Call (.Name x _) [ea, .Name y _] [] _ => decide (x = ("isinstance" : Str)) && glC sc x && decide (y = icN c.T ic) && glC sc y && icC c.T ic && noStar ea && rE sc a ea
  | .idx a b, .Subscript ea eb _ => noSlc eb && rE sc a ea && rE sc b eb
  | .slc a lo hi, .Subscript ea (.Slice el eh none _) _ => rE sc a ea && chkO rE sc lo el && chkO rE sc hi eh
  | .lst es, .List es' _ => es'.all noStar && all2 (rE sc) es es'
  | .tup es, .Tuple es' _ _ => es'.all noStar && all2 (rE sc) es es'
  | .comp own elt tg ik ie cs, e => !c.hot && chkLc c rE rT sc own elt tg ik ie cs e
  | .box a, e => rE sc a e
  | .compM own elt tg ik ie cs rest, e => !c.hot && chkM c rE rT sc own elt tg ik ie cs rest e
  | _, _ => false
def stT (c : CkC) (rE : Rec Ex) (rT : Rec Tx) (sc : Scope) : Tx → Expr → Bool
  | .e (.cmp o a b), .Compare ea [op] [eb] _ => copC o op && copN o b && !behindInMarks op eb && rE sc a ea && rE sc b eb
  | .e (.chain o o' a b d), .Compare ea [op, op'] [eb, ed] _ => copC o op && copC o' op' && copP o && copP o' && !behindInMarks op' ed && rE sc a ea && rE sc b eb && rE sc d ed
  | .e (.eqi m a b), .Compare ea [.Eq] [eb] _ => decide (c.T.at_ m = ("__eq__" : Str)) && !behindInMarks .Eq eb && rE sc a ea && rE sc b eb
  | .not_ t, .UnaryOp .Not e _ => rT sc t e
  | .bop k ts, .BoolOp op es _ => bolC k op && !nilB ts && all2 (rT sc) ts es
  | .e s, e => plainT e && rE sc s e
  | _, _ => false
mutual
def chkE (c : CkC) : Nat → Rec Ex
  | 0, _, _, _ => false
  | n + 1, sc, s, e => stE c (chkE c n) (chkT c n) sc s e
def chkT (c : CkC) : Nat → Rec Tx
  | 0, _, _, _ => false
  | n + 1, sc, s, e => stT c (chkE c n) (chkT c n) sc s e
end
def chkPr (c : CkC) (rE : Rec Ex) (sc : Scope) (i : Nat) : List Ex → Expr → Bool
  | [], .Name x _ => visC c.N sc i x
  | p :: ps, .Subscript er ep _ => noSlc ep && rE sc p ep && chkPr c rE sc i ps er
  | _, _ => false
/-- name = [..] -/
def chkSetLc (c : CkC) (rE : Rec Ex) (rT : Rec Tx) (sc : Scope) (x : Str) (px : Pos) : Ex → Expr → Bool
  | .comp own elt tg ik ie cs, .ListComp eltE gs scope p => !c.hot && (chkLc c rE rT sc own elt tg ik ie cs (.ListComp eltE gs scope p) &&
    (decide (sc.names.lookup x = some .cell) || (decide (sc.names.lookup x = some .local) && (px.line == p.line) && !(scope.names.any fun (n, k) => n == x && (k == .local || k == .cell)))))
  | _, _ => false
def chkS (c : CkC) : Nat → Scope → Sx → Stmt → Bool
  | 0, _, _, _ => false
  | n + 1, sc, .set i a, .Assign [.Name x px] v _ => locC c.N sc i x && ((noLc v && chkE c n sc a v) || chkSetLc c (chkE c n) (chkT c n) sc x px a v)
  | n + 1, sc, .unp is a, .Assign [te] v _ => !c.hot && chkTg c.N sc (fun _ => true) te (.tp is) && chkE c n sc a v && noLc v && noTup v && noStar te
  | n + 1, sc, .sset i path a, .Assign [.Subscript er ek _] v _ => !c.hot && noTup v && noSlc ek && chkE c n sc a v && (match path.reverse with
    | [] => false
    | pk :: ps => chkE c n sc pk ek && chkPr c (chkE c n) sc i ps er)
  | n + 1, sc, .sadd i path1 path pk a, .Assign [.Subscript er ek _] (.BinOp el .Add v _) _ => !c.hot && noSlc ek && chkE c n sc a v && chkE c n sc pk ek && chkPr c (chkE c n) sc i path.reverse er && chkPr c (chkE c n) sc i path1.reverse el
  | n + 1, sc, .sfld f a, .Assign [.Attribute (.Name x _) y _] v _ => visC c.N sc 0 x && decide (y = c.T.at_ f) && noLc v && chkE c n sc a v
  | n + 1, sc, .app i path a, .Expr (.Call (.Attribute er y ap) [v] [] p) _ => decide (y = ("append" : Str)) && noStar v && noSup er && (ap.endLine == p.line) && chkE c n sc a v && chkPr c (chkE c n) sc i path.reverse er
  | n + 1, sc, .apop i j a, .Expr (.Call (.Attribute (.Name x _) y ap) [.Call (.Attribute (.Name x2 _) y2 ap2) [v] [] p2] [] p) _ => !c.hot && decide (y = ("append" : Str)) && decide (y2 = ("pop" : Str)) && noStar v && (ap.endLine == p.line) && (ap2.endLine == p2.line) && visC c.N sc i x && visC c.N sc j x2 && chkE c n sc a v
  | n + 1, sc, .aug i o a, .AugAssign (.Name x _) op v _ => (match o, op with | .add, .Add => true | .sub, .Sub => true | _, _ => false) && locC c.N sc i x && chkE c n sc a v
  | n + 1, sc, .ex a, .Expr v _ => noLc v && chkE c n sc a v
  | n + 1, sc, .ret a, .Return (some v) _ => chkE c n sc a v
  | _ + 1, _, .ret0, .Return none _ => true
  | n + 1, sc, .ite t a b, .If et ea eb _ => chkT c n sc t et && all2 (chkS c n sc) a ea && all2 (chkS c n sc) b eb
  | n + 1, sc, .for_ tg ik ie body, .For te iter b [] _ => chkTg c.N sc (fun _ => true) te tg && chkI c (chkE c n) sc te ik ie iter && noSet iter && (!c.hot || (!isTupE te && decide (ik = .range1))) && all2 (chkS c n sc) body b
  | n + 1, sc, .while_ t body, .While et b [] _ => chkT c n sc t et && all2 (chkS c n sc) body b
  | n + 1, sc, .raise_ d es, .Raise (some (.Call (.Name x _) args [] _)) none _ => !c.hot && decide (x = c.T.cl d) && glC sc x && c.T.rc d && !nilB args && args.all noStar && all2 (chkE c n sc) es args
  | n + 1, sc, .try_ body d j suite, .Try b [.ExceptHandler (some (.Name x _)) nm sts _] [] [] _ => !c.hot && decide (x = c.T.cl d) && glC sc x && c.T.oc d && !nilB sts && all2 (chkS c n sc) body b && all2 (chkS { c with hot := true } n sc) suite sts && (match j, nm with
    | none, none => true
    | some j, some y => decide (c.N[j]? = some y) && decide (sc.names.lookup y = some .local)
    | _, _ => false)
  | _ + 1, _, .brk, .Break _ => true
  | _ + 1, _, .cont, .Continue _ => true
  | _ + 1, _, .pass, .Pass _ => true
  | _, _, _, _ => false
end SL
set_option Elab.async false
set_option linter.all false
set_option maxRecDepth 100000
set_option maxHeartbeats 2000000
/-! SLChs: a checked expression keeps what the evaluator says. -/
namespace SL
open PySem L2
section
variable {X : Cx} {S : Sem} {h : Bool} {w : Wd} {W : WX} {fE : Ex → Expr → Bool} {fT : Tx → Expr → Bool} {pos : Pos}
theorem es_ok (hf : ∀ s e, fE s e = true → PE X e (tEv S h w W s)) : ∀ {ss : List Ex} {es : List Expr}, all2 fE ss es = true → es.all noStar = true → PA X es (tEvs S h w W ss)
  | [], [], _, _ => snd_es_nil
  | s :: ss, e :: es, h1, h2 => by
    simp only [all2, List.all_cons, Bool.and_eq_true] at h1 h2
    exact snd_es_cons (hf s e h1.1) (es_ok hf h1.2 h2.2) h2.1
  | [], _ :: _, h1, _ => by simp [all2] at h1
  | _ :: _, [], h1, _ => by simp [all2] at h1
theorem as_ok (hf : ∀ s e, fE s e = true → PE X e (tEv S h w W s)) : ∀ {ss : List Ex} {es : List Expr}, all2 fE ss es = true → es.all noStar = true → PA X es (tAv S h w W ss)
  | [], [], _, _ => snd_a_nil
  | s :: ss, e :: es, h1, h2 => by
    simp only [all2, List.all_cons, Bool.and_eq_true] at h1 h2
    exact snd_a_cons (hf s e h1.1) (as_ok hf h1.2 h2.2) h2.1
  | [], _ :: _, h1, _ => by simp [all2] at h1
  | _ :: _, [], h1, _ => by simp [all2] at h1
theorem ks_ok (hf : ∀ s e, fE s e = true → PE X e (tEv S h w W s)) : ∀ {ss : List Ex} {es : List Expr}, all2 fE ss es = true → es.all noStar = true → PA X es (tKv S h w W ss)
  | [], [], _, _ => snd_k_nil
  | s :: ss, e :: es, h1, h2 => by
    simp only [all2, List.all_cons, Bool.and_eq_true] at h1 h2
    exact snd_k_cons (hf s e h1.1) (ks_ok hf h1.2 h2.2) h2.1
  | [], _ :: _, h1, _ => by simp [all2] at h1
  | _ :: _, [], h1, _ => by simp [all2] at h1
theorem bs_ok (hK : X.K = w.K) {k : Bool} (hf : ∀ s e, fE s e = true → PE X e (tEv S h w W s)) : ∀ {ss : List Ex} {es : List Expr}, all2 fE ss es = true → nilB ss = false → PE X (.BoolOp (bopOf k) es pos) (tBv S h w W k ss)
  | [], es, _, h2 => by cases h2
  | [s], [e], h1, _ => by
    simp only [all2, Bool.and_eq_true] at h1
    exact snd_b1 (hf s e h1.1)
  | [s], e :: e' :: es, h1, _ => by simp [all2] at h1
  | s :: s' :: ss, e :: e' :: es, h1, _ => by
    have h1' : (fE s e && all2 fE (s' :: ss) (e' :: es)) = true := h1
    rw [Bool.and_eq_true] at h1'
    exact snd_b2 hK (hf s e h1'.1) (bs_ok hK hf h1'.2 rfl)
  | s :: s' :: ss, [e], h1, _ => by simp [all2] at h1
  | _ :: _, [], h1, _ => by simp [all2] at h1
theorem ts_ok {k : Bool} (hf : ∀ s e, fT s e = true → PT X e (tTv S h w W s)) : ∀ {ss : List Tx} {es : List Expr}, all2 fT ss es = true → nilB ss = false → PW X (.BoolOp (bopOf k) es pos) (tBTv S h w W k ss)
  | [], es, _, h2 => by cases h2
  | [s], [e], h1, _ => by
    simp only [all2, Bool.and_eq_true] at h1
    exact snd_tb1 (hf s e h1.1)
  | [s], e :: e' :: es, h1, _ => by simp [all2] at h1
  | s :: s' :: ss, e :: e' :: es, h1, _ => by
    have h1' : (fT s e && all2 fT (s' :: ss) (e' :: es)) = true := h1
    rw [Bool.and_eq_true] at h1'
    exact snd_tb2 (hf s e h1'.1) (ts_ok hf h1'.2 rfl)
  | s :: s' :: ss, [e], h1, _ => by simp [all2] at h1
  | _ :: _, [], h1, _ => by simp [all2] at h1
end
theorem visC_ok {N : List Str} {sc : Scope} {i : Nat} {x : Str} (h : visC N sc i x = true) : N[i]? = some x ∧ Vis sc x ∧ (x == ("__debug__" : Str)) = false ∧ (x == ("__classdict__" : Str)) = false := by
  unfold visC at h
  rw [Bool.and_eq_true, Bool.and_eq_true, Bool.and_eq_true] at h
  obtain ⟨⟨⟨h1, h2⟩, h3⟩, h4⟩ := h
  refine ⟨of_decide_eq_true h1, ?_, by simpa using h3, by simpa using h4⟩
  unfold Vis
  split at h2
  · rename_i e; exact .inl e
  · rename_i e; exact .inr (.inl e)
  · rename_i e; exact .inr (.inr e)
  · cases h2
theorem locC_ok {N : List Str} {sc : Scope} {i : Nat} {x : Str} (h : locC N sc i x = true) : N[i]? = some x ∧ L2.Loc sc x := by
  unfold locC at h
  rw [Bool.and_eq_true, Bool.or_eq_true] at h
  exact ⟨of_decide_eq_true h.1, h.2.imp of_decide_eq_true of_decide_eq_true⟩
theorem glC_ok {X : Cx} {x : Str} (h : glC X.env.scope x = true) : Gl X x := by
  unfold glC at h
  have h' := of_decide_eq_true h
  exact h'
theorem bolC_ok {k : Bool} {op : BoolOp} (h : bolC k op = true) : op = bopOf k := by
  cases k <;> cases op <;> first | rfl | cases h
theorem copC_ok {o : Cop} {op : CmpOp} (h : copC o op = true) : op = copOf o := by
  cases o <;> cases op <;> first | rfl | cases h
theorem copN_ok {o : Cop} {b : Ex} (h : copN o b = true) : o = .isn ∨ o = .notn → b = .non := by
  intro z
  rcases z with rfl | rfl <;> (simp only [copN] at h; cases b <;> first | rfl | cases h)
theorem copP_ok {o : Cop} (h : copP o = true) : ¬ (o = .isn ∨ o = .notn) := by
  intro z
  rcases z with rfl | rfl <;> cases h
theorem plainT_ok {e : Expr} {env : PySem.Env} (h : plainT e = true) : ∀ whole, isTrue e env whole = (do let v ← whole; standAt e.pos; holding [v] (truthy v)) := by
  intro whole
  cases e <;> first | rfl | (cases h; done) | skip
  rename_i op e pos
  cases op <;> first | rfl | cases h
theorem biH_ok {h : Bool} {b : Bi} (e : biH h b = true) : h = true → b = .len ∨ b = .int := by
  intro hh
  subst hh
  cases b <;> first | exact .inl rfl | exact .inr rfl | cases e
theorem icC_ok {T : NT} {ic : Ic} (h : icC T ic = true) : ∀ c, ic = .cls c → T.oc c = true := by
  intro c e
  subst e
  exact h
theorem bne_ok {m : Bm} {args : List Expr} (h : (bmNe m != nilB args) = true) : (m = .upper ∧ args = []) ∨ ∃ e es, args = e :: es := by
  cases args with
  | nil => cases m <;> first | exact .inl ⟨rfl, rfl⟩ | cases h
  | cons e es => exact .inr ⟨e, es, rfl⟩

section
variable {T : NT} {W0 : World0} {w0 : Wd} {fa : Nat → Addr} {cv : Nat → Value} {S : Sem} {k : Nat}
/-- a context for a checked text -/
structure XC (T : NT) (W0 : World0) (w0 : Wd) (fa : Nat → Addr) (cv : Nat → Value) (S : Sem) (k : Nat) (c : CkC) (w : Wd) (W : WX) (X : Cx) : Prop where
  f : XF T W0 w0 w fa cv S c.hot k W X
  N : X.N = c.N
  nd : X.N.Nodup
def OkE (T : NT) (W0 : World0) (w0 : Wd) (fa : Nat → Addr) (cv : Nat → Value) (S : Sem) (k : Nat) (c : CkC) (rE : Rec Ex) : Prop := ∀ X w W, XC T W0 w0 fa cv S k c w W X → ∀ s e, rE X.env.scope s e = true → PE X e (tEv S c.hot w W s)
def OkT (T : NT) (W0 : World0) (w0 : Wd) (fa : Nat → Addr) (cv : Nat → Value) (S : Sem) (k : Nat) (c : CkC) (rT : Rec Tx) : Prop := ∀ X w W, XC T W0 w0 fa cv S k c w W X → ∀ s e, rT X.env.scope s e = true → PT X e (tTv S c.hot w W s)
variable {c : CkC} {rE : Rec Ex} {rT : Rec Tx} {X : Cx} {w : Wd} {W : WX}
theorem bin_ok (hK : X.K = w.K) {h : Bool} {o : Bop} {op : Operator} {a b : Ex} {ea eb : Expr} {pos : Pos} (e : bopC o op = true) (ha : PE X ea (tEv S h w W a)) (hb : PE X eb (tEv S h w W b)) : PE X (.BinOp ea op eb pos) (tEv S h w W (.bin o a b)) := by
  cases o <;> cases op <;> first | (cases e; done) | exact snd_add hK ha hb | exact snd_sub hK ha hb | exact snd_mul hK ha hb | exact snd_fdiv hK ha hb | exact snd_mod hK ha hb | exact snd_pow hK ha hb
theorem chkI_ok (hc : c.T = T) (x : XC T W0 w0 fa cv S k c w W X) (rE_ok : OkE T W0 w0 fa cv S k c rE) {te : Expr} {ik : Ik} {ie : List Ex} {e : Expr} {keep : Nat → Bool} (h : chkI c rE X.env.scope te ik ie e = true) :
    PI X te e (tItv S c.hot w W ik ie keep) := by
  unfold chkI at h
  split at h
  · simp only [Bool.and_eq_true] at h
    exact snd_it_plain x.f.KK (rE_ok X w W x _ _ h.1)
  · simp only [Bool.and_eq_true, decide_eq_true_eq] at h
    obtain ⟨⟨⟨rfl, h2⟩, h3⟩, h4⟩ := h
    exact snd_it_range1 x.f (glC_ok h2) (rE_ok X w W x _ _ h3) h4
  · simp only [Bool.and_eq_true, decide_eq_true_eq] at h
    obtain ⟨⟨⟨⟨⟨rfl, h2⟩, h3⟩, h4⟩, h5⟩, h6⟩ := h
    exact snd_it_range2 x.f (glC_ok h2) (rE_ok X w W x _ _ h3) (rE_ok X w W x _ _ h4) h5 h6
  · simp only [Bool.and_eq_true, decide_eq_true_eq] at h
    obtain ⟨⟨⟨⟨rfl, h2⟩, h3⟩, h4⟩, h5⟩ := h
    cases te <;> first | (cases h5; done) | exact snd_it_enum x.f (glC_ok h2) (rE_ok X w W x _ _ h3) h4
  · cases h
theorem chkIH_ok (hc : c.T = T) (x : XC T W0 w0 fa cv S k c w W X) (rE_ok : OkE T W0 w0 fa cv S k c rE) {te : Expr} {ie : List Ex} {e : Expr} {keep : Nat → Bool} (h : chkI c rE X.env.scope te .range1 ie e = true) :
    L2H.PIH X te e (tItv S c.hot w W .range1 ie keep) := by
  unfold chkI at h
  split at h
  · contradiction
  · simp only [Bool.and_eq_true, decide_eq_true_eq] at h
    obtain ⟨⟨⟨rfl, h2⟩, h3⟩, h4⟩ := h
    exact snd_it_range1H x.f (glC_ok h2) (rE_ok X w W x _ _ h3) h4
  · contradiction
  · contradiction
  · cases h
theorem ownL_ok {N : List Str} {is : List Nat} : (ownL N is).map (·.2) = is := by
  unfold ownL
  rw [List.map_map]
  exact (List.map_congr_left fun a _ => rfl).trans (List.map_id is)
theorem chkLc_ok (hc : c.T = T) (hh : c.hot = false) (x : XC T W0 w0 fa cv S k c w W X) (rE_ok : OkE T W0 w0 fa cv S k c rE) (rT_ok : OkT T W0 w0 fa cv S k c rT) {own : List Nat} {elt : Ex} {tg : Tg} {ik : Ik} {ie : List Ex} {cs : List Tx} {eltE : Expr} {gs : List Comprehension} {scope : Scope} {pos : Pos}
    (h : chkLc c rE rT X.env.scope own elt tg ik ie cs (.ListComp eltE gs scope pos) = true) : ∃ te iter ifs, gs = [⟨te, iter, ifs, 0⟩] ∧ BlkOk X.N X.env.scope scope (ownL c.N own) ∧ (∀ i ∈ tgs tg, i ∈ own) ∧ PI X te iter (tItv S false w W ik ie (fun _ => true)) ∧ noSet iter = true ∧
      BlkS T W0 w0 w fa cv S k X scope te tg ifs cs eltE elt := by
  have keyE := rE_ok
  have keyT := rT_ok
  unfold OkE at keyE
  unfold OkT at keyT
  unfold chkLc at h
  split at h
  · rename_i e1 te iter ifs sc p ez
    cases ez
    simp only [Bool.and_eq_true] at h
    obtain ⟨⟨⟨⟨⟨⟨h1, h2⟩, h3⟩, h4⟩, h5⟩, h6⟩, h7⟩ := h
    have pi := chkI_ok (keep := fun _ => true) hc x rE_ok h3
    rw [hh] at pi
    refine ⟨te, iter, ifs, rfl, by rw [x.N]; exact blkOk_by h1, fun i hi => by simpa using List.all_eq_true.mp h2 i hi, pi, h4, fun X' xf hN hsc hfn => ?_⟩
    have xc : XC T W0 w0 fa cv S k c w WF X' := ⟨by rw [hh]; exact xf, hN.trans x.N, by rw [hN]; exact x.nd⟩
    rw [← hsc] at h5 h6 h7
    refine ⟨chkTg_ok xc.nd xf.KK (.inl (xf.room rfl).2) (by rw [xc.N, hfn]; exact h5), ?_, ?_⟩
    · unfold chkCs at h6
      split at h6
      · exact snd_c0
      · have := keyT X' w WF xc _ _ h6
        rw [hh] at this
        exact snd_c1 this
      · cases h6
    · have := keyE X' w WF xc _ _ h7
      rw [hh] at this
      exact this
  · cases h
theorem chkCls_ok (hc : c.T = T) (hh : c.hot = false) (rE_ok : OkE T W0 w0 fa cv S k c rE) (rT_ok : OkT T W0 w0 fa cv S k c rT) {X' : Cx} (xc : XC T W0 w0 fa cv S k c w WF X') {cell : Str → Bool} (hfn : X'.fn = cell) : ∀ {rest : List Cl} {gs : List Comprehension}, chkCls c rE rT X'.env.scope cell rest gs = true → ClsOk X' S w rest gs
  | [], [], _ => trivial
  | .mk tg ik ie cs :: r, ⟨te, iter, ifs, as⟩ :: gs, h => by
    simp only [chkCls, Bool.and_eq_true, decide_eq_true_eq] at h
    obtain ⟨⟨⟨⟨⟨rfl, h1⟩, h2⟩, h3⟩, h4⟩, h5⟩ := h
    have keyT := rT_ok
    unfold OkT at keyT
    have xf := xc.f
    rw [hh] at xf
    have pi := chkI_ok (keep := fun _ => true) hc xc rE_ok h1
    rw [hh] at pi
    refine ⟨rfl, pi, h2, chkTg_ok xc.nd xf.KK (.inl (xf.room rfl).2) (by rw [xc.N, hfn]; exact h3), ?_, chkCls_ok hc hh rE_ok rT_ok xc hfn h5⟩
    unfold chkCs at h4
    split at h4
    · exact snd_c0
    · have := keyT X' w WF xc _ _ h4
      rw [hh] at this
      exact snd_c1 this
    · cases h4
  | [], _ :: _, h => by simp [chkCls] at h
  | _ :: _, [], h => by simp [chkCls] at h
theorem chkO_ok (rE_ok : ∀ s e, rE X.env.scope s e = true → PE X e (tEv S c.hot w W s)) {ss : List Ex} {o : Option Expr} (h : chkO rE X.env.scope ss o = true) : PO X o (tOv S c.hot w W ss) ∧ ss.length ≤ 1 := by
  unfold chkO at h
  split at h
  · exact ⟨po_none, by simp⟩
  · exact ⟨po_some (rE_ok _ _ h), by simp⟩
  · cases h
end
end SL
set_option Elab.async false
set_option linter.all false
set_option maxRecDepth 100000
set_option maxHeartbeats 4000000
/-! SLChe: checked expressions are sound. -/
namespace SL
open PySem L2
section
variable {T : NT} {W0 : World0} {w0 : Wd} {fa : Nat → Addr} {cv : Nat → Value} {S : Sem} {k : Nat}
variable {c : CkC} {rE : Rec Ex} {rT : Rec Tx} {X : Cx} {w : Wd} {W : WX}
theorem stE_ok (hc : c.T = T) (hg : ∀ g, c.glob g = true → (S.tab.glob g).isSome = true) (rE_ok : OkE T W0 w0 fa cv S k c rE) (rT_ok : OkT T W0 w0 fa cv S k c rT) : OkE T W0 w0 fa cv S k c (stE c rE rT) := by
  intro X w W x s e h
  have keyE := rE_ok X w W x
  have keyT := rT_ok X w W x
  have hK := x.f.KK
  unfold stE at h
  split at h
  · rw [← x.N] at h
    obtain ⟨h1, h2, h3, h4⟩ := visC_ok h
    exact snd_var h1 h2 h3 h4
  · rw [← x.N] at h
    obtain ⟨h1, h2, h3, h4⟩ := visC_ok h
    exact snd_take h1 h2 h3 h4
  · exact snd_non
  · have := eq_of_beq h
    subst this
    exact snd_bl
  · have := of_decide_eq_true h
    subst this
    exact snd_int
  · rw [Bool.and_eq_true] at h
    have := of_decide_eq_true h.1
    subst this
    exact snd_str h.2
  · simp only [Bool.and_eq_true, decide_eq_true_eq] at h
    obtain ⟨⟨rfl, h2⟩, h3⟩ := h
    rw [hc] at h2 ⊢
    exact snd_glob x.f (glC_ok h2) (hg _ h3)
  · simp only [Bool.and_eq_true] at h
    exact bin_ok hK h.1.1 (keyE _ _ h.1.2) (keyE _ _ h.2)
  · exact snd_neg (keyE _ _ h)
  · exact snd_not hK (keyE _ _ h)
  · simp only [Bool.and_eq_true, Bool.not_eq_true'] at h
    have e := bolC_ok h.1.1
    subst e
    exact snd_bop (bs_ok hK keyE h.2 h.1.2)
  · simp only [Bool.and_eq_true, Bool.not_eq_true'] at h
    obtain ⟨⟨⟨⟨h1, h2⟩, h3⟩, h4⟩, h5⟩ := h
    have e := copC_ok h1
    subst e
    exact snd_cmp hK x.f.units (keyE _ _ h4) (keyE _ _ h5) (copN_ok h2) h3
  · simp only [Bool.and_eq_true, Bool.not_eq_true'] at h
    obtain ⟨⟨⟨⟨⟨⟨⟨h1, h2⟩, h3⟩, h4⟩, h5⟩, h6⟩, h7⟩, h8⟩ := h
    have e := copC_ok h1
    have e2 := copC_ok h2
    subst e; subst e2
    exact snd_chain hK x.f.units (keyE _ _ h6) (keyE _ _ h7) (keyE _ _ h8) (copP_ok h3) (copP_ok h4) h5
  · simp only [Bool.and_eq_true] at h
    exact snd_ife (keyT _ _ h.1.1) (keyE _ _ h.1.2) (keyE _ _ h.2)
  · rename_i f es y p args p2
    simp only [Bool.and_eq_true, decide_eq_true_eq] at h
    obtain ⟨⟨⟨⟨rfl, h2⟩, h3⟩, h4⟩, h5⟩ := h
    rw [hc] at h2 h3 ⊢
    cases args with
    | nil =>
      cases es with
      | nil => exact snd_call0 x.f h3 (glC_ok h2)
      | cons _ _ => simp [all2] at h5
    | cons e es' =>
      have pa := as_ok keyE h5 h4
      simp only [List.all_cons, Bool.and_eq_true] at h4
      exact snd_call x.f h3 (glC_ok h2) pa h4.1 h4.2
  · rename_i d es y p args p2
    simp only [Bool.and_eq_true, Bool.not_eq_true', decide_eq_true_eq] at h
    obtain ⟨⟨⟨⟨⟨h0, rfl⟩, h2⟩, h3⟩, h4⟩, h5⟩ := h
    rw [hc] at h2 h3 ⊢
    have xf := x.f
    rw [h0] at keyE xf ⊢
    cases args with
    | nil =>
      cases es with
      | nil => exact snd_new0 xf h3 (glC_ok h2)
      | cons _ _ => simp [all2] at h5
    | cons e es' =>
      have pa := as_ok keyE h5 h4
      simp only [List.all_cons, Bool.and_eq_true] at h4
      exact snd_new xf h3 (glC_ok h2) pa h4.1 h4.2
  · rename_i m o es eo y ap args p
    simp only [Bool.and_eq_true, decide_eq_true_eq] at h
    obtain ⟨⟨⟨⟨⟨⟨rfl, h1⟩, h2⟩, h3⟩, h4⟩, h5⟩, h6⟩ := h
    rw [hc]
    cases args with
    | nil =>
      cases es with
      | nil => exact snd_meth0 x.f (keyE _ _ h5) h1 h3
      | cons _ _ => simp [all2] at h6
    | cons e es' =>
      have pa := as_ok keyE h6 h4
      simp only [List.all_cons, Bool.and_eq_true] at h4
      exact snd_meth x.f (keyE _ _ h5) pa h4.1 h4.2 h1 (by simpa using Nat.lt_of_succ_lt h2) h3
  · simp only [Bool.and_eq_true, decide_eq_true_eq] at h
    obtain ⟨⟨rfl, h1⟩, h2⟩ := h
    rw [hc]
    exact snd_fld x.f (keyE _ _ h2) h1
  · simp only [Bool.and_eq_true, Bool.not_eq_true', decide_eq_true_eq] at h
    obtain ⟨⟨⟨h1, h2⟩, h3⟩, h4⟩ := h
    rw [hc] at h1
    exact snd_eqi x.f h1 (keyE _ _ h3) (keyE _ _ h4) h2
  · simp only [Bool.and_eq_true, decide_eq_true_eq] at h
    obtain ⟨⟨⟨⟨rfl, h1⟩, h2⟩, h3⟩, h4⟩ := h
    rw [hc] at h2
    exact snd_leni x.f h2 (glC_ok h1) (keyE _ _ h4) h3
  · rename_i b es y p args p2
    simp only [Bool.and_eq_true, Bool.not_eq_true', decide_eq_true_eq] at h
    obtain ⟨⟨⟨⟨⟨rfl, h1⟩, h2⟩, h3⟩, h4⟩, h5⟩ := h
    cases args with
    | nil => cases h3
    | cons e es' =>
      have pa := es_ok keyE h5 h4
      simp only [List.all_cons, Bool.and_eq_true] at h4
      exact snd_bi x.f (biH_ok h2) (glC_ok h1) pa h4.1 h4.2
  · rename_i m o es eo y ap args p
    simp only [Bool.and_eq_true, Bool.not_eq_true', decide_eq_true_eq] at h
    obtain ⟨⟨⟨⟨⟨⟨⟨⟨h0, rfl⟩, h1⟩, h2⟩, h3⟩, h4⟩, h5⟩, h6⟩, h7⟩ := h
    rcases bne_ok h5 with ⟨rfl, rfl⟩ | ⟨e, es', rfl⟩
    · cases es with
      | nil => exact snd_bm0 x.f (keyE _ _ h6) h1 h3
      | cons _ _ => simp [all2] at h7
    · have pa := es_ok keyE h7 h4
      simp only [List.all_cons, Bool.and_eq_true] at h4
      exact snd_bm x.f (keyE _ _ h6) pa h1 h4.1 h4.2 (by simpa using Nat.lt_of_succ_lt h2) h3
  · simp only [Bool.and_eq_true, decide_eq_true_eq] at h
    obtain ⟨⟨⟨⟨⟨⟨rfl, h1⟩, rfl⟩, h2⟩, h3⟩, h4⟩, h5⟩ := h
    rw [hc] at h2 h3 ⊢
    exact snd_isin x.f (keyE _ _ h5) h4 (glC_ok h2) (icC_ok h3) (glC_ok h1)
  · simp only [Bool.and_eq_true] at h
    exact snd_idx hK (keyE _ _ h.1.2) (keyE _ _ h.2) (plain_ix h.1.1)
  · simp only [Bool.and_eq_true] at h
    obtain ⟨o1, n1⟩ := chkO_ok (w := w) (W := W) (S := S) keyE h.1.2
    obtain ⟨o2, n2⟩ := chkO_ok (w := w) (W := W) (S := S) keyE h.2
    exact snd_slc hK (keyE _ _ h.1.1) o1 o2 n1 n2
  · rw [Bool.and_eq_true] at h
    exact snd_lst (ks_ok keyE h.2 h.1)
  · rw [Bool.and_eq_true] at h
    exact snd_tup (ks_ok keyE h.2 h.1)
  · rename_i own elt tg ik ie cs
    rw [Bool.and_eq_true, Bool.not_eq_true'] at h
    obtain ⟨h0, h1⟩ := h
    cases e with
    | ListComp eltE gs scope pos =>
      obtain ⟨te, iter, ifs, rfl, bo, ht, pi, hs, bs⟩ := chkLc_ok hc h0 x rE_ok rT_ok h1
      have xf := x.f
      rw [h0] at xf ⊢
      exact snd_comp xf x.nd bo ownL_ok ht pi hs bs
    | _ => unfold chkLc at h1; cases h1
  · exact snd_box (keyE _ _ h)
  · rename_i own elt tg ik ie cs rest
    rw [Bool.and_eq_true, Bool.not_eq_true'] at h
    obtain ⟨h0, h1⟩ := h
    unfold chkM at h1
    split at h1
    · rename_i eltE g gs scope pos
      simp only [Bool.and_eq_true] at h1
      obtain ⟨⟨h2, h3⟩, h4⟩ := h1
      obtain ⟨te, iter, ifs, e, bo, ht, pi, hs, bs⟩ := chkLc_ok hc h0 x rE_ok rT_ok h2
      injection e with e _
      subst e
      have xf := x.f
      rw [h0] at xf ⊢
      have cls : ∀ {r : List Cl} {gs : List Comprehension} {sc : Scope} {f : Str → Bool}, chkCls c rE rT sc f r gs = true → ∀ g ∈ gs, g.is_async = 0 := fun {r gs sc f} => by
        intro h
        induction gs generalizing r with
        | nil => intro g hg; cases hg
        | cons a gs ih =>
          cases r with
          | nil => simp [chkCls] at h
          | cons b r =>
            obtain ⟨tg, ik, ie, cs⟩ := b
            obtain ⟨te, iter, ifs, as⟩ := a
            simp only [chkCls, Bool.and_eq_true, decide_eq_true_eq] at h
            intro g hg
            rcases List.mem_cons.mp hg with rfl | hg
            · exact h.1.1.1.1.1
            · exact ih h.2 g hg
      refine snd_compM xf x.nd bo ownL_ok ht (fun i hi => by simpa using List.all_eq_true.mp h3 i hi) (cls h4) pi hs fun X' xf' hN hsc hfn => ⟨bs X' xf' hN hsc hfn, ?_⟩
      have xc : XC T W0 w0 fa cv S k c w WF X' := ⟨by rw [h0]; exact xf', hN.trans x.N, by rw [hN]; exact x.nd⟩
      rw [← hsc] at h4
      exact chkCls_ok hc h0 rE_ok rT_ok xc hfn h4
    · cases h1
  · cases h
theorem stT_ok (hc : c.T = T) (rE_ok : OkE T W0 w0 fa cv S k c rE) (rT_ok : OkT T W0 w0 fa cv S k c rT) : OkT T W0 w0 fa cv S k c (stT c rE rT) := by
  intro X w W x s e h
  have keyE := rE_ok X w W x
  have keyT := rT_ok X w W x
  have hK := x.f.KK
  unfold stT at h
  split at h
  · simp only [Bool.and_eq_true, Bool.not_eq_true'] at h
    obtain ⟨⟨⟨⟨h1, h2⟩, h3⟩, h4⟩, h5⟩ := h
    have e := copC_ok h1
    subst e
    exact snd_tcmp hK x.f.units (keyE _ _ h4) (keyE _ _ h5) (copN_ok h2) h3
  · simp only [Bool.and_eq_true, Bool.not_eq_true'] at h
    obtain ⟨⟨⟨⟨⟨⟨⟨h1, h2⟩, h3⟩, h4⟩, h5⟩, h6⟩, h7⟩, h8⟩ := h
    have e := copC_ok h1
    have e2 := copC_ok h2
    subst e; subst e2
    exact snd_tchain hK x.f.units (keyE _ _ h6) (keyE _ _ h7) (keyE _ _ h8) (copP_ok h3) (copP_ok h4) h5
  · simp only [Bool.and_eq_true, Bool.not_eq_true', decide_eq_true_eq] at h
    obtain ⟨⟨⟨h1, h2⟩, h3⟩, h4⟩ := h
    rw [hc] at h1
    exact snd_teqi x.f h1 (keyE _ _ h3) (keyE _ _ h4) h2
  · exact snd_tnot (keyT _ _ h)
  · simp only [Bool.and_eq_true, Bool.not_eq_true'] at h
    have e := bolC_ok h.1.1
    subst e
    exact snd_tbop (ts_ok keyT h.2 h.1.2)
  · rw [Bool.and_eq_true] at h
    exact snd_te hK (keyE _ _ h.2) (plainT_ok h.1)
  · cases h
theorem chk_ok (hc : c.T = T) (hg : ∀ g, c.glob g = true → (S.tab.glob g).isSome = true) : ∀ n, OkE T W0 w0 fa cv S k c (chkE c n) ∧ OkT T W0 w0 fa cv S k c (chkT c n)
  | 0 => ⟨fun X w W x s e h => by simp [chkE] at h, fun X w W x s e h => by simp [chkT] at h⟩
  | n + 1 => by
    obtain ⟨h1, h2⟩ := chk_ok hc hg n
    refine ⟨fun X w W x s e h => ?_, fun X w W x s e h => ?_⟩
    · rw [chkE] at h; exact stE_ok hc hg h1 h2 X w W x s e h
    · rw [chkT] at h; exact stT_ok hc h1 h2 X w W x s e h
end
end SL
set_option Elab.async false
set_option linter.all false
set_option maxRecDepth 100000
set_option maxHeartbeats 4000000
/-! SLChz: checked statements are sound. -/
namespace SL
open PySem L2
section
variable {T : NT} {W0 : World0} {w0 : Wd} {fa : Nat → Addr} {cv : Nat → Value} {S : Sem} {k : Nat}
variable {X : Cx} {w : Wd} {W : WX}
theorem sts_ok {h : Bool} {f : Sx → Stmt → Bool} (hf : ∀ s st, f s st = true → PS X st (tSv S h w W s)) : ∀ {ss : List Sx} {sts : List Stmt}, all2 f ss sts = true → PSs X sts (tSsv S h w W ss)
  | [], [], _ => snd_ss_nil
  | s :: ss, st :: sts, h1 => by
    simp only [all2, Bool.and_eq_true] at h1
    exact snd_ss_cons (hf s st h1.1) (sts_ok hf h1.2)
  | [], _ :: _, h1 => by simp [all2] at h1
  | _ :: _, [], h1 => by simp [all2] at h1
theorem chkPr_ok {c : CkC} {rE : Rec Ex} (hN : X.N = c.N) (hK : X.K = w.K) {h : Bool} (rE_ok : ∀ s e, rE X.env.scope s e = true → PE X e (tEv S h w W s)) {i : Nat} : ∀ {ps : List Ex} {e : Expr}, chkPr c rE X.env.scope i ps e = true → PE X e (tPv S h w W i ps.reverse)
  | [], e, q => by
    cases e <;> simp only [chkPr, Bool.false_eq_true] at q
    rw [← hN] at q
    obtain ⟨h1, h2, h3, h4⟩ := visC_ok q
    exact snd_pv0 h1 h2 h3 h4
  | p :: ps, e, q => by
    cases e <;> simp only [chkPr, Bool.false_eq_true] at q
    simp only [Bool.and_eq_true] at q
    rw [List.reverse_cons]
    exact snd_pvS hK (chkPr_ok hN hK rE_ok q.2) (rE_ok _ _ q.1.2) q.1.1
theorem chkS_ok (hk : 1 ≤ k) : ∀ (n : Nat) (c : CkC), c.T = T → (∀ g, c.glob g = true → (S.tab.glob g).isSome = true) → ∀ (X : Cx) (w : Wd) (W : WX), XS T W0 w0 w fa cv S c.hot k W X → X.N = c.N → ∀ s st, chkS c n X.env.scope s st = true → PS X st (tSv S c.hot w W s)
  | 0, c, _, _, X, w, W, _, _, s, st, h => by simp [chkS] at h
  | n + 1, c, hc, hg, X, w, W, g, hN, s, st, h => by
    have xc : XC T W0 w0 fa cv S k c w W X := ⟨g.f, hN, g.nd⟩
    have okE := (chk_ok (W0 := W0) (w0 := w0) (fa := fa) (cv := cv) (k := k) hc hg n).1
    have okT := (chk_ok (W0 := W0) (w0 := w0) (fa := fa) (cv := cv) (k := k) hc hg n).2
    have keyE := okE X w W xc
    have keyT := okT X w W xc
    have keyS := chkS_ok hk n c hc hg X w W g hN
    have hK := g.f.KK
    have hfn : X.fn = fun _ => true := funext g.fnt
    unfold chkS at h
    split at h
    · cases h
    · rename_i n' i a x px v pos e1
      cases e1
      rw [Bool.and_eq_true, ← hN] at h
      obtain ⟨h1, h2⟩ := locC_ok h.1
      rcases Bool.or_eq_true_iff.mp h.2 with q | q
      · rw [Bool.and_eq_true] at q
        exact snd_set g h1 h2 (keyE _ _ q.2) q.1
      · unfold chkSetLc at q
        split at q
        · rename_i own elt tg ik ie cs eltE gs scope p
          rw [Bool.and_eq_true, Bool.not_eq_true', Bool.and_eq_true] at q
          obtain ⟨h0, q1, q2⟩ := q
          obtain ⟨te, iter, ifs, rfl, bo, ht, pi, hs, bs⟩ := chkLc_ok hc h0 xc okE okT q1
          rw [h0] at g ⊢
          rcases Bool.or_eq_true_iff.mp q2 with q3 | q3
          · exact snd_setLcC g h1 (of_decide_eq_true q3) (snd_comp g.f g.nd bo ownL_ok ht pi hs bs)
          · simp only [Bool.and_eq_true, Bool.not_eq_true', decide_eq_true_eq] at q3
            exact snd_setLc g h1 q3.1.1 q3.1.2 q3.2 bo ownL_ok ht pi hs bs
        · cases q
    · rename_i n' is a te v pos e1
      cases e1
      simp only [Bool.and_eq_true, Bool.not_eq_true'] at h
      obtain ⟨⟨⟨⟨⟨h0, h1⟩, h2⟩, h3⟩, h4⟩, h5⟩ := h
      rw [h0] at g keyE ⊢
      exact snd_unp g (by rw [hN, hfn]; exact h1) (keyE _ _ h2) h3 h4 h5
    · rename_i n' i path a er ek p v pos e1
      cases e1
      simp only [Bool.and_eq_true, Bool.not_eq_true'] at h
      obtain ⟨⟨⟨⟨h0, h2⟩, h3⟩, h4⟩, h5⟩ := h
      split at h5
      · cases h5
      · rename_i pk ps e2
        rw [Bool.and_eq_true] at h5
        have e3 : path = ps.reverse ++ [pk] := by
          have := congrArg List.reverse e2
          simpa using this
        rw [e3]
        exact snd_sset g.f.hx hK (chkPr_ok hN hK keyE h5.2) (keyE _ _ h5.1) (keyE _ _ h4) h3 h2
    · rename_i n' i path1 path pk a er ek p1 el v p2 pos e1
      cases e1
      simp only [Bool.and_eq_true, Bool.not_eq_true'] at h
      obtain ⟨⟨⟨⟨⟨h0, h2⟩, h3⟩, h4⟩, h5⟩, h6⟩ := h
      have k1 := chkPr_ok (w := w) (W := W) (S := S) hN hK keyE h5
      have k2 := chkPr_ok (w := w) (W := W) (S := S) hN hK keyE h6
      rw [List.reverse_reverse] at k1 k2
      exact snd_sadd g.f.hx hK k2 k1 (keyE _ _ h4) (keyE _ _ h3) h2
    · rename_i n' f a x px y py v pos e1
      cases e1
      simp only [Bool.and_eq_true, decide_eq_true_eq] at h
      obtain ⟨⟨⟨h1, rfl⟩, h3⟩, h4⟩ := h
      rw [← hN] at h1
      obtain ⟨g1, g2, g3, g4⟩ := visC_ok h1
      rw [hc]
      exact snd_sfld g g1 g2 g3 g4 (keyE _ _ h4) h3
    · rename_i n' i path a er y ap v p pos e1
      cases e1
      simp only [Bool.and_eq_true, decide_eq_true_eq] at h
      obtain ⟨⟨⟨⟨⟨rfl, h1⟩, h2⟩, h3⟩, h4⟩, h5⟩ := h
      have := chkPr_ok (w := w) (W := W) (S := S) hN hK keyE h5
      rw [List.reverse_reverse] at this
      exact snd_app g.f.hx hK this (keyE _ _ h4) h1 h2 h3
    · rename_i n' i j a x px y ap x2 py y2 ap2 v p2 p pos e1
      cases e1
      simp only [Bool.and_eq_true, decide_eq_true_eq] at h
      obtain ⟨⟨⟨⟨⟨⟨⟨⟨h0, rfl⟩, rfl⟩, h2⟩, h3⟩, h4⟩, h5⟩, h6⟩, h7⟩ := h
      rw [← hN] at h5 h6
      obtain ⟨g1, g2, g3, g4⟩ := visC_ok h5
      obtain ⟨f1, f2, f3, f4⟩ := visC_ok h6
      exact snd_apop g.f.hx g1 g2 g3 g4 f1 f2 f3 f4 (keyE _ _ h7) h2 h3 h4
    · rename_i n' i o a x px op v pos e1
      cases e1
      simp only [Bool.and_eq_true] at h
      obtain ⟨⟨h1, h2⟩, h3⟩ := h
      rw [← hN] at h2
      obtain ⟨g1, g2⟩ := locC_ok h2
      exact snd_aug g (by cases o <;> cases op <;> first | exact .inl ⟨rfl, rfl⟩ | exact .inr ⟨rfl, rfl⟩ | cases h1) g1 g2 (keyE _ _ h3)
    · rename_i n' a v pos e1
      cases e1
      rw [Bool.and_eq_true] at h
      exact snd_ex (keyE _ _ h.2) h.1
    · rename_i n' a v pos e1
      cases e1
      exact snd_ret (keyE _ _ h)
    · exact snd_ret0
    · rename_i n' t a b et ea eb pos e1
      cases e1
      simp only [Bool.and_eq_true] at h
      exact snd_ite (keyT _ _ h.1.1) (sts_ok keyS h.1.2) (sts_ok keyS h.2)
    · rename_i n' tg ik ie body te iter b pos e1
      cases e1
      simp only [Bool.and_eq_true] at h
      obtain ⟨⟨⟨⟨h1, h2⟩, h3⟩, h4⟩, h5⟩ := h
      have ht : chkTg X.N X.env.scope X.fn te tg = true := by rw [hN, hfn]; exact h1
      cases hh : c.hot with
      | false =>
        have pi := chkI_ok (keep := fKeep tg body) hc xc okE h2
        have bs := sts_ok keyS h5
        rw [hh] at g pi bs
        exact snd_for g ht pi bs h3
      | true =>
        rw [hh] at h4
        simp only [Bool.not_true, Bool.false_or, Bool.and_eq_true, Bool.not_eq_true', decide_eq_true_eq] at h4
        obtain ⟨h4, rfl⟩ := h4
        have pi := chkIH_ok (keep := fKeep tg body) hc xc okE h2
        have bs := sts_ok keyS h5
        rw [hh] at g pi bs
        exact snd_forH g ht h4 pi bs h3
    · rename_i n' t body et b pos e1
      cases e1
      rw [Bool.and_eq_true] at h
      exact snd_while g (keyT _ _ h.1) (sts_ok keyS h.2)
    · rename_i n' d es x px args p pos e1
      cases e1
      simp only [Bool.and_eq_true, Bool.not_eq_true', decide_eq_true_eq] at h
      obtain ⟨⟨⟨⟨⟨⟨h0, rfl⟩, h1⟩, h2⟩, h3⟩, h4⟩, h5⟩ := h
      rw [hc] at h1 h2 ⊢
      rw [h0] at g keyE ⊢
      cases args with
      | nil => cases h3
      | cons e es' =>
        have pa := ks_ok keyE h5 h4
        simp only [List.all_cons, Bool.and_eq_true] at h4
        exact snd_raise g h2 hk (glC_ok h1) pa h4.1 h4.2
    · rename_i n' body d j suite b x px nm sts pp pos e1
      cases e1
      simp only [Bool.and_eq_true, Bool.not_eq_true', decide_eq_true_eq] at h
      obtain ⟨⟨⟨⟨⟨⟨⟨h0, rfl⟩, h1⟩, h2⟩, h3⟩, h4⟩, h5⟩, h6⟩ := h
      rw [hc] at h1 h2 ⊢
      have g' := g
      rw [h0] at g' ⊢
      have hb : ∀ (W' : WX) (pn : List (Addr × Obj)) (xe : Value → Shared → Prop), XS T W0 w0 w fa cv S false k W' (X.tr pn xe) → PSs (X.tr pn xe) b (tSsv S false w W' body) := fun W' pn xe g2 => by
        rw [← h0] at g2 ⊢
        exact sts_ok (chkS_ok hk n c hc hg (X.tr pn xe) w W' g2 hN) h4
      have hsu : ∀ (w' : Wd) (a : Addr) (pn : List (Addr × Obj)), XS T W0 w0 w' fa cv S true k WF (X.suite a pn) → PSs (X.suite a pn) sts (tSsv S true w' WF suite) := fun w' a pn g2 =>
        sts_ok (chkS_ok hk n { c with hot := true } hc hg (X.suite a pn) w' WF g2 hN) h5
      cases sts with
      | nil => cases h3
      | cons b0 sts =>
        split at h6
        · exact snd_try_0 g' h2 (glC_ok h1) hb hsu
        · rename_i jj y
          simp only [Bool.and_eq_true, decide_eq_true_eq] at h6
          exact snd_try_as g' (by rw [hN]; exact h6.1) h6.2 h2 (glC_ok h1) hb hsu
        · cases h6
    · exact snd_brk
    · exact snd_cont
    · exact snd_pass
    · cases h
end
end SL
set_option Elab.async false
set_option linter.all false
set_option maxRecDepth 100000
set_option maxHeartbeats 4000000
/-! SLDef: every def keeps what the evaluator says, by the evaluator's depth. -/
namespace SL
open PySem PySem.Spec PyProof.Rows L2
section
variable {w w0 : Wd} {F H F' H' : Hp} {σ σ' : L2.St} {ρ ρ' : Env} {As As' : List (List Addr)} {C : List Addr} {st : Nat → Prop}
theorem env_start {ws : List V} {ds : List D} {m : Nat} (r : RepL w F H ws ds []) : ∃ As, EnvR w F H (ws.map some ++ List.replicate m none) (ds.map some ++ List.replicate m none) As ∧ ∀ a, own As a = 0 := by
  have base : ∀ m, ∃ As, EnvR w F H (List.replicate m none) (List.replicate m none) As ∧ ∀ a, own As a = 0 := by
    intro m
    induction m with
    | zero => exact ⟨[], .nil, fun a => by simp [own]⟩
    | succ m ih =>
      obtain ⟨As, h1, h2⟩ := ih
      exact ⟨[] :: As, .no h1, fun a => by rw [own_cons, h2]; simp⟩
  induction ds generalizing ws with
  | nil => cases r; simpa using base m
  | cons d ds ih =>
    obtain ⟨v, us, B, C, rfl, k1, k2, hc⟩ := r.uncons
    have e1 : B = [] := List.eq_nil_iff_forall_not_mem.mpr fun a ha => by
      have h1 := List.count_pos_iff.mpr ha; have h2 := hc a; simp at h2; omega
    have e2 : C = [] := List.eq_nil_iff_forall_not_mem.mpr fun a ha => by
      have h1 := List.count_pos_iff.mpr ha; have h2 := hc a; simp at h2; omega
    subst e1; subst e2
    obtain ⟨As, h1, h2⟩ := ih k2
    exact ⟨[] :: As, .yes k1 h1, fun a => by rw [own_cons, h2]; simp⟩
theorem own_nil (a : Addr) : own ([] : List (List Addr)) a = 0 := by simp [own]
/-- behind a def that owned nothing at its start -/
theorem SPost.cpost (h0 : ∀ a, own As a = 0) (p : SPost w st σ F H ρ As σ' F' H' ρ' As' C) : CPost w F H F' H' C where
  sF := p.sF
  sH := fun a o e => p.kH a o e (h0 a)
  same := p.same
  env := .nil
  uni := fun a => by have := p.uni a; have e := own_nil a; omega
  off := fun a h => p.off a (by have e := own_nil a; omega)
  old := fun a h => by
    rcases p.old a (by have e := own_nil a; omega) with z | z
    · rw [h0] at z; omega
    · exact .inr z
  new := fun a h1 h2 => by
    rcases p.new a h1 h2 with z | z
    · rw [h0] at z; omega
    · exact .inr z
  there := fun a h => p.there a (by have e := own_nil a; omega)
  slots := fun i => .inl ⟨rfl, rfl⟩
theorem CPost.to {w w' : Wd} (p : CPost w F H F' H' C) : CPost w' F H F' H' C := { p with env := .nil }
end
section
variable {T : NT} {W0 : World0} {w0 : Wd} {fa : Nat → Addr} {cv : Nat → Value} {S : Sem} {k : Nat}
/-- a def of the text and its slim form -/
structure DefF (T : NT) (glob : Nat → Bool) (w0 : Wd) (a : Addr) (hot : Bool) (fd : FnD) : Prop where
  ex : ∃ (oc : Value) (od : Option Addr) (dV kV doc pm : Value) (an : Option Addr) (cdv ct : Value) (osl : Array (Option Value)) (name qual : Str) (params : Arguments) (body : List Stmt) (scope : Scope) (N ps : List Str) (n : Nat),
    w0.K.lookup a = some ⟨oc, od, .func (PySem.W.fnOf name qual params body scope dV kV doc pm an cdv ct), osl⟩ ∧ PySem.W.codeIn w0.K cdv qual = true ∧ FnScope N ps scope ∧ Binds w0.K (PySem.W.fnOf name qual params body scope dV kV doc pm an cdv ct) ps [] ∧
    N.length = fd.n ∧ ps.length = fd.ps ∧ all2 (chkS ⟨T, glob, N, false⟩ n scope) fd.body body = true ∧ (hot = true → all2 (chkS ⟨T, glob, N, true⟩ n scope) fd.body body = true)
  kp : PySem.W.keepIn w0.K (.ref a) = true
/-- what holds of the calls -/
structure Lv (T : NT) (W0 : World0) (w0 : Wd) (fa : Nat → Addr) (S : Sem) (k : Nat) : Prop where
  fn : ∀ f, T.gf f = true → FnAt W0 w0 fa S k f
  fm : ∀ c m f, S.tab.meth c m = some f → FnAt W0 w0 fa S k f
  fp : ∀ c m f, S.tab.prop c m = some f → FnAt W0 w0 fa S k f
  nw : ∀ c, T.gc c = true → NewAt W0 w0 S k c
  rz : ∀ c, T.rc c = true → RzAt T W0 w0 S c
theorem like_self (h : w0.hx = none) : w0.Like w0 := ⟨rfl, rfl, rfl, h⟩
variable {A : Around} {outer : List PySem.Env} {s : Shared} {H : Hp} {E : XK} {N ps : List Str} {qual : Str} {scope : Scope} {f : Addr} {cd : Value}
theorem xs_cold (pr : Prog0 T W0 w0 fa cv S.tab) (lv : Lv T W0 w0 fa S k) (sc : FnScope N ps scope) (hr : Room (k + 1) (A.deeper (envOfC qual scope s.heap.objs.size f cd))) :
    XS T W0 w0 w0 fa cv S false k (fun cls d _ H => E cls d H) (cxOf (L2N.CX W0.P W0.w) W0.P W0.w w0.K W0.mg W0.base N qual scope f cd A outer s H E) where
  f := { pr := pr, prog := rfl, wd := rfl, mg := rfl, base := rfl, K := rfl, like := like_self pr.no, hx := fun _ => pr.no, units := by have := hr.un; show (A.deeper _).units + 65 < _; omega, room := fun _ => ⟨hr, rfl⟩, hot := (fun z => nomatch z),
         hxp := (fun a c d e => by rw [pr.no] at e; cases e), tk := L2N.takes_of rfl rfl rfl rfl, fn := lv.fn, fm := lv.fm, fp := lv.fp, nw := lv.nw, rz := lv.rz }
  stack := rfl
  frame := rfl
  nd := sc.nd
  po := PassesOwn.leaving
  fnt := fun _ => rfl
  fk := sc.kind
theorem xs_hot (pr : Prog0 T W0 w0 fa cv S.tab) (lv : Lv T W0 w0 fa S k) (sc : FnScope N ps scope) {p : Addr × Obj} (hot : L2H.Hot1 A p) (hr : L2H.RoomH (k + 1) (A.deeper (envOfC qual scope s.heap.objs.size f cd))) :
    XS T W0 w0 w0 fa cv S true k (fun cls d _ H => E cls d H) (L2H.cxH (L2N.CX W0.P W0.w) W0.P W0.w w0.K W0.mg W0.base N qual scope f cd A outer s H E p) where
  f := { pr := pr, prog := rfl, wd := rfl, mg := rfl, base := rfl, K := rfl, like := like_self pr.no, hx := (fun z => nomatch z), units := by have := hr.un; show (A.deeper _).units + 65 < _; omega, room := (fun z => nomatch z), hot := fun _ => ⟨hr, p, hot, List.mem_cons_self⟩,
         hxp := (fun a c d e => by rw [pr.no] at e; cases e), tk := L2N.takes_of rfl rfl rfl rfl, fn := lv.fn, fm := lv.fm, fp := lv.fp, nw := lv.nw, rz := lv.rz }
  stack := rfl
  frame := rfl
  nd := sc.nd
  po := PassesOwn.leaving
  fnt := fun _ => rfl
  fk := sc.kind
/-- a body run to its end -/
theorem body_go {h : Bool} {fd : FnD} {vs : List V} {Q : VK} (hps : ps.length = fd.ps) (hn : N.length = fd.n) (q : spF w0 (runBody S h fd) vs H Q E) :
    vs.length = ps.length ∧ tSsv S h w0 (fun cls d _ H => E cls d H) fd.body { nx := fun _ H' => Q .non H', rt := Q } (L2.start N vs) H := by
  obtain ⟨F, ds, sm, r, fin⟩ := q
  have hl := r.len
  unfold runBody at fin
  by_cases hd : ds.length = fd.ps
  · rw [if_pos hd] at fin
    refine ⟨by omega, ?_⟩
    obtain ⟨As, en, h0⟩ := env_start (m := fd.n - ds.length) r
    have es : L2.start N vs = vs.map some ++ List.replicate (fd.n - ds.length) none := by unfold L2.start; rw [hn, hl]
    rw [es]
    refine ⟨F, _, As, ⟨sm, en, fun a => by rw [h0]; omega, fun a h => by rw [h0] at h; omega⟩, ?_⟩
    cases e : evalSs S h fd.body (ds.map some ++ List.replicate (fd.n - ds.length) none) with
    | none => rw [e] at fin; exact fin.elim
    | some r =>
      obtain ⟨fl, ρ'⟩ := r
      rw [e] at fin
      cases fl with
      | nx => exact fun σ' F' H' As' p => fin .non F' H' [] (p.cpost h0) (.non .nil)
      | rt d => exact fun v σ' F' H' As' C p k => fin v F' H' C (p.cpost h0) k
      | ex c xs => exact fun dd σ' F' H' As' p x => fin dd F' H' (p.cpost h0) x
      | bk => exact fin.elim
      | ct => exact fin.elim
  · rw [if_neg hd] at fin; exact fin.elim
/-- __init__, run to its end -/
theorem init_go {fd : FnD} (hbig : (storesL fd.body).contains big = false) {c : Nat} {vs : List V} {Q : VK} (hps : ps.length = fd.ps) (hn : N.length = fd.n) (h2 : 1 ≤ fd.ps) (q : spI w0 c (runInit S false fd c) vs H Q E) :
    vs.length = ps.length ∧ tSsv S false w0 (fun cls d _ H => E cls d H) fd.body { nx := fun _ H' => Q .non H', rt := fun _ _ => False } (L2.start N vs) H := by
  obtain ⟨H1, x, dx, us, F, ds, rfl, hx, hdx, ne, rfl, sm, r, fin⟩ := q
  have hl := r.len
  unfold runInit at fin
  by_cases hd : ds.length + 1 = fd.ps
  · rw [if_pos hd] at fin
    refine ⟨by simp; omega, ?_⟩
    have sH : Same H1 (upd (upd H1 dx (.own x)) x (.ins (w0.ca c) dx [])) := fun a o e => by
      have n1 : a ≠ x := fun z => by rw [z, hx] at e; cases e
      have n2 : a ≠ dx := fun z => by rw [z, hdx] at e; cases e
      rw [upd_ne n1, upd_ne n2]; exact e
    obtain ⟨As, en, h0⟩ := env_start (m := fd.n - (ds.length + 1)) (r.mono (H' := upd (upd H1 dx (.own x)) x (.ins (w0.ca c) dx [])) (Same.refl F) (by simp))
    have es : L2.start N (.ref x :: us) = some (.ref x) :: (us.map some ++ List.replicate (fd.n - (ds.length + 1)) none) := by
      unfold L2.start
      rw [hn]
      simp [hl]
    rw [es]
    have Fx : F x = none := by
      cases e : F x with
      | none => rfl
      | some o => have := sm x o e; rw [hx] at this; cases this
    have zip0 : (w0.fn c).zip ([] : List V) = [] := by simp
    have own0 : ∀ a, own ([x] :: As) a = if x = a then 1 else 0 := fun a => by
      rw [own_cons, h0]
      by_cases e : x = a
      · subst e; simp
      · simp [e]
    have en2 : EnvR w0 F (upd (upd H1 dx (.own x)) x (.ins (w0.ca c) dx [])) (some (.ref x) :: (us.map some ++ List.replicate (fd.n - (ds.length + 1)) none)) (some (.ins true c []) :: (ds.map some ++ List.replicate (fd.n - (ds.length + 1)) none)) ([x] :: As) := by
      refine .yes ?_ en
      have := RepL.insO (w := w0) (F := F) (H := upd (upd H1 dx (.own x)) x (.ins (w0.ca c) dx [])) (a := x) (dx := dx) (c := c) (ws := []) (xs := []) (B := []) (vs := []) (ds := []) (A := []) (by rw [zip0]; exact upd_same) (by simp) .nil .nil
      simpa using this
    have pr : Pre w0 F (upd (upd H1 dx (.own x)) x (.ins (w0.ca c) dx [])) (some (.ref x) :: (us.map some ++ List.replicate (fd.n - (ds.length + 1)) none)) (some (.ins true c []) :: (ds.map some ++ List.replicate (fd.n - (ds.length + 1)) none)) ([x] :: As) :=
      ⟨sm.trans sH, en2, fun a => by rw [own0]; split <;> omega, fun a h => by rw [own0] at h; split at h <;> first | omega | (rename_i e; rw [← e]; exact Fx)⟩
    refine ⟨F, _, _, pr, ?_⟩
    -- what the callee leaves, seen from ahead of the instance
    have back : ∀ {σ' : L2.St} {F' H' : Hp} {ρ' : Env} {As' : List (List Addr)} {C C0 : List Addr} {st : Nat → Prop}, SPost w0 st (some (.ref x) :: (us.map some ++ List.replicate (fd.n - (ds.length + 1)) none)) F (upd (upd H1 dx (.own x)) x (.ins (w0.ca c) dx [])) (some (.ins true c []) :: (ds.map some ++ List.replicate (fd.n - (ds.length + 1)) none)) ([x] :: As) σ' F' H' ρ' As' C →
        (∀ a, C0.count a ≤ own As' a + C.count a) → CPost w0 F H1 F' H' C0 := fun {σ' F' H' ρ' As' C C0 st} p hC => by
      have old : ∀ a, (0 < own ([x] :: As) a ∨ (upd (upd H1 dx (.own x)) x (.ins (w0.ca c) dx [])) a = none) → H1 a = none := fun a z => by
        rcases z with z | z
        · rw [own0] at z
          split at z
          · rename_i e; rw [← e]; exact hx
          · omega
        · by_cases e : a = x
          · rw [e]; exact hx
          · rw [upd_ne e] at z
            by_cases e2 : a = dx
            · rw [e2]; exact hdx
            · rw [upd_ne e2] at z; exact z
      refine ⟨p.sF, fun a o e => p.kH a o (sH a o e) ?_, p.same, .nil, fun a => by have := p.uni a; have := hC a; have e := own_nil a; omega, fun a h => p.off a ?_, fun a h => .inr (old a (p.old a ?_)), fun a h1 h2 => .inr (old a (p.new a h1 h2)), fun a h => p.there a ?_, fun i => .inl ⟨rfl, rfl⟩⟩
      · rw [own0, if_neg]
        intro z; subst z; rw [hx] at e; cases e
      · have := hC a; have e := own_nil a; omega
      · have := hC a; have e := own_nil a; omega
      · have := hC a; have e := own_nil a; omega
    cases e : evalSs S false fd.body (some (.ins true c []) :: (ds.map some ++ List.replicate (fd.n - (ds.length + 1)) none)) with
    | none => rw [e] at fin; exact fin.elim
    | some r =>
      obtain ⟨fl, ρ'⟩ := r
      rw [e] at fin
      cases fl with
      | nx =>
        intro σ' F' H' As' p
        match ρ', fin, p with
        | some (.ins true c' xs) :: ρr, fin, p =>
          simp only at fin
          by_cases hc : c' = c
          · subst hc
            rw [if_pos rfl] at fin
            obtain ⟨v, A, h1, h2, kv⟩ := p.env.get (i := 0) rfl
            have hv : v = .ref x := by
              have := p.sig (by simpa using hbig)
              rw [h1] at this
              simpa using this
            exact fin v F' H' A (back p fun a => by have := own_get h2 a; omega) kv hv
          · rw [if_neg hc] at fin; exact fin.elim
        | [], fin, p => exact fin.elim
        | none :: _, fin, p => exact fin.elim
        | some (.ins false _ _) :: _, fin, p => exact fin.elim
        | some .non :: _, fin, p => exact fin.elim
        | some (.bl _) :: _, fin, p => exact fin.elim
        | some (.int _) :: _, fin, p => exact fin.elim
        | some (.str _) :: _, fin, p => exact fin.elim
        | some (.scr _) :: _, fin, p => exact fin.elim
        | some (.tup _) :: _, fin, p => exact fin.elim
        | some (.lst _ _) :: _, fin, p => exact fin.elim
        | some (.exn _ _) :: _, fin, p => exact fin.elim
      | rt d => exact fin.elim
      | ex c xs => exact fun dd σ' F' H' As' p x => fin dd F' H' (back p (by simp)) x
      | bk => exact fin.elim
      | ct => exact fin.elim
  · rw [if_neg hd] at fin; exact fin.elim
end
end SL
set_option Elab.async false
set_option linter.all false
set_option maxRecDepth 100000
set_option maxHeartbeats 4000000
/-! SLLv: the evaluator's depth. -/
namespace SL
open PySem PySem.Spec PyProof.Rows L2
/-- what is asked of a program -/
structure PF (T : NT) (glob : Nat → Bool) (W0 : World0) (w0 : Wd) (fa : Nat → Addr) (cv : Nat → Value) (P : Prog) : Prop where
  pr : Prog0 T W0 w0 fa cv P.tab
  gl : ∀ g, glob g = true → (P.tab.glob g).isSome = true
  fn : ∀ f fd, P.fns f = some fd → DefF T glob w0 (fa f) (P.hot f) fd
  gf : ∀ f, T.gf f = true → (P.fns f).isSome = true
  gm : ∀ c m f, P.tab.meth c m = some f → (P.fns f).isSome = true
  gp : ∀ c m f, P.tab.prop c m = some f → (P.fns f).isSome = true
  nw : ∀ c, T.gc c = true → ∃ f fd, P.init c = some f ∧ P.fns f = some fd ∧ Mk w0.K (w0.ca c) (fa f) ∧ 1 ≤ fd.ps ∧ (storesL fd.body).contains big = false
  rz : ∀ c, T.rc c = true → RzAt T W0 w0 ⟨fun _ _ _ => none, fun _ _ _ => none, P.tab⟩ c
section
variable {T : NT} {glob : Nat → Bool} {W0 : World0} {w0 : Wd} {fa : Nat → Addr} {cv : Nat → Value} {P : Prog}
theorem semN_tab : ∀ n, (semN P n).tab = P.tab
  | 0 => rfl
  | n + 1 => rfl
theorem spF_none {w : Wd} {vs : List V} {H : Hp} {Q : VK} {E : XK} : ¬ spF w (fun _ => none) vs H Q E := fun ⟨_, _, _, _, h⟩ => h
theorem spI_none {w : Wd} {c : Nat} {vs : List V} {H : Hp} {Q : VK} {E : XK} : ¬ spI w c (fun _ => none) vs H Q E := fun ⟨_, _, _, _, _, _, _, _, _, _, _, _, _, h⟩ => h
theorem rz_tab {S S' : Sem} (e : S'.tab = S.tab) {c : Nat} (r : RzAt T W0 w0 S c) : RzAt T W0 w0 S' c := ⟨r.ex, r.cls, r.no, r.mg, ⟨r.len.1, by rw [e]; exact r.len.2⟩⟩
theorem fnAt_step (F : PF T glob W0 w0 fa cv P) {n : Nat} (lv : Lv T W0 w0 fa (semN P n) (2 * n + 1)) {f : Nat} {fd : FnD} (hf : P.fns f = some fd) : FnAt W0 w0 fa (semN P (n + 1)) (2 * (n + 1) + 1) f := by
  obtain ⟨⟨oc, od, dV, kV, doc, pm, an, cdv, ct, osl, name, qual, params, body, scope, N, ps, m, lk, hcd, sc, hb, hN, hps, c1, c2⟩, kp⟩ := F.fn f fd hf
  have pr : Prog0 T W0 w0 fa cv (semN P n).tab := by rw [semN_tab]; exact F.pr
  have gl : ∀ g, glob g = true → ((semN P n).tab.glob g).isSome = true := by rw [semN_tab]; exact F.gl
  refine ⟨⟨_, ps, hb, ?_, ?_⟩, kp⟩
  · have e : (semN P (n + 1)).fn false f = runBody (semN P n) false fd := by funext ds; simp [semN, hf]
    rw [e]
    refine fn_of (k := 2 * n + 2) lk hcd sc (fun vs H Q E q => (body_go hps hN q).1) fun A outer s H vs Q E hr q => ?_
    have xs := xs_cold (E := E) (f := fa f) (cd := cdv) (qual := qual) (A := A) (outer := outer) (s := s) (H := H) pr lv sc hr
    exact ⟨_, sts_ok (chkS_ok (by omega) m ⟨T, glob, N, false⟩ rfl gl _ w0 _ xs rfl) c1, (body_go hps hN q).2⟩
  · cases hh : P.hot f with
    | false =>
      have e : (semN P (n + 1)).fn true f = fun _ => none := by funext ds; simp [semN, hh]
      rw [e]
      exact ⟨fun vs H Q E q => absurd q spF_none, fun A outer s H args us vs Q E p _ _ _ _ _ _ q => absurd q spF_none⟩
    | true =>
      have e : (semN P (n + 1)).fn true f = runBody (semN P n) true fd := by funext ds; simp [semN, hf, hh]
      rw [e]
      refine L2H.fn_ofH (k := 2 * n + 2) lk hcd sc (fun vs H Q E q => (body_go hps hN q).1) fun A outer s H vs Q E p hot hr q => ?_
      have xs := xs_hot (E := E) (f := fa f) (cd := cdv) (qual := qual) (A := A) (outer := outer) (s := s) (H := H) pr lv sc hot hr
      exact ⟨_, sts_ok (chkS_ok (by omega) m ⟨T, glob, N, true⟩ rfl gl _ w0 _ xs rfl) (c2 hh), (body_go hps hN q).2⟩
theorem newAt_step (F : PF T glob W0 w0 fa cv P) {n : Nat} (lv : Lv T W0 w0 fa (semN P n) (2 * n + 1)) {c : Nat} (hc : T.gc c = true) : NewAt W0 w0 (semN P (n + 1)) (2 * (n + 1) + 1) c := by
  obtain ⟨f, fd, hi, hf, M, h1, hbig⟩ := F.nw c hc
  obtain ⟨⟨oc, od, dV, kV, doc, pm, an, cdv, ct, osl, name, qual, params, body, scope, N, ps, m, lk, hcd, sc, hb, hN, hps, c1, c2⟩, kp⟩ := F.fn f fd hf
  have pr : Prog0 T W0 w0 fa cv (semN P n).tab := by rw [semN_tab]; exact F.pr
  have gl : ∀ g, glob g = true → ((semN P n).tab.glob g).isSome = true := by rw [semN_tab]; exact F.gl
  refine ⟨⟨fa f, _, ps, M, hb, ?_⟩⟩
  have e : (semN P (n + 1)).new false c = runInit (semN P n) false fd c := by funext ds; simp [semN, hi, hf]
  rw [e]
  refine fn_of (k := 2 * n + 2) lk hcd sc (fun vs H Q E q => (init_go hbig hps hN h1 q).1) fun A outer s H vs Q E hr q => ?_
  have xs := xs_cold (E := E) (f := fa f) (cd := cdv) (qual := qual) (A := A) (outer := outer) (s := s) (H := H) pr lv sc hr
  refine ⟨_, sts_ok (chkS_ok (by omega) m ⟨T, glob, N, false⟩ rfl gl _ w0 _ xs rfl) c1, ?_⟩
  obtain ⟨F', ρ, As, p, z⟩ := (init_go hbig hps hN h1 q).2
  exact ⟨F', ρ, As, p, z.ends (fun _ _ h => h) (fun _ _ h => h.elim) (fun _ _ h => h) (fun _ _ h => h)⟩
theorem lv_all (F : PF T glob W0 w0 fa cv P) : ∀ n, Lv T W0 w0 fa (semN P n) (2 * n + 1)
  | 0 => by
    have fn : ∀ f, (P.fns f).isSome = true → FnAt W0 w0 fa (semN P 0) (2 * 0 + 1) f := fun f hf => by
      obtain ⟨fd, hf⟩ := Option.isSome_iff_exists.mp hf
      obtain ⟨⟨oc, od, dV, kV, doc, pm, an, cdv, ct, osl, name, qual, params, body, scope, N, ps, m, lk, hcd, sc, hb, hN, hps, c1, c2⟩, kp⟩ := F.fn f fd hf
      exact ⟨⟨_, ps, hb, ⟨fun vs H Q E q => absurd q spF_none, fun A outer s H args us vs Q E _ _ _ _ q => absurd q spF_none⟩, ⟨fun vs H Q E q => absurd q spF_none, fun A outer s H args us vs Q E p _ _ _ _ _ _ q => absurd q spF_none⟩⟩, kp⟩
    refine ⟨fun f h => fn f (F.gf f h), fun c m f h => fn f (F.gm c m f h), fun c m f h => fn f (F.gp c m f h), fun c hc => ?_, fun c hc => rz_tab (semN_tab _) (F.rz c hc)⟩
    obtain ⟨f, fd, hi, hf, M, h1, hbig⟩ := F.nw c hc
    obtain ⟨⟨oc, od, dV, kV, doc, pm, an, cdv, ct, osl, name, qual, params, body, scope, N, ps, m, lk, hcd, sc, hb, hN, hps, c1, c2⟩, kp⟩ := F.fn f fd hf
    exact ⟨⟨fa f, _, ps, M, hb, fun vs H Q E q => absurd q spI_none, fun A outer s H args us vs Q E _ _ _ _ q => absurd q spI_none⟩⟩
  | n + 1 => by
    have lv := lv_all F n
    have fn : ∀ f, (P.fns f).isSome = true → FnAt W0 w0 fa (semN P (n + 1)) (2 * (n + 1) + 1) f := fun f hf => by
      obtain ⟨fd, hf⟩ := Option.isSome_iff_exists.mp hf
      exact fnAt_step F lv hf
    exact ⟨fun f h => fn f (F.gf f h), fun c m f h => fn f (F.gm c m f h), fun c m f h => fn f (F.gp c m f h), fun c hc => newAt_step F lv hc, fun c hc => rz_tab (semN_tab _) (F.rz c hc)⟩
end
end SL
set_option Elab.async false
set_option linter.all false
set_option maxRecDepth 100000
set_option maxHeartbeats 4000000
/-! SLJoin: from what the top has written to PF. -/
namespace SL
open PySem PySem.Spec PyProof.Rows L2

/-- a def as the top has written it -/
structure DefK (K : PySem.W.Frag) (a : Addr) (name qual : Str) (st : Stmt) : Prop where
  ex : ∃ (oc : Value) (od : Option Addr) (kV doc pm : Value) (an : Option Addr) (cdv ct : Value) (osl : Array (Option Value)),
    K.lookup a = some ⟨oc, od, .func (PySem.W.fnOf name qual (defArgs st) (defBody st) (defScope st) .none kV doc pm an cdv ct), osl⟩ ∧ PySem.W.codeIn K cdv qual = true
  kp : PySem.W.keepIn K (.ref a) = true
theorem defK {K : PySem.W.Frag} {a : Addr} {name qual : Str} {st : Stmt} {oc : Value} {od an : Option Addr} {osl : Array (Option Value)} {kV doc pm cdv ct : Value} (l : K.lookup a = some ⟨oc, od, .func (PySem.W.fnOf name qual (defArgs st) (defBody st) (defScope st) .none kV doc pm an cdv ct), osl⟩)
    (c : PySem.W.codeIn K cdv qual = true) (k : PySem.W.keepIn K (.ref a) = true) : DefK K a name qual st := ⟨⟨oc, od, kV, doc, pm, an, cdv, ct, osl, l, c⟩, k⟩
def kindB (sc : Scope) : Bool := match sc.kind with | .function => true | _ => false
def scB (N ps : List Str) (sc : Scope) : Bool := kindB sc && !sc.isCoroutine && !sc.isGenerator && decide N.Nodup && decide (N.take ps.length = ps) && (ps.all fun x => decide (sc.names.lookup x = some .local) || decide (sc.names.lookup x = some .cell)) &&
  sc.names.all fun y => !decide (y.2 = .free)
theorem scB_ok {N ps : List Str} {sc : Scope} (h : scB N ps sc = true) : FnScope N ps sc := by
  unfold scB at h
  simp only [Bool.and_eq_true, decide_eq_true_eq, Bool.not_eq_true', List.all_eq_true, Bool.or_eq_true, decide_eq_false_iff_not] at h
  obtain ⟨⟨⟨⟨⟨⟨h1, h2⟩, h3⟩, h4⟩, h5⟩, h6⟩, h7⟩ := h
  refine ⟨?_, h2, h3, h4, h5, h6, fun y hy => h7 y hy⟩
  unfold kindB at h1
  split at h1
  · assumption
  · cases h1
/-- the check of one def -/
def defB (T : NT) (glob : Nat → Bool) (m : Nat) (N ps : List Str) (st : Stmt) (hot : Bool) (fd : FnD) : Bool :=
  scB N ps (defScope st) && decide (N.length = fd.n) && decide (ps.length = fd.ps) && all2 (chkS ⟨T, glob, N, false⟩ m (defScope st)) fd.body (defBody st) && (!hot || all2 (chkS ⟨T, glob, N, true⟩ m (defScope st)) fd.body (defBody st))
theorem defF_of {T : NT} {glob : Nat → Bool} {w0 : Wd} {a : Addr} {name qual : Str} {st : Stmt} {hot : Bool} {fd : FnD} {m : Nat} (N ps : List Str) (d : DefK w0.K a name qual st)
    (hb : ∀ (kV doc pm : Value) (an : Option Addr) (cdv ct : Value) (us : List Value), us.length = ps.length → bindArgs (PySem.W.fnOf name qual (defArgs st) (defBody st) (defScope st) .none kV doc pm an cdv ct) ⟨us, []⟩ = pure (ps.zip us))
    (h : defB T glob m N ps st hot fd = true) : DefF T glob w0 a hot fd := by
  obtain ⟨⟨oc, od, kV, doc, pm, an, cdv, ct, osl, lk, hc⟩, kp⟩ := d
  unfold defB at h
  simp only [Bool.and_eq_true, decide_eq_true_eq, Bool.or_eq_true, Bool.not_eq_true'] at h
  obtain ⟨⟨⟨⟨h1, h2⟩, h3⟩, h4⟩, h5⟩ := h
  exact ⟨⟨oc, od, .none, kV, doc, pm, an, cdv, ct, osl, name, qual, _, _, _, N, ps, m, lk, hc, scB_ok h1, .all (hb kV doc pm an cdv ct), h2, h3, h4, fun e => by rcases h5 with z | z; rw [e] at z; cases z; exact z⟩, kp⟩
/-! ### classes -/
def clsB (K : PySem.W.Frag) (C : Addr) : Bool := PySem.W.plainGet K C Str.empty && PySem.W.hasDictIn K C && PySem.W.plainOver K C && (PySem.W.findIn K (.ref C) "__setattr__" == some (some (.builtin "object.__setattr__")))
def obB (K : PySem.W.Frag) (C : Addr) : Bool := (PySem.W.findIn K (.ref C) "__class__" == some (some (.builtin "object.__class__"))) && (PySem.W.specialIn K (.builtin "object.__class__") "__get__" == some (some (.builtin "getset_descriptor.__get__"))) &&
  (PySem.W.takesIn K (.builtin "object.__class__") == some true) && (PySem.W.mroIn K C (.type "object") == some true)
def noB (K : PySem.W.Frag) (C : Addr) (fs : List Str) : Bool := fs.all fun f => PySem.W.findIn K (.ref C) f == some none
theorem clsB_ok {K : PySem.W.Frag} {C : Addr} (h : clsB K C = true) : Cls K C := by
  unfold clsB at h
  simp only [Bool.and_eq_true, beq_iff_eq] at h
  exact ⟨h.1.1.1, h.1.1.2, h.1.2, h.2⟩
theorem obB_ok {K : PySem.W.Frag} {C : Addr} (h : obB K C = true) : ClsOb K C := by
  unfold obB at h
  simp only [Bool.and_eq_true, beq_iff_eq] at h
  exact ⟨h.1.1.1, h.1.1.2, h.1.2, h.2⟩
theorem noB_ok {K : PySem.W.Frag} {C : Addr} {fs : List Str} (h : noB K C fs = true) : ∀ f ∈ fs, PySem.W.findIn K (.ref C) f = some none := fun f hf => by
  unfold noB at h
  simp only [List.all_eq_true, beq_iff_eq] at h
  exact h f hf
structure ClsK (K : PySem.W.Frag) (C : Addr) (fs : List Str) : Prop where
  cl : Cls K C
  ob : ClsOb K C
  no : ∀ f ∈ fs, PySem.W.findIn K (.ref C) f = some none
theorem clsK {K : PySem.W.Frag} {C : Addr} {fs : List Str} (h : (clsB K C && obB K C && noB K C fs) = true) : ClsK K C fs := by
  simp only [Bool.and_eq_true] at h
  exact ⟨clsB_ok h.1.1, obB_ok h.1.2, noB_ok h.2⟩
structure ExcK (K : PySem.W.Frag) (C : Addr) (fs : List Str) : Prop where
  xf : XfC K C
  cs : (PySem.W.clsIn K C).isSome = true
  ob : ClsOb K C
  no : ∀ f ∈ fs, PySem.W.findIn K (.ref C) f = some none
theorem excK {K : PySem.W.Frag} {C : Addr} {fs : List Str} (h : (xfB K C && (PySem.W.clsIn K C).isSome && obB K C && noB K C fs) = true) : ExcK K C fs := by
  simp only [Bool.and_eq_true] at h
  exact ⟨xfB_ok h.1.1.1, h.1.1.2, obB_ok h.1.2, noB_ok h.2⟩
def mkB (K : PySem.W.Frag) (C f : Addr) : Bool := PySem.W.makesIn K C && (PySem.W.findIn K (.ref C) "__init__" == some (some (.ref f))) && PySem.W.isFn K (.ref f) && PySem.W.keepIn K (.ref C)
theorem mkB_ok {K : PySem.W.Frag} {C f : Addr} (h : mkB K C f = true) : Mk K C f := by
  unfold mkB at h
  simp only [Bool.and_eq_true, beq_iff_eq] at h
  exact ⟨h.1.1.1, h.1.1.2, h.1.2, h.2⟩
def methB (K : PySem.W.Frag) (C : Addr) (m : Str) (f : Addr) : Bool := (PySem.W.findIn K (.ref C) m == some (some (.ref f))) && PySem.W.isFn K (.ref f) && PySem.W.keepIn K (.ref f)
theorem methB_ok {K : PySem.W.Frag} {C f : Addr} {m : Str} (h : methB K C m f = true) : L2.Meth K C m f := by
  unfold methB at h
  simp only [Bool.and_eq_true, beq_iff_eq] at h
  exact ⟨h.1.1, h.1.2, h.2⟩
def oexB (K : PySem.W.Frag) (C : Addr) : Bool := (PySem.W.findIn K (.ref C) "__setattr__" == some (some (.builtin "object.__setattr__"))) && (PySem.W.subIn K (.ref C) (.type "BaseException") == some true) && (PySem.W.typeIn K (.ref C) == some (.type "type")) && PySem.W.keepIn K (.ref C)
theorem oexB_ok {K : PySem.W.Frag} {C : Addr} (hc : ∃ nm q N bs bm sn sub ab col dd k0 k1 k2 k3 k5, K.lookup C = some (excClassObj nm q C N bs bm true sn sub ab col dd k0 k1 k2 k3 k5 "ValueError.__new__") ∧ PySem.HandSPX.refsVE bm = true) (h : oexB K C = true) : OexC K C := by
  unfold oexB at h
  simp only [Bool.and_eq_true, beq_iff_eq] at h
  exact ⟨hc, h.1.1.1, h.1.1.2, h.1.2, h.2⟩
/-- an exception's __init__ -/
def rzB (K : PySem.W.Frag) (C f : Addr) (fs : List Str) (N : List Str) (st : Stmt) : Bool := oexB K C && (PySem.W.findIn K (.ref C) "__init__" == some (some (.ref f))) && (PySem.W.typeIn K (.ref f) == some (.type "function")) && noB K C fs &&
  scB N N (defScope st) && decide (N.length = fs.length + 1) && !nilB fs && chkXi N (defScope st) (defBody st) fs.reverse 0
section
variable {T : NT} {W0 : World0} {w0 : Wd}
theorem rz_of {S : Sem} {c : Nat} {f : Addr} {name qual : Str} {st : Stmt} (N : List Str) (d : DefK w0.K f name qual st)
    (hb : ∀ (kV doc pm : Value) (an : Option Addr) (cdv ct : Value) (us : List Value), us.length = N.length → bindArgs (PySem.W.fnOf name qual (defArgs st) (defBody st) (defScope st) .none kV doc pm an cdv ct) ⟨us, []⟩ = pure (N.zip us))
    (hc : ∃ nm q N bs bm sn sub ab col dd k0 k1 k2 k3 k5, w0.K.lookup (w0.ca c) = some (excClassObj nm q (w0.ca c) N bs bm true sn sub ab col dd k0 k1 k2 k3 k5 "ValueError.__new__") ∧ PySem.HandSPX.refsVE bm = true)
    (mg : W0.mg (T.cl c) = some (.ref (w0.ca c))) (hd : (T.cl c == ("__debug__" : Str)) = false) (hl : (w0.fn c).length ≤ 800) (hx : (w0.fn c).length = (S.tab.xf c).length)
    (h : rzB w0.K (w0.ca c) f (w0.fn c) N st = true) : RzAt T W0 w0 S c := by
  obtain ⟨⟨oc, od, kV, doc, pm, an, cdv, ct, osl, lk, hcd⟩, kp⟩ := d
  unfold rzB at h
  simp only [Bool.and_eq_true, beq_iff_eq, decide_eq_true_eq] at h
  obtain ⟨⟨⟨⟨⟨⟨⟨h1, h2⟩, h3⟩, h4⟩, h5⟩, h6⟩, h7⟩, h8⟩ := h
  have O := oexB_ok hc h1
  refine ⟨⟨f, _, N, h2, h3, .all (hb kV doc pm an cdv ct), ?_⟩, O, noB_ok h4, ⟨mg, hd⟩, hl, hx⟩
  have hlen : ∀ {vs : List V} {H : Hp} {Q : VK} {E : XK}, spX w0.K (w0.ca c) (w0.fn c).reverse vs H Q E → vs.length = N.length := fun ⟨a, ys, e, hy, _⟩ => by rw [e, h6]; simp [hy]
  refine fn_of (k := 0) lk hcd (scB_ok h5) (fun vs H Q E q => hlen q) fun A outer s H vs Q E hr q => ?_
  cases e : (w0.fn c).reverse with
  | nil =>
    have : w0.fn c = [] := by simpa using e
    rw [this] at h7; simp [nilB] at h7
  | cons g gs =>
    rw [e] at h8
    have hl := hlen q
    rw [e] at q
    exact xi_fn (X := cxOf (L2N.CX W0.P W0.w) W0.P W0.w w0.K W0.mg W0.base N qual (defScope st) f cdv A outer s H E) (C := w0.ca c) h8 q hl.symm
end
/-! ### tables -/
theorem lookup_mem {α β : Type} [BEq α] [LawfulBEq α] {k : α} {v : β} : ∀ {l : List (α × β)}, l.lookup k = some v → (k, v) ∈ l
  | [], h => by cases h
  | (a, b) :: l, h => by
    rw [List.lookup_cons] at h
    split at h
    · rename_i e
      cases h
      rw [beq_iff_eq] at e
      subst e
      exact List.mem_cons_self
    · exact List.mem_cons_of_mem _ (lookup_mem h)
theorem idxOf_get {α : Type} [BEq α] [LawfulBEq α] {f : α} {l : List α} {k : Nat} (h : l.idxOf? f = some k) : l[k]? = some f := by
  induction l generalizing k with
  | nil => simp [List.idxOf?] at h
  | cons a l ih =>
    rw [List.idxOf?, List.findIdx?_cons] at h
    split at h
    · rename_i e
      cases h
      rw [beq_iff_eq] at e
      simp [e]
    · cases q : List.findIdx? (fun x => x == f) l with
      | none => rw [q] at h; cases h
      | some j =>
        rw [q] at h
        cases h
        simpa using ih q
/-- a module's tuple -/
theorem globT {w0 : Wd} {K : PySem.W.Frag} {a : Addr} {its : Array Value} {n : Nat} {sl : Array (Option Value)} {xs : List V} {ds : List D} (hK : w0.K = K) (l : K.lookup a = some ⟨.type "tuple", none, .seq its n, sl⟩) (hz : its.size ≤ sizeLine) (hv : Vals xs its.toList)
    (r : ∀ F H : Hp, RepL w0 F H xs ds []) : ∀ F H : Hp, Rep w0 F H (.ref a) (.tup ds) [] := fun F H => .tup (.inr ⟨its, n, sl, by rw [hK]; exact l, hz, hv⟩) (r F H) .nil
theorem vals_str {x : Str} {t : Nat} {xs : List V} {us : List Value} (h : Vals xs us) : Vals (.str x :: xs) (.str x t :: us) := .cons ⟨t, rfl⟩ h
theorem vals_int {x : Int} {t : Nat} {xs : List V} {us : List Value} (h : Vals xs us) : Vals (.int x :: xs) (.int x t :: us) := .cons ⟨t, rfl⟩ h
/-- the law's own end -/
theorem hsp_of {w0 : Wd} {o : List D → Option Out} {m : Nat} (h : ∀ ns : List Int, ns.length ≤ m → o [.scr ns] = some (.ret (.bl true))) (H : Hp) (a : Addr) (ns : List Int) (hl : ns.length ≤ m) (ho : Only H) (hs : SqL w0.K H a (ns.map V.int)) :
    spF w0 o [.ref a] H (fun v _ => v = .bl true) fun _ _ _ => False := by
  refine ⟨H, [.scr ns], fun _ _ e => e, .scr ?_ .nil, ?_⟩
  · rcases hs with (e | ⟨o, e⟩) | e
    · rcases ho a with z | ⟨o, xs, z⟩
      · rw [z] at e; cases e
      · rw [z] at e; cases e
    · exact .inl ⟨o, e⟩
    · exact .inr fun _ => .inr e
  · rw [h ns hl]
    intro v F' H' C c r
    cases r; rfl
end SL
namespace SL
open PySem PySem.Spec PyProof.Rows L2
section
variable {T : NT} {glob : Nat → Bool} {W0 : World0} {w0 : Wd} {fa : Nat → Addr} {cv : Nat → Value} {P : Prog}
/-- the law's def at its own function object -/
theorem law_of (F : PF T glob W0 w0 fa cv P) (n : Nat) {f m : Nat} {fd : FnD} {name qual : Str} {st : Stmt} {hot : Bool} {oc : Value} {od an : Option Addr} {osl : Array (Option Value)} {kV doc pm cdv ct : Value} (N ps : List Str) (hf : P.fns f = some fd)
    (lk : w0.K.lookup (fa f) = some ⟨oc, od, .func (PySem.W.fnOf name qual (defArgs st) (defBody st) (defScope st) .none kV doc pm an cdv ct), osl⟩) (hcd : PySem.W.codeIn w0.K cdv qual = true) (h : defB T glob m N ps st hot fd = true) :
    FnOk W0.P W0.w w0.K W0.mg W0.base (L2N.CX W0.P W0.w) (2 * (n + 1) + 1) (fa f) (PySem.W.fnOf name qual (defArgs st) (defBody st) (defScope st) .none kV doc pm an cdv ct) ps (spF w0 ((semN P (n + 1)).fn false f)) := by
  unfold defB at h
  simp only [Bool.and_eq_true, decide_eq_true_eq, Bool.or_eq_true, Bool.not_eq_true'] at h
  obtain ⟨⟨⟨⟨h1, hN⟩, hps⟩, c1⟩, -⟩ := h
  have lv := lv_all F n
  have pr : Prog0 T W0 w0 fa cv (semN P n).tab := by rw [semN_tab]; exact F.pr
  have gl : ∀ g, glob g = true → ((semN P n).tab.glob g).isSome = true := by rw [semN_tab]; exact F.gl
  have e : (semN P (n + 1)).fn false f = runBody (semN P n) false fd := by funext ds; simp [semN, hf]
  rw [e]
  have sc := scB_ok h1
  refine fn_of (k := 2 * n + 2) lk hcd sc (fun vs H Q E q => (body_go hps hN q).1) fun A outer s H vs Q E hr q => ?_
  have xs := xs_cold (E := E) (f := fa f) (cd := cdv) (qual := qual) (A := A) (outer := outer) (s := s) (H := H) pr lv sc hr
  exact ⟨_, sts_ok (chkS_ok (by omega) m ⟨T, glob, N, false⟩ rfl gl _ w0 _ xs rfl) c1, (body_go hps hN q).2⟩
end
theorem all_nil {α : Type} {p : α → Prop} : ∀ a ∈ ([] : List α), p a := fun _ h => nomatch h
theorem all_cons {α : Type} {p : α → Prop} {a : α} {l : List α} (h : p a) (t : ∀ a ∈ l, p a) : ∀ b ∈ a :: l, p b := List.forall_mem_cons.mpr ⟨h, t⟩
def bltL : List Str := ["len", "int", "str", "list", "tuple", "sum", "any", "all", "min", "max", "abs", "sorted", "isinstance", "range", "enumerate", "zip", "bool", "ValueError"]
def bltB (K : PySem.W.Frag) : Bool := bltL.all fun x => PySem.W.nsIn K mainGlobals x == some none
theorem bltB_ok {K : PySem.W.Frag} {h : Heap} {mg : Str → Option Value} (X : K.In h) (G : h.Ns mainGlobals mg) (e : bltB K = true) : ∀ x ∈ bltL, mg x = none := fun x hx => by
  unfold bltB at e
  simp only [List.all_eq_true, beq_iff_eq] at e
  exact PySem.W.mg_none_of X G (e x hx)
/-- no wish of an exception at the law's end -/
theorem no_cx (P : Program) (w : World) (H : Hp) (s : Shared) (e : Value) (s' : Shared) (h : L2N.CX P w [] H s (fun _ _ _ => False) e s') : False := by
  obtain ⟨_, _, _, _, _, _, _, _, _, _, _, _, z⟩ := h
  exact z
end SL
namespace SL
open PySem PySem.Spec PyProof.Rows L2
theorem propK {K : PySem.W.Frag} {C p g : Addr} {f : Str} {rest : List Value} (a : PySem.W.findIn K (.ref C) f = some (some (.ref p))) (r : PySem.W.recIn K p "property" = some (.ref g :: rest))
    (q : (PySem.W.specialIn K (.ref p) "__get__" == some (some (.builtin "property.__get__")) && PySem.W.takesIn K (.ref p) == some true) = true) : PropOf K C f p g := by
  simp only [Bool.and_eq_true, beq_iff_eq] at q
  exact ⟨a, q.1, q.2, _, r⟩
theorem fldK {K : PySem.W.Frag} {C : Addr} {at_ : Nat → Str} {fs : List Nat} {gs : List Str} {f k : Nat} (c : ClsK K C gs) (e : fs.map at_ = gs) (h : fs.idxOf? f = some k) : Cls K C ∧ NoAttr K C (at_ f) ∧ gs[k]? = some (at_ f) := by
  have hk := idxOf_get h
  subst e
  exact ⟨c.cl, c.no _ (List.mem_map.mpr ⟨f, List.mem_of_getElem? hk, rfl⟩), by rw [List.getElem?_map, hk]; rfl⟩
theorem xfK {K : PySem.W.Frag} {C : Addr} {at_ : Nat → Str} {fs : List Nat} {gs : List Str} {f k : Nat} (c : ExcK K C gs) (e : fs.map at_ = gs) (h : fs.idxOf? f = some k) : XfC K C ∧ PySem.W.findIn K (.ref C) (at_ f) = some none ∧ gs[k]? = some (at_ f) := by
  have hk := idxOf_get h
  subst e
  exact ⟨c.xf, c.no _ (List.mem_map.mpr ⟨f, List.mem_of_getElem? hk, rfl⟩), by rw [List.getElem?_map, hk]; rfl⟩
end SL
namespace SL
open PySem PySem.Spec PyProof.Rows L2
/-- what the law asks of its own def -/
def lawSp (K : PySem.W.Frag) (m : Nat) : Sp := fun vs H Q E => ∃ (a : Addr) (ns : List Int), vs = [.ref a] ∧ ns.length ≤ m ∧ Only H ∧ SqL K H a (ns.map V.int) ∧ Q = (fun v _ => v = .bl true) ∧ E = fun _ _ _ => False
theorem lawSp_of {w0 : Wd} {o : List D → Option Out} {m : Nat} (h : ∀ ns : List Int, ns.length ≤ m → o [.scr ns] = some (.ret (.bl true))) : ∀ vs H Q E, lawSp w0.K m vs H Q E → spF w0 o vs H Q E := by
  rintro vs H Q E ⟨a, ns, rfl, hl, ho, hs, rfl, rfl⟩
  exact hsp_of h H a ns hl ho hs
theorem walk_law {l : PySem.W.OpenLaw} {q : Program} {loose : List Str} {XP : (Str → Option Value) → Heap → Prop} {YP : World → Heap → Prop} {d : DefRec} {K : Params → PySem.W.Frag} {k : Nat} (hn : l.most = some 63) (hdf : d.params.defaults = []) (hr : Room k callerA)
    (hY : ∀ (w : World) (h : Heap), YP w h → (K w.params).In h)
    (F : ∀ (w : World) (mg : Str → Option Value) (fa : Addr) (h : Heap), (K w.params).In h → h.Ns mainGlobals mg → mg d.name = some (.ref fa) →
      ∃ fd : FuncData, (∀ (s : Shared) (u : Value), BindsTo s fd ⟨[u], []⟩ [("script", u)]) ∧ ∀ base : Heap, (K w.params).In base → base.Ns mainGlobals mg → FnOk l.prog w (K w.params) mg base (L2N.CX l.prog w) k fa fd ["script"] (lawSp (K w.params) 63)) :
    PySem.W.WalkO q loose XP YP l.row.toRowW d [] (fun f vs => PySem.call f vs) :=
  L2.walk_of (n := 63) (k := k) (x := "script") (CX := fun w => L2N.CX l.prog w) (sp := fun w => lawSp (K w.params) 63) hn (by decide) hdf hr hY F (fun w H a ns hl ho hS => ⟨a, ns, rfl, hl, ho, hS, rfl, rfl⟩) fun w H s e s' z => no_cx _ w H s e s' z
end SL
set_option Elab.async false
set_option linter.all false
set_option maxRecDepth 100000
set_option maxHeartbeats 1000000
/-! SLSimp: the evaluator by simp. -/
namespace SL
open PySem L2
/-- stands for a continuation: what follows is left alone -/
structure Kt {α : Type} (k : α) : Type where
def Res.bnd {α β : Type} (r : Res α) (k : α → Env → Res β) (_ : Kt k := ⟨⟩) : Res β := r.bind k
def Res.tos {α : Type} (r : Res α) (k : α → Env → SRes) (_ : Kt k := ⟨⟩) : SRes := r.toS k
@[simp] theorem bnd_ok {α β : Type} {a : α} {ρ : Env} {k : α → Env → Res β} {w : Kt k} : Res.bnd (.ok a ρ) k w = k a ρ := Eq.trans rfl rfl
@[simp] theorem bnd_exc {α β : Type} {c : Nat} {xs : List D} {ρ : Env} {k : α → Env → Res β} {w : Kt k} : Res.bnd (.exc c xs ρ : Res α) k w = .exc c xs ρ := Eq.trans rfl rfl
@[simp] theorem tos_ok {α : Type} {a : α} {ρ : Env} {k : α → Env → SRes} {w : Kt k} : Res.tos (.ok a ρ) k w = k a ρ := Eq.trans rfl rfl
@[simp] theorem tos_exc {α : Type} {c : Nat} {xs : List D} {ρ : Env} {k : α → Env → SRes} {w : Kt k} : Res.tos (.exc c xs ρ : Res α) k w = some (.ex c xs, ρ) := Eq.trans rfl rfl
theorem bnd_eq {α β : Type} {r : Res α} {k : α → Env → Res β} {w : Kt k} : Res.bnd r k w = r.bind k := Eq.trans rfl rfl
theorem tos_eq {α : Type} {r : Res α} {k : α → Env → SRes} {w : Kt k} : Res.tos r k w = r.toS k := rfl
def Res.kp (r : Res R) : Res D := r.bind settle
@[simp] theorem kp_ok {r : R} {ρ : Env} : (Res.ok r ρ).kp = settle r ρ := Eq.trans rfl rfl
@[simp] theorem kp_exc {c : Nat} {xs : List D} {ρ : Env} : (Res.exc c xs ρ : Res R).kp = .exc c xs ρ := Eq.trans rfl rfl
theorem kp_eq {r : Res R} : r.kp = r.bind settle := rfl
section
variable {S : Sem} {h : Bool} {ρ : Env}
@[simp↓] theorem e_var {i : Nat} : evalE S h (.var i) ρ = (match ρ[i]? with
    | some (some (.lst true xs)) => .ok (.brw i (.lst false (D.frzL xs))) ρ
    | some (some (.ins true c xs)) => .ok (.brw i (.ins false c (D.frzL xs))) ρ
    | some (some d) => .ok (.val d) ρ
    | _ => .bad) := by rw [evalE] <;> rfl
@[simp↓] theorem e_take {i : Nat} : evalE S h (.take i) ρ = (match ρ[i]? with
    | some (some d) => .ok (.val d) (ρ.set i none)
    | _ => .bad) := by rw [evalE] <;> rfl
@[simp↓] theorem e_non : evalE S h .non ρ = .ok (.val .non) ρ := by rw [evalE] <;> rfl
@[simp↓] theorem e_bl {b : Bool} : evalE S h (.bl b) ρ = .ok (.val (.bl b)) ρ := by rw [evalE] <;> rfl
@[simp↓] theorem e_int {i : Int} : evalE S h (.int i) ρ = .ok (.val (.int i)) ρ := by rw [evalE] <;> rfl
@[simp↓] theorem e_str {x : Str} : evalE S h (.str x) ρ = .ok (.val (.str x)) ρ := by rw [evalE] <;> rfl
@[simp↓] theorem e_glob {g : Nat} : evalE S h (.glob g) ρ = (Res.of (S.tab.glob g) ρ).bnd fun d ρ => .ok (.val d) ρ := by simp only [bnd_eq, tos_eq, kp_eq]; rw [evalE] <;> rfl
@[simp↓] theorem e_bin {o : Bop} {a b : Ex} : evalE S h (.bin o a b) ρ = (evalE S h a ρ).bnd fun x ρ => (evalE S h b ρ).bnd fun y ρ => binR o x y ρ := by simp only [bnd_eq, tos_eq, kp_eq]; rw [evalE] <;> rfl
@[simp↓] theorem e_neg {a : Ex} : evalE S h (.neg a) ρ = (evalE S h a ρ).bnd fun x ρ => match x.d with
    | .int i => .ok (.val (.int (-i))) ρ
    | _ => .bad := by simp only [bnd_eq, tos_eq, kp_eq]; rw [evalE] <;> rfl
@[simp↓] theorem e_not {a : Tx} : evalE S h (.not_ a) ρ = (evalT S h a ρ).bnd fun b ρ => .ok (.val (.bl (!b))) ρ := by simp only [bnd_eq, tos_eq, kp_eq]; rw [evalE] <;> rfl
@[simp↓] theorem e_bop {k : Bool} {es : List Ex} : evalE S h (.bop k es) ρ = evalB S h k es ρ := by rw [evalE] <;> rfl
@[simp↓] theorem e_cmp {o : Cop} {a b : Ex} : evalE S h (.cmp o a b) ρ = (evalE S h a ρ).bnd fun x ρ => (evalE S h b ρ).bnd fun y ρ => (Res.of (cmpD o x.d y.d) ρ).bnd fun c ρ => .ok (.val (.bl c)) ρ := by simp only [bnd_eq, tos_eq, kp_eq]; rw [evalE] <;> rfl
@[simp↓] theorem e_chain {o o' : Cop} {a b c : Ex} : evalE S h (.chain o o' a b c) ρ = (evalE S h a ρ).bnd fun x ρ => (evalE S h b ρ).bnd fun y ρ => (Res.of (cmpD o x.d y.d) ρ).bnd fun k ρ =>
      if k then (evalE S h c ρ).bnd fun z ρ => (Res.of (cmpD o' y.d z.d) ρ).bnd fun c ρ => .ok (.val (.bl c)) ρ else .ok (.val (.bl false)) ρ := by simp only [bnd_eq, tos_eq, kp_eq]; rw [evalE] <;> rfl
@[simp↓] theorem e_ife {c : Tx} {a b : Ex} : evalE S h (.ife c a b) ρ = (evalT S h c ρ).bnd fun k ρ => if k then evalE S h a ρ else evalE S h b ρ := by simp only [bnd_eq, tos_eq, kp_eq]; rw [evalE] <;> rfl
@[simp↓] theorem e_call {f : Nat} {es : List Ex} : evalE S h (.call f es) ρ = (evalA S h es ρ).bnd fun rs ρ => callR h rs (S.fn h f) ρ := by simp only [bnd_eq, tos_eq, kp_eq]; rw [evalE] <;> rfl
@[simp↓] theorem e_new {f : Nat} {es : List Ex} : evalE S h (.new f es) ρ = (evalA S h es ρ).bnd fun rs ρ => callR h rs (S.new h f) ρ := by simp only [bnd_eq, tos_eq, kp_eq]; rw [evalE] <;> rfl
@[simp↓] theorem e_meth {m : Nat} {o : Ex} {es : List Ex} : evalE S h (.meth m o es) ρ = (evalE S h o ρ).bnd fun r ρ => (settle r ρ).bnd fun d ρ => match d with
    | .ins _ c _ => match S.tab.meth c m with
      | some f => (evalA S h es ρ).bnd fun rs ρ => callR h (.val d :: rs) (S.fn h f) ρ
      | none => .bad
    | _ => .bad := by simp only [bnd_eq, tos_eq, kp_eq]; rw [evalE] <;> rfl
@[simp↓] theorem e_fld {a : Ex} {f : Nat} : evalE S h (.fld a f) ρ = (evalE S h a ρ).bnd fun r ρ => match r.d with
    | .ins _ c xs => match S.tab.prop c f with
      | some g => (settle r ρ).bnd fun d ρ => propR h d (S.fn h g) ρ
      | none => (Res.of (((S.tab.fields c).idxOf? f).bind fun k => xs[k]?) ρ).bnd fun x ρ => part r x ρ
    | .exn c xs => (Res.of (((S.tab.xf c).idxOf? f).bind fun k => xs[k]?) ρ).bnd fun x ρ => part r x ρ
    | _ => .bad := by simp only [bnd_eq, tos_eq, kp_eq]; rw [evalE] <;> rfl
@[simp↓] theorem e_leni {m : Nat} {a : Ex} : evalE S h (.leni m a) ρ = (evalE S h a ρ).bnd fun r ρ => match r.d with
    | .ins _ c _ => match S.tab.meth c m with
      | some g => (settle r ρ).bnd fun d ρ => lenR h d (S.fn h g) ρ
      | none => .bad
    | _ => .bad := by simp only [bnd_eq, tos_eq, kp_eq]; rw [evalE] <;> rfl
@[simp↓] theorem e_eqi {m : Nat} {a b : Ex} : evalE S h (.eqi m a b) ρ = (evalE S h a ρ).bnd fun x ρ => (settle x ρ).bnd fun da ρ => (evalE S h b ρ).bnd fun y ρ => (settle y ρ).bnd fun db ρ => match eqiF S.tab m da db with
      | some f => eqiR h [da, db] (S.fn h f) ρ
      | none => .bad := by simp only [bnd_eq, tos_eq, kp_eq]; rw [evalE] <;> rfl
@[simp↓] theorem e_bi {b : Bi} {es : List Ex} : evalE S h (.bi b es) ρ = (evalEs S h es ρ).bnd fun rs ρ => biR h b rs ρ := by simp only [bnd_eq, tos_eq, kp_eq]; rw [evalE] <;> rfl
@[simp↓] theorem e_bm {m : Bm} {o : Ex} {es : List Ex} : evalE S h (.bm m o es) ρ = (evalE S h o ρ).bnd fun r ρ => if bmT m r.d then (evalEs S h es ρ).bnd fun rs ρ => (Res.of (bmD m r.d (rs.map R.d)) ρ).bnd fun d ρ => .ok (.val d) ρ else .bad := by simp only [bnd_eq, tos_eq, kp_eq]; rw [evalE] <;> rfl
@[simp↓] theorem e_isin {a : Ex} {c : Ic} : evalE S h (.isin a c) ρ = (evalE S h a ρ).bnd fun r ρ => (Res.of (isInst S.tab r.d c) ρ).bnd fun b ρ => .ok (.val (.bl b)) ρ := by simp only [bnd_eq, tos_eq, kp_eq]; rw [evalE] <;> rfl
@[simp↓] theorem e_idx {a b : Ex} : evalE S h (.idx a b) ρ = (evalE S h a ρ).bnd fun x ρ => (evalE S h b ρ).bnd fun y ρ => idxR x y ρ := by simp only [bnd_eq, tos_eq, kp_eq]; rw [evalE] <;> rfl
@[simp↓] theorem e_slc {a : Ex} {lo hi : List Ex} : evalE S h (.slc a lo hi) ρ = (evalE S h a ρ).bnd fun x ρ => (evalEs S h lo ρ).bnd fun l ρ => (Res.of (partR l) ρ).bnd fun i ρ => (evalEs S h hi ρ).bnd fun u ρ => (Res.of (partR u) ρ).bnd fun j ρ => slcR x i j ρ := by simp only [bnd_eq, tos_eq, kp_eq]; rw [evalE] <;> rfl
@[simp↓] theorem e_lst {es : List Ex} : evalE S h (.lst es) ρ = (evalK S h es ρ).bnd fun ds ρ => if ds.length ≤ sizeLine then .ok (.val (.lst true ds)) ρ else .bad := by simp only [bnd_eq, tos_eq, kp_eq]; rw [evalE] <;> rfl
@[simp↓] theorem e_tup {es : List Ex} : evalE S h (.tup es) ρ = (evalK S h es ρ).bnd fun ds ρ => if ds.length ≤ sizeLine then .ok (.val (.tup (D.frzL ds))) ρ else .bad := by simp only [bnd_eq, tos_eq, kp_eq]; rw [evalE] <;> rfl
@[simp↓] theorem e_comp {own : List Nat} {elt : Ex} {tg : Tg} {ik : Ik} {ie : List Ex} {cs : List Tx} : evalE S h (.comp own elt tg ik ie cs) ρ = if h then .bad else (evalEs S h ie ρ).bnd fun rs ρ => (iterR ik rs (fun _ => true) ρ).bnd fun items ρ =>
      (compL own tg (evalC S h cs) (evalE S h elt) items [] (wipeE ρ own)).bnd fun acc ρ => .ok (.val (.lst true acc)) ρ := by simp only [bnd_eq, tos_eq, kp_eq]; rw [evalE] <;> rfl
@[simp↓] theorem e_box {a : Ex} : evalE S h (.box a) ρ = (evalE S h a ρ).bnd fun r ρ1 => match r with
    | .val d => if d.imm then .ok (.val d) ρ else if (d.noF && d.noI && d.noX && keeps ρ ρ1) = true then .ok (.val d) ρ else .bad
    | _ => .bad := by simp only [bnd_eq, tos_eq, kp_eq]; rw [evalE] <;> rfl
@[simp↓] theorem e_compM {own : List Nat} {elt : Ex} {tg : Tg} {ik : Ik} {ie : List Ex} {cs : List Tx} {rest : List Cl} : evalE S h (.compM own elt tg ik ie cs rest) ρ = if h then .bad else (evalEs S h ie ρ).bnd fun rs ρ => (iterR ik rs (fun _ => true) ρ).bnd fun items ρ =>
      (loopM own tg (evalC S h cs) (evalM S h rest fun acc ρ => itemE (evalE S h elt ρ) acc) items [] (wipeE ρ own)).bnd fun acc ρ => .ok (.val (.lst true acc)) ρ := by simp only [bnd_eq, tos_eq, kp_eq]; rw [evalE] <;> rfl
@[simp↓] theorem m_nil {inner : List D → Env → Res (List D)} {acc : List D} : evalM S h [] inner acc ρ = inner acc ρ := by rw [evalM]
@[simp↓] theorem m_cons {tg : Tg} {ik : Ik} {ie : List Ex} {cs : List Tx} {rest : List Cl} {inner : List D → Env → Res (List D)} {acc : List D} : evalM S h (.mk tg ik ie cs :: rest) inner acc ρ = (evalEs S h ie ρ).bnd fun rs ρ => (iterR ik rs (fun _ => true) ρ).bnd fun items ρ =>
      loopM (tgs tg ++ vsOf rest) tg (evalC S h cs) (evalM S h rest inner) items acc (wipeE ρ (tgs tg ++ vsOf rest)) := by simp only [bnd_eq]; rw [evalM] <;> rfl
@[simp↓] theorem t_not {a : Tx} : evalT S h (.not_ a) ρ = (evalT S h a ρ).bnd fun b ρ => .ok (!b) ρ := by simp only [bnd_eq, tos_eq, kp_eq]; rw [evalT] <;> rfl
@[simp↓] theorem t_bop {k : Bool} {es : List Tx} : evalT S h (.bop k es) ρ = evalBT S h k es ρ := by rw [evalT] <;> rfl
@[simp↓] theorem t_ife {c a b : Tx} : evalT S h (.ife c a b) ρ = (evalT S h c ρ).bnd fun k ρ => if k then evalT S h a ρ else evalT S h b ρ := by simp only [bnd_eq, tos_eq, kp_eq]; rw [evalT] <;> rfl
@[simp↓] theorem t_e {e : Ex} : evalT S h (.e e) ρ = (evalE S h e ρ).bnd fun r ρ => Res.of (truth r.d) ρ := by simp only [bnd_eq, tos_eq, kp_eq]; rw [evalT] <;> rfl
@[simp↓] theorem es_nil : evalEs S h [] ρ = .ok [] ρ := by rw [evalEs] <;> rfl
@[simp↓] theorem es_cons {e : Ex} {es : List Ex} : evalEs S h (e :: es) ρ = (evalE S h e ρ).bnd fun r ρ => (evalEs S h es ρ).bnd fun rs ρ => .ok (r :: rs) ρ := by simp only [bnd_eq, tos_eq, kp_eq]; rw [evalEs] <;> rfl
@[simp↓] theorem a_nil : evalA S h [] ρ = .ok [] ρ := by rw [evalA] <;> rfl
@[simp↓] theorem a_cons {e : Ex} {es : List Ex} : evalA S h (e :: es) ρ = (evalE S h e ρ).bnd fun r ρ => (argR r ρ).bnd fun r ρ => (evalA S h es ρ).bnd fun rs ρ => .ok (r :: rs) ρ := by simp only [bnd_eq, tos_eq, kp_eq]; rw [evalA] <;> rfl
@[simp↓] theorem k_nil : evalK S h [] ρ = .ok [] ρ := by rw [evalK] <;> rfl
@[simp↓] theorem k_cons {e : Ex} {es : List Ex} : evalK S h (e :: es) ρ = (evalE S h e ρ).bnd fun r ρ => (settle r ρ).bnd fun d ρ => (evalK S h es ρ).bnd fun ds ρ => .ok (d :: ds) ρ := by simp only [bnd_eq, tos_eq, kp_eq]; rw [evalK] <;> rfl
@[simp↓] theorem b_one {k : Bool} {e : Ex} : evalB S h k [e] ρ = evalE S h e ρ := by rw [evalB] <;> rfl
@[simp↓] theorem b_cons {k : Bool} {e e' : Ex} {es : List Ex} : evalB S h k (e :: e' :: es) ρ = (evalE S h e ρ).bnd fun r ρ => (Res.of (truth r.d) ρ).bnd fun b ρ => if b = k then evalB S h k (e' :: es) ρ else .ok r ρ := by simp only [bnd_eq, tos_eq, kp_eq]; rw [evalB]
@[simp↓] theorem bt_nil {k : Bool} : evalBT S h k [] ρ = .ok k ρ := by rw [evalBT] <;> rfl
@[simp↓] theorem bt_cons {k : Bool} {e : Tx} {es : List Tx} : evalBT S h k (e :: es) ρ = (evalT S h e ρ).bnd fun b ρ => if b = k then evalBT S h k es ρ else .ok b ρ := by simp only [bnd_eq, tos_eq, kp_eq]; rw [evalBT] <;> rfl
@[simp↓] theorem c_nil : evalC S h [] ρ = .ok true ρ := by rw [evalC] <;> rfl
@[simp↓] theorem c_one {e : Tx} : evalC S h [e] ρ = evalT S h e ρ := by rw [evalC] <;> rfl
@[simp↓] theorem p_nil {i : Nat} {acc : List Int} : evalP S h i [] acc ρ = if okAt i acc ρ then .ok acc ρ else .bad := by rw [evalP] <;> rfl
@[simp↓] theorem p_cons {i : Nat} {acc : List Int} {p : Ex} {ps : List Ex} : evalP S h i (p :: ps) acc ρ = if okL i acc ρ then (evalE S h p ρ).bnd fun r ρ => match r.int? with
    | some k => evalP S h i ps (acc ++ [k]) ρ
    | none => .bad
    else .bad := by simp only [bnd_eq, tos_eq, kp_eq]; rw [evalP] <;> rfl
/-- what follows -/
def sq (r : SRes) (k : Env → SRes) : SRes := match r with
  | some (.nx, ρ) => k ρ
  | r => r
@[simp] theorem sq_nx {k : Env → SRes} : sq (some (.nx, ρ)) k = k ρ := Eq.trans rfl rfl
@[simp] theorem sq_rt {k : Env → SRes} {d : D} : sq (some (.rt d, ρ)) k = some (.rt d, ρ) := Eq.trans rfl rfl
@[simp] theorem sq_ex {k : Env → SRes} {c : Nat} {xs : List D} : sq (some (.ex c xs, ρ)) k = some (.ex c xs, ρ) := Eq.trans rfl rfl
@[simp] theorem sq_bk {k : Env → SRes} : sq (some (.bk, ρ)) k = some (.bk, ρ) := Eq.trans rfl rfl
@[simp] theorem sq_ct {k : Env → SRes} : sq (some (.ct, ρ)) k = some (.ct, ρ) := Eq.trans rfl rfl
@[simp] theorem sq_none {k : Env → SRes} : sq none k = none := Eq.trans rfl rfl
@[simp↓] theorem ss_nil : evalSs S h [] ρ = some (.nx, ρ) := by rw [evalSs] <;> rfl
@[simp↓] theorem ss_cons {s : Sx} {ss : List Sx} : evalSs S h (s :: ss) ρ = sq (evalS S h s ρ) (evalSs S h ss) := by
  rw [evalSs]
  cases evalS S h s ρ with
  | none => rfl
  | some r => obtain ⟨f, ρ'⟩ := r; cases f <;> rfl
@[simp↓] theorem s_set {i : Nat} {e : Ex} : evalS S h (.set i e) ρ = ((evalE S h e ρ).kp).tos fun d ρ => if h && !d.noX then none else some (.nx, ρ.set i (some d)) := by simp only [bnd_eq, tos_eq, kp_eq]; rw [evalS] <;> rfl
@[simp↓] theorem s_unp {is : List Nat} {e : Ex} : evalS S h (.unp is e) ρ = if h then none else (evalE S h e ρ).tos fun r ρ => match r with
    | .val (.tup xs) => (bindT (.tp is) (.tup xs) ρ).map fun ρ => (.nx, ρ)
    | _ => none := by simp only [bnd_eq, tos_eq, kp_eq]; rw [evalS] <;> rfl
@[simp↓] theorem s_sadd {i : Nat} {path1 path : List Ex} {pk e : Ex} : evalS S h (.sadd i path1 path pk e) ρ = if h then none else (evalP S h i path1 [] ρ).tos fun is1 ρ => if okL i is1 ρ then ((evalE S h e ρ).kp).tos fun d ρ => match d with
      | .lst true ys => if okN i is1 ys.length ρ then (evalP S h i path [] ρ).tos fun is ρ => if okL i is ρ then (evalE S h pk ρ).tos fun r ρ => match r.int? with
          | some k => if is1 = is ++ [k] ∧ okAt i is1 ρ = true then (updAt i (atPath (addItem k ys) is) ρ).map fun ρ => (.nx, ρ) else none
          | none => none
        else none
        else none
      | _ => none
    else none := by simp only [bnd_eq, tos_eq, kp_eq]; rw [evalS] <;> rfl
@[simp↓] theorem s_sset {i : Nat} {path : List Ex} {e : Ex} : evalS S h (.sset i path e) ρ = if h then none else ((evalE S h e ρ).kp).tos fun d ρ => (evalP S h i path [] ρ).tos fun is ρ => match is.reverse with
    | [] => none
    | k :: rest => (updAt i (atPath (setItem k d) rest.reverse) ρ).map fun ρ => (.nx, ρ) := by simp only [bnd_eq, tos_eq, kp_eq]; rw [evalS] <;> rfl
@[simp↓] theorem s_sfld {f : Nat} {e : Ex} : evalS S h (.sfld f e) ρ = if h then none else ((evalE S h e ρ).kp).tos fun d ρ => (updAt 0 (fldItem S.tab f d) ρ).map fun ρ => (.nx, ρ) := by simp only [bnd_eq, tos_eq, kp_eq]; rw [evalS] <;> rfl
@[simp↓] theorem s_app {i : Nat} {path : List Ex} {e : Ex} : evalS S h (.app i path e) ρ = if h then none else (evalP S h i path [] ρ).tos fun is ρ => if okL i is ρ then ((evalE S h e ρ).kp).tos fun d ρ => (updAt i (atPath (appItem d) is) ρ).map fun ρ => (.nx, ρ) else none := by simp only [bnd_eq, tos_eq, kp_eq]; rw [evalS] <;> rfl
@[simp↓] theorem s_apop {i j : Nat} {e : Ex} : evalS S h (.apop i j e) ρ = if h then none else if !(okL i [] ρ && okL j [] ρ) then none else (evalE S h e ρ).tos fun r ρ => r.int?.bind fun k => if i = j then none else match ρ[j]? with
    | some (some d) => (popItem k d).bind fun p => (updAt i (appItem p.1) (ρ.set j (some p.2))).map fun ρ => (.nx, ρ)
    | _ => none := by simp only [bnd_eq, tos_eq, kp_eq]; rw [evalS] <;> rfl
@[simp↓] theorem s_aug {i : Nat} {o : Bop} {e : Ex} : evalS S h (.aug i o e) ρ = match ρ[i]? with
    | some (some (.int a)) => (evalE S h e ρ).tos fun r ρ => r.int?.bind fun b => (augI o a b).map fun k => (.nx, ρ.set i (some (.int k)))
    | _ => none := by simp only [bnd_eq, tos_eq, kp_eq]; rw [evalS] <;> rfl
@[simp↓] theorem s_ex {e : Ex} : evalS S h (.ex e) ρ = (evalE S h e ρ).tos fun _ ρ => some (.nx, ρ) := by simp only [bnd_eq, tos_eq, kp_eq]; rw [evalS] <;> rfl
@[simp↓] theorem s_ret {e : Ex} : evalS S h (.ret e) ρ = ((evalE S h e ρ).kp).tos fun d ρ => some (.rt d, ρ) := by simp only [bnd_eq, tos_eq, kp_eq]; rw [evalS] <;> rfl
@[simp↓] theorem s_ret0 : evalS S h .ret0 ρ = some (.rt .non, ρ) := by rw [evalS] <;> rfl
@[simp↓] theorem s_ite {c : Tx} {a b : List Sx} : evalS S h (.ite c a b) ρ = (evalT S h c ρ).tos fun k ρ => if k then evalSs S h a ρ else evalSs S h b ρ := by simp only [bnd_eq, tos_eq, kp_eq]; rw [evalS] <;> rfl
/-- what a for's list may stand in -/
def keepS (tg : Tg) (body : List Sx) : Nat → Bool := fun i => !(rbs (tgs tg) ++ storesL body).contains i
@[simp↓] theorem s_for {tg : Tg} {ik : Ik} {ie : List Ex} {body : List Sx} : evalS S h (.for_ tg ik ie body) ρ = if h && (ik != .range1) then none else (evalEs S h ie ρ).tos fun rs ρ => (iterR ik rs (keepS tg body) ρ).tos fun items ρ =>
      forL (gdR rs) tg (evalSs S h body) items ρ := by simp only [bnd_eq, tos_eq, kp_eq]; rw [evalS] <;> rfl
@[simp↓] theorem s_while {c : Tx} {body : List Sx} : evalS S h (.while_ c body) ρ = whileL (evalT S h c) (evalSs S h body) ρ := by rw [evalS] <;> rfl
@[simp↓] theorem s_raise {c : Nat} {es : List Ex} : evalS S h (.raise_ c es) ρ = if h then none else (evalK S h es ρ).tos fun ds ρ => if ds.length = (S.tab.xf c).length then some (.ex c (D.frzL ds.reverse), ρ) else none := by simp only [bnd_eq, tos_eq, kp_eq]; rw [evalS] <;> rfl
@[simp↓] theorem s_brk : evalS S h .brk ρ = some (.bk, ρ) := by rw [evalS] <;> rfl
@[simp↓] theorem s_cont : evalS S h .cont ρ = some (.ct, ρ) := by rw [evalS] <;> rfl
@[simp↓] theorem s_pass : evalS S h .pass ρ = some (.nx, ρ) := by rw [evalS] <;> rfl
/-- behind a try's body -/
noncomputable def tryK (S : Sem) (c : Nat) (j : Option Nat) (suite : List Sx) (r : SRes) : SRes := match r with
  | none => none
  | some (.ex c' xs, ρ) => (S.tab.exm c' c).bind fun b => if b then (match j with
        | some j => (evalSs S true suite (ρ.set j (some (.exn c' xs)))).bind fun r => match r with
          | (.ex _ _, _) => none
          | (.rt d, ρ) => if d.noX then some (.rt d, ρ.set j none) else none
          | (f, ρ) => some (f, ρ.set j none)
        | none => (evalSs S true suite ρ).bind fun r => match r with
          | (.ex _ _, _) => none
          | (.rt d, ρ) => if d.noX then some (.rt d, ρ) else none
          | r => some r) else some (.ex c' xs, ρ)
  | some r => some r
@[simp↓] theorem s_try {body : List Sx} {c : Nat} {j : Option Nat} {suite : List Sx} : evalS S h (.try_ body c j suite) ρ = if h then none else tryK S c j suite (evalSs S h body ρ) := by
  rw [evalS]
  split
  · rfl
  · cases evalSs S h body ρ with
    | none => rfl
    | some r => obtain ⟨f, ρ'⟩ := r; cases f <;> rfl
@[simp] theorem tryK_nx {c : Nat} {j : Option Nat} {suite : List Sx} : tryK S c j suite (some (.nx, ρ)) = some (.nx, ρ) := Eq.trans rfl rfl
@[simp] theorem tryK_rt {c : Nat} {j : Option Nat} {suite : List Sx} {d : D} : tryK S c j suite (some (.rt d, ρ)) = some (.rt d, ρ) := Eq.trans rfl rfl
@[simp] theorem tryK_ex {c c' j : Nat} {suite : List Sx} {xs : List D} : tryK S c (some j) suite (some (.ex c' xs, ρ)) = (S.tab.exm c' c).bind fun b => if b then ((evalSs S true suite (ρ.set j (some (.exn c' xs)))).bind fun r => match r with
          | (.ex _ _, _) => none
          | (.rt d, ρ) => if d.noX then some (.rt d, ρ.set j none) else none
          | (f, ρ) => some (f, ρ.set j none)) else some (.ex c' xs, ρ) := Eq.trans rfl rfl
@[simp] theorem tryK_ex0 {c c' : Nat} {suite : List Sx} {xs : List D} : tryK S c none suite (some (.ex c' xs, ρ)) = (S.tab.exm c' c).bind fun b => if b then ((evalSs S true suite ρ).bind fun r => match r with
          | (.ex _ _, _) => none
          | (.rt d, ρ) => if d.noX then some (.rt d, ρ) else none
          | r => some r) else some (.ex c' xs, ρ) := Eq.trans rfl rfl
end
@[simp] theorem lenR_def {d : D} {o : List D → Option Out} {ρ : Env} : lenR false d o ρ = match o [d.frz] with
    | some (.ret (.int n)) => if 0 ≤ n ∧ n < 2 ^ 63 then .ok (.val (.int n)) ρ else .bad
    | _ => .bad := Eq.trans rfl rfl
@[simp] theorem eqiR_def {ds : List D} {o : List D → Option Out} {ρ : Env} : eqiR false ds o ρ = match o (D.frzL ds) with
    | some (.ret (.bl b)) => .ok (.val (.bl b)) ρ
    | _ => .bad := Eq.trans rfl rfl
@[simp] theorem eqiF_ins {t : Tab} {m c c' : Nat} {o o' : Bool} {xs ys : List D} : eqiF t m (.ins o c xs) (.ins o' c' ys) = if c = c' then t.meth c m else none := Eq.trans rfl rfl
/-! ### values -/
@[simp] theorem d_val {d : D} : (R.val d).d = d := Eq.trans rfl rfl
@[simp] theorem d_brw {i : Nat} {d : D} : (R.brw i d).d = d := Eq.trans rfl rfl
@[simp] theorem settle_val {d : D} {ρ : Env} : settle (.val d) ρ = .ok d ρ := Eq.trans rfl rfl
@[simp] theorem argR_val {d : D} {ρ : Env} : argR (.val d) ρ = .ok (.val d) ρ := Eq.trans rfl rfl
@[simp] theorem elems_lst {o : Bool} {xs : List D} {ρ : Env} : elems (.val (.lst o xs)) ρ = .ok (if o then D.frzL xs else xs) ρ := Eq.trans rfl rfl
@[simp] theorem elems_tup {xs : List D} {ρ : Env} : elems (.val (.tup xs)) ρ = .ok xs ρ := Eq.trans rfl rfl
@[simp] theorem part_val {x d : D} {ρ : Env} : part (.val d) x ρ = .ok (.val x) ρ := Eq.trans rfl rfl
@[simp] theorem int_val {i : Int} : (R.val (.int i)).int? = some i := Eq.trans rfl rfl
@[simp] theorem frzL_nil : D.frzL [] = [] := by rw [D.frzL]
@[simp] theorem frzL_cons {d : D} {ds : List D} : D.frzL (d :: ds) = d.frz :: D.frzL ds := by rw [D.frzL]
@[simp] theorem frz_int {i : Int} : (D.int i).frz = .int i := by rw [D.frz]
@[simp] theorem frz_str {x : Str} : (D.str x).frz = .str x := by rw [D.frz]
@[simp] theorem frz_non : D.non.frz = .non := by rw [D.frz]
@[simp] theorem frz_bl {b : Bool} : (D.bl b).frz = .bl b := by rw [D.frz]
@[simp] theorem frz_scr {ns : List Int} : (D.scr ns).frz = .scr ns := by rw [D.frz]
@[simp] theorem frz_tup {xs : List D} : (D.tup xs).frz = .tup xs := by rw [D.frz]
@[simp] theorem frz_exn {c : Nat} {xs : List D} : (D.exn c xs).frz = .exn c xs := by rw [D.frz]
@[simp] theorem frz_lst {o : Bool} {xs : List D} : (D.lst o xs).frz = .lst false (D.frzL xs) := by rw [D.frz]
@[simp] theorem frz_ins {o : Bool} {c : Nat} {xs : List D} : (D.ins o c xs).frz = .ins false c (D.frzL xs) := by rw [D.frz]
@[simp] theorem frzL_int {l : List Int} : D.frzL (l.map D.int) = l.map D.int := by induction l <;> simp_all
@[simp] theorem frzL_str {l : List Str} : D.frzL (l.map D.str) = l.map D.str := by induction l <;> simp_all
@[simp] theorem frzL_app {a b : List D} : D.frzL (a ++ b) = D.frzL a ++ D.frzL b := by induction a <;> simp_all
@[simp] theorem imm_int {i : Int} : (D.int i).imm = true := by rw [D.imm]
@[simp] theorem imm_str {x : Str} : (D.str x).imm = true := by rw [D.imm]
@[simp] theorem imm_non : D.non.imm = true := by rw [D.imm]
@[simp] theorem imm_bl {b : Bool} : (D.bl b).imm = true := by rw [D.imm]
@[simp] theorem imm_tup {xs : List D} : (D.tup xs).imm = D.immL xs := by rw [D.imm]
@[simp] theorem imm_lst {o : Bool} {xs : List D} : (D.lst o xs).imm = false := by rw [D.imm]
@[simp] theorem imm_ins {o : Bool} {c : Nat} {xs : List D} : (D.ins o c xs).imm = false := by rw [D.imm]
@[simp] theorem immL_nil : D.immL [] = true := by rw [D.immL]
@[simp] theorem immL_cons {d : D} {ds : List D} : D.immL (d :: ds) = (d.imm && D.immL ds) := by rw [D.immL]
@[simp] theorem immL_int {l : List Int} : D.immL (l.map D.int) = true := by induction l <;> simp_all
@[simp] theorem immL_str {l : List Str} : D.immL (l.map D.str) = true := by induction l <;> simp_all
@[simp] theorem noF_int {i : Int} : (D.int i).noF = true := by rw [D.noF]
@[simp] theorem noF_str {x : Str} : (D.str x).noF = true := by rw [D.noF]
@[simp] theorem noF_non : D.non.noF = true := by rw [D.noF]
@[simp] theorem noF_bl {b : Bool} : (D.bl b).noF = true := by rw [D.noF]
@[simp] theorem noF_tup {xs : List D} : (D.tup xs).noF = D.noFL xs := by rw [D.noF]
@[simp] theorem noF_lst {o : Bool} {xs : List D} : (D.lst o xs).noF = (o && D.noFL xs) := by rw [D.noF]
@[simp] theorem noF_ins {o : Bool} {c : Nat} {xs : List D} : (D.ins o c xs).noF = D.noFL xs := by rw [D.noF]
@[simp] theorem noFL_nil : D.noFL [] = true := by rw [D.noFL]
@[simp] theorem noFL_cons {d : D} {ds : List D} : D.noFL (d :: ds) = (d.noF && D.noFL ds) := by rw [D.noFL]
@[simp] theorem noFL_int {l : List Int} : D.noFL (l.map D.int) = true := by induction l <;> simp_all
@[simp] theorem noFL_str {l : List Str} : D.noFL (l.map D.str) = true := by induction l <;> simp_all
@[simp] theorem noX_int {i : Int} : (D.int i).noX = true := by rw [D.noX]
@[simp] theorem noX_str {x : Str} : (D.str x).noX = true := by rw [D.noX]
@[simp] theorem noX_non : D.non.noX = true := by rw [D.noX]
@[simp] theorem noX_bl {b : Bool} : (D.bl b).noX = true := by rw [D.noX]
@[simp] theorem noX_tup {xs : List D} : (D.tup xs).noX = D.noXL xs := by rw [D.noX]
@[simp] theorem noX_lst {o : Bool} {xs : List D} : (D.lst o xs).noX = D.noXL xs := by rw [D.noX]
@[simp] theorem noX_ins {o : Bool} {c : Nat} {xs : List D} : (D.ins o c xs).noX = D.noXL xs := by rw [D.noX]
@[simp] theorem noXL_nil : D.noXL [] = true := by rw [D.noXL]
@[simp] theorem noXL_cons {d : D} {ds : List D} : D.noXL (d :: ds) = (d.noX && D.noXL ds) := by rw [D.noXL]
@[simp] theorem noI_int {i : Int} : (D.int i).noI = true := by rw [D.noI]
@[simp] theorem noI_str {x : Str} : (D.str x).noI = true := by rw [D.noI]
@[simp] theorem noI_non : D.non.noI = true := by rw [D.noI]
@[simp] theorem noI_bl {b : Bool} : (D.bl b).noI = true := by rw [D.noI]
@[simp] theorem noI_scr {l : List Int} : (D.scr l).noI = true := by rw [D.noI]
@[simp] theorem noI_tup {xs : List D} : (D.tup xs).noI = D.noIL xs := by rw [D.noI]
@[simp] theorem noI_lst2 {o : Bool} {xs : List D} : (D.lst o xs).noI = D.noIL xs := by rw [D.noI]
@[simp] theorem noI_ins {o : Bool} {c : Nat} {xs : List D} : (D.ins o c xs).noI = false := by rw [D.noI]
@[simp] theorem noIL_nil : D.noIL [] = true := by rw [D.noIL]
@[simp] theorem noIL_cons {d : D} {ds : List D} : D.noIL (d :: ds) = (d.noI && D.noIL ds) := by rw [D.noIL]
@[simp] theorem noIL_int {l : List Int} : D.noIL (l.map D.int) = true := by induction l <;> simp_all
@[simp] theorem noIL_str {l : List Str} : D.noIL (l.map D.str) = true := by induction l <;> simp_all
@[simp] theorem py_int {i : Int} : (D.int i).py = some (.int i) := by rw [D.py]
@[simp] theorem py_str {x : Str} : (D.str x).py = some (.str x) := by rw [D.py]
@[simp] theorem py_non : D.non.py = some .none := by rw [D.py]
@[simp] theorem py_bl {b : Bool} : (D.bl b).py = some (.bool b) := by rw [D.py]
@[simp] theorem py_tup {xs : List D} : (D.tup xs).py = (D.pyL xs).map PyData.tuple := by rw [D.py]
@[simp] theorem py_lst {o : Bool} {xs : List D} : (D.lst o xs).py = (D.pyL xs).map PyData.list := by rw [D.py]
@[simp] theorem pyL_nil : D.pyL [] = some [] := by rw [D.pyL]
@[simp] theorem pyL_cons {d : D} {ds : List D} : D.pyL (d :: ds) = match d.py, D.pyL ds with
    | some p, some ps => some (p :: ps)
    | _, _ => none := by rw [D.pyL] <;> rfl
@[simp] theorem pyL_int {l : List Int} : D.pyL (l.map D.int) = some (l.map PyData.int) := by induction l <;> simp_all
@[simp] theorem pyL_str {l : List Str} : D.pyL (l.map D.str) = some (l.map PyData.str) := by induction l <;> simp_all
@[simp] theorem dep_int {i : Int} : (D.int i).dep = 1 := by simp [D.dep]
@[simp] theorem dep_str {x : Str} : (D.str x).dep = 1 := by simp [D.dep]
@[simp] theorem dep_non : D.non.dep = 1 := by simp [D.dep]
@[simp] theorem dep_bl {b : Bool} : (D.bl b).dep = 1 := by simp [D.dep]
@[simp] theorem dep_tup {xs : List D} : (D.tup xs).dep = D.depL xs + 1 := by rw [D.dep]
@[simp] theorem dep_lst {o : Bool} {xs : List D} : (D.lst o xs).dep = D.depL xs + 1 := by rw [D.dep]
@[simp] theorem depL_nil : D.depL [] = 0 := by rw [D.depL]
@[simp] theorem depL_cons {d : D} {ds : List D} : D.depL (d :: ds) = max d.dep (D.depL ds) := by rw [D.depL]
@[simp] theorem eqv_int {i j : Int} : (D.int i).eqv (.int j) = (i == j) := by rw [D.eqv]
@[simp] theorem eqv_str {x y : Str} : (D.str x).eqv (.str y) = (x == y) := by rw [D.eqv]
@[simp] theorem eqv_bl {x y : Bool} : (D.bl x).eqv (.bl y) = (x == y) := by rw [D.eqv]
@[simp] theorem eqv_non : D.non.eqv .non = true := by rw [D.eqv]
@[simp] theorem eqv_lst {o p : Bool} {xs ys : List D} : (D.lst o xs).eqv (.lst p ys) = D.eqvL xs ys := by rw [D.eqv]
@[simp] theorem eqv_tup {xs ys : List D} : (D.tup xs).eqv (.tup ys) = D.eqvL xs ys := by rw [D.eqv]
@[simp] theorem eqvL_nil : D.eqvL [] [] = true := by rw [D.eqvL]
@[simp] theorem eqvL_cons {x y : D} {xs ys : List D} : D.eqvL (x :: xs) (y :: ys) = (x.eqv y && D.eqvL xs ys) := by rw [D.eqvL]
@[simp] theorem eqvL_nc {y : D} {ys : List D} : D.eqvL [] (y :: ys) = false := by rw [D.eqvL] <;> simp
@[simp] theorem eqvL_cn {y : D} {ys : List D} : D.eqvL (y :: ys) [] = false := by rw [D.eqvL] <;> simp
@[simp] theorem eqvL_int {xs ys : List Int} : D.eqvL (xs.map D.int) (ys.map D.int) = (xs == ys) := by
  induction xs generalizing ys with
  | nil => cases ys <;> simp
  | cons x xs ih => cases ys <;> simp [ih]
@[simp] theorem eqvL_str {xs ys : List Str} : D.eqvL (xs.map D.str) (ys.map D.str) = (xs == ys) := by
  induction xs generalizing ys with
  | nil => cases ys <;> simp
  | cons x xs ih => cases ys <;> simp [ih]
@[simp] theorem truth_bl {b : Bool} : truth (.bl b) = some b := Eq.trans rfl rfl
@[simp] theorem truth_int {i : Int} : truth (.int i) = some (i != 0) := Eq.trans rfl rfl
@[simp] theorem truth_non : truth .non = some false := Eq.trans rfl rfl
@[simp] theorem truth_lst {o : Bool} {xs : List D} : truth (.lst o xs) = some (!xs.isEmpty) := Eq.trans rfl rfl
@[simp] theorem truth_tup {xs : List D} : truth (.tup xs) = some (!xs.isEmpty) := Eq.trans rfl rfl
end SL
set_option Elab.async false
set_option linter.all false
set_option maxRecDepth 100000
set_option maxHeartbeats 1000000
/-! SLLib: loops by invariants; defs that many laws share. -/
namespace SL
open PySem L2
/-- a turn's end -/
def Wp (r : SRes) (N : Env → Prop) (Q : Fl × Env → Prop) : Prop := match r with
  | some (.nx, ρ) => N ρ
  | some (.ct, ρ) => N ρ
  | some (.bk, ρ) => Q (.nx, ρ)
  | some r => Q r
  | none => False
section
variable {N : Env → Prop} {Q : Fl × Env → Prop} {ρ : Env}
@[simp] theorem wp_nx : Wp (some (.nx, ρ)) N Q = N ρ := Eq.trans rfl rfl
@[simp] theorem wp_ct : Wp (some (.ct, ρ)) N Q = N ρ := Eq.trans rfl rfl
@[simp] theorem wp_bk : Wp (some (.bk, ρ)) N Q = Q (.nx, ρ) := Eq.trans rfl rfl
@[simp] theorem wp_rt {d : D} : Wp (some (.rt d, ρ)) N Q = Q (.rt d, ρ) := Eq.trans rfl rfl
@[simp] theorem wp_ex {c : Nat} {xs : List D} : Wp (some (.ex c xs, ρ)) N Q = Q (.ex c xs, ρ) := Eq.trans rfl rfl
end
theorem forL_inv {g : Env → Bool} {tg : Tg} {b : Env → SRes} (I : Nat → Env → Prop) (Q : Fl × Env → Prop) : ∀ {xs : List D} {n : Nat}
    (step : ∀ k x ρ, xs[k]? = some x → I (n + k) ρ → g ρ = true ∧ ∃ ρ1, bindT tg x ρ = some ρ1 ∧ ∀ (N : Env → Prop) (Q' : Fl × Env → Prop), (∀ ρ, I (n + k + 1) ρ → N ρ) → (∀ r, Q r → Q' r) → Wp (b ρ1) N Q')
    (fin : ∀ ρ, I (n + xs.length) ρ → g ρ = true ∧ Q (.nx, ρ)) {ρ : Env} (h0 : I n ρ), ∃ r, forL g tg b xs ρ = some r ∧ Q r
  | [], n, step, fin, ρ, h0 => by
    obtain ⟨hg, q⟩ := fin ρ h0
    exact ⟨_, by rw [forL, if_pos hg], q⟩
  | x :: xs, n, step, fin, ρ, h0 => by
    obtain ⟨hg, ρ1, h1, h3⟩ := step 0 x ρ rfl h0
    replace h3 := h3 _ _ (fun _ z => z) (fun _ z => z)
    rw [forL, if_pos hg, h1]
    simp only [Option.bind_some]
    have more : ∀ ρ2, I (n + 1) ρ2 → ∃ r, forL g tg b xs ρ2 = some r ∧ Q r := fun ρ2 hi =>
      forL_inv I Q (n := n + 1) (fun k y ρ hk hI => by
        have := step (k + 1) y ρ (by simpa using hk) (by rw [Nat.add_assoc] at hI; rwa [Nat.add_comm k 1])
        rwa [show n + (k + 1) + 1 = n + 1 + k + 1 by omega] at this) (fun ρ hI => fin ρ (by rwa [List.length_cons, show n + (xs.length + 1) = n + 1 + xs.length by omega])) hi
    cases q : b ρ1 with
    | none => rw [q] at h3; exact h3.elim
    | some r =>
      rw [q] at h3
      simp only [Option.bind_some]
      obtain ⟨f, ρ2⟩ := r
      cases f with
      | nx => exact more _ h3
      | ct => exact more _ h3
      | bk => exact ⟨_, rfl, h3⟩
      | rt d => exact ⟨_, rfl, h3⟩
      | ex c ys => exact ⟨_, rfl, h3⟩
theorem range_get {n k : Nat} {x : D} (h : ((List.range n).map fun (k : Nat) => D.int k)[k]? = some x) : k < n ∧ x = .int k := by
  by_cases q : k < n
  · rw [List.getElem?_map, List.getElem?_range q] at h
    exact ⟨q, by cases h; rfl⟩
  · rw [List.getElem?_eq_none (by simp; omega)] at h; cases h
def cs2 (r : Res D) (own : List Nat) : Option (Option D × Env) := match r with
  | .ok d ρ => some (some d, wipeE ρ own)
  | _ => none
def cs1 (r : Res Bool) (elt : Env → Res R) (own : List Nat) : Option (Option D × Env) := match r with
  | .ok true ρ => cs2 (elt ρ).kp own
  | .ok false ρ => some (none, wipeE ρ own)
  | _ => none
@[simp] theorem cs2_ok {d : D} {ρ : Env} {own : List Nat} : cs2 (.ok d ρ) own = some (some d, wipeE ρ own) := Eq.trans rfl rfl
@[simp] theorem cs1_t {ρ : Env} {elt : Env → Res R} {own : List Nat} : cs1 (.ok true ρ) elt own = cs2 (elt ρ).kp own := Eq.trans rfl rfl
@[simp] theorem cs1_f {ρ : Env} {elt : Env → Res R} {own : List Nat} : cs1 (.ok false ρ) elt own = some (none, wipeE ρ own) := Eq.trans rfl rfl
theorem compL_fm {own : List Nat} {tg : Tg} {test : Env → Res Bool} {elt : Env → Res R} {ρ0 : Env} {α : Type} (g : α → D) (f : α → Option D) : ∀ {l : List α} {acc : List D}
    (step : ∀ a ∈ l, ∃ ρ1, bindT tg (g a) ρ0 = some ρ1 ∧ cs1 (test ρ1) elt own = some (f a, ρ0)) (hl : acc.length + l.length ≤ sizeLine),
    compL own tg test elt (l.map g) acc ρ0 = .ok (acc ++ l.filterMap f) ρ0
  | [], acc, _, _ => by simp [compL]
  | x :: xs, acc, step, hl => by
    obtain ⟨ρ1, h1, h2⟩ := step x List.mem_cons_self
    rw [List.map_cons, compL, h1]
    have more : ∀ acc' : List D, acc'.length ≤ acc.length + 1 → compL own tg test elt (xs.map g) acc' ρ0 = .ok (acc' ++ xs.filterMap f) ρ0 := fun acc' ha =>
      compL_fm g f (fun y hy => step y (List.mem_cons_of_mem _ hy)) (by rw [List.length_cons] at hl; omega)
    cases q : test ρ1 with
    | bad => rw [q] at h2; simp [cs1] at h2
    | exc c ys ρ => rw [q] at h2; simp [cs1] at h2
    | ok b ρ2 =>
      rw [q] at h2
      cases b with
      | false =>
        simp only [cs1_f, Option.some.injEq, Prod.mk.injEq] at h2
        simp only [q, h2.2]
        rw [more acc (by omega), List.filterMap_cons_none h2.1.symm]
      | true =>
        rw [cs1_t, kp_eq] at h2
        simp only [q]
        cases q2 : (elt ρ2).bind settle with
        | bad => rw [q2] at h2; simp [cs2] at h2
        | exc c ys ρ => rw [q2] at h2; simp [cs2] at h2
        | ok d ρ3 =>
          rw [q2] at h2
          simp only [cs2_ok, Option.some.injEq, Prod.mk.injEq] at h2
          simp only [h2.2]
          rw [if_pos (by rw [List.length_cons] at hl; omega), more _ (by simp), List.filterMap_cons_some h2.1.symm]
          simp
/-- what one turn of a clause adds -/
def cm1 (r : Res Bool) (inner : List D → Env → Res (List D)) (acc : List D) (vs : List Nat) : Option (List D × Env) := match r with
  | .ok true ρ => match inner acc ρ with
    | .ok acc ρ => some (acc, wipeE ρ vs)
    | _ => none
  | .ok false ρ => some (acc, wipeE ρ vs)
  | _ => none
@[simp] theorem cm1_f {ρ : Env} {inner : List D → Env → Res (List D)} {acc : List D} {vs : List Nat} : cm1 (.ok false ρ) inner acc vs = some (acc, wipeE ρ vs) := Eq.trans rfl rfl
theorem cm1_t {ρ ρ' : Env} {inner : List D → Env → Res (List D)} {acc acc' : List D} {vs : List Nat} (e : inner acc ρ = .ok acc' ρ') : cm1 (.ok true ρ) inner acc vs = some (acc', wipeE ρ' vs) := by
  unfold cm1; simp only; rw [e]
theorem loopM_fm {vs : List Nat} {tg : Tg} {test : Env → Res Bool} {inner : List D → Env → Res (List D)} {ρ0 : Env} {α : Type} (g : α → D) (f : α → List D) {m : Nat} : ∀ {l : List α} {acc : List D}
    (step : ∀ a ∈ l, ∀ acc : List D, acc.length + (f a).length ≤ m → ∃ ρ1, bindT tg (g a) ρ0 = some ρ1 ∧ cm1 (test ρ1) inner acc vs = some (acc ++ f a, ρ0)) (hl : acc.length + (l.flatMap f).length ≤ m),
    loopM vs tg test inner (l.map g) acc ρ0 = .ok (acc ++ l.flatMap f) ρ0
  | [], acc, _, _ => by simp [loopM]
  | x :: xs, acc, step, hl => by
    rw [List.flatMap_cons, List.length_append] at hl
    obtain ⟨ρ1, h1, h2⟩ := step x List.mem_cons_self acc (by omega)
    rw [List.map_cons, loopM, h1]
    have more : loopM vs tg test inner (xs.map g) (acc ++ f x) ρ0 = .ok (acc ++ f x ++ xs.flatMap f) ρ0 :=
      loopM_fm g f (fun y hy => step y (List.mem_cons_of_mem _ hy)) (by rw [List.length_append]; omega)
    rw [List.flatMap_cons, ← List.append_assoc, ← more]
    cases q : test ρ1 with
    | bad => rw [q] at h2; simp [cm1] at h2
    | exc c ys ρ => rw [q] at h2; simp [cm1] at h2
    | ok b ρ2 =>
      rw [q] at h2
      cases b with
      | false =>
        simp only [cm1_f, Option.some.injEq, Prod.mk.injEq] at h2
        simp only [q, h2.2]
        rw [← h2.1]
      | true =>
        unfold cm1 at h2
        simp only at h2
        simp only [q]
        cases q2 : inner acc ρ2 with
        | bad => rw [q2] at h2; simp at h2
        | exc c ys ρ => rw [q2] at h2; simp at h2
        | ok d ρ3 =>
          rw [q2] at h2
          simp only [Option.some.injEq, Prod.mk.injEq] at h2
          simp only [h2.2, h2.1]
/-- the last clause's item -/
theorem itemE_ok {r : Res R} {d : D} {ρ : Env} {acc : List D} (e : r.kp = .ok d ρ) (h : acc.length < sizeLine) : itemE r acc = .ok (acc ++ [d]) ρ := by
  rw [kp_eq] at e; unfold itemE; rw [e]; simp only [if_pos h]
theorem compL_map {own : List Nat} {tg : Tg} {test : Env → Res Bool} {elt : Env → Res R} {ρ0 : Env} {α : Type} (g : α → D) (f : α → D) {l : List α} {acc : List D}
    (step : ∀ a ∈ l, ∃ ρ1, bindT tg (g a) ρ0 = some ρ1 ∧ cs1 (test ρ1) elt own = some (some (f a), ρ0)) (hl : acc.length + l.length ≤ sizeLine) :
    compL own tg test elt (l.map g) acc ρ0 = .ok (acc ++ l.map f) ρ0 := by
  rw [compL_fm g (fun a => some (f a)) step hl]
  rw [show List.filterMap (fun a => some (f a)) l = List.map f l from by simp]
@[simp] theorem frzL_map {α : Type} {f : α → D} {l : List α} (h : ∀ a, (f a).frz = f a) : D.frzL (l.map f) = l.map f := by
  induction l with
  | nil => rw [List.map_nil, frzL_nil]
  | cons a l ih => rw [List.map_cons, frzL_cons, h, ih]
@[simp] theorem noIL_map {α : Type} {f : α → D} {l : List α} (h : ∀ a, (f a).noI = true) : D.noIL (l.map f) = true := by
  induction l with
  | nil => rw [List.map_nil, noIL_nil]
  | cons a l ih => rw [List.map_cons, noIL_cons, h, ih]; rfl
@[simp] theorem noFL_map {α : Type} {f : α → D} {l : List α} (h : ∀ a, (f a).noF = true) : D.noFL (l.map f) = true := by
  induction l with
  | nil => rw [List.map_nil, noFL_nil]
  | cons a l ih => rw [List.map_cons, noFL_cons, h, ih]; rfl
@[simp] theorem noXL_map {α : Type} {f : α → D} {l : List α} (h : ∀ a, (f a).noX = true) : D.noXL (l.map f) = true := by
  induction l with
  | nil => rw [List.map_nil, noXL_nil]
  | cons a l ih => rw [List.map_cons, noXL_cons, h, ih]; rfl
@[simp] theorem immL_map {α : Type} {f : α → D} {l : List α} (h : ∀ a, (f a).imm = true) : D.immL (l.map f) = true := by
  induction l with
  | nil => rw [List.map_nil, immL_nil]
  | cons a l ih => rw [List.map_cons, immL_cons, h, ih]; rfl
@[simp] theorem gdR_val {d : D} : gdR [.val d] = fun _ => true := by funext ρ; rfl
@[simp] theorem gdR_two {a b : R} : gdR [a, b] = fun _ => true := by funext ρ; cases a <;> rfl
@[simp] theorem iter_range1 {n : Int} {keep : Nat → Bool} {ρ : Env} : iterR .range1 [.val (.int n)] keep ρ = if -(2 ^ 62) ≤ n ∧ n < 2 ^ 62 then .ok ((List.range n.toNat).map fun (k : Nat) => D.int k) ρ else .bad := Eq.trans rfl rfl
theorem small_cast {n : Nat} (h : n < 4611686018427387904) : -(2 ^ 62 : Int) ≤ (n : Int) ∧ (n : Int) < 2 ^ 62 := by omega
/-- a length -/
def Sm (n : Nat) : Prop := n < 4611686018427387904
theorem sm_of {n : Nat} (h : n ≤ 100000000) : Sm n := by unfold Sm; omega
@[simp high] theorem iter_range1n {n : Nat} {keep : Nat → Bool} {ρ : Env} (h : Sm n) : iterR .range1 [.val (.int (n : Int))] keep ρ = .ok ((List.range n).map fun (k : Nat) => D.int k) ρ := by
  rw [iter_range1, if_pos (small_cast h), Int.toNat_natCast]
@[simp] theorem iter_lst {o : Bool} {xs : List D} {keep : Nat → Bool} {ρ : Env} : iterR .plain [.val (.lst o xs)] keep ρ = .ok (if o then D.frzL xs else xs) ρ := Eq.trans rfl rfl
@[simp] theorem iter_tup {xs : List D} {keep : Nat → Bool} {ρ : Env} : iterR .plain [.val (.tup xs)] keep ρ = .ok xs ρ := Eq.trans rfl rfl
@[simp] theorem iter_scr {ns : List Int} {keep : Nat → Bool} {ρ : Env} : iterR .plain [.val (.scr ns)] keep ρ = .ok (ns.map D.int) ρ := Eq.trans rfl rfl
theorem slz : sizeLine = 16777216 := Eq.trans rfl rfl
@[simp] theorem bind_nm {i : Nat} {d : D} {ρ : Env} : bindT (.nm i) d ρ = some (ρ.set i (some d)) := Eq.trans rfl rfl
/-! ### _law_cell -/
def cellB : List Sx := [.set 2 (.bin .mod (.bi .int [.bin .add (.bin .mul (.var 2) (.int 31)) (.bin .mod (.bi .int [.var 3]) (.int 1000003))]) (.int 1000003))]
def cellD : FnD := ⟨2, 4,
   [.ite (.e (.cmp .lt (.var 1) (.bi .len [.var 0]))) [.ret (.idx (.var 0) (.var 1))] [],
    .set 2 (.int 17),
    .for_ (.nm 3) .plain [.var 0] cellB,
    .ret (.bin .mod (.bi .int [.bin .mul (.bin .mul (.bin .add (.var 2) (.int 7)) (.bin .add (.var 1) (.int 3))) (.int 69621)]) (.int 2147483647))]⟩
theorem mulOk_r {i j : Int} (h : -(2 ^ 64) < j ∧ j < 2 ^ 64) : mulOk i j = true := by simp [mulOk]; omega
theorem cell_ok {S : Sem} (ns : List Int) (k : Int) (hk : 0 ≤ k) (hk2 : k < 1000) : ∃ c, runBody S false cellD [.scr ns, .int k] = some (.ret (.int c)) := by
  unfold runBody cellD
  by_cases h : k < ns.length
  · refine ⟨ns[k.toNat]'(by omega), ?_⟩
    simp [cmpD, ordD, biR, biD, lenD, h, idxR, ixD, hk]
  · have lp : ∀ ρ0 : Env, (∃ s : Int, ρ0 = [some (.scr ns), some (.int k), some (.int s), none]) → ∃ r, forL (fun _ => true) (Tg.nm 3) (evalSs S false cellB) (ns.map D.int) ρ0 = some r ∧ ∃ (s : Int) (t : Option D), r = (.nx, [some (.scr ns), some (.int k), some (.int s), t]) := by
      intro ρ0 h0
      refine forL_inv (fun _ ρ => ∃ (s : Int) (t : Option D), ρ = [some (.scr ns), some (.int k), some (.int s), t]) _ (n := 0) ?_ ?_ (by obtain ⟨s, e⟩ := h0; exact ⟨s, none, e⟩)
      · rintro j x ρ hx ⟨s, t, rfl⟩
        obtain ⟨i, rfl⟩ : ∃ i, x = D.int i := by
          rw [List.getElem?_map] at hx
          cases q : ns[j]? with
          | none => rw [q] at hx; cases hx
          | some i => rw [q] at hx; exact ⟨i, by cases hx; rfl⟩
        refine ⟨rfl, _, rfl, fun N Q hN hQ => ?_⟩
        simp [cellB, binR, biR, biD, binI, mulOk]
        exact hN _ ⟨_, _, rfl⟩
      · rintro ρ ⟨s, t, rfl⟩
        exact ⟨rfl, s, t, rfl⟩
    obtain ⟨r, hr, s, t, rfl⟩ := lp _ ⟨17, rfl⟩
    refine ⟨((s + 7) * (k + 3) * 69621) % 2147483647, ?_⟩
    have m1 : mulOk (s + 7) (k + 3) = true := mulOk_r (by omega)
    have m2 : mulOk ((s + 7) * (k + 3)) 69621 = true := mulOk_r (by omega)
    simp [cmpD, ordD, biR, biD, lenD, h, binR, binI, hr, m1, m2]
/-! ### _law_digits -/
def digB1 : List Sx := [.app 2 [] (.bin .mod (.bi .int [.var 3]) (.var 4)),
    .set 3 (.bin .fdiv (.bi .int [.var 3]) (.var 4))]
def digB2 : List Sx := [.set 5 (.bin .mod (.bi .int [.bin .add (.bin .add (.bin .mul (.var 5) (.int 48271)) (.bin .mul (.int 974711) (.var 6))) (.int 12345)]) (.int 2147483647)),
    .set 7 (.bin .mod (.bi .int [.bin .mul (.var 5) (.bin .add (.bin .fdiv (.var 5) (.int 65537)) (.int 3))]) (.int 2147483629)),
    .app 2 [] (.bin .mod (.bin .fdiv (.var 7) (.int 19)) (.idx (.var 1) (.var 6)))]
def digD : FnD := ⟨2, 8,
   [.set 2 (.lst []),
    .set 3 (.bi .int [.var 0]),
    .ite (.e (.cmp .ge (.var 3) (.bin .pow (.int 10) (.int 18)))) [.set 3 (.bin .sub (.var 3) (.bin .pow (.int 10) (.int 18))),
    .for_ (.nm 4) .plain [.var 1] digB1,
    .ret (.take 2)] [],
    .set 5 (.bin .mod (.bi .int [.var 3]) (.int 2147483629)),
    .for_ (.nm 6) .range1 [.bi .len [.var 1]] digB2,
    .ret (.take 2)]⟩
/-- digits below their sizes -/
def Dig : List Int → List Int → Prop
  | [], [] => True
  | d :: ds, s :: ss => (0 ≤ d ∧ d < s) ∧ Dig ds ss
  | _, _ => False
theorem Dig.snoc : ∀ {ds ss : List Int} {d s : Int}, Dig ds ss → 0 ≤ d → d < s → Dig (ds ++ [d]) (ss ++ [s])
  | [], [], _, _, _, h1, h2 => ⟨⟨h1, h2⟩, trivial⟩
  | _ :: _, _ :: _, _, _, h, h1, h2 => ⟨h.1, Dig.snoc h.2 h1 h2⟩
  | [], _ :: _, _, _, h, _, _ => h.elim
  | _ :: _, [], _, _, h, _, _ => h.elim
theorem Dig.len : ∀ {ds ss : List Int}, Dig ds ss → ds.length = ss.length
  | [], [], _ => rfl
  | _ :: _, _ :: _, h => by simp [Dig.len h.2]
  | [], _ :: _, h => h.elim
  | _ :: _, [], h => h.elim
theorem Dig.take_next {ds ss : List Int} {k : Nat} {s d : Int} (hd : Dig ds (ss.take k)) (hs : ss[k]? = some s) (h1 : 0 ≤ d) (h2 : d < s) : Dig (ds ++ [d]) (ss.take (k + 1)) := by
  rw [List.take_add_one, hs]
  exact hd.snoc h1 h2
/-- good sizes -/
def Szs (ss : List Int) : Prop := ss.length ≤ 1000 ∧ ∀ s ∈ ss, 0 < s ∧ s < 1000000000
theorem map_int_get {ss : List Int} {k : Nat} {x : D} (h : (ss.map D.int)[k]? = some x) : ∃ s, ss[k]? = some s ∧ x = .int s := by
  rw [List.getElem?_map] at h
  cases q : ss[k]? with
  | none => rw [q] at h; cases h
  | some s => rw [q] at h; exact ⟨s, rfl, by cases h; rfl⟩
@[simp] theorem upd_lst {ρ : Env} {i : Nat} {f : D → Option D} : updAt i f ρ = match ρ[i]? with
  | some (some d) => (f d).map fun d' => ρ.set i (some d')
  | _ => none := Eq.trans rfl rfl
@[simp] theorem appItem_lst {v : D} {xs : List D} : appItem v (.lst true xs) = if xs.length < sizeLine then some (.lst true (xs ++ [v])) else none := Eq.trans rfl rfl
@[simp] theorem atPath_nil {f : D → Option D} {d : D} : atPath f [] d = f d := Eq.trans rfl rfl
@[simp] theorem okAt_nil {i : Nat} {ρ : Env} : okAt i [] ρ = match ρ[i]? with | some (some d) => true | _ => false := by
  unfold okAt; split <;> simp_all [getAt]
@[simp] theorem okL_nil {i : Nat} {ρ : Env} : okL i [] ρ = match ρ[i]? with | some (some (.lst true _)) => true | _ => false := by
  unfold okL
  cases ρ[i]? with
  | none => rfl
  | some o => cases o with
    | none => rfl
    | some d => simp only [getAt]; cases d with
      | lst o xs => cases o <;> rfl
      | _ => rfl
theorem dig_lp1 {S : Sem} {c : Int} {ss : List Int} (hs1 : ss.length ≤ 1000) (hs2 : ∀ s ∈ ss, 0 < s ∧ s < 1000000000) : ∀ r0 : Int, ∃ r, forL (fun _ => true) (Tg.nm 4) (evalSs S false digB1) (ss.map D.int) [some (.int c), some (.lst false (ss.map D.int)), some (.lst true []), some (.int r0), none, none, none, none] = some r ∧ ∃ (row : List Int) (a b : Option D), Dig row ss ∧ r = (.nx, [some (.int c), some (.lst false (ss.map D.int)), some (.lst true (row.map D.int)), a, b, none, none, none]) := by
  intro r0
  refine forL_inv (fun k ρ => ∃ (row : List Int) (r : Int) (t : Option D), Dig row (ss.take k) ∧ ρ = [some (.int c), some (.lst false (ss.map D.int)), some (.lst true (row.map D.int)), some (.int r), t, none, none, none]) _ (n := 0) ?_ ?_ ⟨[], r0, none, trivial, rfl⟩
  · rintro k x ρ hx ⟨row, r, t, hd, rfl⟩
    obtain ⟨s, hk, rfl⟩ := map_int_get hx
    have hm := hs2 s (List.mem_of_getElem? hk)
    have hl : row.length < sizeLine := by
      have := hd.len
      rw [List.length_take] at this
      rw [slz]; omega
    refine ⟨rfl, _, rfl, fun N Q hN hQ => ?_⟩
    have q1 : 0 < s ∧ s < 1073741824 := by omega
    simp [digB1, binR, biR, biD, binI, hl, hm, q1]
    refine hN _ ⟨row ++ [r % s], r / s, _, ?_, by simp; rfl⟩
    rw [Nat.zero_add] at hd ⊢
    exact hd.take_next hk (Int.emod_nonneg _ (by omega)) (Int.emod_lt_of_pos _ hm.1)
  · rintro ρ ⟨row, r, t, hd, rfl⟩
    rw [Nat.zero_add, List.length_map, List.take_length] at hd
    exact ⟨rfl, row, _, _, hd, rfl⟩
theorem dig_lp2 {S : Sem} {c : Int} {ss : List Int} (hs1 : ss.length ≤ 1000) (hs2 : ∀ s ∈ ss, 0 < s ∧ s < 1000000000) : ∀ r0 : Int, 0 ≤ r0 → r0 < 2147483647 → ∃ r, forL (fun _ => true) (Tg.nm 6) (evalSs S false digB2) ((List.range ss.length).map fun (k : Nat) => D.int k) [some (.int c), some (.lst false (ss.map D.int)), some (.lst true []), some (.int c), none, some (.int r0), none, none] = some r ∧ ∃ (row : List Int) (a b e : Option D), Dig row ss ∧ r = (.nx, [some (.int c), some (.lst false (ss.map D.int)), some (.lst true (row.map D.int)), some (.int c), none, a, b, e]) := by
  intro r0 h1 h2
  refine forL_inv (fun k ρ => ∃ (row : List Int) (r : Int) (t u : Option D), Dig row (ss.take k) ∧ 0 ≤ r ∧ r < 2147483647 ∧ ρ = [some (.int c), some (.lst false (ss.map D.int)), some (.lst true (row.map D.int)), some (.int c), none, some (.int r), t, u]) _ (n := 0) ?_ ?_ ⟨[], r0, none, none, trivial, h1, h2, rfl⟩
  · rintro k x ρ hx ⟨row, r, t, u, hd, h1, h2, rfl⟩
    obtain ⟨hk, rfl⟩ := range_get hx
    have hg := List.getElem?_eq_getElem hk
    have hm := hs2 _ (List.getElem_mem hk)
    have hl : row.length < sizeLine := by
      have := hd.len
      rw [List.length_take] at this
      rw [slz]; omega
    refine ⟨rfl, _, rfl, fun N Q hN hQ => ?_⟩
    have z1 : mulOk r 48271 = true := mulOk_r (by omega)
    have z2 : mulOk 974711 (k : Int) = true := mulOk_r (by omega)
    have hr1 := Int.emod_nonneg (r * 48271 + 974711 * k + 12345) (show (2147483647 : Int) ≠ 0 by omega)
    have hr2 := Int.emod_lt_of_pos (r * 48271 + 974711 * k + 12345) (show (0 : Int) < 2147483647 by omega)
    generalize hr : (r * 48271 + 974711 * (k : Int) + 12345) % 2147483647 = r' at hr1 hr2
    have z3 : mulOk r' (r' / 65537 + 3) = true := mulOk_r (by omega)
    simp [digB2, binR, biR, biD, binI, hl, hm, z1, z2, z3, hr, idxR, ixD, hk, hg]
    refine hN _ ⟨row ++ [_], r', _, _, ?_, hr1, hr2, by simp; exact ⟨rfl, rfl, rfl⟩⟩
    rw [Nat.zero_add] at hd ⊢
    exact hd.take_next hg (Int.emod_nonneg _ (by omega)) (Int.emod_lt_of_pos _ hm.1)
  · rintro ρ ⟨row, r, t, u, hd, h1, h2, rfl⟩
    rw [Nat.zero_add, List.length_map, List.length_range, List.take_length] at hd
    exact ⟨rfl, row, _, _, _, hd, rfl⟩
theorem dig_ok {S : Sem} {c : Int} {ss : List Int} (hs : Szs ss) : ∃ row, runBody S false digD [.int c, .lst false (ss.map D.int)] = some (.ret (.lst true (row.map D.int))) ∧ Dig row ss := by
  obtain ⟨hs1, hs2⟩ := hs
  by_cases h : 1000000000000000000 ≤ c
  · obtain ⟨r, hr, row, a, b, hd, rfl⟩ := dig_lp1 (S := S) (c := c) hs1 hs2 (c - 1000000000000000000)
    refine ⟨row, ?_, hd⟩
    unfold runBody digD
    simp [cmpD, ordD, biR, biD, lenD, h, binR, binI, hr]
  · obtain ⟨r, hr, row, a, b, e, hd, rfl⟩ := dig_lp2 (S := S) (c := c) hs1 hs2 (c % 2147483629) (Int.emod_nonneg _ (by omega)) (by have := Int.emod_lt_of_pos c (show (0:Int) < 2147483629 by omega); omega)
    refine ⟨row, ?_, hd⟩
    have hz : Sm ss.length := sm_of (by omega)
    unfold runBody digD
    simp [cmpD, ordD, biR, biD, lenD, h, binR, binI, hr, hz]
end SL
set_option Elab.async false
set_option linter.all false
set_option maxRecDepth 100000
set_option maxHeartbeats 1000000
/-! SLSimq: the rest of the evaluator by simp; defs and calls; texts. -/
namespace SL
open PySem L2
section
variable {ρ : Env} {h : Bool}
@[simp] theorem live_def {i : Nat} : live i ρ = match ρ[i]? with | some (some _) => true | _ => false := Eq.trans rfl rfl
@[simp] theorem frzAt_def {i : Nat} : frzAt i ρ = match ρ[i]? with | some (some d) => ρ.set i (some d.frz) | _ => ρ := Eq.trans rfl rfl
@[simp] theorem settle_brw {i : Nat} {d : D} : settle (.brw i d) ρ = if live i ρ then .ok d (if d.imm then ρ else frzAt i ρ) else .bad := Eq.trans rfl rfl
@[simp] theorem elems_brwl {i : Nat} {o : Bool} {xs : List D} : elems (.brw i (.lst o xs)) ρ = if live i ρ then .ok xs (if D.immL xs then ρ else frzAt i ρ) else .bad := Eq.trans rfl rfl
@[simp] theorem elems_brwt {i : Nat} {xs : List D} : elems (.brw i (.tup xs)) ρ = if live i ρ then .ok xs (if D.immL xs then ρ else frzAt i ρ) else .bad := Eq.trans rfl rfl
@[simp] theorem elems_scr {ns : List Int} : elems (.val (.scr ns)) ρ = .ok (ns.map D.int) ρ := Eq.trans rfl rfl
@[simp] theorem part_brw {i : Nat} {x d : D} : part (.brw i d) x ρ = if live i ρ then .ok (if x.imm then .val x else .brw i x) ρ else .bad := Eq.trans rfl rfl
@[simp] theorem argR_brw {i : Nat} {d : D} : argR (.brw i d) ρ = match ρ[i]? with
    | some (some e) => if e.noI then .ok (.brw i d) ρ else (settle (.brw i d) ρ).bnd fun d ρ => .ok (.val d) ρ
    | _ => .bad := Eq.trans rfl rfl
@[simp] theorem liveAll_nil : liveAll [] ρ = true := Eq.trans rfl rfl
@[simp] theorem liveAll_val {d : D} {rs : List R} : liveAll (.val d :: rs) ρ = liveAll rs ρ := Eq.trans rfl rfl
@[simp] theorem liveAll_brw {i : Nat} {d : D} {rs : List R} : liveAll (.brw i d :: rs) ρ = ((match ρ[i]? with
    | some (some e) => e.noI
    | _ => false) && liveAll rs ρ) := Eq.trans rfl rfl
@[simp] theorem frzAll_nil : frzAll [] ρ = ρ := Eq.trans rfl rfl
@[simp] theorem frzAll_val {d : D} {rs : List R} : frzAll (.val d :: rs) ρ = frzAll rs ρ := Eq.trans rfl rfl
@[simp] theorem frzAll_brw {i : Nat} {d : D} {rs : List R} : frzAll (.brw i d :: rs) ρ = frzAll rs (frzAt i ρ) := Eq.trans rfl rfl
@[simp] theorem after_ret {rs : List R} {d : D} : after rs (some (.ret d)) ρ = .ok (.val d) (if d.noF then ρ else frzAll rs ρ) := Eq.trans rfl rfl
@[simp] theorem after_exc {rs : List R} {c : Nat} {xs : List D} : after rs (some (.exc c xs)) ρ = .exc c xs (if D.noFL xs then ρ else frzAll rs ρ) := Eq.trans rfl rfl
@[simp] theorem callR_def {rs : List R} {o : List D → Option Out} : callR h rs o ρ = if liveAll rs ρ && (!h || D.noXL (argsOf rs)) then after rs (o (argsOf rs)) ρ else .bad := Eq.trans rfl rfl
@[simp] theorem argsOf_nil : argsOf [] = [] := by simp [argsOf]
@[simp] theorem argsOf_cons {r : R} {rs : List R} : argsOf (r :: rs) = r.d.frz :: argsOf rs := by simp [argsOf]
@[simp] theorem noXL_int {l : List Int} : D.noXL (l.map D.int) = true := by induction l <;> simp_all
@[simp] theorem noXL_str {l : List Str} : D.noXL (l.map D.str) = true := by induction l <;> simp_all
theorem le_slz' {k : Nat} (h : k ≤ 1000000) : k ≤ sizeLine := by rw [slz]; omega
/-! idx, slices -/
@[simp] theorem ix_nat {n k : Nat} (hk : k < n) : ixD n (k : Int) = some k := by
  unfold ixD; rw [if_pos (by omega), if_pos (by omega)]; simp
theorem ix_lit {n k : Nat} (hk : k < n) : ixD n (k : Int) = some k := ix_nat hk
@[simp] theorem ix_2 {n : Nat} (hk : 2 < n) : ixD n 2 = some 2 := ix_nat hk
@[simp] theorem ix_3 {n : Nat} (hk : 3 < n) : ixD n 3 = some 3 := ix_nat hk
@[simp] theorem ix_4 {n : Nat} (hk : 4 < n) : ixD n 4 = some 4 := ix_nat hk
@[simp] theorem ix_5 {n : Nat} (hk : 5 < n) : ixD n 5 = some 5 := ix_nat hk
@[simp] theorem ix_6 {n : Nat} (hk : 6 < n) : ixD n 6 = some 6 := ix_nat hk
@[simp] theorem ix_7 {n : Nat} (hk : 7 < n) : ixD n 7 = some 7 := ix_nat hk
@[simp] theorem ix_8 {n : Nat} (hk : 8 < n) : ixD n 8 = some 8 := ix_nat hk
@[simp] theorem ix_9 {n : Nat} (hk : 9 < n) : ixD n 9 = some 9 := ix_nat hk
@[simp] theorem ix_0 {n : Nat} (hk : 0 < n) : ixD n 0 = some 0 := ix_nat hk
@[simp] theorem ix_1 {n : Nat} (hk : 1 < n) : ixD n 1 = some 1 := ix_nat hk
@[simp] theorem ix_neg1 {n : Nat} (hk : 0 < n) : ixD n (-1) = some (n - 1) := by
  unfold ixD; rw [if_neg (by omega), if_pos (by omega)]; congr 1; omega
@[simp] theorem idx_vl {o : Bool} {xs : List D} {i : Int} : idxR (.val (.lst o xs)) (.val (.int i)) ρ = (Res.of ((ixD xs.length i).bind fun j => xs[j]?) ρ).bnd fun x ρ => .ok (.val x) ρ := Eq.trans rfl rfl
@[simp] theorem idx_vt {xs : List D} {i : Int} : idxR (.val (.tup xs)) (.val (.int i)) ρ = (Res.of ((ixD xs.length i).bind fun j => xs[j]?) ρ).bnd fun x ρ => .ok (.val x) ρ := Eq.trans rfl rfl
@[simp] theorem idx_bl {k : Nat} {o : Bool} {xs : List D} {i : Int} : idxR (.brw k (.lst o xs)) (.val (.int i)) ρ = (Res.of ((ixD xs.length i).bind fun j => xs[j]?) ρ).bnd fun x ρ => part (.brw k (.lst o xs)) x ρ := Eq.trans rfl rfl
@[simp] theorem idx_bt {k : Nat} {xs : List D} {i : Int} : idxR (.brw k (.tup xs)) (.val (.int i)) ρ = (Res.of ((ixD xs.length i).bind fun j => xs[j]?) ρ).bnd fun x ρ => part (.brw k (.tup xs)) x ρ := Eq.trans rfl rfl
@[simp] theorem idx_vs {ns : List Int} {i : Int} : idxR (.val (.scr ns)) (.val (.int i)) ρ = (Res.of ((ixD ns.length i).bind fun j => ns[j]?) ρ).bnd fun x ρ => .ok (.val (.int x)) ρ := Eq.trans rfl rfl
@[simp] theorem partR_nil : partR [] = some none := Eq.trans rfl rfl
@[simp] theorem partR_int {i : Int} : partR [.val (.int i)] = some (some i) := Eq.trans rfl rfl
@[simp] theorem slc_vl {o : Bool} {xs : List D} {lo hi : Option Int} : slcR (.val (.lst o xs)) lo hi ρ = .ok (.val (.lst true (cutD (if o then D.frzL xs else xs) lo hi))) ρ := Eq.trans rfl rfl
@[simp] theorem slc_vt {xs : List D} {lo hi : Option Int} : slcR (.val (.tup xs)) lo hi ρ = .ok (.val (.tup (cutD xs lo hi))) ρ := Eq.trans rfl rfl
@[simp] theorem slc_bl {k : Nat} {o : Bool} {xs : List D} {lo hi : Option Int} : slcR (.brw k (.lst o xs)) lo hi ρ = (elems (.brw k (.lst o xs)) ρ).bnd fun us ρ => .ok (.val (.lst true (cutD us lo hi))) ρ := Eq.trans rfl rfl
theorem cutD_take {α : Type} {xs : List α} {k : Nat} : cutD xs none (some (k : Int)) = xs.take k := by
  unfold cutD; rw [HT.sIx_none, HT.sIx_nat, List.drop_zero, Nat.sub_zero]
  rcases Nat.le_total k xs.length with h | h
  · rw [Nat.min_eq_left h]
  · rw [Nat.min_eq_right h, List.take_of_length_le h, List.take_length]
theorem cutD_drop {α : Type} {xs : List α} {k : Nat} : cutD xs (some (k : Int)) none = xs.drop k := by
  unfold cutD; rw [HT.sIx_none, HT.sIx_nat]
  rcases Nat.le_total k xs.length with h | h
  · rw [Nat.min_eq_left h, List.take_of_length_le (by rw [List.length_drop]; exact Nat.le_refl _)]
  · rw [Nat.min_eq_right h, List.drop_of_length_le h]; simp
theorem cutD_drop2 {α : Type} {x y : α} {xs : List α} : cutD (x :: y :: xs) (some 2) none = xs := cutD_drop (k := 2)
@[simp] theorem binR_mulv {o : Bool} {xs : List D} {k : Int} (hk : -9000000000000000000 ≤ k ∧ k ≤ 9000000000000000000) (hl : (if o then D.frzL xs else xs).length * k.toNat ≤ 1000000) : binR .mul (.val (.lst o xs)) (.val (.int k)) ρ = .ok (.val (.lst true (List.replicate k.toNat (if o then D.frzL xs else xs)).flatten)) ρ := by
  have e : binR .mul (.val (.lst o xs)) (.val (.int k)) ρ = if Bop.mul = .mul ∧ (-(2 ^ 63) ≤ k ∧ k < 2 ^ 63) ∧ (if o then D.frzL xs else xs).length * k.toNat ≤ sizeLine then .ok (.val (.lst true (List.replicate k.toNat (if o then D.frzL xs else xs)).flatten)) ρ else .bad := rfl
  rw [e, if_pos ⟨rfl, by omega, le_slz' hl⟩]
/-! numbers -/
@[simp] theorem binR_int {o : Bop} {i j : Int} : binR o (.val (.int i)) (.val (.int j)) ρ = (Res.of (binI o i j) ρ).bnd fun k ρ => .ok (.val (.int k)) ρ := Eq.trans rfl rfl
theorem if_and_l {α : Type} {p : Prop} [Decidable p] {a b : α} {q : Prop} [Decidable q] (hq : q) : (if q ∧ p then a else b) = if p then a else b := by
  by_cases h : p
  · rw [if_pos ⟨hq, h⟩, if_pos h]
  · rw [if_neg (fun z => h z.2), if_neg h]
@[simp] theorem binR_str {x y : Str} : binR .add (.val (.str x)) (.val (.str y)) ρ = if x.length + y.length ≤ sizeLine then .ok (.val (.str (x ++ y))) ρ else .bad :=
  if_and_l (a := Res.ok (R.val (.str (x ++ y))) ρ) (b := .bad) rfl
@[simp] theorem binI_add {i j : Int} : binI .add i j = some (i + j) := Eq.trans rfl rfl
@[simp] theorem binI_sub {i j : Int} : binI .sub i j = some (i - j) := Eq.trans rfl rfl
@[simp] theorem binI_mul {i j : Int} (hm : mulOk i j = true) : binI .mul i j = some (i * j) := by simp [binI, hm]
@[simp] theorem binI_fdiv {i j : Int} (hj : 0 < j) (hj2 : j < 1073741824) : binI .fdiv i j = some (i / j) := by simp [binI, hj, hj2]
@[simp] theorem binI_mod {i j : Int} (hj : 0 < j) : binI .mod i j = some (i % j) := by simp [binI, hj]
/-- lists added -/
theorem binR_lst {a b : R} {o p : Bool} {xs ys : List D} (ha : a.d = .lst o xs) (hb : b.d = .lst p ys) : binR .add a b ρ = (elems a ρ).bnd fun us ρ => (elems b ρ).bnd fun vs ρ => if us.length + vs.length ≤ sizeLine then .ok (.val (.lst true (us ++ vs))) ρ else .bad := by
  unfold binR
  simp only [ha, hb, bnd_eq, if_and_l]
@[simp] theorem binR_lvv {o p : Bool} {xs ys : List D} : binR .add (.val (.lst o xs)) (.val (.lst p ys)) ρ = (elems (.val (.lst o xs)) ρ).bnd fun us ρ => (elems (.val (.lst p ys)) ρ).bnd fun vs ρ => if us.length + vs.length ≤ sizeLine then .ok (.val (.lst true (us ++ vs))) ρ else .bad := binR_lst rfl rfl
@[simp] theorem binR_lvb {j : Nat} {o p : Bool} {xs ys : List D} : binR .add (.val (.lst o xs)) (.brw j (.lst p ys)) ρ = (elems (.val (.lst o xs)) ρ).bnd fun us ρ => (elems (.brw j (.lst p ys)) ρ).bnd fun vs ρ => if us.length + vs.length ≤ sizeLine then .ok (.val (.lst true (us ++ vs))) ρ else .bad := binR_lst rfl rfl
@[simp] theorem binR_lbv {i : Nat} {o p : Bool} {xs ys : List D} : binR .add (.brw i (.lst o xs)) (.val (.lst p ys)) ρ = (elems (.brw i (.lst o xs)) ρ).bnd fun us ρ => (elems (.val (.lst p ys)) ρ).bnd fun vs ρ => if us.length + vs.length ≤ sizeLine then .ok (.val (.lst true (us ++ vs))) ρ else .bad := binR_lst rfl rfl
@[simp] theorem binR_lbb {i j : Nat} {o p : Bool} {xs ys : List D} : binR .add (.brw i (.lst o xs)) (.brw j (.lst p ys)) ρ = (elems (.brw i (.lst o xs)) ρ).bnd fun us ρ => (elems (.brw j (.lst p ys)) ρ).bnd fun vs ρ => if us.length + vs.length ≤ sizeLine then .ok (.val (.lst true (us ++ vs))) ρ else .bad := binR_lst rfl rfl
/-! comparisons -/
@[simp] theorem cmp_lt {i j : Int} : cmpD .lt (.int i) (.int j) = some (decide (i < j)) := Eq.trans rfl rfl
@[simp] theorem cmp_le {i j : Int} : cmpD .le (.int i) (.int j) = some (decide (i ≤ j)) := Eq.trans rfl rfl
@[simp] theorem cmp_gt {i j : Int} : cmpD .gt (.int i) (.int j) = some (decide (j < i)) := Eq.trans rfl rfl
@[simp] theorem cmp_ge {i j : Int} : cmpD .ge (.int i) (.int j) = some (decide (j ≤ i)) := Eq.trans rfl rfl
@[simp] theorem cmp_eqi {i j : Int} : cmpD .eq (.int i) (.int j) = some (decide (i = j)) := by unfold cmpD; simp only []; rw [if_pos (by simp [isData])]; simp [bne]; try exact Bool.eq_iff_iff.mpr (by simp)
@[simp] theorem cmp_nei {i j : Int} : cmpD .ne (.int i) (.int j) = some (decide (i ≠ j)) := by unfold cmpD; simp only []; rw [if_pos (by simp [isData])]; simp [bne]; try exact Bool.eq_iff_iff.mpr (by simp)
@[simp] theorem cmp_eqs {x y : Str} : cmpD .eq (.str x) (.str y) = some (decide (x = y)) := by unfold cmpD; simp only []; rw [if_pos (by simp [isData])]; simp [bne]; try exact Bool.eq_iff_iff.mpr (by simp)
@[simp] theorem cmp_nes {x y : Str} : cmpD .ne (.str x) (.str y) = some (decide (x ≠ y)) := by unfold cmpD; simp only []; rw [if_pos (by simp [isData])]; simp [bne]; try exact Bool.eq_iff_iff.mpr (by simp)
@[simp] theorem cmp_isn {d : D} : cmpD .isn d .non = match d with | .non => some true | _ => some false := Eq.trans rfl rfl
@[simp] theorem cmp_notn {d : D} : cmpD .notn d .non = match d with | .non => some false | _ => some true := Eq.trans rfl rfl
theorem cmp_inl {a : D} {o : Bool} {xs : List D} : cmpD .in_ a (.lst o xs) = if isData a && isData (.lst o xs) && decide (a.dep ≤ 64) then some (xs.any fun x => x.eqv a) else none := Eq.trans rfl rfl
theorem cmp_int_ {a : D} {xs : List D} : cmpD .in_ a (.tup xs) = if isData a && isData (.tup xs) && decide (a.dep ≤ 64) then some (xs.any fun x => x.eqv a) else none := Eq.trans rfl rfl
theorem cmp_ninl {a : D} {o : Bool} {xs : List D} : cmpD .nin a (.lst o xs) = if isData a && isData (.lst o xs) && decide (a.dep ≤ 64) then some (!xs.any fun x => x.eqv a) else none := Eq.trans rfl rfl
theorem cmp_nint {a : D} {xs : List D} : cmpD .nin a (.tup xs) = if isData a && isData (.tup xs) && decide (a.dep ≤ 64) then some (!xs.any fun x => x.eqv a) else none := Eq.trans rfl rfl
@[simp] theorem isData_def {d : D} : isData d = d.py.isSome := Eq.trans rfl rfl
/-! built-ins -/
@[simp] theorem bi_len {r : R} : biR h .len [r] ρ = (Res.of (lenD r.d) ρ).bnd fun n ρ => .ok (.val (.int (n : Int))) ρ := by
  unfold biR
  simp only [bne_self_eq_false, Bool.false_and, Bool.and_false, Bool.false_eq_true, if_false, List.map, biD, bnd_eq]
  cases lenD r.d <;> rfl
@[simp] theorem len_l {o : Bool} {xs : List D} : lenD (.lst o xs) = some xs.length := Eq.trans rfl rfl
@[simp] theorem len_t {xs : List D} : lenD (.tup xs) = some xs.length := Eq.trans rfl rfl
@[simp] theorem len_scr {ns : List Int} : lenD (.scr ns) = some ns.length := Eq.trans rfl rfl
@[simp] theorem len_s {x : Str} (hx : x.length ≤ sizeLine) : lenD (.str x) = some x.length := by simp [lenD, hx]
@[simp] theorem bi_int {i : Int} : biR h .int [.val (.int i)] ρ = .ok (.val (.int i)) ρ := by simp [biR, biD]
@[simp] theorem bi_intb {b : Bool} : biR h .int [.val (.bl b)] ρ = .ok (.val (.int (if b then 1 else 0))) ρ := by simp [biR, biD]
@[simp] theorem bi_list {r : R} : biR false .list [r] ρ = (elems r ρ).bnd fun xs ρ => .ok (.val (.lst true xs)) ρ := Eq.trans rfl rfl
@[simp] theorem bi_tupl {o : Bool} {xs : List D} : biR false .tuple [.val (.lst o xs)] ρ = .ok (.val (.tup (if o then D.frzL xs else xs))) ρ := Eq.trans rfl rfl
@[simp] theorem bi_tupt {xs : List D} : biR false .tuple [.val (.tup xs)] ρ = .ok (.val (.tup xs)) ρ := Eq.trans rfl rfl
@[simp] theorem bi_tupb {k : Nat} {o : Bool} {xs : List D} : biR false .tuple [.brw k (.lst o xs)] ρ = (elems (.brw k (.lst o xs)) ρ).bnd fun us ρ => .ok (.val (.tup us)) ρ := Eq.trans rfl rfl
/-! isinstance -/
@[simp] theorem isi_int {t : Tab} {i : Int} {c : Ic} : isInst t (.int i) c = match c with | .cls _ => none | c => some (c == .int) := Eq.trans rfl rfl
@[simp] theorem isi_bl {t : Tab} {i : Bool} {c : Ic} : isInst t (.bl i) c = match c with | .cls _ => none | c => some (c == .int || c == .bool) := Eq.trans rfl rfl
@[simp] theorem isi_str {t : Tab} {i : Str} {c : Ic} : isInst t (.str i) c = match c with | .cls _ => none | c => some (c == .str) := Eq.trans rfl rfl
@[simp] theorem isi_tup {t : Tab} {i : List D} {c : Ic} : isInst t (.tup i) c = match c with | .cls _ => none | c => some (c == .tuple) := Eq.trans rfl rfl
@[simp] theorem isi_lst {t : Tab} {o : Bool} {i : List D} {c : Ic} : isInst t (.lst o i) c = match c with | .cls _ => none | c => some (c == .list) := Eq.trans rfl rfl
@[simp] theorem isi_non {t : Tab} {c : Ic} : isInst t .non c = match c with | .cls _ => none | _ => some false := Eq.trans rfl rfl
@[simp] theorem isi_ins {t : Tab} {o : Bool} {k : Nat} {xs : List D} {c : Ic} : isInst t (.ins o k xs) c = t.kit k c := Eq.trans rfl rfl
@[simp] theorem isi_exn {t : Tab} {k : Nat} {xs : List D} {c : Ic} : isInst t (.exn k xs) c = t.xkit k c := Eq.trans rfl rfl
/-! what is walked -/
@[simp] theorem iter_brw {i : Nat} {o : Bool} {xs : List D} {keep : Nat → Bool} : iterR .plain [.brw i (.lst o xs)] keep ρ = if keep i then elems (.brw i (.lst o xs)) ρ else if live i ρ then .ok xs (frzAt i ρ) else .bad := Eq.trans rfl rfl
@[simp] theorem iter_enumv {o : Bool} {xs : List D} {keep : Nat → Bool} : iterR .enum [.val (.lst o xs)] keep ρ = .ok ((if o then D.frzL xs else xs).zipIdx.map fun (p : D × Nat) => D.tup [.int p.2, p.1]) ρ := Eq.trans rfl rfl
@[simp] theorem iter_enumt {xs : List D} {keep : Nat → Bool} : iterR .enum [.val (.tup xs)] keep ρ = .ok (xs.zipIdx.map fun (p : D × Nat) => D.tup [.int p.2, p.1]) ρ := Eq.trans rfl rfl
@[simp] theorem iter_enumb {i : Nat} {o : Bool} {xs : List D} {keep : Nat → Bool} : iterR .enum [.brw i (.lst o xs)] keep ρ = (seqR (.brw i (.lst o xs)) keep ρ).bnd fun xs ρ => .ok (xs.zipIdx.map fun (p : D × Nat) => D.tup [.int p.2, p.1]) ρ := Eq.trans rfl rfl
@[simp] theorem seq_brw {i : Nat} {o : Bool} {xs : List D} {keep : Nat → Bool} : seqR (.brw i (.lst o xs)) keep ρ = if keep i then elems (.brw i (.lst o xs)) ρ else if live i ρ then .ok xs (frzAt i ρ) else .bad := Eq.trans rfl rfl
@[simp] theorem bind_tp {is : List Nat} {xs : List D} : bindT (.tp is) (.tup xs) ρ = if is.length = xs.length then some ((is.zip xs).foldl (fun ρ p => ρ.set p.1 (some p.2)) ρ) else none := Eq.trans rfl rfl
@[simp] theorem gdR_brw {i : Nat} {d : D} : gdR [.brw i d] = live i := Eq.trans rfl rfl
@[simp] theorem wipe_nil : wipeE ρ [] = ρ := Eq.trans rfl rfl
@[simp] theorem wipe_cons {i : Nat} {is : List Nat} : wipeE ρ (i :: is) = wipeE (ρ.set i none) is := Eq.trans rfl rfl
end
@[simp] theorem le_slz {k : Nat} (h : k ≤ 1000000) : k ≤ sizeLine := by rw [slz]; omega
@[simp] theorem lt_slz {k : Nat} (h : k ≤ 1000000) : k < sizeLine := by rw [slz]; omega
/-! texts -/
@[simp] theorem bmT_str {m : Bm} {x : Str} : bmT m (.str x) = match m with | .index => false | .indexT => false | _ => true := by cases m <;> rfl
@[simp] theorem bmT_tup {m : Bm} {xs : List D} : bmT m (.tup xs) = match m with | .indexT => true | _ => false := by cases m <;> rfl
@[simp] theorem bmT_lst {m : Bm} {o : Bool} {xs : List D} : bmT m (.lst o xs) = match m with | .index => true | _ => false := by cases m <;> rfl
@[simp] theorem bm_split {x s : Str} (hs : s.length ≠ 0) (hx : x.length ≤ 1000000) : bmD .split (.str x) [.str s] = some (.lst true ((Txt.split x s).map D.str)) := by
  have : x.length + 2 ≤ sizeLine := by rw [slz]; omega
  simp [bmD, hs, this]
theorem strs_map (ys : List Str) : D.strs (ys.map D.str) = some ys := by induction ys <;> simp_all [D.strs]
theorem ints_map (ys : List Int) : D.ints (ys.map D.int) = some ys := by induction ys <;> simp_all [D.ints]
@[simp] theorem bm_join {s : Str} {o : Bool} {ys : List Str} (h : (ys.map Str.length).sum + ys.length * s.length ≤ 16777216) : bmD .join (.str s) [.lst o (ys.map D.str)] = some (.str (Txt.join s ys)) := by simp [bmD, seqStrs, strs_map, h]
@[simp] theorem bm_joint {s : Str} {ys : List Str} (h : (ys.map Str.length).sum + ys.length * s.length ≤ 16777216) : bmD .join (.str s) [.tup (ys.map D.str)] = some (.str (Txt.join s ys)) := by simp [bmD, seqStrs, strs_map, h]
/-! defs -/
def outOf (r : SRes) : Option Out := match r with
    | some (.nx, _) => some (.ret .non)
    | some (.rt d, _) => some (.ret d)
    | some (.ex c xs, _) => some (.exc c xs)
    | _ => none
@[simp] theorem out_nx {ρ : Env} : outOf (some (.nx, ρ)) = some (.ret .non) := Eq.trans rfl rfl
@[simp] theorem out_rt {ρ : Env} {d : D} : outOf (some (.rt d, ρ)) = some (.ret d) := Eq.trans rfl rfl
@[simp] theorem out_ex {ρ : Env} {c : Nat} {xs : List D} : outOf (some (.ex c xs, ρ)) = some (.exc c xs) := Eq.trans rfl rfl
def initOf (c : Nat) (r : SRes) : Option Out := match r with
    | some (.nx, some (.ins true c' xs) :: _) => if c' = c then some (.ret (.ins true c xs)) else none
    | some (.ex c xs, _) => some (.exc c xs)
    | _ => none
@[simp] theorem init_nx {c c' : Nat} {ρ : Env} {xs : List D} : initOf c (some (.nx, some (.ins true c' xs) :: ρ)) = if c' = c then some (.ret (.ins true c xs)) else none := Eq.trans rfl rfl
@[simp] theorem init_ex {ρ : Env} {c c' : Nat} {xs : List D} : initOf c' (some (.ex c xs, ρ)) = some (.exc c xs) := Eq.trans rfl rfl
theorem run_eq {S : Sem} {h : Bool} {fd : FnD} {ds : List D} (e : ds.length = fd.ps) : runBody S h fd ds = outOf (evalSs S h fd.body (ds.map some ++ List.replicate (fd.n - fd.ps) none)) := by
  unfold runBody outOf; rw [if_pos e, e] <;> rfl
theorem init_eq {S : Sem} {h : Bool} {fd : FnD} {c : Nat} {ds : List D} (e : ds.length + 1 = fd.ps) : runInit S h fd c ds = initOf c (evalSs S h fd.body (some (.ins true c []) :: (ds.map some ++ List.replicate (fd.n - fd.ps) none))) := by
  unfold runInit initOf; rw [if_pos e, e] <;> rfl
theorem fn_at {P : Prog} {n f : Nat} {fd : FnD} {ds : List D} (hf : P.fns f = some fd) (e : ds.length = fd.ps) : (semN P (n + 1)).fn false f ds = outOf (evalSs (semN P n) false fd.body (ds.map some ++ List.replicate (fd.n - fd.ps) none)) := by
  rw [← run_eq e]; simp [semN, hf]
theorem fn_run {P : Prog} {n f : Nat} {fd : FnD} {ds : List D} (hf : P.fns f = some fd) : (semN P (n + 1)).fn false f ds = runBody (semN P n) false fd ds := by
  simp [semN, hf]
theorem fn_hot {P : Prog} {n f : Nat} {fd : FnD} {ds : List D} (hf : P.fns f = some fd) (hh : P.hot f = true) (e : ds.length = fd.ps) : (semN P (n + 1)).fn true f ds = outOf (evalSs (semN P n) true fd.body (ds.map some ++ List.replicate (fd.n - fd.ps) none)) := by
  rw [← run_eq e]; simp [semN, hf, hh]
theorem new_at {P : Prog} {n c f : Nat} {fd : FnD} {ds : List D} (hc : P.init c = some f) (hf : P.fns f = some fd) (e : ds.length + 1 = fd.ps) : (semN P (n + 1)).new false c ds = initOf c (evalSs (semN P n) false fd.body (some (.ins true c []) :: (ds.map some ++ List.replicate (fd.n - fd.ps) none))) := by
  rw [← init_eq e]; simp [semN, hf, hc]
@[simp] theorem semN_tab' {P : Prog} {n : Nat} : (semN P n).tab = P.tab := semN_tab n
theorem Str.lenMk (s : String) : (Str.ofString s).length = s.length := by
  rw [Str.ofString_eq_toList]; simp [Str.length, String.length_toList]
end SL
set_option Elab.async false
set_option linter.all false
set_option maxRecDepth 100000
set_option maxHeartbeats 1000000
/-! SLTxt: plain facts of texts. -/
namespace SL
open PySem L2
theorem sum_len {B : Nat} : ∀ {ys : List Str}, (∀ y ∈ ys, y.length ≤ B) → (ys.map Str.length).sum ≤ ys.length * B
  | [], _ => by simp
  | y :: ys, h => by
    have h1 := h y List.mem_cons_self
    have h2 := sum_len fun z hz => h z (List.mem_cons_of_mem _ hz)
    simp only [List.map_cons, List.sum_cons, List.length_cons, Nat.add_mul, Nat.one_mul]
    omega
theorem sjoin_len {s : Str} {B : Nat} : ∀ {ys : List Str}, (∀ y ∈ ys, y.length ≤ B) → (Str.join s ys).length ≤ ys.length * (B + s.length)
  | [], _ => by simp [Str.join, Str.empty, Str.length]
  | [y], h => by
    have h1 := h y List.mem_cons_self
    simp only [Str.join, List.length_cons, List.length_nil]
    omega
  | y :: z :: r, h => by
    have h1 := h y List.mem_cons_self
    have h2 := sjoin_len (s := s) fun z hz => h z (List.mem_cons_of_mem _ hz)
    show (y ++ s ++ Str.join s (z :: r)).length ≤ _
    rw [Str.length_append, Str.length_append]
    simp only [List.length_cons, Nat.add_mul, Nat.one_mul] at h2 ⊢
    omega
theorem join_len {s : Str} {B : Nat} {ys : List Str} (h : ∀ y ∈ ys, y.length ≤ B) : (Txt.join s ys).length ≤ ys.length * (B + s.length) := by
  rw [TL.join_eq]; exact sjoin_len h
theorem mem_sjoin {s : Str} {c : Nat} : ∀ {ys : List Str}, c ∈ TL.tl (Str.join s ys) → c ∈ TL.tl s ∨ ∃ y ∈ ys, c ∈ TL.tl y
  | [], h => by simp [Str.join, Str.empty, TL.tl] at h
  | [y], h => .inr ⟨y, List.mem_cons_self, h⟩
  | y :: z :: r, h => by
    have h : c ∈ TL.tl (y ++ s ++ Str.join s (z :: r)) := h
    rw [TL.tl_append, TL.tl_append] at h
    simp only [List.mem_append] at h
    rcases h with (h | h) | h
    · exact .inr ⟨y, List.mem_cons_self, h⟩
    · exact .inl h
    · rcases mem_sjoin h with q | ⟨x, hx, q⟩
      · exact .inl q
      · exact .inr ⟨x, List.mem_cons_of_mem _ hx, q⟩
theorem mem_join {s : Str} {c : Nat} {ys : List Str} (h : c ∈ TL.tl (Txt.join s ys)) : c ∈ TL.tl s ∨ ∃ y ∈ ys, c ∈ TL.tl y := by
  rw [TL.join_eq] at h; exact mem_sjoin h
theorem sjoin_mem {s : Str} {c : Nat} : ∀ {ys : List Str} {y : Str}, y ∈ ys → c ∈ TL.tl y → c ∈ TL.tl (Str.join s ys)
  | [], _, h, _ => by cases h
  | [y], _, h, q => by rcases List.mem_singleton.mp h with rfl; exact q
  | y :: z :: r, x, h, q => by
    show c ∈ TL.tl (y ++ s ++ Str.join s (z :: r))
    rw [TL.tl_append, TL.tl_append]
    simp only [List.mem_append]
    rcases List.mem_cons.mp h with rfl | h
    · exact .inl (.inl q)
    · exact .inr (sjoin_mem h q)
theorem split_mem {x s p : Str} {c : Nat} (hp : p ∈ Txt.split x s) (hc : c ∈ TL.tl p) : c ∈ TL.tl x := by
  have := sjoin_mem (s := s) hp hc
  rwa [PySem.StrLaws.join_split] at this
theorem split_len_le {x s p : Str} (hp : p ∈ Txt.split x s) : p.length ≤ x.length := PyProof.Rows.part_short hp
theorem split_ne {x s : Str} : Txt.split x s ≠ [] := fun e => by
  have := PyProof.Rows.split_pos x s
  rw [e] at this; simp at this
theorem split_cnt {x s : Str} : (Txt.split x s).length ≤ x.length + 2 := PyProof.Rows.split_le x s
theorem join_split {x s : Str} : Txt.join s (Txt.split x s) = x := by rw [TL.join_eq]; exact PySem.StrLaws.join_split x s
theorem tl_lit (s : String) : TL.tl (Str.ofString s) = s.toList.map Char.toNat := by rw [Str.ofString_eq_toList]
theorem len_lit (s : String) : (Str.ofString s).length = s.toList.length := by rw [Str.ofString_eq_toList]; simp [Str.length]
theorem sp_len : (Str.ofString " ").length = 1 := by decide +kernel
theorem nl_len : (Str.ofString "\n").length = 1 := by decide +kernel
theorem sp_tl : TL.tl (Str.ofString " ") = [32] := by decide +kernel
theorem nl_tl : TL.tl (Str.ofString "\n") = [10] := by decide +kernel
/-- lines without a line feed, read back -/
theorem split_join_nl {ys : List Str} (hne : ys ≠ []) (h : ∀ y ∈ ys, 10 ∉ TL.tl y) : Txt.split (Txt.join (Str.ofString "\n") ys) (Str.ofString "\n") = ys :=
  TL.split_join nl_tl (by decide +kernel) hne h
theorem split_join_sp {ys : List Str} (hne : ys ≠ []) (h : ∀ y ∈ ys, 32 ∉ TL.tl y) : Txt.split (Txt.join (Str.ofString " ") ys) (Str.ofString " ") = ys :=
  TL.split_join sp_tl (by decide +kernel) hne h
/-- a short text without a line feed -/
def Ln (B : Nat) (x : Str) : Prop := x.length ≤ B ∧ 10 ∉ TL.tl x
theorem Ln.mono {B C : Nat} {x : Str} (h : Ln B x) (hb : B ≤ C) : Ln C x := ⟨Nat.le_trans h.1 hb, h.2⟩
theorem Ln.app {B C : Nat} {x y : Str} (h : Ln B x) (g : Ln C y) : Ln (B + C) (x ++ y) := ⟨by rw [Str.length_append]; have := h.1; have := g.1; omega, by rw [TL.tl_append, List.mem_append]; exact fun z => z.elim h.2 g.2⟩
theorem Ln.split {B : Nat} {x s p : Str} (h : Ln B x) (hp : p ∈ Txt.split x s) : Ln B p := ⟨Nat.le_trans (split_len_le hp) h.1, fun z => h.2 (split_mem hp z)⟩
theorem Ln.join {B N : Nat} {s : Str} {ys : List Str} (hs : Ln 1 s) (h : ∀ y ∈ ys, Ln B y) (hn : ys.length ≤ N) : Ln (N * (B + 1)) (Txt.join s ys) := by
  refine ⟨Nat.le_trans (join_len fun y hy => (h y hy).1) (Nat.le_trans (Nat.mul_le_mul_left _ (Nat.add_le_add_left hs.1 B)) (Nat.mul_le_mul_right _ hn)), fun z => ?_⟩
  rcases mem_join z with q | ⟨y, hy, q⟩
  · exact hs.2 q
  · exact (h y hy).2 q
theorem Ln.sp : Ln 1 (Str.ofString " ") := ⟨by decide +kernel, by decide +kernel⟩
end SL
set_option Elab.async false
set_option linter.all false
set_option maxRecDepth 100000
set_option maxHeartbeats 4000000
/-! K85P: the slim program of law_k85_open_pairs_and_answers, printed by gen.py. -/
namespace K85
open PySem L2 SL
def top (i : Nat) : Stmt := PySem.Challenge.pw_anymap_k85_open_pairs_and_answers.main.body.getD i (.Pass ⟨0, 0, 0, 0⟩)
def fnN : List Str := (["_wall", "good_name", "checked_options", "good_order", "good_words", "good_ballot", "plain_ballot", "checked_ballots", "tells_directly", "told_relation", "__init__", "total", "is_whole", "tells", "below", "first", "ranking", "__len__", "__eq__", "require_option", "require_ballot", "exchanged", "told_more", "is_open", "open_pairs", "answers", "_law_cell", "_law_digits", "_law_order", "_law_ballot", "_law_names", "_law_book", "_law_handed", "_law_told", "_law_tolds", "_law_kind", "_law_tells", "law"] : List String).map Str.ofString
def clN : List Str := ["AnymapError", "BadBook", "NoSuch", "BadOptions", "BadBallots", "BadBallot", "NoOption", "NoBallot", "NotOpen", "Book"]
def atN : List Str := ["options", "count", "ballot", "option", "one", "two", "size", "ballots", "weights", "told", "total", "is_whole", "tells", "below", "first", "ranking", "__len__", "__iter__", "__eq__", "__add__"]
def glN : List Str := ["LETTERS", "DIGITS", "MOST_TOTAL", "MOST_BALLOTS", "MOST_OPTIONS", "MOST_WORDS"]
def T : NT := ⟨fun i => fnN.getD i "", fun i => clN.getD i "", fun i => atN.getD i "", fun i => glN.getD i "", fun i => ([0, 1, 2, 3, 4, 5, 6, 7, 8, 9, 19, 20, 21, 22, 23, 24, 25, 26, 27, 28, 29, 30, 31, 32, 33, 34, 35, 36, 37] : List Nat).contains i, fun i => ([9] : List Nat).contains i, fun i => ([0, 6, 7, 8, 9] : List Nat).contains i, fun i => ([3, 4, 5, 6, 7, 8] : List Nat).contains i, fun _ => ""⟩
def fieldsL : List (List Nat) := [[], [], [], [], [], [], [], [], [], [0, 6, 7, 8, 9]]
def xfL : List (List Nat) := [[], [], [], [0], [1], [2], [3], [2], [5, 4, 2], []]
def methL : List ((Nat × Nat) × Nat) := [((9, 12), 13), ((9, 13), 14), ((9, 14), 15), ((9, 15), 16), ((9, 16), 17), ((9, 18), 18)]
def propL : List ((Nat × Nat) × Nat) := [((9, 10), 11), ((9, 11), 12)]
def kitL : List ((Nat × Ic) × Bool) := [((9, .cls 6), false), ((9, .cls 7), false), ((9, .cls 8), false), ((9, .cls 9), true)]
def xkitL : List ((Nat × Ic) × Bool) := [((3, (.cls 6)), false), ((3, (.cls 7)), false), ((3, (.cls 8)), false), ((3, (.cls 9)), false), ((4, (.cls 6)), false), ((4, (.cls 7)), false), ((4, (.cls 8)), false), ((4, (.cls 9)), false), ((5, (.cls 6)), false), ((5, (.cls 7)), false), ((5, (.cls 8)), false), ((5, (.cls 9)), false), ((6, (.cls 6)), true), ((6, (.cls 7)), false), ((6, (.cls 8)), false), ((6, (.cls 9)), false), ((7, (.cls 6)), false), ((7, (.cls 7)), true), ((7, (.cls 8)), false), ((7, (.cls 9)), false), ((8, (.cls 6)), false), ((8, (.cls 7)), false), ((8, (.cls 8)), true), ((8, (.cls 9)), false), ((3, .ve), true), ((4, .ve), true), ((5, .ve), true), ((6, .ve), true), ((7, .ve), true), ((8, .ve), true)]
def exmL : List ((Nat × Nat) × Bool) := [((3, 0), true), ((4, 0), true), ((5, 0), true), ((6, 0), true), ((7, 0), true), ((8, 0), true)]
def globL : List (Nat × D) := [(0, .str "abcdefghijklmnopqrstuvwxyz"), (1, .str "0123456789"), (2, .int (1000000000)), (3, .int (8)), (4, .int (8)), (5, .int (20))]
def tab : Tab := ⟨fun c => fieldsL.getD c [], fun c => xfL.getD c [], fun c m => methL.lookup (c, m), fun c p => propL.lookup (c, p), fun c i => kitL.lookup (c, i), fun c i => xkitL.lookup (c, i), fun c d => exmL.lookup (c, d), fun g => globL.lookup g⟩
abbrev glob : Nat → Bool := fun g => (tab.glob g).isSome
/-- _wall: k -/
def b0_1 : List Sx := [.pass]
def b0 : FnD := ⟨1, 1,
   [.while_ (.e (.bl true)) b0_1]⟩
/-- good_name: name sign -/
def b1 : FnD := ⟨1, 2,
   [.ite (.bop false [.not_ (.e (.chain .le .le (.int 1) (.bi .len [.var 0]) (.int 12))), .e (.cmp .nin (.idx (.var 0) (.int 0)) (.glob 0))]) [.ret (.bl false)] [],
    .ret (.bi .all [.comp [1] (.bop false [.cmp .in_ (.var 1) (.glob 0), .cmp .in_ (.var 1) (.glob 1)]) (.nm 1) .plain [.var 0] []])]⟩
/-- checked_options: options index name -/
def b2_1 : List Sx := [.ite (.bop false [.not_ (.e (.call 1 [.var 2])), .e (.cmp .in_ (.var 2) (.slc (.var 0) [] [.var 1]))]) [.raise_ 3 [.var 0]] []]
def b2 : FnD := ⟨1, 3,
   [.ite (.not_ (.e (.chain .le .le (.int 1) (.bi .len [.var 0]) (.glob 4)))) [.raise_ 3 [.var 0]] [],
    .for_ (.tp [1, 2]) .enum [.var 0] b2_1,
    .ret (.bi .tuple [.var 0])]⟩
/-- good_order: order size index option -/
def b3_1 : List Sx := [.ite (.bop false [.not_ (.e (.chain .le .lt (.int 0) (.var 3) (.var 1))), .e (.cmp .in_ (.var 3) (.slc (.var 0) [] [.var 2]))]) [.ret (.bl false)] []]
def b3 : FnD := ⟨2, 4,
   [.for_ (.tp [2, 3]) .enum [.var 0] b3_1,
    .ret (.bl true)]⟩
/-- good_words: words size word -/
def b4_1 : List Sx := [.ite (.bop false [.e (.cmp .ne (.bi .len [.var 2]) (.int 2)), .e (.cmp .eq (.idx (.var 2) (.int 0)) (.idx (.var 2) (.int 1)))]) [.ret (.bl false)] [],
    .ite (.bop false [.not_ (.e (.chain .le .lt (.int 0) (.idx (.var 2) (.int 0)) (.var 1))), .not_ (.e (.chain .le .lt (.int 0) (.idx (.var 2) (.int 1)) (.var 1)))]) [.ret (.bl false)] []]
def b4 : FnD := ⟨2, 3,
   [.ite (.e (.cmp .gt (.bi .len [.var 0]) (.glob 5))) [.ret (.bl false)] [],
    .for_ (.nm 2) .plain [.var 0] b4_1,
    .ret (.bl true)]⟩
/-- good_ballot: ballot size -/
def b5 : FnD := ⟨2, 2,
   [.ite (.bop false [.e (.cmp .nin (.bi .len [.var 0]) (.tup [.int 2, .int 3])), .e (.cmp .lt (.idx (.var 0) (.int 0)) (.int 1)), .not_ (.e (.call 3 [.idx (.var 0) (.int 1), .var 1]))]) [.ret (.bl false)] [],
    .ret (.bop false [.cmp .eq (.bi .len [.var 0]) (.int 2), .call 4 [.idx (.var 0) (.int 2), .var 1]])]⟩
/-- plain_ballot: ballot words word -/
def b6 : FnD := ⟨1, 3,
   [.set 1 (.tup []),
    .ite (.e (.cmp .eq (.bi .len [.var 0]) (.int 3))) [.set 1 (.bi .tuple [.comp [2] (.tup [.idx (.var 2) (.int 0), .idx (.var 2) (.int 1)]) (.nm 2) .plain [.idx (.var 0) (.int 2)] []])] [],
    .ret (.tup [.idx (.var 0) (.int 0), .bi .tuple [.idx (.var 0) (.int 1)], .var 1])]⟩
/-- checked_ballots: ballots size done total index ballot -/
def b7_1 : List Sx := [.ite (.not_ (.e (.call 5 [.var 5, .var 1]))) [.raise_ 5 [.var 4]] [],
    .set 3 (.bin .add (.var 3) (.idx (.var 5) (.int 0))),
    .ite (.e (.cmp .gt (.var 3) (.glob 2))) [.raise_ 5 [.var 4]] [],
    .app 2 [] (.call 6 [.var 5])]
def b7 : FnD := ⟨2, 6,
   [.ite (.not_ (.e (.chain .le .le (.int 1) (.bi .len [.var 0]) (.glob 3)))) [.raise_ 4 [.bi .len [.var 0]]] [],
    .set 2 (.lst []),
    .set 3 (.int 0),
    .for_ (.tp [4, 5]) .enum [.var 0] b7_1,
    .ret (.bi .tuple [.var 2])]⟩
/-- tells_directly: one two ballot order -/
def b8 : FnD := ⟨3, 4,
   [.set 3 (.idx (.var 2) (.int 1)),
    .ite (.bop false [.e (.cmp .eq (.var 0) (.var 1)), .e (.cmp .in_ (.tup [.var 0, .var 1]) (.idx (.var 2) (.int 2)))]) [.ret (.bl true)] [],
    .ret (.bop true [.cmp .in_ (.var 0) (.var 3), .bop false [.cmp .nin (.var 1) (.var 3), .cmp .lt (.bm .indexT (.var 3) [.var 0]) (.bm .indexT (.var 3) [.var 1])]])]⟩
/-- told_relation: size ballot one two tells middle -/
def b9_1 : List Sx := [.ite (.e (.idx (.idx (.var 4) (.var 2)) (.var 5))) [.sset 4 [.var 2] (.comp [3] (.bop false [.idx (.idx (.var 4) (.var 2)) (.var 3), .idx (.idx (.var 4) (.var 5)) (.var 3)]) (.nm 3) .range1 [.var 0] [])] []]
def b9_2 : List Sx := [.for_ (.nm 2) .range1 [.var 0] b9_1]
def b9 : FnD := ⟨2, 6,
   [.set 4 (.comp [2] (.comp [3] (.call 8 [.var 2, .var 3, .var 1]) (.nm 3) .range1 [.var 0] []) (.nm 2) .range1 [.var 0] []),
    .for_ (.nm 5) .range1 [.var 0] b9_2,
    .ret (.bi .tuple [.comp [2] (.bi .tuple [.comp [3] (.var 3) (.nm 3) .range1 [.var 0] [.e (.idx (.idx (.var 4) (.var 2)) (.var 3))]]) (.nm 2) .range1 [.var 0] []])]⟩
/-- Book.__init__: self options ballots ballot -/
def b10 : FnD := ⟨3, 4,
   [.sfld 0 (.call 2 [.var 1]),
    .sfld 6 (.bi .len [.fld (.var 0) 0]),
    .sfld 7 (.call 7 [.var 2, .bi .len [.fld (.var 0) 0]]),
    .sfld 8 (.bi .tuple [.comp [3] (.idx (.var 3) (.int 0)) (.nm 3) .plain [.fld (.var 0) 7] []]),
    .sfld 9 (.bi .tuple [.comp [3] (.call 9 [.bi .len [.fld (.var 0) 0], .var 3]) (.nm 3) .plain [.fld (.var 0) 7] []])]⟩
/-- Book.total: self -/
def b11 : FnD := ⟨1, 1,
   [.ret (.bi .sum [.fld (.var 0) 8])]⟩
/-- Book.is_whole: self -/
def b12 : FnD := ⟨1, 1,
   [.ex (.call 0 [.int 0])]⟩
/-- Book.tells: self ballot one two -/
def b13 : FnD := ⟨4, 4,
   [.ex (.call 20 [.var 0, .var 1]),
    .ex (.call 19 [.var 0, .var 2]),
    .ex (.call 19 [.var 0, .var 3]),
    .ret (.cmp .in_ (.var 3) (.idx (.idx (.fld (.var 0) 9) (.var 1)) (.var 2)))]⟩
/-- Book.below: self ballot option -/
def b14 : FnD := ⟨3, 3,
   [.ex (.call 0 [.int 1])]⟩
/-- Book.first: self ballot option -/
def b15_1 : List Sx := [.ite (.e (.cmp .eq (.bi .len [.idx (.idx (.fld (.var 0) 9) (.var 1)) (.var 2)]) (.bi .len [.fld (.var 0) 0]))) [.ret (.take 2)] []]
def b15 : FnD := ⟨2, 3,
   [.ex (.call 20 [.var 0, .var 1]),
    .for_ (.nm 2) .range1 [.bi .len [.fld (.var 0) 0]] b15_1,
    .ret (.non)]⟩
/-- Book.ranking: self ballot -/
def b16 : FnD := ⟨2, 2,
   [.ex (.call 0 [.int 2])]⟩
/-- Book.__len__: self -/
def b17 : FnD := ⟨1, 1,
   [.ret (.bi .len [.fld (.var 0) 7])]⟩
/-- Book.__eq__: self other -/
def b18 : FnD := ⟨2, 2,
   [.ret (.bop true [.isin (.var 1) (.cls 9), .cmp .eq (.fld (.var 0) 0) (.fld (.var 1) 0), .cmp .eq (.fld (.var 0) 8) (.fld (.var 1) 8), .cmp .eq (.fld (.var 0) 9) (.fld (.var 1) 9)])]⟩
/-- require_option: book option -/
def b19 : FnD := ⟨2, 2,
   [.ite (.not_ (.e (.chain .le .lt (.int 0) (.var 1) (.fld (.var 0) 6)))) [.raise_ 6 [.var 1]] []]⟩
/-- require_ballot: book ballot -/
def b20 : FnD := ⟨2, 2,
   [.ite (.not_ (.e (.chain .le .lt (.int 0) (.var 1) (.leni 16 (.var 0))))) [.raise_ 7 [.var 1]] []]⟩
/-- exchanged: book ballot row rows -/
def b21 : FnD := ⟨3, 4,
   [.set 3 (.bi .list [.fld (.var 0) 7]),
    .sset 3 [.var 1] (.var 2),
    .ret (.new 9 [.fld (.var 0) 0, .var 3])]⟩
/-- told_more: book ballot one two weight order words -/
def b22 : FnD := ⟨4, 7,
   [.ex (.call 20 [.var 0, .var 1]),
    .ex (.call 19 [.var 0, .var 2]),
    .ex (.call 19 [.var 0, .var 3]),
    .ite (.e (.cmp .eq (.var 2) (.var 3))) [.ret (.take 0)] [],
    .unp [4, 5, 6] (.idx (.fld (.var 0) 7) (.var 1)),
    .ite (.e (.cmp .eq (.bi .len [.var 6]) (.glob 5))) [.raise_ 5 [.var 1]] [],
    .ret (.call 21 [.var 0, .var 1, .tup [.var 4, .var 5, .bin .add (.var 6) (.tup [.tup [.var 2, .var 3]])]])]⟩
/-- is_open: book ballot one two told -/
def b23 : FnD := ⟨4, 5,
   [.set 4 (.idx (.fld (.var 0) 9) (.var 1)),
    .ret (.bop true [.cmp .nin (.var 3) (.idx (.var 4) (.var 2)), .cmp .nin (.var 2) (.idx (.var 4) (.var 3))])]⟩
/-- open_pairs: book ballot one two -/
def b24 : FnD := ⟨1, 4,
   [.ret (.bi .tuple [.compM [1, 2, 3] (.tup [.var 1, .var 2, .var 3]) (.nm 1) .range1 [.leni 16 (.var 0)] [] [.mk (.nm 2) .range1 [.fld (.var 0) 6] [], .mk (.nm 3) .range2 [.bin .add (.var 2) (.int 1), .fld (.var 0) 6] [.e (.call 23 [.var 0, .var 1, .var 2, .var 3])]]])]⟩
/-- answers: book ballot one two -/
def b25 : FnD := ⟨4, 4,
   [.ex (.call 20 [.var 0, .var 1]),
    .ex (.call 19 [.var 0, .var 2]),
    .ex (.call 19 [.var 0, .var 3]),
    .ite (.not_ (.e (.call 23 [.var 0, .var 1, .var 2, .var 3]))) [.raise_ 8 [.var 1, .var 2, .var 3]] [],
    .ret (.tup [.call 22 [.var 0, .var 1, .var 2, .var 3], .call 22 [.var 0, .var 1, .var 3, .var 2]])]⟩
/-- _law_cell: script k seed number -/
def b26_1 : List Sx := [.set 2 (.bin .mod (.bi .int [.bin .add (.bin .mul (.var 2) (.int 31)) (.bin .mod (.bi .int [.var 3]) (.int 1000003))]) (.int 1000003))]
def b26 : FnD := ⟨2, 4,
   [.ite (.e (.cmp .lt (.var 1) (.bi .len [.var 0]))) [.ret (.idx (.var 0) (.var 1))] [],
    .set 2 (.int 17),
    .for_ (.nm 3) .plain [.var 0] b26_1,
    .ret (.bin .mod (.bi .int [.bin .mul (.bin .mul (.bin .add (.var 2) (.int 7)) (.bin .add (.var 1) (.int 3))) (.int 69621)]) (.int 2147483647))]⟩
/-- _law_digits: number sizes row rest size seed k twice -/
def b27_1 : List Sx := [.app 2 [] (.bin .mod (.bi .int [.var 3]) (.var 4)),
    .set 3 (.bin .fdiv (.bi .int [.var 3]) (.var 4))]
def b27_2 : List Sx := [.set 5 (.bin .mod (.bi .int [.bin .add (.bin .add (.bin .mul (.var 5) (.int 48271)) (.bin .mul (.int 974711) (.var 6))) (.int 12345)]) (.int 2147483647)),
    .set 7 (.bin .mod (.bi .int [.bin .mul (.var 5) (.bin .add (.bin .fdiv (.var 5) (.int 65537)) (.int 3))]) (.int 2147483629)),
    .app 2 [] (.bin .mod (.bin .fdiv (.var 7) (.int 19)) (.idx (.var 1) (.var 6)))]
def b27 : FnD := ⟨2, 8,
   [.set 2 (.lst []),
    .set 3 (.bi .int [.var 0]),
    .ite (.e (.cmp .ge (.var 3) (.bin .pow (.int 10) (.int 18)))) [.set 3 (.bin .sub (.var 3) (.bin .pow (.int 10) (.int 18))),
    .for_ (.nm 4) .plain [.var 1] b27_1,
    .ret (.take 2)] [],
    .set 5 (.bin .mod (.bi .int [.var 3]) (.int 2147483629)),
    .for_ (.nm 6) .range1 [.bi .len [.var 1]] b27_2,
    .ret (.take 2)]⟩
/-- _law_order: row size k left order -/
def b28_1 : List Sx := [.apop 4 3 (.bin .mod (.bi .int [.idx (.var 0) (.var 2)]) (.bi .len [.var 3]))]
def b28 : FnD := ⟨2, 5,
   [.set 3 (.comp [2] (.var 2) (.nm 2) .range1 [.var 1] []),
    .set 4 (.lst []),
    .for_ (.nm 2) .range1 [.var 1] b28_1,
    .ret (.take 4)]⟩
/-- _law_ballot: cell size kind row weight order kept tellings k one -/
def b29_1 : List Sx := [.set 9 (.bin .mod (.bi .int [.idx (.var 3) (.bin .add (.int 12) (.bin .mul (.int 2) (.var 8)))]) (.var 1)),
    .app 7 [] (.lst [.var 9, .bin .mod (.bi .int [.bin .add (.bin .add (.var 9) (.int 1)) (.bin .mod (.bi .int [.idx (.var 3) (.bin .add (.int 13) (.bin .mul (.int 2) (.var 8)))]) (.bin .sub (.var 1) (.int 1)))]) (.var 1)])]
def b29 : FnD := ⟨3, 10,
   [.set 3 (.call 27 [.var 0, .bin .add (.bin .add (.bin .add (.lst [.int 12, .int 16]) (.bin .mul (.lst [.int 840]) (.int 8))) (.lst [.int 12, .int 4])) (.bin .mul (.lst [.int 840]) (.int 4))]),
    .set 4 (.idx (.lst [.int 1, .int 1, .int 1, .int 2, .int 1, .int 3, .int 1, .int 2, .int 5, .int 1, .int 4, .int 7]) (.idx (.var 3) (.int 0))),
    .ite (.e (.cmp .eq (.idx (.var 3) (.int 1)) (.int 15))) [.set 4 (.idx (.lst [.int 60, .int 1000, .int 999983, .int 31]) (.bin .mod (.idx (.var 3) (.int 0)) (.int 4)))] [],
    .set 5 (.call 28 [.slc (.var 3) [.int 2] [.int 10], .var 1]),
    .ite (.bop false [.e (.cmp .eq (.var 2) (.int 0)), .e (.cmp .lt (.idx (.var 3) (.int 10)) (.int 6))]) [.ret (.lst [.var 4, .var 5, .lst []])] [],
    .set 6 (.idx (.lst [.int 1, .int 2, .int 0, .var 1, .int 1, .int 3]) (.bin .sub (.idx (.var 3) (.int 10)) (.int 6))),
    .set 7 (.lst []),
    .ite (.e (.cmp .gt (.var 1) (.int 1))) [.for_ (.nm 8) .range1 [.idx (.lst [.int 0, .int 1, .int 2, .int 1]) (.idx (.var 3) (.int 11))] b29_1] [],
    .ret (.lst [.var 4, .slc (.var 5) [] [.bi .min [.var 6, .var 1]], .var 7])]⟩
/-- _law_names: shift size menu k -/
def b30 : FnD := ⟨2, 4,
   [.set 2 (.lst [.str "a", .str "park", .str "x1", .str "mill", .str "b", .str "school9", .str "o", .str "abcdefghijkl"]),
    .ret (.comp [3] (.idx (.var 2) (.bin .mod (.bi .int [.bin .add (.var 0) (.var 3)]) (.int 8))) (.nm 3) .range1 [.var 1] [])]⟩
/-- _law_book: script at sizes counts kind shape size many k ballots word -/
def b31 : FnD := ⟨5, 11,
   [.set 5 (.call 27 [.call 26 [.var 0, .var 1], .lst [.int 840, .int 840, .int 8, .int 6]]),
    .set 6 (.idx (.var 2) (.bin .mod (.bi .int [.idx (.var 5) (.int 0)]) (.bi .len [.var 2]))),
    .set 7 (.idx (.var 3) (.bin .mod (.bi .int [.idx (.var 5) (.int 1)]) (.bi .len [.var 3]))),
    .set 9 (.comp [8] (.call 29 [.call 26 [.var 0, .bin .add (.bin .add (.var 1) (.int 1)) (.var 8)], .var 6, .var 4]) (.nm 8) .range1 [.var 7] []),
    .ite (.bop true [.e (.cmp .eq (.idx (.var 5) (.int 3)) (.int 0)), .e (.cmp .gt (.var 7) (.int 1))]) [.sset 9 [.bin .sub (.var 7) (.int 1)] (.lst [.idx (.idx (.var 9) (.bin .sub (.var 7) (.int 1))) (.int 0), .bi .list [.idx (.idx (.var 9) (.int 0)) (.int 1)], .box (.comp [10] (.bi .list [.var 10]) (.nm 10) .plain [.idx (.idx (.var 9) (.int 0)) (.int 2)] [])])] [],
    .ret (.lst [.call 30 [.idx (.var 5) (.int 2), .var 6], .var 9])]⟩
/-- _law_handed: ballots ballot word -/
def b32 : FnD := ⟨1, 3,
   [.ret (.comp [1] (.lst [.idx (.var 1) (.int 0), .bi .list [.idx (.var 1) (.int 1)], .comp [2] (.bi .list [.var 2]) (.nm 2) .plain [.idx (.var 1) (.int 2)] []]) (.nm 1) .plain [.var 0] [])]⟩
/-- _law_told: size ballot a told order k b word middle -/
def b33_1 : List Sx := [.sset 3 [.var 2, .var 2] (.bl true)]
def b33_2 : List Sx := [.ite (.e (.cmp .nin (.var 6) (.slc (.var 4) [] [.var 5]))) [.sset 3 [.idx (.var 4) (.var 5), .var 6] (.bl true)] []]
def b33_3 : List Sx := [.for_ (.nm 6) .range1 [.var 0] b33_2]
def b33_4 : List Sx := [.sset 3 [.idx (.var 7) (.int 0), .idx (.var 7) (.int 1)] (.bl true)]
def b33_5 : List Sx := [.ite (.bop true [.e (.idx (.idx (.var 3) (.var 2)) (.var 8)), .e (.idx (.idx (.var 3) (.var 8)) (.var 6))]) [.sset 3 [.var 2, .var 6] (.bl true)] []]
def b33_6 : List Sx := [.for_ (.nm 6) .range1 [.var 0] b33_5]
def b33_7 : List Sx := [.for_ (.nm 2) .range1 [.var 0] b33_6]
def b33 : FnD := ⟨2, 9,
   [.set 3 (.comp [2] (.bin .mul (.lst [.bl false]) (.var 0)) (.nm 2) .range1 [.var 0] []),
    .for_ (.nm 2) .range1 [.var 0] b33_1,
    .set 4 (.idx (.var 1) (.int 1)),
    .for_ (.nm 5) .range1 [.bi .len [.var 4]] b33_3,
    .for_ (.nm 7) .plain [.idx (.var 1) (.int 2)] b33_4,
    .for_ (.nm 8) .range1 [.var 0] b33_7,
    .ret (.take 3)]⟩
/-- _law_tolds: size ballots ballot -/
def b34 : FnD := ⟨2, 3,
   [.ret (.comp [2] (.call 33 [.var 0, .var 2]) (.nm 2) .plain [.var 1] [])]⟩
/-- _law_kind: made ballot one two e -/
def b35 : FnD := ⟨4, 5,
   [.try_ [.ex (.call 25 [.var 0, .var 1, .var 2, .var 3])] 0 (some 4) [.ite (.e (.isin (.var 4) (.cls 7))) [.ret (.tup [.int 1, .fld (.var 4) 2, .int 0, .int 0])] [],
    .ite (.e (.isin (.var 4) (.cls 6))) [.ret (.tup [.int 2, .fld (.var 4) 3, .int 0, .int 0])] [],
    .ite (.e (.isin (.var 4) (.cls 8))) [.ret (.tup [.int 3, .fld (.var 4) 2, .fld (.var 4) 4, .fld (.var 4) 5])] []],
    .ret (.tup [.int 0, .int 0, .int 0, .int 0])]⟩
/-- _law_tells: told size rows a b -/
def b36_1 : List Sx := [.app 2 [] (.bi .tuple [.comp [4] (.var 4) (.nm 4) .range1 [.var 1] [.e (.idx (.idx (.var 0) (.var 3)) (.var 4))]])]
def b36 : FnD := ⟨2, 5,
   [.set 2 (.lst []),
    .for_ (.nm 3) .range1 [.var 1] b36_1,
    .ret (.bi .tuple [.var 2])]⟩
/-- law: script book size tolds many row due i a b made told pair turn one two both k first second more one_told -/
def b37_1 : List Sx := [.ite (.bop true [.not_ (.e (.idx (.idx (.idx (.var 3) (.var 7)) (.var 8)) (.var 9))), .not_ (.e (.idx (.idx (.idx (.var 3) (.var 7)) (.var 9)) (.var 8)))]) [.app 6 [] (.tup [.var 7, .var 8, .var 9])] []]
def b37_2 : List Sx := [.for_ (.nm 9) .range2 [.bin .add (.var 8) (.int 1), .var 2] b37_1]
def b37_3 : List Sx := [.for_ (.nm 8) .range1 [.var 2] b37_2]
def b37_4 : List Sx := [.set 18 (.idx (.lst [.var 14, .var 15]) (.var 17)),
    .set 19 (.idx (.lst [.var 15, .var 14]) (.var 17)),
    .set 20 (.call 32 [.idx (.var 1) (.int 1)]),
    .sadd 20 [.idx (.var 12) (.int 0), .int 2] [.idx (.var 12) (.int 0)] (.int 2) (.lst [.lst [.var 18, .var 19]]),
    .ite (.bop false [.e (.cmp .ne (.fld (.idx (.var 16) (.var 17)) 8) (.fld (.var 10) 8)), .e (.cmp .ne (.fld (.idx (.var 16) (.var 17)) 0) (.fld (.var 10) 0))]) [.ret (.bl false)] [],
    .ite (.e (.cmp .ne (.fld (.idx (.var 16) (.var 17)) 9) (.bi .tuple [.comp [21] (.call 36 [.var 21, .var 2]) (.nm 21) .plain [.call 34 [.var 2, .var 20]] []]))) [.ret (.bl false)] []]
def b37_5 : List Sx := [.set 14 (.idx (.var 12) (.bin .add (.int 1) (.var 13))),
    .set 15 (.idx (.var 12) (.bin .sub (.int 2) (.var 13))),
    .set 16 (.call 25 [.var 10, .idx (.var 12) (.int 0), .var 14, .var 15]),
    .ite (.bop false [.not_ (.e (.isin (.var 16) .tuple)), .e (.cmp .ne (.bi .len [.var 16]) (.int 2))]) [.ret (.bl false)] [],
    .for_ (.nm 17) .range1 [.int 2] b37_4]
def b37_6 : List Sx := [.for_ (.nm 13) .range1 [.int 2] b37_5]
def b37_7 : List Sx := [.ite (.bop true [.bop false [.e (.idx (.idx (.idx (.var 3) (.var 7)) (.var 8)) (.var 9)), .e (.idx (.idx (.idx (.var 3) (.var 7)) (.var 9)) (.var 8))], .e (.cmp .ne (.call 35 [.var 10, .var 7, .var 8, .var 9]) (.tup [.int 3, .var 7, .var 8, .var 9]))]) [.ret (.bl false)] []]
def b37 : FnD := ⟨1, 22,
   [.set 1 (.call 31 [.var 0, .int 0, .lst [.int 3, .int 4, .int 2, .int 3, .int 5, .int 3, .int 1], .lst [.int 3, .int 2, .int 4, .int 1, .int 5], .int 1]),
    .set 2 (.bi .len [.idx (.var 1) (.int 0)]),
    .set 3 (.call 34 [.var 2, .idx (.var 1) (.int 1)]),
    .set 4 (.bi .len [.var 3]),
    .set 5 (.call 27 [.call 26 [.var 0, .int 9], .lst [.int 840, .int 840, .int 840]]),
    .set 6 (.lst []),
    .for_ (.nm 7) .range1 [.var 4] b37_3,
    .set 10 (.new 9 [.idx (.var 1) (.int 0), .call 32 [.idx (.var 1) (.int 1)]]),
    .set 11 (.call 24 [.var 10]),
    .ite (.bop false [.not_ (.e (.isin (.var 11) .tuple)), .e (.cmp .ne (.bi .list [.var 11]) (.var 6))]) [.ret (.bl false)] [],
    .for_ (.nm 12) .plain [.slc (.var 6) [] [.int 12]] b37_6,
    .set 7 (.bin .mod (.bi .int [.idx (.var 5) (.int 0)]) (.var 4)),
    .set 8 (.bin .mod (.bi .int [.idx (.var 5) (.int 1)]) (.var 2)),
    .for_ (.nm 9) .range1 [.var 2] b37_7,
    .ite (.bop false [.e (.cmp .ne (.call 35 [.var 10, .var 4, .var 2, .var 2]) (.tup [.int 1, .var 4, .int 0, .int 0])), .e (.cmp .ne (.call 35 [.var 10, .var 7, .var 2, .bin .sub (.int 0) (.int 1)]) (.tup [.int 2, .var 2, .int 0, .int 0]))]) [.ret (.bl false)] [],
    .ret (.bop true [.cmp .eq (.call 35 [.var 10, .var 7, .var 8, .bin .sub (.int 0) (.int 1)]) (.tup [.int 2, .bin .sub (.int 0) (.int 1), .int 0, .int 0]), .cmp .eq (.call 35 [.var 10, .bin .sub (.int 0) (.int 1), .var 8, .var 8]) (.tup [.int 1, .bin .sub (.int 0) (.int 1), .int 0, .int 0])])]⟩
def fnsL : List FnD := [b0, b1, b2, b3, b4, b5, b6, b7, b8, b9, b10, b11, b12, b13, b14, b15, b16, b17, b18, b19, b20, b21, b22, b23, b24, b25, b26, b27, b28, b29, b30, b31, b32, b33, b34, b35, b36, b37]
def initL : List (Nat × Nat) := [(9, 10)]
def P : Prog := ⟨tab, fun f => fnsL[f]?, fun c => initL.lookup c, fun f => ([] : List Nat).contains f⟩
@[simp] theorem P_glob_0 : P.tab.glob 0 = some (.str "abcdefghijklmnopqrstuvwxyz") := Eq.trans rfl rfl
@[simp] theorem P_glob_1 : P.tab.glob 1 = some (.str "0123456789") := Eq.trans rfl rfl
@[simp] theorem P_glob_2 : P.tab.glob 2 = some (.int (1000000000)) := Eq.trans rfl rfl
@[simp] theorem P_glob_3 : P.tab.glob 3 = some (.int (8)) := Eq.trans rfl rfl
@[simp] theorem P_glob_4 : P.tab.glob 4 = some (.int (8)) := Eq.trans rfl rfl
@[simp] theorem P_glob_5 : P.tab.glob 5 = some (.int (20)) := Eq.trans rfl rfl
@[simp] theorem P_kit_9_6 : P.tab.kit 9 (.cls 6) = some false := Eq.trans rfl rfl
@[simp] theorem P_kit_9_7 : P.tab.kit 9 (.cls 7) = some false := Eq.trans rfl rfl
@[simp] theorem P_kit_9_8 : P.tab.kit 9 (.cls 8) = some false := Eq.trans rfl rfl
@[simp] theorem P_kit_9_9 : P.tab.kit 9 (.cls 9) = some true := Eq.trans rfl rfl
@[simp] theorem P_xkit_0 : P.tab.xkit 3 (.cls 6) = some false := Eq.trans rfl rfl
@[simp] theorem P_xkit_1 : P.tab.xkit 3 (.cls 7) = some false := Eq.trans rfl rfl
@[simp] theorem P_xkit_2 : P.tab.xkit 3 (.cls 8) = some false := Eq.trans rfl rfl
@[simp] theorem P_xkit_3 : P.tab.xkit 3 (.cls 9) = some false := Eq.trans rfl rfl
@[simp] theorem P_xkit_4 : P.tab.xkit 4 (.cls 6) = some false := Eq.trans rfl rfl
@[simp] theorem P_xkit_5 : P.tab.xkit 4 (.cls 7) = some false := Eq.trans rfl rfl
@[simp] theorem P_xkit_6 : P.tab.xkit 4 (.cls 8) = some false := Eq.trans rfl rfl
@[simp] theorem P_xkit_7 : P.tab.xkit 4 (.cls 9) = some false := Eq.trans rfl rfl
@[simp] theorem P_xkit_8 : P.tab.xkit 5 (.cls 6) = some false := Eq.trans rfl rfl
@[simp] theorem P_xkit_9 : P.tab.xkit 5 (.cls 7) = some false := Eq.trans rfl rfl
@[simp] theorem P_xkit_10 : P.tab.xkit 5 (.cls 8) = some false := Eq.trans rfl rfl
@[simp] theorem P_xkit_11 : P.tab.xkit 5 (.cls 9) = some false := Eq.trans rfl rfl
@[simp] theorem P_xkit_12 : P.tab.xkit 6 (.cls 6) = some true := Eq.trans rfl rfl
@[simp] theorem P_xkit_13 : P.tab.xkit 6 (.cls 7) = some false := Eq.trans rfl rfl
@[simp] theorem P_xkit_14 : P.tab.xkit 6 (.cls 8) = some false := Eq.trans rfl rfl
@[simp] theorem P_xkit_15 : P.tab.xkit 6 (.cls 9) = some false := Eq.trans rfl rfl
@[simp] theorem P_xkit_16 : P.tab.xkit 7 (.cls 6) = some false := Eq.trans rfl rfl
@[simp] theorem P_xkit_17 : P.tab.xkit 7 (.cls 7) = some true := Eq.trans rfl rfl
@[simp] theorem P_xkit_18 : P.tab.xkit 7 (.cls 8) = some false := Eq.trans rfl rfl
@[simp] theorem P_xkit_19 : P.tab.xkit 7 (.cls 9) = some false := Eq.trans rfl rfl
@[simp] theorem P_xkit_20 : P.tab.xkit 8 (.cls 6) = some false := Eq.trans rfl rfl
@[simp] theorem P_xkit_21 : P.tab.xkit 8 (.cls 7) = some false := Eq.trans rfl rfl
@[simp] theorem P_xkit_22 : P.tab.xkit 8 (.cls 8) = some true := Eq.trans rfl rfl
@[simp] theorem P_xkit_23 : P.tab.xkit 8 (.cls 9) = some false := Eq.trans rfl rfl
@[simp] theorem P_xkit_24 : P.tab.xkit 3 .ve = some true := Eq.trans rfl rfl
@[simp] theorem P_xkit_25 : P.tab.xkit 4 .ve = some true := Eq.trans rfl rfl
@[simp] theorem P_xkit_26 : P.tab.xkit 5 .ve = some true := Eq.trans rfl rfl
@[simp] theorem P_xkit_27 : P.tab.xkit 6 .ve = some true := Eq.trans rfl rfl
@[simp] theorem P_xkit_28 : P.tab.xkit 7 .ve = some true := Eq.trans rfl rfl
@[simp] theorem P_xkit_29 : P.tab.xkit 8 .ve = some true := Eq.trans rfl rfl
@[simp] theorem P_exm_3_0 : P.tab.exm 3 0 = some true := Eq.trans rfl rfl
@[simp] theorem P_exm_4_0 : P.tab.exm 4 0 = some true := Eq.trans rfl rfl
@[simp] theorem P_exm_5_0 : P.tab.exm 5 0 = some true := Eq.trans rfl rfl
@[simp] theorem P_exm_6_0 : P.tab.exm 6 0 = some true := Eq.trans rfl rfl
@[simp] theorem P_exm_7_0 : P.tab.exm 7 0 = some true := Eq.trans rfl rfl
@[simp] theorem P_exm_8_0 : P.tab.exm 8 0 = some true := Eq.trans rfl rfl
@[simp] theorem P_xf_3 : P.tab.xf 3 = [0] := Eq.trans rfl rfl
@[simp] theorem P_xf_4 : P.tab.xf 4 = [1] := Eq.trans rfl rfl
@[simp] theorem P_xf_5 : P.tab.xf 5 = [2] := Eq.trans rfl rfl
@[simp] theorem P_xf_6 : P.tab.xf 6 = [3] := Eq.trans rfl rfl
@[simp] theorem P_xf_7 : P.tab.xf 7 = [2] := Eq.trans rfl rfl
@[simp] theorem P_xf_8 : P.tab.xf 8 = [5, 4, 2] := Eq.trans rfl rfl
@[simp] theorem P_fields_9 : P.tab.fields 9 = [0, 6, 7, 8, 9] := Eq.trans rfl rfl
@[simp] theorem P_prop_9_0 : P.tab.prop 9 0 = none := Eq.trans rfl rfl
@[simp] theorem P_prop_9_6 : P.tab.prop 9 6 = none := Eq.trans rfl rfl
@[simp] theorem P_prop_9_7 : P.tab.prop 9 7 = none := Eq.trans rfl rfl
@[simp] theorem P_prop_9_8 : P.tab.prop 9 8 = none := Eq.trans rfl rfl
@[simp] theorem P_prop_9_9 : P.tab.prop 9 9 = none := Eq.trans rfl rfl
@[simp] theorem P_prop_9_10 : P.tab.prop 9 10 = some 11 := Eq.trans rfl rfl
@[simp] theorem P_prop_9_11 : P.tab.prop 9 11 = some 12 := Eq.trans rfl rfl
@[simp] theorem P_meth_9_12 : P.tab.meth 9 12 = some 13 := Eq.trans rfl rfl
@[simp] theorem P_meth_9_13 : P.tab.meth 9 13 = some 14 := Eq.trans rfl rfl
@[simp] theorem P_meth_9_14 : P.tab.meth 9 14 = some 15 := Eq.trans rfl rfl
@[simp] theorem P_meth_9_15 : P.tab.meth 9 15 = some 16 := Eq.trans rfl rfl
@[simp] theorem P_meth_9_16 : P.tab.meth 9 16 = some 17 := Eq.trans rfl rfl
@[simp] theorem P_meth_9_18 : P.tab.meth 9 18 = some 18 := Eq.trans rfl rfl
theorem ck0 : defB T glob 40 ["k"] ["k"] (top 0) false b0 = true := by decide +kernel
theorem ck1 : defB T glob 40 ["name", "sign"] ["name"] (top 18) false b1 = true := by decide +kernel
theorem ck2 : defB T glob 40 ["options", "index", "name"] ["options"] (top 19) false b2 = true := by decide +kernel
theorem ck3 : defB T glob 40 ["order", "size", "index", "option"] ["order", "size"] (top 20) false b3 = true := by decide +kernel
theorem ck4 : defB T glob 40 ["words", "size", "word"] ["words", "size"] (top 21) false b4 = true := by decide +kernel
theorem ck5 : defB T glob 40 ["ballot", "size"] ["ballot", "size"] (top 22) false b5 = true := by decide +kernel
theorem ck6 : defB T glob 40 ["ballot", "words", "word"] ["ballot"] (top 23) false b6 = true := by decide +kernel
theorem ck7 : defB T glob 40 ["ballots", "size", "done", "total", "index", "ballot"] ["ballots", "size"] (top 24) false b7 = true := by decide +kernel
theorem ck8 : defB T glob 40 ["one", "two", "ballot", "order"] ["one", "two", "ballot"] (top 25) false b8 = true := by decide +kernel
theorem ck9 : defB T glob 40 ["size", "ballot", "one", "two", "tells", "middle"] ["size", "ballot"] (top 26) false b9 = true := by decide +kernel
theorem ck10 : defB T glob 40 ["self", "options", "ballots", "ballot"] ["self", "options", "ballots"] (inClass (top 27) 0) false b10 = true := by decide +kernel
theorem ck11 : defB T glob 40 ["self"] ["self"] (inClass (top 27) 1) false b11 = true := by decide +kernel
theorem ck12 : defB T glob 40 ["self"] ["self"] (inClass (top 27) 2) false b12 = true := by decide +kernel
theorem ck13 : defB T glob 40 ["self", "ballot", "one", "two"] ["self", "ballot", "one", "two"] (inClass (top 27) 3) false b13 = true := by decide +kernel
theorem ck14 : defB T glob 40 ["self", "ballot", "option"] ["self", "ballot", "option"] (inClass (top 27) 4) false b14 = true := by decide +kernel
theorem ck15 : defB T glob 40 ["self", "ballot", "option"] ["self", "ballot"] (inClass (top 27) 5) false b15 = true := by decide +kernel
theorem ck16 : defB T glob 40 ["self", "ballot"] ["self", "ballot"] (inClass (top 27) 6) false b16 = true := by decide +kernel
theorem ck17 : defB T glob 40 ["self"] ["self"] (inClass (top 27) 7) false b17 = true := by decide +kernel
theorem ck18 : defB T glob 40 ["self", "other"] ["self", "other"] (inClass (top 27) 9) false b18 = true := by decide +kernel
theorem ck19 : defB T glob 40 ["book", "option"] ["book", "option"] (top 28) false b19 = true := by decide +kernel
theorem ck20 : defB T glob 40 ["book", "ballot"] ["book", "ballot"] (top 29) false b20 = true := by decide +kernel
theorem ck21 : defB T glob 40 ["book", "ballot", "row", "rows"] ["book", "ballot", "row"] (top 31) false b21 = true := by decide +kernel
theorem ck22 : defB T glob 40 ["book", "ballot", "one", "two", "weight", "order", "words"] ["book", "ballot", "one", "two"] (top 32) false b22 = true := by decide +kernel
theorem ck23 : defB T glob 40 ["book", "ballot", "one", "two", "told"] ["book", "ballot", "one", "two"] (top 34) false b23 = true := by decide +kernel
theorem ck24 : defB T glob 40 ["book", "ballot", "one", "two"] ["book"] (top 35) false b24 = true := by decide +kernel
theorem ck25 : defB T glob 40 ["book", "ballot", "one", "two"] ["book", "ballot", "one", "two"] (top 36) false b25 = true := by decide +kernel
theorem ck26 : defB T glob 40 ["script", "k", "seed", "number"] ["script", "k"] (top 38) false b26 = true := by decide +kernel
theorem ck27 : defB T glob 40 ["number", "sizes", "row", "rest", "size", "seed", "k", "twice"] ["number", "sizes"] (top 39) false b27 = true := by decide +kernel
theorem ck28 : defB T glob 40 ["row", "size", "k", "left", "order"] ["row", "size"] (top 40) false b28 = true := by decide +kernel
theorem ck29 : defB T glob 40 ["cell", "size", "kind", "row", "weight", "order", "kept", "tellings", "k", "one"] ["cell", "size", "kind"] (top 41) false b29 = true := by decide +kernel
theorem ck30 : defB T glob 40 ["shift", "size", "menu", "k"] ["shift", "size"] (top 42) false b30 = true := by decide +kernel
theorem ck31 : defB T glob 40 ["script", "at", "sizes", "counts", "kind", "shape", "size", "many", "k", "ballots", "word"] ["script", "at", "sizes", "counts", "kind"] (top 43) false b31 = true := by decide +kernel
theorem ck32 : defB T glob 40 ["ballots", "ballot", "word"] ["ballots"] (top 44) false b32 = true := by decide +kernel
theorem ck33 : defB T glob 40 ["size", "ballot", "a", "told", "order", "k", "b", "word", "middle"] ["size", "ballot"] (top 45) false b33 = true := by decide +kernel
theorem ck34 : defB T glob 40 ["size", "ballots", "ballot"] ["size", "ballots"] (top 46) false b34 = true := by decide +kernel
theorem ck35 : defB T glob 40 ["made", "ballot", "one", "two", "e"] ["made", "ballot", "one", "two"] (top 47) false b35 = true := by decide +kernel
theorem ck36 : defB T glob 40 ["told", "size", "rows", "a", "b"] ["told", "size"] (top 48) false b36 = true := by decide +kernel
theorem ck37 : defB T glob 40 ["script", "book", "size", "tolds", "many", "row", "due", "i", "a", "b", "made", "told", "pair", "turn", "one", "two", "both", "k", "first", "second", "more", "one_told"] ["script"] (top 49) false b37 = true := by decide +kernel
end K85
set_option Elab.async false
set_option linter.all false
set_option maxRecDepth 100000
set_option maxHeartbeats 4000000
/-! K85J: the join of law_k85_open_pairs_and_answers, printed by gen.py. -/
namespace K85
open PySem PySem.Spec PyProof.Rows L2 SL
def fnm (c : Nat) : List Str := ((tab.fields c) ++ (tab.xf c)).map T.at_
theorem fnm_small : ∀ c, (fnm c).length < 900 ∧ (fnm c).Nodup
  | 0 => by decide +kernel
  | 1 => by decide +kernel
  | 2 => by decide +kernel
  | 3 => by decide +kernel
  | 4 => by decide +kernel
  | 5 => by decide +kernel
  | 6 => by decide +kernel
  | 7 => by decide +kernel
  | 8 => by decide +kernel
  | 9 => by decide +kernel
  | _ + 10 => ⟨by simp [fnm, tab, fieldsL, xfL], by simp [fnm, tab, fieldsL, xfL]⟩
section
variable {l : PySem.W.OpenLaw} {w : World} {K : PySem.W.Frag} {h : Heap} {mg : Str → Option Value} {fa f0 f1 f2 f3 f4 f5 f6 f7 f8 f9 f10 f11 f12 f13 f14 f15 f16 f17 f18 f19 f20 f21 f22 f23 f24 f25 f26 f27 f28 f29 f30 f31 f32 f33 f34 f35 f36 f37 x3 x4 x5 x6 x7 x8 c0 c3 c4 c5 c6 c7 c8 c9 : Addr} {p11 : Addr} {r11 : List Value} {p12 : Addr} {r12 : List Value} {xnm3 xq3 : Str} {xN3 : Addr} {xbs3 xbm3 xsub3 : List Value} {xsn3 : List Str} {xab3 : Bool} {xcol3 : Option Bool} {xdd3 : Option Addr} {xk03 xk13 xk23 xk33 xk53 : Option Value} {xnm4 xq4 : Str} {xN4 : Addr} {xbs4 xbm4 xsub4 : List Value} {xsn4 : List Str} {xab4 : Bool} {xcol4 : Option Bool} {xdd4 : Option Addr} {xk04 xk14 xk24 xk34 xk54 : Option Value} {xnm5 xq5 : Str} {xN5 : Addr} {xbs5 xbm5 xsub5 : List Value} {xsn5 : List Str} {xab5 : Bool} {xcol5 : Option Bool} {xdd5 : Option Addr} {xk05 xk15 xk25 xk35 xk55 : Option Value} {xnm6 xq6 : Str} {xN6 : Addr} {xbs6 xbm6 xsub6 : List Value} {xsn6 : List Str} {xab6 : Bool} {xcol6 : Option Bool} {xdd6 : Option Addr} {xk06 xk16 xk26 xk36 xk56 : Option Value} {xnm7 xq7 : Str} {xN7 : Addr} {xbs7 xbm7 xsub7 : List Value} {xsn7 : List Str} {xab7 : Bool} {xcol7 : Option Bool} {xdd7 : Option Addr} {xk07 xk17 xk27 xk37 xk57 : Option Value} {xnm8 xq8 : Str} {xN8 : Addr} {xbs8 xbm8 xsub8 : List Value} {xsn8 : List Str} {xab8 : Bool} {xcol8 : Option Bool} {xdd8 : Option Addr} {xk08 xk18 xk28 xk38 xk58 : Option Value} {u0 : Nat} {u1 : Nat} {u2 : Nat} {u3 : Nat} {u4 : Nat} {u5 : Nat}
theorem all_mk (hlaw : ∀ ns : List Int, ns.length ≤ 63 → (semN P (20 + 1)).fn false 37 [.scr ns] = some (.ret (.bl true))) (X : K.In h) (G : h.Ns mainGlobals mg) (hfa : mg "law" = some (.ref fa))
    (nc0 : PySem.W.nsIn K mainGlobals "AnymapError" = some (some (.ref c0)))
    (nc3 : PySem.W.nsIn K mainGlobals "BadOptions" = some (some (.ref c3)))
    (nc4 : PySem.W.nsIn K mainGlobals "BadBallots" = some (some (.ref c4)))
    (nc5 : PySem.W.nsIn K mainGlobals "BadBallot" = some (some (.ref c5)))
    (nc6 : PySem.W.nsIn K mainGlobals "NoOption" = some (some (.ref c6)))
    (nc7 : PySem.W.nsIn K mainGlobals "NoBallot" = some (some (.ref c7)))
    (nc8 : PySem.W.nsIn K mainGlobals "NotOpen" = some (some (.ref c8)))
    (nc9 : PySem.W.nsIn K mainGlobals "Book" = some (some (.ref c9)))
    (a0 : PySem.W.nsIn K mainGlobals "_wall" = some (some (.ref f0)))
    (d0 : DefK K f0 "_wall" "_wall" (top 0))
    (a1 : PySem.W.nsIn K mainGlobals "good_name" = some (some (.ref f1)))
    (d1 : DefK K f1 "good_name" "good_name" (top 18))
    (a2 : PySem.W.nsIn K mainGlobals "checked_options" = some (some (.ref f2)))
    (d2 : DefK K f2 "checked_options" "checked_options" (top 19))
    (a3 : PySem.W.nsIn K mainGlobals "good_order" = some (some (.ref f3)))
    (d3 : DefK K f3 "good_order" "good_order" (top 20))
    (a4 : PySem.W.nsIn K mainGlobals "good_words" = some (some (.ref f4)))
    (d4 : DefK K f4 "good_words" "good_words" (top 21))
    (a5 : PySem.W.nsIn K mainGlobals "good_ballot" = some (some (.ref f5)))
    (d5 : DefK K f5 "good_ballot" "good_ballot" (top 22))
    (a6 : PySem.W.nsIn K mainGlobals "plain_ballot" = some (some (.ref f6)))
    (d6 : DefK K f6 "plain_ballot" "plain_ballot" (top 23))
    (a7 : PySem.W.nsIn K mainGlobals "checked_ballots" = some (some (.ref f7)))
    (d7 : DefK K f7 "checked_ballots" "checked_ballots" (top 24))
    (a8 : PySem.W.nsIn K mainGlobals "tells_directly" = some (some (.ref f8)))
    (d8 : DefK K f8 "tells_directly" "tells_directly" (top 25))
    (a9 : PySem.W.nsIn K mainGlobals "told_relation" = some (some (.ref f9)))
    (d9 : DefK K f9 "told_relation" "told_relation" (top 26))
    (a10 : PySem.W.findIn K (.ref c9) "__init__" = some (some (.ref f10)))
    (d10 : DefK K f10 "__init__" "Book.__init__" (inClass (top 27) 0))
    (a11 : PySem.W.findIn K (.ref c9) "total" = some (some (.ref p11)))
    (r_11 : PySem.W.recIn K p11 "property" = some (.ref f11 :: r11))
    (q11 : (PySem.W.specialIn K (.ref p11) "__get__" == some (some (.builtin "property.__get__")) && PySem.W.takesIn K (.ref p11) == some true) = true)
    (d11 : DefK K f11 "total" "Book.total" (inClass (top 27) 1))
    (a12 : PySem.W.findIn K (.ref c9) "is_whole" = some (some (.ref p12)))
    (r_12 : PySem.W.recIn K p12 "property" = some (.ref f12 :: r12))
    (q12 : (PySem.W.specialIn K (.ref p12) "__get__" == some (some (.builtin "property.__get__")) && PySem.W.takesIn K (.ref p12) == some true) = true)
    (d12 : DefK K f12 "is_whole" "Book.is_whole" (inClass (top 27) 2))
    (a13 : PySem.W.findIn K (.ref c9) "tells" = some (some (.ref f13)))
    (d13 : DefK K f13 "tells" "Book.tells" (inClass (top 27) 3))
    (a14 : PySem.W.findIn K (.ref c9) "below" = some (some (.ref f14)))
    (d14 : DefK K f14 "below" "Book.below" (inClass (top 27) 4))
    (a15 : PySem.W.findIn K (.ref c9) "first" = some (some (.ref f15)))
    (d15 : DefK K f15 "first" "Book.first" (inClass (top 27) 5))
    (a16 : PySem.W.findIn K (.ref c9) "ranking" = some (some (.ref f16)))
    (d16 : DefK K f16 "ranking" "Book.ranking" (inClass (top 27) 6))
    (a17 : PySem.W.findIn K (.ref c9) "__len__" = some (some (.ref f17)))
    (d17 : DefK K f17 "__len__" "Book.__len__" (inClass (top 27) 7))
    (a18 : PySem.W.findIn K (.ref c9) "__eq__" = some (some (.ref f18)))
    (d18 : DefK K f18 "__eq__" "Book.__eq__" (inClass (top 27) 9))
    (a19 : PySem.W.nsIn K mainGlobals "require_option" = some (some (.ref f19)))
    (d19 : DefK K f19 "require_option" "require_option" (top 28))
    (a20 : PySem.W.nsIn K mainGlobals "require_ballot" = some (some (.ref f20)))
    (d20 : DefK K f20 "require_ballot" "require_ballot" (top 29))
    (a21 : PySem.W.nsIn K mainGlobals "exchanged" = some (some (.ref f21)))
    (d21 : DefK K f21 "exchanged" "exchanged" (top 31))
    (a22 : PySem.W.nsIn K mainGlobals "told_more" = some (some (.ref f22)))
    (d22 : DefK K f22 "told_more" "told_more" (top 32))
    (a23 : PySem.W.nsIn K mainGlobals "is_open" = some (some (.ref f23)))
    (d23 : DefK K f23 "is_open" "is_open" (top 34))
    (a24 : PySem.W.nsIn K mainGlobals "open_pairs" = some (some (.ref f24)))
    (d24 : DefK K f24 "open_pairs" "open_pairs" (top 35))
    (a25 : PySem.W.nsIn K mainGlobals "answers" = some (some (.ref f25)))
    (d25 : DefK K f25 "answers" "answers" (top 36))
    (a26 : PySem.W.nsIn K mainGlobals "_law_cell" = some (some (.ref f26)))
    (d26 : DefK K f26 "_law_cell" "_law_cell" (top 38))
    (a27 : PySem.W.nsIn K mainGlobals "_law_digits" = some (some (.ref f27)))
    (d27 : DefK K f27 "_law_digits" "_law_digits" (top 39))
    (a28 : PySem.W.nsIn K mainGlobals "_law_order" = some (some (.ref f28)))
    (d28 : DefK K f28 "_law_order" "_law_order" (top 40))
    (a29 : PySem.W.nsIn K mainGlobals "_law_ballot" = some (some (.ref f29)))
    (d29 : DefK K f29 "_law_ballot" "_law_ballot" (top 41))
    (a30 : PySem.W.nsIn K mainGlobals "_law_names" = some (some (.ref f30)))
    (d30 : DefK K f30 "_law_names" "_law_names" (top 42))
    (a31 : PySem.W.nsIn K mainGlobals "_law_book" = some (some (.ref f31)))
    (d31 : DefK K f31 "_law_book" "_law_book" (top 43))
    (a32 : PySem.W.nsIn K mainGlobals "_law_handed" = some (some (.ref f32)))
    (d32 : DefK K f32 "_law_handed" "_law_handed" (top 44))
    (a33 : PySem.W.nsIn K mainGlobals "_law_told" = some (some (.ref f33)))
    (d33 : DefK K f33 "_law_told" "_law_told" (top 45))
    (a34 : PySem.W.nsIn K mainGlobals "_law_tolds" = some (some (.ref f34)))
    (d34 : DefK K f34 "_law_tolds" "_law_tolds" (top 46))
    (a35 : PySem.W.nsIn K mainGlobals "_law_kind" = some (some (.ref f35)))
    (d35 : DefK K f35 "_law_kind" "_law_kind" (top 47))
    (a36 : PySem.W.nsIn K mainGlobals "_law_tells" = some (some (.ref f36)))
    (d36 : DefK K f36 "_law_tells" "_law_tells" (top 48))
    (a37 : PySem.W.nsIn K mainGlobals "law" = some (some (.ref f37)))
    (d37 : DefK K f37 "law" "law" (top 49))
    (k3 : (xfB K c3 && (PySem.W.clsIn K c3).isSome && obB K c3 && noB K c3 ["options"]) = true)
    (k4 : (xfB K c4 && (PySem.W.clsIn K c4).isSome && obB K c4 && noB K c4 ["count"]) = true)
    (k5 : (xfB K c5 && (PySem.W.clsIn K c5).isSome && obB K c5 && noB K c5 ["ballot"]) = true)
    (k6 : (xfB K c6 && (PySem.W.clsIn K c6).isSome && obB K c6 && noB K c6 ["option"]) = true)
    (k7 : (xfB K c7 && (PySem.W.clsIn K c7).isSome && obB K c7 && noB K c7 ["ballot"]) = true)
    (k8 : (xfB K c8 && (PySem.W.clsIn K c8).isSome && obB K c8 && noB K c8 ["two", "one", "ballot"]) = true)
    (k9 : (clsB K c9 && obB K c9 && noB K c9 ["options", "size", "ballots", "weights", "told"]) = true)
    (mk9 : mkB K c9 f10 = true)
    (me0 : methB K c9 "tells" f13 = true)
    (me1 : methB K c9 "below" f14 = true)
    (me2 : methB K c9 "first" f15 = true)
    (me3 : methB K c9 "ranking" f16 = true)
    (me4 : methB K c9 "__len__" f17 = true)
    (me5 : methB K c9 "__eq__" f18 = true)
    (xa3 : PySem.W.findIn K (.ref c3) "__init__" = some (some (.ref x3)))
    (xd3 : DefK K x3 "__init__" "BadOptions.__init__" (inClass (top 5) 0))
    (xl3 : K.lookup c3 = some (excClassObj xnm3 xq3 c3 xN3 xbs3 xbm3 true xsn3 xsub3 xab3 xcol3 xdd3 xk03 xk13 xk23 xk33 xk53 "ValueError.__new__"))
    (xr3 : PySem.HandSPX.refsVE xbm3 = true)
    (xb3 : rzB K c3 x3 ["options"] ["self", "options"] (inClass (top 5) 0) = true)
    (xa4 : PySem.W.findIn K (.ref c4) "__init__" = some (some (.ref x4)))
    (xd4 : DefK K x4 "__init__" "BadBallots.__init__" (inClass (top 6) 0))
    (xl4 : K.lookup c4 = some (excClassObj xnm4 xq4 c4 xN4 xbs4 xbm4 true xsn4 xsub4 xab4 xcol4 xdd4 xk04 xk14 xk24 xk34 xk54 "ValueError.__new__"))
    (xr4 : PySem.HandSPX.refsVE xbm4 = true)
    (xb4 : rzB K c4 x4 ["count"] ["self", "count"] (inClass (top 6) 0) = true)
    (xa5 : PySem.W.findIn K (.ref c5) "__init__" = some (some (.ref x5)))
    (xd5 : DefK K x5 "__init__" "BadBallot.__init__" (inClass (top 7) 0))
    (xl5 : K.lookup c5 = some (excClassObj xnm5 xq5 c5 xN5 xbs5 xbm5 true xsn5 xsub5 xab5 xcol5 xdd5 xk05 xk15 xk25 xk35 xk55 "ValueError.__new__"))
    (xr5 : PySem.HandSPX.refsVE xbm5 = true)
    (xb5 : rzB K c5 x5 ["ballot"] ["self", "ballot"] (inClass (top 7) 0) = true)
    (xa6 : PySem.W.findIn K (.ref c6) "__init__" = some (some (.ref x6)))
    (xd6 : DefK K x6 "__init__" "NoOption.__init__" (inClass (top 8) 0))
    (xl6 : K.lookup c6 = some (excClassObj xnm6 xq6 c6 xN6 xbs6 xbm6 true xsn6 xsub6 xab6 xcol6 xdd6 xk06 xk16 xk26 xk36 xk56 "ValueError.__new__"))
    (xr6 : PySem.HandSPX.refsVE xbm6 = true)
    (xb6 : rzB K c6 x6 ["option"] ["self", "option"] (inClass (top 8) 0) = true)
    (xa7 : PySem.W.findIn K (.ref c7) "__init__" = some (some (.ref x7)))
    (xd7 : DefK K x7 "__init__" "NoBallot.__init__" (inClass (top 9) 0))
    (xl7 : K.lookup c7 = some (excClassObj xnm7 xq7 c7 xN7 xbs7 xbm7 true xsn7 xsub7 xab7 xcol7 xdd7 xk07 xk17 xk27 xk37 xk57 "ValueError.__new__"))
    (xr7 : PySem.HandSPX.refsVE xbm7 = true)
    (xb7 : rzB K c7 x7 ["ballot"] ["self", "ballot"] (inClass (top 9) 0) = true)
    (xa8 : PySem.W.findIn K (.ref c8) "__init__" = some (some (.ref x8)))
    (xd8 : DefK K x8 "__init__" "NotOpen.__init__" (inClass (top 10) 0))
    (xl8 : K.lookup c8 = some (excClassObj xnm8 xq8 c8 xN8 xbs8 xbm8 true xsn8 xsub8 xab8 xcol8 xdd8 xk08 xk18 xk28 xk38 xk58 "ValueError.__new__"))
    (xr8 : PySem.HandSPX.refsVE xbm8 = true)
    (xb8 : rzB K c8 x8 ["two", "one", "ballot"] ["self", "ballot", "one", "two"] (inClass (top 10) 0) = true)
    (ki0 : PySem.W.kitOne K (.ref c9) (.ref c6) = some false)
    (ki1 : PySem.W.kitOne K (.ref c9) (.ref c7) = some false)
    (ki2 : PySem.W.kitOne K (.ref c9) (.ref c8) = some false)
    (ki3 : PySem.W.kitOne K (.ref c9) (.ref c9) = some true)
    (xk0 : PySem.W.kitOne K (.ref c3) (.ref c6) = some false)
    (xk1 : PySem.W.kitOne K (.ref c3) (.ref c7) = some false)
    (xk2 : PySem.W.kitOne K (.ref c3) (.ref c8) = some false)
    (xk3 : PySem.W.kitOne K (.ref c3) (.ref c9) = some false)
    (xk4 : PySem.W.kitOne K (.ref c4) (.ref c6) = some false)
    (xk5 : PySem.W.kitOne K (.ref c4) (.ref c7) = some false)
    (xk6 : PySem.W.kitOne K (.ref c4) (.ref c8) = some false)
    (xk7 : PySem.W.kitOne K (.ref c4) (.ref c9) = some false)
    (xk8 : PySem.W.kitOne K (.ref c5) (.ref c6) = some false)
    (xk9 : PySem.W.kitOne K (.ref c5) (.ref c7) = some false)
    (xk10 : PySem.W.kitOne K (.ref c5) (.ref c8) = some false)
    (xk11 : PySem.W.kitOne K (.ref c5) (.ref c9) = some false)
    (xk12 : PySem.W.kitOne K (.ref c6) (.ref c6) = some true)
    (xk13 : PySem.W.kitOne K (.ref c6) (.ref c7) = some false)
    (xk14 : PySem.W.kitOne K (.ref c6) (.ref c8) = some false)
    (xk15 : PySem.W.kitOne K (.ref c6) (.ref c9) = some false)
    (xk16 : PySem.W.kitOne K (.ref c7) (.ref c6) = some false)
    (xk17 : PySem.W.kitOne K (.ref c7) (.ref c7) = some true)
    (xk18 : PySem.W.kitOne K (.ref c7) (.ref c8) = some false)
    (xk19 : PySem.W.kitOne K (.ref c7) (.ref c9) = some false)
    (xk20 : PySem.W.kitOne K (.ref c8) (.ref c6) = some false)
    (xk21 : PySem.W.kitOne K (.ref c8) (.ref c7) = some false)
    (xk22 : PySem.W.kitOne K (.ref c8) (.ref c8) = some true)
    (xk23 : PySem.W.kitOne K (.ref c8) (.ref c9) = some false)
    (xk24 : PySem.W.kitOne K (.ref c3) (.type "ValueError") = some true)
    (xk25 : PySem.W.kitOne K (.ref c4) (.type "ValueError") = some true)
    (xk26 : PySem.W.kitOne K (.ref c5) (.type "ValueError") = some true)
    (xk27 : PySem.W.kitOne K (.ref c6) (.type "ValueError") = some true)
    (xk28 : PySem.W.kitOne K (.ref c7) (.type "ValueError") = some true)
    (xk29 : PySem.W.kitOne K (.ref c8) (.type "ValueError") = some true)
    (ex0 : PySem.W.exmOne K (.ref c3) (.ref c0) = some true)
    (ex1 : PySem.W.exmOne K (.ref c4) (.ref c0) = some true)
    (ex2 : PySem.W.exmOne K (.ref c5) (.ref c0) = some true)
    (ex3 : PySem.W.exmOne K (.ref c6) (.ref c0) = some true)
    (ex4 : PySem.W.exmOne K (.ref c7) (.ref c0) = some true)
    (ex5 : PySem.W.exmOne K (.ref c8) (.ref c0) = some true)
    (gm0 : PySem.W.nsIn K mainGlobals "LETTERS" = some (some (.str "abcdefghijklmnopqrstuvwxyz" u0)))
    (gm1 : PySem.W.nsIn K mainGlobals "DIGITS" = some (some (.str "0123456789" u1)))
    (gm2 : PySem.W.nsIn K mainGlobals "MOST_TOTAL" = some (some (.int (1000000000) u2)))
    (gm3 : PySem.W.nsIn K mainGlobals "MOST_BALLOTS" = some (some (.int (8) u3)))
    (gm4 : PySem.W.nsIn K mainGlobals "MOST_OPTIONS" = some (some (.int (8) u4)))
    (gm5 : PySem.W.nsIn K mainGlobals "MOST_WORDS" = some (some (.int (20) u5)))
    (nb : bltB K = true) :
    ∃ fd : FuncData, (∀ (s : Shared) (v : Value), BindsTo s fd ⟨[v], []⟩ [("script", v)]) ∧ ∀ base : Heap, K.In base → base.Ns mainGlobals mg →
      FnOk l.prog w K mg base (L2N.CX l.prog w) (2 * (20 + 1) + 1) fa fd ["script"] (lawSp K 63) := by
  have e : f37 = fa := Value.ref.inj (Option.some.inj ((PySem.W.mg_of X G a37).symm.trans hfa))
  subst e
  obtain ⟨⟨oc, od, kV, doc, pm, an, cdv, ct, osl, lk, hc⟩, kp⟩ := id d37
  refine ⟨PySem.W.fnOf "law" "law" (defArgs (top 49)) (defBody (top 49)) (defScope (top 49)) .none kV doc pm an cdv ct, fun s v => .of_eq rfl, fun base _ _ => ?_⟩
  refine FnOk.imp ?_ (lawSp_of (w0 := ⟨K, fun i => ([c0, 0, 0, c3, c4, c5, c6, c7, c8, c9] : List Addr).getD i 0, fnm, none⟩) hlaw)
  refine law_of (T := T) (glob := glob) (W0 := ⟨l.prog, w, mg, base⟩) (w0 := ⟨K, fun i => ([c0, 0, 0, c3, c4, c5, c6, c7, c8, c9] : List Addr).getD i 0, fnm, none⟩) (fa := fun i => ([f0, f1, f2, f3, f4, f5, f6, f7, f8, f9, f10, f11, f12, f13, f14, f15, f16, f17, f18, f19, f20, f21, f22, f23, f24, f25, f26, f27, f28, f29, f30, f31, f32, f33, f34, f35, f36, f37] : List Addr).getD i 0) (cv := fun _ => .none) (P := P) ?_ 20 (f := 37) (fd := b37) ["script", "book", "size", "tolds", "many", "row", "due", "i", "a", "b", "made", "told", "pair", "turn", "one", "two", "both", "k", "first", "second", "more", "one_told"] ["script"] rfl lk hc ck37
  refine ⟨⟨rfl, bltB_ok X G nb, ?gf, ?gc, ?glob, ?meth, ?prop, fun c => (fnm_small c).1, ?fld, fun c => (fnm_small c).2, ?xf, ?kit, ?xkit, ?exm, ?own⟩, fun g h => h, ?fn, ?pgf, ?gm, ?gp, ?nw, ?rz⟩
  case gf =>
    intro f hf
    have hm : f ∈ ([0, 1, 2, 3, 4, 5, 6, 7, 8, 9, 19, 20, 21, 22, 23, 24, 25, 26, 27, 28, 29, 30, 31, 32, 33, 34, 35, 36, 37] : List Nat) := List.contains_iff_mem.mp hf
    clear hf
    revert hm
    revert f
    exact all_cons (⟨PySem.W.mg_of X G a0, by decide +kernel⟩) (all_cons (⟨PySem.W.mg_of X G a1, by decide +kernel⟩) (all_cons (⟨PySem.W.mg_of X G a2, by decide +kernel⟩) (all_cons (⟨PySem.W.mg_of X G a3, by decide +kernel⟩) (all_cons (⟨PySem.W.mg_of X G a4, by decide +kernel⟩) (all_cons (⟨PySem.W.mg_of X G a5, by decide +kernel⟩) (all_cons (⟨PySem.W.mg_of X G a6, by decide +kernel⟩) (all_cons (⟨PySem.W.mg_of X G a7, by decide +kernel⟩) (all_cons (⟨PySem.W.mg_of X G a8, by decide +kernel⟩) (all_cons (⟨PySem.W.mg_of X G a9, by decide +kernel⟩) (all_cons (⟨PySem.W.mg_of X G a19, by decide +kernel⟩) (all_cons (⟨PySem.W.mg_of X G a20, by decide +kernel⟩) (all_cons (⟨PySem.W.mg_of X G a21, by decide +kernel⟩) (all_cons (⟨PySem.W.mg_of X G a22, by decide +kernel⟩) (all_cons (⟨PySem.W.mg_of X G a23, by decide +kernel⟩) (all_cons (⟨PySem.W.mg_of X G a24, by decide +kernel⟩) (all_cons (⟨PySem.W.mg_of X G a25, by decide +kernel⟩) (all_cons (⟨PySem.W.mg_of X G a26, by decide +kernel⟩) (all_cons (⟨PySem.W.mg_of X G a27, by decide +kernel⟩) (all_cons (⟨PySem.W.mg_of X G a28, by decide +kernel⟩) (all_cons (⟨PySem.W.mg_of X G a29, by decide +kernel⟩) (all_cons (⟨PySem.W.mg_of X G a30, by decide +kernel⟩) (all_cons (⟨PySem.W.mg_of X G a31, by decide +kernel⟩) (all_cons (⟨PySem.W.mg_of X G a32, by decide +kernel⟩) (all_cons (⟨PySem.W.mg_of X G a33, by decide +kernel⟩) (all_cons (⟨PySem.W.mg_of X G a34, by decide +kernel⟩) (all_cons (⟨PySem.W.mg_of X G a35, by decide +kernel⟩) (all_cons (⟨PySem.W.mg_of X G a36, by decide +kernel⟩) (all_cons (⟨PySem.W.mg_of X G a37, by decide +kernel⟩) (all_nil)))))))))))))))))))))))))))))
  case gc =>
    intro f hf
    have hm : f ∈ ([9] : List Nat) := List.contains_iff_mem.mp hf
    clear hf
    revert hm
    revert f
    exact all_cons (⟨PySem.W.mg_of X G nc9, by decide +kernel⟩) (all_nil)
  case own =>
    intro f hf
    have hm : f ∈ ([0, 6, 7, 8, 9] : List Nat) := List.contains_iff_mem.mp hf
    clear hf
    revert hm
    revert f
    exact all_cons (⟨PySem.W.mg_of X G nc0, by decide +kernel⟩) (all_cons (⟨PySem.W.mg_of X G nc6, by decide +kernel⟩) (all_cons (⟨PySem.W.mg_of X G nc7, by decide +kernel⟩) (all_cons (⟨PySem.W.mg_of X G nc8, by decide +kernel⟩) (all_cons (⟨PySem.W.mg_of X G nc9, by decide +kernel⟩) (all_nil)))))
  case glob =>
    intro g d hh
    have hm := lookup_mem hh
    clear hh
    exact (show ∀ p ∈ globL, (T.gl p.1 == ("__debug__" : Str)) = false ∧ ∃ u v, mg (T.gl p.1) = some u ∧ RelV v u ∧ ∀ F H : Hp, Rep (⟨K, fun i => ([c0, 0, 0, c3, c4, c5, c6, c7, c8, c9] : List Addr).getD i 0, fnm, none⟩ : Wd) F H v p.2 [] from all_cons (⟨by decide +kernel, _, .str "abcdefghijklmnopqrstuvwxyz", PySem.W.mg_of X G gm0, ⟨_, rfl⟩, fun F H => .str (by decide +kernel) .nil⟩) (all_cons (⟨by decide +kernel, _, .str "0123456789", PySem.W.mg_of X G gm1, ⟨_, rfl⟩, fun F H => .str (by decide +kernel) .nil⟩) (all_cons (⟨by decide +kernel, _, .int (1000000000), PySem.W.mg_of X G gm2, ⟨_, rfl⟩, fun F H => .int .nil⟩) (all_cons (⟨by decide +kernel, _, .int (8), PySem.W.mg_of X G gm3, ⟨_, rfl⟩, fun F H => .int .nil⟩) (all_cons (⟨by decide +kernel, _, .int (8), PySem.W.mg_of X G gm4, ⟨_, rfl⟩, fun F H => .int .nil⟩) (all_cons (⟨by decide +kernel, _, .int (20), PySem.W.mg_of X G gm5, ⟨_, rfl⟩, fun F H => .int .nil⟩) (all_nil))))))) _ hm
  case meth =>
    intro c m f hh
    have hm := lookup_mem hh
    clear hh
    exact (show ∀ p ∈ methL, Cls K ((⟨K, fun i => ([c0, 0, 0, c3, c4, c5, c6, c7, c8, c9] : List Addr).getD i 0, fnm, none⟩ : Wd).ca p.1.1) ∧ L2.Meth K ((⟨K, fun i => ([c0, 0, 0, c3, c4, c5, c6, c7, c8, c9] : List Addr).getD i 0, fnm, none⟩ : Wd).ca p.1.1) (T.at_ p.1.2) ((fun i => ([f0, f1, f2, f3, f4, f5, f6, f7, f8, f9, f10, f11, f12, f13, f14, f15, f16, f17, f18, f19, f20, f21, f22, f23, f24, f25, f26, f27, f28, f29, f30, f31, f32, f33, f34, f35, f36, f37] : List Addr).getD i 0) p.2) ∧ T.at_ p.1.2 ∉ fnm p.1.1 from all_cons (⟨(clsK k9).cl, methB_ok me0, by decide +kernel⟩) (all_cons (⟨(clsK k9).cl, methB_ok me1, by decide +kernel⟩) (all_cons (⟨(clsK k9).cl, methB_ok me2, by decide +kernel⟩) (all_cons (⟨(clsK k9).cl, methB_ok me3, by decide +kernel⟩) (all_cons (⟨(clsK k9).cl, methB_ok me4, by decide +kernel⟩) (all_cons (⟨(clsK k9).cl, methB_ok me5, by decide +kernel⟩) (all_nil))))))) _ hm
  case prop =>
    intro c m f hh
    have hm := lookup_mem hh
    clear hh
    exact (show ∀ p ∈ propL, Cls K ((⟨K, fun i => ([c0, 0, 0, c3, c4, c5, c6, c7, c8, c9] : List Addr).getD i 0, fnm, none⟩ : Wd).ca p.1.1) ∧ ∃ pa, PropOf K ((⟨K, fun i => ([c0, 0, 0, c3, c4, c5, c6, c7, c8, c9] : List Addr).getD i 0, fnm, none⟩ : Wd).ca p.1.1) (T.at_ p.1.2) pa ((fun i => ([f0, f1, f2, f3, f4, f5, f6, f7, f8, f9, f10, f11, f12, f13, f14, f15, f16, f17, f18, f19, f20, f21, f22, f23, f24, f25, f26, f27, f28, f29, f30, f31, f32, f33, f34, f35, f36, f37] : List Addr).getD i 0) p.2) from all_cons (⟨(clsK k9).cl, _, propK a11 r_11 q11⟩) (all_cons (⟨(clsK k9).cl, _, propK a12 r_12 q12⟩) (all_nil))) _ hm
  case fld =>
    intro c f k hh
    match c, hh with
    | 0, hh => cases hh
    | 1, hh => cases hh
    | 2, hh => cases hh
    | 3, hh => cases hh
    | 4, hh => cases hh
    | 5, hh => cases hh
    | 6, hh => cases hh
    | 7, hh => cases hh
    | 8, hh => cases hh
    | 9, hh => exact fldK (clsK k9) rfl hh
    | _ + 10, hh => cases hh
  case xf =>
    intro c f k hh
    match c, hh with
    | 0, hh => cases hh
    | 1, hh => cases hh
    | 2, hh => cases hh
    | 3, hh => exact xfK (excK k3) rfl hh
    | 4, hh => exact xfK (excK k4) rfl hh
    | 5, hh => exact xfK (excK k5) rfl hh
    | 6, hh => exact xfK (excK k6) rfl hh
    | 7, hh => exact xfK (excK k7) rfl hh
    | 8, hh => exact xfK (excK k8) rfl hh
    | 9, hh => cases hh
    | _ + 10, hh => cases hh
  case kit =>
    intro c ic b hh
    have hm := lookup_mem hh
    clear hh
    exact (show ∀ p ∈ kitL, PySem.W.kitOne K (.ref ((⟨K, fun i => ([c0, 0, 0, c3, c4, c5, c6, c7, c8, c9] : List Addr).getD i 0, fnm, none⟩ : Wd).ca p.1.1)) (icU (⟨K, fun i => ([c0, 0, 0, c3, c4, c5, c6, c7, c8, c9] : List Addr).getD i 0, fnm, none⟩ : Wd) p.1.2) = some p.2 ∧ Cls K ((⟨K, fun i => ([c0, 0, 0, c3, c4, c5, c6, c7, c8, c9] : List Addr).getD i 0, fnm, none⟩ : Wd).ca p.1.1) ∧ ClsOb K ((⟨K, fun i => ([c0, 0, 0, c3, c4, c5, c6, c7, c8, c9] : List Addr).getD i 0, fnm, none⟩ : Wd).ca p.1.1) from all_cons (⟨ki0, (clsK k9).cl, (clsK k9).ob⟩) (all_cons (⟨ki1, (clsK k9).cl, (clsK k9).ob⟩) (all_cons (⟨ki2, (clsK k9).cl, (clsK k9).ob⟩) (all_cons (⟨ki3, (clsK k9).cl, (clsK k9).ob⟩) (all_nil))))) _ hm
  case xkit =>
    intro c ic b hh
    have hm := lookup_mem hh
    clear hh
    exact (show ∀ p ∈ xkitL, PySem.W.kitOne K (.ref ((⟨K, fun i => ([c0, 0, 0, c3, c4, c5, c6, c7, c8, c9] : List Addr).getD i 0, fnm, none⟩ : Wd).ca p.1.1)) (icU (⟨K, fun i => ([c0, 0, 0, c3, c4, c5, c6, c7, c8, c9] : List Addr).getD i 0, fnm, none⟩ : Wd) p.1.2) = some p.2 ∧ XfC K ((⟨K, fun i => ([c0, 0, 0, c3, c4, c5, c6, c7, c8, c9] : List Addr).getD i 0, fnm, none⟩ : Wd).ca p.1.1) ∧ (PySem.W.clsIn K ((⟨K, fun i => ([c0, 0, 0, c3, c4, c5, c6, c7, c8, c9] : List Addr).getD i 0, fnm, none⟩ : Wd).ca p.1.1)).isSome = true ∧ ClsOb K ((⟨K, fun i => ([c0, 0, 0, c3, c4, c5, c6, c7, c8, c9] : List Addr).getD i 0, fnm, none⟩ : Wd).ca p.1.1) from all_cons (⟨xk0, (excK k3).xf, (excK k3).cs, (excK k3).ob⟩) (all_cons (⟨xk1, (excK k3).xf, (excK k3).cs, (excK k3).ob⟩) (all_cons (⟨xk2, (excK k3).xf, (excK k3).cs, (excK k3).ob⟩) (all_cons (⟨xk3, (excK k3).xf, (excK k3).cs, (excK k3).ob⟩) (all_cons (⟨xk4, (excK k4).xf, (excK k4).cs, (excK k4).ob⟩) (all_cons (⟨xk5, (excK k4).xf, (excK k4).cs, (excK k4).ob⟩) (all_cons (⟨xk6, (excK k4).xf, (excK k4).cs, (excK k4).ob⟩) (all_cons (⟨xk7, (excK k4).xf, (excK k4).cs, (excK k4).ob⟩) (all_cons (⟨xk8, (excK k5).xf, (excK k5).cs, (excK k5).ob⟩) (all_cons (⟨xk9, (excK k5).xf, (excK k5).cs, (excK k5).ob⟩) (all_cons (⟨xk10, (excK k5).xf, (excK k5).cs, (excK k5).ob⟩) (all_cons (⟨xk11, (excK k5).xf, (excK k5).cs, (excK k5).ob⟩) (all_cons (⟨xk12, (excK k6).xf, (excK k6).cs, (excK k6).ob⟩) (all_cons (⟨xk13, (excK k6).xf, (excK k6).cs, (excK k6).ob⟩) (all_cons (⟨xk14, (excK k6).xf, (excK k6).cs, (excK k6).ob⟩) (all_cons (⟨xk15, (excK k6).xf, (excK k6).cs, (excK k6).ob⟩) (all_cons (⟨xk16, (excK k7).xf, (excK k7).cs, (excK k7).ob⟩) (all_cons (⟨xk17, (excK k7).xf, (excK k7).cs, (excK k7).ob⟩) (all_cons (⟨xk18, (excK k7).xf, (excK k7).cs, (excK k7).ob⟩) (all_cons (⟨xk19, (excK k7).xf, (excK k7).cs, (excK k7).ob⟩) (all_cons (⟨xk20, (excK k8).xf, (excK k8).cs, (excK k8).ob⟩) (all_cons (⟨xk21, (excK k8).xf, (excK k8).cs, (excK k8).ob⟩) (all_cons (⟨xk22, (excK k8).xf, (excK k8).cs, (excK k8).ob⟩) (all_cons (⟨xk23, (excK k8).xf, (excK k8).cs, (excK k8).ob⟩) (all_cons (⟨xk24, (excK k3).xf, (excK k3).cs, (excK k3).ob⟩) (all_cons (⟨xk25, (excK k4).xf, (excK k4).cs, (excK k4).ob⟩) (all_cons (⟨xk26, (excK k5).xf, (excK k5).cs, (excK k5).ob⟩) (all_cons (⟨xk27, (excK k6).xf, (excK k6).cs, (excK k6).ob⟩) (all_cons (⟨xk28, (excK k7).xf, (excK k7).cs, (excK k7).ob⟩) (all_cons (⟨xk29, (excK k8).xf, (excK k8).cs, (excK k8).ob⟩) (all_nil))))))))))))))))))))))))))))))) _ hm
  case exm =>
    intro c d b hh
    have hm := lookup_mem hh
    clear hh
    exact (show ∀ p ∈ exmL, PySem.W.exmOne K (.ref ((⟨K, fun i => ([c0, 0, 0, c3, c4, c5, c6, c7, c8, c9] : List Addr).getD i 0, fnm, none⟩ : Wd).ca p.1.1)) (.ref ((⟨K, fun i => ([c0, 0, 0, c3, c4, c5, c6, c7, c8, c9] : List Addr).getD i 0, fnm, none⟩ : Wd).ca p.1.2)) = some p.2 from all_cons (ex0) (all_cons (ex1) (all_cons (ex2) (all_cons (ex3) (all_cons (ex4) (all_cons (ex5) (all_nil))))))) _ hm
  case fn =>
    intro f fd hh
    match f, hh with
    | 0, hh => obtain rfl := Option.some.inj hh; exact defF_of ["k"] ["k"] d0 (fun _ _ _ _ _ _ us hl => match us, hl with | [_], _ => rfl) ck0
    | 1, hh => obtain rfl := Option.some.inj hh; exact defF_of ["name", "sign"] ["name"] d1 (fun _ _ _ _ _ _ us hl => match us, hl with | [_], _ => rfl) ck1
    | 2, hh => obtain rfl := Option.some.inj hh; exact defF_of ["options", "index", "name"] ["options"] d2 (fun _ _ _ _ _ _ us hl => match us, hl with | [_], _ => rfl) ck2
    | 3, hh => obtain rfl := Option.some.inj hh; exact defF_of ["order", "size", "index", "option"] ["order", "size"] d3 (fun _ _ _ _ _ _ us hl => match us, hl with | [_, _], _ => rfl) ck3
    | 4, hh => obtain rfl := Option.some.inj hh; exact defF_of ["words", "size", "word"] ["words", "size"] d4 (fun _ _ _ _ _ _ us hl => match us, hl with | [_, _], _ => rfl) ck4
    | 5, hh => obtain rfl := Option.some.inj hh; exact defF_of ["ballot", "size"] ["ballot", "size"] d5 (fun _ _ _ _ _ _ us hl => match us, hl with | [_, _], _ => rfl) ck5
    | 6, hh => obtain rfl := Option.some.inj hh; exact defF_of ["ballot", "words", "word"] ["ballot"] d6 (fun _ _ _ _ _ _ us hl => match us, hl with | [_], _ => rfl) ck6
    | 7, hh => obtain rfl := Option.some.inj hh; exact defF_of ["ballots", "size", "done", "total", "index", "ballot"] ["ballots", "size"] d7 (fun _ _ _ _ _ _ us hl => match us, hl with | [_, _], _ => rfl) ck7
    | 8, hh => obtain rfl := Option.some.inj hh; exact defF_of ["one", "two", "ballot", "order"] ["one", "two", "ballot"] d8 (fun _ _ _ _ _ _ us hl => match us, hl with | [_, _, _], _ => rfl) ck8
    | 9, hh => obtain rfl := Option.some.inj hh; exact defF_of ["size", "ballot", "one", "two", "tells", "middle"] ["size", "ballot"] d9 (fun _ _ _ _ _ _ us hl => match us, hl with | [_, _], _ => rfl) ck9
    | 10, hh => obtain rfl := Option.some.inj hh; exact defF_of ["self", "options", "ballots", "ballot"] ["self", "options", "ballots"] d10 (fun _ _ _ _ _ _ us hl => match us, hl with | [_, _, _], _ => rfl) ck10
    | 11, hh => obtain rfl := Option.some.inj hh; exact defF_of ["self"] ["self"] d11 (fun _ _ _ _ _ _ us hl => match us, hl with | [_], _ => rfl) ck11
    | 12, hh => obtain rfl := Option.some.inj hh; exact defF_of ["self"] ["self"] d12 (fun _ _ _ _ _ _ us hl => match us, hl with | [_], _ => rfl) ck12
    | 13, hh => obtain rfl := Option.some.inj hh; exact defF_of ["self", "ballot", "one", "two"] ["self", "ballot", "one", "two"] d13 (fun _ _ _ _ _ _ us hl => match us, hl with | [_, _, _, _], _ => rfl) ck13
    | 14, hh => obtain rfl := Option.some.inj hh; exact defF_of ["self", "ballot", "option"] ["self", "ballot", "option"] d14 (fun _ _ _ _ _ _ us hl => match us, hl with | [_, _, _], _ => rfl) ck14
    | 15, hh => obtain rfl := Option.some.inj hh; exact defF_of ["self", "ballot", "option"] ["self", "ballot"] d15 (fun _ _ _ _ _ _ us hl => match us, hl with | [_, _], _ => rfl) ck15
    | 16, hh => obtain rfl := Option.some.inj hh; exact defF_of ["self", "ballot"] ["self", "ballot"] d16 (fun _ _ _ _ _ _ us hl => match us, hl with | [_, _], _ => rfl) ck16
    | 17, hh => obtain rfl := Option.some.inj hh; exact defF_of ["self"] ["self"] d17 (fun _ _ _ _ _ _ us hl => match us, hl with | [_], _ => rfl) ck17
    | 18, hh => obtain rfl := Option.some.inj hh; exact defF_of ["self", "other"] ["self", "other"] d18 (fun _ _ _ _ _ _ us hl => match us, hl with | [_, _], _ => rfl) ck18
    | 19, hh => obtain rfl := Option.some.inj hh; exact defF_of ["book", "option"] ["book", "option"] d19 (fun _ _ _ _ _ _ us hl => match us, hl with | [_, _], _ => rfl) ck19
    | 20, hh => obtain rfl := Option.some.inj hh; exact defF_of ["book", "ballot"] ["book", "ballot"] d20 (fun _ _ _ _ _ _ us hl => match us, hl with | [_, _], _ => rfl) ck20
    | 21, hh => obtain rfl := Option.some.inj hh; exact defF_of ["book", "ballot", "row", "rows"] ["book", "ballot", "row"] d21 (fun _ _ _ _ _ _ us hl => match us, hl with | [_, _, _], _ => rfl) ck21
    | 22, hh => obtain rfl := Option.some.inj hh; exact defF_of ["book", "ballot", "one", "two", "weight", "order", "words"] ["book", "ballot", "one", "two"] d22 (fun _ _ _ _ _ _ us hl => match us, hl with | [_, _, _, _], _ => rfl) ck22
    | 23, hh => obtain rfl := Option.some.inj hh; exact defF_of ["book", "ballot", "one", "two", "told"] ["book", "ballot", "one", "two"] d23 (fun _ _ _ _ _ _ us hl => match us, hl with | [_, _, _, _], _ => rfl) ck23
    | 24, hh => obtain rfl := Option.some.inj hh; exact defF_of ["book", "ballot", "one", "two"] ["book"] d24 (fun _ _ _ _ _ _ us hl => match us, hl with | [_], _ => rfl) ck24
    | 25, hh => obtain rfl := Option.some.inj hh; exact defF_of ["book", "ballot", "one", "two"] ["book", "ballot", "one", "two"] d25 (fun _ _ _ _ _ _ us hl => match us, hl with | [_, _, _, _], _ => rfl) ck25
    | 26, hh => obtain rfl := Option.some.inj hh; exact defF_of ["script", "k", "seed", "number"] ["script", "k"] d26 (fun _ _ _ _ _ _ us hl => match us, hl with | [_, _], _ => rfl) ck26
    | 27, hh => obtain rfl := Option.some.inj hh; exact defF_of ["number", "sizes", "row", "rest", "size", "seed", "k", "twice"] ["number", "sizes"] d27 (fun _ _ _ _ _ _ us hl => match us, hl with | [_, _], _ => rfl) ck27
    | 28, hh => obtain rfl := Option.some.inj hh; exact defF_of ["row", "size", "k", "left", "order"] ["row", "size"] d28 (fun _ _ _ _ _ _ us hl => match us, hl with | [_, _], _ => rfl) ck28
    | 29, hh => obtain rfl := Option.some.inj hh; exact defF_of ["cell", "size", "kind", "row", "weight", "order", "kept", "tellings", "k", "one"] ["cell", "size", "kind"] d29 (fun _ _ _ _ _ _ us hl => match us, hl with | [_, _, _], _ => rfl) ck29
    | 30, hh => obtain rfl := Option.some.inj hh; exact defF_of ["shift", "size", "menu", "k"] ["shift", "size"] d30 (fun _ _ _ _ _ _ us hl => match us, hl with | [_, _], _ => rfl) ck30
    | 31, hh => obtain rfl := Option.some.inj hh; exact defF_of ["script", "at", "sizes", "counts", "kind", "shape", "size", "many", "k", "ballots", "word"] ["script", "at", "sizes", "counts", "kind"] d31 (fun _ _ _ _ _ _ us hl => match us, hl with | [_, _, _, _, _], _ => rfl) ck31
    | 32, hh => obtain rfl := Option.some.inj hh; exact defF_of ["ballots", "ballot", "word"] ["ballots"] d32 (fun _ _ _ _ _ _ us hl => match us, hl with | [_], _ => rfl) ck32
    | 33, hh => obtain rfl := Option.some.inj hh; exact defF_of ["size", "ballot", "a", "told", "order", "k", "b", "word", "middle"] ["size", "ballot"] d33 (fun _ _ _ _ _ _ us hl => match us, hl with | [_, _], _ => rfl) ck33
    | 34, hh => obtain rfl := Option.some.inj hh; exact defF_of ["size", "ballots", "ballot"] ["size", "ballots"] d34 (fun _ _ _ _ _ _ us hl => match us, hl with | [_, _], _ => rfl) ck34
    | 35, hh => obtain rfl := Option.some.inj hh; exact defF_of ["made", "ballot", "one", "two", "e"] ["made", "ballot", "one", "two"] d35 (fun _ _ _ _ _ _ us hl => match us, hl with | [_, _, _, _], _ => rfl) ck35
    | 36, hh => obtain rfl := Option.some.inj hh; exact defF_of ["told", "size", "rows", "a", "b"] ["told", "size"] d36 (fun _ _ _ _ _ _ us hl => match us, hl with | [_, _], _ => rfl) ck36
    | 37, hh => obtain rfl := Option.some.inj hh; exact defF_of ["script", "book", "size", "tolds", "many", "row", "due", "i", "a", "b", "made", "told", "pair", "turn", "one", "two", "both", "k", "first", "second", "more", "one_told"] ["script"] d37 (fun _ _ _ _ _ _ us hl => match us, hl with | [_], _ => rfl) ck37
    | _ + 38, hh => cases hh
  case pgf =>
    intro f hf
    have hm : f ∈ ([0, 1, 2, 3, 4, 5, 6, 7, 8, 9, 19, 20, 21, 22, 23, 24, 25, 26, 27, 28, 29, 30, 31, 32, 33, 34, 35, 36, 37] : List Nat) := List.contains_iff_mem.mp hf
    clear hf
    revert hm
    revert f
    exact all_cons (rfl) (all_cons (rfl) (all_cons (rfl) (all_cons (rfl) (all_cons (rfl) (all_cons (rfl) (all_cons (rfl) (all_cons (rfl) (all_cons (rfl) (all_cons (rfl) (all_cons (rfl) (all_cons (rfl) (all_cons (rfl) (all_cons (rfl) (all_cons (rfl) (all_cons (rfl) (all_cons (rfl) (all_cons (rfl) (all_cons (rfl) (all_cons (rfl) (all_cons (rfl) (all_cons (rfl) (all_cons (rfl) (all_cons (rfl) (all_cons (rfl) (all_cons (rfl) (all_cons (rfl) (all_cons (rfl) (all_cons (rfl) (all_nil)))))))))))))))))))))))))))))
  case gm =>
    intro c m f hh
    have hm := lookup_mem hh
    clear hh
    exact (show ∀ p ∈ methL, (P.fns p.2).isSome = true from all_cons (rfl) (all_cons (rfl) (all_cons (rfl) (all_cons (rfl) (all_cons (rfl) (all_cons (rfl) (all_nil))))))) _ hm
  case gp =>
    intro c m f hh
    have hm := lookup_mem hh
    clear hh
    exact (show ∀ p ∈ propL, (P.fns p.2).isSome = true from all_cons (rfl) (all_cons (rfl) (all_nil))) _ hm
  case nw =>
    intro f hf
    have hm : f ∈ ([9] : List Nat) := List.contains_iff_mem.mp hf
    clear hf
    revert hm
    revert f
    exact all_cons (⟨10, b10, rfl, rfl, mkB_ok mk9, by decide +kernel, by decide +kernel⟩) (all_nil)
  case rz =>
    intro f hf
    have hm : f ∈ ([3, 4, 5, 6, 7, 8] : List Nat) := List.contains_iff_mem.mp hf
    clear hf
    revert hm
    revert f
    exact all_cons (rz_of ["self", "options"] xd3 (fun _ _ _ _ _ _ us hl => match us, hl with | [_, _], _ => rfl) ⟨_, _, _, _, _, _, _, _, _, _, _, _, _, _, _, xl3, xr3⟩ (PySem.W.mg_of X G nc3) (by decide +kernel) (show (fnm 3).length ≤ 800 by decide +kernel) (show (fnm 3).length = (tab.xf 3).length by decide +kernel) xb3) (all_cons (rz_of ["self", "count"] xd4 (fun _ _ _ _ _ _ us hl => match us, hl with | [_, _], _ => rfl) ⟨_, _, _, _, _, _, _, _, _, _, _, _, _, _, _, xl4, xr4⟩ (PySem.W.mg_of X G nc4) (by decide +kernel) (show (fnm 4).length ≤ 800 by decide +kernel) (show (fnm 4).length = (tab.xf 4).length by decide +kernel) xb4) (all_cons (rz_of ["self", "ballot"] xd5 (fun _ _ _ _ _ _ us hl => match us, hl with | [_, _], _ => rfl) ⟨_, _, _, _, _, _, _, _, _, _, _, _, _, _, _, xl5, xr5⟩ (PySem.W.mg_of X G nc5) (by decide +kernel) (show (fnm 5).length ≤ 800 by decide +kernel) (show (fnm 5).length = (tab.xf 5).length by decide +kernel) xb5) (all_cons (rz_of ["self", "option"] xd6 (fun _ _ _ _ _ _ us hl => match us, hl with | [_, _], _ => rfl) ⟨_, _, _, _, _, _, _, _, _, _, _, _, _, _, _, xl6, xr6⟩ (PySem.W.mg_of X G nc6) (by decide +kernel) (show (fnm 6).length ≤ 800 by decide +kernel) (show (fnm 6).length = (tab.xf 6).length by decide +kernel) xb6) (all_cons (rz_of ["self", "ballot"] xd7 (fun _ _ _ _ _ _ us hl => match us, hl with | [_, _], _ => rfl) ⟨_, _, _, _, _, _, _, _, _, _, _, _, _, _, _, xl7, xr7⟩ (PySem.W.mg_of X G nc7) (by decide +kernel) (show (fnm 7).length ≤ 800 by decide +kernel) (show (fnm 7).length = (tab.xf 7).length by decide +kernel) xb7) (all_cons (rz_of ["self", "ballot", "one", "two"] xd8 (fun _ _ _ _ _ _ us hl => match us, hl with | [_, _, _, _], _ => rfl) ⟨_, _, _, _, _, _, _, _, _, _, _, _, _, _, _, xl8, xr8⟩ (PySem.W.mg_of X G nc8) (by decide +kernel) (show (fnm 8).length ≤ 800 by decide +kernel) (show (fnm 8).length = (tab.xf 8).length by decide +kernel) xb8) (all_nil))))))
end
end K85
set_option Elab.async false
set_option linter.all false
set_option maxRecDepth 100000
set_option maxHeartbeats 4000000
/-! K85B: books: names, ballots, what they tell. Printed from BK1.src. -/
namespace K85
open PySem L2 SL
@[simp] theorem iter_str {z : Str} {keep : Nat → Bool} {ρ : SL.Env} : iterR .plain [.val (.str z)] keep ρ = .ok (z.cps.toList.map fun c => .str ⟨#[c]⟩) ρ := Eq.trans rfl rfl
theorem bls_map {α : Type} (f : α → Bool) (l : List α) : D.bls (l.map fun a => D.bl (f a)) = some (l.map f) := by induction l <;> simp_all [D.bls]
@[simp] theorem bi_all {α : Type} {o : Bool} {f : α → Bool} {l : List α} {ρ : SL.Env} : biR false .all [.val (.lst o (l.map fun a => D.bl (f a)))] ρ = .ok (.val (.bl (l.all f))) ρ := by
  simp [biR, biD, bls_map, List.all_map]
@[simp] theorem bi_any {α : Type} {o : Bool} {f : α → Bool} {l : List α} {ρ : SL.Env} : biR false .any [.val (.lst o (l.map fun a => D.bl (f a)))] ρ = .ok (.val (.bl (l.any f))) ρ := by
  simp [biR, biD, bls_map, List.any_map]
@[simp] theorem cmp_insi {x y : Str} : cmpD .in_ (.str x) (.str y) = some (strIn x y) := Eq.trans rfl rfl
@[simp] theorem cmp_nins {x y : Str} : cmpD .nin (.str x) (.str y) = some (!strIn x y) := Eq.trans rfl rfl
/-! ### names -/
def isLet (c : Nat) : Bool := strIn ⟨#[c]⟩ "abcdefghijklmnopqrstuvwxyz"
def isDig (c : Nat) : Bool := strIn ⟨#[c]⟩ "0123456789"
def goodName (x : Str) : Bool := decide (1 ≤ x.length ∧ x.length ≤ 12) && (match TL.tl x with | c :: _ => isLet c | [] => false) && (TL.tl x).all fun c => isLet c || isDig c
theorem fGoodName {n : Nat} {x : Str} (hx : x.length ≤ 1000000) : (semN P (n + 1)).fn false 1 [.str x] = some (.ret (.bl (goodName x))) := by
  rw [fn_at (fd := b1) rfl rfl]
  have e : compL [1] (Tg.nm 1) (evalC (semN P n) false []) (evalE (semN P n) false (.bop false [.cmp .in_ (.var 1) (.glob 0), .cmp .in_ (.var 1) (.glob 1)])) (x.cps.toList.map fun c => D.str ⟨#[c]⟩) [] [some (.str x), none] = .ok ([] ++ (TL.tl x).map fun c => D.bl (isLet c || isDig c)) [some (.str x), none] := by
    refine compL_map _ _ (fun c _ => ⟨_, rfl, ?_⟩) (by have := TL.len_tl x; simp [TL.tl] at this; rw [slz]; simp; omega)
    cases h : isLet c with
    | true => unfold isLet at h; simp [h]
    | false => unfold isLet at h; simp [h]; rfl
  have hz : lenD (.str x) = some x.length := len_s (le_slz' hx)
  by_cases h1 : 1 ≤ x.length ∧ x.length ≤ 12
  · have h2 : (1 : Int) ≤ x.length := by omega
    have h3 : (x.length : Int) ≤ 12 := by omega
    have h4 : ¬ x.length = 0 := by omega
    have hc : ∃ c cs, TL.tl x = c :: cs := by
      cases q : TL.tl x with
      | nil => have := TL.len_tl x; rw [q] at this; simp at this; omega
      | cons c cs => exact ⟨c, cs, rfl⟩
    obtain ⟨c, cs, hcs⟩ := hc
    have hl : x.length ≤ sizeLine := le_slz' hx
    have hi : idxR (.val (.str x)) (.val (.int 0)) [some (.str x), none] = .ok (.val (.str ⟨#[c]⟩)) [some (.str x), none] := by
      have e0 : x.cps.toList = c :: cs := hcs
      simp only [idxR, R.d, if_pos hl, e0]
      simp [ixD]
    cases hlc : isLet c with
    | true =>
      have hlc' := hlc
      unfold isLet at hlc'
      have hg : goodName x = (TL.tl x).all fun c => isLet c || isDig c := by simp [goodName, h1, hcs, hlc]
      rw [hg]
      simp [b1, hz, h2, h3, hi, hlc', e]
    | false =>
      have hlc' := hlc
      unfold isLet at hlc'
      simp [b1, hz, h2, h3, hi, hlc', goodName, h1, hcs, hlc]
  · have h2 : goodName x = false := by unfold goodName; rw [decide_eq_false h1]; rfl
    rw [h2]
    by_cases h3 : (1 : Int) ≤ x.length
    · have h4 : ¬ (x.length : Int) ≤ 12 := by omega
      simp [b1, hz, h3, h4]
    · simp [b1, hz, h3]
/-! ### what stands where -/
/-- a list or a tuple -/
def sqD (t : Bool) (xs : List D) : D := if t then .tup xs else .lst false xs
theorem any_strs (ss : List Str) (a : Str) : ((ss.map D.str).any fun x => x.eqv (.str a)) = ss.any fun x => x == a := by induction ss <;> simp_all
theorem cin (ss : List Str) (a : Str) (o : Bool) : cmpD .in_ (.str a) (.lst o (ss.map D.str)) = some (ss.any fun x => x == a) := by
  rw [cmp_inl, if_pos (by simp), any_strs]
theorem cint (ss : List Str) (a : Str) : cmpD .in_ (.str a) (.tup (ss.map D.str)) = some (ss.any fun x => x == a) := by
  rw [cmp_int_, if_pos (by simp), any_strs]
theorem cnin (ss : List Str) (a : Str) (o : Bool) : cmpD .nin (.str a) (.lst o (ss.map D.str)) = some (!ss.any fun x => x == a) := by
  rw [cmp_ninl, if_pos (by simp), any_strs]
theorem cnint (ss : List Str) (a : Str) : cmpD .nin (.str a) (.tup (ss.map D.str)) = some (!ss.any fun x => x == a) := by
  rw [cmp_nint, if_pos (by simp), any_strs]
theorem any_ints (ss : List Int) (a : Int) : ((ss.map D.int).any fun x => x.eqv (.int a)) = ss.any fun x => x == a := by induction ss <;> simp_all
theorem iin (ss : List Int) (a : Int) (o : Bool) : cmpD .in_ (.int a) (.lst o (ss.map D.int)) = some (ss.any fun x => x == a) := by
  rw [cmp_inl, if_pos (by simp), any_ints]
theorem iint (ss : List Int) (a : Int) : cmpD .in_ (.int a) (.tup (ss.map D.int)) = some (ss.any fun x => x == a) := by
  rw [cmp_int_, if_pos (by simp), any_ints]
theorem inin (ss : List Int) (a : Int) (o : Bool) : cmpD .nin (.int a) (.lst o (ss.map D.int)) = some (!ss.any fun x => x == a) := by
  rw [cmp_ninl, if_pos (by simp), any_ints]
theorem inint (ss : List Int) (a : Int) : cmpD .nin (.int a) (.tup (ss.map D.int)) = some (!ss.any fun x => x == a) := by
  rw [cmp_nint, if_pos (by simp), any_ints]
@[simp] theorem cinT (ss : List Str) (a : Str) (k : Nat) (o : Bool) : cmpD .in_ (.str a) (.lst o ((ss.map D.str).take k)) = some ((ss.take k).any fun x => x == a) := by
  rw [← List.map_take]; exact cin _ a o
@[simp] theorem cintT (ss : List Str) (a : Str) (k : Nat) : cmpD .in_ (.str a) (.tup ((ss.map D.str).take k)) = some ((ss.take k).any fun x => x == a) := by
  rw [← List.map_take]; exact cint _ a
@[simp] theorem cninT (ss : List Str) (a : Str) (k : Nat) (o : Bool) : cmpD .nin (.str a) (.lst o ((ss.map D.str).take k)) = some (!(ss.take k).any fun x => x == a) := by
  rw [← List.map_take]; exact cnin _ a o
@[simp] theorem cnintT (ss : List Str) (a : Str) (k : Nat) : cmpD .nin (.str a) (.tup ((ss.map D.str).take k)) = some (!(ss.take k).any fun x => x == a) := by
  rw [← List.map_take]; exact cnint _ a
@[simp] theorem iinT (ss : List Int) (a : Int) (k : Nat) (o : Bool) : cmpD .in_ (.int a) (.lst o ((ss.map D.int).take k)) = some ((ss.take k).any fun x => x == a) := by
  rw [← List.map_take]; exact iin _ a o
@[simp] theorem iintT (ss : List Int) (a : Int) (k : Nat) : cmpD .in_ (.int a) (.tup ((ss.map D.int).take k)) = some ((ss.take k).any fun x => x == a) := by
  rw [← List.map_take]; exact iint _ a
@[simp] theorem ininT (ss : List Int) (a : Int) (k : Nat) (o : Bool) : cmpD .nin (.int a) (.lst o ((ss.map D.int).take k)) = some (!(ss.take k).any fun x => x == a) := by
  rw [← List.map_take]; exact inin _ a o
@[simp] theorem inintT (ss : List Int) (a : Int) (k : Nat) : cmpD .nin (.int a) (.tup ((ss.map D.int).take k)) = some (!(ss.take k).any fun x => x == a) := by
  rw [← List.map_take]; exact inint _ a
theorem strs_get {ss : List Str} {k : Nat} {x : D} (h : (ss.map D.str)[k]? = some x) : ∃ s, ss[k]? = some s ∧ x = .str s := by
  rw [List.getElem?_map] at h
  cases q : ss[k]? with
  | none => rw [q] at h; cases h
  | some s => rw [q] at h; exact ⟨s, rfl, by cases h; rfl⟩
theorem map_get {α : Type} {f : α → D} {ss : List α} {k : Nat} {x : D} (h : (ss.map f)[k]? = some x) : ∃ (hk : k < ss.length), x = f ss[k] := by
  obtain ⟨hk, rfl⟩ := List.getElem?_eq_some_iff.mp h
  simp at hk
  exact ⟨hk, by simp⟩
theorem enum_get {α : Type} {f : α → D} {ss : List α} {k : Nat} {x : D} (h : ((ss.map f).zipIdx.map fun (p : D × Nat) => D.tup [.int p.2, p.1])[k]? = some x) : ∃ (hk : k < ss.length), x = .tup [.int k, f ss[k]] := by
  obtain ⟨hk, rfl⟩ := List.getElem?_eq_some_iff.mp h
  simp at hk
  exact ⟨hk, by simp⟩
theorem cutT {α : Type} {f : α → D} {l : List α} {k : Nat} : cutD (l.map f) none (some (k : Int)) = (l.take k).map f := by rw [cutD_take, List.map_take]
/-! ### checked_options -/
def okName (ns : List Str) (k : Nat) : Bool := match ns[k]? with
  | some x => goodName x && !(ns.take k).any fun y => y == x
  | none => true
def goodNames (ns : List Str) : Bool := decide (1 ≤ ns.length ∧ ns.length ≤ 8) && (List.range ns.length).all (okName ns)
theorem fCheckedOptions {n : Nat} {t : Bool} {ns : List Str} (hs : ∀ x ∈ ns, x.length ≤ 1000000) :
    (semN P (n + 2)).fn false 2 [sqD t (ns.map D.str)] = some (if goodNames ns then .ret (.tup (ns.map D.str)) else .exc 3 [sqD t (ns.map D.str)]) := by
  rw [fn_at (fd := b2) rfl rfl]
  by_cases h0 : 1 ≤ ns.length ∧ ns.length ≤ 8
  · have h1 : (1 : Int) ≤ ns.length := by omega
    have h2 : (ns.length : Int) ≤ 8 := by omega
    have lp : ∃ r, forL (fun _ => true) (Tg.tp [1, 2]) (evalSs (semN P (n + 1)) false b2_1) ((ns.map D.str).zipIdx.map fun (p : D × Nat) => D.tup [.int p.2, p.1]) [some (sqD t (ns.map D.str)), none, none] = some r ∧ outOf (sq (some r) (evalSs (semN P (n + 1)) false [.ret (.bi .tuple [.var 0])])) = some (if goodNames ns then .ret (.tup (ns.map D.str)) else .exc 3 [sqD t (ns.map D.str)]) := by
      refine forL_inv (fun k ρ => (∃ u v : Option D, ρ = [some (sqD t (ns.map D.str)), u, v]) ∧ ∀ j, j < k → okName ns j = true) _ (n := 0) ?_ ?_ ⟨⟨none, none, rfl⟩, fun j h => by omega⟩
      · rintro k d ρ hd ⟨⟨u, v, rfl⟩, he⟩
        obtain ⟨hk, rfl⟩ := enum_get hd
        rw [Nat.zero_add] at he ⊢
        have hm := hs _ (List.getElem_mem hk)
        have hg0 := List.getElem?_eq_getElem hk
        generalize hg : ns[k] = x at hm hg0
        have f := fGoodName (n := n) hm
        refine ⟨rfl, _, rfl, fun N Q' hN hQ => ?_⟩
        have e0 : okName ns k = (goodName x && !(ns.take k).any fun y => y == x) := by unfold okName; rw [hg0]
        cases hb : okName ns k with
        | true =>
          rw [e0, Bool.and_eq_true, Bool.not_eq_true'] at hb
          have hn : N [some (sqD t (ns.map D.str)), some (.int k), some (.str x)] := hN _ ⟨⟨_, _, rfl⟩, fun j hj => by
            rcases Nat.lt_or_eq_of_le (Nat.lt_succ_iff.mp hj) with z | z
            · exact he j z
            · subst z; rw [e0, hb.1, hb.2]; rfl⟩
          cases t <;> simp only [sqD, if_true, Bool.false_eq_true, if_false] at hn ⊢ <;> simp [b2_1, f, hb.1, cutT, cin, cint, hb.2] <;> exact hn
        | false =>
          have hgn : goodNames ns = false := by
            unfold goodNames
            rw [Bool.and_eq_false_iff]; right
            rw [List.all_eq_false]
            exact ⟨k, List.mem_range.mpr hk, by simp [hb]⟩
          have hq : Q' (.ex 3 [sqD t (ns.map D.str)], [some (sqD t (ns.map D.str)), some (.int k), some (.str x)]) := hQ _ (by rw [hgn]; rfl)
          rw [e0] at hb
          cases h1 : goodName x with
          | false => cases t <;> simp only [sqD, if_true, Bool.false_eq_true, if_false] at hq ⊢ <;> simp [b2_1, f, h1] <;> exact hq
          | true =>
            rw [h1, Bool.true_and, Bool.not_eq_false'] at hb
            cases t <;> simp only [sqD, if_true, Bool.false_eq_true, if_false] at hq ⊢ <;> simp [b2_1, f, h1, cutT, cin, cint, hb] <;> exact hq
      · rintro ρ ⟨⟨u, v, rfl⟩, he⟩
        refine ⟨rfl, ?_⟩
        have hgn : goodNames ns = true := by
          unfold goodNames
          rw [Bool.and_eq_true, List.all_eq_true]
          exact ⟨decide_eq_true h0, fun j hj => he j (by simpa using List.mem_range.mp hj)⟩
        rw [hgn]
        cases t <;> simp [sqD]
    obtain ⟨r, hr, hq⟩ := lp
    cases t <;> simp only [sqD, if_true, Bool.false_eq_true, if_false] at hr hq ⊢ <;> simp [b2, h1, h2, hr] <;> exact hq
  · have hgn : goodNames ns = false := by unfold goodNames; rw [decide_eq_false h0]; rfl
    rw [hgn]
    by_cases h1 : (1 : Int) ≤ ns.length
    · have h2 : ¬ (ns.length : Int) ≤ 8 := by omega
      cases t <;> simp [sqD, b2, h1, h2]
    · cases t <;> simp [sqD, b2, h1]
/-! ### good_order -/
def okPlace (os : List Int) (size : Int) (k : Nat) : Bool := match os[k]? with
  | some x => decide (0 ≤ x ∧ x < size) && !(os.take k).any fun y => y == x
  | none => true
def goodOrder (os : List Int) (size : Int) : Bool := (List.range os.length).all (okPlace os size)
theorem fGoodOrder {n : Nat} {t : Bool} {os : List Int} {size : Int} : (semN P (n + 1)).fn false 3 [sqD t (os.map D.int), .int size] = some (.ret (.bl (goodOrder os size))) := by
  rw [fn_at (fd := b3) rfl rfl]
  have lp : ∃ r, forL (fun _ => true) (Tg.tp [2, 3]) (evalSs (semN P n) false b3_1) ((os.map D.int).zipIdx.map fun (p : D × Nat) => D.tup [.int p.2, p.1]) [some (sqD t (os.map D.int)), some (.int size), none, none] = some r ∧ outOf (sq (some r) (evalSs (semN P n) false [.ret (.bl true)])) = some (.ret (.bl (goodOrder os size))) := by
    refine forL_inv (fun k ρ => (∃ u v : Option D, ρ = [some (sqD t (os.map D.int)), some (.int size), u, v]) ∧ ∀ j, j < k → okPlace os size j = true) _ (n := 0) ?_ ?_ ⟨⟨none, none, rfl⟩, fun j h => by omega⟩
    · rintro k d ρ hd ⟨⟨u, v, rfl⟩, he⟩
      obtain ⟨hk, rfl⟩ := enum_get hd
      rw [Nat.zero_add] at he ⊢
      have hg0 := List.getElem?_eq_getElem hk
      generalize hg : os[k] = x at hg0
      refine ⟨rfl, _, rfl, fun N Q' hN hQ => ?_⟩
      have e0 : okPlace os size k = (decide (0 ≤ x ∧ x < size) && !(os.take k).any fun y => y == x) := by unfold okPlace; rw [hg0]
      cases hb : okPlace os size k with
      | true =>
        have hb' := hb
        rw [e0, Bool.and_eq_true, Bool.not_eq_true', decide_eq_true_eq] at hb'
        have hn : N [some (sqD t (os.map D.int)), some (.int size), some (.int k), some (.int x)] := hN _ ⟨⟨_, _, rfl⟩, fun j hj => by
          rcases Nat.lt_or_eq_of_le (Nat.lt_succ_iff.mp hj) with z | z
          · exact he j z
          · subst z; exact hb⟩
        cases t <;> simp only [sqD, if_true, Bool.false_eq_true, if_false] at hn ⊢ <;> simp [b3_1, hb'.1.1, hb'.1.2, cutT, iin, iint, hb'.2] <;> exact hn
      | false =>
        have hgn : goodOrder os size = false := by
          unfold goodOrder
          rw [List.all_eq_false]
          exact ⟨k, List.mem_range.mpr hk, by simp [hb]⟩
        have hq : Q' (.rt (.bl false), [some (sqD t (os.map D.int)), some (.int size), some (.int k), some (.int x)]) := hQ _ (by rw [hgn]; rfl)
        rw [e0] at hb
        by_cases h1 : 0 ≤ x
        · by_cases h2 : x < size
          · rw [decide_eq_true ⟨h1, h2⟩, Bool.true_and, Bool.not_eq_false'] at hb
            cases t <;> simp only [sqD, if_true, Bool.false_eq_true, if_false] at hq ⊢ <;> simp [b3_1, h1, h2, cutT, iin, iint, hb] <;> exact hq
          · cases t <;> simp only [sqD, if_true, Bool.false_eq_true, if_false] at hq ⊢ <;> simp [b3_1, h1, h2] <;> exact hq
        · cases t <;> simp only [sqD, if_true, Bool.false_eq_true, if_false] at hq ⊢ <;> simp [b3_1, h1] <;> exact hq
    · rintro ρ ⟨⟨u, v, rfl⟩, he⟩
      refine ⟨rfl, ?_⟩
      have hgn : goodOrder os size = true := by
        unfold goodOrder
        rw [List.all_eq_true]
        exact fun j hj => he j (by simpa using List.mem_range.mp hj)
      rw [hgn]
      simp
  obtain ⟨r, hr, hq⟩ := lp
  cases t <;> simp only [sqD, if_true, Bool.false_eq_true, if_false] at hr hq ⊢ <;> simp [b3, hr] <;> exact hq
/-! ### good_words, good_ballot -/
def okWord (size : Int) (p : Int × Int) : Bool := decide (p.1 ≠ p.2) && (decide (0 ≤ p.1 ∧ p.1 < size) && decide (0 ≤ p.2 ∧ p.2 < size))
def goodWords (ws : List (Int × Int)) (size : Int) : Bool := decide (ws.length ≤ 20) && ws.all (okWord size)
def wordD (t : Bool) (p : Int × Int) : D := sqD t [.int p.1, .int p.2]
theorem fGoodWords {n : Nat} {t t2 : Bool} {ws : List (Int × Int)} {size : Int} : (semN P (n + 1)).fn false 4 [sqD t (ws.map (wordD t2)), .int size] = some (.ret (.bl (goodWords ws size))) := by
  rw [fn_at (fd := b4) rfl rfl]
  by_cases h0 : ws.length ≤ 20
  · have h1 : ¬ (20 : Int) < ws.length := by omega
    have lp : ∃ r, forL (fun _ => true) (Tg.nm 2) (evalSs (semN P n) false b4_1) (ws.map (wordD t2)) [some (sqD t (ws.map (wordD t2))), some (.int size), none] = some r ∧ outOf (sq (some r) (evalSs (semN P n) false [.ret (.bl true)])) = some (.ret (.bl (goodWords ws size))) := by
      refine forL_inv (fun k ρ => (∃ u : Option D, ρ = [some (sqD t (ws.map (wordD t2))), some (.int size), u]) ∧ ∀ p ∈ ws.take k, okWord size p = true) _ (n := 0) ?_ ?_ ⟨⟨none, rfl⟩, by simp⟩
      · rintro k d ρ hd ⟨⟨u, rfl⟩, he⟩
        obtain ⟨hk, rfl⟩ := map_get hd
        rw [Nat.zero_add] at he ⊢
        have hg0 := List.getElem?_eq_getElem hk
        generalize hg : ws[k] = p at hg0
        obtain ⟨x, y⟩ := p
        refine ⟨rfl, _, rfl, fun N Q' hN hQ => ?_⟩
        cases hb : okWord size (x, y) with
        | true =>
          have hn : N [some (sqD t (ws.map (wordD t2))), some (.int size), some (wordD t2 (x, y))] := hN _ ⟨⟨_, rfl⟩, fun p hp => by
            rw [List.take_add_one, hg0] at hp
            simp at hp
            rcases hp with z | z
            · exact he p z
            · subst z; exact hb⟩
          simp only [okWord, Bool.and_eq_true, decide_eq_true_eq] at hb
          generalize some (sqD t (ws.map (wordD t2))) = z at hn ⊢
          cases t2 <;> simp only [wordD, sqD, if_true, Bool.false_eq_true, if_false] at hn ⊢ <;> simp [b4_1, hb.1, hb.2.1.1, hb.2.1.2, hb.2.2.1, hb.2.2.2] <;> exact hn
        | false =>
          have hgn : goodWords ws size = false := by
            unfold goodWords
            rw [Bool.and_eq_false_iff]; right
            rw [List.all_eq_false]
            exact ⟨(x, y), List.mem_of_getElem? hg0, by simp [hb]⟩
          have hq : Q' (.rt (.bl false), [some (sqD t (ws.map (wordD t2))), some (.int size), some (wordD t2 (x, y))]) := hQ _ (by rw [hgn]; rfl)
          generalize some (sqD t (ws.map (wordD t2))) = z at hq ⊢
          by_cases h1 : x = y
          · cases t2 <;> simp only [wordD, sqD, if_true, Bool.false_eq_true, if_false] at hq ⊢ <;> simp [b4_1, h1] <;> (subst h1; exact hq)
          · by_cases h2 : 0 ≤ x
            · by_cases h3 : x < size
              · by_cases h4 : 0 ≤ y
                · by_cases h5 : y < size
                  · simp [okWord, h1, h2, h3, h4, h5] at hb
                  · cases t2 <;> simp only [wordD, sqD, if_true, Bool.false_eq_true, if_false] at hq ⊢ <;> simp [b4_1, h1, h2, h3, h4, h5] <;> exact hq
                · cases t2 <;> simp only [wordD, sqD, if_true, Bool.false_eq_true, if_false] at hq ⊢ <;> simp [b4_1, h1, h2, h3, h4] <;> exact hq
              · cases t2 <;> simp only [wordD, sqD, if_true, Bool.false_eq_true, if_false] at hq ⊢ <;> simp [b4_1, h1, h2, h3] <;> exact hq
            · cases t2 <;> simp only [wordD, sqD, if_true, Bool.false_eq_true, if_false] at hq ⊢ <;> simp [b4_1, h1, h2] <;> exact hq
      · rintro ρ ⟨⟨u, rfl⟩, he⟩
        refine ⟨rfl, ?_⟩
        have hgn : goodWords ws size = true := by
          unfold goodWords
          rw [Bool.and_eq_true, List.all_eq_true]
          refine ⟨decide_eq_true h0, fun p hp => he p ?_⟩
          simpa using hp
        rw [hgn]
        simp
    obtain ⟨r, hr, hq⟩ := lp
    cases t <;> simp only [sqD, if_true, Bool.false_eq_true, if_false] at hr hq ⊢ <;> simp [b4, h1, hr] <;> exact hq
  · have hgn : goodWords ws size = false := by unfold goodWords; rw [decide_eq_false h0]; rfl
    have h1 : (20 : Int) < ws.length := by omega
    rw [hgn]
    cases t <;> simp [sqD, b4, h1]
/-- a ballot and how it stands -/
structure Bal where
  (t1 t2 t3 t4 : Bool)
  (w : Int) (os : List Int) (ws : List (Int × Int))
def Bal.d (b : Bal) : D := sqD b.t1 [.int b.w, sqD b.t2 (b.os.map D.int), sqD b.t3 (b.ws.map (wordD b.t4))]
def goodBallot (size : Int) (b : Bal) : Bool := decide (1 ≤ b.w) && (goodOrder b.os size && goodWords b.ws size)
theorem nin23 : cmpD .nin (.int 3) (.tup [.int 2, .int 3]) = some false := by
  have := inint [2, 3] 3
  simpa using this
theorem fGoodBallot {n : Nat} {b : Bal} {size : Int} : (semN P (n + 2)).fn false 5 [b.d, .int size] = some (.ret (.bl (goodBallot size b))) := by
  rw [fn_at (fd := b5) rfl rfl]
  obtain ⟨t1, t2, t3, t4, w, os, ws⟩ := b
  have g1 := fGoodOrder (n := n) (t := t2) (os := os) (size := size)
  have g2 := fGoodWords (n := n) (t := t3) (t2 := t4) (ws := ws) (size := size)
  simp only [Bal.d, goodBallot]
  generalize hx : sqD t2 (os.map D.int) = x at g1
  have f1 : x.frz = x := by subst hx; cases t2 <;> simp [sqD]
  generalize hy : sqD t3 (ws.map (wordD t4)) = y at g2
  have f2 : y.frz = y := by subst hy; cases t3 <;> cases t4 <;> simp [sqD, wordD]
  by_cases h1 : 1 ≤ w
  · have h1' : ¬ w < 1 := by omega
    cases h2 : goodOrder os size <;> rw [h2] at g1
    · cases t1 <;> simp [sqD, b5, nin23, h1, h1', g1, f1]
    · cases t1 <;> simp [sqD, b5, nin23, h1, h1', g1, g2, f1, f2]
  · have h1' : w < 1 := by omega
    cases t1 <;> simp [sqD, b5, nin23, h1, h1']
/-! ### plain_ballot, checked_ballots -/
theorem sqD_t {xs : List D} : sqD true xs = .tup xs := Eq.trans rfl rfl
theorem sqD_f {xs : List D} : sqD false xs = .lst false xs := Eq.trans rfl rfl
@[simp] theorem frz_os {t : Bool} {os : List Int} : (sqD t (os.map D.int)).frz = sqD t (os.map D.int) := by cases t <;> simp [sqD]
@[simp] theorem frz_word {t : Bool} {p : Int × Int} : (wordD t p).frz = wordD t p := by cases t <;> simp [sqD, wordD]
@[simp] theorem frz_ws {t t2 : Bool} {ws : List (Int × Int)} : (sqD t (ws.map (wordD t2))).frz = sqD t (ws.map (wordD t2)) := by cases t <;> simp [sqD]
def plainD (b : Bal) : D := .tup [.int b.w, .tup (b.os.map D.int), .tup (b.ws.map fun p => .tup [.int p.1, .int p.2])]
@[simp] theorem frz_plain {b : Bal} : (plainD b).frz = plainD b := by simp [plainD]
@[simp] theorem noI_plain {b : Bal} : (plainD b).noI = true := by simp [plainD]
@[simp] theorem noF_plain {b : Bal} : (plainD b).noF = true := by simp [plainD]
@[simp] theorem noX_plain {b : Bal} : (plainD b).noX = true := by simp [plainD]
@[simp] theorem imm_plain {b : Bal} : (plainD b).imm = true := by simp [plainD]
theorem okWs_len {size : Int} {ws : List (Int × Int)} (h : goodWords ws size = true) : ws.length ≤ 20 := by
  simp [goodWords] at h; exact h.1
theorem fPlainBallot {n : Nat} {b : Bal} (hw : b.ws.length ≤ 1000000) : (semN P (n + 1)).fn false 6 [b.d] = some (.ret (plainD b)) := by
  rw [fn_at (fd := b6) rfl rfl]
  obtain ⟨t1, t2, t3, t4, w, os, ws⟩ := b
  simp only [Bal.d, plainD]
  have e : ∀ z : D, compL [2] (Tg.nm 2) (evalC (semN P n) false []) (evalE (semN P n) false (.tup [.idx (.var 2) (.int 0), .idx (.var 2) (.int 1)])) (ws.map (wordD t4)) [] [some z, some (.tup []), none] = .ok ([] ++ ws.map fun p => D.tup [.int p.1, .int p.2]) [some z, some (.tup []), none] := fun z =>
    compL_map _ _ (fun p _ => ⟨_, rfl, by cases t4 <;> simp [wordD, sqD]⟩) (by simpa using le_slz' hw)
  cases t1 <;> cases t2 <;> cases t3 <;> simp [sqD] at e ⊢ <;> simp [b6, e]
def fauB (size : Int) : Nat → Int → List Bal → Option Nat
  | _, _, [] => none
  | i, tot, b :: bs => if goodBallot size b = true ∧ tot + b.w ≤ 1000000000 then fauB size (i + 1) (tot + b.w) bs else some i
theorem drop_get {α : Type} {l : List α} {k : Nat} {x : α} (h : l[k]? = some x) : l.drop k = x :: l.drop (k + 1) := by
  obtain ⟨hk, rfl⟩ := List.getElem?_eq_some_iff.mp h
  exact List.drop_eq_getElem_cons hk
def outB (size : Int) (bs : List Bal) : Out := match fauB size 0 0 bs with
  | none => .ret (.tup (bs.map plainD))
  | some i => .exc 5 [.int i]
theorem fCheckedBallots {n : Nat} {t : Bool} {bs : List Bal} {size : Int} (h0 : 1 ≤ bs.length ∧ bs.length ≤ 8) : (semN P (n + 3)).fn false 7 [sqD t (bs.map Bal.d), .int size] = some (outB size bs) := by
  rw [fn_at (fd := b7) rfl rfl]
  have h1 : (1 : Int) ≤ bs.length := by omega
  have h2 : (bs.length : Int) ≤ 8 := by omega
  have lp : ∃ r, forL (fun _ => true) (Tg.tp [4, 5]) (evalSs (semN P (n + 2)) false b7_1) ((bs.map Bal.d).zipIdx.map fun (p : D × Nat) => D.tup [.int p.2, p.1]) [some (sqD t (bs.map Bal.d)), some (.int size), some (.lst true []), some (.int 0), none, none] = some r ∧ outOf (sq (some r) (evalSs (semN P (n + 2)) false [.ret (.bi .tuple [.var 2])])) = some (outB size bs) := by
    refine forL_inv (fun k ρ => ∃ (tot : Int) (u v : Option D), ρ = [some (sqD t (bs.map Bal.d)), some (.int size), some (.lst true ((bs.take k).map plainD)), some (.int tot), u, v] ∧ fauB size 0 0 bs = fauB size k tot (bs.drop k)) _ (n := 0) ?_ ?_ ⟨0, none, none, rfl, rfl⟩
    · rintro k d ρ hd ⟨tot, u, v, rfl, he⟩
      obtain ⟨hk, rfl⟩ := enum_get hd
      rw [Nat.zero_add] at he ⊢
      have hg0 := List.getElem?_eq_getElem hk
      generalize hg : bs[k] = b at hg0
      rw [drop_get hg0, fauB] at he
      generalize some (sqD t (bs.map Bal.d)) = z
      refine ⟨rfl, _, rfl, fun N Q' hN hQ => ?_⟩
      have g1 := fGoodBallot (n := n) (b := b) (size := size)
      have hl : (bs.take k).length ≤ 1000000 := by rw [List.length_take]; omega
      have hsl : sizeLine = 16777216 := slz
      cases hb : goodBallot size b with
      | false =>
        rw [if_neg (by simp [hb])] at he
        rw [hb] at g1
        have hq : ∀ ρ, Q' (.ex 5 [.int k], ρ) := fun ρ => hQ _ (by simp [outB, he])
        obtain ⟨t1, t2, t3, t4, w, os, ws⟩ := b
        cases t1 <;> simp only [Bal.d, sqD_t, sqD_f] at g1 ⊢ <;> simp [b7_1, g1] <;> exact hq _
      | true =>
        rw [hb] at g1
        have hw : b.ws.length ≤ 1000000 := by
          simp only [goodBallot, Bool.and_eq_true] at hb
          have := okWs_len hb.2.2
          omega
        have g2 := fPlainBallot (n := n + 1) hw
        by_cases h3 : tot + b.w ≤ 1000000000
        · rw [if_pos ⟨hb, h3⟩] at he
          have hn : ∀ u v, N [z, some (.int size), some (.lst true ((bs.take k).map plainD ++ [plainD b])), some (.int (tot + b.w)), u, v] := fun u v => hN _ ⟨tot + b.w, u, v, by rw [List.take_add_one, hg0]; simp, he⟩
          have h3' : ¬ 1000000000 < tot + b.w := by omega
          generalize plainD b = pb at g2 hn
          have hmk : min k bs.length < sizeLine := by rw [hsl]; omega
          simp only [List.map_take] at hn
          obtain ⟨t1, t2, t3, t4, w, os, ws⟩ := b
          simp only at h3 h3' hn
          cases t1 <;> simp only [Bal.d, sqD_t, sqD_f] at g1 g2 ⊢ <;> simp [b7_1, g1, g2, h3', hmk] <;> exact hn _ _
        · rw [if_neg (fun z => h3 z.2)] at he
          have hq : ∀ ρ, Q' (.ex 5 [.int k], ρ) := fun ρ => hQ _ (by simp [outB, he])
          have h3' : 1000000000 < tot + b.w := by omega
          obtain ⟨t1, t2, t3, t4, w, os, ws⟩ := b
          simp only at h3 h3'
          cases t1 <;> simp only [Bal.d, sqD_t, sqD_f] at g1 g2 ⊢ <;> simp [b7_1, g1, h3'] <;> exact hq _
    · rintro ρ ⟨tot, u, v, rfl, he⟩
      refine ⟨rfl, ?_⟩
      simp [fauB] at he
      simp [outB, he]
  obtain ⟨r, hr, hq⟩ := lp
  cases t <;> simp only [sqD, if_true, Bool.false_eq_true, if_false] at hr hq ⊢ <;> simp [b7, h1, h2, hr] <;> exact hq
theorem fCheckedBallotsN {n : Nat} {t : Bool} {bs : List Bal} {size : Int} (h0 : ¬ (1 ≤ bs.length ∧ bs.length ≤ 8)) : (semN P (n + 1)).fn false 7 [sqD t (bs.map Bal.d), .int size] = some (.exc 4 [.int bs.length]) := by
  rw [fn_at (fd := b7) rfl rfl]
  by_cases h1 : (1 : Int) ≤ bs.length
  · have h2 : ¬ (bs.length : Int) ≤ 8 := by omega
    cases t <;> simp [sqD, b7, h1, h2]
  · cases t <;> simp [sqD, b7, h1]
/-! ### tells_directly, told_relation -/
def direct (b : Bal) (x y : Int) : Bool := x == y || (b.ws.any (fun p => p == (x, y)) || (b.os.any (fun z => z == x) && (!b.os.any (fun z => z == y) || decide (b.os.idxOf x < b.os.idxOf y))))
theorem idx_ints {a : Int} : ∀ {os : List Int} {k : Nat}, os.any (fun z => z == a) = true → idxOf (.int a) (os.map D.int) k = some (os.idxOf a + k)
  | [], _, h => by simp at h
  | o :: os, k, h => by
    rw [List.map_cons, idxOf, eqv_int, List.idxOf_cons]
    cases q : o == a with
    | true => simp [q]
    | false =>
      have h' : os.any (fun z => z == a) = true := by simpa [q] using h
      simp only [Bool.false_eq_true, if_false, cond_false]
      rw [idx_ints h']
      congr 1
      omega
theorem depL_int {os : List Int} : D.depL (os.map D.int) ≤ 60 := by
  have : D.depL (os.map D.int) ≤ 1 := by induction os <;> simp_all
  omega
theorem pyL_pairs {ws : List (Int × Int)} : (D.pyL (ws.map fun p => D.tup [.int p.1, .int p.2])).isSome = true := by
  induction ws with
  | nil => simp
  | cons p ws ih =>
    obtain ⟨z, hz⟩ := Option.isSome_iff_exists.mp ih
    simp [hz]
theorem pin (ws : List (Int × Int)) (x y : Int) : cmpD .in_ (.tup [.int x, .int y]) (.tup (ws.map fun p => D.tup [.int p.1, .int p.2])) = some (ws.any fun p => p == (x, y)) := by
  rw [cmp_int_, if_pos (by simp [pyL_pairs])]
  congr 1
  induction ws with
  | nil => rfl
  | cons p ws ih => simp only [List.map_cons, List.any_cons, ih]; congr 1; obtain ⟨a, c⟩ := p; simp only [eqv_tup, eqvL_cons, eqv_int, eqvL_nil, Bool.and_true]; first | rfl | (rw [Bool.eq_iff_iff]; simp)
theorem fTellsDirectly {n : Nat} {b : Bal} {x y : Int} : (semN P (n + 1)).fn false 8 [.int x, .int y, plainD b] = some (.ret (.bl (direct b x y))) := by
  rw [fn_at (fd := b8) rfl rfl]
  obtain ⟨t1, t2, t3, t4, w, os, ws⟩ := b
  simp only [plainD, direct]
  by_cases h1 : x = y
  · simp [b8, h1]
  · cases h2 : ws.any fun p => p == (x, y)
    · cases h3 : os.any fun z => z == x
      · simp [b8, h1, pin, h2, iint, h3]
      · cases h4 : os.any fun z => z == y
        · simp [b8, h1, pin, h2, iint, h3, inint, h4]
        · have e1 : bmD .indexT (.tup (os.map D.int)) [.int x] = some (.int (os.idxOf x)) := by simp [bmD, idx_ints h3, depL_int]
          have e2 : bmD .indexT (.tup (os.map D.int)) [.int y] = some (.int (os.idxOf y)) := by simp [bmD, idx_ints h4, depL_int]
          simp [b8, h1, pin, h2, iint, h3, inint, h4, e1, e2]
    · simp [b8, h1, pin, h2]
theorem frzL_mapG {α : Type} {f : α → D} {l : List α} : D.frzL (l.map f) = l.map fun a => (f a).frz := by
  induction l with
  | nil => rw [List.map_nil, frzL_nil]; rfl
  | cons a l ih => rw [List.map_cons, frzL_cons, ih]; rfl
theorem fm_filter {α β : Type} {p : α → Bool} {f : α → β} {l : List α} : (l.filterMap fun y => if p y = true then some (f y) else none) = (l.filter p).map f := by
  induction l with
  | nil => rfl
  | cons a l ih => cases h : p a <;> simp [h, ih]
/-- one round: over m -/
def stepW (m : Nat) (R : Nat → Nat → Bool) (a b : Nat) : Bool := R a b || (R a m && R m b)
def warsh (R : Nat → Nat → Bool) : Nat → Nat → Nat → Bool
  | 0 => R
  | m + 1 => stepW m (warsh R m)
def rowD (n : Nat) (f : Nat → Bool) : D := .lst true ((List.range n).map fun (b : Nat) => D.bl (f b))
def matD (n : Nat) (R : Nat → Nat → Bool) : D := .lst true ((List.range n).map fun a => rowD n (R a))
theorem mat_set {n k : Nat} {f g : Nat → D} (h : ∀ j, j ≠ k → f j = g j) : ((List.range n).map f).set k (g k) = (List.range n).map g := by
  apply List.ext_getElem
  · simp
  · intro j h1 h2
    simp only [List.getElem_set, List.getElem_map, List.getElem_range]
    split
    · rename_i q; rw [q]
    · rename_i q; exact h j fun z => q z.symm
def toldT (n : Nat) (R : Nat → Nat → Bool) : D := .tup ((List.range n).map fun a => D.tup (((List.range n).filter (R a)).map fun (b : Nat) => D.int b))
def R0 (b : Bal) (x y : Nat) : Bool := direct b x y
def toldB (n : Nat) (b : Bal) : D := toldT n (warsh (R0 b) n)
theorem setItem_nat {k : Nat} {v : D} {xs : List D} (h : k < xs.length) : SL.setItem (k : Int) v (.lst true xs) = some (.lst true (xs.set k v)) := by
  simp [SL.setItem, h]
theorem stepW_mid {m : Nat} {R : Nat → Nat → Bool} {b : Nat} : stepW m R m b = R m b := by
  unfold stepW; cases R m b <;> simp
theorem fToldRelation {n s : Nat} {b : Bal} (hs : s ≤ 1000) : (semN P (n + 2)).fn false 9 [.int s, plainD b] = some (.ret (toldB s b)) := by
  rw [fn_at (fd := b9) rfl rfl]
  have hz : Sm s := sm_of (by omega)
  have hs2 : s ≤ sizeLine := le_slz' (by omega)
  have e1 : ∀ (a : Nat) (e : Option D) (p : Option D), compL [3] (Tg.nm 3) (evalC (semN P (n + 1)) false []) (evalE (semN P (n + 1)) false (.call 8 [.var 2, .var 3, .var 1])) ((List.range s).map fun (k : Nat) => D.int k) [] [some (.int s), some (plainD b), some (.int a), none, p, e] = .ok ([] ++ (List.range s).map fun (y : Nat) => D.bl (R0 b a y)) [some (.int s), some (plainD b), some (.int a), none, p, e] := fun a e p =>
    compL_map _ _ (fun y _ => ⟨_, rfl, by
      have := fTellsDirectly (n := n) (b := b) (x := (a : Int)) (y := (y : Int))
      generalize hp : plainD b = pb at this
      have hp2 : pb = .tup [.int b.w, .tup (b.os.map D.int), .tup (b.ws.map fun p => .tup [.int p.1, .int p.2])] := hp.symm
      rw [hp2] at this ⊢
      simp [this, R0]⟩) (by simpa using hs2)
  have e2 : compL [2] (Tg.nm 2) (evalC (semN P (n + 1)) false []) (evalE (semN P (n + 1)) false (.comp [3] (.call 8 [.var 2, .var 3, .var 1]) (.nm 3) .range1 [.var 0] [])) ((List.range s).map fun (k : Nat) => D.int k) [] [some (.int s), some (plainD b), none, none, none, none] = .ok ([] ++ (List.range s).map fun (a : Nat) => rowD s (R0 b a)) [some (.int s), some (plainD b), none, none, none, none] :=
    compL_map _ _ (fun a _ => ⟨_, rfl, by simp [hz, e1, rowD]⟩) (by simpa using hs2)
  -- one row after the other
  have inner : ∀ (R : Nat → Nat → Bool) (m : Nat) (u : Option D), m < s → ∃ r, forL (fun _ => true) (Tg.nm 2) (evalSs (semN P (n + 1)) false b9_1) ((List.range s).map fun (k : Nat) => D.int k) [some (.int s), some (plainD b), u, none, some (matD s R), some (.int m)] = some r ∧ ∃ u, r = (.nx, [some (.int s), some (plainD b), u, none, some (matD s (stepW m R)), some (.int m)]) := by
    intro R m u hm
    refine forL_inv (fun k ρ => ∃ u, ρ = [some (.int s), some (plainD b), u, none, some (matD s fun a b => if a < k then stepW m R a b else R a b), some (.int m)]) _ (n := 0) ?_ ?_ ⟨u, by simp⟩
    · rintro k d ρ hd ⟨u, rfl⟩
      obtain ⟨hk, rfl⟩ := range_get hd
      rw [Nat.zero_add]
      generalize hT : (fun (a b : Nat) => if a < k then stepW m R a b else R a b) = T
      have hT2 : (fun (a b : Nat) => if a < k + 1 then stepW m R a b else R a b) = fun a b => if a = k then R k b || (R k m && R m b) else T a b := by
        subst hT
        funext a b
        by_cases q : a = k
        · subst q; simp [stepW]
        · rw [if_neg q]
          by_cases q2 : a < k
          · rw [if_pos (by omega)]; exact (if_pos q2).symm
          · rw [if_neg (by omega)]; exact (if_neg q2).symm
      have hTk : ∀ b, T k b = R k b := fun b => by subst hT; simp
      have hTm : ∀ b, T m b = R m b := fun b => by
        subst hT
        simp only
        split
        · exact stepW_mid
        · rfl
      refine ⟨rfl, _, rfl, fun N Q' hN hQ => ?_⟩
      have hn : N [some (.int s), some (plainD b), some (.int k), none, some (matD s fun a b => if a = k then R k b || (R k m && R m b) else T a b), some (.int m)] := hN _ ⟨_, by rw [hT2]⟩
      cases hb : R k m with
      | false =>
        have e3 : matD s (fun a b => if a = k then R k b || (R k m && R m b) else T a b) = matD s T := by
          congr 1
          funext a b
          split
          · rename_i q; subst q; rw [hb, hTk]; simp
          · rfl
        rw [e3] at hn
        simp [b9_1, matD, rowD, hk, hm, hTk, hb, frzL_mapG]
        simpa [matD, rowD] using hn
      | true =>
        have e4 : compL [3] (Tg.nm 3) (evalC (semN P (n + 1)) false []) (evalE (semN P (n + 1)) false (.bop false [.idx (.idx (.var 4) (.var 2)) (.var 3), .idx (.idx (.var 4) (.var 5)) (.var 3)])) ((List.range s).map fun (k : Nat) => D.int k) [] [some (.int s), some (plainD b), some (.int k), none, some (matD s T), some (.int m)] = .ok ([] ++ (List.range s).map fun (y : Nat) => D.bl (R k y || R m y)) [some (.int s), some (plainD b), some (.int k), none, some (matD s T), some (.int m)] :=
          compL_map _ _ (fun y hy => ⟨_, rfl, by
            have hy := List.mem_range.mp hy
            cases hb2 : R k y <;> simp [matD, rowD, hk, hm, hy, hTk, hTm, hb2, frzL_mapG]⟩) (by simpa using hs2)
        have e5 : ((List.range s).map fun a => rowD s (T a)).set k (rowD s fun y => R k y || R m y) = (List.range s).map fun a => rowD s fun b => if a = k then R k b || (R k m && R m b) else T a b := by
          have := mat_set (n := s) (k := k) (f := fun a => rowD s (T a)) (g := fun a => rowD s fun b => if a = k then R k b || (R k m && R m b) else T a b) (fun j hj => by simp [hj])
          rw [← this]
          simp [hb]
        simp only [matD] at hn e4 ⊢
        rw [← e5] at hn
        have hr : ∀ f, (rowD s f).frz = .lst false ((List.range s).map fun (b : Nat) => D.bl (f b)) := fun f => by simp [rowD]
        have ok : ∀ p q : Option D, okAt 4 [(k : Int)] [some (.int s), p, q, none, some (.lst true ((List.range s).map fun a => rowD s (T a))), some (.int m)] = true := fun p q => by
          simp [okAt, getAt, hk]
        simp [b9_1, hk, hm, hTk, hb, frzL_mapG, hr, hz, e4, setItem_nat, ok]
        exact hn
    · rintro ρ ⟨u, rfl⟩
      refine ⟨rfl, u, ?_⟩
      have : matD s (fun a b => if a < 0 + ((List.range s).map fun (k : Nat) => D.int k).length then stepW m R a b else R a b) = matD s (stepW m R) := by
        unfold matD
        congr 1
        apply List.map_congr_left
        intro a ha
        have := List.mem_range.mp ha
        simp [this]
      rw [this]
  have outer : ∃ r, forL (fun _ => true) (Tg.nm 5) (evalSs (semN P (n + 1)) false b9_2) ((List.range s).map fun (k : Nat) => D.int k) [some (.int s), some (plainD b), none, none, some (matD s (R0 b)), none] = some r ∧ ∃ u v, r = (.nx, [some (.int s), some (plainD b), u, none, some (matD s (warsh (R0 b) s)), v]) := by
    refine forL_inv (fun k ρ => ∃ u v, ρ = [some (.int s), some (plainD b), u, none, some (matD s (warsh (R0 b) k)), v]) _ (n := 0) ?_ ?_ ⟨none, none, by rw [warsh]⟩
    · rintro k d ρ hd ⟨u, v, rfl⟩
      obtain ⟨hk, rfl⟩ := range_get hd
      rw [Nat.zero_add]
      have hw : warsh (R0 b) (k + 1) = stepW k (warsh (R0 b) k) := by rw [warsh]
      have hin := inner (warsh (R0 b) k) k u hk
      rw [hw]
      generalize warsh (R0 b) k = Rk at hin ⊢
      obtain ⟨r, hr, u', rfl⟩ := hin
      refine ⟨rfl, _, rfl, fun N Q' hN hQ => ?_⟩
      have hn : N [some (.int s), some (plainD b), u', none, some (matD s (stepW k Rk)), some (.int k)] := hN _ ⟨_, _, rfl⟩
      simp [b9_2, hz, hr]
      exact hn
    · rintro ρ ⟨u, v, rfl⟩
      rw [Nat.zero_add, List.length_map, List.length_range]
      generalize some (matD s (warsh (R0 b) s)) = z
      exact ⟨rfl, u, v, rfl⟩
  obtain ⟨r, hr, u, v, rfl⟩ := outer
  unfold toldB
  generalize warsh (R0 b) s = R at hr ⊢
  have e6 : ∀ (a : Nat), a < s → compL [3] (Tg.nm 3) (evalC (semN P (n + 1)) false [.e (.idx (.idx (.var 4) (.var 2)) (.var 3))]) (evalE (semN P (n + 1)) false (.var 3)) ((List.range s).map fun (k : Nat) => D.int k) [] [some (.int s), some (plainD b), some (.int a), none, some (matD s R), v] = .ok ([] ++ ((List.range s).filter (R a)).map fun (y : Nat) => D.int y) [some (.int s), some (plainD b), some (.int a), none, some (matD s R), v] := fun a ha => by
    rw [← fm_filter]
    exact compL_fm _ _ (fun y hy => ⟨_, rfl, by
      have hy := List.mem_range.mp hy
      cases hb : R a y <;> simp [matD, rowD, ha, hy, hb, frzL_mapG]⟩) (by simpa using hs2)
  have e7 : compL [2] (Tg.nm 2) (evalC (semN P (n + 1)) false []) (evalE (semN P (n + 1)) false (.bi .tuple [.comp [3] (.var 3) (.nm 3) .range1 [.var 0] [.e (.idx (.idx (.var 4) (.var 2)) (.var 3))]])) ((List.range s).map fun (k : Nat) => D.int k) [] [some (.int s), some (plainD b), none, none, some (matD s R), v] = .ok ([] ++ (List.range s).map fun a => D.tup (((List.range s).filter (R a)).map fun (y : Nat) => D.int y)) [some (.int s), some (plainD b), none, none, some (matD s R), v] :=
    compL_map _ _ (fun a ha => ⟨_, rfl, by
      have ha := List.mem_range.mp ha
      simp [hz, e6 a ha]⟩) (by simpa using hs2)
  have hr2 := hr
  simp only [matD] at hr2 e7
  simp [b9, hz, e2, hr2, e7, toldT]
/-! ### Book(..) -/
@[simp] theorem frz_toldT {n : Nat} {R : Nat → Nat → Bool} : (toldT n R).frz = toldT n R := by simp [toldT]
@[simp] theorem imm_toldT {n : Nat} {R : Nat → Nat → Bool} : (toldT n R).imm = true := by simp [toldT]
@[simp] theorem noI_toldT {n : Nat} {R : Nat → Nat → Bool} : (toldT n R).noI = true := by simp [toldT]
@[simp] theorem noF_toldT {n : Nat} {R : Nat → Nat → Bool} : (toldT n R).noF = true := by simp [toldT]
@[simp] theorem noX_toldT {n : Nat} {R : Nat → Nat → Bool} : (toldT n R).noX = true := by simp [toldT]
@[simp] theorem frz_toldB {n : Nat} {b : Bal} : (toldB n b).frz = toldB n b := frz_toldT
@[simp] theorem imm_toldB {n : Nat} {b : Bal} : (toldB n b).imm = true := imm_toldT
@[simp] theorem noI_toldB {n : Nat} {b : Bal} : (toldB n b).noI = true := noI_toldT
@[simp] theorem noF_toldB {n : Nat} {b : Bal} : (toldB n b).noF = true := noF_toldT
@[simp] theorem noX_toldB {n : Nat} {b : Bal} : (toldB n b).noX = true := noX_toldT
@[simp] theorem frz_bal {b : Bal} : b.d.frz = b.d := by
  obtain ⟨t1, t2, t3, t4, w, os, ws⟩ := b
  cases t1 <;> simp [Bal.d, sqD_t, sqD_f]
def fieldsB (ns : List Str) (bs : List Bal) : List D := [.tup (ns.map D.str), .int ns.length, .tup (bs.map plainD), .tup (bs.map fun b => D.int b.w), .tup (bs.map (toldB ns.length))]
def bookD (o : Bool) (ns : List Str) (bs : List Bal) : D := .ins o 9 (fieldsB ns bs)
/-- what making a book comes to -/
def madeB (t : Bool) (ns : List Str) (bs : List Bal) : Out :=
  if goodNames ns = true then (if 1 ≤ bs.length ∧ bs.length ≤ 8 then (match fauB ns.length 0 0 bs with
    | none => .ret (bookD true ns bs)
    | some i => .exc 5 [.int i]) else .exc 4 [.int bs.length]) else .exc 3 [sqD t (ns.map D.str)]
theorem ixf0 : List.idxOf? 0 [0, 6, 7, 8, 9] = some 0 := by decide
theorem ixf1 : List.idxOf? 6 [0, 6, 7, 8, 9] = some 1 := by decide
theorem ixf2 : List.idxOf? 7 [0, 6, 7, 8, 9] = some 2 := by decide
theorem ixf3 : List.idxOf? 8 [0, 6, 7, 8, 9] = some 3 := by decide
theorem ixf4 : List.idxOf? 9 [0, 6, 7, 8, 9] = some 4 := by decide
theorem newBook {n : Nat} {t t2 : Bool} {ns : List Str} {bs : List Bal} (hs : ∀ x ∈ ns, x.length ≤ 1000000) : (semN P (n + 4)).new false 9 [sqD t (ns.map D.str), sqD t2 (bs.map Bal.d)] = some (madeB t ns bs) := by
  rw [new_at (f := 10) (fd := b10) rfl rfl rfl]
  have g1 := fCheckedOptions (n := n + 1) (t := t) hs
  unfold madeB
  cases h1 : goodNames ns with
  | false =>
    rw [h1] at g1
    cases t <;> cases t2 <;> simp only [sqD_t, sqD_f] at g1 ⊢ <;> simp [b10, g1]
  | true =>
    rw [h1] at g1
    simp only [if_true]
    by_cases h2 : 1 ≤ bs.length ∧ bs.length ≤ 8
    · rw [if_pos h2]
      have g2 := fCheckedBallots (n := n) (t := t2) (bs := bs) (size := (ns.length : Int)) h2
      unfold outB at g2
      cases h3 : fauB ns.length 0 0 bs with
      | some i =>
        rw [h3] at g2
        cases t <;> cases t2 <;> simp only [sqD_t, sqD_f] at g1 g2 ⊢ <;> simp [b10, g1, g2, fldItem, ixf0, ixf1, ixf2, ixf3, ixf4]
      | none =>
        rw [h3] at g2
        have hsz : ns.length ≤ 1000 := by
          unfold goodNames at h1
          simp at h1
          omega
        have e1 : ∀ (f : D) (p q : Option D), compL [3] (Tg.nm 3) (evalC (semN P (n + 3)) false []) (evalE (semN P (n + 3)) false (.idx (.var 3) (.int 0))) (bs.map plainD) [] [some f, p, q, none] = .ok ([] ++ bs.map fun b => D.int b.w) [some f, p, q, none] := fun f p q =>
          compL_map _ _ (fun b _ => ⟨_, rfl, by simp [plainD]⟩) (by simpa using le_slz' (k := bs.length) (by omega))
        have e2 : ∀ (p q : Option D), compL [3] (Tg.nm 3) (evalC (semN P (n + 3)) false []) (evalE (semN P (n + 3)) false (.call 9 [.bi .len [.fld (.var 0) 0], .var 3])) (bs.map plainD) [] [some (.ins true 9 [.tup (ns.map D.str), .int ns.length, .tup (bs.map plainD), .tup (bs.map fun b => D.int b.w)]), p, q, none] = .ok ([] ++ bs.map (toldB ns.length)) [some (.ins true 9 [.tup (ns.map D.str), .int ns.length, .tup (bs.map plainD), .tup (bs.map fun b => D.int b.w)]), p, q, none] := fun p q =>
          compL_map _ _ (fun b _ => ⟨_, rfl, by
            have g3 := fToldRelation (n := n + 1) (s := ns.length) (b := b) hsz
            have hp2 : plainD b = .tup [.int b.w, .tup (b.os.map D.int), .tup (b.ws.map fun p => .tup [.int p.1, .int p.2])] := rfl
            rw [hp2] at g3 ⊢
            simp [g3, ixf0]⟩) (by simpa using le_slz' (k := bs.length) (by omega))
        cases t <;> cases t2 <;> simp only [sqD_t, sqD_f] at g1 g2 ⊢ <;> simp [b10, g1, g2, fldItem, ixf0, ixf1, ixf2, ixf3, ixf4, e1, e2, bookD, fieldsB]
    · rw [if_neg h2]
      have g2 := fCheckedBallotsN (n := n + 2) (t := t2) (bs := bs) (size := (ns.length : Int)) h2
      cases t <;> cases t2 <;> simp only [sqD_t, sqD_f] at g1 g2 ⊢ <;> simp [b10, g1, g2, fldItem, ixf0, ixf1, ixf2, ixf3, ixf4]
end K85
set_option Elab.async false
set_option linter.all false
set_option maxRecDepth 100000
set_option maxHeartbeats 4000000
/-! K85E: the law's own ballots as values. Printed from D85a.src. -/
namespace K85
open PySem L2 SL
def lawB (b : Bal) : Bal := ⟨false, false, false, false, b.w, b.os, b.ws⟩
def pairL (p : Int × Int) : D := .lst false [.int p.1, .int p.2]
def lawD (b : Bal) : D := .lst false [.int b.w, .lst false (b.os.map D.int), .lst false (b.ws.map pairL)]
theorem lawB_d {b : Bal} : (lawB b).d = lawD b := by simp [lawB, lawD, Bal.d, sqD, wordD, pairL]
def pairO (p : Int × Int) : D := .lst true [.int p.1, .int p.2]
def handD (b : Bal) : D := .lst true [.int b.w, .lst true (b.os.map D.int), .lst true (b.ws.map pairO)]
theorem pairO_frz {p : Int × Int} : (pairO p).frz = pairL p := by simp [pairO, pairL]
theorem handD_frz {b : Bal} : (handD b).frz = lawD b := by
  simp [handD, lawD, frzL_mapG, pairO_frz]
theorem lawD_frz {b : Bal} : (lawD b).frz = lawD b := by simp [lawD, frzL_mapG, pairL]
theorem frz_law {bs : List Bal} : D.frzL (bs.map lawD) = bs.map lawD := frzL_map fun _ => lawD_frz
theorem frz_hand {bs : List Bal} : D.frzL (bs.map handD) = bs.map lawD := by rw [frzL_mapG]; exact List.map_congr_left fun b _ => handD_frz
theorem pairsO_frz {ws : List (Int × Int)} : D.frzL (ws.map pairO) = ws.map pairL := by
  rw [frzL_mapG]; exact List.map_congr_left fun p _ => pairO_frz
def mkD (b : Bal) : D := .lst true [.int b.w, .lst true (b.os.map D.int), .lst false (b.ws.map pairL)]
theorem mkD_frz {b : Bal} : (mkD b).frz = lawD b := by
  have e : D.frzL (b.ws.map pairL) = b.ws.map pairL := frzL_map fun q => by simp [pairL]
  simp [mkD, lawD, e]
theorem nodup_map {α β : Type} {f : α → β} {l : List α} (h : l.Nodup) (hf : ∀ a ∈ l, ∀ b ∈ l, f a = f b → a = b) : (l.map f).Nodup := by
  unfold List.Nodup at h ⊢
  rw [List.pairwise_map]
  exact h.imp_of_mem fun ha hb hab e => hab (hf _ ha _ hb e)
def okBook (ns : List Str) (bs : List Bal) : Bool := goodNames ns && (decide (1 ≤ bs.length ∧ bs.length ≤ 8) && (fauB ns.length 0 0 bs).isNone)
theorem made_ok {t : Bool} {ns : List Str} {bs : List Bal} (h : okBook ns bs = true) : madeB t ns bs = .ret (bookD true ns bs) := by
  unfold okBook at h
  simp only [Bool.and_eq_true, decide_eq_true_eq, Option.isNone_iff_eq_none] at h
  unfold madeB
  rw [if_pos h.1, if_pos h.2.1, h.2.2]
def plainB (b : Bal) : Bal := ⟨true, true, true, true, b.w, b.os, b.ws⟩
theorem plainB_d {b : Bal} : (plainB b).d = plainD b := by simp [plainB, plainD, Bal.d, sqD, wordD]
theorem map_plainB {bs : List Bal} : (bs.map plainB).map Bal.d = bs.map plainD := by rw [List.map_map]; exact List.map_congr_left fun b _ => plainB_d
theorem book_plain {o : Bool} {ns : List Str} {bs : List Bal} : bookD o ns (bs.map plainB) = bookD o ns bs := by
  simp only [bookD, fieldsB, List.map_map]; rfl
theorem fau_congr {s : Int} {f : Bal → Bal} (hf : ∀ b, (f b).w = b.w ∧ (f b).os = b.os ∧ (f b).ws = b.ws) : ∀ {l : List Bal} {k : Nat} {t : Int}, fauB s k t (l.map f) = fauB s k t l
  | [], _, _ => rfl
  | b :: l, k, t => by
    rw [List.map_cons, fauB, fauB, fau_congr hf]
    obtain ⟨h1, h2, h3⟩ := hf b
    unfold goodBallot
    rw [h1, h2, h3]
theorem ok_congr {ns : List Str} {bs : List Bal} {f : Bal → Bal} (hf : ∀ b, (f b).w = b.w ∧ (f b).os = b.os ∧ (f b).ws = b.ws) (h : okBook ns bs = true) : okBook ns (bs.map f) = true := by
  unfold okBook at h ⊢
  rw [List.length_map, fau_congr hf]; exact h
theorem lawBs_d {bs : List Bal} : (bs.map lawB).map Bal.d = bs.map lawD := by rw [List.map_map]; exact List.map_congr_left fun b _ => lawB_d
theorem book_law {o : Bool} {ns : List Str} {bs : List Bal} : bookD o ns (bs.map lawB) = bookD o ns bs := by
  simp only [bookD, fieldsB, List.map_map]; rfl
/-! ### when is a book good? -/
theorem fau_all {s : Int} : ∀ {bs : List Bal} {k : Nat} {t : Int}, fauB s k t bs = none → (∀ b ∈ bs, goodBallot s b = true) ∧ (bs = [] ∨ t + (bs.map Bal.w).sum ≤ 1000000000)
  | [], _, _, _ => ⟨fun b hb => (by cases hb), .inl rfl⟩
  | b :: bs, k, t, h => by
    rw [fauB] at h
    split at h
    · rename_i hc
      obtain ⟨h1, h2⟩ := fau_all h
      refine ⟨fun c hc' => ?_, .inr ?_⟩
      · rcases List.mem_cons.mp hc' with rfl | hc'
        · exact hc.1
        · exact h1 c hc'
      · rcases h2 with rfl | h2
        · simpa using hc.2
        · simp only [List.map_cons, List.sum_cons]; omega
    · cases h
theorem sum_nn {bs : List Bal} (h : ∀ b ∈ bs, 1 ≤ b.w) : (bs.length : Int) ≤ (bs.map Bal.w).sum := by
  induction bs with
  | nil => simp
  | cons b bs ih =>
    have h1 := h b (by simp)
    have h2 := ih fun c hc => h c (by simp [hc])
    simp only [List.map_cons, List.sum_cons, List.length_cons]
    omega
theorem fau_none {s : Int} : ∀ {bs : List Bal} {k : Nat} {t : Int}, (∀ b ∈ bs, goodBallot s b = true) → (∀ b ∈ bs, 1 ≤ b.w) → t + (bs.map Bal.w).sum ≤ 1000000000 → fauB s k t bs = none
  | [], _, _, _, _, _ => rfl
  | b :: bs, k, t, h, h1, h2 => by
    have h3 := sum_nn (bs := bs) fun c hc => h1 c (by simp [hc])
    simp only [List.map_cons, List.sum_cons] at h2
    rw [fauB, if_pos ⟨h b (by simp), by omega⟩]
    exact fau_none (fun c hc => h c (by simp [hc])) (fun c hc => h1 c (by simp [hc])) (by omega)
theorem good_w {s : Int} {b : Bal} (h : goodBallot s b = true) : 1 ≤ b.w := by
  unfold goodBallot at h
  simp only [Bool.and_eq_true, decide_eq_true_eq] at h
  exact h.1
theorem ok_all {ns : List Str} {bs : List Bal} (h : okBook ns bs = true) : goodNames ns = true ∧ (1 ≤ bs.length ∧ bs.length ≤ 8) ∧ (∀ b ∈ bs, goodBallot ns.length b = true) ∧ (bs.map Bal.w).sum ≤ 1000000000 := by
  simp only [okBook, Bool.and_eq_true, decide_eq_true_eq, Option.isNone_iff_eq_none] at h
  obtain ⟨h1, h2, h3⟩ := h
  obtain ⟨a, b⟩ := fau_all h3
  refine ⟨h1, h2, a, ?_⟩
  rcases b with rfl | b
  · simp
  · omega
theorem ok_of {ns : List Str} {bs : List Bal} (h1 : goodNames ns = true) (h2 : 1 ≤ bs.length ∧ bs.length ≤ 8) (h3 : ∀ b ∈ bs, goodBallot ns.length b = true) (h4 : (bs.map Bal.w).sum ≤ 1000000000) : okBook ns bs = true := by
  simp only [okBook, Bool.and_eq_true, decide_eq_true_eq, Option.isNone_iff_eq_none]
  exact ⟨h1, h2, fau_none h3 (fun b hb => good_w (h3 b hb)) (by omega)⟩
theorem goodOrder_of {os : List Int} {s : Int} (hr : ∀ x ∈ os, 0 ≤ x ∧ x < s) (hd : os.Nodup) : goodOrder os s = true := by
  unfold goodOrder
  rw [List.all_eq_true]
  intro k hk
  have hk := List.mem_range.mp hk
  unfold okPlace
  rw [List.getElem?_eq_getElem hk]
  simp only [Bool.and_eq_true, decide_eq_true_eq, Bool.not_eq_true']
  refine ⟨hr _ (List.getElem_mem hk), ?_⟩
  rw [List.any_eq_false]
  intro y hy e
  rw [beq_iff_eq] at e
  subst e
  rw [List.mem_take_iff_getElem] at hy
  obtain ⟨i, hi, e⟩ := hy
  have hi2 : i < os.length := by omega
  have := (List.pairwise_iff_getElem.mp hd) i k hi2 hk (by omega)
  exact this e
theorem goodOrder_all {os : List Int} {s : Int} (h : goodOrder os s = true) : (∀ x ∈ os, 0 ≤ x ∧ x < s) ∧ os.Nodup := by
  unfold goodOrder at h
  rw [List.all_eq_true] at h
  have key : ∀ k (hk : k < os.length), (0 ≤ os[k] ∧ os[k] < s) ∧ ((os.take k).any fun y => y == os[k]) = false := fun k hk => by
    have := h k (List.mem_range.mpr hk)
    unfold okPlace at this
    rw [List.getElem?_eq_getElem hk] at this
    simpa only [Bool.and_eq_true, decide_eq_true_eq, Bool.not_eq_true'] using this
  refine ⟨fun x hx => ?_, ?_⟩
  · obtain ⟨k, hk, rfl⟩ := List.getElem_of_mem hx
    exact (key k hk).1
  · unfold List.Nodup
    rw [List.pairwise_iff_getElem]
    intro i j hi hj hij e
    have := (key j hj).2
    rw [List.any_eq_false] at this
    refine this os[i] ?_ (by rw [e]; exact beq_self_eq_true _)
    rw [List.mem_take_iff_getElem]
    exact ⟨i, by omega, rfl⟩
theorem goodWords_all {ws : List (Int × Int)} {s : Int} (h : goodWords ws s = true) : ws.length ≤ 20 ∧ ∀ p ∈ ws, okWord s p = true := by
  unfold goodWords at h
  simp only [Bool.and_eq_true, decide_eq_true_eq, List.all_eq_true] at h
  exact h
end K85
set_option Elab.async false
set_option linter.all false
set_option maxRecDepth 100000
set_option maxHeartbeats 4000000
/-! K85F: the law's own told relation. Printed from BK4.src. -/
namespace K85
open PySem L2 SL
def upd2 (R : Nat → Nat → Bool) (a b : Nat) (x y : Nat) : Bool := if x = a ∧ y = b then true else R x y
theorem getAt_row {s a : Nat} {R : Nat → Nat → Bool} (ha : a < s) : getAt [(a : Int)] (matD s R) = some (rowD s (R a)) := by
  simp [matD, getAt, ha]
theorem getAt_cell {s a b : Nat} {R : Nat → Nat → Bool} (ha : a < s) (hb : b < s) : getAt [(a : Int), (b : Int)] (matD s R) = some (.bl (R a b)) := by
  simp [matD, rowD, getAt, ha, hb]
theorem okL_mat0 {i s : Nat} {R : Nat → Nat → Bool} {ρ : SL.Env} (h : ρ[i]? = some (some (matD s R))) : okL i [] ρ = true := by
  rw [okL_nil, h]; rfl
theorem okL_mat {i s a : Nat} {R : Nat → Nat → Bool} {ρ : SL.Env} (h : ρ[i]? = some (some (matD s R))) (ha : a < s) : okL i [(a : Int)] ρ = true := by
  unfold okL; rw [h]; simp only [getAt_row ha]; rfl
theorem okAt_mat {i s a b : Nat} {R : Nat → Nat → Bool} {ρ : SL.Env} (h : ρ[i]? = some (some (matD s R))) (ha : a < s) (hb : b < s) : okAt i [(a : Int), (b : Int)] ρ = true := by
  unfold okAt; rw [h]; simp only [getAt_cell ha hb]; rfl
theorem at_mat {s a b : Nat} {R : Nat → Nat → Bool} (ha : a < s) (hb : b < s) : atPath (SL.setItem (b : Int) (.bl true)) [(a : Int)] (matD s R) = some (matD s (upd2 R a b)) := by
  have h1 : SL.setItem (b : Int) (.bl true) (rowD s (R a)) = some (rowD s (upd2 R a b a)) := by
    have := mat_set (n := s) (k := b) (f := fun (y : Nat) => D.bl (R a y)) (g := fun (y : Nat) => D.bl (upd2 R a b a y)) (fun j hj => by simp [upd2, hj])
    have e : D.bl (upd2 R a b a b) = D.bl true := by simp [upd2]
    simp only [e] at this
    unfold rowD
    rw [setItem_nat (by simpa using hb), this]
  have h2 := mat_set (n := s) (k := a) (f := fun x => rowD s (R x)) (g := fun x => rowD s (upd2 R a b x)) (fun j hj => by
    have : upd2 R a b j = R j := by funext y; simp [upd2, hj]
    rw [this])
  unfold matD
  simp [atPath, ha, h1]
  exact h2
/-- told[a][b] = True -/
theorem set_cell {S : Sem} {i x y s a b : Nat} {R : Nat → Nat → Bool} {ρ : SL.Env} {ex ey : Ex} (h : ρ[i]? = some (some (matD s R))) (hx : evalE S false ex ρ = .ok (.val (.int a)) ρ) (hy : evalE S false ey ρ = .ok (.val (.int b)) ρ) (ha : a < s) (hb : b < s) :
    evalS S false (.sset i [ex, ey] (.bl true)) ρ = some (.nx, ρ.set i (some (matD s (upd2 R a b)))) := by
  simp [okL_mat0 h, okL_mat h ha, okAt_mat h ha hb, hx, hy, h, at_mat ha hb]
theorem mat_congr {s : Nat} {R R' : Nat → Nat → Bool} (h : ∀ x, x < s → ∀ y, y < s → R x y = R' x y) : matD s R = matD s R' := by
  unfold matD rowD
  congr 1
  apply List.map_congr_left
  intro x hx
  congr 1
  apply List.map_congr_left
  intro y hy
  rw [h x (List.mem_range.mp hx) y (List.mem_range.mp hy)]
theorem upd2_iff {R : Nat → Nat → Bool} {a b x y : Nat} : upd2 R a b x y = true ↔ (x = a ∧ y = b) ∨ R x y = true := by
  unfold upd2
  split
  · rename_i h; simp [h]
  · rename_i h; simp [h]
/-- the law's start: what a loop's turn has set -/
theorem told1 {n s : Nat} {z u4 u5 u6 u7 u8 : Option D} : ∃ r, forL (fun _ => true) (Tg.nm 2) (evalSs (semN P n) false b33_1) ((List.range s).map fun (k : Nat) => D.int k) [some (.int s), z, none, some (matD s fun _ _ => false), u4, u5, u6, u7, u8] = some r ∧ ∃ v, r = (.nx, [some (.int s), z, v, some (matD s fun x y => x == y), u4, u5, u6, u7, u8]) := by
  refine forL_inv (fun k ρ => ∃ (v : Option D) (R : Nat → Nat → Bool), ρ = [some (.int s), z, v, some (matD s R), u4, u5, u6, u7, u8] ∧ ∀ x y, R x y = true ↔ (x = y ∧ x < k)) _ (n := 0) ?_ ?_ ⟨none, _, rfl, by simp⟩
  · rintro k d ρ hd ⟨v, R, rfl, hR⟩
    obtain ⟨hk, rfl⟩ := range_get hd
    rw [Nat.zero_add] at hR ⊢
    refine ⟨rfl, _, rfl, fun N Q' hN hQ => ?_⟩
    have hn : N [some (.int s), z, some (.int k), some (matD s (upd2 R k k)), u4, u5, u6, u7, u8] := hN _ ⟨_, _, rfl, fun x y => by rw [upd2_iff, hR]; omega⟩
    have hs := set_cell (S := semN P n) (i := 3) (x := 0) (y := 0) (s := s) (a := k) (b := k) (R := R) (ρ := [some (.int s), z, some (.int k), some (matD s R), u4, u5, u6, u7, u8]) (ex := .var 2) (ey := .var 2) rfl (by simp) (by simp) hk hk
    have e : [some (D.int s), z, v, some (matD s R), u4, u5, u6, u7, u8].set 2 (some (D.int k)) = [some (.int s), z, some (.int k), some (matD s R), u4, u5, u6, u7, u8] := rfl
    rw [e, b33_1, ss_cons, hs, sq_nx, ss_nil, wp_nx]
    exact hn
  · rintro ρ ⟨v, R, rfl, hR⟩
    refine ⟨rfl, v, ?_⟩
    rw [Nat.zero_add, List.length_map, List.length_range] at hR
    rw [mat_congr (R' := fun x y => x == y) fun x hx y hy => by rw [Bool.eq_iff_iff, hR]; simp [hx]]
theorem told2 {n s k a : Nat} {os : List Int} {R : Nat → Nat → Bool} {z u2 u6 u7 u8 : Option D} (hk : os[k]? = some (a : Int)) (ha : a < s) :
    ∃ r, forL (fun _ => true) (Tg.nm 6) (evalSs (semN P n) false b33_2) ((List.range s).map fun (k : Nat) => D.int k) [some (.int s), z, u2, some (matD s R), some (.lst false (os.map D.int)), some (.int k), u6, u7, u8] = some r ∧ ∃ (v : Option D) (R' : Nat → Nat → Bool), r = (.nx, [some (.int s), z, u2, some (matD s R'), some (.lst false (os.map D.int)), some (.int k), v, u7, u8]) ∧ ∀ x y, y < s → (R' x y = true ↔ R x y = true ∨ (x = a ∧ ¬ (y : Int) ∈ os.take k)) := by
  have hkl : k < os.length := (List.getElem?_eq_some_iff.mp hk).1
  have hke : os[k] = (a : Int) := (List.getElem?_eq_some_iff.mp hk).2
  refine forL_inv (fun j ρ => ∃ (v : Option D) (R' : Nat → Nat → Bool), ρ = [some (.int s), z, u2, some (matD s R'), some (.lst false (os.map D.int)), some (.int k), v, u7, u8] ∧ ∀ x y, R' x y = true ↔ R x y = true ∨ (x = a ∧ y < j ∧ ¬ (y : Int) ∈ os.take k)) _ (n := 0) ?_ ?_ ⟨u6, R, rfl, by simp⟩
  · rintro j d ρ hd ⟨v, R', rfl, hR⟩
    obtain ⟨hj, rfl⟩ := range_get hd
    rw [Nat.zero_add] at hR ⊢
    refine ⟨rfl, _, rfl, fun N Q' hN hQ => ?_⟩
    have e : [some (D.int s), z, u2, some (matD s R'), some (.lst false (os.map D.int)), some (.int k), v, u7, u8].set 6 (some (D.int j)) = [some (.int s), z, u2, some (matD s R'), some (.lst false (os.map D.int)), some (.int k), some (.int j), u7, u8] := rfl
    rw [e]
    by_cases h : (j : Int) ∈ os.take k
    · have hn : N [some (.int s), z, u2, some (matD s R'), some (.lst false (os.map D.int)), some (.int k), some (.int j), u7, u8] := hN _ ⟨_, _, rfl, fun x y => by
        rw [hR]
        refine or_congr Iff.rfl (and_congr Iff.rfl ⟨fun q => ⟨by omega, q.2⟩, fun q => ⟨?_, q.2⟩⟩)
        have : y ≠ j := fun z => q.2 (z ▸ h)
        omega⟩
      have hb : (os.take k).any (fun x => x == (j : Int)) = true := by simpa using h
      simp [b33_2, cutT, hb]
      exact hn
    · have hn : N [some (.int s), z, u2, some (matD s (upd2 R' a j)), some (.lst false (os.map D.int)), some (.int k), some (.int j), u7, u8] := hN _ ⟨_, _, rfl, fun x y => by
        rw [upd2_iff, hR]
        constructor
        · rintro (⟨rfl, rfl⟩ | q | ⟨q1, q2, q3⟩)
          · exact .inr ⟨rfl, by omega, h⟩
          · exact .inl q
          · exact .inr ⟨q1, by omega, q3⟩
        · rintro (q | ⟨q1, q2, q3⟩)
          · exact .inr (.inl q)
          · by_cases w : y = j
            · exact .inl ⟨q1, w⟩
            · exact .inr (.inr ⟨q1, by omega, q3⟩)⟩
      have hb : (os.take k).any (fun x => x == (j : Int)) = false := by
        rw [List.any_eq_false]
        intro x hx q
        rw [beq_iff_eq] at q
        exact h (q ▸ hx)
      have hs := set_cell (S := semN P n) (i := 3) (x := 0) (y := 0) (s := s) (a := a) (b := j) (R := R') (ρ := [some (.int s), z, u2, some (matD s R'), some (.lst false (os.map D.int)), some (.int k), some (.int j), u7, u8]) (ex := .idx (.var 4) (.var 5)) (ey := .var 6) rfl (by simp [hkl, hke]) (by simp) ha hj
      have e2 : [some (D.int s), z, u2, some (matD s R'), some (.lst false (os.map D.int)), some (.int k), some (.int j), u7, u8].set 3 (some (matD s (upd2 R' a j))) = [some (.int s), z, u2, some (matD s (upd2 R' a j)), some (.lst false (os.map D.int)), some (.int k), some (.int j), u7, u8] := rfl
      rw [e2] at hs
      simp [b33_2, cutT, hb, ↓hs]
      exact hn
  · rintro ρ ⟨v, R', rfl, hR⟩
    refine ⟨rfl, v, R', rfl, fun x y hy => ?_⟩
    rw [Nat.zero_add, List.length_map, List.length_range] at hR
    rw [hR]
    exact or_congr Iff.rfl (and_congr Iff.rfl ⟨fun q => q.2, fun q => ⟨hy, q⟩⟩)
theorem told3 {n s : Nat} {os : List Int} {R : Nat → Nat → Bool} {z u2 u6 u7 u8 : Option D} (hl : os.length ≤ 1000) (ho : ∀ x ∈ os, 0 ≤ x ∧ x < s) (hs1 : Sm s) :
    ∃ r, forL (fun _ => true) (Tg.nm 5) (evalSs (semN P n) false b33_3) ((List.range os.length).map fun (k : Nat) => D.int k) [some (.int s), z, u2, some (matD s R), some (.lst false (os.map D.int)), none, u6, u7, u8] = some r ∧ ∃ (v w : Option D) (R' : Nat → Nat → Bool), r = (.nx, [some (.int s), z, u2, some (matD s R'), some (.lst false (os.map D.int)), v, w, u7, u8]) ∧ ∀ x y, y < s → (R' x y = true ↔ R x y = true ∨ ∃ k, os[k]? = some (x : Int) ∧ ¬ (y : Int) ∈ os.take k) := by
  refine forL_inv (fun j ρ => ∃ (v w : Option D) (R' : Nat → Nat → Bool), ρ = [some (.int s), z, u2, some (matD s R'), some (.lst false (os.map D.int)), v, w, u7, u8] ∧ ∀ x y, y < s → (R' x y = true ↔ R x y = true ∨ ∃ k, k < j ∧ os[k]? = some (x : Int) ∧ ¬ (y : Int) ∈ os.take k)) _ (n := 0) ?_ ?_ ⟨none, u6, R, rfl, by simp⟩
  · rintro j d ρ hd ⟨v, w, R', rfl, hR⟩
    obtain ⟨hj, rfl⟩ := range_get hd
    rw [Nat.zero_add] at hR ⊢
    have hg0 := List.getElem?_eq_getElem hj
    have hx := ho _ (List.getElem_mem hj)
    generalize hg : os[j] = x0 at hg0 hx
    obtain ⟨a, rfl⟩ := Int.eq_ofNat_of_zero_le hx.1
    have ha : a < s := by omega
    obtain ⟨r, hr, v', R'', rfl, hR'⟩ := told2 (n := n) (s := s) (R := R') (z := z) (u2 := u2) (u6 := w) (u7 := u7) (u8 := u8) hg0 ha
    refine ⟨rfl, _, rfl, fun N Q' hN hQ => ?_⟩
    have hn : N [some (.int s), z, u2, some (matD s R''), some (.lst false (os.map D.int)), some (.int j), v', u7, u8] := hN _ ⟨_, _, _, rfl, fun x y hy => by
      rw [hR' x y hy, hR x y hy]
      constructor
      · rintro ((q | ⟨k, q1, q2⟩) | ⟨rfl, q⟩)
        · exact .inl q
        · exact .inr ⟨k, by omega, q2⟩
        · exact .inr ⟨j, by omega, hg0, q⟩
      · rintro (q | ⟨k, q1, q2, q3⟩)
        · exact .inl (.inl q)
        · by_cases w : k = j
          · subst w
            rw [hg0] at q2
            cases q2
            exact .inr ⟨rfl, q3⟩
          · exact .inl (.inr ⟨k, by omega, q2, q3⟩)⟩
    have e : [some (D.int s), z, u2, some (matD s R'), some (.lst false (os.map D.int)), v, w, u7, u8].set 5 (some (D.int j)) = [some (.int s), z, u2, some (matD s R'), some (.lst false (os.map D.int)), some (.int j), w, u7, u8] := rfl
    rw [e]
    simp [b33_3, hs1, hr]
    exact hn
  · rintro ρ ⟨v, w, R', rfl, hR⟩
    refine ⟨rfl, v, w, R', rfl, fun x y hy => ?_⟩
    rw [Nat.zero_add, List.length_map, List.length_range] at hR
    rw [hR x y hy]
    exact or_congr Iff.rfl ⟨fun ⟨k, _, q⟩ => ⟨k, q⟩, fun ⟨k, q⟩ => ⟨k, (List.getElem?_eq_some_iff.mp q.1).1, q⟩⟩
/-- words -/
theorem told4 {n s : Nat} {ws : List (Int × Int)} {R : Nat → Nat → Bool} {z u2 u4 u5 u6 u8 : Option D} (ho : ∀ p ∈ ws, (0 ≤ p.1 ∧ p.1 < s) ∧ 0 ≤ p.2 ∧ p.2 < s) :
    ∃ r, forL (fun _ => true) (Tg.nm 7) (evalSs (semN P n) false b33_4) (ws.map pairL) [some (.int s), z, u2, some (matD s R), u4, u5, u6, none, u8] = some r ∧ ∃ (v : Option D) (R' : Nat → Nat → Bool), r = (.nx, [some (.int s), z, u2, some (matD s R'), u4, u5, u6, v, u8]) ∧ ∀ x y : Nat, (R' x y = true ↔ R x y = true ∨ ((x : Int), (y : Int)) ∈ ws) := by
  refine forL_inv (fun j ρ => ∃ (v : Option D) (R' : Nat → Nat → Bool), ρ = [some (.int s), z, u2, some (matD s R'), u4, u5, u6, v, u8] ∧ ∀ x y : Nat, (R' x y = true ↔ R x y = true ∨ ((x : Int), (y : Int)) ∈ ws.take j)) _ (n := 0) ?_ ?_ ⟨none, R, rfl, by simp⟩
  · rintro j d ρ hd ⟨v, R', rfl, hR⟩
    obtain ⟨hj, rfl⟩ := map_get hd
    rw [Nat.zero_add] at hR ⊢
    have hg0 := List.getElem?_eq_getElem hj
    have hx := ho _ (List.getElem_mem hj)
    generalize hg : ws[j] = p at hg0 hx
    obtain ⟨p1, p2⟩ := p
    obtain ⟨a, rfl⟩ := Int.eq_ofNat_of_zero_le hx.1.1
    obtain ⟨b, rfl⟩ := Int.eq_ofNat_of_zero_le hx.2.1
    have ha : a < s := by have := hx.1.2; simp at this; omega
    have hb : b < s := by have := hx.2.2; simp at this; omega
    refine ⟨rfl, _, rfl, fun N Q' hN hQ => ?_⟩
    have hn : N [some (.int s), z, u2, some (matD s (upd2 R' a b)), u4, u5, u6, some (pairL ((a : Int), (b : Int))), u8] := hN _ ⟨_, _, rfl, fun x y => by
      rw [upd2_iff, hR, List.take_add_one, hg0]
      simp
      constructor
      · rintro (⟨rfl, rfl⟩ | q | q)
        · exact .inr (.inr ⟨rfl, rfl⟩)
        · exact .inl q
        · exact .inr (.inl q)
      · rintro (q | q | ⟨q1, q2⟩)
        · exact .inr (.inl q)
        · exact .inr (.inr q)
        · exact .inl ⟨by omega, by omega⟩⟩
    have hs := set_cell (S := semN P n) (i := 3) (x := 0) (y := 0) (s := s) (a := a) (b := b) (R := R') (ρ := [some (.int s), z, u2, some (matD s R'), u4, u5, u6, some (pairL ((a : Int), (b : Int))), u8]) (ex := .idx (.var 7) (.int 0)) (ey := .idx (.var 7) (.int 1)) rfl (by simp [pairL]) (by simp [pairL]) ha hb
    have e : [some (D.int s), z, u2, some (matD s R'), u4, u5, u6, v, u8].set 7 (some (pairL ((a : Int), (b : Int)))) = [some (.int s), z, u2, some (matD s R'), u4, u5, u6, some (pairL ((a : Int), (b : Int))), u8] := rfl
    rw [e, b33_4, ss_cons, hs, sq_nx, ss_nil, wp_nx]
    exact hn
  · rintro ρ ⟨v, R', rfl, hR⟩
    refine ⟨rfl, v, R', rfl, fun x y => ?_⟩
    rw [Nat.zero_add, List.length_map, List.take_length] at hR
    exact hR x y
theorem get_cell {S : Sem} {i s a b : Nat} {R : Nat → Nat → Bool} {ρ : SL.Env} {ex ey : Ex} (h : ρ[i]? = some (some (matD s R))) (hx : evalE S false ex ρ = .ok (.val (.int a)) ρ) (hy : evalE S false ey ρ = .ok (.val (.int b)) ρ) (ha : a < s) (hb : b < s) :
    evalE S false (.idx (.idx (.var i) ex) ey) ρ = .ok (.val (.bl (R a b))) ρ := by
  unfold matD at h
  simp [h, hx, hy, frzL_mapG, ha, hb, rowD]
theorem told5 {n s a m : Nat} {R : Nat → Nat → Bool} {z u4 u5 u6 u7 : Option D} (ha : a < s) (hm : m < s) :
    ∃ r, forL (fun _ => true) (Tg.nm 6) (evalSs (semN P n) false b33_5) ((List.range s).map fun (k : Nat) => D.int k) [some (.int s), z, some (.int a), some (matD s fun x y => if x < a then stepW m R x y else R x y), u4, u5, u6, u7, some (.int m)] = some r ∧ ∃ v : Option D, r = (.nx, [some (.int s), z, some (.int a), some (matD s fun x y => if x < a + 1 then stepW m R x y else R x y), u4, u5, v, u7, some (.int m)]) := by
  refine forL_inv (fun j ρ => ∃ (v : Option D) (T : Nat → Nat → Bool), ρ = [some (.int s), z, some (.int a), some (matD s T), u4, u5, v, u7, some (.int m)] ∧ ∀ x y, T x y = if x < a ∨ (x = a ∧ y < j) then stepW m R x y else R x y) _ (n := 0) ?_ ?_ ⟨u6, _, rfl, by simp⟩
  · rintro j d ρ hd ⟨v, T, rfl, hT⟩
    obtain ⟨hj, rfl⟩ := range_get hd
    rw [Nat.zero_add] at hT ⊢
    have c1 : T a m = R a m := by
      rw [hT]
      split
      · unfold stepW; cases R a m <;> simp
      · rfl
    have c2 : T m j = R m j := by
      rw [hT]
      split
      · exact stepW_mid
      · rfl
    refine ⟨rfl, _, rfl, fun N Q' hN hQ => ?_⟩
    have e : [some (D.int s), z, some (.int a), some (matD s T), u4, u5, v, u7, some (.int m)].set 6 (some (D.int j)) = [some (.int s), z, some (.int a), some (matD s T), u4, u5, some (.int j), u7, some (.int m)] := rfl
    rw [e]
    have g1 := get_cell (S := semN P n) (i := 3) (s := s) (a := a) (b := m) (R := T) (ρ := [some (.int s), z, some (.int a), some (matD s T), u4, u5, some (.int j), u7, some (.int m)]) (ex := .var 2) (ey := .var 8) rfl (by simp) (by simp) ha hm
    have g2 := get_cell (S := semN P n) (i := 3) (s := s) (a := m) (b := j) (R := T) (ρ := [some (.int s), z, some (.int a), some (matD s T), u4, u5, some (.int j), u7, some (.int m)]) (ex := .var 8) (ey := .var 6) rfl (by simp) (by simp) hm hj
    rw [c1] at g1
    rw [c2] at g2
    have hs := set_cell (S := semN P n) (i := 3) (x := 0) (y := 0) (s := s) (a := a) (b := j) (R := T) (ρ := [some (.int s), z, some (.int a), some (matD s T), u4, u5, some (.int j), u7, some (.int m)]) (ex := .var 2) (ey := .var 6) rfl (by simp) (by simp) ha hj
    have e2 : [some (D.int s), z, some (.int a), some (matD s T), u4, u5, some (.int j), u7, some (.int m)].set 3 (some (matD s (upd2 T a j))) = [some (.int s), z, some (.int a), some (matD s (upd2 T a j)), u4, u5, some (.int j), u7, some (.int m)] := rfl
    rw [e2] at hs
    have stay : (R a m && R m j) = false → N [some (.int s), z, some (.int a), some (matD s T), u4, u5, some (.int j), u7, some (.int m)] := fun h => hN _ ⟨_, _, rfl, fun x y => by
      rw [hT]
      by_cases w : x = a ∧ y = j
      · obtain ⟨rfl, rfl⟩ := w
        rw [if_neg (by omega), if_pos (by omega)]
        unfold stepW
        rw [h]; simp
      · by_cases w2 : x < a ∨ (x = a ∧ y < j)
        · rw [if_pos w2, if_pos (by omega)]
        · rw [if_neg w2, if_neg (by omega)]⟩
    cases b1 : R a m with
    | false =>
      have hn := stay (by rw [b1]; rfl)
      rw [b1] at g1
      simp [b33_5, ↓g1]
      exact hn
    | true =>
      rw [b1] at g1
      cases b2 : R m j with
      | false =>
        have hn := stay (by rw [b2]; simp)
        rw [b2] at g2
        simp [b33_5, ↓g1, ↓g2]
        exact hn
      | true =>
        rw [b2] at g2
        have hn : N [some (.int s), z, some (.int a), some (matD s (upd2 T a j)), u4, u5, some (.int j), u7, some (.int m)] := hN _ ⟨_, _, rfl, fun x y => by
          unfold upd2
          by_cases w : x = a ∧ y = j
          · obtain ⟨rfl, rfl⟩ := w
            rw [if_pos ⟨rfl, rfl⟩, if_pos (by omega)]
            unfold stepW
            rw [b1, b2]; simp
          · rw [if_neg w, hT]
            by_cases w2 : x < a ∨ (x = a ∧ y < j)
            · rw [if_pos w2, if_pos (by omega)]
            · rw [if_neg w2, if_neg (by omega)]⟩
        simp [b33_5, ↓g1, ↓g2, ↓hs]
        exact hn
  · rintro ρ ⟨v, T, rfl, hT⟩
    refine ⟨rfl, v, ?_⟩
    rw [Nat.zero_add, List.length_map, List.length_range] at hT
    rw [mat_congr (R' := fun x y => if x < a + 1 then stepW m R x y else R x y) fun x hx y hy => by
      rw [hT]
      by_cases w : x < a + 1
      · rw [if_pos w, if_pos (by omega)]
      · rw [if_neg w, if_neg (by omega)]]
theorem told6 {n s m : Nat} {R : Nat → Nat → Bool} {z u2 u4 u5 u6 u7 : Option D} (hz : Sm s) (hm : m < s) :
    ∃ r, forL (fun _ => true) (Tg.nm 2) (evalSs (semN P n) false b33_6) ((List.range s).map fun (k : Nat) => D.int k) [some (.int s), z, u2, some (matD s R), u4, u5, u6, u7, some (.int m)] = some r ∧ ∃ v w : Option D, r = (.nx, [some (.int s), z, v, some (matD s (stepW m R)), u4, u5, w, u7, some (.int m)]) := by
  refine forL_inv (fun j ρ => ∃ (v w : Option D), ρ = [some (.int s), z, v, some (matD s fun x y => if x < j then stepW m R x y else R x y), u4, u5, w, u7, some (.int m)]) _ (n := 0) ?_ ?_ ⟨u2, u6, by simp⟩
  · rintro j d ρ hd ⟨v, w, rfl⟩
    obtain ⟨hj, rfl⟩ := range_get hd
    rw [Nat.zero_add]
    obtain ⟨r, hr, v', rfl⟩ := told5 (n := n) (R := R) (z := z) (u4 := u4) (u5 := u5) (u6 := w) (u7 := u7) hj hm
    refine ⟨rfl, _, rfl, fun N Q' hN hQ => ?_⟩
    have hn : N [some (.int s), z, some (.int j), some (matD s fun x y => if x < j + 1 then stepW m R x y else R x y), u4, u5, v', u7, some (.int m)] := hN _ ⟨_, _, rfl⟩
    generalize (matD s fun x y => if x < j then stepW m R x y else R x y) = M at hr ⊢
    generalize (matD s fun x y => if x < j + 1 then stepW m R x y else R x y) = M' at hr hn
    simp [b33_6, hz, hr]
    exact hn
  · rintro ρ ⟨v, w, rfl⟩
    refine ⟨rfl, v, w, ?_⟩
    rw [Nat.zero_add, List.length_map, List.length_range]
    rw [mat_congr (R' := stepW m R) fun x hx y hy => by rw [if_pos hx]]
theorem told7 {n s : Nat} {R : Nat → Nat → Bool} {z u2 u4 u5 u6 u7 : Option D} (hz : Sm s) :
    ∃ r, forL (fun _ => true) (Tg.nm 8) (evalSs (semN P n) false b33_7) ((List.range s).map fun (k : Nat) => D.int k) [some (.int s), z, u2, some (matD s R), u4, u5, u6, u7, none] = some r ∧ ∃ v w x : Option D, r = (.nx, [some (.int s), z, v, some (matD s (warsh R s)), u4, u5, w, u7, x]) := by
  refine forL_inv (fun j ρ => ∃ (v w x : Option D), ρ = [some (.int s), z, v, some (matD s (warsh R j)), u4, u5, w, u7, x]) _ (n := 0) ?_ ?_ ⟨u2, u6, none, by rw [warsh]⟩
  · rintro j d ρ hd ⟨v, w, x, rfl⟩
    obtain ⟨hj, rfl⟩ := range_get hd
    rw [Nat.zero_add]
    have hw : warsh R (j + 1) = stepW j (warsh R j) := by rw [warsh]
    rw [hw]
    generalize warsh R j = Rj
    obtain ⟨r, hr, v', w', rfl⟩ := told6 (n := n) (R := Rj) (z := z) (u2 := v) (u4 := u4) (u5 := u5) (u6 := w) (u7 := u7) hz hj
    refine ⟨rfl, _, rfl, fun N Q' hN hQ => ?_⟩
    have hn : N [some (.int s), z, v', some (matD s (stepW j Rj)), u4, u5, w', u7, some (.int j)] := hN _ ⟨_, _, _, rfl⟩
    generalize matD s Rj = M at hr ⊢
    generalize matD s (stepW j Rj) = M' at hr hn
    simp [b33_7, hz, hr]
    exact hn
  · rintro ρ ⟨v, w, x, rfl⟩
    rw [Nat.zero_add, List.length_map, List.length_range]
    generalize matD s (warsh R s) = M
    exact ⟨rfl, v, w, x, rfl⟩
theorem mem_take_idx {y : Int} : ∀ {os : List Int} {k : Nat}, y ∈ os.take k ↔ os.idxOf y < k ∧ y ∈ os
  | [], k => by simp
  | o :: os, 0 => by simp
  | o :: os, k + 1 => by
    rw [List.take_succ_cons, List.mem_cons, List.mem_cons, List.idxOf_cons, mem_take_idx]
    cases q : o == y with
    | true =>
      rw [beq_iff_eq] at q
      simp [q]
    | false =>
      have q' : ¬ y = o := fun z => by subst z; simp at q
      simp only [cond_false]
      constructor
      · rintro (z | ⟨z1, z2⟩)
        · exact absurd z q'
        · exact ⟨by omega, .inr z2⟩
      · rintro ⟨z1, z2 | z2⟩
        · exact absurd z2 q'
        · exact .inr ⟨by omega, z2⟩
theorem idx_get {x : Int} : ∀ {os : List Int}, x ∈ os → os[os.idxOf x]? = some x
  | o :: os, h => by
    rw [List.idxOf_cons]
    cases q : o == x with
    | true => rw [beq_iff_eq] at q; simp [q]
    | false =>
      have q' : ¬ x = o := fun z => by subst z; simp at q
      simp only [cond_false, List.getElem?_cons_succ]
      exact idx_get ((List.mem_cons.mp h).resolve_left q')
theorem idx_le {x : Int} {k : Nat} : ∀ {os : List Int}, os[k]? = some x → os.idxOf x ≤ k ∧ x ∈ os := fun {os} h => by
  have hm := List.mem_of_getElem? h
  refine ⟨?_, hm⟩
  have : x ∈ os.take (k + 1) := by rw [List.take_add_one, h]; simp
  have := (mem_take_idx.mp this).1
  omega
theorem order_iff {os : List Int} {x y : Int} (hxy : x ≠ y) : (∃ k, os[k]? = some x ∧ ¬ y ∈ os.take k) ↔ x ∈ os ∧ (¬ y ∈ os ∨ os.idxOf x < os.idxOf y) := by
  constructor
  · rintro ⟨k, h1, h2⟩
    obtain ⟨h3, h4⟩ := idx_le h1
    refine ⟨h4, ?_⟩
    by_cases hy : y ∈ os
    · right
      have h5 : ¬ os.idxOf y < k := fun z => h2 (mem_take_idx.mpr ⟨z, hy⟩)
      have h6 : os.idxOf x ≠ os.idxOf y := fun z => by
        have a := idx_get h4
        rw [z, idx_get hy] at a
        exact hxy (Option.some.inj a).symm
      omega
    · exact .inl hy
  · rintro ⟨h1, h2⟩
    refine ⟨os.idxOf x, idx_get h1, fun z => ?_⟩
    obtain ⟨z1, z2⟩ := mem_take_idx.mp z
    rcases h2 with h2 | h2
    · exact h2 z2
    · omega
theorem R0_iff {b : Bal} {x y : Nat} : R0 b x y = true ↔ (x = y ∨ ∃ k, b.os[k]? = some (x : Int) ∧ ¬ (y : Int) ∈ b.os.take k) ∨ ((x : Int), (y : Int)) ∈ b.ws := by
  by_cases h : x = y
  · subst h; simp [R0, direct]
  · have h' : (x : Int) ≠ (y : Int) := by omega
    rw [order_iff h']
    unfold R0 direct
    have e1 : ((x : Int) == (y : Int)) = false := by rw [beq_eq_false_iff_ne]; exact h'
    have e2 : ∀ a : Int, (b.os.any fun z => z == a) = true ↔ a ∈ b.os := fun a => by simp
    have e3 : (b.ws.any fun p => p == ((x : Int), (y : Int))) = true ↔ ((x : Int), (y : Int)) ∈ b.ws := by simp
    rw [e1, Bool.false_or, Bool.or_eq_true, Bool.and_eq_true, Bool.or_eq_true, Bool.not_eq_true', e3, e2, decide_eq_true_eq, ← Bool.not_eq_true, e2]
    constructor
    · rintro (q | q)
      · exact .inr q
      · exact .inl (.inr q)
    · rintro ((q | q) | q)
      · exact absurd q h
      · exact .inr q
      · exact .inl q
theorem warsh_congr {s : Nat} {R R' : Nat → Nat → Bool} (h : ∀ x, x < s → ∀ y, y < s → R x y = R' x y) : ∀ m, m ≤ s → ∀ x, x < s → ∀ y, y < s → warsh R m x y = warsh R' m x y
  | 0, _ => by rw [warsh, warsh]; exact h
  | m + 1, hm => fun x hx y hy => by
    have ih := warsh_congr h m (by omega)
    rw [warsh, warsh]
    unfold stepW
    rw [ih x hx y hy, ih x hx m (by omega), ih m (by omega) y hy]
/-- a ballot whose numbers stand for options -/
structure BalS (s : Nat) (b : Bal) : Prop where
  ol : b.os.length ≤ 1000
  oi : ∀ x ∈ b.os, 0 ≤ x ∧ x < s
  wi : ∀ p ∈ b.ws, (0 ≤ p.1 ∧ p.1 < s) ∧ 0 ≤ p.2 ∧ p.2 < s
theorem fLawTold {n s : Nat} {b : Bal} (hs : s ≤ 1000) (hb : BalS s b) : (semN P (n + 1)).fn false 33 [.int s, lawD b] = some (.ret (matD s (warsh (R0 b) s))) := by
  rw [fn_at (fd := b33) rfl rfl]
  obtain ⟨h1, h2, h3⟩ := hb
  have hz : Sm s := sm_of (by omega)
  have hz2 : Sm b.os.length := sm_of (by omega)
  have hs2 : s ≤ sizeLine := le_slz' (by omega)
  have rep : (List.replicate s [D.bl false]).flatten = (List.range s).map fun (_ : Nat) => D.bl false := by
    rw [List.flatten_replicate_singleton, List.map_const', List.length_range]
  have e1 : ∀ p : Option D, compL [2] (Tg.nm 2) (evalC (semN P n) false []) (evalE (semN P n) false (.bin .mul (.lst [.bl false]) (.var 0))) ((List.range s).map fun (k : Nat) => D.int k) [] [some (.int s), p, none, none, none, none, none, none, none] = .ok ([] ++ (List.range s).map fun (a : Nat) => rowD s fun _ => false) [some (.int s), p, none, none, none, none, none, none, none] := fun p =>
    compL_map _ _ (fun a _ => ⟨_, rfl, by
      have hk : -9000000000000000000 ≤ (s : Int) ∧ (s : Int) ≤ 9000000000000000000 := by omega
      have hmul : ∀ ρ, binR .mul (.val (.lst true [.bl false])) (.val (.int (s : Int))) ρ = .ok (.val (.lst true ((List.range s).map fun (_ : Nat) => D.bl false))) ρ := fun ρ =>
        (binR_mulv (o := true) hk (by simp; omega)).trans (by simp [rep])
      simp [hmul, rowD]⟩) (by simpa using hs2)
  obtain ⟨r, hr1, v1, rfl⟩ := told1 (n := n) (s := s) (z := some (lawD b)) (u4 := none) (u5 := none) (u6 := none) (u7 := none) (u8 := none)
  obtain ⟨r, hr3, v3, w3, R3, rfl, hR3⟩ := told3 (n := n) (s := s) (R := fun x y => x == y) (z := some (lawD b)) (u2 := v1) (u6 := none) (u7 := none) (u8 := none) h1 h2 hz
  obtain ⟨r, hr4, v4, R4, rfl, hR4⟩ := told4 (n := n) (s := s) (R := R3) (z := some (lawD b)) (u2 := v1) (u4 := some (.lst false (b.os.map D.int))) (u5 := v3) (u6 := w3) (u8 := none) h3
  obtain ⟨r, hr7, v7, w7, x7, rfl⟩ := told7 (n := n) (s := s) (R := R4) (z := some (lawD b)) (u2 := v1) (u4 := some (.lst false (b.os.map D.int))) (u5 := v3) (u6 := w3) (u7 := v4) hz
  have hW : matD s (warsh R4 s) = matD s (warsh (R0 b) s) := mat_congr (warsh_congr (fun x hx y hy => by
    rw [Bool.eq_iff_iff, hR4, hR3 x y hy, R0_iff, beq_iff_eq]) s (Nat.le_refl s))
  rw [← hW]
  have hmat : D.lst true ((List.range s).map fun (a : Nat) => rowD s fun _ => false) = matD s fun _ _ => false := rfl
  have hfz : ∀ R, (matD s R).noX = true := fun R => by simp [matD, rowD]
  generalize matD s (warsh R4 s) = M7 at hr7 ⊢
  generalize matD s R4 = M4 at hr4 hr7
  generalize matD s R3 = M3 at hr3 hr4
  generalize (matD s fun x y => x == y) = M1 at hr1 hr3
  unfold lawD at hr1 hr3 hr4 hr7 ⊢
  generalize b.ws.map pairL = dw at hr1 hr3 hr4 hr7 ⊢
  simp [b33, hz, hz2, e1, hmat, hr1, hr3, hr4, hr7]
/-! ### _law_cell, _law_digits, _law_order -/
theorem fLawCell {n : Nat} (ns : List Int) (k : Int) (hk : 0 ≤ k) (hk2 : k < 1000) : ∃ c, (semN P (n + 1)).fn false 26 [.scr ns, .int k] = some (.ret (.int c)) := by
  rw [fn_run (fd := b26) rfl]; exact cell_ok ns k hk hk2
theorem fLawDigits {n : Nat} {c : Int} {ss : List Int} (hs : Szs ss) : ∃ row, (semN P (n + 1)).fn false 27 [.int c, .lst false (ss.map D.int)] = some (.ret (.lst true (row.map D.int))) ∧ Dig row ss := by
  rw [fn_run (fd := b27) rfl]; exact dig_ok hs
theorem erase_map {α β : Type} {f : α → β} {l : List α} {j : Nat} : (l.map f).eraseIdx j = (l.eraseIdx j).map f := by
  simp [List.eraseIdx_eq_take_drop_succ, List.map_take, List.map_drop]
theorem erase_perm : ∀ {l : List Int} {j : Nat} (h : j < l.length), (l[j] :: l.eraseIdx j).Perm l
  | a :: l, 0, _ => List.Perm.refl _
  | a :: l, j + 1, h => by
    have ih := erase_perm (l := l) (j := j) (by simpa using h)
    simp only [List.getElem_cons_succ, List.eraseIdx_cons_succ]
    exact (List.Perm.swap _ _ _).trans (ih.cons a)
/-- all options, in some order -/
def OrdOk (s : Nat) (os : List Int) : Prop := os.Perm ((List.range s).map fun (k : Nat) => (k : Int))
theorem fLawOrder {n s : Nat} {row : List Int} (hs : s ≤ 1000) (hr : s ≤ row.length) : ∃ os, (semN P (n + 1)).fn false 28 [.lst false (row.map D.int), .int s] = some (.ret (.lst true (os.map D.int))) ∧ OrdOk s os := by
  rw [fn_at (fd := b28) rfl rfl]
  have hz : Sm s := sm_of (by omega)
  have hs2 : s ≤ sizeLine := le_slz' (by omega)
  have e : ∀ p : Option D, compL [2] (Tg.nm 2) (evalC (semN P n) false []) (evalE (semN P n) false (.var 2)) ((List.range s).map fun (k : Nat) => D.int k) [] [p, some (.int s), none, none, none] = .ok ([] ++ (List.range s).map fun (a : Nat) => D.int a) [p, some (.int s), none, none, none] := fun p =>
    compL_map _ _ (fun a _ => ⟨_, rfl, by simp⟩) (by simpa using hs2)
  have lp : ∃ r, forL (fun _ => true) (Tg.nm 2) (evalSs (semN P n) false b28_1) ((List.range s).map fun (k : Nat) => D.int k) [some (.lst false (row.map D.int)), some (.int s), none, some (.lst true (((List.range s).map fun (k : Nat) => (k : Int)).map D.int)), some (.lst true [])] = some r ∧ ∃ (u v : Option D) (os : List Int), r = (.nx, [some (.lst false (row.map D.int)), some (.int s), u, v, some (.lst true (os.map D.int))]) ∧ OrdOk s os := by
    refine forL_inv (fun k ρ => ∃ (u : Option D) (left os : List Int), ρ = [some (.lst false (row.map D.int)), some (.int s), u, some (.lst true (left.map D.int)), some (.lst true (os.map D.int))] ∧ OrdOk s (os ++ left) ∧ os.length = k) _ (n := 0) ?_ ?_ ⟨none, _, [], rfl, List.Perm.refl _, rfl⟩
    · rintro k d ρ hd ⟨u, left, os, rfl, hp, hl⟩
      obtain ⟨hk, rfl⟩ := range_get hd
      rw [Nat.zero_add] at hl ⊢
      have hlen := hp.length_eq
      simp at hlen
      have hkr : k < row.length := by omega
      have hpos : 0 < (left.length : Int) := by omega
      have q1 := Int.emod_nonneg row[k] (show (left.length : Int) ≠ 0 by omega)
      have q2 := Int.emod_lt_of_pos row[k] hpos
      generalize hq : row[k] % (left.length : Int) = q at q1 q2
      obtain ⟨j, rfl⟩ := Int.eq_ofNat_of_zero_le q1
      have hj : j < left.length := by omega
      have hj2 : (j : Int) < 1000000 := by omega
      have hmk : os.length < sizeLine := by rw [slz]; omega
      refine ⟨rfl, _, rfl, fun N Q' hN hQ => ?_⟩
      have hn : N [some (.lst false (row.map D.int)), some (.int s), some (.int k), some (.lst true ((left.eraseIdx j).map D.int)), some (.lst true ((os ++ [left[j]]).map D.int))] := hN _ ⟨_, _, _, rfl, by
        unfold OrdOk at hp ⊢
        refine List.Perm.trans ?_ hp
        rw [List.append_assoc]
        exact List.Perm.append_left os (erase_perm hj), by simp; omega⟩
      have hmod : binI .mod row[k] (left.length : Int) = some (j : Int) := by rw [binI_mod hpos, hq]
      have hpop : popItem (j : Int) (.lst true (left.map D.int)) = some (.int left[j], .lst true ((left.eraseIdx j).map D.int)) := by
        have hc : 0 ≤ (j : Int) ∧ (j : Int) < (left.map D.int).length ∧ (j : Int) < 1000000 := by rw [List.length_map]; omega
        unfold popItem
        simp only []
        rw [if_pos hc]
        simp [hj, erase_map]
      generalize left.eraseIdx j = le at hn hpop
      simp [b28_1, hkr, hmod, hpop, hmk]
      simpa using hn
    · rintro ρ ⟨u, left, os, rfl, hp, hl⟩
      rw [Nat.zero_add, List.length_map, List.length_range] at hl
      have hlen := hp.length_eq
      simp at hlen
      have : left = [] := List.length_eq_zero_iff.mp (by omega)
      subst this
      rw [List.append_nil] at hp
      exact ⟨rfl, u, _, os, rfl, hp⟩
  obtain ⟨r, hr, u, v, os, rfl, ho⟩ := lp
  refine ⟨os, ?_, ho⟩
  have hc : ((List.range s).map fun (k : Nat) => (k : Int)).map D.int = (List.range s).map fun (k : Nat) => D.int k := by rw [List.map_map]; rfl
  rw [hc] at hr
  simp [b28, hz, e, hr]
end K85
set_option Elab.async false
set_option linter.all false
set_option maxRecDepth 100000
set_option maxHeartbeats 4000000
/-! K85G: the law's own ballots. Printed from D85b.src. -/
namespace K85
open PySem L2 SL
theorem dig_get : ∀ {row ss : List Int} {i : Nat} {s : Int}, Dig row ss → ss[i]? = some s → ∃ d : Nat, row[i]? = some (d : Int) ∧ (d : Int) < s
  | d :: ds, s :: ss, 0, s', h, e => by
    simp only [List.getElem?_cons_zero, Option.some.injEq] at e
    subst e
    obtain ⟨k, rfl⟩ := Int.eq_ofNat_of_zero_le h.1.1
    exact ⟨k, rfl, h.1.2⟩
  | d :: ds, s :: ss, i + 1, s', h, e => by
    simp only [List.getElem?_cons_succ] at e ⊢
    exact dig_get h.2 e
  | [], [], i, s', _, e => by simp at e
  | [], _ :: _, _, _, h, _ => h.elim
  | _ :: _, [], _, _, h, _ => h.elim
theorem OrdOk.facts {s : Nat} {os : List Int} (h : OrdOk s os) : (∀ x ∈ os, 0 ≤ x ∧ x < (s : Int)) ∧ os.Nodup := by
  unfold OrdOk at h
  refine ⟨fun x hx => ?_, ?_⟩
  · obtain ⟨k, hk, rfl⟩ := List.mem_map.mp (h.mem_iff.mp hx)
    have := List.mem_range.mp hk
    omega
  · rw [h.nodup_iff]
    exact nodup_map List.nodup_range fun a _ b _ e => by omega
theorem cutT2 {α : Type} {f : α → D} {l : List α} (h : 10 ≤ l.length) : cutD (l.map f) (some 2) (some 10) = ((l.drop 2).take 8).map f := by
  have e : cutD (l.map f) (some ((2 : Nat) : Int)) (some ((10 : Nat) : Int)) = ((l.drop 2).take 8).map f := by
    unfold cutD
    rw [HT.sIx_nat, HT.sIx_nat, List.length_map, Nat.min_eq_left (by omega), Nat.min_eq_left (by omega), List.map_take, List.map_drop]
  exact e
theorem mod_step {a o s : Int} (ha : 0 ≤ a ∧ a < s) (ho : 1 ≤ o ∧ o < s) : (a + o) % s ≠ a ∧ 0 ≤ (a + o) % s ∧ (a + o) % s < s := by
  have h1 := Int.emod_nonneg (a + o) (show s ≠ 0 by omega)
  have h2 := Int.emod_lt_of_pos (a + o) (show 0 < s by omega)
  refine ⟨?_, h1, h2⟩
  by_cases h : a + o < s
  · rw [Int.emod_eq_of_lt (by omega) h]; omega
  · have e : (a + o) % s = (a + o - s) % s := by rw [Int.sub_emod_right]
    rw [e, Int.emod_eq_of_lt (by omega) (by omega)]; omega
def balSz : List Int := [12, 16] ++ List.replicate 8 840 ++ [12, 4] ++ List.replicate 4 840
theorem balSz_ok : Szs balSz := ⟨by decide, by decide⟩
theorem bal_w {r : Nat} (h : r < 12) : ∃ w : Int, ([.int 1, .int 1, .int 1, .int 2, .int 1, .int 3, .int 1, .int 2, .int 5, .int 1, .int 4, .int 7] : List D)[r]? = some (.int w) ∧ 1 ≤ w ∧ w ≤ 999983 := by
  obtain rfl | rfl | rfl | rfl | rfl | rfl | rfl | rfl | rfl | rfl | rfl | rfl : r = 0 ∨ r = 1 ∨ r = 2 ∨ r = 3 ∨ r = 4 ∨ r = 5 ∨ r = 6 ∨ r = 7 ∨ r = 8 ∨ r = 9 ∨ r = 10 ∨ r = 11 := by omega
  all_goals exact ⟨_, rfl, by omega, by omega⟩
theorem bal_w4 {r : Nat} : ∃ w : Int, ([.int 60, .int 1000, .int 999983, .int 31] : List D)[r % 4]? = some (.int w) ∧ 1 ≤ w ∧ w ≤ 999983 := by
  obtain h | h | h | h : r % 4 = 0 ∨ r % 4 = 1 ∨ r % 4 = 2 ∨ r % 4 = 3 := by omega
  all_goals (rw [h]; exact ⟨_, rfl, by omega, by omega⟩)
theorem bal_k {r s : Nat} (h0 : r < 12) (h6 : ¬ r < 6) : ∃ w : Nat, ([.int 1, .int 2, .int 0, .int s, .int 1, .int 3] : List D)[r - 6]? = some (.int (w : Int)) := by
  obtain rfl | rfl | rfl | rfl | rfl | rfl : r = 6 ∨ r = 7 ∨ r = 8 ∨ r = 9 ∨ r = 10 ∨ r = 11 := by omega
  · exact ⟨1, rfl⟩
  · exact ⟨2, rfl⟩
  · exact ⟨0, rfl⟩
  · exact ⟨s, rfl⟩
  · exact ⟨1, rfl⟩
  · exact ⟨3, rfl⟩
theorem bal_n {r : Nat} (h0 : r < 4) : ∃ w : Nat, ([.int 0, .int 1, .int 2, .int 1] : List D)[r]? = some (.int (w : Int)) ∧ w ≤ 2 := by
  obtain rfl | rfl | rfl | rfl : r = 0 ∨ r = 1 ∨ r = 2 ∨ r = 3 := by omega
  · exact ⟨0, rfl, by omega⟩
  · exact ⟨1, rfl, by omega⟩
  · exact ⟨2, rfl, by omega⟩
  · exact ⟨1, rfl, by omega⟩
theorem bal_lp {n : Nat} {row : List Int} {s cnt : Nat} (hd : Dig row balSz) (hs : 2 ≤ s) (h8 : s ≤ 8) (hc : cnt ≤ 2) {p0 p2 p4 p5 p6 : Option D} :
    ∃ r, forL (fun _ => true) (Tg.nm 8) (evalSs (semN P n) false b29_1) ((List.range cnt).map fun (k : Nat) => D.int k) [p0, some (.int s), p2, some (.lst true (row.map D.int)), p4, p5, p6, some (.lst true []), none, none] = some r ∧ ∃ (ws : List (Int × Int)) (u8 u9 : Option D), r = (.nx, [p0, some (.int s), p2, some (.lst true (row.map D.int)), p4, p5, p6, some (.lst true (ws.map pairO)), u8, u9]) ∧ goodWords ws s = true ∧ ws.length ≤ 2 := by
  refine forL_inv (fun k ρ => ∃ (ws : List (Int × Int)) (u8 u9 : Option D), ρ = [p0, some (.int s), p2, some (.lst true (row.map D.int)), p4, p5, p6, some (.lst true (ws.map pairO)), u8, u9] ∧ ws.length = k ∧ ws.all (okWord s) = true) _ (n := 0) ?_ ?_ ⟨[], none, none, rfl, rfl, rfl⟩
  · rintro k d ρ hd' ⟨ws, u8, u9, rfl, hl, ha⟩
    obtain ⟨hk, rfl⟩ := range_get hd'
    rw [Nat.zero_add] at hl ⊢
    have hsz : balSz[12 + 2 * k]? = some 840 ∧ balSz[13 + 2 * k]? = some 840 := by
      have key : ∀ i : Fin 2, balSz[12 + 2 * i.val]? = some 840 ∧ balSz[13 + 2 * i.val]? = some 840 := by decide
      exact key ⟨k, by omega⟩
    obtain ⟨e, ee, qe⟩ := dig_get hd hsz.1
    obtain ⟨f, ef, qf⟩ := dig_get hd hsz.2
    obtain ⟨hke, ee'⟩ := List.getElem?_eq_some_iff.mp ee
    obtain ⟨hkf, ef'⟩ := List.getElem?_eq_some_iff.mp ef
    have hix : ixD row.length (12 + 2 * (k : Int)) = some (12 + 2 * k) := by
      rw [show (12 : Int) + 2 * (k : Int) = ((12 + 2 * k : Nat) : Int) by omega]; exact ix_nat hke
    have hix2 : ixD row.length (13 + 2 * (k : Int)) = some (13 + 2 * k) := by
      rw [show (13 : Int) + 2 * (k : Int) = ((13 + 2 * k : Nat) : Int) by omega]; exact ix_nat hkf
    have a1 := Int.emod_nonneg (e : Int) (show (s : Int) ≠ 0 by omega)
    have a2 := Int.emod_lt_of_pos (e : Int) (show (0 : Int) < s by omega)
    have o1 := Int.emod_nonneg (f : Int) (show (s : Int) - 1 ≠ 0 by omega)
    have o2 := Int.emod_lt_of_pos (f : Int) (show (0 : Int) < (s : Int) - 1 by omega)
    have m := mod_step (a := (e : Int) % s) (o := 1 + (f : Int) % ((s : Int) - 1)) (s := s) ⟨a1, a2⟩ (by omega)
    rw [← Int.add_assoc] at m
    have hs0 : (0 : Int) < s := by omega
    have hs1 : (0 : Int) < (s : Int) - 1 := by omega
    have f1 : binI .mod (e : Int) s = some ((e : Int) % s) := by rw [binI_mod hs0]
    have f2 : binI .mod (f : Int) ((s : Int) - 1) = some ((f : Int) % ((s : Int) - 1)) := by rw [binI_mod hs1]
    generalize (e : Int) % s = A at a1 a2 m f1
    generalize (f : Int) % ((s : Int) - 1) = O at o1 o2 m f2
    have f3 : binI .mod (A + 1 + O) s = some ((A + 1 + O) % s) := by rw [binI_mod hs0]
    generalize (A + 1 + O) % s = B at m f3
    have hmk : ws.length < sizeLine := by rw [slz]; omega
    have ml : mulOk 2 (k : Int) = true := mulOk_r (by omega)
    refine ⟨rfl, _, rfl, fun N Q' hN hQ => ?_⟩
    have hn : N [p0, some (.int s), p2, some (.lst true (row.map D.int)), p4, p5, p6, some (.lst true ((ws ++ [(A, B)]).map pairO)), some (.int k), some (.int A)] := hN _ ⟨ws ++ [(A, B)], _, _, rfl, by simp [hl], by
      rw [List.all_append, ha]
      simp [okWord]
      omega⟩
    simp [pairO] at hn
    simp [b29_1, ml, hix, hix2, ee', ef', f1, f2, f3, hmk, hke, hkf]
    simpa [pairO] using hn
  · rintro ρ ⟨ws, u8, u9, rfl, hl, ha⟩
    rw [Nat.zero_add, List.length_map, List.length_range] at hl
    exact ⟨rfl, ws, u8, u9, rfl, by unfold goodWords; rw [ha, Bool.and_true, decide_eq_true_eq]; omega, by omega⟩
theorem fLawBallot {n : Nat} {c kind : Int} {s : Nat} (h1 : 1 ≤ s) (h8 : s ≤ 8) : ∃ (b : Bal) (d : D), (semN P (n + 2)).fn false 29 [.int c, .int s, .int kind] = some (.ret d) ∧ d.frz = lawD b ∧ goodBallot s b = true ∧ b.w ≤ 999983 ∧ b.os.length ≤ 8 ∧ b.ws.length ≤ 2 := by
  rw [fn_at (fd := b29) rfl rfl]
  obtain ⟨row, g1, hd⟩ := fLawDigits (n := n) (c := c) balSz_ok
  obtain ⟨r0, e0, q0⟩ := dig_get (i := 0) (s := 12) hd rfl
  obtain ⟨r1, e1, q1⟩ := dig_get (i := 1) (s := 16) hd rfl
  obtain ⟨r10, e10, q10⟩ := dig_get (i := 10) (s := 12) hd rfl
  obtain ⟨r11, e11, q11⟩ := dig_get (i := 11) (s := 4) hd rfl
  have hlen : row.length = 16 := hd.len
  have q0' : r0 < 12 := by omega
  have q10' : r10 < 12 := by omega
  have q11' : r11 < 4 := by omega
  have i10 : ixD 16 10 = some 10 := by decide
  have i11 : ixD 16 11 = some 11 := by decide
  obtain ⟨_, e0'⟩ := List.getElem?_eq_some_iff.mp e0
  obtain ⟨_, e1'⟩ := List.getElem?_eq_some_iff.mp e1
  obtain ⟨_, e10'⟩ := List.getElem?_eq_some_iff.mp e10
  obtain ⟨_, e11'⟩ := List.getElem?_eq_some_iff.mp e11
  obtain ⟨cnt, ec, c1⟩ := bal_n q11'
  obtain ⟨_, ec'⟩ := List.getElem?_eq_some_iff.mp ec
  obtain ⟨os, g2, ho⟩ := fLawOrder (n := n) (s := s) (row := (row.drop 2).take 8) (by omega) (by rw [List.length_take, List.length_drop]; omega)
  obtain ⟨ho1, ho2⟩ := ho.facts
  have hol : os.length ≤ 8 := by
    have := ho.length_eq
    simp at this
    omega
  have hss : balSz.map D.int = [D.int 12, .int 16] ++ List.replicate 8 (D.int 840) ++ [.int 12, .int 4] ++ List.replicate 4 (D.int 840) := by simp [balSz]
  have hcut : cutD (row.map D.int) (some 2) (some 10) = ((row.drop 2).take 8).map D.int := cutT2 (by omega)
  rw [hss] at g1
  simp at g1
  generalize (row.drop 2).take 8 = row2 at g2 hcut
  obtain ⟨w, w1, w2, hw⟩ : ∃ w : Int, 1 ≤ w ∧ w ≤ 999983 ∧ ((r1 ≠ 15 ∧ ([.int 1, .int 1, .int 1, .int 2, .int 1, .int 3, .int 1, .int 2, .int 5, .int 1, .int 4, .int 7] : List D)[r0]? = some (.int w)) ∨ (r1 = 15 ∧ ([.int 60, .int 1000, .int 999983, .int 31] : List D)[r0 % 4]? = some (.int w))) := by
    by_cases h : r1 = 15
    · obtain ⟨w, a, b, d⟩ := bal_w4 (r := r0); exact ⟨w, b, d, .inr ⟨h, a⟩⟩
    · obtain ⟨w, a, b, d⟩ := bal_w q0'; exact ⟨w, b, d, .inl ⟨h, a⟩⟩
  obtain ⟨w', ew', _⟩ := bal_w q0'
  obtain ⟨_, ew'⟩ := List.getElem?_eq_some_iff.mp ew'
  have hm4 : binI .mod (r0 : Int) 4 = some ((r0 % 4 : Nat) : Int) := by rw [binI_mod (by omega)]; congr 1
  have q4 : r0 % 4 < 4 := by omega
  generalize r0 % 4 = m4 at hw hm4 q4
  have good : ∀ kn ws, goodWords ws s = true → goodBallot s ⟨false, false, false, false, w, os.take kn, ws⟩ = true := fun kn ws hw => by
    unfold goodBallot
    simp only [hw, Bool.and_true, Bool.and_eq_true, decide_eq_true_eq]
    exact ⟨w1, goodOrder_of (fun x hx => ho1 x (List.mem_of_mem_take hx)) (ho2.sublist (List.take_sublist _ _))⟩
  by_cases hk : kind = 0 ∨ r10 < 6
  · refine ⟨⟨false, false, false, false, w, os.take os.length, []⟩, .lst true [.int w, .lst false (os.map D.int), .lst true []], ?_, ?fz, good _ [] (by unfold goodWords; rfl), w2, by simp; omega, by simp⟩
    case fz => simp [lawD]
    have hk2 : ∀ ρ, (if kind = 0 then (Res.ok true ρ : Res Bool) else .ok (decide ((r10 : Int) < 6)) ρ) = .ok true ρ := fun ρ => by
      by_cases h : kind = 0
      · rw [if_pos h]
      · rw [if_neg h, show decide ((r10 : Int) < 6) = true from by simp; omega]
    rcases hw with ⟨h15, hw⟩ | ⟨h15, hw⟩
    · obtain ⟨_, hw'⟩ := List.getElem?_eq_some_iff.mp hw
      by_cases h : kind = 0
      · simp [b29, g1, hlen, q0', e0', e1', hw', h15, hcut, g2, i10, i11, e10', q10', h, (show ¬ (r1 : Int) = 15 from by omega)]
      · simp [b29, g1, hlen, q0', e0', e1', hw', h15, hcut, g2, i10, i11, e10', q10', h, (show ¬ (r1 : Int) = 15 from by omega), (show (r10 : Int) < 6 from by omega)]
    · obtain ⟨_, hw'⟩ := List.getElem?_eq_some_iff.mp hw
      by_cases h : kind = 0
      · simp [b29, g1, hlen, q0', e0', e1', ew', hw', h15, hcut, g2, i10, i11, e10', q10', h, hm4, q4]
      · simp [b29, g1, hlen, q0', e0', e1', ew', hw', h15, hcut, g2, i10, i11, e10', q10', h, hm4, q4, (show (r10 : Int) < 6 from by omega)]
  · have hk1 : ¬ kind = 0 := fun h => hk (.inl h)
    have hk2 : ¬ r10 < 6 := fun h => hk (.inr h)
    have hk3 : ¬ (r10 : Int) < 6 := by omega
    obtain ⟨kp, ek⟩ := bal_k (s := s) q10' hk2
    have hsub : (r10 : Int) - 6 = ((r10 - 6 : Nat) : Int) := by omega
    have q6 : r10 - 6 < 6 := by omega
    generalize r10 - 6 = m10 at ek hsub q6
    obtain ⟨_, ek'⟩ := List.getElem?_eq_some_iff.mp ek
    obtain ⟨kn, hkn⟩ : ∃ kn : Nat, (if (s : Int) < (kp : Int) then (s : Int) else (kp : Int)) = (kn : Int) := ⟨(if (s : Int) < kp then (s : Int) else kp).toNat, by split <;> omega⟩
    have hmin : ∀ ρ, biR false .min [.val (.int (kp : Int)), .val (.int s)] ρ = .ok (.val (.int (kn : Int))) ρ := fun ρ => by rw [← hkn]; simp [biR, biD]
    have hord : cutD (os.map D.int) none (some (kn : Int)) = (os.take kn).map D.int := cutT
    by_cases hs : s = 1
    · refine ⟨⟨false, false, false, false, w, os.take kn, []⟩, .lst true [.int w, .lst true ((os.take kn).map D.int), .lst false []], ?_, ?fz, good _ [] (by unfold goodWords; rfl), w2, by show (os.take kn).length ≤ 8; rw [List.length_take]; omega, by simp⟩
      case fz => exact mkD_frz (b := ⟨false, false, false, false, w, os.take kn, []⟩)
      subst hs
      simp at hmin g2 ek'
      rcases hw with ⟨h15, hw⟩ | ⟨h15, hw⟩
      · obtain ⟨_, hw'⟩ := List.getElem?_eq_some_iff.mp hw
        simp [b29, g1, hlen, q0', e0', e1', hw', h15, hcut, g2, i10, i11, e10', q10', hk1, hk3, hsub, q6, ek', hmin, hord, (show ¬ (r1 : Int) = 15 from by omega)]
      · obtain ⟨_, hw'⟩ := List.getElem?_eq_some_iff.mp hw
        simp [b29, g1, hlen, q0', e0', e1', ew', hw', h15, hcut, g2, i10, i11, e10', q10', hk1, hk3, hsub, q6, ek', hmin, hord, hm4, q4]
    · obtain ⟨r, hr, ws, u8, u9, rfl, hg, hwl⟩ := bal_lp (n := n + 1) (row := row) (s := s) (cnt := cnt) hd (by omega) h8 c1 (p0 := some (.int c)) (p2 := some (.int kind)) (p4 := some (.int w)) (p5 := some (.lst true (os.map D.int))) (p6 := some (.int kp))
      refine ⟨⟨false, false, false, false, w, os.take kn, ws⟩, .lst true [.int w, .lst true ((os.take kn).map D.int), .lst false (ws.map pairL)], ?_, mkD_frz (b := ⟨false, false, false, false, w, os.take kn, ws⟩), good _ ws hg, w2, by show (os.take kn).length ≤ 8; rw [List.length_take]; omega, hwl⟩
      have hs2 : (1 : Int) < s := by omega
      have hz : Sm cnt := sm_of (by omega)
      rcases hw with ⟨h15, hw⟩ | ⟨h15, hw⟩
      · obtain ⟨_, hw'⟩ := List.getElem?_eq_some_iff.mp hw
        simp [b29, g1, hlen, q0', e0', e1', hw', h15, hcut, g2, i10, i11, e10', q10', hk1, hk3, hsub, q6, ek', hmin, hord, e11', q11', ec', hs2, hz, hr, pairsO_frz, (show ¬ (r1 : Int) = 15 from by omega)]
      · obtain ⟨_, hw'⟩ := List.getElem?_eq_some_iff.mp hw
        simp [b29, g1, hlen, q0', e0', e1', ew', hw', h15, hcut, g2, i10, i11, e10', q10', hk1, hk3, hsub, q6, ek', hmin, hord, hm4, q4, e11', q11', ec', hs2, hz, hr, pairsO_frz]
end K85
set_option Elab.async false
set_option linter.all false
set_option maxRecDepth 100000
set_option maxHeartbeats 4000000
/-! K85I: the law's own names and books. Printed from D85c.src. -/
namespace K85
open PySem L2 SL
def menu : List Str := ["a", "park", "x1", "mill", "b", "school9", "o", "abcdefghijkl"]
def namesOf (m s : Nat) : List Str := (List.range s).map fun k => menu.getD ((m + k) % 8) ""
theorem names_ok : ∀ (m : Fin 8) (s : Fin 9), 1 ≤ s.val → goodNames (namesOf m.val s.val) = true := by decide +kernel
theorem names_len {m s : Nat} : (namesOf m s).length = s := by simp [namesOf]
theorem names_good {m s : Nat} (hm : m < 8) (h1 : 1 ≤ s) (h8 : s ≤ 8) : goodNames (namesOf m s) = true := names_ok ⟨m, hm⟩ ⟨s, by omega⟩ h1
theorem names_short {m s : Nat} : ∀ x ∈ namesOf m s, x.length ≤ 1000000 := fun x hx => by
  obtain ⟨k, _, rfl⟩ := List.mem_map.mp hx
  have key : ∀ i : Fin 8, (menu.getD i.val "").length ≤ 1000000 := by decide +kernel
  exact key ⟨(m + k) % 8, by omega⟩
theorem menu_at {i : Nat} (hi : i < 8) : (menu.map D.str)[i]? = some (.str (menu.getD i "")) := by
  have : i < menu.length := hi
  rw [List.getElem?_map, List.getElem?_eq_getElem this, List.getD_eq_getElem?_getD, List.getElem?_eq_getElem this]; rfl
theorem fLawNames {n m s : Nat} (hm : m < 8) (h8 : s ≤ 8) : (semN P (n + 1)).fn false 30 [.int m, .int s] = some (.ret (.lst true ((namesOf m s).map D.str))) := by
  rw [fn_at (fd := b30) rfl rfl]
  have hz : Sm s := sm_of (by omega)
  have e : compL [3] (Tg.nm 3) (evalC (semN P n) false []) (evalE (semN P n) false (.idx (.var 2) (.bin .mod (.bi .int [.bin .add (.var 0) (.var 3)]) (.int 8)))) ((List.range s).map fun (k : Nat) => D.int k) [] [some (.int m), some (.int s), some (.lst true (menu.map D.str)), none] = .ok ([] ++ (List.range s).map fun (k : Nat) => D.str (menu.getD ((m + k) % 8) "")) [some (.int m), some (.int s), some (.lst true (menu.map D.str)), none] :=
    compL_map _ _ (fun k hk => ⟨_, rfl, by
      have hf : binI .mod ((m : Int) + (k : Int)) 8 = some (((m + k) % 8 : Nat) : Int) := by rw [binI_mod (by omega)]; congr 1
      have q : (m + k) % 8 < 8 := by omega
      generalize (m + k) % 8 = j at hf q
      have hfz : D.frzL (menu.map D.str) = menu.map D.str := frzL_map fun _ => by simp
      have hj0 := menu_at q
      have hlen : (menu.map D.str).length = 8 := rfl
      generalize menu.map D.str = M at hfz hj0 hlen
      generalize menu.getD j "" = x at hj0
      obtain ⟨hl, hj⟩ := List.getElem?_eq_some_iff.mp hj0
      have q2 : j < M.length := by omega
      simp [hf, hfz, q, hj, q2]⟩) (by simpa using le_slz' (k := s) (by omega))
  have hn : (List.range s).map (fun (k : Nat) => D.str (menu.getD ((m + k) % 8) "")) = (namesOf m s).map D.str := by rw [namesOf, List.map_map]; rfl
  rw [hn] at e
  have hm0 : [D.str (Str.ofString "a"), .str (Str.ofString "park"), .str (Str.ofString "x1"), .str (Str.ofString "mill"), .str (Str.ofString "b"), .str (Str.ofString "school9"), .str (Str.ofString "o"), .str (Str.ofString "abcdefghijkl")] = menu.map D.str := rfl
  have hml : (menu.map D.str).length ≤ sizeLine := by show 8 ≤ sizeLine; rw [slz]; omega
  generalize (namesOf m s).map D.str = O at e
  generalize menu.map D.str = M at e hm0 hml
  simp [b30, hz, hm0, e, hml]
theorem fLawHanded {n : Nat} {bs : List Bal} (hb : bs.length ≤ 1000) (hw : ∀ b ∈ bs, b.ws.length ≤ 1000) : (semN P (n + 1)).fn false 32 [.lst false (bs.map lawD)] = some (.ret (.lst true (bs.map handD))) := by
  rw [fn_at (fd := b32) rfl rfl]
  have e1 : ∀ (ws : List (Int × Int)) (p q : Option D), ws.length ≤ 1000 → compL [2] (Tg.nm 2) (evalC (semN P n) false []) (evalE (semN P n) false (.bi .list [.var 2])) (ws.map pairL) [] [p, q, none] = .ok ([] ++ ws.map pairO) [p, q, none] := fun ws p q hl =>
    compL_map _ _ (fun a _ => ⟨_, rfl, by simp [pairL, pairO]⟩) (by simpa using le_slz' (k := ws.length) (by omega))
  have e2 : ∀ (p : Option D), compL [1] (Tg.nm 1) (evalC (semN P n) false []) (evalE (semN P n) false (.lst [.idx (.var 1) (.int 0), .bi .list [.idx (.var 1) (.int 1)], .comp [2] (.bi .list [.var 2]) (.nm 2) .plain [.idx (.var 1) (.int 2)] []])) (bs.map lawD) [] [p, none, none] = .ok ([] ++ bs.map handD) [p, none, none] := fun p =>
    compL_map _ _ (fun b hb => ⟨_, rfl, by
      have := hw b hb
      simp [lawD, handD, e1, this]⟩) (by simpa using le_slz' (k := bs.length) (by omega))
  simp [b32, e2]
theorem frzL_set {d : D} : ∀ {l : List D} {i : Nat}, D.frzL (l.set i d) = (D.frzL l).set i d.frz
  | [], _ => by simp
  | a :: l, 0 => by simp
  | a :: l, i + 1 => by simp [frzL_set]
/-- a drawn book's ballots -/
structure Drawn (s : Nat) (b : Bal) : Prop where
  good : goodBallot s b = true
  w : b.w ≤ 999983
  ol : b.os.length ≤ 8
  wl : b.ws.length ≤ 2
theorem goodBallot_of {s : Int} {b : Bal} (h : goodBallot s b = true) : 1 ≤ b.w ∧ goodOrder b.os s = true ∧ goodWords b.ws s = true := by
  unfold goodBallot at h
  simpa only [Bool.and_eq_true, decide_eq_true_eq] using h
theorem Drawn.mix {s : Nat} {b c : Bal} (h : Drawn s b) (k : Drawn s c) : Drawn s ⟨false, false, false, false, b.w, c.os, c.ws⟩ := by
  obtain ⟨h1, h2, h3, h4⟩ := h
  obtain ⟨k1, k2, k3, k4⟩ := k
  refine ⟨?_, h2, k3, k4⟩
  obtain ⟨a, _, _⟩ := goodBallot_of h1
  obtain ⟨_, b, c⟩ := goodBallot_of k1
  unfold goodBallot
  simp only [Bool.and_eq_true, decide_eq_true_eq]
  exact ⟨a, b, c⟩
theorem Drawn.bs {s : Nat} {b : Bal} (h : Drawn s b) : BalS s b := by
  obtain ⟨_, g1, g2⟩ := goodBallot_of h.good
  refine ⟨by have := h.ol; omega, (goodOrder_all g1).1, fun p hp => ?_⟩
  have := (goodWords_all g2).2 p hp
  simp [okWord] at this
  omega
theorem shape_at {row : List Int} {i s : Nat} (hd : Dig row [840, 840, 8, 6]) (h : ([840, 840, 8, 6] : List Int)[i]? = some (s : Int)) : ∃ d : Nat, row[i]? = some (d : Int) ∧ d < s := by
  obtain ⟨d, h1, h2⟩ := dig_get hd h
  exact ⟨d, h1, by omega⟩
theorem ok9 {a0 a1 a2 a3 a4 a5 a6 a7 a8 a10 : Option D} {L : List D} {k : Nat} (hk : k < L.length) : okAt 9 [(k : Int)] [a0, a1, a2, a3, a4, a5, a6, a7, a8, some (.lst true L), a10] = true := by
  simp [okAt, getAt, hk]
theorem fLawBook {n : Nat} {sc : List Int} {at_ kind : Int} {sizes counts : List Nat} (ha : 0 ≤ at_) (ha2 : at_ ≤ 900) (hs : 1 ≤ sizes.length ∧ sizes.length ≤ 100) (hc : 1 ≤ counts.length ∧ counts.length ≤ 100) (hs8 : ∀ s ∈ sizes, 1 ≤ s ∧ s ≤ 8) (hc8 : ∀ s ∈ counts, 1 ≤ s ∧ s ≤ 8) :
    ∃ (nm s : Nat) (bs : List Bal), (semN P (n + 3)).fn false 31 [.scr sc, .int at_, .lst false (sizes.map fun (k : Nat) => D.int k), .lst false (counts.map fun (k : Nat) => D.int k), .int kind] = some (.ret (.lst true [.lst true ((namesOf nm s).map D.str), .lst false (bs.map lawD)])) ∧
      nm < 8 ∧ s ∈ sizes ∧ bs.length ∈ counts ∧ ∀ b ∈ bs, Drawn s b := by
  rw [fn_at (fd := b31) rfl rfl]
  obtain ⟨c0, g0⟩ := fLawCell (n := n + 1) sc at_ ha (by omega)
  obtain ⟨row, g1, hd⟩ := fLawDigits (n := n + 1) (c := c0) (ss := [840, 840, 8, 6]) ⟨by decide, by decide⟩
  obtain ⟨r0, e0, q0⟩ := shape_at (i := 0) (s := 840) hd rfl
  obtain ⟨r1, e1, q1⟩ := shape_at (i := 1) (s := 840) hd rfl
  obtain ⟨r2, e2, q2⟩ := shape_at (i := 2) (s := 8) hd rfl
  obtain ⟨r3, e3, q3⟩ := shape_at (i := 3) (s := 6) hd rfl
  have hlen : row.length = 4 := hd.len
  simp at g1
  -- size and number
  have hsl : r0 % sizes.length < sizes.length := Nat.mod_lt _ (by omega)
  have hcl : r1 % counts.length < counts.length := Nat.mod_lt _ (by omega)
  have f0 : binI .mod (r0 : Int) (sizes.length : Int) = some ((r0 % sizes.length : Nat) : Int) := by rw [binI_mod (by omega)]; congr 1
  have f1 : binI .mod (r1 : Int) (counts.length : Int) = some ((r1 % counts.length : Nat) : Int) := by rw [binI_mod (by omega)]; congr 1
  generalize r0 % sizes.length = i0 at hsl f0
  generalize r1 % counts.length = i1 at hcl f1
  obtain ⟨s, es⟩ : ∃ s, sizes[i0] = s := ⟨_, rfl⟩
  obtain ⟨m, em⟩ : ∃ s, counts[i1] = s := ⟨_, rfl⟩
  have hsm : s ∈ sizes := es ▸ List.getElem_mem hsl
  have hmm : m ∈ counts := em ▸ List.getElem_mem hcl
  obtain ⟨s1, s8⟩ := hs8 s hsm
  obtain ⟨m1, m8⟩ := hc8 m hmm
  have hz : Sm m := sm_of (by omega)
  -- the ballots
  have hb : ∀ k : Nat, ∃ p : Bal × D, k < m → ∃ c, (semN P (n + 2)).fn false 26 [.scr sc, .int (at_ + 1 + k)] = some (.ret (.int c)) ∧ (semN P (n + 2)).fn false 29 [.int c, .int s, .int kind] = some (.ret p.2) ∧ p.2.frz = lawD p.1 ∧ Drawn s p.1 := fun k => by
    by_cases hk : k < m
    · obtain ⟨c, h1⟩ := fLawCell (n := n + 1) sc (at_ + 1 + k) (by omega) (by omega)
      obtain ⟨b, d, h2, h3, h4, h5, h6, h7⟩ := fLawBallot (n := n) (c := c) (kind := kind) s1 s8
      exact ⟨(b, d), fun _ => ⟨c, h1, h2, h3, ⟨h4, h5, h6, h7⟩⟩⟩
    · exact ⟨(⟨false, false, false, false, 1, [], []⟩, .non), fun h => absurd h hk⟩
  obtain ⟨f, hf⟩ := Classical.axiomOfChoice hb
  have ec : ∀ a5 : Option D, compL [8] (Tg.nm 8) (evalC (semN P (n + 2)) false []) (evalE (semN P (n + 2)) false (.call 29 [.call 26 [.var 0, .bin .add (.bin .add (.var 1) (.int 1)) (.var 8)], .var 6, .var 4])) ((List.range m).map fun (k : Nat) => D.int k) [] [some (.scr sc), some (.int at_), some (.lst false (sizes.map fun (k : Nat) => D.int k)), some (.lst false (counts.map fun (k : Nat) => D.int k)), some (.int kind), a5, some (.int s), some (.int m), none, none, none] =
      .ok ([] ++ (List.range m).map fun k => (f k).2) [some (.scr sc), some (.int at_), some (.lst false (sizes.map fun (k : Nat) => D.int k)), some (.lst false (counts.map fun (k : Nat) => D.int k)), some (.int kind), a5, some (.int s), some (.int m), none, none, none] := fun a5 =>
    compL_map _ _ (fun k hk => ⟨_, rfl, by
      obtain ⟨c, h1, h2, _, _⟩ := hf k (List.mem_range.mp hk)
      simp [h1, h2]⟩) (by simpa using le_slz' (k := m) (by omega))
  have hfz : D.frzL ((List.range m).map fun k => (f k).2) = ((List.range m).map fun k => (f k).1).map lawD := by
    rw [frzL_mapG, List.map_map]
    refine List.map_congr_left fun k hk => ?_
    obtain ⟨c, _, _, h3, _⟩ := hf k (List.mem_range.mp hk)
    exact h3
  have hL : ((List.range m).map fun k => (f k).2).length = m := by simp
  have hB : ((List.range m).map fun k => (f k).1).length = m := by simp
  have hD : ∀ b ∈ (List.range m).map fun k => (f k).1, Drawn s b := fun b hb => by
    obtain ⟨k, hk, rfl⟩ := List.mem_map.mp hb
    obtain ⟨c, _, _, _, h4⟩ := hf k (List.mem_range.mp hk)
    exact h4
  generalize ((List.range m).map fun k => (f k).2) = L at ec hfz hL
  generalize ((List.range m).map fun k => (f k).1) = B at hfz hB hD
  have gn := fLawNames (n := n + 1) (m := r2) (s := s) q2 s8
  obtain ⟨_, e0'⟩ := List.getElem?_eq_some_iff.mp e0
  obtain ⟨_, e1'⟩ := List.getElem?_eq_some_iff.mp e1
  obtain ⟨_, e2'⟩ := List.getElem?_eq_some_iff.mp e2
  obtain ⟨_, e3'⟩ := List.getElem?_eq_some_iff.mp e3
  have esD : (sizes.map fun (k : Nat) => D.int k)[i0]? = some (.int s) := by rw [List.getElem?_map, List.getElem?_eq_getElem hsl, es]; rfl
  have emD : (counts.map fun (k : Nat) => D.int k)[i1]? = some (.int m) := by rw [List.getElem?_map, List.getElem?_eq_getElem hcl, em]; rfl
  have lsD : (sizes.map fun (k : Nat) => D.int k).length = sizes.length := List.length_map ..
  have lcD : (counts.map fun (k : Nat) => D.int k).length = counts.length := List.length_map ..
  generalize (sizes.map fun (k : Nat) => D.int k) = SD at ec esD lsD ⊢
  generalize (counts.map fun (k : Nat) => D.int k) = CD at ec emD lcD ⊢
  obtain ⟨ls', esD'⟩ := List.getElem?_eq_some_iff.mp esD
  obtain ⟨lc', emD'⟩ := List.getElem?_eq_some_iff.mp emD
  rw [← lsD] at f0
  rw [← lcD] at f1
  by_cases hr : r3 = 0 ∧ 1 < m
  · obtain ⟨h3, h1m⟩ := hr
    obtain ⟨j, hjm⟩ : ∃ j, j + 1 = m := ⟨m - 1, by omega⟩
    have hjB : j < B.length := by omega
    obtain ⟨bl, hbl⟩ : ∃ b, B[j] = b := ⟨_, rfl⟩
    obtain ⟨b0, hb0⟩ : ∃ b, B[0] = b := ⟨_, rfl⟩
    have dl : Drawn s bl := hD _ (hbl ▸ List.getElem_mem hjB)
    have d0 : Drawn s b0 := hD _ (hb0 ▸ List.getElem_mem (by omega))
    refine ⟨r2, s, B.set j ⟨false, false, false, false, bl.w, b0.os, b0.ws⟩, ?_, q2, hsm, by rw [List.length_set, hB]; exact hmm, fun b hb => ?_⟩
    · have ew : ∀ (a0 a1 a2 a3 a4 a5 a6 a7 a8 a9 : Option D), compL [10] (Tg.nm 10) (evalC (semN P (n + 2)) false []) (evalE (semN P (n + 2)) false (.bi .list [.var 10])) (b0.ws.map pairL) [] [a0, a1, a2, a3, a4, a5, a6, a7, a8, a9, none] = .ok ([] ++ b0.ws.map pairO) [a0, a1, a2, a3, a4, a5, a6, a7, a8, a9, none] := fun a0 a1 a2 a3 a4 a5 a6 a7 a8 a9 =>
        compL_map _ _ (fun a _ => ⟨_, rfl, by simp [pairL, pairO]⟩) (by simpa using le_slz' (k := b0.ws.length) (by have := d0.wl; omega))
      have hBl : (B.map lawD)[j]? = some (lawD bl) := by rw [List.getElem?_map, List.getElem?_eq_getElem hjB, hbl]; rfl
      have hB0 : (B.map lawD)[0]? = some (lawD b0) := by rw [List.getElem?_map, List.getElem?_eq_getElem (by omega), hb0]; rfl
      have hBn : (B.map lawD).length = m := by rw [List.length_map, hB]
      have hset : D.frzL (L.set j (.lst true [.int bl.w, .lst true (b0.os.map D.int), .lst true (b0.ws.map pairO)])) = (B.set j ⟨false, false, false, false, bl.w, b0.os, b0.ws⟩).map lawD := by
        have e : (D.lst true [.int bl.w, .lst true (b0.os.map D.int), .lst true (b0.ws.map pairO)]).frz = lawD ⟨false, false, false, false, bl.w, b0.os, b0.ws⟩ := handD_frz (b := ⟨false, false, false, false, bl.w, b0.os, b0.ws⟩)
        rw [frzL_set, hfz, List.map_set, e]
      have hL2 : SL.setItem (j : Int) (.lst true [.int bl.w, .lst true (b0.os.map D.int), .lst true (b0.ws.map pairO)]) (.lst true L) = some (.lst true (L.set j (.lst true [.int bl.w, .lst true (b0.os.map D.int), .lst true (b0.ws.map pairO)]))) := setItem_nat (by omega)
      have hok : ∀ (a0 a1 a2 a3 a4 a5 a6 a7 a8 a10 : Option D), okAt 9 [(j : Int)] [a0, a1, a2, a3, a4, a5, a6, a7, a8, some (.lst true L), a10] = true := fun _ _ _ _ _ _ _ _ _ _ => ok9 (by omega)
      rw [← hset]
      generalize L.set j (.lst true [.int bl.w, .lst true (b0.os.map D.int), .lst true (b0.ws.map pairO)]) = L2 at hL2
      generalize B.map lawD = BD at hBl hB0 hBn hfz
      obtain ⟨_, hBl'⟩ := List.getElem?_eq_some_iff.mp hBl
      obtain ⟨_, hB0'⟩ := List.getElem?_eq_some_iff.mp hB0
      unfold lawD at hBl' hB0'
      have hF : D.noFL (b0.ws.map pairO) = true := noFL_map fun _ => by simp [pairO]
      have hI1 : D.noIL (b0.ws.map pairO) = true := noIL_map fun _ => by simp [pairO]
      have hX : D.noXL (b0.ws.map pairO) = true := noXL_map fun _ => by simp [pairO]
      generalize b0.ws.map pairL = W0 at ew hB0'
      generalize b0.ws.map pairO = W1 at ew hL2 hF hI1 hX
      have hj1 : (m : Int) - 1 = (j : Int) := by omega
      have hj2 : (1 : Int) < (m : Int) := by omega
      have hjJ : j < m := by omega
      have h0J : 0 < m := by omega
      cases hI : D.immL W0 <;> simp (disch := first | omega | decide | simp) [b31, keeps, hF, hI1, hX, hI, g0, g1, hlen, e0', e1', e2', e3', f0, f1, ls', lc', esD', emD', hz, ec, h3, hj1, hj2, hfz, hBn, hjJ, h0J, hBl', hB0', ew, hL2, hok, gn]
    · rcases List.mem_or_eq_of_mem_set hb with hb | rfl
      · exact hD b hb
      · exact dl.mix d0
  · refine ⟨r2, s, B, ?_, q2, hsm, hB ▸ hmm, hD⟩
    generalize B.map lawD = BD at hfz
    by_cases h3 : r3 = 0
    · have h1m : ¬ (1 : Int) < (m : Int) := fun h => hr ⟨h3, by omega⟩
      simp (disch := first | omega | decide | simp) [b31, g0, g1, hlen, e0', e1', e2', e3', f0, f1, ls', lc', esD', emD', hz, ec, h3, h1m, hfz, gn]
    · have h3' : ¬ (r3 : Int) = 0 := by omega
      simp (disch := first | omega | decide | simp) [b31, g0, g1, hlen, e0', e1', e2', e3', f0, f1, ls', lc', esD', emD', hz, ec, h3, h3', hfz, gn]
end K85
set_option Elab.async false
set_option linter.all false
set_option maxRecDepth 100000
set_option maxHeartbeats 4000000
/-! K85K: open pairs and answers. Printed from D85d.src. -/
namespace K85
open PySem L2 SL
/-- plain data: whole numbers, texts, tuples of them -/
inductive Tr : Nat → D → Prop
  | int {k i} : Tr k (.int i)
  | str {k x} : Tr k (.str x)
  | tup {k ds} : ds.length ≤ 100000 → (∀ d ∈ ds, Tr k d) → Tr (k + 1) (.tup ds)
theorem Tr.frz {k : Nat} {d : D} (h : Tr k d) : d.frz = d := by cases h <;> simp
theorem trs_facts {k : Nat} {ds : List D} (f : ∀ d ∈ ds, d.py.isSome = true ∧ d.dep ≤ k + 1 ∧ d.eqv d = true) : ∀ es : List D, (∀ d ∈ es, d ∈ ds) → (D.pyL es).isSome = true ∧ D.depL es ≤ k + 1 ∧ D.eqvL es es = true := by
  intro es
  induction es with
  | nil => intro _; simp
  | cons e es ih =>
    intro he
    obtain ⟨a1, a2, a3⟩ := f e (he e (by simp))
    obtain ⟨b1, b2, b3⟩ := ih fun d hd => he d (by simp [hd])
    obtain ⟨p, hp⟩ := Option.isSome_iff_exists.mp a1
    obtain ⟨q, hq⟩ := Option.isSome_iff_exists.mp b1
    refine ⟨by simp [hp, hq], by simp; omega, by simp [a3, b3]⟩
theorem Tr.facts : ∀ {k : Nat} {d : D}, Tr k d → d.py.isSome = true ∧ d.dep ≤ k + 1 ∧ d.eqv d = true
  | k, .int i, _ => by simp
  | k, .str x, _ => by simp
  | k + 1, .tup ds, h => by
    cases h with
    | tup hl hd =>
    obtain ⟨b1, b2, b3⟩ := trs_facts (fun d h => Tr.facts (hd d h)) ds fun d h => h
    refine ⟨by simpa using b1, by simp; omega, by simpa using b3⟩
theorem Tr.ne {k : Nat} {d : D} (h : Tr k d) (hk : k ≤ 60) : cmpD .ne d d = some false := by
  obtain ⟨a1, a2, a3⟩ := h.facts
  have e : cmpD .ne d d = if isData d && isData d && decide (d.dep ≤ 64 ∨ d.dep ≤ 64) then some (!d.eqv d) else none := by
    unfold cmpD; rfl
  rw [e, if_pos (by simp [a1]; omega), a3]; rfl
theorem Tr.ne_lst {k : Nat} {o o' : Bool} {ds : List D} (h : ∀ d ∈ ds, Tr k d) (hk : k ≤ 60) : cmpD .ne (.lst o ds) (.lst o' ds) = some false := by
  obtain ⟨b1, b2, b3⟩ := trs_facts (fun d hd => (h d hd).facts) ds fun d h => h
  have e : cmpD .ne (.lst o ds) (.lst o' ds) = if isData (.lst o ds) && isData (.lst o' ds) && decide ((D.lst o ds).dep ≤ 64 ∨ (D.lst o' ds).dep ≤ 64) then some (!(D.lst o ds).eqv (.lst o' ds)) else none := by
    unfold cmpD; rfl
  rw [e, if_pos (by simp [b1]; omega)]
  simp [b3]
theorem tr_names {ns : List Str} (h : ns.length ≤ 100000) : Tr 1 (.tup (ns.map D.str)) := .tup (by simpa using h) fun d hd => by
  obtain ⟨x, _, rfl⟩ := List.mem_map.mp hd; exact .str
theorem tr_weights {bs : List Bal} (h : bs.length ≤ 100000) : Tr 1 (.tup (bs.map fun b => D.int b.w)) := .tup (by simpa using h) fun d hd => by
  obtain ⟨x, _, rfl⟩ := List.mem_map.mp hd; exact .int
theorem tr_toldT {s : Nat} {R : Nat → Nat → Bool} (h : s ≤ 100000) : Tr 2 (toldT s R) := .tup (by simpa using h) fun d hd => by
  obtain ⟨x, _, rfl⟩ := List.mem_map.mp hd
  refine .tup ?_ fun d hd => by obtain ⟨x, _, rfl⟩ := List.mem_map.mp hd; exact .int
  rw [List.length_map]
  have := List.length_filter_le (R x) (List.range s)
  rw [List.length_range] at this
  omega
theorem tr_told {s : Nat} {bs : List Bal} (h : s ≤ 100000) (hb : bs.length ≤ 100000) : Tr 3 (.tup (bs.map (toldB s))) := .tup (by simpa using hb) fun d hd => by
  obtain ⟨x, _, rfl⟩ := List.mem_map.mp hd; exact tr_toldT h
/-! ### what must be there -/
theorem fRequireOption {n : Nat} {ns : List Str} {bs : List Bal} {x : Int} : (semN P (n + 1)).fn false 19 [bookD false ns bs, .int x] = some (if 0 ≤ x ∧ x < ns.length then .ret .non else .exc 6 [.int x]) := by
  rw [fn_at (fd := b19) rfl rfl]
  unfold bookD fieldsB
  by_cases h0 : 0 ≤ x
  · by_cases h1 : x < ns.length
    · simp [b19, ixf1, h0, h1]
    · simp [b19, ixf1, h0, h1]
  · simp [b19, ixf1, h0]
theorem fLen {n : Nat} {ns : List Str} {bs : List Bal} (hb : bs.length ≤ 1000) : (semN P (n + 1)).fn false 17 [bookD false ns bs] = some (.ret (.int bs.length)) := by
  rw [fn_at (fd := b17) rfl rfl]
  unfold bookD fieldsB
  simp [b17, ixf2]
theorem fRequireBallot {n : Nat} {ns : List Str} {bs : List Bal} {x : Int} (hb : bs.length ≤ 1000) : (semN P (n + 2)).fn false 20 [bookD false ns bs, .int x] = some (if 0 ≤ x ∧ x < bs.length then .ret .non else .exc 7 [.int x]) := by
  have g := fLen (n := n) (ns := ns) hb
  rw [fn_at (fd := b20) rfl rfl]
  have hl : (0 : Int) ≤ bs.length ∧ (bs.length : Int) < 9223372036854775808 := by omega
  unfold bookD fieldsB at g ⊢
  by_cases h0 : 0 ≤ x
  · by_cases h1 : x < bs.length
    · simp [b20, h0, h1, g, lenR, hl]
    · simp [b20, h0, h1, g, lenR, hl]
  · simp [b20, h0, g, lenR, hl]
/-! ### open pairs -/
def opB (s : Nat) (b : Bal) (x y : Nat) : Bool := !(warsh (R0 b) s x y) && !(warsh (R0 b) s y x)
theorem any_row {s x y : Nat} {R : Nat → Nat → Bool} (hy : y < s) : ((((List.range s).filter (R x)).map fun (k : Nat) => (k : Int)).any fun z => z == (y : Int)) = R x y := by
  rw [Bool.eq_iff_iff, List.any_eq_true]
  constructor
  · rintro ⟨z, hz, e⟩
    obtain ⟨k, hk, rfl⟩ := List.mem_map.mp hz
    obtain ⟨_, h2⟩ := List.mem_filter.mp hk
    have : k = y := by have := beq_iff_eq.mp e; omega
    exact this ▸ h2
  · intro h
    exact ⟨(y : Int), List.mem_map.mpr ⟨y, List.mem_filter.mpr ⟨List.mem_range.mpr hy, h⟩, rfl⟩, beq_self_eq_true _⟩
theorem nin_row {s x y : Nat} {R : Nat → Nat → Bool} (hy : y < s) : cmpD .nin (.int (y : Int)) (.tup (((List.range s).filter (R x)).map fun (k : Nat) => D.int k)) = some (!R x y) := by
  have e := inint (((List.range s).filter (R x)).map fun (k : Nat) => (k : Int)) (y : Int)
  rw [List.map_map] at e
  rw [any_row hy] at e
  exact e
theorem fIsOpen {n : Nat} {ns : List Str} {bs : List Bal} {i x y : Nat} {b : Bal} (hb : bs[i]? = some b) (hx : x < ns.length) (hy : y < ns.length) : (semN P (n + 1)).fn false 23 [bookD false ns bs, .int i, .int x, .int y] = some (.ret (.bl (opB ns.length b x y))) := by
  rw [fn_at (fd := b23) rfl rfl]
  have n1 := nin_row (x := x) (R := warsh (R0 b) ns.length) hy
  have n2 := nin_row (x := y) (R := warsh (R0 b) ns.length) hx
  have r1 : ((List.range ns.length).map fun a => D.tup (((List.range ns.length).filter (warsh (R0 b) ns.length a)).map fun (k : Nat) => D.int k))[x]? = some (D.tup (((List.range ns.length).filter (warsh (R0 b) ns.length x)).map fun (k : Nat) => D.int k)) := by
    rw [List.getElem?_map, List.getElem?_range hx]; rfl
  have r2 : ((List.range ns.length).map fun a => D.tup (((List.range ns.length).filter (warsh (R0 b) ns.length a)).map fun (k : Nat) => D.int k))[y]? = some (D.tup (((List.range ns.length).filter (warsh (R0 b) ns.length y)).map fun (k : Nat) => D.int k)) := by
    rw [List.getElem?_map, List.getElem?_range hy]; rfl
  have lr : ((List.range ns.length).map fun a => D.tup (((List.range ns.length).filter (warsh (R0 b) ns.length a)).map fun (k : Nat) => D.int k)).length = ns.length := by simp
  have tb : (bs.map (toldB ns.length))[i]? = some (.tup ((List.range ns.length).map fun a => D.tup (((List.range ns.length).filter (warsh (R0 b) ns.length a)).map fun (k : Nat) => D.int k))) := by
    rw [List.getElem?_map, hb]; rfl
  have i2 : D.immL (bs.map (toldB ns.length)) = true := immL_map fun _ => by simp
  unfold bookD fieldsB opB
  have im : D.immL ((List.range ns.length).map fun a => D.tup (((List.range ns.length).filter (warsh (R0 b) ns.length a)).map fun (k : Nat) => D.int k)) = true := immL_map fun _ => by simp
  generalize ((List.range ns.length).map fun a => D.tup (((List.range ns.length).filter (warsh (R0 b) ns.length a)).map fun (k : Nat) => D.int k)) = TT at r1 r2 lr tb im
  generalize bs.map (toldB ns.length) = TB at tb i2 ⊢
  generalize warsh (R0 b) ns.length x y = A at n1 ⊢
  generalize warsh (R0 b) ns.length y x = B at n2 ⊢
  have im1 : D.imm (D.tup (((List.range ns.length).filter (warsh (R0 b) ns.length x)).map fun (k : Nat) => D.int k)) = true := by simp
  have im2 : D.imm (D.tup (((List.range ns.length).filter (warsh (R0 b) ns.length y)).map fun (k : Nat) => D.int k)) = true := by simp
  generalize D.tup (((List.range ns.length).filter (warsh (R0 b) ns.length x)).map fun (k : Nat) => D.int k) = U at n1 r1 im1
  generalize D.tup (((List.range ns.length).filter (warsh (R0 b) ns.length y)).map fun (k : Nat) => D.int k) = V at n2 r2 im2
  obtain ⟨h1, r1'⟩ := List.getElem?_eq_some_iff.mp r1
  obtain ⟨h2, r2'⟩ := List.getElem?_eq_some_iff.mp r2
  obtain ⟨h3, tb'⟩ := List.getElem?_eq_some_iff.mp tb
  cases A <;> cases B <;> simp (disch := first | omega | decide | simp) [b23, ixf4, h1, h2, h3, r1', r2', tb', n1, n2, im, im1, im2, i2]
end K85
set_option Elab.async false
set_option linter.all false
set_option maxRecDepth 100000
set_option maxHeartbeats 4000000
/-! K85M: answers. Printed from D85e.src. -/
namespace K85
open PySem L2 SL
def addW (b : Bal) (x y : Int) : Bal := ⟨true, true, true, true, b.w, b.os, b.ws ++ [(x, y)]⟩
theorem ok3 {a0 a1 a2 : Option D} {L : List D} {k : Nat} (hk : k < L.length) : okAt 3 [(k : Int)] [a0, a1, a2, some (.lst true L)] = true := by
  simp [okAt, getAt, hk]
theorem fExchanged {n : Nat} {ns : List Str} {bs : List Bal} {i : Nat} {b' : Bal} (hi : i < bs.length) (hn : ∀ x ∈ ns, x.length ≤ 1000000) (ok : okBook ns (bs.set i b') = true) (hl : bs.length ≤ 1000) :
    (semN P (n + 5)).fn false 21 [bookD false ns bs, .int i, plainD b'] = some (.ret (bookD true ns (bs.set i b'))) := by
  rw [fn_at (fd := b21) rfl rfl]
  have g := newBook (n := n) (t := true) (t2 := false) (ns := ns) (bs := (bs.set i b').map plainB) hn
  rw [made_ok (ok_congr (f := plainB) (fun b => ⟨rfl, rfl, rfl⟩) ok), map_plainB, book_plain] at g
  have hs : (bs.set i b').map plainD = (bs.map plainD).set i (plainD b') := by rw [List.map_set]
  rw [hs] at g
  have h1 : SL.setItem (i : Int) (plainD b') (.lst true (bs.map plainD)) = some (.lst true ((bs.map plainD).set i (plainD b'))) := setItem_nat (by simpa using hi)
  have hok : ∀ a0 a1 a2 : Option D, okAt 3 [(i : Int)] [a0, a1, a2, some (.lst true (bs.map plainD))] = true := fun _ _ _ => ok3 (by simpa using hi)
  have hf : D.frzL ((bs.map plainD).set i (plainD b')) = (bs.map plainD).set i (plainD b') := by
    rw [frzL_set, frzL_map fun _ => frz_plain, frz_plain]
  have hni : D.noIL ((bs.map plainD).set i (plainD b')) = true := by rw [← hs]; exact noIL_map fun _ => noI_plain
  have hif : D.immL ((bs.map plainD).set i (plainD b')) = true := by rw [← hs]; exact immL_map fun _ => by simp
  have i4 : D.immL (bs.map plainD) = true := immL_map fun _ => by simp
  have hle : (bs.map plainD).length ≤ sizeLine := le_slz' (by rw [List.length_map]; omega)
  have f4 : D.frzL (bs.map plainD) = bs.map plainD := frzL_map fun _ => frz_plain
  generalize bookD true ns (bs.set i b') = R at g ⊢
  have p1 : (plainD b').imm = true := by simp [plainD]
  have p2 : (plainD b').frz = plainD b' := frz_plain
  obtain ⟨x, hx⟩ : ∃ x, plainD b' = .tup x := ⟨_, rfl⟩
  rw [hx] at g h1 hf hni hif p1 p2 ⊢
  unfold bookD fieldsB
  generalize (bs.map plainD).set i (.tup x) = L2 at h1 g hf hni hif ⊢
  generalize bs.map plainD = L at h1 hok i4 hle f4 ⊢
  simp only [sqD_t, sqD_f] at g
  simp (disch := first | omega | decide | simp) [b21, hni, hif, ixf0, ixf2, g, h1, hok, hf, i4, hle, f4, p1, p2]
theorem fToldMore {n : Nat} {ns : List Str} {bs : List Bal} {i x y : Nat} {b : Bal} (hb : bs[i]? = some b) (hx : x < ns.length) (hy : y < ns.length) (hxy : x ≠ y) (hw : b.ws.length < 20) (hn : ∀ x ∈ ns, x.length ≤ 1000000) (ok : okBook ns (bs.set i (addW b x y)) = true) (hl : bs.length ≤ 1000) :
    (semN P (n + 6)).fn false 22 [bookD false ns bs, .int i, .int x, .int y] = some (.ret (bookD true ns (bs.set i (addW b x y)))) := by
  obtain ⟨hi, hb'⟩ := List.getElem?_eq_some_iff.mp hb
  have g := fExchanged (n := n) (b' := addW b x y) hi hn ok hl
  have q1 := fRequireBallot (n := n + 3) (ns := ns) (bs := bs) (x := (i : Int)) hl
  have q2 := fRequireOption (n := n + 4) (ns := ns) (bs := bs) (x := (x : Int))
  have q3 := fRequireOption (n := n + 4) (ns := ns) (bs := bs) (x := (y : Int))
  rw [if_pos (by omega)] at q1 q2 q3
  rw [fn_at (fd := b22) rfl rfl]
  generalize bookD true ns (bs.set i (addW b x y)) = R at g ⊢
  have pa : plainD (addW b x y) = .tup [.int b.w, .tup (b.os.map D.int), .tup ((b.ws.map fun p => D.tup [.int p.1, .int p.2]) ++ [.tup [.int x, .int y]])] := by simp [plainD, addW]
  rw [pa] at g
  have pb : (bs.map plainD)[i]? = some (.tup [.int b.w, .tup (b.os.map D.int), .tup (b.ws.map fun p => D.tup [.int p.1, .int p.2])]) := by
    rw [List.getElem?_map, hb]; rfl
  have hwl : (b.ws.map fun p => D.tup [.int p.1, .int p.2]).length = b.ws.length := List.length_map ..
  have f1 : D.frzL (b.ws.map fun p => D.tup [.int p.1, .int p.2]) = b.ws.map fun p => D.tup [.int p.1, .int p.2] := frzL_map fun _ => by simp
  have f2 : D.immL (b.ws.map fun p => D.tup [.int p.1, .int p.2]) = true := immL_map fun _ => by simp
  have f3 : D.immL (b.os.map D.int) = true := immL_map fun _ => by simp
  have f4 : D.frzL (b.os.map D.int) = b.os.map D.int := frzL_map fun _ => by simp
  have i4 : D.immL (bs.map plainD) = true := immL_map fun _ => by simp
  generalize (b.ws.map fun p => D.tup [.int p.1, .int p.2]) = WS at *
  generalize b.os.map D.int = OS at *
  have hne : ¬ (x : Int) = y := by omega
  have h20 : ¬ (b.ws.length : Int) = 20 := by omega
  unfold bookD fieldsB at g q1 q2 q3 ⊢
  generalize bs.map plainD = L at *
  obtain ⟨hi2, pb'⟩ := List.getElem?_eq_some_iff.mp pb
  have hsz : WS.length + 1 ≤ sizeLine := le_slz' (by omega)
  have hadd : ∀ ρ, binR .add (.val (.tup WS)) (.val (.tup [.tup [.int (x : Int), .int (y : Int)]])) ρ = .ok (.val (.tup (WS ++ [.tup [.int (x : Int), .int (y : Int)]]))) ρ := fun ρ => if_pos ⟨rfl, hsz⟩
  simp (disch := first | omega | decide | simp) [b22, hadd, ixf2, q1, q2, q3, g, pb', hi2, hwl, hne, h20, f1, f2, f3, f4, i4, hsz]
end K85
set_option Elab.async false
set_option linter.all false
set_option maxRecDepth 100000
set_option maxHeartbeats 4000000
/-! K85N: answers, open pairs, kinds. Printed from D85f.src. -/
namespace K85
open PySem L2 SL
theorem sum_le {bs : List Bal} {c : Int} (h : ∀ b ∈ bs, b.w ≤ c) : (bs.map Bal.w).sum ≤ c * bs.length := by
  induction bs with
  | nil => simp
  | cons b bs ih =>
    have h1 := h b (by simp)
    have h2 := ih fun c hc => h c (by simp [hc])
    simp only [List.map_cons, List.sum_cons, List.length_cons, Int.natCast_add, Int.mul_add]
    omega
/-- ballots of a good book of drawn ones -/
structure Fair (s : Nat) (b : Bal) : Prop where
  good : goodBallot s b = true
  w : b.w ≤ 999983
theorem fair_ok {ns : List Str} {bs : List Bal} (hn : goodNames ns = true) (hb : 1 ≤ bs.length ∧ bs.length ≤ 8) (h : ∀ b ∈ bs, Fair ns.length b) : okBook ns bs = true :=
  ok_of hn hb (fun b hb => (h b hb).good) (by have := sum_le fun b hb => (h b hb).w; omega)
theorem Drawn.fair {s : Nat} {b : Bal} (h : Drawn s b) : Fair s b := ⟨h.good, h.w⟩
theorem Drawn.add {s : Nat} {b : Bal} {x y : Nat} (h : Drawn s b) (hx : x < s) (hy : y < s) (hxy : x ≠ y) : Fair s (addW b x y) := by
  obtain ⟨h1, h2, h3, h4⟩ := h
  refine ⟨?_, h2⟩
  obtain ⟨a, b, c⟩ := goodBallot_of h1
  unfold goodBallot
  simp only [Bool.and_eq_true, decide_eq_true_eq]
  refine ⟨a, b, ?_⟩
  obtain ⟨c1, c2⟩ := goodWords_all c
  unfold goodWords
  rw [Bool.and_eq_true, decide_eq_true_eq, List.all_eq_true]
  refine ⟨by simp [addW]; omega, fun p hp => ?_⟩
  simp only [addW, List.mem_append, List.mem_singleton] at hp
  rcases hp with hp | rfl
  · exact c2 p hp
  · simp [okWord]; omega
theorem fair_set {s : Nat} {bs : List Bal} {i : Nat} {b' : Bal} (h : ∀ b ∈ bs, Drawn s b) (k : Fair s b') : ∀ b ∈ bs.set i b', Fair s b := fun b hb => by
  rcases List.mem_or_eq_of_mem_set hb with hb | rfl
  · exact (h b hb).fair
  · exact k
/-- what stays the same -/
structure Hyp (ns : List Str) (bs : List Bal) : Prop where
  nm : goodNames ns = true
  sh : ∀ x ∈ ns, x.length ≤ 1000000
  ml : 1 ≤ bs.length ∧ bs.length ≤ 8
  sl : 1 ≤ ns.length ∧ ns.length ≤ 8
  dr : ∀ b ∈ bs, Drawn ns.length b
theorem op_ne {s x y : Nat} {b : Bal} (h : opB s b x y = true) : x ≠ y ∨ warsh (R0 b) s x x = false := by
  by_cases e : x = y
  · subst e
    refine .inr ?_
    unfold opB at h
    revert h
    cases warsh (R0 b) s x x <;> simp
  · exact .inl e
theorem warsh_up {R : Nat → Nat → Bool} {x y : Nat} (h : R x y = true) : ∀ m, warsh R m x y = true
  | 0 => by rw [warsh]; exact h
  | m + 1 => by
    have ih := warsh_up h m
    rw [warsh]; unfold stepW; rw [ih]; simp
theorem R0_self {b : Bal} {x : Nat} : R0 b x x = true := R0_iff.mpr (.inl (.inl rfl))
theorem op_ne' {s x y : Nat} {b : Bal} (h : opB s b x y = true) : x ≠ y := by
  rcases op_ne h with h | h
  · exact h
  · rw [warsh_up R0_self] at h; cases h
@[simp] theorem frz_fields {ns : List Str} {bs : List Bal} : D.frzL (fieldsB ns bs) = fieldsB ns bs := by
  have a1 : D.frzL (bs.map plainD) = bs.map plainD := frzL_map fun _ => by simp
  have a2 : D.frzL (bs.map (toldB ns.length)) = bs.map (toldB ns.length) := frzL_map fun _ => by simp
  unfold fieldsB
  simp [a1, a2]
theorem fAnswers {n : Nat} {ns : List Str} {bs : List Bal} {i x y : Nat} {b : Bal} (H : Hyp ns bs) (hb : bs[i]? = some b) (hx : x < ns.length) (hy : y < ns.length) (ho : opB ns.length b x y = true) :
    (semN P (n + 7)).fn false 25 [bookD false ns bs, .int i, .int x, .int y] = some (.ret (.tup [bookD false ns (bs.set i (addW b x y)), bookD false ns (bs.set i (addW b y x))])) := by
  obtain ⟨hi, hb'⟩ := List.getElem?_eq_some_iff.mp hb
  have hd : Drawn ns.length b := H.dr b (hb' ▸ List.getElem_mem hi)
  have hxy := op_ne' ho
  have hl : bs.length ≤ 1000 := by have := H.ml; omega
  have k1 := fair_ok H.nm (by rw [List.length_set]; exact H.ml) (fair_set (i := i) H.dr (hd.add hx hy hxy))
  have k2 := fair_ok H.nm (by rw [List.length_set]; exact H.ml) (fair_set (i := i) H.dr (hd.add hy hx hxy.symm))
  have w1 : b.ws.length < 20 := by have := hd.wl; omega
  have g1 := fToldMore (n := n) hb hx hy hxy w1 H.sh k1 hl
  have g2 := fToldMore (n := n) hb hy hx hxy.symm w1 H.sh k2 hl
  have q1 := fRequireBallot (n := n + 4) (ns := ns) (bs := bs) (x := (i : Int)) hl
  have q2 := fRequireOption (n := n + 5) (ns := ns) (bs := bs) (x := (x : Int))
  have q3 := fRequireOption (n := n + 5) (ns := ns) (bs := bs) (x := (y : Int))
  have q4 := fIsOpen (n := n + 5) hb hx hy
  rw [if_pos (by omega)] at q1 q2 q3
  rw [ho] at q4
  rw [fn_at (fd := b25) rfl rfl]
  unfold bookD at q1 q2 q3 q4 g1 g2 ⊢
  simp (disch := first | omega | decide | simp) [b25, q1, q2, q3, q4, g1, g2]
theorem fAnsBallot {n : Nat} {ns : List Str} {bs : List Bal} {i x y : Int} (hl : bs.length ≤ 1000) (h : ¬ (0 ≤ i ∧ i < bs.length)) : (semN P (n + 3)).fn false 25 [bookD false ns bs, .int i, .int x, .int y] = some (.exc 7 [.int i]) := by
  have q1 := fRequireBallot (n := n) (ns := ns) (x := i) hl
  rw [if_neg h] at q1
  rw [fn_at (fd := b25) rfl rfl]
  unfold bookD at q1 ⊢
  simp [b25, q1]
theorem fAnsOne {n : Nat} {ns : List Str} {bs : List Bal} {i x y : Int} (hl : bs.length ≤ 1000) (h : 0 ≤ i ∧ i < bs.length) (hx : ¬ (0 ≤ x ∧ x < ns.length)) : (semN P (n + 3)).fn false 25 [bookD false ns bs, .int i, .int x, .int y] = some (.exc 6 [.int x]) := by
  have q1 := fRequireBallot (n := n) (ns := ns) (x := i) hl
  have q2 := fRequireOption (n := n + 1) (ns := ns) (bs := bs) (x := x)
  rw [if_pos h] at q1
  rw [if_neg hx] at q2
  rw [fn_at (fd := b25) rfl rfl]
  unfold bookD at q1 q2 ⊢
  simp [b25, q1, q2]
theorem fAnsTwo {n : Nat} {ns : List Str} {bs : List Bal} {i x y : Int} (hl : bs.length ≤ 1000) (h : 0 ≤ i ∧ i < bs.length) (hx : 0 ≤ x ∧ x < ns.length) (hy : ¬ (0 ≤ y ∧ y < ns.length)) : (semN P (n + 3)).fn false 25 [bookD false ns bs, .int i, .int x, .int y] = some (.exc 6 [.int y]) := by
  have q1 := fRequireBallot (n := n) (ns := ns) (x := i) hl
  have q2 := fRequireOption (n := n + 1) (ns := ns) (bs := bs) (x := x)
  have q3 := fRequireOption (n := n + 1) (ns := ns) (bs := bs) (x := y)
  rw [if_pos h] at q1
  rw [if_pos hx] at q2
  rw [if_neg hy] at q3
  rw [fn_at (fd := b25) rfl rfl]
  unfold bookD at q1 q2 q3 ⊢
  simp [b25, q1, q2, q3]
theorem fAnsNot {n : Nat} {ns : List Str} {bs : List Bal} {i x y : Nat} {b : Bal} (hl : bs.length ≤ 1000) (hb : bs[i]? = some b) (hx : x < ns.length) (hy : y < ns.length) (ho : opB ns.length b x y = false) :
    (semN P (n + 3)).fn false 25 [bookD false ns bs, .int i, .int x, .int y] = some (.exc 8 [.int y, .int x, .int i]) := by
  obtain ⟨hi, hb'⟩ := List.getElem?_eq_some_iff.mp hb
  have q1 := fRequireBallot (n := n) (ns := ns) (x := (i : Int)) hl
  have q2 := fRequireOption (n := n + 1) (ns := ns) (bs := bs) (x := (x : Int))
  have q3 := fRequireOption (n := n + 1) (ns := ns) (bs := bs) (x := (y : Int))
  have q4 := fIsOpen (n := n + 1) hb hx hy
  rw [if_pos (by omega)] at q1 q2 q3
  rw [ho] at q4
  rw [fn_at (fd := b25) rfl rfl]
  unfold bookD at q1 q2 q3 q4 ⊢
  simp [b25, q1, q2, q3, q4]
theorem fKind1 {n : Nat} {ns : List Str} {bs : List Bal} {i x y : Int} (hl : bs.length ≤ 1000) (h : ¬ (0 ≤ i ∧ i < bs.length)) : (semN P (n + 4)).fn false 35 [bookD false ns bs, .int i, .int x, .int y] = some (.ret (.tup [.int 1, .int i, .int 0, .int 0])) := by
  have q := fAnsBallot (n := n) (ns := ns) (x := x) (y := y) hl h
  rw [fn_at (fd := b35) rfl rfl]
  unfold bookD at q ⊢
  simp [b35, q]
theorem fKind2 {n : Nat} {ns : List Str} {bs : List Bal} {i x y z : Int} (q : (semN P (n + 3)).fn false 25 [bookD false ns bs, .int i, .int x, .int y] = some (.exc 6 [.int z])) : (semN P (n + 4)).fn false 35 [bookD false ns bs, .int i, .int x, .int y] = some (.ret (.tup [.int 2, .int z, .int 0, .int 0])) := by
  rw [fn_at (fd := b35) rfl rfl]
  unfold bookD at q ⊢
  simp [b35, q]
theorem fKind3 {n : Nat} {ns : List Str} {bs : List Bal} {i x y : Nat} {b : Bal} (hl : bs.length ≤ 1000) (hb : bs[i]? = some b) (hx : x < ns.length) (hy : y < ns.length) (ho : opB ns.length b x y = false) :
    (semN P (n + 4)).fn false 35 [bookD false ns bs, .int i, .int x, .int y] = some (.ret (.tup [.int 3, .int i, .int x, .int y])) := by
  have q := fAnsNot (n := n) hl hb hx hy ho
  have x1 : List.idxOf? 2 [5, 4, 2] = some 2 := by decide
  have x2 : List.idxOf? 4 [5, 4, 2] = some 1 := by decide
  have x3 : List.idxOf? 5 [5, 4, 2] = some 0 := by decide
  rw [fn_at (fd := b35) rfl rfl]
  unfold bookD at q ⊢
  simp [b35, q, x1, x2, x3]
end K85
set_option Elab.async false
set_option linter.all false
set_option maxRecDepth 100000
set_option maxHeartbeats 4000000
/-! K85O: the open pairs. Printed from D85g.src. -/
namespace K85
open PySem L2 SL
theorem flat_len {α β : Type} {f : α → List β} {c : Nat} : ∀ {l : List α}, (∀ x ∈ l, (f x).length ≤ c) → (l.flatMap f).length ≤ l.length * c
  | [], _ => by simp
  | x :: xs, h => by
    have h1 := h x (by simp)
    have h2 := flat_len (l := xs) fun y hy => h y (by simp [hy])
    rw [List.flatMap_cons, List.length_append, List.length_cons, Nat.succ_mul]
    omega
def tri (i a c : Int) : D := .tup [.int i, .int a, .int c]
def dueC (s : Nat) (b : Bal) (i a : Nat) : List D := (List.range (s - (a + 1))).flatMap fun k => if opB s b a (a + 1 + k) then [tri i a ((a : Int) + 1 + (k : Int))] else []
def dueA (s : Nat) (b : Bal) (i : Nat) : List D := (List.range s).flatMap (dueC s b i)
def due (s : Nat) (bs : List Bal) : List D := (List.range bs.length).flatMap fun i => match bs[i]? with
  | some b => dueA s b i
  | none => []
theorem dueC_len {s : Nat} {b : Bal} {i a : Nat} : (dueC s b i a).length ≤ s := by
  have := flat_len (c := 1) (l := List.range (s - (a + 1))) (f := fun k => if opB s b a (a + 1 + k) then [tri i a ((a : Int) + 1 + (k : Int))] else []) fun k _ => by split <;> simp
  rw [List.length_range] at this
  unfold dueC
  omega
theorem dueA_len {s : Nat} {b : Bal} {i : Nat} : (dueA s b i).length ≤ s * s := by
  have := flat_len (c := s) (l := List.range s) (f := dueC s b i) fun k _ => dueC_len
  rwa [List.length_range] at this
theorem due_len {s : Nat} {bs : List Bal} : (due s bs).length ≤ bs.length * (s * s) := by
  have := flat_len (c := s * s) (l := List.range bs.length) (f := fun i => match bs[i]? with
  | some b => dueA s b i
  | none => []) fun k _ => by
    split
    · exact dueA_len
    · simp
  rwa [List.length_range] at this
theorem due_mem {s : Nat} {bs : List Bal} {d : D} (h : d ∈ due s bs) : ∃ (i a c : Nat) (b : Bal), d = tri i a c ∧ bs[i]? = some b ∧ a < c ∧ c < s ∧ opB s b a c = true := by
  unfold due at h
  obtain ⟨i, _, h⟩ := List.mem_flatMap.mp h
  cases hb : bs[i]? with
  | none => rw [hb] at h; cases h
  | some b =>
    rw [hb] at h
    obtain ⟨a, _, h⟩ := List.mem_flatMap.mp h
    obtain ⟨k, hk, h⟩ := List.mem_flatMap.mp h
    split at h
    · rename_i ho
      have := List.mem_range.mp hk
      refine ⟨i, a, a + 1 + k, b, ?_, hb, by omega, by omega, ho⟩
      rw [List.mem_singleton.mp h]
      simp [tri]
    · cases h
theorem due_tr {s : Nat} {bs : List Bal} : ∀ d ∈ due s bs, Tr 1 d := fun d hd => by
  obtain ⟨i, a, c, b, rfl, _⟩ := due_mem hd
  refine .tup (by simp) fun e he => ?_
  simp only [List.mem_cons, List.not_mem_nil, or_false] at he
  rcases he with rfl | rfl | rfl <;> exact .int
theorem due_frz {s : Nat} {bs : List Bal} : D.frzL (due s bs) = due s bs := by
  have : ∀ l : List D, (∀ d ∈ l, Tr 1 d) → D.frzL l = l := fun l => by
    induction l with
    | nil => intro _; simp
    | cons d l ih => intro h; rw [frzL_cons, (h d (by simp)).frz, ih fun d hd => h d (by simp [hd])]
  exact this _ due_tr
theorem due_imm {s : Nat} {bs : List Bal} : D.immL (due s bs) = true := by
  have : ∀ l : List D, (∀ d ∈ l, ∃ i a c : Int, d = tri i a c) → D.immL l = true := fun l => by
    induction l with
    | nil => intro _; simp
    | cons d l ih =>
      intro h
      obtain ⟨i, a, c, e⟩ := h d (by simp)
      subst e
      simp [tri, ih fun d hd => h d (by simp [hd])]
  exact this _ fun d hd => by
    obtain ⟨i, a, c, b, rfl, _⟩ := due_mem hd
    exact ⟨_, _, _, rfl⟩
section
variable {n : Nat} {ns : List Str} {bs : List Bal} {i a : Nat} {b : Bal}
theorem op3 (hb : bs[i]? = some b) (ha : a < ns.length) {acc : List D} (hl : acc.length + (dueC ns.length b i a).length ≤ sizeLine) :
    loopM [3] (Tg.nm 3) (evalC (semN P (n + 1)) false [.e (.call 23 [.var 0, .var 1, .var 2, .var 3])]) (evalM (semN P (n + 1)) false [] fun acc ρ => itemE (evalE (semN P (n + 1)) false (.tup [.var 1, .var 2, .var 3]) ρ) acc)
      ((List.range (ns.length - (a + 1))).map fun (k : Nat) => D.int ((a : Int) + 1 + (k : Int))) acc [some (bookD false ns bs), some (.int i), some (.int a), none] = .ok (acc ++ dueC ns.length b i a) [some (bookD false ns bs), some (.int i), some (.int a), none] := by
  refine loopM_fm (m := sizeLine) _ (fun k => if opB ns.length b a (a + 1 + k) then [tri i a ((a : Int) + 1 + (k : Int))] else []) (fun k hk acc hl => ⟨_, rfl, ?_⟩) hl
  have hk := List.mem_range.mp hk
  have g := fIsOpen (n := n) (x := a) (y := a + 1 + k) hb ha (by omega)
  have hc : ((a + 1 + k : Nat) : Int) = (a : Int) + 1 + (k : Int) := by omega
  rw [hc] at g
  unfold bookD at g ⊢
  generalize (a : Int) + 1 + (k : Int) = c at g hl ⊢
  cases ho : opB ns.length b a (a + 1 + k) with
  | false =>
    rw [ho] at g
    simp [g]
  | true =>
    rw [ho] at g hl
    have e1 : evalC (semN P (n + 1)) false [.e (.call 23 [.var 0, .var 1, .var 2, .var 3])] [some (.ins false 9 (fieldsB ns bs)), some (.int i), some (.int a), some (.int c)] = .ok true [some (.ins false 9 (fieldsB ns bs)), some (.int i), some (.int a), some (.int c)] := by simp [g]
    have e2 : (evalE (semN P (n + 1)) false (.tup [.var 1, .var 2, .var 3]) [some (.ins false 9 (fieldsB ns bs)), some (.int i), some (.int a), some (.int c)]).kp = .ok (tri i a c) [some (.ins false 9 (fieldsB ns bs)), some (.int i), some (.int a), some (.int c)] := by simp [tri]
    have hl' : acc.length < sizeLine := by simp at hl; omega
    refine Eq.trans (congrArg (fun r => cm1 r _ acc [3]) e1) ?_
    refine (cm1_t (m_nil.trans (itemE_ok e2 hl'))).trans ?_
    simp
theorem iter2 {lo hi : Nat} {keep : Nat → Bool} {ρ : SL.Env} (h : hi ≤ 1000) (hl : lo ≤ 1000) : iterR .range2 [.val (.int ((lo : Int) + 1)), .val (.int (hi : Int))] keep ρ = .ok ((List.range (hi - (lo + 1))).map fun (k : Nat) => D.int ((lo : Int) + 1 + (k : Int))) ρ := by
  have e : iterR .range2 [.val (.int ((lo : Int) + 1)), .val (.int (hi : Int))] keep ρ = if (-(2 ^ 62) ≤ (lo : Int) + 1 ∧ (lo : Int) + 1 < 2 ^ 62) ∧ -(2 ^ 62) ≤ (hi : Int) ∧ (hi : Int) < 2 ^ 62 then .ok ((List.range ((hi : Int) - ((lo : Int) + 1)).toNat).map fun (k : Nat) => D.int ((lo : Int) + 1 + (k : Int))) ρ else .bad := by unfold iterR; rfl
  rw [e, if_pos (by omega), show ((hi : Int) - ((lo : Int) + 1)).toNat = hi - (lo + 1) from by omega]
theorem op2 (hs : ns.length ≤ 8) (hb : bs[i]? = some b) {acc : List D} (hl : acc.length + (dueA ns.length b i).length ≤ sizeLine) :
    loopM [2, 3] (Tg.nm 2) (evalC (semN P (n + 1)) false []) (evalM (semN P (n + 1)) false [.mk (.nm 3) .range2 [.bin .add (.var 2) (.int 1), .fld (.var 0) 6] [.e (.call 23 [.var 0, .var 1, .var 2, .var 3])]] fun acc ρ => itemE (evalE (semN P (n + 1)) false (.tup [.var 1, .var 2, .var 3]) ρ) acc)
      ((List.range ns.length).map fun (k : Nat) => D.int k) acc [some (bookD false ns bs), some (.int i), none, none] = .ok (acc ++ dueA ns.length b i) [some (bookD false ns bs), some (.int i), none, none] := by
  refine loopM_fm (m := sizeLine) _ (dueC ns.length b i) (fun a ha acc hl => ⟨_, rfl, ?_⟩) hl
  have ha := List.mem_range.mp ha
  have g := op3 (n := n) hb ha hl
  have e1 : evalC (semN P (n + 1)) false [] [some (bookD false ns bs), some (.int i), some (.int a), none] = .ok true [some (bookD false ns bs), some (.int i), some (.int a), none] := by simp
  refine Eq.trans (congrArg (fun r => cm1 r _ acc [2, 3]) e1) ?_
  have i2 := fun keep ρ => iter2 (lo := a) (hi := ns.length) (keep := keep) (ρ := ρ) (by omega) (by omega)
  refine (cm1_t (acc' := acc ++ dueC ns.length b i a) (ρ' := [some (bookD false ns bs), some (.int i), some (.int a), none]) ?_).trans ?_
  · rw [m_cons]
    have h1 : evalEs (semN P (n + 1)) false [.bin .add (.var 2) (.int 1), .fld (.var 0) 6] [some (bookD false ns bs), some (.int i), some (.int a), none] = .ok [.val (.int ((a : Int) + 1)), .val (.int ns.length)] [some (bookD false ns bs), some (.int i), some (.int a), none] := by
      unfold bookD fieldsB; simp [ixf1]
    rw [h1, bnd_eq, Res.bind_ok, bnd_eq, i2, Res.bind_ok]
    exact g
  · simp
theorem fOpenPairs (H : Hyp ns bs) : (semN P (n + 2)).fn false 24 [bookD false ns bs] = some (.ret (.tup (due ns.length bs))) := by
  rw [fn_at (fd := b24) rfl rfl]
  have hm := H.ml
  have hs := H.sl
  have hz : Sm bs.length := sm_of (by omega)
  have hz2 : Sm ns.length := sm_of (by omega)
  have g0 := fLen (n := n) (ns := ns) (bs := bs) (by omega)
  have hdl : (due ns.length bs).length ≤ 512 := by
    have h1 := due_len (s := ns.length) (bs := bs)
    have h2 : ns.length * ns.length ≤ 8 * 8 := Nat.mul_le_mul hs.2 hs.2
    have h3 : bs.length * (ns.length * ns.length) ≤ 8 * (8 * 8) := Nat.mul_le_mul hm.2 h2
    omega
  have hsz := slz
  have lp : loopM [1, 2, 3] (Tg.nm 1) (evalC (semN P (n + 1)) false []) (evalM (semN P (n + 1)) false [.mk (.nm 2) .range1 [.fld (.var 0) 6] [], .mk (.nm 3) .range2 [.bin .add (.var 2) (.int 1), .fld (.var 0) 6] [.e (.call 23 [.var 0, .var 1, .var 2, .var 3])]] fun acc ρ => itemE (evalE (semN P (n + 1)) false (.tup [.var 1, .var 2, .var 3]) ρ) acc)
      ((List.range bs.length).map fun (k : Nat) => D.int k) [] [some (bookD false ns bs), none, none, none] = .ok ([] ++ due ns.length bs) [some (bookD false ns bs), none, none, none] := by
    refine loopM_fm (m := sizeLine) _ _ (fun i hi acc hl => ⟨_, rfl, ?_⟩) (by show [].length + (due ns.length bs).length ≤ sizeLine; simp; omega)
    have hi := List.mem_range.mp hi
    have hb := List.getElem?_eq_getElem hi
    rw [hb] at hl ⊢
    have g := op2 (n := n) (by omega) hb hl
    have e1 : evalC (semN P (n + 1)) false [] [some (bookD false ns bs), some (.int i), none, none] = .ok true [some (bookD false ns bs), some (.int i), none, none] := by simp
    refine Eq.trans (congrArg (fun r => cm1 r _ acc [1, 2, 3]) e1) ?_
    refine (cm1_t (acc' := acc ++ dueA ns.length bs[i] i) (ρ' := [some (bookD false ns bs), some (.int i), none, none]) ?_).trans ?_
    · rw [m_cons]
      have h1 : evalEs (semN P (n + 1)) false [.fld (.var 0) 6] [some (bookD false ns bs), some (.int i), none, none] = .ok [.val (.int ns.length)] [some (bookD false ns bs), some (.int i), none, none] := by
        unfold bookD fieldsB; simp [ixf1]
      have h2 : ∀ keep ρ, iterR .range1 [.val (.int ns.length)] keep ρ = .ok ((List.range ns.length).map fun (k : Nat) => D.int k) ρ := fun keep ρ => by simp [hz2]
      rw [h1, bnd_eq, Res.bind_ok, bnd_eq, h2, Res.bind_ok]
      exact g
    · simp
  have hl : (0 : Int) ≤ bs.length ∧ (bs.length : Int) < 9223372036854775808 := by omega
  have df := due_frz (s := ns.length) (bs := bs)
  have di := due_imm (s := ns.length) (bs := bs)
  have eM : evalE (semN P (n + 1)) false (.compM [1, 2, 3] (.tup [.var 1, .var 2, .var 3]) (.nm 1) .range1 [.leni 16 (.var 0)] [] [.mk (.nm 2) .range1 [.fld (.var 0) 6] [], .mk (.nm 3) .range2 [.bin .add (.var 2) (.int 1), .fld (.var 0) 6] [.e (.call 23 [.var 0, .var 1, .var 2, .var 3])]]) [some (bookD false ns bs), none, none, none] = .ok (.val (.lst true (due ns.length bs))) [some (bookD false ns bs), none, none, none] := by
    have h1 : evalEs (semN P (n + 1)) false [.leni 16 (.var 0)] [some (bookD false ns bs), none, none, none] = .ok [.val (.int bs.length)] [some (bookD false ns bs), none, none, none] := by
      unfold bookD at g0 ⊢; simp [g0, lenR, hl]
    have h2 : ∀ keep ρ, iterR .range1 [.val (.int bs.length)] keep ρ = .ok ((List.range bs.length).map fun (k : Nat) => D.int k) ρ := fun keep ρ => by simp [hz]
    rw [e_compM, if_neg (by simp), h1, bnd_eq, Res.bind_ok, bnd_eq, h2, Res.bind_ok]
    have hw : wipeE [some (bookD false ns bs), none, none, none] [1, 2, 3] = [some (bookD false ns bs), none, none, none] := rfl
    rw [hw, lp, bnd_eq, Res.bind_ok]; rfl
  generalize due ns.length bs = L at eM df di ⊢
  unfold bookD at eM ⊢
  simp [-e_compM, ↓eM, b24, df, di]
end
end K85
set_option Elab.async false
set_option linter.all false
set_option maxRecDepth 100000
set_option maxHeartbeats 4000000
/-! K85Q: the law's own told relations and open pairs. Printed from D85h.src. -/
namespace K85
open PySem L2 SL
def rowF (s : Nat) (f : Nat → Bool) : D := .lst false ((List.range s).map fun (y : Nat) => D.bl (f y))
def matL (s : Nat) (R : Nat → Nat → Bool) : D := .lst false ((List.range s).map fun a => rowF s (R a))
theorem mat_frz {s : Nat} {R : Nat → Nat → Bool} : (matD s R).frz = matL s R := by
  have : D.frzL ((List.range s).map fun a => rowD s (R a)) = (List.range s).map fun a => rowF s (R a) := by
    rw [frzL_mapG]
    refine List.map_congr_left fun a _ => ?_
    simp [rowD, rowF]
  simp [matD, matL, this]
def mats (s : Nat) (bs : List Bal) : List D := bs.map fun b => matD s (warsh (R0 b) s)
def matsL (s : Nat) (bs : List Bal) : List D := bs.map fun b => matL s (warsh (R0 b) s)
theorem mats_frz {s : Nat} {bs : List Bal} : D.frzL (mats s bs) = matsL s bs := by
  rw [mats, frzL_mapG]
  exact List.map_congr_left fun b _ => mat_frz
theorem fLawTolds {n s : Nat} {bs : List Bal} (hs : s ≤ 1000) (hl : bs.length ≤ 1000) (hb : ∀ b ∈ bs, BalS s b) : (semN P (n + 2)).fn false 34 [.int s, .lst false (bs.map lawD)] = some (.ret (.lst true (mats s bs))) := by
  rw [fn_at (fd := b34) rfl rfl]
  have e : compL [2] (Tg.nm 2) (evalC (semN P (n + 1)) false []) (evalE (semN P (n + 1)) false (.call 33 [.var 0, .var 2])) (bs.map lawD) [] [some (.int s), some (.lst false (bs.map lawD)), none] = .ok ([] ++ mats s bs) [some (.int s), some (.lst false (bs.map lawD)), none] :=
    compL_map _ _ (fun b hb' => ⟨_, rfl, by
      have g := fLawTold (n := n) hs (hb b hb')
      have hm : ∃ xs, matD s (warsh (R0 b) s) = .lst true xs := ⟨_, rfl⟩
      obtain ⟨xs, hx⟩ := hm
      have hf : (matD s (warsh (R0 b) s)).noF = true := by simp [matD, rowD]
      have hlf : (lawD b).frz = lawD b := lawD_frz
      have hl2 : ∃ ys, lawD b = .lst false ys := ⟨_, rfl⟩
      obtain ⟨ys, hy⟩ := hl2
      rw [hx] at g hf
      rw [hy] at g hlf
      rw [hx, hy]
      simp at hlf hf
      simp [g, hlf, hf]⟩) (by simpa using le_slz' (k := bs.length) (by omega))
  generalize bs.map lawD = L at e ⊢
  simp [b34, e]
theorem mat_at {s a c : Nat} {R : Nat → Nat → Bool} (ha : a < s) : ((List.range s).map fun a => rowF s (R a))[a]? = some (.lst false ((List.range s).map fun (y : Nat) => D.bl (R a y))) := by
  rw [List.getElem?_map, List.getElem?_range ha]; rfl
theorem row_at {s c : Nat} {f : Nat → Bool} (hc : c < s) : ((List.range s).map fun (y : Nat) => D.bl (f y))[c]? = some (.bl (f c)) := by
  rw [List.getElem?_map, List.getElem?_range hc]; rfl
theorem fLawTells {n s : Nat} {R : Nat → Nat → Bool} (hs : s ≤ 1000) : (semN P (n + 1)).fn false 36 [matL s R, .int s] = some (.ret (toldT s R)) := by
  rw [fn_at (fd := b36) rfl rfl]
  have hz : Sm s := sm_of (by omega)
  have hs2 : s ≤ sizeLine := le_slz' (by omega)
  have lp : ∃ r, forL (fun _ => true) (Tg.nm 3) (evalSs (semN P n) false b36_1) ((List.range s).map fun (k : Nat) => D.int k) [some (matL s R), some (.int s), some (.lst true []), none, none] = some r ∧ ∃ u, r = (.nx, [some (matL s R), some (.int s), some (.lst true ((List.range s).map fun a => D.tup (((List.range s).filter (R a)).map fun (b : Nat) => D.int b))), u, none]) := by
    refine forL_inv (fun k ρ => ∃ u, ρ = [some (matL s R), some (.int s), some (.lst true ((List.range k).map fun a => D.tup (((List.range s).filter (R a)).map fun (b : Nat) => D.int b))), u, none]) _ (n := 0) ?_ ?_ ⟨none, rfl⟩
    · rintro k d ρ hd ⟨u, rfl⟩
      obtain ⟨hk, rfl⟩ := range_get hd
      rw [Nat.zero_add]
      refine ⟨rfl, _, rfl, fun N Q' hN hQ => ?_⟩
      have hn := hN _ ⟨some (.int (k : Int)), rfl⟩
      rw [List.range_succ, List.map_append] at hn
      have hA : ((List.range k).map fun a => D.tup (((List.range s).filter (R a)).map fun (b : Nat) => D.int b)).length < sizeLine := by rw [List.length_map, List.length_range]; omega
      generalize (List.range k).map (fun a => D.tup (((List.range s).filter (R a)).map fun (b : Nat) => D.int b)) = A at hn hA ⊢
      have e : compL [4] (Tg.nm 4) (evalC (semN P n) false [.e (.idx (.idx (.var 0) (.var 3)) (.var 4))]) (evalE (semN P n) false (.var 4)) ((List.range s).map fun (k : Nat) => D.int k) [] [some (matL s R), some (.int s), some (.lst true A), some (.int k), none] = .ok ([] ++ ((List.range s).filter (R k)).map fun (y : Nat) => D.int y) [some (matL s R), some (.int s), some (.lst true A), some (.int k), none] := by
        rw [← fm_filter]
        refine compL_fm _ _ (fun y hy => ⟨_, rfl, ?_⟩) (by simpa using hs2)
        have hy := List.mem_range.mp hy
        have h1 := mat_at (c := y) (R := R) hk
        have h2 := row_at (f := R k) hy
        have l1 : ((List.range s).map fun a => rowF s (R a)).length = s := by simp
        have l2 : ((List.range s).map fun (y : Nat) => D.bl (R k y)).length = s := by simp
        unfold matL
        generalize ((List.range s).map fun a => rowF s (R a)) = M at h1 l1 ⊢
        generalize ((List.range s).map fun (y : Nat) => D.bl (R k y)) = RR at h1 h2 l2
        obtain ⟨hl1, h1'⟩ := List.getElem?_eq_some_iff.mp h1
        obtain ⟨hl2, h2'⟩ := List.getElem?_eq_some_iff.mp h2
        cases hb : R k y <;> rw [hb] at h2' <;> simp [hl1, h1', hl2, h2', hb]
      have hf : D.frzL (((List.range s).filter (R k)).map fun (y : Nat) => D.int y) = ((List.range s).filter (R k)).map fun (y : Nat) => D.int y := frzL_map fun _ => by simp
      have hi : D.immL (((List.range s).filter (R k)).map fun (y : Nat) => D.int y) = true := immL_map fun _ => by simp
      simp only [List.map_cons, List.map_nil] at hn
      generalize (((List.range s).filter (R k)).map fun (y : Nat) => D.int y) = C at e hn hf hi
      unfold matL at e hn ⊢
      simp [b36_1, hz, e, hf, hi, hA]
      exact hn
    · rintro ρ ⟨u, rfl⟩
      rw [Nat.zero_add, List.length_map, List.length_range]
      exact ⟨rfl, u, rfl⟩
  obtain ⟨r, hr, u, rfl⟩ := lp
  have hf : D.frzL ((List.range s).map fun a => D.tup (((List.range s).filter (R a)).map fun (b : Nat) => D.int b)) = (List.range s).map fun a => D.tup (((List.range s).filter (R a)).map fun (b : Nat) => D.int b) := frzL_map fun _ => by simp
  have hi : D.immL ((List.range s).map fun a => D.tup (((List.range s).filter (R a)).map fun (b : Nat) => D.int b)) = true := immL_map fun _ => by simp
  unfold toldT
  generalize ((List.range s).map fun a => D.tup (((List.range s).filter (R a)).map fun (b : Nat) => D.int b)) = T at hr hf hi ⊢
  unfold matL at hr ⊢
  simp [b36, hz, hr, hf, hi]
/-! ### the law's own row of open pairs -/
section
variable {n : Nat} {s : Nat} {bs : List Bal} {i a : Nat} {b : Bal}
theorem tget {ρ : SL.Env} {ix iy iz x y : Nat} (h3 : ρ[3]? = some (some (.lst true (mats s bs)))) (hb : bs[i]? = some b) (hi : ρ[ix]? = some (some (.int i))) (hx : ρ[iy]? = some (some (.int x))) (hy : ρ[iz]? = some (some (.int y))) (h1 : x < s) (h2 : y < s) :
    evalE (semN P n) false (.idx (.idx (.idx (.var 3) (.var ix)) (.var iy)) (.var iz)) ρ = .ok (.val (.bl (warsh (R0 b) s x y))) ρ := by
  have m1 : (matsL s bs)[i]? = some (.lst false ((List.range s).map fun a => rowF s (warsh (R0 b) s a))) := by
    rw [matsL, List.getElem?_map, hb]; rfl
  have m2 := mat_at (c := y) (R := warsh (R0 b) s) h1
  have m3 := row_at (f := warsh (R0 b) s x) h2
  have hf := mats_frz (s := s) (bs := bs)
  generalize ((List.range s).map fun a => rowF s (warsh (R0 b) s a)) = M at m1 m2
  generalize ((List.range s).map fun (y : Nat) => D.bl (warsh (R0 b) s x y)) = RR at m2 m3
  generalize warsh (R0 b) s x y = v at m3 ⊢
  generalize mats s bs = A at h3 hf
  generalize matsL s bs = B at hf m1
  obtain ⟨l1, m1'⟩ := List.getElem?_eq_some_iff.mp m1
  obtain ⟨l2, m2'⟩ := List.getElem?_eq_some_iff.mp m2
  obtain ⟨l3, m3'⟩ := List.getElem?_eq_some_iff.mp m3
  simp [h3, hi, hx, hy, hf, l1, l2, l3, m1', m2', m3']
end
end K85
set_option Elab.async false
set_option linter.all false
set_option maxRecDepth 100000
set_option maxHeartbeats 4000000
/-! K85S: the law's row of open pairs is the program's. Printed from D85i.src. -/
namespace K85
open PySem L2 SL
section
variable {n : Nat} {s : Nat} {bs : List Bal} {i a : Nat} {b : Bal} {p0 p1 p4 p5 u7 u8 u9 : Option D} {E : SL.Env}
theorem flat_snoc {β : Type} {f : Nat → List β} {k : Nat} : (List.range (k + 1)).flatMap f = (List.range k).flatMap f ++ f k := by
  rw [List.range_succ, List.flatMap_append]; simp
theorem lgt {x y z : List D} {m : Nat} (h : x.length + (y ++ z).length ≤ m) : (x ++ y).length + z.length ≤ m := by
  simp only [List.length_append] at *; omega
theorem due1 (hs : s ≤ 8) (hb : bs[i]? = some b) (ha : a < s) {acc : List D} (hl : acc.length + (dueC s b i a).length ≤ 1000) :
    ∃ r, forL (fun _ => true) (Tg.nm 9) (evalSs (semN P n) false b37_1) ((List.range (s - (a + 1))).map fun (k : Nat) => D.int ((a : Int) + 1 + (k : Int))) (p0 :: p1 :: some (.int s) :: some (.lst true (mats s bs)) :: p4 :: p5 :: some (.lst true acc) :: some (.int i) :: some (.int a) :: u9 :: E) = some r ∧
      ∃ u9, r = (.nx, p0 :: p1 :: some (.int s) :: some (.lst true (mats s bs)) :: p4 :: p5 :: some (.lst true (acc ++ dueC s b i a)) :: some (.int i) :: some (.int a) :: u9 :: E) := by
  refine forL_inv (fun k ρ => k ≤ s - (a + 1) ∧ ∃ u9, ρ = p0 :: p1 :: some (.int s) :: some (.lst true (mats s bs)) :: p4 :: p5 :: some (.lst true (acc ++ (List.range k).flatMap fun k => if opB s b a (a + 1 + k) then [tri i a ((a : Int) + 1 + (k : Int))] else [])) :: some (.int i) :: some (.int a) :: u9 :: E) _ (n := 0) ?_ ?_ ⟨by omega, u9, by simp⟩
  · rintro k d ρ hd ⟨_, u, rfl⟩
    rw [List.getElem?_map] at hd
    obtain ⟨k', hk', rfl⟩ := Option.map_eq_some_iff.mp hd
    obtain ⟨hk, e⟩ := List.getElem?_eq_some_iff.mp hk'
    rw [List.length_range] at hk
    rw [List.getElem_range] at e
    subst e
    rw [Nat.zero_add]
    refine ⟨rfl, _, rfl, fun N Q' hN hQ => ?_⟩
    have hn := hN _ ⟨by omega, some (.int ((a : Int) + 1 + (k : Int))), rfl⟩
    rw [flat_snoc] at hn
    have hlen : ((List.range k).flatMap fun k => if opB s b a (a + 1 + k) then [tri i a ((a : Int) + 1 + (k : Int))] else []).length ≤ k * 1 := by
      have := flat_len (c := 1) (l := List.range k) (f := fun k => if opB s b a (a + 1 + k) then [tri i a ((a : Int) + 1 + (k : Int))] else []) fun k _ => by split <;> simp
      rwa [List.length_range] at this
    generalize ((List.range k).flatMap fun k => if opB s b a (a + 1 + k) then [tri i a ((a : Int) + 1 + (k : Int))] else []) = A at hn hlen ⊢
    have hc : (a : Int) + 1 + (k : Int) = ((a + 1 + k : Nat) : Int) := by omega
    rw [hc] at hn ⊢
    have hck : a + 1 + k < s := by omega
    unfold opB at hn
    generalize a + 1 + k = c at hn hck ⊢
    have t1 := tget (n := n) (s := s) (bs := bs) (ρ := p0 :: p1 :: some (.int s) :: some (.lst true (mats s bs)) :: p4 :: p5 :: some (.lst true (acc ++ A)) :: some (.int i) :: some (.int a) :: some (.int c) :: E) (ix := 7) (iy := 8) (iz := 9) (x := a) (y := c) rfl hb rfl rfl rfl ha hck
    have t2 := tget (n := n) (s := s) (bs := bs) (ρ := p0 :: p1 :: some (.int s) :: some (.lst true (mats s bs)) :: p4 :: p5 :: some (.lst true (acc ++ A)) :: some (.int i) :: some (.int a) :: some (.int c) :: E) (ix := 7) (iy := 9) (iz := 8) (x := c) (y := a) rfl hb rfl rfl rfl hck ha
    have hmk : (acc ++ A).length < sizeLine := by rw [slz, List.length_append]; omega
    rw [← List.append_assoc] at hn
    generalize acc ++ A = AA at t1 t2 hmk hn ⊢
    generalize mats s bs = TD at t1 t2 hn ⊢
    cases h1 : warsh (R0 b) s a c <;> cases h2 : warsh (R0 b) s c a <;> rw [h1] at t1 <;> rw [h2] at t2 <;> simp [h1, h2, tri] at hn <;> simp [-e_idx, ↓t1, ↓t2, b37_1, hmk] <;> exact hn
  · rintro ρ ⟨_, u, rfl⟩
    rw [Nat.zero_add, List.length_map, List.length_range]
    exact ⟨rfl, u, rfl⟩
theorem due2 (hs : s ≤ 8) (hb : bs[i]? = some b) {acc : List D} (hl : acc.length + (dueA s b i).length ≤ 900) :
    ∃ r, forL (fun _ => true) (Tg.nm 8) (evalSs (semN P n) false b37_2) ((List.range s).map fun (k : Nat) => D.int k) (p0 :: p1 :: some (.int s) :: some (.lst true (mats s bs)) :: p4 :: p5 :: some (.lst true acc) :: some (.int i) :: u8 :: u9 :: E) = some r ∧
      ∃ u8 u9, r = (.nx, p0 :: p1 :: some (.int s) :: some (.lst true (mats s bs)) :: p4 :: p5 :: some (.lst true (acc ++ dueA s b i)) :: some (.int i) :: u8 :: u9 :: E) := by
  refine forL_inv (fun k ρ => k ≤ s ∧ ∃ u8 u9, ρ = p0 :: p1 :: some (.int s) :: some (.lst true (mats s bs)) :: p4 :: p5 :: some (.lst true (acc ++ (List.range k).flatMap (dueC s b i))) :: some (.int i) :: u8 :: u9 :: E) _ (n := 0) ?_ ?_ ⟨by omega, u8, u9, by simp⟩
  · rintro k d ρ hd ⟨_, v8, v9, rfl⟩
    obtain ⟨hk, rfl⟩ := range_get hd
    rw [Nat.zero_add]
    have hlen : ((List.range k).flatMap (dueC s b i)).length ≤ k * s := by
      have := flat_len (c := s) (l := List.range k) (f := dueC s b i) fun k _ => dueC_len
      rwa [List.length_range] at this
    have hks : k * s ≤ 8 * 8 := Nat.mul_le_mul (by omega) hs
    have hd := dueC_len (s := s) (b := b) (i := i) (a := k)
    have hq : (acc ++ (List.range k).flatMap (dueC s b i)).length + (dueC s b i k).length ≤ 1000 := by
      rw [List.length_append]
      omega
    have key := due1 (n := n) (p0 := p0) (p1 := p1) (p4 := p4) (p5 := p5) (u9 := v9) (E := E) hs hb hk (acc := acc ++ (List.range k).flatMap (dueC s b i)) hq
    obtain ⟨r, hr, w9, er⟩ := key
    rw [er] at hr
    refine ⟨rfl, _, rfl, fun N Q' hN hQ => ?_⟩
    have hn := hN _ ⟨by omega, some (.int (k : Int)), w9, rfl⟩
    rw [flat_snoc, ← List.append_assoc] at hn
    have i2 := fun keep ρ => iter2 (lo := k) (hi := s) (keep := keep) (ρ := ρ) (by omega) (by omega)
    generalize (List.range k).flatMap (dueC s b i) = A at hr hn ⊢
    generalize acc ++ A = AA at hr hn ⊢
    generalize AA ++ dueC s b i k = BB at hr hn
    generalize mats s bs = TD at hr hn ⊢
    generalize ((List.range (s - (k + 1))).map fun (x : Nat) => D.int ((k : Int) + 1 + (x : Int))) = IT at hr i2
    simp [b37_2, i2, hr]
    exact hn
  · rintro ρ ⟨_, v8, v9, rfl⟩
    rw [Nat.zero_add, List.length_map, List.length_range]
    exact ⟨rfl, v8, v9, rfl⟩
theorem due3 (hs : s ≤ 8) (hm : bs.length ≤ 8) :
    ∃ r, forL (fun _ => true) (Tg.nm 7) (evalSs (semN P n) false b37_3) ((List.range bs.length).map fun (k : Nat) => D.int k) (p0 :: p1 :: some (.int s) :: some (.lst true (mats s bs)) :: p4 :: p5 :: some (.lst true []) :: u7 :: u8 :: u9 :: E) = some r ∧
      ∃ u7 u8 u9, r = (.nx, p0 :: p1 :: some (.int s) :: some (.lst true (mats s bs)) :: p4 :: p5 :: some (.lst true (due s bs)) :: u7 :: u8 :: u9 :: E) := by
  have hz : Sm s := sm_of (by omega)
  refine forL_inv (fun k ρ => k ≤ bs.length ∧ ∃ u7 u8 u9, ρ = p0 :: p1 :: some (.int s) :: some (.lst true (mats s bs)) :: p4 :: p5 :: some (.lst true ((List.range k).flatMap fun i => match bs[i]? with
    | some b => dueA s b i
    | none => [])) :: u7 :: u8 :: u9 :: E) _ (n := 0) ?_ ?_ ⟨by omega, u7, u8, u9, by simp⟩
  · rintro k d ρ hd ⟨_, v7, v8, v9, rfl⟩
    obtain ⟨hk, rfl⟩ := range_get hd
    rw [Nat.zero_add]
    have hb := List.getElem?_eq_getElem hk
    have hlen : ((List.range k).flatMap fun i => match bs[i]? with
      | some b => dueA s b i
      | none => []).length ≤ k * (s * s) := by
      have := flat_len (c := s * s) (l := List.range k) (f := fun i => match bs[i]? with
        | some b => dueA s b i
        | none => []) fun k _ => by
        split
        · exact dueA_len
        · simp
      rwa [List.length_range] at this
    have hks : s * s ≤ 8 * 8 := Nat.mul_le_mul hs hs
    have hks2 : k * (s * s) ≤ 8 * (8 * 8) := Nat.mul_le_mul (by omega) hks
    have hd := dueA_len (s := s) (b := bs[k]) (i := k)
    have key := due2 (n := n) (p0 := p0) (p1 := p1) (p4 := p4) (p5 := p5) (u8 := v8) (u9 := v9) (E := E) hs hb (acc := (List.range k).flatMap fun i => match bs[i]? with
      | some b => dueA s b i
      | none => []) (by omega)
    obtain ⟨r, hr, w8, w9, er⟩ := key
    rw [er] at hr
    refine ⟨rfl, _, rfl, fun N Q' hN hQ => ?_⟩
    have hn := hN _ ⟨by omega, some (.int (k : Int)), w8, w9, rfl⟩
    rw [flat_snoc, hb] at hn
    simp only [] at hn
    generalize ((List.range k).flatMap fun i => match bs[i]? with
      | some b => dueA s b i
      | none => []) = A at hr hn ⊢
    generalize A ++ dueA s bs[k] k = BB at hr hn
    generalize mats s bs = TD at hr hn ⊢
    simp [b37_3, hz, hr]
    exact hn
  · rintro ρ ⟨_, v7, v8, v9, rfl⟩
    rw [Nat.zero_add, List.length_map, List.length_range]
    exact ⟨rfl, v7, v8, v9, rfl⟩
end
end K85
set_option Elab.async false
set_option linter.all false
set_option maxRecDepth 100000
set_option maxHeartbeats 4000000
/-! K85T: the pairs that are not open. Printed from D85j.src. -/
namespace K85
open PySem L2 SL
section
variable {n : Nat} {ns : List Str} {bs : List Bal} {i a : Nat} {b : Bal} {p0 p1 p4 p5 p6 u9 : Option D} {E : SL.Env}
theorem tr4 {x y z w : Int} : Tr 1 (.tup [.int x, .int y, .int z, .int w]) := .tup (by simp) fun e he => by
  simp only [List.mem_cons, List.not_mem_nil, or_false] at he
  rcases he with rfl | rfl | rfl | rfl <;> exact .int
theorem kinds (hl : bs.length ≤ 1000) (hs : ns.length ≤ 8) (hb : bs[i]? = some b) (ha : a < ns.length) :
    ∃ r, forL (fun _ => true) (Tg.nm 9) (evalSs (semN P (n + 4)) false b37_7) ((List.range ns.length).map fun (k : Nat) => D.int k) (p0 :: p1 :: some (.int ns.length) :: some (.lst true (mats ns.length bs)) :: p4 :: p5 :: p6 :: some (.int i) :: some (.int a) :: u9 :: some (bookD false ns bs) :: E) = some r ∧
      ∃ u9, r = (.nx, p0 :: p1 :: some (.int ns.length) :: some (.lst true (mats ns.length bs)) :: p4 :: p5 :: p6 :: some (.int i) :: some (.int a) :: u9 :: some (bookD false ns bs) :: E) := by
  refine forL_inv (fun k ρ => ∃ u9, ρ = p0 :: p1 :: some (.int ns.length) :: some (.lst true (mats ns.length bs)) :: p4 :: p5 :: p6 :: some (.int i) :: some (.int a) :: u9 :: some (bookD false ns bs) :: E) _ (n := 0) ?_ ?_ ⟨u9, rfl⟩
  · rintro k d ρ hd ⟨v9, rfl⟩
    obtain ⟨hk, rfl⟩ := range_get hd
    refine ⟨rfl, _, rfl, fun N Q' hN hQ => ?_⟩
    have hn := hN _ ⟨some (.int (k : Int)), rfl⟩
    have t1 := tget (n := n + 4) (s := ns.length) (bs := bs) (ρ := p0 :: p1 :: some (.int ns.length) :: some (.lst true (mats ns.length bs)) :: p4 :: p5 :: p6 :: some (.int i) :: some (.int a) :: some (.int k) :: some (bookD false ns bs) :: E) (ix := 7) (iy := 8) (iz := 9) (x := a) (y := k) rfl hb rfl rfl rfl ha hk
    have t2 := tget (n := n + 4) (s := ns.length) (bs := bs) (ρ := p0 :: p1 :: some (.int ns.length) :: some (.lst true (mats ns.length bs)) :: p4 :: p5 :: p6 :: some (.int i) :: some (.int a) :: some (.int k) :: some (bookD false ns bs) :: E) (ix := 7) (iy := 9) (iz := 8) (x := k) (y := a) rfl hb rfl rfl rfl hk ha
    have g : opB ns.length b a k = false → (semN P (n + 4)).fn false 35 [bookD false ns bs, .int i, .int a, .int k] = some (.ret (.tup [.int 3, .int i, .int a, .int k])) := fun h => fKind3 (n := n) hl hb ha hk h
    have hc := (tr4 (x := 3) (y := i) (z := a) (w := k)).ne (by omega)
    unfold opB at g
    generalize mats ns.length bs = TD at t1 t2 hn ⊢
    unfold bookD at g t1 t2 hn ⊢
    cases h1 : warsh (R0 b) ns.length a k <;> cases h2 : warsh (R0 b) ns.length k a <;> rw [h1] at t1 g <;> rw [h2] at t2 g <;> simp at g <;> simp [-e_idx, ↓t1, ↓t2, b37_7, g, hc] <;> exact hn
  · rintro ρ ⟨v9, rfl⟩
    exact ⟨rfl, v9, rfl⟩
end
end K85
set_option Elab.async false
set_option linter.all false
set_option maxRecDepth 100000
set_option maxHeartbeats 4000000
/-! K85U: both answers, compared with the law's own. Printed from D85k.src. -/
namespace K85
open PySem L2 SL
def addH (b : Bal) (x y : Int) : Bal := ⟨false, false, false, false, b.w, b.os, b.ws ++ [(x, y)]⟩
theorem Drawn.addS {s : Nat} {b : Bal} {x y : Nat} (h : Drawn s b) (hx : x < s) (hy : y < s) : BalS s (addW b x y) := by
  obtain ⟨h1, h2, h3⟩ := h.bs
  refine ⟨h1, h2, fun p hp => ?_⟩
  simp only [addW, List.mem_append, List.mem_singleton] at hp
  rcases hp with hp | rfl
  · exact h3 p hp
  · simp only; omega
theorem balS_set {s : Nat} {bs : List Bal} {i : Nat} {b' : Bal} (h : ∀ b ∈ bs, Drawn s b) (k : BalS s b') : ∀ b ∈ bs.set i b', BalS s b := fun b hb => by
  rcases List.mem_or_eq_of_mem_set hb with hb | rfl
  · exact (h b hb).bs
  · exact k
section
variable {i : Nat} {HB : List D} {w : Int} {OS WS : List D}
theorem get3 {q0 q1 q2 q3 q4 q5 q6 q7 q8 q9 q10 q11 q12 q13 q14 q15 q16 q17 q18 q19 q21 : Option D} (h : HB[i]? = some (.lst true [.int w, .lst true OS, .lst true WS])) (hl : WS.length + 1 ≤ sizeLine) :
    okL 20 [(i : Int), 2] [q0, q1, q2, q3, q4, q5, q6, q7, q8, q9, q10, q11, q12, q13, q14, q15, q16, q17, q18, q19, some (.lst true HB), q21] = true ∧
    okL 20 [(i : Int)] [q0, q1, q2, q3, q4, q5, q6, q7, q8, q9, q10, q11, q12, q13, q14, q15, q16, q17, q18, q19, some (.lst true HB), q21] = true ∧
    okL 20 [] [q0, q1, q2, q3, q4, q5, q6, q7, q8, q9, q10, q11, q12, q13, q14, q15, q16, q17, q18, q19, some (.lst true HB), q21] = true ∧
    okAt 20 [(i : Int), 2] [q0, q1, q2, q3, q4, q5, q6, q7, q8, q9, q10, q11, q12, q13, q14, q15, q16, q17, q18, q19, some (.lst true HB), q21] = true ∧
    okAt 20 [(i : Int)] [q0, q1, q2, q3, q4, q5, q6, q7, q8, q9, q10, q11, q12, q13, q14, q15, q16, q17, q18, q19, some (.lst true HB), q21] = true ∧
    okN 20 [(i : Int), 2] 1 [q0, q1, q2, q3, q4, q5, q6, q7, q8, q9, q10, q11, q12, q13, q14, q15, q16, q17, q18, q19, some (.lst true HB), q21] = true := by
  obtain ⟨hi, e⟩ := List.getElem?_eq_some_iff.mp h
  have x2 : ixD 3 2 = some 2 := by decide
  refine ⟨?_, ?_, ?_, ?_, ?_, ?_⟩ <;> simp [okL, okAt, okN, getAt, hi, e, x2, hl]
theorem add3 {z : D} (h : HB[i]? = some (.lst true [.int w, .lst true OS, .lst true WS])) :
    atPath (addItem 2 [z]) [(i : Int)] (.lst true HB) = some (.lst true (HB.set i (.lst true [.int w, .lst true OS, .lst true (WS ++ [z])]))) := by
  obtain ⟨hi, e⟩ := List.getElem?_eq_some_iff.mp h
  have x2 : ixD 3 2 = some 2 := by decide
  simp [atPath, addItem, hi, e, x2]
end
section
variable {n : Nat} {ns : List Str} {bs : List Bal} {i : Nat} {b : Bal}
theorem two_at {A B : D} {k : Nat} (hk : k < 2) : ([A, B] : List D)[k]? = some (if k = 0 then A else B) := by
  obtain rfl | rfl : k = 0 ∨ k = 1 := by omega
  · rfl
  · rfl
theorem turn4 (H : Hyp ns bs) (hb : bs[i]? = some b) {x y o t k : Nat} (ho : o < ns.length) (ht : t < ns.length) (hk : k < 2) {NM : D} (hNM : NM.noI = true) {p0 p4 p5 p6 p7 p8 p9 p11 p13 p18 p19 p20 : Option D} {TD : List D} {N : SL.Env → Prop} {Q' : Fl × SL.Env → Prop}
    (hN : ∀ p18 p19 p20, N [p0, some (.lst true [NM, .lst false (bs.map lawD)]), some (.int ns.length), some (.lst true TD), p4, p5, p6, p7, p8, p9, some (bookD false ns bs), p11, some (tri i x y), p13, some (.int o), some (.int t), some (.tup [bookD false ns (bs.set i (addW b o t)), bookD false ns (bs.set i (addW b t o))]), some (.int k), p18, p19, p20, none]) :
    Wp (evalSs (semN P (n + 3)) false b37_4 [p0, some (.lst true [NM, .lst false (bs.map lawD)]), some (.int ns.length), some (.lst true TD), p4, p5, p6, p7, p8, p9, some (bookD false ns bs), p11, some (tri i x y), p13, some (.int o), some (.int t), some (.tup [bookD false ns (bs.set i (addW b o t)), bookD false ns (bs.set i (addW b t o))]), some (.int k), p18, p19, p20, none]) N Q' := by
  obtain ⟨f, hf⟩ : ∃ f, (if k = 0 then o else t) = f := ⟨_, rfl⟩
  obtain ⟨g, hg⟩ : ∃ g, (if k = 0 then t else o) = g := ⟨_, rfl⟩
  have hfl : f < ns.length := by rw [← hf]; split <;> omega
  have hgl : g < ns.length := by rw [← hg]; split <;> omega
  have c1 : ([D.int o, .int t] : List D)[k]? = some (.int f) := by rw [two_at hk, ← hf]; split <;> rfl
  have c2 : ([D.int t, .int o] : List D)[k]? = some (.int g) := by rw [two_at hk, ← hg]; split <;> rfl
  have c3 : ([bookD false ns (bs.set i (addW b o t)), bookD false ns (bs.set i (addW b t o))] : List D)[k]? = some (bookD false ns (bs.set i (addW b f g))) := by rw [two_at hk, ← hf, ← hg]; split <;> rfl
  obtain ⟨hi, hb'⟩ := List.getElem?_eq_some_iff.mp hb
  have hd : Drawn ns.length b := H.dr b (hb' ▸ List.getElem_mem hi)
  have hm := H.ml
  have hs := H.sl
  have g1 := fLawHanded (n := n + 2) (bs := bs) (by omega) (fun b hb => by have := (H.dr b hb).wl; omega)
  have hS : BalS ns.length (addH b f g) := let z := hd.addS hfl hgl; ⟨z.ol, z.oi, z.wi⟩
  have g2 := fLawTolds (n := n + 1) (s := ns.length) (bs := bs.set i (addH b f g)) (by omega) (by rw [List.length_set]; omega) (balS_set H.dr hS)
  have e21 : ∀ q0 q1 q3 q4 q5 q6 q7 q8 q9 q10 q11 q12 q13 q14 q15 q16 q17 q18 q19 q20 : Option D, compL [21] (Tg.nm 21) (evalC (semN P (n + 3)) false []) (evalE (semN P (n + 3)) false (.call 36 [.var 21, .var 2])) (matsL ns.length (bs.set i (addH b f g))) [] [q0, q1, some (.int ns.length), q3, q4, q5, q6, q7, q8, q9, q10, q11, q12, q13, q14, q15, q16, q17, q18, q19, q20, none] = .ok ([] ++ (bs.set i (addH b f g)).map (toldB ns.length)) [q0, q1, some (.int ns.length), q3, q4, q5, q6, q7, q8, q9, q10, q11, q12, q13, q14, q15, q16, q17, q18, q19, q20, none] := fun q0 q1 q3 q4 q5 q6 q7 q8 q9 q10 q11 q12 q13 q14 q15 q16 q17 q18 q19 q20 =>
    compL_map _ _ (fun c _ => ⟨_, rfl, by
      have g3 := fLawTells (n := n + 2) (s := ns.length) (R := warsh (R0 c) ns.length) (by omega)
      have hml : ∃ ys, matL ns.length (warsh (R0 c) ns.length) = .lst false ys ∧ D.frzL ys = ys := ⟨_, rfl, by
        rw [frzL_mapG]; exact List.map_congr_left fun a _ => by simp [rowF]⟩
      obtain ⟨ys, hy, hy2⟩ := hml
      have htl : ∃ zs, toldB ns.length c = .tup zs := ⟨_, rfl⟩
      obtain ⟨zs, hz⟩ := htl
      have hz3 : (toldB ns.length c).frz = toldB ns.length c := frz_toldB
      have hz2 : toldT ns.length (warsh (R0 c) ns.length) = .tup zs := hz
      have hz4 : (toldB ns.length c).noF = true := noF_toldB
      rw [hy, hz2] at g3
      rw [hz] at hz3 hz4
      rw [hy, hz]
      simp at hz3 hz4
      simp [g3, hy2, hz3, hz4]⟩) (by rw [List.length_set]; exact le_slz' (k := [].length + bs.length) (by simp; omega))
  -- the list that grows
  have hHB : (bs.map handD)[i]? = some (.lst true [.int b.w, .lst true (b.os.map D.int), .lst true (b.ws.map pairO)]) := by rw [List.getElem?_map, hb]; rfl
  have hz1 : (b.ws.map pairO).length + 1 ≤ sizeLine := le_slz' (by rw [List.length_map]; have := hd.wl; omega)
  have k1 := fun q0 q1 q2 q3 q4 q5 q6 q7 q8 q9 q10 q11 q12 q13 q14 q15 q16 q17 q18 q19 q21 => (get3 (q0 := q0) (q1 := q1) (q2 := q2) (q3 := q3) (q4 := q4) (q5 := q5) (q6 := q6) (q7 := q7) (q8 := q8) (q9 := q9) (q10 := q10) (q11 := q11) (q12 := q12) (q13 := q13) (q14 := q14) (q15 := q15) (q16 := q16) (q17 := q17) (q18 := q18) (q19 := q19) (q21 := q21) hHB hz1)
  have k2 := add3 (z := pairO ((f : Int), (g : Int))) hHB
  have hset : (bs.map handD).set i (.lst true [.int b.w, .lst true (b.os.map D.int), .lst true (b.ws.map pairO ++ [pairO ((f : Int), (g : Int))])]) = (bs.set i (addH b f g)).map handD := by
    rw [List.map_set]
    have : handD (addH b f g) = .lst true [.int b.w, .lst true (b.os.map D.int), .lst true (b.ws.map pairO ++ [pairO ((f : Int), (g : Int))])] := by simp [handD, addH]
    rw [this]
  rw [hset] at k2
  have hfH : D.frzL ((bs.set i (addH b f g)).map handD) = (bs.set i (addH b f g)).map lawD := frz_hand
  have hfL : D.frzL (bs.map lawD) = bs.map lawD := frz_law
  have hnF : D.noFL (bs.map handD) = true := noFL_map fun c => by
    have : D.noFL (c.ws.map pairO) = true := noFL_map fun _ => by simp [pairO]
    simp [handD, this]
  have hnI : D.noIL (bs.map lawD) = true := noIL_map fun c => by
    have : D.noIL (c.ws.map pairL) = true := noIL_map fun _ => by simp [pairL]
    simp [lawD, this]
  have hnI2 : D.noIL ((bs.set i (addH b f g)).map lawD) = true := noIL_map fun c => by
    have : D.noIL (c.ws.map pairL) = true := noIL_map fun _ => by simp [pairL]
    simp [lawD, this]
  have hnI3 : D.noIL ((bs.set i (addH b f g)).map handD) = true := noIL_map fun c => by
    have : D.noIL (c.ws.map pairO) = true := noIL_map fun _ => by simp [pairO]
    simp [handD, this]
  have hfL2 : D.frzL ((bs.set i (addH b f g)).map lawD) = (bs.set i (addH b f g)).map lawD := frz_law
  have hnM : D.noFL (mats ns.length (bs.set i (addH b f g))) = true := noFL_map fun c => by simp [matD, rowD]
  have hfM := mats_frz (s := ns.length) (bs := bs.set i (addH b f g))
  have hT : (bs.set i (addH b f g)).map (toldB ns.length) = (bs.set i (addW b f g)).map (toldB ns.length) := by
    rw [List.map_set, List.map_set]; rfl
  have hW : (bs.set i (addW b f g)).map (fun b => D.int b.w) = bs.map fun b => D.int b.w := by
    rw [List.map_set]
    exact set_eq (by rw [List.getElem?_map, hb]; rfl)
  have t1 := (tr_weights (bs := bs) (by omega)).ne (by omega)
  have t2 := (tr_names (ns := ns) (by omega)).ne (by omega)
  have t3 := (tr_told (s := ns.length) (bs := bs.set i (addW b f g)) (by omega) (by rw [List.length_set]; omega)).ne (by omega)
  have iT : D.immL ((bs.set i (addW b f g)).map (toldB ns.length)) = true := immL_map fun _ => by simp
  have fT : D.frzL ((bs.set i (addW b f g)).map (toldB ns.length)) = (bs.set i (addW b f g)).map (toldB ns.length) := frzL_map fun _ => by simp
  have iW : D.immL (bs.map fun b => D.int b.w) = true := immL_map fun _ => by simp
  rw [hT] at e21
  have hn := hN (some (.int f)) (some (.int g)) (some (.lst true ((bs.set i (addH b f g)).map handD)))
  generalize (bs.set i (addH b f g)).map handD = HB2 at k2 hfH hnI3 hn
  generalize (bs.set i (addH b f g)).map lawD = LB2 at g2 hfH hnI2 hfL2
  generalize mats ns.length (bs.set i (addH b f g)) = MD at g2 hnM hfM
  generalize matsL ns.length (bs.set i (addH b f g)) = ML at e21 hfM
  generalize bs.map handD = HB at g1 k1 k2 hnF hHB
  have hBf : ∃ fs, bookD false ns (bs.set i (addW b f g)) = .ins false 9 fs ∧ fs = [.tup (ns.map D.str), .int ns.length, .tup ((bs.set i (addW b f g)).map plainD), .tup (bs.map fun b => D.int b.w), .tup ((bs.set i (addW b f g)).map (toldB ns.length))] := ⟨_, rfl, by unfold fieldsB; rw [hW]⟩
  obtain ⟨fs, hBf, hfs⟩ := hBf
  rw [hBf] at c3
  subst hfs
  generalize (bs.set i (addW b f g)).map (toldB ns.length) = TT at c3 e21 t3 iT fT
  generalize (bs.set i (addW b f g)).map plainD = PP at c3
  generalize bookD false ns (bs.set i (addW b o t)) = B0 at c3 hn ⊢
  generalize bookD false ns (bs.set i (addW b t o)) = B1 at c3 hn ⊢
  have l2 : ∀ A B : D, k < ([A, B] : List D).length := fun _ _ => hk
  obtain ⟨_, c1'⟩ := List.getElem?_eq_some_iff.mp c1
  obtain ⟨_, c2'⟩ := List.getElem?_eq_some_iff.mp c2
  obtain ⟨_, c3'⟩ := List.getElem?_eq_some_iff.mp c3
  unfold bookD fieldsB at hn ⊢
  unfold tri at hn ⊢
  have x1 : ∀ q0 q1 q2 q3 q4 q5 q6 q7 q8 q9 q10 q11 q12 q13 q14 q15 q16 q17 q18 q19 q21, okL 20 [(i : Int), 2] [q0, q1, q2, q3, q4, q5, q6, q7, q8, q9, q10, q11, q12, q13, q14, q15, q16, q17, q18, q19, some (.lst true HB), q21] = true := fun q0 q1 q2 q3 q4 q5 q6 q7 q8 q9 q10 q11 q12 q13 q14 q15 q16 q17 q18 q19 q21 => (k1 q0 q1 q2 q3 q4 q5 q6 q7 q8 q9 q10 q11 q12 q13 q14 q15 q16 q17 q18 q19 q21).1
  have x2 : ∀ q0 q1 q2 q3 q4 q5 q6 q7 q8 q9 q10 q11 q12 q13 q14 q15 q16 q17 q18 q19 q21, okL 20 [(i : Int)] [q0, q1, q2, q3, q4, q5, q6, q7, q8, q9, q10, q11, q12, q13, q14, q15, q16, q17, q18, q19, some (.lst true HB), q21] = true := fun q0 q1 q2 q3 q4 q5 q6 q7 q8 q9 q10 q11 q12 q13 q14 q15 q16 q17 q18 q19 q21 => (k1 q0 q1 q2 q3 q4 q5 q6 q7 q8 q9 q10 q11 q12 q13 q14 q15 q16 q17 q18 q19 q21).2.1
  have x3 : ∀ q0 q1 q2 q3 q4 q5 q6 q7 q8 q9 q10 q11 q12 q13 q14 q15 q16 q17 q18 q19 q21, okL 20 [] [q0, q1, q2, q3, q4, q5, q6, q7, q8, q9, q10, q11, q12, q13, q14, q15, q16, q17, q18, q19, some (.lst true HB), q21] = true := fun q0 q1 q2 q3 q4 q5 q6 q7 q8 q9 q10 q11 q12 q13 q14 q15 q16 q17 q18 q19 q21 => (k1 q0 q1 q2 q3 q4 q5 q6 q7 q8 q9 q10 q11 q12 q13 q14 q15 q16 q17 q18 q19 q21).2.2.1
  have x4 : ∀ q0 q1 q2 q3 q4 q5 q6 q7 q8 q9 q10 q11 q12 q13 q14 q15 q16 q17 q18 q19 q21, okAt 20 [(i : Int), 2] [q0, q1, q2, q3, q4, q5, q6, q7, q8, q9, q10, q11, q12, q13, q14, q15, q16, q17, q18, q19, some (.lst true HB), q21] = true := fun q0 q1 q2 q3 q4 q5 q6 q7 q8 q9 q10 q11 q12 q13 q14 q15 q16 q17 q18 q19 q21 => (k1 q0 q1 q2 q3 q4 q5 q6 q7 q8 q9 q10 q11 q12 q13 q14 q15 q16 q17 q18 q19 q21).2.2.2.1
  have x5 : ∀ q0 q1 q2 q3 q4 q5 q6 q7 q8 q9 q10 q11 q12 q13 q14 q15 q16 q17 q18 q19 q21, okAt 20 [(i : Int)] [q0, q1, q2, q3, q4, q5, q6, q7, q8, q9, q10, q11, q12, q13, q14, q15, q16, q17, q18, q19, some (.lst true HB), q21] = true := fun q0 q1 q2 q3 q4 q5 q6 q7 q8 q9 q10 q11 q12 q13 q14 q15 q16 q17 q18 q19 q21 => (k1 q0 q1 q2 q3 q4 q5 q6 q7 q8 q9 q10 q11 q12 q13 q14 q15 q16 q17 q18 q19 q21).2.2.2.2.1
  have x6 : ∀ q0 q1 q2 q3 q4 q5 q6 q7 q8 q9 q10 q11 q12 q13 q14 q15 q16 q17 q18 q19 q21, okN 20 [(i : Int), 2] 1 [q0, q1, q2, q3, q4, q5, q6, q7, q8, q9, q10, q11, q12, q13, q14, q15, q16, q17, q18, q19, some (.lst true HB), q21] = true := fun q0 q1 q2 q3 q4 q5 q6 q7 q8 q9 q10 q11 q12 q13 q14 q15 q16 q17 q18 q19 q21 => (k1 q0 q1 q2 q3 q4 q5 q6 q7 q8 q9 q10 q11 q12 q13 q14 q15 q16 q17 q18 q19 q21).2.2.2.2.2
  unfold pairO at k2
  simp (disch := first | omega | decide | simp) [b37_4, hfL2, hnI3, hNM, c1', c2', c3', hk, g1, hfL, hnF, hnI, x1, x2, x3, x4, x5, x6, k2, hfH, hnI2, g2, hnM, hfM, e21, ixf0, ixf3, ixf4, t1, t2, t3, iT, fT, iW]
  exact hn
end
end K85
set_option Elab.async false
set_option linter.all false
set_option maxRecDepth 100000
set_option maxHeartbeats 4000000
/-! K85V: the loop over the open pairs. Printed from D85l.src. -/
namespace K85
open PySem L2 SL
section
variable {n : Nat} {ns : List Str} {bs : List Bal} {i : Nat} {b : Bal} {NM : D} {TD : List D} {p0 p4 p5 p6 p7 p8 p9 p11 p12 p13 p14 p15 p16 p17 p18 p19 p20 : Option D}
theorem op_comm {s x y : Nat} {b : Bal} : opB s b y x = opB s b x y := by
  unfold opB; rw [Bool.and_comm]
theorem loop4 (H : Hyp ns bs) (hb : bs[i]? = some b) {x y o t : Nat} (ho : o < ns.length) (ht : t < ns.length) (hNM : NM.noI = true) :
    ∃ r, forL (fun _ => true) (Tg.nm 17) (evalSs (semN P (n + 3)) false b37_4) ((List.range 2).map fun (k : Nat) => D.int k) [p0, some (.lst true [NM, .lst false (bs.map lawD)]), some (.int ns.length), some (.lst true TD), p4, p5, p6, p7, p8, p9, some (bookD false ns bs), p11, some (tri i x y), p13, some (.int o), some (.int t), some (.tup [bookD false ns (bs.set i (addW b o t)), bookD false ns (bs.set i (addW b t o))]), p17, p18, p19, p20, none] = some r ∧
      ∃ p17 p18 p19 p20, r = (.nx, [p0, some (.lst true [NM, .lst false (bs.map lawD)]), some (.int ns.length), some (.lst true TD), p4, p5, p6, p7, p8, p9, some (bookD false ns bs), p11, some (tri i x y), p13, some (.int o), some (.int t), some (.tup [bookD false ns (bs.set i (addW b o t)), bookD false ns (bs.set i (addW b t o))]), p17, p18, p19, p20, none]) := by
  refine forL_inv (fun k ρ => ∃ p17 p18 p19 p20, ρ = [p0, some (.lst true [NM, .lst false (bs.map lawD)]), some (.int ns.length), some (.lst true TD), p4, p5, p6, p7, p8, p9, some (bookD false ns bs), p11, some (tri i x y), p13, some (.int o), some (.int t), some (.tup [bookD false ns (bs.set i (addW b o t)), bookD false ns (bs.set i (addW b t o))]), p17, p18, p19, p20, none]) _ (n := 0) ?_ ?_ ⟨p17, p18, p19, p20, rfl⟩
  · rintro k d ρ hd ⟨q17, q18, q19, q20, rfl⟩
    obtain ⟨hk, rfl⟩ := range_get hd
    refine ⟨rfl, _, rfl, fun N Q' hN hQ => ?_⟩
    exact turn4 (n := n) H hb ho ht hk hNM fun p18 p19 p20 => hN _ ⟨some (.int (k : Int)), p18, p19, p20, rfl⟩
  · rintro ρ ⟨q17, q18, q19, q20, rfl⟩
    exact ⟨rfl, q17, q18, q19, q20, rfl⟩
theorem loop5 (H : Hyp ns bs) (hb : bs[i]? = some b) {x y : Nat} (hx : x < ns.length) (hy : y < ns.length) (hop : opB ns.length b x y = true) (hNM : NM.noI = true) :
    ∃ r, forL (fun _ => true) (Tg.nm 13) (evalSs (semN P (n + 7)) false b37_5) ((List.range 2).map fun (k : Nat) => D.int k) [p0, some (.lst true [NM, .lst false (bs.map lawD)]), some (.int ns.length), some (.lst true TD), p4, p5, p6, p7, p8, p9, some (bookD false ns bs), p11, some (tri i x y), p13, p14, p15, p16, p17, p18, p19, p20, none] = some r ∧
      ∃ p13 p14 p15 p16 p17 p18 p19 p20, r = (.nx, [p0, some (.lst true [NM, .lst false (bs.map lawD)]), some (.int ns.length), some (.lst true TD), p4, p5, p6, p7, p8, p9, some (bookD false ns bs), p11, some (tri i x y), p13, p14, p15, p16, p17, p18, p19, p20, none]) := by
  refine forL_inv (fun k ρ => ∃ p13 p14 p15 p16 p17 p18 p19 p20, ρ = [p0, some (.lst true [NM, .lst false (bs.map lawD)]), some (.int ns.length), some (.lst true TD), p4, p5, p6, p7, p8, p9, some (bookD false ns bs), p11, some (tri i x y), p13, p14, p15, p16, p17, p18, p19, p20, none]) _ (n := 0) ?_ ?_ ⟨p13, p14, p15, p16, p17, p18, p19, p20, rfl⟩
  · rintro k d ρ hd ⟨q13, q14, q15, q16, q17, q18, q19, q20, rfl⟩
    obtain ⟨hk, rfl⟩ := range_get hd
    obtain rfl | rfl : k = 0 ∨ k = 1 := by omega
    · obtain ⟨r, hr, v17, v18, v19, v20, er⟩ := loop4 (n := n + 4) (p0 := p0) (p4 := p4) (p5 := p5) (p6 := p6) (p7 := p7) (p8 := p8) (p9 := p9) (p11 := p11) (p13 := some (.int 0)) (p17 := q17) (p18 := q18) (p19 := q19) (p20 := q20) (TD := TD) (x := x) (y := y) (o := x) (t := y) H hb hx hy hNM
      rw [er] at hr
      have g := fAnswers (n := n) H hb hx hy hop
      refine ⟨rfl, _, rfl, fun N Q' hN hQ => ?_⟩
      have hn := hN _ ⟨some (.int 0), some (.int x), some (.int y), some (.tup [bookD false ns (bs.set i (addW b x y)), bookD false ns (bs.set i (addW b y x))]), v17, v18, v19, v20, rfl⟩
      have hz : Sm 2 := sm_of (by omega)
      unfold tri at hr hn ⊢
      have hB0 : (bookD false ns (bs.set i (addW b x y))).frz = bookD false ns (bs.set i (addW b x y)) := by unfold bookD; simp
      have hB1 : (bookD false ns (bs.set i (addW b y x))).frz = bookD false ns (bs.set i (addW b y x)) := by unfold bookD; simp
      generalize bookD false ns (bs.set i (addW b x y)) = B0 at g hr hn hB0
      generalize bookD false ns (bs.set i (addW b y x)) = B1 at g hr hn hB1
      unfold bookD at g hr hn ⊢
      have hIT : ∀ keep ρ, iterR .range1 [.val (.int 2)] keep ρ = .ok ((List.range 2).map fun (k : Nat) => D.int k) ρ := fun keep ρ => iter_range1n (n := 2) hz
      generalize ((List.range 2).map fun (k : Nat) => D.int k) = IT at hr hIT
      simp (disch := first | omega | decide | simp) [b37_5, g, hB0, hB1, hIT, hr]
      exact hn
    · obtain ⟨r, hr, v17, v18, v19, v20, er⟩ := loop4 (n := n + 4) (p0 := p0) (p4 := p4) (p5 := p5) (p6 := p6) (p7 := p7) (p8 := p8) (p9 := p9) (p11 := p11) (p13 := some (.int 1)) (p17 := q17) (p18 := q18) (p19 := q19) (p20 := q20) (TD := TD) (x := x) (y := y) (o := y) (t := x) H hb hy hx hNM
      rw [er] at hr
      have g := fAnswers (n := n) H hb hy hx (op_comm.trans hop)
      refine ⟨rfl, _, rfl, fun N Q' hN hQ => ?_⟩
      have hn := hN _ ⟨some (.int 1), some (.int y), some (.int x), some (.tup [bookD false ns (bs.set i (addW b y x)), bookD false ns (bs.set i (addW b x y))]), v17, v18, v19, v20, rfl⟩
      have hz : Sm 2 := sm_of (by omega)
      unfold tri at hr hn ⊢
      have hB0 : (bookD false ns (bs.set i (addW b y x))).frz = bookD false ns (bs.set i (addW b y x)) := by unfold bookD; simp
      have hB1 : (bookD false ns (bs.set i (addW b x y))).frz = bookD false ns (bs.set i (addW b x y)) := by unfold bookD; simp
      generalize bookD false ns (bs.set i (addW b y x)) = B0 at g hr hn hB0
      generalize bookD false ns (bs.set i (addW b x y)) = B1 at g hr hn hB1
      unfold bookD at g hr hn ⊢
      have hIT : ∀ keep ρ, iterR .range1 [.val (.int 2)] keep ρ = .ok ((List.range 2).map fun (k : Nat) => D.int k) ρ := fun keep ρ => iter_range1n (n := 2) hz
      generalize ((List.range 2).map fun (k : Nat) => D.int k) = IT at hr hIT
      simp (disch := first | omega | decide | simp) [b37_5, g, hB0, hB1, hIT, hr]
      exact hn
  · rintro ρ ⟨q13, q14, q15, q16, q17, q18, q19, q20, rfl⟩
    exact ⟨rfl, q13, q14, q15, q16, q17, q18, q19, q20, rfl⟩
end
end K85
set_option Elab.async false
set_option linter.all false
set_option maxRecDepth 100000
set_option maxHeartbeats 4000000
/-! K85L: the law. Printed from D85m.src. -/
namespace K85
open PySem L2 SL
section
variable {n : Nat} {ns : List Str} {bs : List Bal} {NM : D} {TD : List D} {p0 p4 p5 p6 p7 p8 p9 p11 p12 p13 p14 p15 p16 p17 p18 p19 p20 : Option D}
theorem loop6 (H : Hyp ns bs) (hNM : NM.noI = true) {L : List D} (hL : ∀ d ∈ L, d ∈ due ns.length bs) :
    ∃ r, forL (fun _ => true) (Tg.nm 12) (evalSs (semN P (n + 7)) false b37_6) L [p0, some (.lst true [NM, .lst false (bs.map lawD)]), some (.int ns.length), some (.lst true TD), p4, p5, p6, p7, p8, p9, some (bookD false ns bs), p11, p12, p13, p14, p15, p16, p17, p18, p19, p20, none] = some r ∧
      ∃ p12 p13 p14 p15 p16 p17 p18 p19 p20, r = (.nx, [p0, some (.lst true [NM, .lst false (bs.map lawD)]), some (.int ns.length), some (.lst true TD), p4, p5, p6, p7, p8, p9, some (bookD false ns bs), p11, p12, p13, p14, p15, p16, p17, p18, p19, p20, none]) := by
  refine forL_inv (fun k ρ => ∃ p12 p13 p14 p15 p16 p17 p18 p19 p20, ρ = [p0, some (.lst true [NM, .lst false (bs.map lawD)]), some (.int ns.length), some (.lst true TD), p4, p5, p6, p7, p8, p9, some (bookD false ns bs), p11, p12, p13, p14, p15, p16, p17, p18, p19, p20, none]) _ (n := 0) ?_ ?_ ⟨p12, p13, p14, p15, p16, p17, p18, p19, p20, rfl⟩
  · rintro k d ρ hd ⟨q12, q13, q14, q15, q16, q17, q18, q19, q20, rfl⟩
    obtain ⟨i, a, c, b, rfl, hb, h1, h2, h3⟩ := due_mem (hL d (List.mem_of_getElem? hd))
    obtain ⟨r, hr, v13, v14, v15, v16, v17, v18, v19, v20, er⟩ := loop5 (n := n) (p0 := p0) (p4 := p4) (p5 := p5) (p6 := p6) (p7 := p7) (p8 := p8) (p9 := p9) (p11 := p11) (p13 := q13) (p14 := q14) (p15 := q15) (p16 := q16) (p17 := q17) (p18 := q18) (p19 := q19) (p20 := q20) (TD := TD) H hb (by omega) h2 h3 hNM
    rw [er] at hr
    refine ⟨rfl, _, rfl, fun N Q' hN hQ => ?_⟩
    have hn := hN _ ⟨some (tri i a c), v13, v14, v15, v16, v17, v18, v19, v20, rfl⟩
    have hIT : ∀ keep ρ, iterR .range1 [.val (.int 2)] keep ρ = .ok ((List.range 2).map fun (k : Nat) => D.int k) ρ := fun keep ρ => iter_range1n (n := 2) (sm_of (by omega))
    generalize ((List.range 2).map fun (k : Nat) => D.int k) = IT at hr hIT
    simp [b37_6, hIT, hr]
    exact hn
  · rintro ρ ⟨q12, q13, q14, q15, q16, q17, q18, q19, q20, rfl⟩
    exact ⟨rfl, q12, q13, q14, q15, q16, q17, q18, q19, q20, rfl⟩
end
theorem Tr.eq {k : Nat} {d : D} (h : Tr k d) (hk : k ≤ 60) : cmpD .eq d d = some true := by
  obtain ⟨a1, a2, a3⟩ := h.facts
  have e : cmpD .eq d d = if isData d && isData d && decide (d.dep ≤ 64 ∨ d.dep ≤ 64) then some (d.eqv d) else none := by
    unfold cmpD; rfl
  rw [e, if_pos (by simp [a1]; omega), a3]
theorem cut12 {l : List D} : cutD l none (some 12) = l.take 12 := by
  have := cutT (f := fun d : D => d) (l := l) (k := 12)
  simpa using this
theorem law_true : ∀ sc : List Int, sc.length ≤ 63 → (semN P (20 + 1)).fn false 37 [.scr sc] = some (.ret (.bl true)) := fun sc _ => by
  rw [fn_at (fd := b37) rfl rfl]
  obtain ⟨nm, s, bs, gb, hnm, hs, hc, hdr⟩ := fLawBook (n := 17) (sc := sc) (at_ := 0) (kind := 1) (sizes := [3, 4, 2, 3, 5, 3, 1]) (counts := [3, 2, 4, 1, 5]) (by omega) (by omega) (by decide) (by decide) (by decide) (by decide)
  have hs1 : 1 ≤ s ∧ s ≤ 8 := by simp at hs; omega
  have hm1 : 1 ≤ bs.length ∧ bs.length ≤ 8 := by simp at hc; omega
  have H : Hyp (namesOf nm s) bs := ⟨names_good hnm hs1.1 hs1.2, names_short, hm1, by rw [names_len]; exact hs1, by rw [names_len]; exact hdr⟩
  have hln : (namesOf nm s).length = s := names_len
  generalize namesOf nm s = ns at gb H hln
  subst hln
  have hsz : ([3, 4, 2, 3, 5, 3, 1] : List Nat).map (fun (k : Nat) => D.int k) = [.int 3, .int 4, .int 2, .int 3, .int 5, .int 3, .int 1] := rfl
  have hcz : ([3, 2, 4, 1, 5] : List Nat).map (fun (k : Nat) => D.int k) = [.int 3, .int 2, .int 4, .int 1, .int 5] := rfl
  rw [hsz, hcz] at gb
  have gt := fLawTolds (n := 18) (s := ns.length) (bs := bs) (by omega) (by omega) fun b hb => (hdr b hb).bs
  obtain ⟨c9, gc⟩ := fLawCell (n := 19) sc 9 (by omega) (by omega)
  obtain ⟨row, gd, hd⟩ := fLawDigits (n := 19) (c := c9) (ss := [840, 840, 840]) ⟨by decide, by decide⟩
  simp at gd
  obtain ⟨r0, e0, q0⟩ := dig_get (i := 0) (s := 840) hd rfl
  obtain ⟨r1, e1, q1⟩ := dig_get (i := 1) (s := 840) hd rfl
  have hlen : row.length = 3 := hd.len
  obtain ⟨_, e0'⟩ := List.getElem?_eq_some_iff.mp e0
  obtain ⟨_, e1'⟩ := List.getElem?_eq_some_iff.mp e1
  have gh := fLawHanded (n := 19) (bs := bs) (by omega) (fun b hb => by have := (hdr b hb).wl; omega)
  have gn := newBook (n := 16) (t := false) (t2 := false) (ns := ns) (bs := bs.map lawB) H.sh
  have ok := fair_ok H.nm hm1 fun b hb => (H.dr b hb).fair
  rw [made_ok (ok_congr (f := lawB) (fun b => ⟨rfl, rfl, rfl⟩) ok), lawBs_d, book_law] at gn
  have go := fOpenPairs (n := 18) H
  -- a ballot and an option
  have him : r0 % bs.length < bs.length := Nat.mod_lt _ (by omega)
  have ham : r1 % ns.length < ns.length := Nat.mod_lt _ (by omega)
  have f0 : binI .mod (r0 : Int) (bs.length : Int) = some ((r0 % bs.length : Nat) : Int) := by rw [binI_mod (by omega)]; congr 1
  have f1 : binI .mod (r1 : Int) (ns.length : Int) = some ((r1 % ns.length : Nat) : Int) := by rw [binI_mod (by omega)]; congr 1
  generalize r0 % bs.length = i at him f0
  generalize r1 % ns.length = a at ham f1
  have hb := List.getElem?_eq_getElem him
  have k1 := fKind1 (n := 16) (ns := ns) (bs := bs) (i := (bs.length : Int)) (x := (ns.length : Int)) (y := (ns.length : Int)) (by omega) (by omega)
  have k2 := fKind2 (n := 16) (ns := ns) (bs := bs) (i := (i : Int)) (x := (ns.length : Int)) (y := (-1 : Int)) (fAnsOne (n := 16) (by omega) (by omega) (by omega))
  have k3 := fKind2 (n := 16) (ns := ns) (bs := bs) (i := (i : Int)) (x := (a : Int)) (y := (-1 : Int)) (fAnsTwo (n := 16) (by omega) (by omega) (by omega) (by omega))
  have k4 := fKind1 (n := 16) (ns := ns) (bs := bs) (i := (-1 : Int)) (x := (a : Int)) (y := (a : Int)) (by omega) (by omega)
  have hNM : (D.lst true (ns.map D.str)).noI = true := by simp
  obtain ⟨rd, hrd, u7, u8, u9, erd⟩ := due3 (n := 20) (s := ns.length) (bs := bs) (p0 := some (.scr sc)) (p1 := some (.lst true [.lst true (ns.map D.str), .lst false (bs.map lawD)])) (p4 := some (.int bs.length)) (p5 := some (.lst true (row.map D.int))) (u7 := none) (u8 := none) (u9 := none) (E := [none, none, none, none, none, none, none, none, none, none, none, none]) hs1.2 hm1.2
  rw [erd] at hrd
  obtain ⟨r6, hr6, v12, v13, v14, v15, v16, v17, v18, v19, v20, er6⟩ := loop6 (n := 13) (ns := ns) (bs := bs) (TD := mats ns.length bs) (p0 := some (.scr sc)) (p4 := some (.int bs.length)) (p5 := some (.lst true (row.map D.int))) (p6 := some (.lst true (due ns.length bs))) (p7 := u7) (p8 := u8) (p9 := u9) (p11 := some (.tup (due ns.length bs))) (p12 := none) (p13 := none) (p14 := none) (p15 := none) (p16 := none) (p17 := none) (p18 := none) (p19 := none) (p20 := none) H hNM (L := (due ns.length bs).take 12) fun d h => List.mem_of_mem_take h
  rw [er6] at hr6
  obtain ⟨r7, hr7, w9, er7⟩ := kinds (n := 16) (ns := ns) (bs := bs) (i := i) (a := a) (p0 := some (.scr sc)) (p1 := some (.lst true [.lst true (ns.map D.str), .lst false (bs.map lawD)])) (p4 := some (.int bs.length)) (p5 := some (.lst true (row.map D.int))) (p6 := some (.lst true (due ns.length bs))) (u9 := u9) (E := [some (.tup (due ns.length bs)), v12, v13, v14, v15, v16, v17, v18, v19, v20, none]) (by omega) hs1.2 hb ham
  rw [er7] at hr7
  have z1 : Sm bs.length := sm_of (by omega)
  have z2 : Sm ns.length := sm_of (by omega)
  have df := due_frz (s := ns.length) (bs := bs)
  have di := due_imm (s := ns.length) (bs := bs)
  have dne := fun o o' => Tr.ne_lst (o := o) (o' := o') (due_tr (s := ns.length) (bs := bs)) (by omega)
  have d12 := cut12 (l := due ns.length bs)
  have di12 : D.immL ((due ns.length bs).take 12) = true := by
    have : ∀ l : List D, D.immL l = true → ∀ k, D.immL (l.take k) = true := fun l => by
      induction l with
      | nil => intro _ k; simp
      | cons d l ih =>
        intro h k
        simp at h
        cases k with
        | zero => simp
        | succ k => simp [h.1, ih h.2 k]
    exact this _ di 12
  have df12 : D.frzL ((due ns.length bs).take 12) = (due ns.length bs).take 12 := frzL_imm _ di12
  have hml : (D.frzL (mats ns.length bs)).length = bs.length := by rw [mats_frz]; simp [matsL]
  have hfl : D.frzL (bs.map lawD) = bs.map lawD := frz_law
  have hfh : D.frzL (bs.map handD) = bs.map lawD := frz_hand
  have hni : D.noIL (bs.map lawD) = true := noIL_map fun c => by
    have : D.noIL (c.ws.map pairL) = true := noIL_map fun _ => by simp [pairL]
    simp [lawD, this]
  have hnih : D.noIL (bs.map handD) = true := noIL_map fun c => by
    have : D.noIL (c.ws.map pairO) = true := noIL_map fun _ => by simp [pairO]
    simp [handD, this]
  have hnF : D.noFL (bs.map handD) = true := noFL_map fun c => by
    have : D.noFL (c.ws.map pairO) = true := noFL_map fun _ => by simp [pairO]
    simp [handD, this]
  have hnM : D.noFL (mats ns.length bs) = true := noFL_map fun c => by simp [matD, rowD]
  have t1 := (tr4 (x := 1) (y := (bs.length : Int)) (z := 0) (w := 0)).ne (by omega)
  have t2 := (tr4 (x := 2) (y := (ns.length : Int)) (z := 0) (w := 0)).ne (by omega)
  have t3 := (tr4 (x := 2) (y := (-1 : Int)) (z := 0) (w := 0)).eq (by omega)
  have t4 := (tr4 (x := 1) (y := (-1 : Int)) (z := 0) (w := 0)).eq (by omega)
  have hnB : D.noFL (fieldsB ns bs) = true := by
    have b1 : D.noFL (bs.map plainD) = true := noFL_map fun _ => by simp
    have b2 : D.noFL (bs.map (toldB ns.length)) = true := noFL_map fun _ => by simp
    unfold fieldsB
    simp [b1, b2]
  simp only [sqD_f] at gn
  generalize (due ns.length bs).take 12 = D12 at hr6 d12 di12 df12
  generalize due ns.length bs = DU at *
  generalize mats ns.length bs = MT at *
  generalize bs.map lawD = BL at *
  generalize bs.map handD = BH at *
  unfold bookD at *
  simp (disch := first | omega | decide | simp) [b37, hnB, gb, gt, gc, gd, e0', e1', hlen, hrd, gh, gn, go, hr6, hr7, k1, k2, k3, k4, f0, f1, z1, z2, df, di, dne, d12, di12, df12, hml, hfl, hfh, hni, hnih, hnF, hnM, t1, t2, t3, t4]
end K85
set_option Elab.async false
set_option linter.all false
set_option maxRecDepth 100000
set_option maxHeartbeats 4000000
/-! K85H: the head of law_k85_open_pairs_and_answers, printed by gen.py. -/
open PySem PySem.W PyProof.Rows
set_option maxRecDepth 100000 in
set_option maxHeartbeats 0 in
theorem PySem.Challenge.cw_anymap_k85_open_pairs_and_answers_holds : PySem.Challenge.rw_anymap_k85_open_pairs_and_answers.Holds := by
  w_on; o_law; k_head; (case hw => w_witness2)
  k_fill
  refine SL.walk_law (l := PySem.Challenge.rw_anymap_k85_open_pairs_and_answers) (k := 2 * (20 + 1) + 1) rfl rfl ⟨rfl, by decide, by decide⟩ (fun w h Y => PySem.W.kIn_of Y) ?F
  case F =>
    intro w mg fa h KX G hmg
    refine' K85.all_mk (l := PySem.Challenge.rw_anymap_k85_open_pairs_and_answers) K85.law_true KX G hmg ?nc0 ?nc3 ?nc4 ?nc5 ?nc6 ?nc7 ?nc8 ?nc9 ?a0 ?d0 ?a1 ?d1 ?a2 ?d2 ?a3 ?d3 ?a4 ?d4 ?a5 ?d5 ?a6 ?d6 ?a7 ?d7 ?a8 ?d8 ?a9 ?d9 ?a10 ?d10 ?a11 ?r_11 ?q11 ?d11 ?a12 ?r_12 ?q12 ?d12 ?a13 ?d13 ?a14 ?d14 ?a15 ?d15 ?a16 ?d16 ?a17 ?d17 ?a18 ?d18 ?a19 ?d19 ?a20 ?d20 ?a21 ?d21 ?a22 ?d22 ?a23 ?d23 ?a24 ?d24 ?a25 ?d25 ?a26 ?d26 ?a27 ?d27 ?a28 ?d28 ?a29 ?d29 ?a30 ?d30 ?a31 ?d31 ?a32 ?d32 ?a33 ?d33 ?a34 ?d34 ?a35 ?d35 ?a36 ?d36 ?a37 ?d37 ?k3 ?k4 ?k5 ?k6 ?k7 ?k8 ?k9 ?mk9 ?me0 ?me1 ?me2 ?me3 ?me4 ?me5 ?xa3 ?xd3 ?xl3 ?xr3 ?xb3 ?xa4 ?xd4 ?xl4 ?xr4 ?xb4 ?xa5 ?xd5 ?xl5 ?xr5 ?xb5 ?xa6 ?xd6 ?xl6 ?xr6 ?xb6 ?xa7 ?xd7 ?xl7 ?xr7 ?xb7 ?xa8 ?xd8 ?xl8 ?xr8 ?xb8 ?ki0 ?ki1 ?ki2 ?ki3 ?xk0 ?xk1 ?xk2 ?xk3 ?xk4 ?xk5 ?xk6 ?xk7 ?xk8 ?xk9 ?xk10 ?xk11 ?xk12 ?xk13 ?xk14 ?xk15 ?xk16 ?xk17 ?xk18 ?xk19 ?xk20 ?xk21 ?xk22 ?xk23 ?xk24 ?xk25 ?xk26 ?xk27 ?xk28 ?xk29 ?ex0 ?ex1 ?ex2 ?ex3 ?ex4 ?ex5 ?gm0 ?gm1 ?gm2 ?gm3 ?gm4 ?gm5 ?nb
    (case nc0 => k_is)
    (case nc3 => k_is)
    (case nc4 => k_is)
    (case nc5 => k_is)
    (case nc6 => k_is)
    (case nc7 => k_is)
    (case nc8 => k_is)
    (case nc9 => k_is)
    (case a0 => k_is)
    (case d0 => refine' SL.defK ?l ?c ?k; (case l => k_is); (case c => k_is); (case k => k_is))
    (case a1 => k_is)
    (case d1 => refine' SL.defK ?l ?c ?k; (case l => k_is); (case c => k_is); (case k => k_is))
    (case a2 => k_is)
    (case d2 => refine' SL.defK ?l ?c ?k; (case l => k_is); (case c => k_is); (case k => k_is))
    (case a3 => k_is)
    (case d3 => refine' SL.defK ?l ?c ?k; (case l => k_is); (case c => k_is); (case k => k_is))
    (case a4 => k_is)
    (case d4 => refine' SL.defK ?l ?c ?k; (case l => k_is); (case c => k_is); (case k => k_is))
    (case a5 => k_is)
    (case d5 => refine' SL.defK ?l ?c ?k; (case l => k_is); (case c => k_is); (case k => k_is))
    (case a6 => k_is)
    (case d6 => refine' SL.defK ?l ?c ?k; (case l => k_is); (case c => k_is); (case k => k_is))
    (case a7 => k_is)
    (case d7 => refine' SL.defK ?l ?c ?k; (case l => k_is); (case c => k_is); (case k => k_is))
    (case a8 => k_is)
    (case d8 => refine' SL.defK ?l ?c ?k; (case l => k_is); (case c => k_is); (case k => k_is))
    (case a9 => k_is)
    (case d9 => refine' SL.defK ?l ?c ?k; (case l => k_is); (case c => k_is); (case k => k_is))
    (case a10 => k_is)
    (case d10 => refine' SL.defK ?l ?c ?k; (case l => k_is); (case c => k_is); (case k => k_is))
    (case a11 => k_is)
    (case r_11 => k_is)
    (case q11 => kernel_rfl)
    (case d11 => refine' SL.defK ?l ?c ?k; (case l => k_is); (case c => k_is); (case k => k_is))
    (case a12 => k_is)
    (case r_12 => k_is)
    (case q12 => kernel_rfl)
    (case d12 => refine' SL.defK ?l ?c ?k; (case l => k_is); (case c => k_is); (case k => k_is))
    (case a13 => k_is)
    (case d13 => refine' SL.defK ?l ?c ?k; (case l => k_is); (case c => k_is); (case k => k_is))
    (case a14 => k_is)
    (case d14 => refine' SL.defK ?l ?c ?k; (case l => k_is); (case c => k_is); (case k => k_is))
    (case a15 => k_is)
    (case d15 => refine' SL.defK ?l ?c ?k; (case l => k_is); (case c => k_is); (case k => k_is))
    (case a16 => k_is)
    (case d16 => refine' SL.defK ?l ?c ?k; (case l => k_is); (case c => k_is); (case k => k_is))
    (case a17 => k_is)
    (case d17 => refine' SL.defK ?l ?c ?k; (case l => k_is); (case c => k_is); (case k => k_is))
    (case a18 => k_is)
    (case d18 => refine' SL.defK ?l ?c ?k; (case l => k_is); (case c => k_is); (case k => k_is))
    (case a19 => k_is)
    (case d19 => refine' SL.defK ?l ?c ?k; (case l => k_is); (case c => k_is); (case k => k_is))
    (case a20 => k_is)
    (case d20 => refine' SL.defK ?l ?c ?k; (case l => k_is); (case c => k_is); (case k => k_is))
    (case a21 => k_is)
    (case d21 => refine' SL.defK ?l ?c ?k; (case l => k_is); (case c => k_is); (case k => k_is))
    (case a22 => k_is)
    (case d22 => refine' SL.defK ?l ?c ?k; (case l => k_is); (case c => k_is); (case k => k_is))
    (case a23 => k_is)
    (case d23 => refine' SL.defK ?l ?c ?k; (case l => k_is); (case c => k_is); (case k => k_is))
    (case a24 => k_is)
    (case d24 => refine' SL.defK ?l ?c ?k; (case l => k_is); (case c => k_is); (case k => k_is))
    (case a25 => k_is)
    (case d25 => refine' SL.defK ?l ?c ?k; (case l => k_is); (case c => k_is); (case k => k_is))
    (case a26 => k_is)
    (case d26 => refine' SL.defK ?l ?c ?k; (case l => k_is); (case c => k_is); (case k => k_is))
    (case a27 => k_is)
    (case d27 => refine' SL.defK ?l ?c ?k; (case l => k_is); (case c => k_is); (case k => k_is))
    (case a28 => k_is)
    (case d28 => refine' SL.defK ?l ?c ?k; (case l => k_is); (case c => k_is); (case k => k_is))
    (case a29 => k_is)
    (case d29 => refine' SL.defK ?l ?c ?k; (case l => k_is); (case c => k_is); (case k => k_is))
    (case a30 => k_is)
    (case d30 => refine' SL.defK ?l ?c ?k; (case l => k_is); (case c => k_is); (case k => k_is))
    (case a31 => k_is)
    (case d31 => refine' SL.defK ?l ?c ?k; (case l => k_is); (case c => k_is); (case k => k_is))
    (case a32 => k_is)
    (case d32 => refine' SL.defK ?l ?c ?k; (case l => k_is); (case c => k_is); (case k => k_is))
    (case a33 => k_is)
    (case d33 => refine' SL.defK ?l ?c ?k; (case l => k_is); (case c => k_is); (case k => k_is))
    (case a34 => k_is)
    (case d34 => refine' SL.defK ?l ?c ?k; (case l => k_is); (case c => k_is); (case k => k_is))
    (case a35 => k_is)
    (case d35 => refine' SL.defK ?l ?c ?k; (case l => k_is); (case c => k_is); (case k => k_is))
    (case a36 => k_is)
    (case d36 => refine' SL.defK ?l ?c ?k; (case l => k_is); (case c => k_is); (case k => k_is))
    (case a37 => k_is)
    (case d37 => refine' SL.defK ?l ?c ?k; (case l => k_is); (case c => k_is); (case k => k_is))
    (case k3 => kernel_rfl)
    (case k4 => kernel_rfl)
    (case k5 => kernel_rfl)
    (case k6 => kernel_rfl)
    (case k7 => kernel_rfl)
    (case k8 => kernel_rfl)
    (case k9 => kernel_rfl)
    (case mk9 => kernel_rfl)
    (case me0 => kernel_rfl)
    (case me1 => kernel_rfl)
    (case me2 => kernel_rfl)
    (case me3 => kernel_rfl)
    (case me4 => kernel_rfl)
    (case me5 => kernel_rfl)
    (case xa3 => k_is)
    (case xd3 => refine' SL.defK ?l ?c ?k; (case l => k_is); (case c => k_is); (case k => k_is))
    (case xl3 => k_is)
    (case xr3 => kernel_rfl)
    (case xb3 => kernel_rfl)
    (case xa4 => k_is)
    (case xd4 => refine' SL.defK ?l ?c ?k; (case l => k_is); (case c => k_is); (case k => k_is))
    (case xl4 => k_is)
    (case xr4 => kernel_rfl)
    (case xb4 => kernel_rfl)
    (case xa5 => k_is)
    (case xd5 => refine' SL.defK ?l ?c ?k; (case l => k_is); (case c => k_is); (case k => k_is))
    (case xl5 => k_is)
    (case xr5 => kernel_rfl)
    (case xb5 => kernel_rfl)
    (case xa6 => k_is)
    (case xd6 => refine' SL.defK ?l ?c ?k; (case l => k_is); (case c => k_is); (case k => k_is))
    (case xl6 => k_is)
    (case xr6 => kernel_rfl)
    (case xb6 => kernel_rfl)
    (case xa7 => k_is)
    (case xd7 => refine' SL.defK ?l ?c ?k; (case l => k_is); (case c => k_is); (case k => k_is))
    (case xl7 => k_is)
    (case xr7 => kernel_rfl)
    (case xb7 => kernel_rfl)
    (case xa8 => k_is)
    (case xd8 => refine' SL.defK ?l ?c ?k; (case l => k_is); (case c => k_is); (case k => k_is))
    (case xl8 => k_is)
    (case xr8 => kernel_rfl)
    (case xb8 => kernel_rfl)
    (case ki0 => kernel_rfl)
    (case ki1 => kernel_rfl)
    (case ki2 => kernel_rfl)
    (case ki3 => kernel_rfl)
    (case xk0 => kernel_rfl)
    (case xk1 => kernel_rfl)
    (case xk2 => kernel_rfl)
    (case xk3 => kernel_rfl)
    (case xk4 => kernel_rfl)
    (case xk5 => kernel_rfl)
    (case xk6 => kernel_rfl)
    (case xk7 => kernel_rfl)
    (case xk8 => kernel_rfl)
    (case xk9 => kernel_rfl)
    (case xk10 => kernel_rfl)
    (case xk11 => kernel_rfl)
    (case xk12 => kernel_rfl)
    (case xk13 => kernel_rfl)
    (case xk14 => kernel_rfl)
    (case xk15 => kernel_rfl)
    (case xk16 => kernel_rfl)
    (case xk17 => kernel_rfl)
    (case xk18 => kernel_rfl)
    (case xk19 => kernel_rfl)
    (case xk20 => kernel_rfl)
    (case xk21 => kernel_rfl)
    (case xk22 => kernel_rfl)
    (case xk23 => kernel_rfl)
    (case xk24 => kernel_rfl)
    (case xk25 => kernel_rfl)
    (case xk26 => kernel_rfl)
    (case xk27 => kernel_rfl)
    (case xk28 => kernel_rfl)
    (case xk29 => kernel_rfl)
    (case ex0 => kernel_rfl)
    (case ex1 => kernel_rfl)
    (case ex2 => kernel_rfl)
    (case ex3 => kernel_rfl)
    (case ex4 => kernel_rfl)
    (case ex5 => kernel_rfl)
    (case gm0 => k_is)
    (case gm1 => k_is)
    (case gm2 => k_is)
    (case gm3 => k_is)
    (case gm4 => k_is)
    (case gm5 => k_is)
    (case nb => kernel_rfl)
