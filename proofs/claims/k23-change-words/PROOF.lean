import PyProof.Rows.All
import Wide.All
import OpenK.AllK
import Wide.FinOn
import HandS.ForMost
import HandS.ForExc
import HandS.Walk
import HandS.TupAny
import HandS.Wide
import HandS.WideBits
import HandS.Deep
import HandS.TupLe
import HandS.TupMul
import HandS.Style
import HandS.Flow
import HandS.SortInts
import HandS.IsInst
import KE.KSortedM
import HandS.HotCalls
import HandS.SetFor
import HandS.ExcInit
import KE.KExcSuper
import KE.KSuper
import HandS.ExcField
import HandS.ExcIs
import KE.KExcIs
import PyProof.ReprRoads
import HandS.Ends
import HandS.Words
import PyProof.ReprLen
import PySem.Challenge.RW_rangeasks_k23_change_words
set_option Elab.async false
set_option linter.all false
set_option maxRecDepth 100000
namespace MI
open PySem L2
/-! deep values, memory, results -/
inductive D where
  | non | bl (b : Bool) | int (i : Int) | str (s : Str) | tup (xs : List D) | ref (n : Nat) | exc (c : Str) (fs : List (Str × D)) (i : Nat)
mutual
def D.beq : D → D → Bool
  | .non, .non => true
  | .bl a, .bl b => a == b
  | .int a, .int b => a == b
  | .str a, .str b => a == b
  | .tup a, .tup b => D.beqL a b
  | .ref a, .ref b => a == b
  | _, _ => false
def D.beqL : List D → List D → Bool
  | [], [] => true
  | a :: r, b :: t => D.beq a b && D.beqL r t
  | _, _ => false
end
mutual
theorem D.eq_of : ∀ (a b : D), D.beq a b = true → a = b
  | .non, b, h => by cases b <;> simp [D.beq] at h ⊢
  | .bl x, b, h => by cases b <;> simp [D.beq] at h ⊢; exact h
  | .int x, b, h => by cases b <;> simp [D.beq] at h ⊢; exact h
  | .str x, b, h => by cases b <;> simp [D.beq] at h ⊢; exact h
  | .tup x, b, h => by
    cases b <;> simp [D.beq] at h ⊢
    exact D.eqL_of x _ h
  | .ref x, b, h => by cases b <;> simp [D.beq] at h ⊢; exact h
  | .exc c f i, b, h => by cases b <;> simp [D.beq] at h
theorem D.eqL_of : ∀ (a b : List D), D.beqL a b = true → a = b
  | [], b, h => by cases b <;> simp [D.beqL] at h ⊢
  | x :: r, b, h => by
    cases b with
    | nil => simp [D.beqL] at h
    | cons y t =>
      simp only [D.beqL, Bool.and_eq_true] at h
      rw [D.eq_of x y h.1, D.eqL_of r t h.2]
end

mutual
def D.plain : D → Bool
  | .exc _ _ _ => false
  | .tup xs => D.plainL xs
  | _ => true
def D.plainL : List D → Bool
  | [] => true
  | a :: r => D.plain a && D.plainL r
end
mutual
theorem D.beq_self : ∀ (a : D), D.plain a = true → D.beq a a = true
  | .non, _ => rfl
  | .bl x, _ => by simp [D.beq]
  | .int x, _ => by simp [D.beq]
  | .str x, _ => by simp [D.beq]
  | .tup x, h => by simp only [D.beq]; exact D.beqL_self x (by simpa [D.plain] using h)
  | .ref x, _ => by simp [D.beq]
  | .exc c f i, h => by simp [D.plain] at h
theorem D.beqL_self : ∀ (a : List D), D.plainL a = true → D.beqL a a = true
  | [], _ => rfl
  | x :: r, h => by
    simp only [D.plainL, Bool.and_eq_true] at h
    simp only [D.beqL, Bool.and_eq_true]
    exact ⟨D.beq_self x h.1, D.beqL_self r h.2⟩
end

inductive Cell where
  | lst (xs : List D)
  | rls (xs : List D)
  | ins (c : Str) (fs : List (Str × D))
  | dct (kvs : List (Key × D))
abbrev Mem := List Cell
inductive R (α : Type) where
  | ok (a : α) (M : Mem)
  | ex (c : Str) (fs : List (Str × D)) (M : Mem)
  | st
def R.bind {α β : Type} (r : R α) (k : α → Mem → R β) : R β :=
  match r with
  | .ok a M => k a M
  | .ex c fs M => .ex c fs M
  | .st => .st
abbrev Env := List (Option D)
inductive O where
  | nx (ρ : Env) (M : Mem) | rt (d : D) (M : Mem) | bk (ρ : Env) (M : Mem) | ct (ρ : Env) (M : Mem) | ex (c : Str) (fs : List (Str × D)) (ρ : Env) (M : Mem) | st

/-! how a value and a memory lie in the abstract heap -/
/-- a tuple: tracked, or an object of the module -/
def TupAt (K : PySem.W.Frag) (H : Hp) (a : Addr) (xs : List V) : Prop :=
  (∃ o : Obj, o.dict = none ∧ H a = some (.frz o (.tup xs))) ∨
    ∃ (o : Obj) (its : Array Value) (n : Nat), o.dict = none ∧ K.lookup a = some o ∧ o.cls = .type "tuple" ∧ o.data = .seq its n ∧ its.size ≤ sizeLine ∧ Vals xs its.toList
theorem TupAt.sq {K : PySem.W.Frag} {H : Hp} {a : Addr} {xs : List V} (h : TupAt K H a xs) : SqT K H a xs := by
  rcases h with ⟨o, _, h⟩ | ⟨o, its, n, _, h⟩
  · exact .inl (.inr ⟨o, h⟩)
  · exact .inr ⟨o, its, n, h⟩
structure GC where
  K : PySem.W.Frag
  ca : Str → Addr
mutual
def RepV (G : GC) (ρ : Nat → Addr) (N : Nat) (H : Hp) : D → V → Prop
  | .non, v => v = .non
  | .bl b, v => v = .bl b
  | .int i, v => v = .int i
  | .str s, v => v = .str s
  | .tup xs, v => ∃ a vs, v = .ref a ∧ TupAt G.K H a vs ∧ RepL G ρ N H xs vs
  | .ref n, v => n < N ∧ v = .ref (ρ n)
  | .exc _ _ _, _ => False
def RepL (G : GC) (ρ : Nat → Addr) (N : Nat) (H : Hp) : List D → List V → Prop
  | [], vs => vs = []
  | d :: ds, vs => ∃ v r, vs = v :: r ∧ RepV G ρ N H d v ∧ RepL G ρ N H ds r
end
def RepF (G : GC) (ρ : Nat → Addr) (N : Nat) (H : Hp) : List (Str × D) → List (Str × V) → Prop
  | [], vs => vs = []
  | (f, d) :: ds, vs => ∃ v r, vs = (f, v) :: r ∧ RepV G ρ N H d v ∧ RepF G ρ N H ds r
def RepK (G : GC) (ρ : Nat → Addr) (N : Nat) (H : Hp) : List (Key × D) → List (Key × V) → Prop
  | [], vs => vs = []
  | (f, d) :: ds, vs => ∃ v r, vs = (f, v) :: r ∧ RepV G ρ N H d v ∧ RepK G ρ N H ds r
/-- what only grows -/
structure Grow (G : GC) (ρ : Nat → Addr) (N : Nat) (H : Hp) (ρ' : Nat → Addr) (N' : Nat) (H' : Hp) : Prop where
  le : N ≤ N'
  ag : ∀ n, n < N → ρ' n = ρ n
  tups : ∀ b o xs, H b = some (.frz o (.tup xs)) → H' b = some (.frz o (.tup xs))
  xds : ∀ b fs, H b = some (.xd fs) → H' b = some (.xd fs)
section
variable {G : GC} {ρ ρ' ρ'' : Nat → Addr} {N N' N'' : Nat} {H H' H'' : Hp}
theorem Grow.refl : Grow G ρ N H ρ N H := ⟨Nat.le_refl _, fun _ _ => rfl, fun _ _ _ h => h, fun _ _ h => h⟩
theorem Grow.trans (a : Grow G ρ N H ρ' N' H') (b : Grow G ρ' N' H' ρ'' N'' H'') : Grow G ρ N H ρ'' N'' H'' :=
  ⟨Nat.le_trans a.le b.le, fun n h => (b.ag n (Nat.lt_of_lt_of_le h a.le)).trans (a.ag n h), fun c o xs h => b.tups c o xs (a.tups c o xs h), fun c fs h => b.xds c fs (a.xds c fs h)⟩
theorem Grow.sqt (g : Grow G ρ N H ρ' N' H') {K : PySem.W.Frag} {a : Addr} {vs : List V} (h : TupAt K H a vs) : TupAt K H' a vs := by
  rcases h with ⟨o, hd, h⟩ | h
  · exact .inl ⟨o, hd, g.tups _ _ _ h⟩
  · exact .inr h
mutual
theorem RepV.grow (g : Grow G ρ N H ρ' N' H') : ∀ {d : D} {v : V}, RepV G ρ N H d v → RepV G ρ' N' H' d v
  | .non, _, h => by simpa only [RepV] using h
  | .bl b, _, h => by simpa only [RepV] using h
  | .int i, _, h => by simpa only [RepV] using h
  | .str s, _, h => by simpa only [RepV] using h
  | .tup xs, _, h => by
    simp only [RepV] at h ⊢
    obtain ⟨a, vs, e, s, r⟩ := h
    exact ⟨a, vs, e, g.sqt s, RepL.grow g r⟩
  | .ref n, _, h => by
    simp only [RepV] at h ⊢
    exact ⟨Nat.lt_of_lt_of_le h.1 g.le, by rw [g.ag n h.1]; exact h.2⟩
  | .exc _ _ _, _, h => by simp only [RepV] at h
theorem RepL.grow (g : Grow G ρ N H ρ' N' H') : ∀ {ds : List D} {vs : List V}, RepL G ρ N H ds vs → RepL G ρ' N' H' ds vs
  | [], _, h => by simpa only [RepL] using h
  | d :: ds, _, h => by
    simp only [RepL] at h ⊢
    obtain ⟨v, r, e, h1, h2⟩ := h
    exact ⟨v, r, e, RepV.grow g h1, RepL.grow g h2⟩
end
theorem RepF.grow (g : Grow G ρ N H ρ' N' H') : ∀ {ds : List (Str × D)} {vs : List (Str × V)}, RepF G ρ N H ds vs → RepF G ρ' N' H' ds vs
  | [], _, h => h
  | (f, d) :: ds, _, ⟨v, r, e, h1, h2⟩ => ⟨v, r, e, h1.grow g, RepF.grow g h2⟩
theorem RepK.grow (g : Grow G ρ N H ρ' N' H') : ∀ {ds : List (Key × D)} {vs : List (Key × V)}, RepK G ρ N H ds vs → RepK G ρ' N' H' ds vs
  | [], _, h => h
  | (f, d) :: ds, _, ⟨v, r, e, h1, h2⟩ => ⟨v, r, e, h1.grow g, RepK.grow g h2⟩
theorem RepL.length : ∀ {ds : List D} {vs : List V}, RepL G ρ N H ds vs → vs.length = ds.length
  | [], _, h => by simp only [RepL] at h; subst h; rfl
  | d :: ds, _, h => by
    simp only [RepL] at h
    obtain ⟨v, r, e, h1, h2⟩ := h
    subst e
    simp [RepL.length h2]
theorem RepL.get : ∀ {ds : List D} {vs : List V} {i : Nat} {d : D}, RepL G ρ N H ds vs → ds[i]? = some d → ∃ v, vs[i]? = some v ∧ RepV G ρ N H d v
  | [], _, i, d, h, e => by simp at e
  | x :: ds, _, i, d, h, e => by
    simp only [RepL] at h
    obtain ⟨v, r, rfl, h1, h2⟩ := h
    cases i with
    | zero => simp at e; subst e; exact ⟨v, rfl, h1⟩
    | succ i => exact RepL.get (i := i) h2 (by simpa using e)
theorem RepL.get' : ∀ {ds : List D} {vs : List V} {i : Nat} {v : V}, RepL G ρ N H ds vs → vs[i]? = some v → ∃ d, ds[i]? = some d ∧ RepV G ρ N H d v
  | [], _, i, v, h, e => by simp only [RepL] at h; subst h; simp at e
  | x :: ds, _, i, v, h, e => by
    simp only [RepL] at h
    obtain ⟨w, r, rfl, h1, h2⟩ := h
    cases i with
    | zero => simp at e; subst e; exact ⟨x, rfl, h1⟩
    | succ i => exact RepL.get' (i := i) h2 (by simpa using e)
theorem RepL.append : ∀ {ds es : List D} {vs ws : List V}, RepL G ρ N H ds vs → RepL G ρ N H es ws → RepL G ρ N H (ds ++ es) (vs ++ ws)
  | [], _, _, _, h, h' => by simp only [RepL] at h; subst h; exact h'
  | d :: ds, _, _, _, h, h' => by
    simp only [RepL] at h
    obtain ⟨v, r, rfl, h1, h2⟩ := h
    show RepL G ρ N H (d :: (ds ++ _)) _
    simp only [RepL]
    exact ⟨v, _, rfl, h1, RepL.append h2 h'⟩
theorem RepL.nil : RepL G ρ N H [] [] := by simp only [RepL]
theorem RepL.cons {d : D} {ds : List D} {v : V} {vs : List V} (h : RepV G ρ N H d v) (t : RepL G ρ N H ds vs) : RepL G ρ N H (d :: ds) (v :: vs) := by
  simp only [RepL]; exact ⟨v, vs, rfl, h, t⟩
theorem RepL.one {d : D} {v : V} (h : RepV G ρ N H d v) : RepL G ρ N H [d] [v] := .cons h .nil
theorem RepL.take : ∀ {ds : List D} {vs : List V} (n : Nat), RepL G ρ N H ds vs → RepL G ρ N H (ds.take n) (vs.take n)
  | ds, vs, 0, h => by simp; exact .nil
  | [], _, n + 1, h => by simp only [RepL] at h; subst h; exact .nil
  | d :: ds, _, n + 1, h => by
    simp only [RepL] at h
    obtain ⟨v, r, rfl, h1, h2⟩ := h
    exact .cons h1 (RepL.take n h2)
theorem RepL.drop : ∀ {ds : List D} {vs : List V} (n : Nat), RepL G ρ N H ds vs → RepL G ρ N H (ds.drop n) (vs.drop n)
  | ds, vs, 0, h => h
  | [], _, n + 1, h => by simp only [RepL] at h; subst h; exact .nil
  | d :: ds, _, n + 1, h => by
    simp only [RepL] at h
    obtain ⟨v, r, rfl, h1, h2⟩ := h
    exact RepL.drop n h2
theorem RepL.set {d : D} {v : V} (h : RepV G ρ N H d v) : ∀ {ds : List D} {vs : List V} (i : Nat), RepL G ρ N H ds vs → RepL G ρ N H (ds.set i d) (vs.set i v)
  | [], _, _, h' => by simp only [RepL] at h'; subst h'; exact .nil
  | x :: ds, _, 0, h' => by
    simp only [RepL] at h'
    obtain ⟨w, r, rfl, h1, h2⟩ := h'
    exact .cons h h2
  | x :: ds, _, i + 1, h' => by
    simp only [RepL] at h'
    obtain ⟨w, r, rfl, h1, h2⟩ := h'
    exact .cons h1 (RepL.set h i h2)
theorem RepL.reverse : ∀ {ds : List D} {vs : List V}, RepL G ρ N H ds vs → RepL G ρ N H ds.reverse vs.reverse
  | [], _, h => by simp only [RepL] at h; subst h; exact .nil
  | x :: ds, _, h => by
    simp only [RepL] at h
    obtain ⟨w, r, rfl, h1, h2⟩ := h
    simp only [List.reverse_cons]
    exact (RepL.reverse h2).append (.one h1)
end

/-- the cell c at a -/
def RepC (G : GC) (ρ : Nat → Addr) (N : Nat) (H : Hp) : Cell → Addr → Prop
  | .lst xs, a => ∃ vs, H a = some (.lst vs) ∧ RepL G ρ N H xs vs
  | .rls xs, a => ∃ vs o, H a = some (.frz o (.lst vs)) ∧ RepL G ρ N H xs vs
  | .ins c fs, a => ∃ dx vs, H a = some (.ins (G.ca c) dx vs) ∧ RepF G ρ N H fs vs
  | .dct kvs, a => ∃ vs, H a = some (.dK vs) ∧ RepK G ρ N H kvs vs
structure Rel (G : GC) (ρ : Nat → Addr) (H : Hp) (M : Mem) : Prop where
  cell : ∀ n c, M[n]? = some c → RepC G ρ M.length H c (ρ n)
  inj : ∀ i j, i < M.length → j < M.length → ρ i = ρ j → i = j
end MI

set_option Elab.async false
set_option linter.all false
set_option maxRecDepth 100000
namespace MI
open PySem L2
section
variable {G : GC} {ρ ρ' ρ'' : Nat → Addr} {N N' N'' : Nat} {H H' H'' : Hp} {M M' : Mem}
theorem RepC.there {c : Cell} {a : Addr} (h : RepC G ρ N H c a) : ∃ u, H a = some u ∧ (∀ o xs, u ≠ .frz o (.tup xs)) ∧ (∀ fs, u ≠ .xd fs) := by
  cases c with
  | lst xs => obtain ⟨vs, e, _⟩ := h; exact ⟨_, e, (fun _ _ q => nomatch q), (fun _ q => nomatch q)⟩
  | rls xs => obtain ⟨vs, o, e, _⟩ := h; exact ⟨_, e, (fun _ _ q => nomatch q), (fun _ q => nomatch q)⟩
  | ins k fs => obtain ⟨dx, vs, e, _⟩ := h; exact ⟨_, e, (fun _ _ q => nomatch q), (fun _ q => nomatch q)⟩
  | dct kvs => obtain ⟨vs, e, _⟩ := h; exact ⟨_, e, (fun _ _ q => nomatch q), (fun _ q => nomatch q)⟩
theorem RepC.grow (g : Grow G ρ N H ρ' N' H') {c : Cell} {a b : Addr} (e : H' b = H a) (h : RepC G ρ N H c a) : RepC G ρ' N' H' c b := by
  cases c with
  | lst xs => obtain ⟨vs, q, r⟩ := h; exact ⟨vs, e.trans q, r.grow g⟩
  | rls xs => obtain ⟨vs, o, q, r⟩ := h; exact ⟨vs, o, e.trans q, r.grow g⟩
  | ins k fs => obtain ⟨dx, vs, q, r⟩ := h; exact ⟨dx, vs, e.trans q, r.grow g⟩
  | dct kvs => obtain ⟨vs, q, r⟩ := h; exact ⟨vs, e.trans q, r.grow g⟩
theorem lt_of_get {α : Type} {l : List α} {n : Nat} {c : α} (h : l[n]? = some c) : n < l.length := (List.getElem?_eq_some_iff.mp h).1
theorem Rel.some_ (r : Rel G ρ H M) {n : Nat} (h : n < M.length) : ∃ u, H (ρ n) = some u ∧ (∀ o xs, u ≠ .frz o (.tup xs)) ∧ (∀ fs, u ≠ .xd fs) :=
  (r.cell n M[n] (by simp [h])).there
/-- the cells' objects as they were -/
theorem Rel.keep (r : Rel G ρ H M) (g : Grow G ρ M.length H ρ M.length H') (k : ∀ n, n < M.length → H' (ρ n) = H (ρ n)) : Rel G ρ H' M :=
  ⟨fun n c e => (r.cell n c e).grow g (k n (lt_of_get e)), r.inj⟩
/-- a fresh object that is no cell -/
theorem grow_fresh {p : Addr} {o : HO} (hp : H p = none) : Grow G ρ N H ρ N (upd H p o) :=
  ⟨Nat.le_refl _, fun _ _ => rfl, fun b o xs h => by rw [upd_ne (ne_of_none h hp)]; exact h, fun b fs h => by rw [upd_ne (ne_of_none h hp)]; exact h⟩
theorem Rel.fresh (r : Rel G ρ H M) {p : Addr} {o : HO} (hp : H p = none) : Rel G ρ (upd H p o) M :=
  r.keep (grow_fresh hp) fun n h => by
    obtain ⟨u, e, _⟩ := r.some_ h
    rw [upd_ne (ne_of_none e hp)]
/-- a new cell -/
def ext (ρ : Nat → Addr) (N : Nat) (p : Addr) : Nat → Addr := fun n => if n = N then p else ρ n
theorem ext_new {p : Addr} : ext ρ N p N = p := if_pos rfl
theorem ext_old {p : Addr} {n : Nat} (h : n < N) : ext ρ N p n = ρ n := if_neg (Nat.ne_of_lt h)
theorem grow_new {p : Addr} {o : HO} (hp : H p = none) : Grow G ρ N H (ext ρ N p) (N + 1) (upd H p o) :=
  ⟨Nat.le_succ _, fun n h => ext_old h, fun b o xs h => by rw [upd_ne (ne_of_none h hp)]; exact h, fun b fs h => by rw [upd_ne (ne_of_none h hp)]; exact h⟩
theorem Rel.new (r : Rel G ρ H M) {p : Addr} {o : HO} (hp : H p = none) {c : Cell} (hc : RepC G (ext ρ M.length p) (M.length + 1) (upd H p o) c p) :
    Rel G (ext ρ M.length p) (upd H p o) (M ++ [c]) := by
  refine ⟨fun n c' e => ?_, fun i j hi hj e => ?_⟩
  · have hl : (M ++ [c]).length = M.length + 1 := by simp
    rw [hl]
    have hn := lt_of_get e
    rw [hl] at hn
    by_cases h : n = M.length
    · subst h
      rw [List.getElem?_append_right (Nat.le_refl _)] at e
      simp at e
      subst e
      rw [ext_new]
      exact hc
    · have hlt : n < M.length := by omega
      rw [List.getElem?_append_left hlt] at e
      have q := r.cell n c' e
      refine q.grow (grow_new hp) ?_
      rw [ext_old hlt]
      obtain ⟨u, e', _⟩ := q.there
      rw [upd_ne (ne_of_none e' hp)]
  · have hl : (M ++ [c]).length = M.length + 1 := by simp
    rw [hl] at hi hj
    have one : ∀ {i}, i < M.length → ρ i ≠ p := fun {i} h => by
      obtain ⟨u, e', _⟩ := r.some_ h
      exact ne_of_none e' hp
    by_cases h1 : i = M.length
    · by_cases h2 : j = M.length
      · omega
      · have h2' : j < M.length := by omega
        rw [h1, ext_new, ext_old h2'] at e
        exact absurd e.symm (one h2')
    · have h1' : i < M.length := by omega
      by_cases h2 : j = M.length
      · rw [h2, ext_new, ext_old h1'] at e
        exact absurd e (one h1')
      · have h2' : j < M.length := by omega
        rw [ext_old h1', ext_old h2'] at e
        exact r.inj i j h1' h2' e
/-- a cell is written -/
theorem Rel.grow_write (r : Rel G ρ H M) {n : Nat} {o : HO} (h : n < M.length) : Grow G ρ M.length H ρ M.length (upd H (ρ n) o) := by
  obtain ⟨u, e, h1, h2⟩ := r.some_ h
  refine ⟨Nat.le_refl _, fun _ _ => rfl, fun b o' xs q => ?_, fun b fs q => ?_⟩
  · rw [upd_ne]; exact q
    rintro rfl
    rw [e] at q
    exact h1 _ _ (Option.some.inj q)
  · rw [upd_ne]; exact q
    rintro rfl
    rw [e] at q
    exact h2 _ (Option.some.inj q)
theorem Rel.write (r : Rel G ρ H M) {n : Nat} {o : HO} (h : n < M.length) {c : Cell} (hc : RepC G ρ M.length (upd H (ρ n) o) c (ρ n)) :
    Rel G ρ (upd H (ρ n) o) (M.set n c) := by
  have hl : (M.set n c).length = M.length := by simp
  refine ⟨fun m c' e => ?_, fun i j hi hj e => r.inj i j (hl ▸ hi) (hl ▸ hj) e⟩
  rw [hl]
  by_cases hm : m = n
  · subst hm
    rw [List.getElem?_set_self h] at e
    cases e
    exact hc
  · rw [List.getElem?_set_ne (Ne.symm hm)] at e
    have hml := lt_of_get e
    refine (r.cell m c' e).grow (r.grow_write h) ?_
    rw [upd_ne]
    exact fun z => hm (r.inj m n hml h z)
end

/-! contexts -/
/-- the exception that a suite holds -/
def ExcIn (X : Cx) (G : GC) (a : Addr) (c : Str) (d : Addr) : Prop := ∃ oe, (a, oe) ∈ X.pn ∧ Zc (.ref (G.ca c)) (some d) oe ∧ ∃ vs, oe.data = .fields vs
def RepS (X : Cx) (G : GC) (ρ : Nat → Addr) (N : Nat) (H : Hp) : D → V → Prop
  | .exc c fs _, v => ∃ a d fv, v = .ref a ∧ ExcIn X G a c d ∧ H d = some (.xd fv) ∧ RepF G ρ N H fs fv
  | d, v => RepV G ρ N H d v
structure RepE (X : Cx) (G : GC) (ρ : Nat → Addr) (N : Nat) (H : Hp) (σ : St) (ev : Env) : Prop where
  len : σ.length = ev.length
  at_ : ∀ (i : Nat) (d : D), ev[i]? = some (some d) → ∃ v, σ[i]? = some (some v) ∧ RepS X G ρ N H d v
section
variable {X : Cx} {G : GC} {ρ ρ' ρ'' : Nat → Addr} {N N' N'' : Nat} {H H' H'' : Hp} {M M' : Mem} {σ : St} {ev : Env}
theorem RepS.of {d : D} {v : V} (h : RepV G ρ N H d v) : RepS X G ρ N H d v := by
  cases d with
  | exc _ _ _ => simp only [RepV] at h
  | _ => exact h
theorem RepS.grow (g : Grow G ρ N H ρ' N' H') {d : D} {v : V} (h : RepS X G ρ N H d v) : RepS X G ρ' N' H' d v := by
  cases d with
  | exc c fs i => obtain ⟨a, d, fv, e, x, q, r⟩ := h; exact ⟨a, d, fv, e, x, g.xds _ _ q, r.grow g⟩
  | non => exact RepV.grow g (d := .non) h
  | bl b => exact RepV.grow g (d := .bl b) h
  | int b => exact RepV.grow g (d := .int b) h
  | str b => exact RepV.grow g (d := .str b) h
  | tup b => exact RepV.grow g (d := .tup b) h
  | ref b => exact RepV.grow g (d := .ref b) h
theorem RepE.grow (g : Grow G ρ N H ρ' N' H') (h : RepE X G ρ N H σ ev) : RepE X G ρ' N' H' σ ev :=
  ⟨h.len, fun i d e => let ⟨v, q, r⟩ := h.at_ i d e; ⟨v, q, r.grow g⟩⟩
theorem RepE.set (h : RepE X G ρ N H σ ev) {d : D} {v : V} (r : RepV G ρ N H d v) (i : Nat) : RepE X G ρ N H (σ.set i (some v)) (ev.set i (some d)) := by
  refine ⟨by simp [h.len], fun j d' e => ?_⟩
  by_cases hj : j = i
  · subst hj
    have hl : j < ev.length := by
      have := lt_of_get e
      simpa using this
    rw [List.getElem?_set_self hl] at e
    cases e
    exact ⟨v, by rw [List.getElem?_set_self (by rw [h.len]; exact hl)], .of r⟩
  · rw [List.getElem?_set_ne (Ne.symm hj)] at e
    obtain ⟨w, q, r'⟩ := h.at_ j d' e
    exact ⟨w, by rw [List.getElem?_set_ne (Ne.symm hj)]; exact q, r'⟩
end

/-! what a result asks of what follows -/
abbrev Good (α : Type) := (Nat → Addr) → Mem → Hp → α → Prop
def PostR {α : Type} (G : GC) (W : WX) (σ : St) (ρ : Nat → Addr) (N : Nat) (H : Hp) (P : Good α) : R α → Prop
  | .ok a M' => ∀ ρ' H', Grow G ρ N H ρ' M'.length H' → Rel G ρ' H' M' → P ρ' M' H' a
  | .ex c fs M' => ∀ ρ' d fv H', Grow G ρ N H ρ' M'.length H' → Rel G ρ' H' M' → H' d = some (.xd fv) → RepF G ρ' M'.length H' fs fv → W (.ref (G.ca c)) (some d) σ H'
  | .st => False
abbrev GV (G : GC) (Q : VK) : Good D := fun ρ M H d => ∀ v, RepV G ρ M.length H d v → Q v H
abbrev GL (G : GC) (Q : List V → Hp → Prop) : Good (List D) := fun ρ M H d => ∀ v, RepL G ρ M.length H d v → Q v H
abbrev GB (Q : Bool → Hp → Prop) : Good Bool := fun _ _ H b => Q b H
def PostS (X : Cx) (G : GC) (W : WX) (ρ : Nat → Addr) (N : Nat) (H : Hp) (T : Ends) : O → Prop
  | .nx ev M' => ∀ ρ' σ' H', Grow G ρ N H ρ' M'.length H' → Rel G ρ' H' M' → RepE X G ρ' M'.length H' σ' ev → T.nx σ' H'
  | .bk ev M' => ∀ ρ' σ' H', Grow G ρ N H ρ' M'.length H' → Rel G ρ' H' M' → RepE X G ρ' M'.length H' σ' ev → T.bk σ' H'
  | .ct ev M' => ∀ ρ' σ' H', Grow G ρ N H ρ' M'.length H' → Rel G ρ' H' M' → RepE X G ρ' M'.length H' σ' ev → T.ct σ' H'
  | .rt d M' => ∀ ρ' v H', Grow G ρ N H ρ' M'.length H' → Rel G ρ' H' M' → RepV G ρ' M'.length H' d v → T.rt v H'
  | .ex c fs ev M' => ∀ ρ' d fv σ' H', Grow G ρ N H ρ' M'.length H' → Rel G ρ' H' M' → RepE X G ρ' M'.length H' σ' ev → H' d = some (.xd fv) → RepF G ρ' M'.length H' fs fv → W (.ref (G.ca c)) (some d) σ' H'
  | .st => False
abbrev Den := Env → Mem → R D
abbrev DenL := Env → Mem → R (List D)
abbrev DenT := Env → Mem → R Bool
abbrev DenS := Env → Mem → O
def tI (X : Cx) (G : GC) (W : WX) (f : Den) : TE := fun σ H Q => ∃ ρ M ev, Rel G ρ H M ∧ RepE X G ρ M.length H σ ev ∧ PostR G W σ ρ M.length H (GV G Q) (f ev M)
def tL (X : Cx) (G : GC) (W : WX) (f : DenL) : TA := fun σ H Q => ∃ ρ M ev, Rel G ρ H M ∧ RepE X G ρ M.length H σ ev ∧ PostR G W σ ρ M.length H (GL G Q) (f ev M)
def tT (X : Cx) (G : GC) (W : WX) (f : DenT) : TT := fun σ H Q => ∃ ρ M ev, Rel G ρ H M ∧ RepE X G ρ M.length H σ ev ∧ PostR G W σ ρ M.length H (GB Q) (f ev M)
def tS (X : Cx) (G : GC) (W : WX) (f : DenS) : TS := fun T σ H => ∃ ρ M ev, Rel G ρ H M ∧ RepE X G ρ M.length H σ ev ∧ PostS X G W ρ M.length H T (f ev M)
section
variable {X : Cx} {G : GC} {W : WX} {σ : St} {ρ ρ' : Nat → Addr} {N N' : Nat} {H H' : Hp} {α β : Type}
theorem PostR.trans {P : Good α} {r : R α} (p : PostR G W σ ρ N H P r) (g : Grow G ρ N H ρ' N' H') : PostR G W σ ρ' N' H' P r := by
  cases r with
  | ok a M' => exact fun ρ2 H2 g2 r2 => p ρ2 H2 (g.trans g2) r2
  | ex c fs M' => exact fun ρ2 d fv H2 g2 r2 => p ρ2 d fv H2 (g.trans g2) r2
  | st => exact p
theorem PostR.step {P : Good β} {P' : Good α} {r : R α} {k : α → Mem → R β} (p : PostR G W σ ρ N H P (r.bind k))
    (h : ∀ a M' ρ' H', r = .ok a M' → Grow G ρ N H ρ' M'.length H' → Rel G ρ' H' M' → PostR G W σ ρ' M'.length H' P (k a M') → P' ρ' M' H' a) : PostR G W σ ρ N H P' r := by
  cases r with
  | ok a M' => exact fun ρ2 H2 g2 r2 => h a M' ρ2 H2 rfl g2 r2 (PostR.trans p g2)
  | ex c fs M' => exact p
  | st => exact p
theorem PostS.trans {T : Ends} {r : O} (p : PostS X G W ρ N H T r) (g : Grow G ρ N H ρ' N' H') : PostS X G W ρ' N' H' T r := by
  cases r with
  | nx ev M' => exact fun ρ2 σ2 H2 g2 => p ρ2 σ2 H2 (g.trans g2)
  | bk ev M' => exact fun ρ2 σ2 H2 g2 => p ρ2 σ2 H2 (g.trans g2)
  | ct ev M' => exact fun ρ2 σ2 H2 g2 => p ρ2 σ2 H2 (g.trans g2)
  | rt d M' => exact fun ρ2 v H2 g2 => p ρ2 v H2 (g.trans g2)
  | ex c fs ev M' => exact fun ρ2 d fv σ2 H2 g2 => p ρ2 d fv σ2 H2 (g.trans g2)
  | st => exact p
end
/-- an expression within a statement -/
def R.bindO {α : Type} (r : R α) (ev : Env) (k : α → Mem → O) : O :=
  match r with
  | .ok a M => k a M
  | .ex c fs M => .ex c fs ev M
  | .st => .st
def O.bind (r : O) (k : Env → Mem → O) : O :=
  match r with
  | .nx ev M => k ev M
  | .rt d M => .rt d M
  | .bk ev M => .bk ev M
  | .ct ev M => .ct ev M
  | .ex c fs ev M => .ex c fs ev M
  | .st => .st
section
variable {X : Cx} {G : GC} {W : WX} {σ : St} {ρ ρ' : Nat → Addr} {N N' : Nat} {H H' : Hp} {α : Type} {ev : Env} {T : Ends}
theorem PostS.stepR {P' : Good α} {r : R α} {k : α → Mem → O} (e : RepE X G ρ N H σ ev) (p : PostS X G W ρ N H T (r.bindO ev k))
    (h : ∀ a M' ρ' H', r = .ok a M' → Grow G ρ N H ρ' M'.length H' → Rel G ρ' H' M' → PostS X G W ρ' M'.length H' T (k a M') → P' ρ' M' H' a) : PostR G W σ ρ N H P' r := by
  cases r with
  | ok a M' => exact fun ρ2 H2 g2 r2 => h a M' ρ2 H2 rfl g2 r2 (PostS.trans p g2)
  | ex c fs M' => exact fun ρ2 d fv H2 g2 r2 q f => p ρ2 d fv σ H2 g2 r2 (e.grow g2) q f
  | st => exact p
theorem PostS.stepO {T' : Ends} {r : O} {k : Env → Mem → O} (p : PostS X G W ρ N H T (r.bind k)) (hr : ∀ v H, T.rt v H → T'.rt v H) (hb : ∀ v H, T.bk v H → T'.bk v H) (hc : ∀ v H, T.ct v H → T'.ct v H)
    (h : ∀ ev M' ρ' σ' H', r = .nx ev M' → Grow G ρ N H ρ' M'.length H' → Rel G ρ' H' M' → RepE X G ρ' M'.length H' σ' ev → PostS X G W ρ' M'.length H' T (k ev M') → T'.nx σ' H') : PostS X G W ρ N H T' r := by
  cases r with
  | nx ev M' => exact fun ρ2 σ2 H2 g2 r2 e2 => h ev M' ρ2 σ2 H2 rfl g2 r2 e2 (PostS.trans p g2)
  | bk ev M' => exact fun ρ2 σ2 H2 g2 r2 e2 => hb _ _ (p ρ2 σ2 H2 g2 r2 e2)
  | ct ev M' => exact fun ρ2 σ2 H2 g2 r2 e2 => hc _ _ (p ρ2 σ2 H2 g2 r2 e2)
  | rt d M' => exact fun ρ2 v H2 g2 r2 e2 => hr _ _ (p ρ2 v H2 g2 r2 e2)
  | ex c fs ev M' => exact p
  | st => exact p
end
section
variable {X : Cx}
theorem PE.imp {e : Expr} {t t' : TE} (h : PE X e t) (w : ∀ σ H Q, t' σ H Q → t σ H Q) : PE X e t' := ⟨fun pins s σ H Q I q => h.run pins s σ H Q I (w σ H Q q)⟩
theorem PT.imp {e : Expr} {t t' : TT} (h : PT X e t) (w : ∀ σ H Q, t' σ H Q → t σ H Q) : PT X e t' := ⟨fun pins s σ H Q I q => h.run pins s σ H Q I (w σ H Q q)⟩
theorem PW.imp {e : Expr} {t t' : TT} (h : PW X e t) (w : ∀ σ H Q, t' σ H Q → t σ H Q) : PW X e t' := ⟨fun wh pins s σ H Q I q => h.run wh pins s σ H Q I (w σ H Q q)⟩
theorem PA.imp {e : List Expr} {t t' : TA} (h : PA X e t) (w : ∀ σ H Q, t' σ H Q → t σ H Q) : PA X e t' := ⟨fun pos pins s σ H Q I q => h.run pos pins s σ H Q I (w σ H Q q)⟩
theorem PS.imp {e : Stmt} {t t' : TS} (h : PS X e t) (w : ∀ T σ H, t' T σ H → t T σ H) : PS X e t' := ⟨fun pins s σ H T I q => h.run pins s σ H T I (w T σ H q)⟩
theorem PSs.imp {e : List Stmt} {t t' : TS} (h : PSs X e t) (w : ∀ T σ H, t' T σ H → t T σ H) : PSs X e t' := ⟨fun pins s σ H T I q => h.run pins s σ H T I (w T σ H q)⟩
end
end MI

set_option Elab.async false
set_option linter.all false
set_option maxRecDepth 100000
namespace MI
open PySem PySem.Spec PyProof.Rows L2
abbrev St := L2.St
/-! operations by deep values -/
abbrev Op1 := D → Mem → Option (D × Mem)
abbrev Op2 := D → D → Mem → Option (D × Mem)
abbrev OpN := List D → Mem → Option (D × Mem)
def R.of {α : Type} : Option (α × Mem) → R α
  | some (d, M) => .ok d M
  | none => .st
def PostO (G : GC) (ρ : Nat → Addr) (N : Nat) (H : Hp) (Q : VK) : Option (D × Mem) → Prop
  | some (d, M') => ∀ ρ' v H', Grow G ρ N H ρ' M'.length H' → Rel G ρ' H' M' → RepV G ρ' M'.length H' d v → Q v H'
  | none => False
def rd1 (G : GC) (f : Op1) : V → Hp → VK → Prop := fun x H Q => ∃ ρ M d, Rel G ρ H M ∧ RepV G ρ M.length H d x ∧ PostO G ρ M.length H Q (f d M)
def rd2 (G : GC) (f : Op2) : R2 := fun x y H Q => ∃ ρ M d e, Rel G ρ H M ∧ RepV G ρ M.length H d x ∧ RepV G ρ M.length H e y ∧ PostO G ρ M.length H Q (f d e M)
def rdn (G : GC) (f : OpN) : List V → Hp → VK → Prop := fun xs H Q => ∃ ρ M ds, Rel G ρ H M ∧ RepL G ρ M.length H ds xs ∧ PostO G ρ M.length H Q (f ds M)
def rdm (G : GC) (f : D → OpN) : V → List V → Hp → VK → Prop := fun x xs H Q => ∃ ρ M d ds, Rel G ρ H M ∧ RepV G ρ M.length H d x ∧ RepL G ρ M.length H ds xs ∧ PostO G ρ M.length H Q (f d ds M)
section
variable {X : Cx} {G : GC} {W : WX} {σ : St} {ρ ρ' : Nat → Addr} {N N' : Nat} {H H' : Hp} {M : Mem}
theorem PostO.of {Q : VK} {o : Option (D × Mem)} (p : PostR G W σ ρ N H (GV G Q) (R.of o)) : PostO G ρ N H Q o := by
  cases o with
  | none => exact p
  | some x => exact fun ρ' v H' g r q => p ρ' H' g r v q
theorem PostO.same {Q : VK} {d : D} {v : V} (p : PostO G ρ M.length H Q (some (d, M))) (r : Rel G ρ H M) (q : RepV G ρ M.length H d v) : Q v H := p ρ v H .refl r q
end
/-! combinators -/
def D.isExc : D → Bool
  | .exc _ _ _ => true
  | _ => false
def dVar (i : Nat) : Den := fun ev M => match ev[i]? with
  | some (some d) => if d.isExc then .st else .ok d M
  | _ => .st
def dC (d : D) : Den := fun _ M => .ok d M
def dOp1 (f : Op1) (a : Den) : Den := fun ev M => (a ev M).bind fun x M1 => R.of (f x M1)
def dOp2 (f : Op2) (a b : Den) : Den := fun ev M => (a ev M).bind fun x M1 => (b ev M1).bind fun y M2 => R.of (f x y M2)
def dNil : DenL := fun _ M => .ok [] M
def dCons (a : Den) (r : DenL) : DenL := fun ev M => (a ev M).bind fun x M1 => (r ev M1).bind fun xs M2 => .ok (x :: xs) M2
def dOpN (f : OpN) (a : DenL) : Den := fun ev M => (a ev M).bind fun xs M1 => R.of (f xs M1)
def dOpM (f : D → OpN) (o : Den) (a : DenL) : Den := fun ev M => (o ev M).bind fun x M1 => (a ev M1).bind fun xs M2 => R.of (f x xs M2)
section
variable {X : Cx} {G : GC} {W : WX} {a b e : Expr} {es : List Expr} {fa fb fe : Den} {fl : DenL} {pos p : Pos} {x : Str}
theorem i_var {i : Nat} (hN : X.N[i]? = some x) (hv : Vis X.env.scope x) (h1 : (x == ("__debug__" : Str)) = false) (h2 : (x == ("__classdict__" : Str)) = false) : PE X (.Name x pos) (tI X G W (dVar i)) := by
  refine PE.imp (pe_var hN hv h1 h2) fun σ H Q ⟨ρ, M, ev, r, er, p⟩ => ?_
  unfold dVar at p
  cases he : ev[i]? with
  | none => rw [he] at p; exact p.elim
  | some o =>
    cases o with
    | none => rw [he] at p; exact p.elim
    | some d =>
      rw [he] at p
      obtain ⟨v, q, rv⟩ := er.at_ i d he
      cases hd : d.isExc with
      | true => simp only [hd, if_true] at p; exact p.elim
      | false =>
        simp only [hd] at p
        have rv' : RepV G ρ M.length H d v := by
          cases d with
          | exc _ _ _ => simp [D.isExc] at hd
          | _ => exact rv
        exact ⟨v, q, p ρ H .refl r v rv'⟩
theorem tI_c {d : D} {v : V} {σ : St} {H : Hp} {Q : VK} (h : tI X G W (dC d) σ H Q) (hv : ∀ ρ N, RepV G ρ N H d v) : Q v H := by
  obtain ⟨ρ, M, ev, r, er, p⟩ := h
  exact p ρ H .refl r v (hv _ _)
theorem i_int {i : Int} {j : Nat} : PE X (.Constant (.int i) j pos) (tI X G W (dC (.int i))) := PE.imp pe_int fun _ _ _ h => tI_c h fun _ _ => by simp only [RepV]
theorem i_bl {i : Bool} {j : Nat} : PE X (.Constant (.bool i) j pos) (tI X G W (dC (.bl i))) := PE.imp pe_bl fun _ _ _ h => tI_c h fun _ _ => by simp only [RepV]
theorem i_non {j : Nat} : PE X (.Constant .none j pos) (tI X G W (dC .non)) := PE.imp pe_non fun _ _ _ h => tI_c h fun _ _ => by simp only [RepV]
theorem i_str {i : Str} {j : Nat} : PE X (.Constant (.str i) j pos) (tI X G W (dC (.str i))) := PE.imp pe_str fun _ _ _ h => tI_c h fun _ _ => by simp only [RepV]
theorem tI_op1 {f : Op1} {σ : St} {H : Hp} {Q : VK} (h : tI X G W (dOp1 f fa) σ H Q) : tI X G W fa σ H fun x H1 => rd1 G f x H1 Q := by
  obtain ⟨ρ, M, ev, r, er, p⟩ := h
  exact ⟨ρ, M, ev, r, er, p.step fun d M1 ρ1 H1 _ g1 r1 p1 v rv => ⟨ρ1, M1, d, r1, rv, .of p1⟩⟩
theorem tI_op2 {f : Op2} {σ : St} {H : Hp} {Q : VK} (h : tI X G W (dOp2 f fa fb) σ H Q) : tI X G W fa σ H fun x H1 => tI X G W fb σ H1 fun y H2 => rd2 G f x y H2 Q := by
  obtain ⟨ρ, M, ev, r, er, p⟩ := h
  exact ⟨ρ, M, ev, r, er, p.step fun d M1 ρ1 H1 _ g1 r1 p1 v rv => ⟨ρ1, M1, ev, r1, er.grow g1, p1.step fun e M2 ρ2 H2 _ g2 r2 p2 w rw' => ⟨ρ2, M2, d, e, r2, rv.grow g2, rw', .of p2⟩⟩⟩
theorem tI_opN {f : OpN} {σ : St} {H : Hp} {Q : VK} (h : tI X G W (dOpN f fl) σ H Q) : tL X G W fl σ H fun x H1 => rdn G f x H1 Q := by
  obtain ⟨ρ, M, ev, r, er, p⟩ := h
  exact ⟨ρ, M, ev, r, er, p.step fun d M1 ρ1 H1 _ g1 r1 p1 v rv => ⟨ρ1, M1, d, r1, rv, .of p1⟩⟩
theorem tI_opM {f : D → OpN} {σ : St} {H : Hp} {Q : VK} (h : tI X G W (dOpM f fa fl) σ H Q) : tI X G W fa σ H fun x H1 => tL X G W fl σ H1 fun xs H2 => rdm G f x xs H2 Q := by
  obtain ⟨ρ, M, ev, r, er, p⟩ := h
  exact ⟨ρ, M, ev, r, er, p.step fun d M1 ρ1 H1 _ g1 r1 p1 v rv => ⟨ρ1, M1, ev, r1, er.grow g1, p1.step fun e M2 ρ2 H2 _ g2 r2 p2 w rw' => ⟨ρ2, M2, d, e, r2, rv.grow g2, rw', .of p2⟩⟩⟩
theorem i_op {op : Operator} {f : Op2} (ho : OpR X (binaryOp op) (rd2 G f)) (ha : PE X a (tI X G W fa)) (hb : PE X b (tI X G W fb)) : PE X (.BinOp a op b pos) (tI X G W (dOp2 f fa fb)) :=
  PE.imp (pe_op ho ha hb) fun _ _ _ h => tI_op2 h
theorem i_un {op : UnaryOp} {f : Op1} (ho : UnR X (unaryOp op) (rd1 G f)) (ha : PE X a (tI X G W fa)) : PE X (.UnaryOp op a pos) (tI X G W (dOp1 f fa)) :=
  PE.imp (pe_un ho ha) fun _ _ _ h => tI_op1 h
theorem i_nil : PA X [] (tL X G W dNil) := PA.imp pa_nil fun σ H Q ⟨ρ, M, ev, r, er, p⟩ => p ρ H .refl r [] .nil
theorem i_cons (ha : PE X e (tI X G W fe)) (hr : PA X es (tL X G W fl)) (hs : starEach (e :: es) X.env = (false, eval e X.env) :: starEach es X.env) : PA X (e :: es) (tL X G W (dCons fe fl)) := by
  refine PA.imp (pa_cons ha hr hs) fun σ H Q ⟨ρ, M, ev, r, er, p⟩ => ?_
  exact ⟨ρ, M, ev, r, er, p.step fun d M1 ρ1 H1 _ g1 r1 p1 v rv => ⟨ρ1, M1, ev, r1, er.grow g1, p1.step fun ds M2 ρ2 H2 _ g2 r2 p2 vs rvs => p2 ρ2 H2 .refl r2 _ (.cons (rv.grow g2) rvs)⟩⟩
end

/-! arithmetic -/
theorem sizeN : sizeLine = 16777216 := sizeLine_eq
def lim : Nat := 16777216
theorem lim_eq : lim = sizeLine := sizeLine_eq.symm
def opAdd : Op2 := fun x y M => match x, y with
  | .int i, .int j => some (.int (i + j), M)
  | .str a, .str b => if a.length + b.length ≤ lim then some (.str (a ++ b), M) else none
  | .tup a, .tup b => if a.length + b.length ≤ lim then some (.tup (a ++ b), M) else none
  | .ref a, .ref b => match M[a]?, M[b]? with
    | some (.lst xs), some (.lst ys) => if xs.length + ys.length ≤ lim then some (.ref M.length, M ++ [.lst (xs ++ ys)]) else none
    | _, _ => none
  | _, _ => none
def opI (C : Int → Int → Bool) (g : Int → Int → Int) : Op2 := fun x y M => match x, y with
  | .int i, .int j => if C i j then some (.int (g i j), M) else none
  | _, _ => none
def opSub : Op2 := opI (fun _ _ => true) fun i j => i - j
/-- the bits together below a million -/
def bitsOk (i j : Int) : Bool := decide (i.natAbs.log2 + j.natAbs.log2 ≤ 400000)
section
variable {X : Cx} {G : GC}
theorem op_dI {op : Operator} {C : Int → Int → Bool} {C' : Int → Int → Prop} {g : Int → Int → Int} (h : OpR X (binaryOp op) (rI C' fun i j => .int (g i j))) (hc : ∀ i j, C i j = true → C' i j) : OpR X (binaryOp op) (rd2 G (opI C g)) := by
  intro pins s σ H x y v u Q I rx ry ⟨ρ, M, d, e, r, hd, he, p⟩
  cases d with
  | int i =>
    cases e with
    | int j =>
      simp only [RepV] at hd he
      subst hd he
      simp only [opI] at p
      split at p
      · rename_i hcc
        exact h pins s σ H _ _ v u Q I rx ry ⟨i, j, rfl, rfl, hc i j hcc, p.same r (by simp only [RepV])⟩
      · exact p.elim
    | _ => exact p.elim
  | _ => exact p.elim
/-- a new tuple, its object known -/
theorem Inv.tnew {pins : List (Addr × Obj)} {σ : St} {H : Hp} {s : Shared} {t' : Nat} {xs : List V} {its : List Value} (I : Inv X pins σ H s) (hv : Vals xs its) (hz : xs.length ≤ sizeLine) :
    Inv X pins σ (upd H s.heap.objs.size (.frz { cls := .type "tuple", data := .seq its.toArray } (.tup xs))) { s with heap := s.heap.push { cls := .type "tuple", data := .seq its.toArray }, toks := t' } :=
  I.laid (fun _ _ q => Heap.get?_push_of_some _ q) (Nat.le_refl _) ⟨Heap.get?_push_size _ rfl, hz, its, hv, IsTup.new _ _⟩
theorem rep_new {ρ : Nat → Addr} {M : Mem} {H : Hp} {p : Addr} {xs : List D} {vs : List V} {o : Obj} (hp : H p = none) (ho : o.dict = none) (r : RepL G ρ M.length H xs vs) : RepV G ρ M.length (upd H p (.frz o (.tup vs))) (.tup xs) (.ref p) := by
  simp only [RepV]
  exact ⟨p, vs, rfl, .inl ⟨o, ho, upd_same⟩, r.grow (grow_fresh hp)⟩
theorem PostO.lst {ρ : Nat → Addr} {M : Mem} {H : Hp} {Q : VK} {xs : List D} {vs : List V} (p : PostO G ρ M.length H Q (some (.ref M.length, M ++ [.lst xs]))) (r : Rel G ρ H M) (rl : RepL G ρ M.length H xs vs) :
    ∀ a, H a = none → Q (.ref a) (upd H a (.lst vs)) := fun a ha => by
  have hl : (M ++ [Cell.lst xs]).length = M.length + 1 := by simp
  refine p (ext ρ M.length a) (.ref a) _ (hl ▸ grow_new ha) (r.new ha ⟨vs, upd_same, rl.grow (grow_new ha)⟩) ?_
  simp only [RepV, hl]
  exact ⟨Nat.lt_succ_self _, by rw [ext_new]⟩
theorem PostO.tup {ρ : Nat → Addr} {M : Mem} {H : Hp} {Q : VK} {xs : List D} {vs : List V} (p : PostO G ρ M.length H Q (some (.tup xs, M))) (r : Rel G ρ H M) (rl : RepL G ρ M.length H xs vs) :
    ∀ a o, H a = none → o.dict = none → Q (.ref a) (upd H a (.frz o (.tup vs))) := fun a o ha ho => p ρ (.ref a) _ (grow_fresh ha) (r.fresh ha) (rep_new ha ho rl)
theorem PostO.put {ρ : Nat → Addr} {M : Mem} {H : Hp} {Q : VK} {n : Nat} {c : Cell} {o : HO} {d : D} {v : V} (p : PostO G ρ M.length H Q (some (d, M.set n c))) (r : Rel G ρ H M) (h : n < M.length) (hc : RepC G ρ M.length (upd H (ρ n) o) c (ρ n))
    (hv : RepV G ρ M.length (upd H (ρ n) o) d v) : Q v (upd H (ρ n) o) := by
  have hl : (M.set n c).length = M.length := by simp
  refine p ρ v _ ?_ (r.write h hc) ?_
  · rw [hl]; exact r.grow_write h
  · rw [hl]; exact hv
theorem rel_lst {ρ : Nat → Addr} {M : Mem} {H : Hp} {n : Nat} {xs : List D} (r : Rel G ρ H M) (h : M[n]? = some (.lst xs)) : ∃ vs, H (ρ n) = some (.lst vs) ∧ RepL G ρ M.length H xs vs := r.cell n _ h
/-- a list that is read -/
def getL (M : Mem) (n : Nat) : Option (List D) := match M[n]? with
  | some (.lst xs) => some xs
  | some (.rls xs) => some xs
  | _ => none
theorem rel_getL {ρ : Nat → Addr} {M : Mem} {H : Hp} {n : Nat} {xs : List D} (r : Rel G ρ H M) (h : MI.getL M n = some xs) : ∃ vs, SqL G.K H (ρ n) vs ∧ RepL G ρ M.length H xs vs := by
  unfold MI.getL at h
  cases e : M[n]? with
  | none => rw [e] at h; cases h
  | some c =>
    rw [e] at h
    cases c with
    | lst ys =>
      cases h
      obtain ⟨vs, q, rl⟩ := r.cell n _ e
      exact ⟨vs, .inl (.inl q), rl⟩
    | rls ys =>
      cases h
      obtain ⟨vs, o, q, rl⟩ := r.cell n _ e
      exact ⟨vs, .inl (.inr ⟨o, q⟩), rl⟩
    | _ => cases h
theorem RepL.nil_iff {ρ : Nat → Addr} {N : Nat} {H : Hp} {xs : List D} {vs : List V} (r : RepL G ρ N H xs vs) : xs = [] ↔ vs = [] := by
  have h := r.length
  constructor
  · intro e; rw [e] at h; exact List.length_eq_zero_iff.mp h
  · intro e; rw [e] at h; exact List.length_eq_zero_iff.mp h.symm
theorem op_addD (hK : G.K = X.K) : OpR X (binaryOp .Add) (rd2 G opAdd) := by
  intro pins s σ H x y v u Q I rx ry ⟨ρ, M, d, e, r, hd, he, p⟩
  unfold opAdd at p
  split at p
  · rename_i i j
    simp only [RepV] at hd he
    subst hd he
    exact op_add pins s σ H _ _ v u Q I rx ry ⟨i, j, rfl, rfl, p.same r (by simp only [RepV])⟩
  · rename_i a b
    simp only [RepV] at hd he
    subst hd he
    split at p
    · rename_i hz
      exact op_add_str pins s σ H _ _ v u Q I rx ry ⟨a, b, rfl, rfl, lim_eq ▸ hz, p.same r (by simp only [RepV])⟩
    · exact p.elim
  · rename_i a b
    simp only [RepV] at hd he
    obtain ⟨a', vs, rfl, ha, ra⟩ := hd
    obtain ⟨b', ws, rfl, hb, rb⟩ := he
    split at p
    · rename_i hz
      rw [lim_eq] at hz
      cases rx
      cases ry
      rw [hK] at ha hb
      obtain ⟨its, r1, p1, z1⟩ := I.tuple ha.sq
      obtain ⟨its2, r2, p2, z2⟩ := I.tuple hb.sq
      have l1 := ra.length
      have l2 := rb.length
      have hz' : vs.length + ws.length ≤ sizeLine := by omega
      by_cases hv : vs = []
      · have ea := ra.nil_iff.mpr hv
        subst hv ea
        cases r1
        refine cat_tup0 p1 p2 ⟨.ref b', H, I, rfl, p.same r ?_⟩
        simp only [RepV, List.nil_append]
        exact ⟨b', ws, rfl, hK ▸ hb, rb⟩
      · refine HT.cat_tup p1 p2 (fun z => hv (r1.nil_iff.mp z)) (fun z => ⟨.ref a', H, I, rfl, p.same r ?_⟩) (fun z => ?_) (by rw [← r1.length, ← r2.length]; exact hz')
        · have ew : ws = [] := r2.nil_iff.mp z
          have eb := rb.nil_iff.mpr ew
          subst eb
          simp only [RepV, List.append_nil]
          exact ⟨a', vs, rfl, hK ▸ ha, ra⟩
        · exact ⟨.ref s.heap.objs.size, _, Inv.tnew (t' := s.toks) I (r1.append r2) (by rw [List.length_append]; exact hz'), rfl, p.tup r (ra.append rb) _ _ I.fresh rfl⟩
    · exact p.elim
  · rename_i a b
    simp only [RepV] at hd he
    obtain ⟨la, rfl⟩ := hd
    obtain ⟨lb, rfl⟩ := he
    split at p
    · rename_i xs ys e1 e2
      obtain ⟨vs, h1, r1⟩ := rel_lst r e1
      obtain ⟨ws, h2, r2⟩ := rel_lst r e2
      split at p
      · rename_i hz
        exact op_cat pins s σ H _ _ v u Q I rx ry ⟨ρ a, ρ b, vs, ws, rfl, rfl, h1, h2, by rw [r1.length, r2.length, ← lim_eq]; exact hz, p.lst r (r1.append r2)⟩
      · exact p.elim
    · exact p.elim
  · exact p.elim
end
end MI

set_option Elab.async false
set_option linter.all false
set_option maxRecDepth 100000
namespace MI
open PySem PySem.Spec PyProof.Rows L2
/-! data as a whole -/
def optMap {α β : Type} (f : α → Option β) : List α → Option (List β)
  | [] => some []
  | a :: r => match f a, optMap f r with
    | some b, some t => some (b :: t)
    | _, _ => none
def toP (M : Mem) : Nat → D → Option PyData
  | _, .non => some .none
  | _, .bl b => some (.bool b)
  | _, .int i => some (.int i)
  | _, .str s => some (.str s)
  | n + 1, .tup xs => (optMap (toP M n) xs).map .tuple
  | n + 1, .ref k => match M[k]? with
    | some (.lst xs) => (optMap (toP M n) xs).map .list
    | some (.rls xs) => (optMap (toP M n) xs).map .list
    | _ => none
  | _, _ => none
section
variable {G : GC} {ρ : Nat → Addr} {H : Hp} {M : Mem}
theorem toPL_ok {n : Nat} (ih : ∀ {d : D} {v : V} {p : PyData}, toP M n d = some p → RepV G ρ M.length H d v → Dp G.K H v p) :
    ∀ {xs : List D} {vs : List V} {ps : List PyData}, optMap (toP M n) xs = some ps → RepL G ρ M.length H xs vs → DpAll G.K H vs ps
  | [], vs, ps, e, r => by
    simp only [RepL] at r
    simp only [optMap, Option.some.injEq] at e
    subst r e
    exact .nil
  | x :: xs, vs, ps, e, r => by
    simp only [RepL] at r
    obtain ⟨v, t, rfl, r1, r2⟩ := r
    simp only [optMap] at e
    cases e1 : toP M n x with
    | none => rw [e1] at e; simp at e
    | some b =>
      cases e2 : optMap (toP M n) xs with
      | none => rw [e1, e2] at e; simp at e
      | some t' =>
        rw [e1, e2] at e
        simp only [Option.some.injEq] at e
        subst e
        exact .cons (ih e1 r1) (toPL_ok ih e2 r2)
theorem toP_ok (r : Rel G ρ H M) : ∀ {n : Nat} {d : D} {v : V} {p : PyData}, toP M n d = some p → RepV G ρ M.length H d v → Dp G.K H v p
  | n, .non, v, p, e, h => by
    have e : some PyData.none = some p := by cases n <;> exact e
    cases e
    simp only [RepV] at h
    subst h
    exact .non
  | n, .bl b, v, p, e, h => by
    have e : some (PyData.bool b) = some p := by cases n <;> exact e
    cases e
    simp only [RepV] at h
    subst h
    exact .bl b
  | n, .int b, v, p, e, h => by
    have e : some (PyData.int b) = some p := by cases n <;> exact e
    cases e
    simp only [RepV] at h
    subst h
    exact .int b
  | n, .str b, v, p, e, h => by
    have e : some (PyData.str b) = some p := by cases n <;> exact e
    cases e
    simp only [RepV] at h
    subst h
    exact .str b
  | 0, .tup xs, v, p, e, h => by simp [toP] at e
  | n + 1, .tup xs, v, p, e, h => by
    simp only [toP] at e
    cases e2 : optMap (toP M n) xs with
    | none => rw [e2] at e; simp at e
    | some t =>
      rw [e2] at e
      simp only [Option.map_some, Option.some.injEq] at e
      subst e
      simp only [RepV] at h
      obtain ⟨a, vs, rfl, ha, rl⟩ := h
      exact .tup ha.sq (toPL_ok (fun e h => toP_ok r e h) e2 rl)
  | 0, .ref k, v, p, e, h => by simp [toP] at e
  | n + 1, .ref k, v, p, e, h => by
    simp only [toP] at e
    simp only [RepV] at h
    obtain ⟨hk, rfl⟩ := h
    have go : ∀ xs, getL M k = some xs → (optMap (toP M n) xs).map .list = some p → Dp G.K H (.ref (ρ k)) p := fun xs hg e => by
      obtain ⟨vs, hq, rl⟩ := rel_getL r hg
      cases e2 : optMap (toP M n) xs with
      | none => rw [e2] at e; simp at e
      | some t =>
        rw [e2] at e
        simp only [Option.map_some, Option.some.injEq] at e
        subst e
        exact .lst hq (toPL_ok (fun e h => toP_ok r e h) e2 rl)
    cases hm : M[k]? with
    | none => rw [hm] at e; simp at e
    | some c =>
      rw [hm] at e
      cases c with
      | lst xs => exact go xs (by unfold getL; rw [hm]) e
      | rls xs => exact go xs (by unfold getL; rw [hm]) e
      | _ => simp at e
  | n, .exc _ _ _, v, p, e, h => by simp only [RepV] at h
end
def toPs (M : Mem) (d : D) : Option PyData := match toP M 66 d with
  | some p => if SeqAt.shaped p then some p else none
  | none => none
theorem toPs_ok {G : GC} {ρ : Nat → Addr} {H : Hp} {M : Mem} (r : Rel G ρ H M) {d : D} {v : V} {p : PyData} (e : toPs M d = some p) (h : RepV G ρ M.length H d v) : Dp G.K H v p ∧ SeqAt.shaped p = true := by
  unfold toPs at e
  cases e1 : toP M 66 d with
  | none => rw [e1] at e; cases e
  | some q =>
    rw [e1] at e
    simp only at e
    split at e
    · rename_i hs
      cases e
      exact ⟨toP_ok r e1 h, hs⟩
    · cases e
/-- == -/
def eqB (x y : D) (M : Mem) : Option Bool := match x, y with
  | .int i, .int j => some (decide (i = j))
  | .str a, .str b => some (decide (a = b))
  | .bl a, .bl b => some (decide (a = b))
  | x, y => match toPs M x, toPs M y with
    | some p, some q => some (PyData.eqv p q)
    | _, _ => none
def opB (f : D → D → Mem → Option Bool) : Op2 := fun x y M => (f x y M).map fun b => (.bl b, M)
def neB (x y : D) (M : Mem) : Option Bool := (eqB x y M).map not
section
variable {X : Cx} {G : GC} {ρ : Nat → Addr} {H : Hp} {M : Mem}
theorem PostO.bl {Q : VK} {b : Bool} (p : PostO G ρ M.length H Q (some (.bl b, M))) (r : Rel G ρ H M) : Q (.bl b) H := p.same r (by simp only [RepV])
theorem PostO.int {Q : VK} {b : Int} (p : PostO G ρ M.length H Q (some (.int b, M))) (r : Rel G ρ H M) : Q (.int b) H := p.same r (by simp only [RepV])
theorem PostO.str {Q : VK} {b : Str} (p : PostO G ρ M.length H Q (some (.str b, M))) (r : Rel G ρ H M) : Q (.str b) H := p.same r (by simp only [RepV])
theorem PostO.non {Q : VK} (p : PostO G ρ M.length H Q (some (.non, M))) (r : Rel G ρ H M) : Q .non H := p.same r (by simp only [RepV])
theorem PostO.opB {Q : VK} {f : D → D → Mem → Option Bool} {x y : D} (p : PostO G ρ M.length H Q (MI.opB f x y M)) (r : Rel G ρ H M) : ∃ b, f x y M = some b ∧ Q (.bl b) H := by
  unfold MI.opB at p
  cases e : f x y M with
  | none => rw [e] at p; exact p.elim
  | some b => rw [e] at p; exact ⟨b, rfl, p.bl r⟩
theorem RepV.int' {N : Nat} {i : Int} {v : V} (h : RepV G ρ N H (.int i) v) : v = .int i := by simpa only [RepV] using h
theorem RepV.str' {N : Nat} {i : Str} {v : V} (h : RepV G ρ N H (.str i) v) : v = .str i := by simpa only [RepV] using h
theorem RepV.bl' {N : Nat} {i : Bool} {v : V} (h : RepV G ρ N H (.bl i) v) : v = .bl i := by simpa only [RepV] using h
theorem RepV.non' {N : Nat} {v : V} (h : RepV G ρ N H .non v) : v = .non := by simpa only [RepV] using h
theorem RepV.ref' {N n : Nat} {v : V} (h : RepV G ρ N H (.ref n) v) : n < N ∧ v = .ref (ρ n) := by simpa only [RepV] using h
theorem RepV.tup' {N : Nat} {xs : List D} {v : V} (h : RepV G ρ N H (.tup xs) v) : ∃ a vs, v = .ref a ∧ TupAt G.K H a vs ∧ RepL G ρ N H xs vs := by simpa only [RepV] using h
theorem eqB_pair {x y : D} {b : Bool} (h : eqB x y M = some b) : (∃ i j, x = .int i ∧ y = .int j ∧ b = decide (i = j)) ∨ (∃ i j, x = .str i ∧ y = .str j ∧ b = decide (i = j)) ∨ (∃ i j, x = .bl i ∧ y = .bl j ∧ b = decide (i = j)) ∨
    ∃ p q, toPs M x = some p ∧ toPs M y = some q ∧ b = PyData.eqv p q := by
  unfold eqB at h
  split at h
  · rename_i i j; cases h; exact .inl ⟨i, j, rfl, rfl, rfl⟩
  · rename_i i j; cases h; exact .inr (.inl ⟨i, j, rfl, rfl, rfl⟩)
  · rename_i i j; cases h; exact .inr (.inr (.inl ⟨i, j, rfl, rfl, rfl⟩))
  · split at h
    · rename_i p q e1 e2; cases h; exact .inr (.inr (.inr ⟨p, q, e1, e2, rfl⟩))
    · cases h
theorem op_eqDD (hK : G.K = X.K) (hu : X.A.units + 64 < cLine) : OpR X (compareOp .Eq) (rd2 G (opB eqB)) := by
  intro pins s σ H x y v u Q I rx ry ⟨ρ, M, d, e, r, hd, he, p⟩
  obtain ⟨b, hb, q⟩ := p.opB r
  rcases eqB_pair hb with ⟨i, j, rfl, rfl, rfl⟩ | ⟨i, j, rfl, rfl, rfl⟩ | ⟨i, j, rfl, rfl, rfl⟩ | ⟨p1, q1, e1, e2, rfl⟩
  · have h1 := hd.int'; have h2 := he.int'; subst h1 h2
    exact op_eq pins s σ H _ _ v u Q I rx ry ⟨rfl, by rw [dec_int, Bool.beq_eq_decide_eq]; exact q⟩
  · have h1 := hd.str'; have h2 := he.str'; subst h1 h2
    exact op_eq pins s σ H _ _ v u Q I rx ry ⟨rfl, by rw [dec_str, Bool.beq_eq_decide_eq]; exact q⟩
  · have h1 := hd.bl'; have h2 := he.bl'; subst h1 h2
    exact op_eq pins s σ H _ _ v u Q I rx ry ⟨rfl, by rw [dec_bl, Bool.beq_eq_decide_eq]; exact q⟩
  · obtain ⟨d1, s1⟩ := toPs_ok r e1 hd
    obtain ⟨d2, s2⟩ := toPs_ok r e2 he
    rw [hK] at d1 d2
    exact op_eqD hu pins s σ H _ _ v u Q I rx ry ⟨p1, q1, d1, d2, s1, s2, q⟩
theorem op_neDD (hK : G.K = X.K) (hu : X.A.units + 64 < cLine) : OpR X (compareOp .NotEq) (rd2 G (opB neB)) := by
  intro pins s σ H x y v u Q I rx ry ⟨ρ, M, d, e, r, hd, he, p⟩
  obtain ⟨b, hb', q⟩ := p.opB r
  unfold neB at hb'
  cases hb : eqB d e M with
  | none => rw [hb] at hb'; cases hb'
  | some b0 =>
  rw [hb] at hb'
  simp only [Option.map_some, Option.some.injEq] at hb'
  subst hb'
  rcases eqB_pair hb with ⟨i, j, rfl, rfl, rfl⟩ | ⟨i, j, rfl, rfl, rfl⟩ | ⟨i, j, rfl, rfl, rfl⟩ | ⟨p1, q1, e1, e2, rfl⟩
  · have h1 := hd.int'; have h2 := he.int'; subst h1 h2
    exact op_ne pins s σ H _ _ v u Q I rx ry ⟨rfl, by rw [dec_int, Bool.beq_eq_decide_eq]; exact q⟩
  · have h1 := hd.str'; have h2 := he.str'; subst h1 h2
    exact op_ne pins s σ H _ _ v u Q I rx ry ⟨rfl, by rw [dec_str, Bool.beq_eq_decide_eq]; exact q⟩
  · have h1 := hd.bl'; have h2 := he.bl'; subst h1 h2
    exact op_ne pins s σ H _ _ v u Q I rx ry ⟨rfl, by rw [dec_bl, Bool.beq_eq_decide_eq]; exact q⟩
  · obtain ⟨d1, s1⟩ := toPs_ok r e1 hd
    obtain ⟨d2, s2⟩ := toPs_ok r e2 he
    rw [hK] at d1 d2
    exact op_neD hu pins s σ H _ _ v u Q I rx ry ⟨p1, q1, d1, d2, s1, s2, q⟩
end
end MI

set_option Elab.async false
set_option linter.all false
set_option maxRecDepth 100000
namespace MI
open PySem PySem.Spec PyProof.Rows L2
/-! further comparisons -/
def flatD : D → Bool
  | .non | .bl _ | .int _ | .str _ => true
  | _ => false
def eqFlat : D → D → Bool
  | .non, .non => true
  | .bl a, .bl b => a == b
  | .bl a, .int b => (if a then 1 else 0) == b
  | .int a, .bl b => a == (if b then 1 else 0)
  | .int a, .int b => a == b
  | .str a, .str b => a == b
  | _, _ => false
def seqOf (y : D) (M : Mem) : Option (List D) := match y with
  | .tup xs => some xs
  | .ref n => getL M n
  | _ => none
def inB (x y : D) (M : Mem) : Option Bool := match y with
  | .str j => match x with
    | .str i => some (!(Builtin.Str.occurrences j i 0 j.length 1).isEmpty)
    | _ => none
  | y => match seqOf y M with
    | none => none
    | some xs => if flatD x && xs.all flatD then some (xs.any fun z => eqFlat z x) else
      match toPs M x, toPs M y with
      | some d, some (.list ds) => some (ds.any fun z => PyData.eqv z d)
      | some d, some (.tuple ds) => some (ds.any fun z => PyData.eqv z d)
      | _, _ => none
def ninB (x y : D) (M : Mem) : Option Bool := (inB x y M).map not
def tupInts : List D → Option (List Int)
  | [] => some []
  | .int i :: r => (tupInts r).map (i :: ·)
  | _ :: _ => none
def ltB (x y : D) (_ : Mem) : Option Bool := match x, y with
  | .int i, .int j => some (decide (i < j))
  | .str a, .str b => some (decide (a.cps.toList < b.cps.toList))
  | .tup a, .tup b => match tupInts a, tupInts b with
    | some ns, some ms => some (HT.lexLt ns ms)
    | _, _ => none
  | _, _ => none
def cmpI (f : Int → Int → Bool) (x y : D) (_ : Mem) : Option Bool := match x, y with
  | .int i, .int j => some (f i j)
  | _, _ => none
def leB := cmpI fun i j => decide (i ≤ j)
def gtB := cmpI fun i j => decide (j < i)
def geB := cmpI fun i j => decide (j ≤ i)
def D.isNon : D → Bool
  | .non => true
  | _ => false
def isB (x y : D) (_ : Mem) : Option Bool := match y with
  | .non => some x.isNon
  | .bl b => match x with
    | .bl a => some (decide (a = b))
    | _ => none
  | _ => none
def nisB (x y : D) (M : Mem) : Option Bool := (isB x y M).map not
section
variable {X : Cx} {G : GC}
theorem flat_rep {ρ : Nat → Addr} {N : Nat} {H : Hp} {d : D} {v : V} (r : RepV G ρ N H d v) (f : flatD d = true) : flatV v = true := by
  cases d with
  | non => rw [r.non']; rfl
  | bl b => rw [r.bl']; rfl
  | int b => rw [r.int']; rfl
  | str b => rw [r.str']; rfl
  | _ => simp [flatD] at f
theorem flat_repL {ρ : Nat → Addr} {N : Nat} {H : Hp} : ∀ {ds : List D} {vs : List V}, RepL G ρ N H ds vs → ds.all flatD = true → vs.all flatV = true
  | [], vs, r, _ => by simp only [RepL] at r; subst r; rfl
  | d :: ds, vs, r, f => by
    simp only [RepL] at r
    obtain ⟨v, t, rfl, r1, r2⟩ := r
    rw [List.all_cons, Bool.and_eq_true] at f ⊢
    exact ⟨flat_rep r1 f.1, flat_repL r2 f.2⟩
theorem eqFlat_rep {ρ : Nat → Addr} {N : Nat} {H : Hp} {d e : D} {v w : V} (r : RepV G ρ N H d v) (r' : RepV G ρ N H e w) (f : flatD d = true) (f' : flatD e = true) : eqV v w = eqFlat d e := by
  cases d with
  | non => rw [r.non']; cases e with
    | non => rw [r'.non']; rfl
    | bl b => rw [r'.bl']; rfl
    | int b => rw [r'.int']; rfl
    | str b => rw [r'.str']; rfl
    | _ => simp [flatD] at f'
  | bl b => rw [r.bl']; cases e with
    | non => rw [r'.non']; rfl
    | bl b => rw [r'.bl']; rfl
    | int b => rw [r'.int']; rfl
    | str b => rw [r'.str']; rfl
    | _ => simp [flatD] at f'
  | int b => rw [r.int']; cases e with
    | non => rw [r'.non']; rfl
    | bl b => rw [r'.bl']; rfl
    | int b => rw [r'.int']; rfl
    | str b => rw [r'.str']; rfl
    | _ => simp [flatD] at f'
  | str b => rw [r.str']; cases e with
    | non => rw [r'.non']; rfl
    | bl b => rw [r'.bl']; rfl
    | int b => rw [r'.int']; rfl
    | str b => rw [r'.str']; rfl
    | _ => simp [flatD] at f'
  | _ => simp [flatD] at f
theorem any_rep {ρ : Nat → Addr} {N : Nat} {H : Hp} {x : D} {w : V} (rx : RepV G ρ N H x w) (fx : flatD x = true) : ∀ {ds : List D} {vs : List V}, RepL G ρ N H ds vs → ds.all flatD = true → inV w vs = ds.any fun z => eqFlat z x
  | [], vs, r, _ => by simp only [RepL] at r; subst r; rfl
  | d :: ds, vs, r, f => by
    simp only [RepL] at r
    obtain ⟨v, t, rfl, r1, r2⟩ := r
    rw [List.all_cons, Bool.and_eq_true] at f
    have ih := any_rep rx fx r2 f.2
    unfold inV at ih ⊢
    rw [List.any_cons, List.any_cons, ih, eqFlat_rep r1 rx f.1 fx]
theorem seqOf_rep {ρ : Nat → Addr} {M : Mem} {H : Hp} {y : D} {w : V} {xs : List D} (r : Rel G ρ H M) (h : RepV G ρ M.length H y w) (e : seqOf y M = some xs) : ∃ a vs, w = .ref a ∧ (SqL G.K H a vs ∨ SqT G.K H a vs) ∧ RepL G ρ M.length H xs vs := by
  cases y with
  | tup ys =>
    cases e
    obtain ⟨a, vs, rfl, ha, rl⟩ := h.tup'
    exact ⟨a, vs, rfl, .inr ha.sq, rl⟩
  | ref n =>
    obtain ⟨hn, rfl⟩ := h.ref'
    obtain ⟨vs, hq, rl⟩ := rel_getL r e
    exact ⟨_, vs, rfl, .inl hq, rl⟩
  | _ => cases e
theorem in_data {pins : List (Addr × Obj)} {s : Shared} {σ : St} {H : Hp} {x y : V} {v u : Value} {Q : VK} {d : PyData} {ds : List PyData} {c : PyData} (hu : X.A.units + 65 < cLine) (I : Inv X pins σ H s) (rx : RelV x v) (ry : RelV y u) (hc : c = .list ds ∨ c = .tuple ds)
    (hd : Dp X.K H x d) (he : Dp X.K H y c) (sd : SeqAt.shaped d = true) (se : SeqAt.shaped c = true) (q : Q (.bl (ds.any fun z => PyData.eqv z d)) H) : wpAny (model X.prog X.w) X.A (compareOp .In v u) (EP X pins σ Q) X.xe s := by
  obtain ⟨as, r1⟩ := Dp.reads I d x v hd rx
  obtain ⟨bs, r2⟩ := Dp.reads I c y u he ry
  rcases hc with rfl | rfl
  · exact SeqAt.in_list_reads r2 r1 (SeqAt.canLay_of_shaped se) (SeqAt.canLay_of_shaped sd) (room_in_shaped sd hu) ⟨.bl _, H, I, rfl, q⟩
  · exact SeqAt.in_tuple_reads r2 r1 (SeqAt.canLay_of_shaped se) (SeqAt.canLay_of_shaped sd) (room_in_shaped sd hu) ⟨.bl _, H, I, rfl, q⟩
theorem nin_data {pins : List (Addr × Obj)} {s : Shared} {σ : St} {H : Hp} {x y : V} {v u : Value} {Q : VK} {d : PyData} {ds : List PyData} {c : PyData} (hu : X.A.units + 65 < cLine) (I : Inv X pins σ H s) (rx : RelV x v) (ry : RelV y u) (hc : c = .list ds ∨ c = .tuple ds)
    (hd : Dp X.K H x d) (he : Dp X.K H y c) (sd : SeqAt.shaped d = true) (se : SeqAt.shaped c = true) (q : Q (.bl (!ds.any fun z => PyData.eqv z d)) H) : wpAny (model X.prog X.w) X.A (compareOp .NotIn v u) (EP X pins σ Q) X.xe s := by
  obtain ⟨as, r1⟩ := Dp.reads I d x v hd rx
  obtain ⟨bs, r2⟩ := Dp.reads I c y u he ry
  rcases hc with rfl | rfl
  · exact SeqAt.notIn_list_reads r2 r1 (SeqAt.canLay_of_shaped se) (SeqAt.canLay_of_shaped sd) (room_in_shaped sd hu) ⟨.bl _, H, I, rfl, q⟩
  · exact SeqAt.notIn_tuple_reads r2 r1 (SeqAt.canLay_of_shaped se) (SeqAt.canLay_of_shaped sd) (room_in_shaped sd hu) ⟨.bl _, H, I, rfl, q⟩
/-- the ways of in -/
theorem inB_ways {x y : D} {M : Mem} {b : Bool} (h : inB x y M = some b) : (∃ i j, x = .str i ∧ y = .str j ∧ b = !(Builtin.Str.occurrences j i 0 j.length 1).isEmpty) ∨
    (∃ xs, seqOf y M = some xs ∧ flatD x = true ∧ xs.all flatD = true ∧ b = xs.any fun z => eqFlat z x) ∨
    ∃ d c ds, toPs M x = some d ∧ toPs M y = some c ∧ (c = .list ds ∨ c = .tuple ds) ∧ b = ds.any fun z => PyData.eqv z d := by
  unfold inB at h
  split at h
  · split at h
    · rename_i j _ i; cases h; exact .inl ⟨i, j, rfl, rfl, rfl⟩
    · cases h
  · split at h
    · cases h
    · rename_i xs e
      split at h
      · rename_i f
        rw [Bool.and_eq_true] at f
        cases h
        exact .inr (.inl ⟨xs, e, f.1, f.2, rfl⟩)
      · split at h
        · rename_i d ds e1 e2; cases h; exact .inr (.inr ⟨d, _, ds, e1, e2, .inl rfl, rfl⟩)
        · rename_i d ds e1 e2; cases h; exact .inr (.inr ⟨d, _, ds, e1, e2, .inr rfl, rfl⟩)
        · cases h
theorem op_inDD (hK : G.K = X.K) (hu : X.A.units + 65 < cLine) : OpR X (compareOp .In) (rd2 G (opB inB)) := by
  intro pins s σ H x y v u Q I rx ry ⟨ρ, M, d, e, r, hd, he, p⟩
  obtain ⟨b, hb, q⟩ := p.opB r
  rcases inB_ways hb with ⟨i, j, rfl, rfl, rfl⟩ | ⟨xs, e1, f1, f2, rfl⟩ | ⟨d', c, ds, e1, e2, hc, rfl⟩
  · have h1 := hd.str'; have h2 := he.str'; subst h1 h2
    exact op_in_str pins s σ H _ _ v u Q I rx ry ⟨i, j, rfl, rfl, q⟩
  · obtain ⟨a, vs, rfl, hq, rl⟩ := seqOf_rep r he e1
    rw [hK] at hq
    refine op_in_seq pins s σ H _ _ v u Q I rx ry ⟨a, vs, rfl, hq, flat_rep hd f1, flat_repL rl f2, ?_⟩
    rw [if_neg (by decide), any_rep hd f1 rl f2]
    exact q
  · obtain ⟨d1, s1⟩ := toPs_ok r e1 hd
    obtain ⟨d2, s2⟩ := toPs_ok r e2 he
    rw [hK] at d1 d2
    exact in_data hu I rx ry hc d1 d2 s1 s2 q
theorem op_ninDD (hK : G.K = X.K) (hu : X.A.units + 65 < cLine) : OpR X (compareOp .NotIn) (rd2 G (opB ninB)) := by
  intro pins s σ H x y v u Q I rx ry ⟨ρ, M, d, e, r, hd, he, p⟩
  obtain ⟨b, hb', q⟩ := p.opB r
  unfold ninB at hb'
  cases hb : inB d e M with
  | none => rw [hb] at hb'; cases hb'
  | some b0 =>
  rw [hb] at hb'
  simp only [Option.map_some, Option.some.injEq] at hb'
  subst hb'
  rcases inB_ways hb with ⟨i, j, rfl, rfl, rfl⟩ | ⟨xs, e1, f1, f2, rfl⟩ | ⟨d', c, ds, e1, e2, hc, rfl⟩
  · have h1 := hd.str'; have h2 := he.str'; subst h1 h2
    exact op_notIn_str pins s σ H _ _ v u Q I rx ry ⟨i, j, rfl, rfl, q⟩
  · obtain ⟨a, vs, rfl, hq, rl⟩ := seqOf_rep r he e1
    rw [hK] at hq
    refine op_notIn_seq pins s σ H _ _ v u Q I rx ry ⟨a, vs, rfl, hq, flat_rep hd f1, flat_repL rl f2, ?_⟩
    rw [if_pos rfl, any_rep hd f1 rl f2]
    exact q
  · obtain ⟨d1, s1⟩ := toPs_ok r e1 hd
    obtain ⟨d2, s2⟩ := toPs_ok r e2 he
    rw [hK] at d1 d2
    exact nin_data hu I rx ry hc d1 d2 s1 s2 q
theorem tupInts_ok {ρ : Nat → Addr} {N : Nat} {H : Hp} : ∀ {xs : List D} {vs : List V} {ns : List Int}, tupInts xs = some ns → RepL G ρ N H xs vs → vs = ns.map V.int
  | [], vs, ns, e, r => by
    simp only [RepL] at r
    cases e
    subst r
    rfl
  | x :: xs, vs, ns, e, r => by
    simp only [RepL] at r
    obtain ⟨v, t, rfl, r1, r2⟩ := r
    cases x with
    | int i =>
      simp only [tupInts] at e
      cases e1 : tupInts xs with
      | none => rw [e1] at e; cases e
      | some ms =>
        rw [e1] at e
        cases e
        rw [r1.int', tupInts_ok e1 r2]
        rfl
    | _ => cases e
theorem op_ltDD (hK : G.K = X.K) (hu : X.A.units < cLine) : OpR X (compareOp .Lt) (rd2 G (opB ltB)) := by
  intro pins s σ H x y v u Q I rx ry ⟨ρ, M, d, e, r, hd, he, p⟩
  obtain ⟨b, hb, q⟩ := p.opB r
  unfold ltB at hb
  split at hb
  · cases hb
    have h1 := hd.int'; have h2 := he.int'; subst h1 h2
    exact op_lt pins s σ H _ _ v u Q I rx ry ⟨_, _, rfl, rfl, q⟩
  · cases hb
    have h1 := hd.str'; have h2 := he.str'; subst h1 h2
    exact op_lt_str pins s σ H _ _ v u Q I rx ry ⟨_, _, rfl, rfl, q⟩
  · split at hb
    · rename_i ns ms e1 e2
      cases hb
      obtain ⟨a, vs, rfl, ha, ra⟩ := hd.tup'
      obtain ⟨b, ws, rfl, hb, rb⟩ := he.tup'
      rw [hK] at ha hb
      have q1 := tupInts_ok e1 ra
      have q2 := tupInts_ok e2 rb
      subst q1 q2
      exact op_ltT hu pins s σ H _ _ v u Q I rx ry ⟨a, b, ns, ms, rfl, rfl, ha.sq, hb.sq, q⟩
    · cases hb
  · cases hb
theorem op_cmpI {op : CmpOp} {f : Int → Int → Bool} (h : OpR X (compareOp op) (rI0 fun i j => .bl (f i j))) : OpR X (compareOp op) (rd2 G (opB (cmpI f))) := by
  intro pins s σ H x y v u Q I rx ry ⟨ρ, M, d, e, r, hd, he, p⟩
  obtain ⟨b, hb, q⟩ := p.opB r
  unfold cmpI at hb
  split at hb
  · cases hb
    have h1 := hd.int'; have h2 := he.int'; subst h1 h2
    exact h pins s σ H _ _ v u Q I rx ry ⟨_, _, rfl, rfl, q⟩
  · cases hb
theorem op_leDD : OpR X (compareOp .LtE) (rd2 G (opB leB)) := op_cmpI op_le
theorem op_gtDD : OpR X (compareOp .Gt) (rd2 G (opB gtB)) := op_cmpI op_gt
theorem op_geDD : OpR X (compareOp .GtE) (rd2 G (opB geB)) := op_cmpI op_ge
theorem isNon_rep {ρ : Nat → Addr} {N : Nat} {H : Hp} {d : D} {v : V} (r : RepV G ρ N H d v) : decide (v = .non) = d.isNon := by
  cases d with
  | non => rw [r.non']; rfl
  | bl b => rw [r.bl']; rfl
  | int b => rw [r.int']; rfl
  | str b => rw [r.str']; rfl
  | tup xs => obtain ⟨a, vs, rfl, _⟩ := r.tup'; rfl
  | ref n => obtain ⟨_, rfl⟩ := r.ref'; rfl
  | exc _ _ _ => simp only [RepV] at r
theorem op_isDD : OpR X (compareOp .Is) (rd2 G (opB isB)) := by
  intro pins s σ H x y v u Q I rx ry ⟨ρ, M, d, e, r, hd, he, p⟩
  obtain ⟨b, hb, q⟩ := p.opB r
  unfold isB at hb
  split at hb
  · cases hb
    have h2 := he.non'; subst h2
    refine op_isN pins s σ H _ _ v u Q I rx ry ⟨rfl, ?_⟩
    rw [isNon_rep hd]
    exact q
  · split at hb
    · cases hb
      have h1 := hd.bl'; have h2 := he.bl'; subst h1 h2
      exact op_is_bl pins s σ H _ _ v u Q I rx ry ⟨_, _, rfl, rfl, q⟩
    · cases hb
  · cases hb
theorem op_nisDD : OpR X (compareOp .IsNot) (rd2 G (opB nisB)) := by
  intro pins s σ H x y v u Q I rx ry ⟨ρ, M, d, e, r, hd, he, p⟩
  obtain ⟨b, hb', q⟩ := p.opB r
  unfold nisB at hb'
  cases hb : isB d e M with
  | none => rw [hb] at hb'; cases hb'
  | some b0 =>
  rw [hb] at hb'
  simp only [Option.map_some, Option.some.injEq] at hb'
  subst hb'
  unfold isB at hb
  split at hb
  · cases hb
    have h2 := he.non'; subst h2
    refine op_notN pins s σ H _ _ v u Q I rx ry ⟨rfl, ?_⟩
    rw [isNon_rep hd]
    exact q
  · split at hb
    · cases hb
      have h1 := hd.bl'; have h2 := he.bl'; subst h1 h2
      exact op_isnot_bl pins s σ H _ _ v u Q I rx ry ⟨_, _, rfl, rfl, q⟩
    · cases hb
  · cases hb
end
end MI

set_option Elab.async false
set_option linter.all false
set_option maxRecDepth 100000
namespace MI
open PySem PySem.Spec PyProof.Rows L2
/-! truth, tests -/
def truB (x : D) (M : Mem) : Option Bool := match x with
  | .non => some false
  | .bl b => some b
  | .int i => some (i != 0)
  | .str s => if s.length ≤ lim then some ((s.length : Int) != 0) else none
  | .tup xs => some (!xs.isEmpty)
  | .ref n => match M[n]? with
    | some (.lst xs) => some (!xs.isEmpty)
    | some (.rls xs) => some (!xs.isEmpty)
    | some (.dct xs) => some (!xs.isEmpty)
    | _ => none
  | _ => none
def R.ofB (o : Option Bool) (M : Mem) : R Bool := match o with
  | some b => .ok b M
  | none => .st
def dTru (a : Den) : DenT := fun ev M => (a ev M).bind fun x M1 => R.ofB (truB x M1) M1
def tNotD (a : DenT) : DenT := fun ev M => (a ev M).bind fun b M1 => .ok (!b) M1
def tAndD (a b : DenT) : DenT := fun ev M => (a ev M).bind fun x M1 => if x then b ev M1 else .ok false M1
def tOrD (a b : DenT) : DenT := fun ev M => (a ev M).bind fun x M1 => if x then .ok true M1 else b ev M1
def dAnd (a b : Den) : Den := fun ev M => (a ev M).bind fun x M1 => match truB x M1 with
  | some true => b ev M1
  | some false => .ok x M1
  | none => .st
def dOr (a b : Den) : Den := fun ev M => (a ev M).bind fun x M1 => match truB x M1 with
  | some true => .ok x M1
  | some false => b ev M1
  | none => .st
def dNot (a : Den) : Den := fun ev M => (a ev M).bind fun x M1 => match truB x M1 with
  | some b => .ok (.bl (!b)) M1
  | none => .st
def dIf (t : DenT) (a b : Den) : Den := fun ev M => (t ev M).bind fun x M1 => if x then a ev M1 else b ev M1
def dChain (f g : D → D → Mem → Option Bool) (a b c : Den) : Den := fun ev M => (a ev M).bind fun x M1 => (b ev M1).bind fun y M2 => match f x y M2 with
  | some true => (c ev M2).bind fun z M3 => R.of (opB g y z M3)
  | some false => .ok (.bl false) M2
  | none => .st
section
variable {X : Cx} {G : GC} {W : WX} {a b c e : Expr} {es : List Expr} {fa fb fc fe : Den} {ta tb : DenT} {fl : DenL} {pos p : Pos}
theorem emp_len {α β : Type} {xs : List α} {ys : List β} (h : xs.length = ys.length) : xs.isEmpty = ys.isEmpty := by
  cases xs <;> cases ys <;> simp_all
theorem truB_ok (hK : G.K = X.K) {ρ : Nat → Addr} {M : Mem} {H : Hp} {x : D} {v : V} {b : Bool} (r : Rel G ρ H M) (h : RepV G ρ M.length H x v) (e : truB x M = some b) : TruV X.K v H b := by
  unfold truB at e
  split at e
  · cases e; rw [h.non']; rfl
  · cases e; rw [h.bl']; rfl
  · cases e; rw [h.int']; rfl
  · split at e
    · rename_i hz; cases e; rw [h.str']; exact ⟨lim_eq ▸ hz, rfl⟩
    · cases e
  · cases e
    obtain ⟨a, vs, rfl, ha, rl⟩ := h.tup'
    refine .inr (.inl ⟨vs, hK ▸ ha.sq, ?_⟩)
    have := rl.length
    exact congrArg not (emp_len this).symm
  · obtain ⟨hn, rfl⟩ := h.ref'
    split at e
    · rename_i xs hm
      cases e
      obtain ⟨vs, q, rl⟩ := r.cell _ _ hm
      refine .inl ⟨vs, .inl (.inl q), ?_⟩
      have := rl.length
      exact congrArg not (emp_len this).symm
    · rename_i xs hm
      cases e
      obtain ⟨vs, o, q, rl⟩ := r.cell _ _ hm
      refine .inl ⟨vs, .inl (.inr ⟨o, q⟩), ?_⟩
      have := rl.length
      exact congrArg not (emp_len this).symm
    · rename_i xs hm
      cases e
      obtain ⟨vs, q, rl⟩ := r.cell _ _ hm
      refine .inr (.inr ⟨vs, q, ?_⟩)
      cases xs with
      | nil => cases rl; rfl
      | cons x xs => obtain ⟨v, t, rfl, _⟩ := rl; rfl
    · cases e
  · cases e
theorem t_tru (hK : G.K = X.K) (ha : PE X a (tI X G W fa)) (he : ∀ whole, isTrue a X.env whole = (do let v ← whole; standAt a.pos; holding [v] (truthy v))) : PT X a (tT X G W (dTru fa)) := by
  refine PT.imp (pt_truth ha he) fun σ H Q ⟨ρ, M, ev, r, er, p⟩ => ?_
  refine ⟨ρ, M, ev, r, er, p.step fun d M1 ρ1 H1 _ g1 r1 p1 v rv => ?_⟩
  cases ht : truB d M1 with
  | none => rw [ht] at p1; exact p1.elim
  | some b => rw [ht] at p1; exact ⟨b, truB_ok hK r1 rv ht, p1 ρ1 H1 .refl r1⟩
theorem opB_bl {f : D → D → Mem → Option Bool} {x y d : D} {M M1 : Mem} (h : R.of (opB f x y M) = .ok d M1) : ∃ b, d = .bl b := by
  unfold opB at h
  cases e : f x y M with
  | none => rw [e] at h; cases h
  | some b => rw [e] at h; cases h; exact ⟨b, rfl⟩
theorem bind_ok {α β : Type} {r : R α} {k : α → Mem → R β} {d : β} {M : Mem} (h : r.bind k = .ok d M) : ∃ x M1, r = .ok x M1 ∧ k x M1 = .ok d M := by
  cases r with
  | ok x M1 => exact ⟨x, M1, rfl, h⟩
  | ex c fs M1 => cases h
  | st => cases h
theorem t_of_bl {f : Den} {σ : St} {H : Hp} {Q : Bool → Hp → Prop} (hb : ∀ ev M d M1, f ev M = .ok d M1 → ∃ b, d = .bl b) (h : tT X G W (dTru f) σ H Q) : tI X G W f σ H fun x H' => ∃ k, x = .bl k ∧ Q k H' := by
  obtain ⟨ρ, M, ev, r, er, p⟩ := h
  refine ⟨ρ, M, ev, r, er, p.step fun d M1 ρ1 H1 eq g1 r1 p1 v rv => ?_⟩
  obtain ⟨b, rfl⟩ := hb ev M d M1 eq
  exact ⟨b, rv.bl', p1 ρ1 H1 .refl r1⟩
theorem t_cmp {op : CmpOp} {f : D → D → Mem → Option Bool} (ho : OpR X (compareOp op) (rd2 G (opB f))) (ha : PE X a (tI X G W fa)) (hb : PE X b (tI X G W fb)) (hm : behindInMarks op b = false) : PT X (.Compare a [op] [b] pos) (tT X G W (dTru (dOp2 (opB f) fa fb))) :=
  PT.imp (pt_cmpR ho ha hb hm) fun σ H Q h => tI_op2 (t_of_bl (fun ev M d M1 e => by
    obtain ⟨x, M2, _, e⟩ := bind_ok e
    obtain ⟨y, M3, _, e⟩ := bind_ok e
    exact opB_bl e) h)
theorem i_cmp {op : CmpOp} {f : Op2} (ho : OpR X (compareOp op) (rd2 G f)) (ha : PE X a (tI X G W fa)) (hb : PE X b (tI X G W fb)) (hm : behindInMarks op b = false) : PE X (.Compare a [op] [b] pos) (tI X G W (dOp2 f fa fb)) :=
  PE.imp (pe_cmpR ho ha hb hm) fun _ _ _ h => tI_op2 h
theorem tI_chain {f g : D → D → Mem → Option Bool} {σ : St} {H : Hp} {Q : VK} (h : tI X G W (dChain f g fa fb fc) σ H Q) : tChain (rd2 G (opB f)) (rd2 G (opB g)) (tI X G W fa) (tI X G W fb) (tI X G W fc) σ H Q := by
  obtain ⟨ρ, M, ev, r, er, p⟩ := h
  refine ⟨ρ, M, ev, r, er, p.step fun x M1 ρ1 H1 _ g1 r1 p1 v rv => ⟨ρ1, M1, ev, r1, er.grow g1, p1.step fun y M2 ρ2 H2 _ g2 r2 p2 w rw' => ?_⟩⟩
  have er2 := (er.grow g1).grow g2
  refine ⟨ρ2, M2, x, y, r2, rv.grow g2, rw', ?_⟩
  unfold opB
  cases e : f x y M2 with
  | none => rw [e] at p2; exact p2.elim
  | some b =>
    rw [e] at p2
    intro ρ3 z H3 g3 r3 rz
    refine ⟨b, rz.bl', ?_⟩
    have p3 := p2.trans g3
    cases b with
    | false => exact iteF (p3 ρ3 H3 .refl r3 _ (by simp only [RepV]))
    | true =>
      rw [if_pos rfl]
      exact ⟨ρ3, M2, ev, r3, er2.grow g3, p3.step fun z' M4 ρ4 H4 _ g4 r4 p4 u ru => ⟨ρ4, M4, y, z', r4, (rw'.grow g3).grow g4, ru, .of p4⟩⟩
theorem i_chain {op op' : CmpOp} {f g : D → D → Mem → Option Bool} (ho : OpR X (compareOp op) (rd2 G (opB f))) (ho' : OpR X (compareOp op') (rd2 G (opB g))) (ha : PE X a (tI X G W fa)) (hb : PE X b (tI X G W fb)) (hc : PE X c (tI X G W fc))
    (hm : lastMarks [op, op'] [b, c] = false) : PE X (.Compare a [op, op'] [b, c] pos) (tI X G W (dChain f g fa fb fc)) := PE.imp (pe_chain ho ho' ha hb hc hm) fun _ _ _ h => tI_chain h
theorem t_chain {op op' : CmpOp} {f g : D → D → Mem → Option Bool} (ho : OpR X (compareOp op) (rd2 G (opB f))) (ho' : OpR X (compareOp op') (rd2 G (opB g))) (ha : PE X a (tI X G W fa)) (hb : PE X b (tI X G W fb)) (hc : PE X c (tI X G W fc))
    (hm : lastMarks [op, op'] [b, c] = false) : PT X (.Compare a [op, op'] [b, c] pos) (tT X G W (dTru (dChain f g fa fb fc))) :=
  PT.imp (pt_chain ho ho' ha hb hc hm) fun σ H Q h => tI_chain (t_of_bl (fun ev M d M1 e => by
    obtain ⟨x, M2, _, e⟩ := bind_ok e
    obtain ⟨y, M3, _, e⟩ := bind_ok e
    split at e
    · obtain ⟨z, M4, _, e⟩ := bind_ok e
      exact opB_bl e
    · cases e; exact ⟨false, rfl⟩
    · cases e) h)
theorem t_not (ha : PT X a (tT X G W ta)) : PT X (.UnaryOp .Not a pos) (tT X G W (tNotD ta)) :=
  PT.imp (pt_not ha) fun σ H Q ⟨ρ, M, ev, r, er, p⟩ => ⟨ρ, M, ev, r, er, p.step fun d M1 ρ1 H1 _ g1 r1 p1 => p1 ρ1 H1 .refl r1⟩
theorem w_and1 {op : BoolOp} (ha : PT X a (tT X G W ta)) : PW X (.BoolOp op [a] pos) (tT X G W ta) := by
  cases op with
  | And => exact pw_and1 ha
  | Or => exact pw_or1 ha
theorem w_and (ha : PT X a (tT X G W ta)) (hb : PW X (.BoolOp .And (b :: es) pos) (tT X G W tb)) : PW X (.BoolOp .And (a :: b :: es) pos) (tT X G W (tAndD ta tb)) := by
  refine PW.imp (pw_and ha hb) fun σ H Q ⟨ρ, M, ev, r, er, p⟩ => ⟨ρ, M, ev, r, er, p.step fun d M1 ρ1 H1 _ g1 r1 p1 => ?_⟩
  cases d with
  | true => exact iteT ⟨ρ1, M1, ev, r1, er.grow g1, p1⟩
  | false => exact iteF (p1 ρ1 H1 .refl r1)
theorem w_or (ha : PT X a (tT X G W ta)) (hb : PW X (.BoolOp .Or (b :: es) pos) (tT X G W tb)) : PW X (.BoolOp .Or (a :: b :: es) pos) (tT X G W (tOrD ta tb)) := by
  refine PW.imp (pw_or ha hb) fun σ H Q ⟨ρ, M, ev, r, er, p⟩ => ⟨ρ, M, ev, r, er, p.step fun d M1 ρ1 H1 _ g1 r1 p1 => ?_⟩
  cases d with
  | false => exact iteF ⟨ρ1, M1, ev, r1, er.grow g1, p1⟩
  | true => exact iteT (p1 ρ1 H1 .refl r1)
theorem i_and (hK : G.K = X.K) (ha : PE X a (tI X G W fa)) (hb : PE X (.BoolOp .And (b :: es) pos) (tI X G W fb)) : PE X (.BoolOp .And (a :: b :: es) pos) (tI X G W (dAnd fa fb)) := by
  refine PE.imp (pe_andT ha hb) fun σ H Q ⟨ρ, M, ev, r, er, p⟩ => ⟨ρ, M, ev, r, er, p.step fun d M1 ρ1 H1 _ g1 r1 p1 v rv => ?_⟩
  cases ht : truB d M1 with
  | none => rw [ht] at p1; exact p1.elim
  | some k =>
    rw [ht] at p1
    refine ⟨k, truB_ok hK r1 rv ht, ?_⟩
    cases k with
    | true => exact iteT ⟨ρ1, M1, ev, r1, er.grow g1, p1⟩
    | false => exact iteF (p1 ρ1 H1 .refl r1 v rv)
theorem i_or (hK : G.K = X.K) (ha : PE X a (tI X G W fa)) (hb : PE X (.BoolOp .Or (b :: es) pos) (tI X G W fb)) : PE X (.BoolOp .Or (a :: b :: es) pos) (tI X G W (dOr fa fb)) := by
  refine PE.imp (pe_orT ha hb) fun σ H Q ⟨ρ, M, ev, r, er, p⟩ => ⟨ρ, M, ev, r, er, p.step fun d M1 ρ1 H1 _ g1 r1 p1 v rv => ?_⟩
  cases ht : truB d M1 with
  | none => rw [ht] at p1; exact p1.elim
  | some k =>
    rw [ht] at p1
    refine ⟨k, truB_ok hK r1 rv ht, ?_⟩
    cases k with
    | false => exact iteF ⟨ρ1, M1, ev, r1, er.grow g1, p1⟩
    | true => exact iteT (p1 ρ1 H1 .refl r1 v rv)
theorem i_not (hK : G.K = X.K) (ha : PE X a (tI X G W fa)) : PE X (.UnaryOp .Not a pos) (tI X G W (dNot fa)) := by
  refine PE.imp (pe_notT ha) fun σ H Q ⟨ρ, M, ev, r, er, p⟩ => ⟨ρ, M, ev, r, er, p.step fun d M1 ρ1 H1 _ g1 r1 p1 v rv => ?_⟩
  cases ht : truB d M1 with
  | none => rw [ht] at p1; exact p1.elim
  | some k => rw [ht] at p1; exact ⟨k, truB_ok hK r1 rv ht, p1 ρ1 H1 .refl r1 _ (by simp only [RepV])⟩
theorem i_ifExp (hc : PT X c (tT X G W ta)) (ha : PE X a (tI X G W fa)) (hb : PE X b (tI X G W fb)) : PE X (.IfExp c a b pos) (tI X G W (dIf ta fa fb)) := by
  refine PE.imp (pe_ifExp hc ha hb) fun σ H Q ⟨ρ, M, ev, r, er, p⟩ => ⟨ρ, M, ev, r, er, p.step fun d M1 ρ1 H1 _ g1 r1 p1 => ?_⟩
  cases d with
  | true => exact iteT ⟨ρ1, M1, ev, r1, er.grow g1, p1⟩
  | false => exact iteF ⟨ρ1, M1, ev, r1, er.grow g1, p1⟩
end

/-! displays -/
def dTup (a : DenL) : Den := fun ev M => (a ev M).bind fun xs M1 => if xs.length ≤ lim then .ok (.tup xs) M1 else .st
def dLst (a : DenL) : Den := fun ev M => (a ev M).bind fun xs M1 => if xs.length ≤ lim then .ok (.ref M1.length) (M1 ++ [.lst xs]) else .st
section
variable {X : Cx} {G : GC} {W : WX} {es : List Expr} {fl : DenL} {pos : Pos}
theorem i_tup {k : Nat} (h : PA X es (tL X G W fl)) : PE X (.Tuple es k pos) (tI X G W (dTup fl)) := by
  refine ⟨fun pins s σ H Q I ⟨ρ, M, ev, r, er, p⟩ => ?_⟩
  refine wpAny_Tuple_spliced (thn (h.run pos pins s σ H (fun xs H1 => xs.length ≤ sizeLine ∧ ∀ a o, H1 a = none → o.dict = none → Q (.ref a) (upd H1 a (.frz o (.tup xs)))) I ⟨ρ, M, ev, r, er, p.step fun ds M1 ρ1 H1 _ g1 r1 p1 vs rl => ?_⟩)
    fun us s1 ⟨xs, H1, I1, rv, z, q⟩ => ⟨by rw [← rv.length]; exact z, ?_⟩)
  · skip
    split at p1
    · rename_i hz
      exact ⟨by rw [rl.length, ← lim_eq]; exact hz, fun a o ha ho => p1 ρ1 _ (grow_fresh ha) (r1.fresh ha) _ (rep_new ha ho rl)⟩
    · exact p1.elim
  · exact ⟨.ref s1.heap.objs.size, _, Inv.tnew (t' := s1.toks) I1 rv z, rfl, q _ _ I1.fresh rfl⟩
theorem i_lst (h : PA X es (tL X G W fl)) : PE X (.List es pos) (tI X G W (dLst fl)) := by
  refine PE.imp (pe_lst h) fun σ H Q ⟨ρ, M, ev, r, er, p⟩ => ⟨ρ, M, ev, r, er, p.step fun ds M1 ρ1 H1 _ g1 r1 p1 vs rl => ?_⟩
  skip
  split at p1
  · rename_i hz
    have p2 : PostO G ρ1 M1.length H1 Q (some (.ref M1.length, M1 ++ [.lst ds])) := fun ρ' v H' g r' q => p1 ρ' H' g r' v q
    exact ⟨by rw [rl.length, ← lim_eq]; exact hz, p2.lst r1 rl⟩
  · exact p1.elim
end
end MI

set_option Elab.async false
set_option linter.all false
set_option maxRecDepth 100000
namespace MI
open PySem PySem.Spec PyProof.Rows L2
/-! subscripts and slices -/
def opIx : Op2 := fun x y M => match y with
  | .int i => match x with
    | .tup xs => (atI xs i).map (·, M)
    | .ref n => match getL M n with
      | some xs => (atI xs i).map (·, M)
      | none => none
    | .str z => if z.length ≤ lim then (atI z.cps.toList i).map fun c => (.str ⟨#[c]⟩, M) else none
    | _ => none
  | _ => none
def cutD (xs : List D) (lo hi : Option Int) : List D := (xs.drop (HT.sIx xs.length 0 lo)).take (HT.sIx xs.length xs.length hi - HT.sIx xs.length 0 lo)
def opSl (x : D) (lo hi : Option Int) (M : Mem) : Option (D × Mem) := match x with
  | .tup xs => some (.tup (cutD xs lo hi), M)
  | .ref n => match getL M n with
    | some xs => some (.ref M.length, M ++ [.lst (cutD xs lo hi)])
    | none => none
  | .str z => if z.length ≤ lim then some (.str (cutS z lo hi), M) else none
  | _ => none
def oNo : Env → Mem → R (Option Int) := fun _ M => .ok none M
def oSome (f : Den) : Env → Mem → R (Option Int) := fun ev M => (f ev M).bind fun d M1 => match d with
  | .int i => .ok (some i) M1
  | _ => .st
def dSl (a : Den) (lo hi : Env → Mem → R (Option Int)) : Den := fun ev M => (a ev M).bind fun x M1 => (lo ev M1).bind fun l M2 => (hi ev M2).bind fun h M3 => R.of (opSl x l h M3)
abbrev GO (Q : Option Int → Hp → Prop) : Good (Option Int) := fun _ _ H b => Q b H
def tO (X : Cx) (G : GC) (W : WX) (f : Env → Mem → R (Option Int)) : TO := fun σ H Q => ∃ ρ M ev, Rel G ρ H M ∧ RepE X G ρ M.length H σ ev ∧ PostR G W σ ρ M.length H (GO Q) (f ev M)
section
variable {X : Cx} {G : GC} {W : WX} {a b c e : Expr} {es : List Expr} {fa fb fc fe : Den} {fo fh : Env → Mem → R (Option Int)} {pos p2 : Pos} {lo hi : Option Expr}
theorem atI_rep {ρ : Nat → Addr} {N : Nat} {H : Hp} {xs : List D} {vs : List V} {i : Int} {d : D} (r : RepL G ρ N H xs vs) (h : atI xs i = some d) : ∃ v, atI vs i = some v ∧ RepV G ρ N H d v := by
  unfold atI at h ⊢
  rw [r.length]
  cases e : ixN xs.length i with
  | none => rw [e] at h; cases h
  | some j =>
    rw [e] at h
    obtain ⟨v, hv, rv⟩ := r.get h
    exact ⟨v, hv, rv⟩
theorem ix_DD (hK : G.K = X.K) : IxR X (rd2 G opIx) := by
  intro value slice pins s σ H x y v u Q I rx ry ⟨ρ, M, d, e, r, hd, he, p⟩ hs
  unfold opIx at p
  split at p
  · rename_i i
    have h2 := he.int'
    subst h2
    split at p
    · rename_i xs
      obtain ⟨a, vs, rfl, ha, rl⟩ := hd.tup'
      cases hi : atI xs i with
      | none => rw [hi] at p; exact p.elim
      | some z =>
        rw [hi] at p
        obtain ⟨w, hw, rw'⟩ := atI_rep rl hi
        exact ix_tup value slice pins s σ H _ _ v u Q I rx ry ⟨a, vs, i, w, rfl, rfl, hK ▸ ha.sq, hw, p.same r rw'⟩ hs
    · rename_i n
      obtain ⟨hn, rfl⟩ := hd.ref'
      split at p
      · rename_i xs e1
        obtain ⟨vs, hq, rl⟩ := rel_getL r e1
        cases hi : atI xs i with
        | none => rw [hi] at p; exact p.elim
        | some z =>
          rw [hi] at p
          obtain ⟨w, hw, rw'⟩ := atI_rep rl hi
          exact ix_list value slice pins s σ H _ _ v u Q I rx ry ⟨_, vs, i, w, rfl, rfl, hK ▸ hq, hw, p.same r rw'⟩ hs
      · exact p.elim
    · rename_i z
      have h1 := hd.str'
      subst h1
      split at p
      · rename_i hz
        cases hi : atI z.cps.toList i with
        | none => rw [hi] at p; exact p.elim
        | some c =>
          rw [hi] at p
          exact ix_str value slice pins s σ H _ _ v u Q I rx ry ⟨z, i, c, rfl, rfl, lim_eq ▸ hz, hi, p.str r⟩ hs
      · exact p.elim
    · exact p.elim
  · exact p.elim
theorem i_ix {f : Op2} (hr : IxR X (rd2 G f)) (ha : PE X a (tI X G W fa)) (hb : PE X b (tI X G W fb)) (hs : PlainIx b) : PE X (.Subscript a b pos) (tI X G W (dOp2 f fa fb)) := PE.imp (pe_ix hr ha hb hs) fun _ _ _ h => tI_op2 h
theorem o_no : PO X none (tO X G W oNo) := by
  refine ⟨fun pins s σ H Q I ⟨ρ, M, ev, r, er, p⟩ => po_none.run pins s σ H Q I ?_⟩
  exact p ρ H .refl r
theorem o_some (ha : PE X a (tI X G W fa)) : PO X (some a) (tO X G W (oSome fa)) := by
  refine ⟨fun pins s σ H Q I ⟨ρ, M, ev, r, er, p⟩ => (po_some ha).run pins s σ H Q I ?_⟩
  refine ⟨ρ, M, ev, r, er, p.step fun d M1 ρ1 H1 _ g1 r1 p1 v rv => ?_⟩
  cases d with
  | int i => exact ⟨i, rv.int', p1 ρ1 H1 .refl r1⟩
  | _ => exact p1.elim
theorem cut_rep {ρ : Nat → Addr} {N : Nat} {H : Hp} {xs : List D} {vs : List V} (r : RepL G ρ N H xs vs) (lo hi : Option Int) : RepL G ρ N H (cutD xs lo hi) (cutV vs lo hi) := by
  unfold cutD cutV
  rw [r.length]
  exact (r.drop _).take _
def rdSl (G : GC) (f : D → Option Int → Option Int → Mem → Option (D × Mem)) : V → Option Int → Option Int → Hp → VK → Prop := fun x lo hi H Q => ∃ ρ M d, Rel G ρ H M ∧ RepV G ρ M.length H d x ∧ PostO G ρ M.length H Q (f d lo hi M)
theorem sIx_whole {α : Type} {xs : List α} {lo hi : Option Int} (h : HT.sIx xs.length 0 lo = 0 ∧ HT.sIx xs.length xs.length hi = xs.length) : (xs.drop (HT.sIx xs.length 0 lo)).take (HT.sIx xs.length xs.length hi - HT.sIx xs.length 0 lo) = xs := by
  rw [h.1, h.2]; simp
theorem sl_DD (hK : G.K = X.K) : SlR X (rdSl G opSl) := by
  intro pins s σ H x v vl vu lo hi sl Q I rx hs pl pu ⟨ρ, M, d, r, hd, p⟩
  unfold opSl at p
  split at p
  · rename_i xs
    obtain ⟨a, vs, rfl, ha, rl⟩ := hd.tup'
    rw [hK] at ha
    by_cases hw : HT.sIx vs.length 0 lo = 0 ∧ HT.sIx vs.length vs.length hi = vs.length
    · refine sl_tupA pins s σ H _ v vl vu lo hi sl Q I rx hs pl pu ⟨a, vs, rfl, ha.sq, fun _ => ?_, fun h => absurd hw h⟩
      refine p.same r ?_
      rw [rl.length] at hw
      have e : cutD xs lo hi = xs := sIx_whole hw
      rw [e]
      exact hd
    · cases rx
      obtain ⟨its, r', ht, hz⟩ := I.tuple ha.sq
      have hlen : its.toArray.size = vs.length := by rw [List.size_toArray]; exact r'.length.symm
      refine ⟨"tuple", _, PyProof.Rows.slot_tuple_getitem.lookup, ht.typeIs, ?_⟩
      refine HT.getItem_tuple_cut ht hs pl pu (by rw [hlen]; exact hw) ?_ (by rw [hlen]; exact hz)
      rw [hlen]
      have hv : Vals (cutV vs lo hi) ((its.drop (HT.sIx vs.length 0 lo)).take (HT.sIx vs.length vs.length hi - HT.sIx vs.length 0 lo)) := (r'.drop _).take _
      exact ⟨.ref s.heap.objs.size, _, Inv.tnew (t' := s.toks) I hv (Nat.le_trans (cutV_length vs lo hi) hz), rfl, p.tup r (cut_rep rl lo hi) _ _ I.fresh rfl⟩
  · rename_i n
    obtain ⟨hn, rfl⟩ := hd.ref'
    split at p
    · rename_i xs e1
      obtain ⟨vs, hq, rl⟩ := rel_getL r e1
      exact sl_list pins s σ H _ v vl vu lo hi sl Q I rx hs pl pu ⟨_, vs, rfl, hK ▸ hq, p.lst r (cut_rep rl lo hi)⟩
    · exact p.elim
  · rename_i z
    have h1 := hd.str'
    subst h1
    split at p
    · rename_i hz
      exact sl_str pins s σ H _ v vl vu lo hi sl Q I rx hs pl pu ⟨z, rfl, lim_eq ▸ hz, p.str r⟩
    · exact p.elim
  · exact p.elim
theorem i_slice (hK : G.K = X.K) (he : PE X e (tI X G W fe)) (hl : PO X lo (tO X G W fo)) (hh : PO X hi (tO X G W fh)) : PE X (.Subscript e (.Slice lo hi none p2) pos) (tI X G W (dSl fe fo fh)) := by
  refine PE.imp (pe_slice (sl_DD hK) he hl hh) fun σ H Q ⟨ρ, M, ev, r, er, p⟩ => ?_
  exact ⟨ρ, M, ev, r, er, p.step fun x M1 ρ1 H1 _ g1 r1 p1 v rv => ⟨ρ1, M1, ev, r1, er.grow g1, p1.step fun l M2 ρ2 H2 _ g2 r2 p2 =>
    ⟨ρ2, M2, ev, r2, (er.grow g1).grow g2, p2.step fun h M3 ρ3 H3 _ g3 r3 p3 => ⟨ρ3, M3, x, r3, (rv.grow g2).grow g3, .of p3⟩⟩⟩⟩
end
/-! more arithmetic -/
def mulOk (i j : Int) : Bool := decide (i.natAbs < 2 ^ 64) || decide (j.natAbs < 2 ^ 64) || decide (i.natAbs.log2 + j.natAbs.log2 < 1000000)
def divOk (_ j : Int) : Bool := decide (j ≠ 0) && (decide (j.natAbs < 2 ^ 64) || decide (j.natAbs.log2 < 9000))
def powOk (i j : Int) : Bool := decide (0 ≤ j) && (decide (i.natAbs < 2 ^ 64 ∧ j ≤ 1000000) || decide ((Builtin.Int.intBits i : Int) * j ≤ 2 ^ 27))
def opMul : Op2 := fun x y M => match x, y with
  | .int i, .int j => if mulOk i j then some (.int (i * j), M) else none
  | .ref n, .int k => match M[n]? with
    | some (.lst xs) => if decide (-(2 ^ 63) ≤ k) && decide (k < 2 ^ 63) && decide (xs.length * k.toNat ≤ lim) then some (.ref M.length, M ++ [.lst (List.replicate k.toNat xs).flatten]) else none
    | _ => none
  | _, _ => none
def opDiv : Op2 := opI divOk fun i j => i.fdiv j
def opMod : Op2 := opI (fun _ j => decide (j ≠ 0)) fun i j => i.fmod j
def opPow : Op2 := opI powOk fun i j => i ^ j.toNat
def opShl : Op2 := opI (fun i j => decide (0 ≤ j ∧ j ≤ 1000000 ∧ i.natAbs < 2 ^ 64)) fun i j => i * 2 ^ j.toNat
def opShr : Op2 := opI (fun _ j => decide (0 ≤ j)) fun i j => i / 2 ^ j.toNat
def opAnd : Op2 := opI (fun _ _ => true) fun i j => Builtin.bitAnd i j
def opOr : Op2 := opI (fun _ _ => true) fun i j => Builtin.bitOr i j
def opXor : Op2 := opI (fun _ _ => true) fun i j => Builtin.bitXor i j
def opNeg : Op1 := fun x M => match x with
  | .int i => some (.int (-i), M)
  | _ => none
section
variable {X : Cx} {G : GC}
theorem op_subDD : OpR X (binaryOp .Sub) (rd2 G opSub) := op_dI (C' := fun _ _ => True) (fun pins s σ H x y v u Q I rx ry ⟨i, j, e1, e2, _, q⟩ => op_sub pins s σ H x y v u Q I rx ry ⟨i, j, e1, e2, q⟩) fun _ _ _ => trivial
theorem op_andDD : OpR X (binaryOp .BitAnd) (rd2 G opAnd) := op_dI (C' := fun _ _ => True) (fun pins s σ H x y v u Q I rx ry ⟨i, j, e1, e2, _, q⟩ => L2.op_and pins s σ H x y v u Q I rx ry ⟨i, j, e1, e2, q⟩) fun _ _ _ => trivial
theorem op_orDD : OpR X (binaryOp .BitOr) (rd2 G opOr) := op_dI (C' := fun _ _ => True) (fun pins s σ H x y v u Q I rx ry ⟨i, j, e1, e2, _, q⟩ => L2.op_or pins s σ H x y v u Q I rx ry ⟨i, j, e1, e2, q⟩) fun _ _ _ => trivial
theorem op_xorDD : OpR X (binaryOp .BitXor) (rd2 G opXor) := op_dI (C' := fun _ _ => True) (fun pins s σ H x y v u Q I rx ry ⟨i, j, e1, e2, _, q⟩ => L2.op_xor pins s σ H x y v u Q I rx ry ⟨i, j, e1, e2, q⟩) fun _ _ _ => trivial
theorem op_shlDD : OpR X (binaryOp .LShift) (rd2 G opShl) := op_dI op_shl fun i j h => (of_decide_eq_true h : 0 ≤ j ∧ j ≤ 1000000 ∧ i.natAbs < 2 ^ 64)
theorem op_shrDD : OpR X (binaryOp .RShift) (rd2 G opShr) := op_dI op_shr fun i j h => of_decide_eq_true h
theorem op_modDD : OpR X (binaryOp .Mod) (rd2 G opMod) := op_dI op_modN fun i j h => of_decide_eq_true h
theorem log2_64 {n : Nat} (h : n < 2 ^ 64) : n.log2 < 64 := by
  by_cases h0 : n = 0
  · subst h0; decide
  · exact (Nat.log2_lt h0).mpr h
theorem op_divDD : OpR X (binaryOp .FloorDiv) (rd2 G opDiv) := by
  refine op_dI (C' := fun _ j => j ≠ 0 ∧ j.natAbs.log2 < 9000) (L2.opI fun i j _ _ _ _ _ hc q => floordiv_int hc.1 q (.inl (PyProof.noPylong_of_log2 hc.2))) fun i j h => ?_
  unfold divOk at h
  rw [Bool.and_eq_true, Bool.or_eq_true] at h
  refine ⟨of_decide_eq_true h.1, ?_⟩
  rcases h.2 with h | h
  · have := log2_64 (of_decide_eq_true h); omega
  · exact of_decide_eq_true h
theorem op_powDD : OpR X (binaryOp .Pow) (rd2 G opPow) := by
  refine op_dI (C' := fun i j => 0 ≤ j ∧ (i.natAbs < 2 ^ 64 ∧ j ≤ 1000000 ∨ (Builtin.Int.intBits i : Int) * j ≤ 2 ^ 27)) (L2.opI fun i j _ _ _ _ _ hc q => ?_) fun i j h => ?_
  · rcases hc.2 with h | h
    · exact pow_int_small hc.1 h.2 h.1 q
    · exact pow_int hc.1 h q
  · unfold powOk at h
    rw [Bool.and_eq_true, Bool.or_eq_true] at h
    exact ⟨of_decide_eq_true h.1, h.2.imp of_decide_eq_true of_decide_eq_true⟩
theorem rep_flat {ρ : Nat → Addr} {N : Nat} {H : Hp} {xs : List D} {vs : List V} (r : RepL G ρ N H xs vs) : ∀ k : Nat, RepL G ρ N H (List.replicate k xs).flatten (List.replicate k vs).flatten
  | 0 => .nil
  | k + 1 => by
    rw [List.replicate_succ, List.replicate_succ, List.flatten_cons, List.flatten_cons]
    exact r.append (rep_flat r k)
theorem op_mulDD : OpR X (binaryOp .Mult) (rd2 G opMul) := by
  intro pins s σ H x y v u Q I rx ry ⟨ρ, M, d, e, r, hd, he, p⟩
  unfold opMul at p
  split at p
  · rename_i i j
    have h1 := hd.int'; have h2 := he.int'; subst h1 h2
    split at p
    · rename_i hc
      obtain ⟨t, rfl⟩ := rx
      obtain ⟨t', rfl⟩ := ry
      refine mul_int ⟨.int _, H, I.tok _, ⟨_, rfl⟩, p.int r⟩ ?_
      unfold mulOk at hc
      rw [Bool.or_eq_true, Bool.or_eq_true] at hc
      rcases hc with (hc | hc) | hc
      · have := of_decide_eq_true hc
        exact .of_left (intBits_le_64 (by omega) (by omega))
      · have := of_decide_eq_true hc
        exact .of_right (intBits_le_64 (by omega) (by omega))
      · exact CMulW.ok (of_decide_eq_true hc : i.natAbs.log2 + j.natAbs.log2 < 1000000)
    · exact p.elim
  · rename_i n k
    have h2 := he.int'; subst h2
    obtain ⟨hn, rfl⟩ := hd.ref'
    split at p
    · rename_i xs e1
      obtain ⟨vs, hq, rl⟩ := rel_lst r e1
      split at p
      · rename_i hc
        rw [Bool.and_eq_true, Bool.and_eq_true] at hc
        exact op_rep pins s σ H _ _ v u Q I rx ry ⟨_, k, vs, rfl, rfl, hq, of_decide_eq_true hc.1.1, of_decide_eq_true hc.1.2, by rw [rl.length, ← lim_eq]; exact of_decide_eq_true hc.2, p.lst r (rep_flat rl _)⟩
      · exact p.elim
    · exact p.elim
  · exact p.elim
theorem un_negDD : UnR X (unaryOp .USub) (rd1 G opNeg) := by
  intro pins s σ H x v Q I rx ⟨ρ, M, d, r, hd, p⟩
  unfold opNeg at p
  split at p
  · have h1 := hd.int'; subst h1
    exact un_neg pins s σ H _ v Q I rx ⟨_, rfl, p.int r⟩
  · exact p.elim
end
end MI

set_option Elab.async false
set_option linter.all false
set_option maxRecDepth 100000
namespace MI
open PySem PySem.Spec PyProof.Rows L2
/-! built-ins by values -/
def insI (a : Int) : List Int → List Int
  | [] => [a]
  | b :: r => if a ≤ b then a :: b :: r else b :: insI a r
def sortI : List Int → List Int
  | [] => []
  | a :: r => insI a (sortI r)
theorem insI_perm (a : Int) : ∀ l, (insI a l).Perm (a :: l)
  | [] => .refl _
  | b :: r => by
    unfold insI
    split
    · exact .refl _
    · exact ((insI_perm a r).cons b).trans (.swap a b r)
theorem insI_sorted (a : Int) : ∀ l, l.Pairwise (· ≤ ·) → (insI a l).Pairwise (· ≤ ·)
  | [], _ => by simp [insI]
  | b :: r, h => by
    unfold insI
    rw [List.pairwise_cons] at h
    split
    · rename_i hab
      rw [List.pairwise_cons, List.pairwise_cons]
      refine ⟨fun c hc => ?_, h⟩
      rcases List.mem_cons.mp hc with rfl | hc
      · exact hab
      · exact Int.le_trans hab (h.1 c hc)
    · rename_i hab
      rw [List.pairwise_cons]
      refine ⟨fun c hc => ?_, insI_sorted a r h.2⟩
      rcases List.mem_cons.mp ((insI_perm a r).mem_iff.mp hc) with rfl | hc
      · omega
      · exact h.1 c hc
theorem sortI_perm : ∀ l, (sortI l).Perm l
  | [] => .refl _
  | a :: r => (insI_perm a (sortI r)).trans ((sortI_perm r).cons a)
theorem sortI_sorted : ∀ l, (sortI l).Pairwise (· ≤ ·)
  | [] => by simp [sortI]
  | a :: r => insI_sorted a _ (sortI_sorted r)
theorem sortI_of {l m : List Int} (h : m.Perm l) (hs : m.Pairwise (· ≤ ·)) : m = sortI l := PySem.W.ksm_same (h.trans (sortI_perm l).symm) hs (sortI_sorted l)
def intsOf : List D → Option (List Int) := tupInts
def blsOf : List D → Option (List Bool)
  | [] => some []
  | .bl i :: r => (blsOf r).map (i :: ·)
  | _ :: _ => none
def maxI : List Int → Option Int
  | [] => none
  | a :: r => some (r.foldl (fun m x => if x > m then x else m) a)
def minI : List Int → Option Int
  | [] => none
  | a :: r => some (r.foldl (fun m x => if x < m then x else m) a)
def one (f : D → Mem → Option (D × Mem)) : OpN := fun ds M => match ds with
  | [d] => f d M
  | _ => none
def nInt : OpN := one fun d M => match d with
  | .int i => some (.int i, M)
  | .bl b => some (.int (if b then 1 else 0), M)
  | _ => none
def nAbs : OpN := one fun d M => match d with
  | .int i => some (.int (if i < 0 then -i else i), M)
  | _ => none
def nBool : OpN := one fun d M => match d with
  | .int i => some (.bl (i != 0), M)
  | .bl b => some (.bl b, M)
  | _ => none
def nLen : OpN := one fun d M => match d with
  | .str s => if s.length ≤ lim then some (.int s.length, M) else none
  | d => match seqOf d M with
    | some xs => some (.int xs.length, M)
    | none => none
def nList : OpN := one fun d M => match seqOf d M with
  | some xs => some (.ref M.length, M ++ [.lst xs])
  | none => none
def nTuple : OpN := one fun d M => match seqOf d M with
  | some xs => some (.tup xs, M)
  | none => none
def onInts (f : List Int → Option D) : OpN := one fun d M => match d with
  | .ref n => match getL M n with
    | some xs => match intsOf xs with
      | some ns => (f ns).map (·, M)
      | none => none
    | none => none
  | _ => none
def nSum : OpN := onInts fun ns => some (.int ns.sum)
def nMax : OpN := fun ds M => match ds with
  | [.int i, .int j] => some (.int (if j > i then j else i), M)
  | ds => onInts (fun ns => (maxI ns).map .int) ds M
def nMin : OpN := fun ds M => match ds with
  | [.int i, .int j] => some (.int (if j < i then j else i), M)
  | ds => onInts (fun ns => (minI ns).map .int) ds M
def onBls (f : List Bool → Bool) : OpN := one fun d M => match d with
  | .ref n => match getL M n with
    | some xs => match blsOf xs with
      | some ns => some (.bl (f ns), M)
      | none => none
    | none => none
  | _ => none
def nAll : OpN := onBls fun bs => bs.all id
def nAny : OpN := onBls fun bs => bs.any id
def nSorted : OpN := one fun d M => match d with
  | .ref n => match getL M n with
    | some xs => match intsOf xs with
      | some ns => some (.ref M.length, M ++ [.lst ((sortI ns).map .int)])
      | none => none
    | none => none
  | _ => none
section
variable {X : Cx} {G : GC}
theorem one_ok {f : Value} {g : D → Mem → Option (D × Mem)} (h : ∀ (pins : List (Addr × Obj)) (s : Shared) (σ : St) (H : Hp) (v : V) (us : List Value) (Q : VK) (ρ : Nat → Addr) (M : Mem) (d : D), Inv X pins σ H s → Vals [v] us → Rel G ρ H M → RepV G ρ M.length H d v →
    PostO G ρ M.length H Q (g d M) → wpAny (model X.prog X.w) X.A (call f us) (EP X pins σ Q) X.xe s) : CallR X f (rdn G (one g)) := by
  intro pins s σ H xs us Q I rv ⟨ρ, M, ds, r, rl, p⟩
  unfold one at p
  split at p
  · rename_i d
    simp only [RepL] at rl
    obtain ⟨v, t, rfl, r1, rfl⟩ := rl
    exact h pins s σ H v us Q ρ M d I rv r r1 p
  · exact p.elim
theorem c_int : CallR X (.type "int") (rdn G nInt) := one_ok fun pins s σ H v us Q ρ M d I rv r rd p => by
  split at p
  · have := rd.int'; subst this
    exact call_int1 pins s σ H _ us Q I rv (.inl ⟨_, rfl, p.int r⟩)
  · have := rd.bl'; subst this
    exact call_int1 pins s σ H _ us Q I rv (.inr ⟨_, rfl, p.int r⟩)
  · exact p.elim
theorem c_bool : CallR X (.type "bool") (rdn G nBool) := one_ok fun pins s σ H v us Q ρ M d I rv r rd p => by
  split at p
  · have := rd.int'; subst this
    exact call_bool1 pins s σ H _ us Q I rv (.inl ⟨_, rfl, p.bl r⟩)
  · have := rd.bl'; subst this
    exact call_bool1 pins s σ H _ us Q I rv (.inr ⟨_, rfl, p.bl r⟩)
  · exact p.elim
theorem c_abs : CallR X (.builtin "abs") (rdn G nAbs) := one_ok fun pins s σ H v us Q ρ M d I rv r rd p => by
  split at p
  · have := rd.int'; subst this
    exact call_abs pins s σ H _ us Q I rv ⟨_, rfl, p.int r⟩
  · exact p.elim
theorem c_len (hK : G.K = X.K) : CallR X (.builtin "len") (rdn G nLen) := one_ok fun pins s σ H v us Q ρ M d I rv r rd p => by
  split at p
  · have := rd.str'; subst this
    split at p
    · rename_i hz
      exact call_len_str pins s σ H _ us Q I rv ⟨_, rfl, lim_eq ▸ hz, p.int r⟩
    · exact p.elim
  · split at p
    · rename_i xs e
      obtain ⟨a, vs, rfl, hq, rl⟩ := seqOf_rep r rd e
      refine call_len_seq pins s σ H _ us Q I rv ⟨a, vs, rfl, hK ▸ hq, ?_⟩
      rw [rl.length]
      exact p.int r
    · exact p.elim
theorem c_list (hK : G.K = X.K) : CallR X (.type "list") (rdn G nList) := one_ok fun pins s σ H v us Q ρ M d I rv r rd p => by
  split at p
  · rename_i xs e
    obtain ⟨a, vs, rfl, hq, rl⟩ := seqOf_rep r rd e
    exact call_list_of pins s σ H _ us Q I rv ⟨a, vs, rfl, hK ▸ hq, p.lst r rl⟩
  · exact p.elim
theorem c_tuple (hK : G.K = X.K) : CallR X (.type "tuple") (rdn G nTuple) := one_ok fun pins s σ H v us Q ρ M d I rv r rd p => by
  split at p
  · rename_i xs e
    cases d with
    | tup ys =>
      cases e
      obtain ⟨a, vs, rfl, ha, rl⟩ := rd.tup'
      exact call_tupleT pins s σ H _ us Q I rv ⟨a, vs, rfl, hK ▸ ha.sq, p.same r rd⟩
    | ref n =>
      obtain ⟨hn, rfl⟩ := rd.ref'
      obtain ⟨vs, hq, rl⟩ := rel_getL r e
      rw [hK] at hq
      obtain ⟨u, rfl, rx⟩ := vals1 rv
      cases rx
      obtain ⟨its, r', pl, hz⟩ := I.list hq
      have hlen := r'.length
      refine call_tuple_list pl.isList (fun h' kp => ?_) (by simp only [List.size_toArray] <;> omega)
      have I1 : Inv X pins σ H { s with heap := h' } := I.kept (t' := s.toks) kp
      exact ⟨.ref h'.objs.size, _, Inv.tnew (t' := s.toks) I1 r' hz, rfl, p.tup r rl _ _ I1.fresh rfl⟩
    | _ => cases e
  · exact p.elim
theorem onInts_ok {f : Value} {g : List Int → Option D} (h : ∀ (pins : List (Addr × Obj)) (s : Shared) (σ : St) (H : Hp) (a : Addr) (ns : List Int) (us : List Value) (Q : VK) (d : D), Inv X pins σ H s → Vals [.ref a] us → SqL G.K H a (ns.map V.int) → g ns = some d →
    (∀ v, (∀ ρ N, RepV G ρ N H d v) → Q v H) → wpAny (model X.prog X.w) X.A (call f us) (EP X pins σ Q) X.xe s) : CallR X f (rdn G (onInts g)) := one_ok fun pins s σ H v us Q ρ M d I rv r rd p => by
  split at p
  · rename_i n
    obtain ⟨hn, rfl⟩ := rd.ref'
    split at p
    · rename_i xs e
      split at p
      · rename_i ns e2
        obtain ⟨vs, hq, rl⟩ := rel_getL r e
        have q := tupInts_ok e2 rl
        subst q
        cases e3 : g ns with
        | none => rw [e3] at p; exact p.elim
        | some d => rw [e3] at p; exact h pins s σ H _ ns us Q d I rv hq e3 fun v hv => p.same r (hv _ _)
      · exact p.elim
    · exact p.elim
  · exact p.elim
theorem c_sum (hK : G.K = X.K) (hc : X.calm = true) : CallR X (.builtin "sum") (rdn G nSum) := onInts_ok fun pins s σ H a ns us Q d I rv hq e q => by
  cases e
  exact cr_sum hc pins s σ H _ us Q I rv ⟨a, ns, rfl, hK ▸ hq, q _ fun _ _ => by simp only [RepV]⟩
theorem fold_max : ∀ (l : List Int) (a : Int), (l.foldl (fun m x => if x > m then x else m) a = a ∨ l.foldl (fun m x => if x > m then x else m) a ∈ l) ∧ a ≤ l.foldl (fun m x => if x > m then x else m) a ∧ ∀ y ∈ l, y ≤ l.foldl (fun m x => if x > m then x else m) a
  | [], a => ⟨.inl rfl, Int.le_refl _, fun _ h => nomatch h⟩
  | b :: r, a => by
    rw [List.foldl_cons]
    obtain ⟨h1, h2, h3⟩ := fold_max r (if b > a then b else a)
    refine ⟨?_, ?_, fun y hy => ?_⟩
    · rcases h1 with h1 | h1
      · rw [h1]
        split
        · exact .inr List.mem_cons_self
        · exact .inl rfl
      · exact .inr (List.mem_cons_of_mem _ h1)
    · refine Int.le_trans ?_ h2
      split <;> omega
    · rcases List.mem_cons.mp hy with rfl | hy
      · refine Int.le_trans ?_ h2
        split <;> omega
      · exact h3 y hy
theorem fold_min : ∀ (l : List Int) (a : Int), (l.foldl (fun m x => if x < m then x else m) a = a ∨ l.foldl (fun m x => if x < m then x else m) a ∈ l) ∧ l.foldl (fun m x => if x < m then x else m) a ≤ a ∧ ∀ y ∈ l, l.foldl (fun m x => if x < m then x else m) a ≤ y
  | [], a => ⟨.inl rfl, Int.le_refl _, fun _ h => nomatch h⟩
  | b :: r, a => by
    rw [List.foldl_cons]
    obtain ⟨h1, h2, h3⟩ := fold_min r (if b < a then b else a)
    refine ⟨?_, ?_, fun y hy => ?_⟩
    · rcases h1 with h1 | h1
      · rw [h1]
        split
        · exact .inr List.mem_cons_self
        · exact .inl rfl
      · exact .inr (List.mem_cons_of_mem _ h1)
    · refine Int.le_trans h2 ?_
      split <;> omega
    · rcases List.mem_cons.mp hy with rfl | hy
      · refine Int.le_trans h2 ?_
        split <;> omega
      · exact h3 y hy
theorem maxI_ok {ns : List Int} {m : Int} (h : maxI ns = some m) : m ∈ ns ∧ ∀ y, y ∈ ns → y ≤ m := by
  cases ns with
  | nil => cases h
  | cons a r =>
    cases h
    obtain ⟨h1, h2, h3⟩ := fold_max r a
    refine ⟨?_, fun y hy => ?_⟩
    · rcases h1 with h1 | h1
      · rw [h1]; exact List.mem_cons_self
      · exact List.mem_cons_of_mem _ h1
    · rcases List.mem_cons.mp hy with rfl | hy
      · exact h2
      · exact h3 y hy
theorem minI_ok {ns : List Int} {m : Int} (h : minI ns = some m) : m ∈ ns ∧ ∀ y, y ∈ ns → m ≤ y := by
  cases ns with
  | nil => cases h
  | cons a r =>
    cases h
    obtain ⟨h1, h2, h3⟩ := fold_min r a
    refine ⟨?_, fun y hy => ?_⟩
    · rcases h1 with h1 | h1
      · rw [h1]; exact List.mem_cons_self
      · exact List.mem_cons_of_mem _ h1
    · rcases List.mem_cons.mp hy with rfl | hy
      · exact h2
      · exact h3 y hy
theorem c_max (hK : G.K = X.K) (hc : X.calm = true) : CallR X (.builtin "max") (rdn G nMax) := by
  intro pins s σ H xs us Q I rv ⟨ρ, M, ds, r, rl, p⟩
  unfold nMax at p
  split at p
  · rename_i i j
    simp only [RepL] at rl
    obtain ⟨v, t, rfl, r1, v2, t2, rfl, r2, rfl⟩ := rl
    rw [r1.int', r2.int'] at rv
    exact call_max2 hc pins s σ H _ us Q I rv ⟨i, j, rfl, p.int r⟩
  · refine onInts_ok (G := G) (fun pins s σ H a ns us Q d I rv hq e q => ?_) pins s σ H xs us Q I rv ⟨ρ, M, ds, r, rl, p⟩
    cases hm : maxI ns with
    | none => rw [hm] at e; cases e
    | some m =>
      rw [hm] at e
      cases e
      obtain ⟨h1, h2⟩ := maxI_ok hm
      refine cr_max hc pins s σ H _ us Q I rv ⟨a, ns, rfl, hK ▸ hq, by cases ns <;> simp_all [maxI], fun m' h1' h2' => ?_⟩
      have : m' = m := Int.le_antisymm (h2 _ h1') (h2' _ h1)
      subst this
      exact q _ fun _ _ => by simp only [RepV]
theorem c_min (hK : G.K = X.K) (hc : X.calm = true) : CallR X (.builtin "min") (rdn G nMin) := by
  intro pins s σ H xs us Q I rv ⟨ρ, M, ds, r, rl, p⟩
  unfold nMin at p
  split at p
  · rename_i i j
    simp only [RepL] at rl
    obtain ⟨v, t, rfl, r1, v2, t2, rfl, r2, rfl⟩ := rl
    rw [r1.int', r2.int'] at rv
    exact call_min2 hc pins s σ H _ us Q I rv ⟨i, j, rfl, p.int r⟩
  · refine onInts_ok (G := G) (fun pins s σ H a ns us Q d I rv hq e q => ?_) pins s σ H xs us Q I rv ⟨ρ, M, ds, r, rl, p⟩
    cases hm : minI ns with
    | none => rw [hm] at e; cases e
    | some m =>
      rw [hm] at e
      cases e
      obtain ⟨h1, h2⟩ := minI_ok hm
      refine cr_min hc pins s σ H _ us Q I rv ⟨a, ns, rfl, hK ▸ hq, by cases ns <;> simp_all [minI], fun m' h1' h2' => ?_⟩
      have : m' = m := Int.le_antisymm (h2' _ h1) (h2 _ h1')
      subst this
      exact q _ fun _ _ => by simp only [RepV]
theorem c_sorted (hK : G.K = X.K) : CallR X (.builtin "sorted") (rdn G nSorted) := one_ok fun pins s σ H v us Q ρ M d I rv r rd p => by
  split at p
  · rename_i n
    obtain ⟨hn, rfl⟩ := rd.ref'
    split at p
    · rename_i xs e
      split at p
      · rename_i ns e2
        obtain ⟨vs, hq, rl⟩ := rel_getL r e
        have q := tupInts_ok e2 rl
        subst q
        refine cr_sortedI pins s σ H _ us Q I rv ⟨_, ns, rfl, hK ▸ hq, fun ns' a hp hs ha => ?_⟩
        have es := sortI_of hp hs
        subst es
        have ra : ∀ l : List Int, RepL G ρ M.length H (l.map D.int) (l.map V.int) := by
          intro l
          induction l with
          | nil => exact .nil
          | cons x l ih => exact .cons (by simp only [RepV]) ih
        exact p.lst r (ra _) a ha
      · exact p.elim
    · exact p.elim
  · exact p.elim
theorem blsOf_ok {ρ : Nat → Addr} {N : Nat} {H : Hp} : ∀ {xs : List D} {vs : List V} {ns : List Bool}, blsOf xs = some ns → RepL G ρ N H xs vs → vs = ns.map V.bl
  | [], vs, ns, e, r => by
    simp only [RepL] at r
    cases e
    subst r
    rfl
  | x :: xs, vs, ns, e, r => by
    simp only [RepL] at r
    obtain ⟨v, t, rfl, r1, r2⟩ := r
    cases x with
    | bl i =>
      simp only [blsOf] at e
      cases e1 : blsOf xs with
      | none => rw [e1] at e; cases e
      | some ms =>
        rw [e1] at e
        cases e
        rw [r1.bl', blsOf_ok e1 r2]
        rfl
    | _ => cases e
theorem onBls_ok {f : Value} {g : List Bool → Bool} (h : ∀ (pins : List (Addr × Obj)) (s : Shared) (σ : St) (H : Hp) (a : Addr) (ns : List Bool) (us : List Value) (Q : VK), Inv X pins σ H s → Vals [.ref a] us → SqL G.K H a (ns.map V.bl) →
    Q (.bl (g ns)) H → wpAny (model X.prog X.w) X.A (call f us) (EP X pins σ Q) X.xe s) : CallR X f (rdn G (onBls g)) := one_ok fun pins s σ H v us Q ρ M d I rv r rd p => by
  split at p
  · rename_i n
    obtain ⟨hn, rfl⟩ := rd.ref'
    split at p
    · rename_i xs e
      split at p
      · rename_i ns e2
        obtain ⟨vs, hq, rl⟩ := rel_getL r e
        have q := blsOf_ok e2 rl
        subst q
        exact h pins s σ H _ ns us Q I rv hq (p.bl r)
      · exact p.elim
    · exact p.elim
  · exact p.elim
theorem c_all (hK : G.K = X.K) (hc : X.calm = true) : CallR X (.builtin "all") (rdn G nAll) := onBls_ok fun pins s σ H a ns us Q I rv hq q => cr_all hc pins s σ H _ us Q I rv ⟨a, ns, rfl, hK ▸ hq, q⟩
theorem c_any (hK : G.K = X.K) (hc : X.calm = true) : CallR X (.builtin "any") (rdn G nAny) := onBls_ok fun pins s σ H a ns us Q I rv hq q => cr_any hc pins s σ H _ us Q I rv ⟨a, ns, rfl, hK ▸ hq, q⟩
end
end MI

set_option Elab.async false
set_option linter.all false
set_option maxRecDepth 100000
namespace MI
open PySem PySem.Spec PyProof.Rows L2
/-! statements -/
def sSkip : DenS := fun ev M => .nx ev M
def sBrk : DenS := fun ev M => .bk ev M
def sCnt : DenS := fun ev M => .ct ev M
def sRetN : DenS := fun ev M => .rt .non M
def sRet (f : Den) : DenS := fun ev M => (f ev M).bindO ev fun d M1 => .rt d M1
def sDrop (f : Den) : DenS := fun ev M => (f ev M).bindO ev fun _ M1 => .nx ev M1
def sSet (i : Nat) (f : Den) : DenS := fun ev M => (f ev M).bindO ev fun d M1 => .nx (ev.set i (some d)) M1
def sSeq (a b : DenS) : DenS := fun ev M => (a ev M).bind b
def sIf (t : DenT) (a b : DenS) : DenS := fun ev M => (t ev M).bindO ev fun k M1 => if k then a ev M1 else b ev M1
def sWhile (n : Nat) (t : DenT) (b : DenS) : DenS := fun ev M =>
  match n with
  | 0 => .st
  | n + 1 => (t ev M).bindO ev fun k M1 => if k then
      (match b ev M1 with
        | .nx ev2 M2 => sWhile n t b ev2 M2
        | .ct ev2 M2 => sWhile n t b ev2 M2
        | .bk ev2 M2 => .nx ev2 M2
        | r => r)
    else .nx ev M1
/-- targets -/
abbrev TgD := D → Env → Option Env
def gN (i : Nat) : TgD := fun d ev => some (ev.set i (some d))
abbrev TgDs := List D → Env → Option Env
def gNil : TgDs := fun ds ev => match ds with
  | [] => some ev
  | _ => none
def gCons (t : TgD) (u : TgDs) : TgDs := fun ds ev => match ds with
  | d :: r => match t d ev with
    | some ev1 => u r ev1
    | none => none
  | [] => none
def gT (u : TgDs) : TgD := fun d ev => match d with
  | .tup xs => u xs ev
  | _ => none
def sAsg (f : Den) (g : TgD) : DenS := fun ev M => (f ev M).bindO ev fun d M1 => match g d ev with
  | some ev1 => .nx ev1 M1
  | none => .st
/-- what is walked: the items, and whether all is as it was -/
abbrev ItD := Env → Mem → R (List D × (Mem → Bool))
def forL (g : TgD) (b : DenS) (chk : Mem → Bool) : List D → DenS
  | [], ev, M => if chk M then .nx ev M else .st
  | x :: xs, ev, M => if chk M then
      (match g x ev with
      | some ev1 => (match b ev1 M with
        | .nx ev2 M2 => forL g b chk xs ev2 M2
        | .ct ev2 M2 => forL g b chk xs ev2 M2
        | .bk ev2 M2 => .nx ev2 M2
        | r => r)
      | none => .st)
    else .st
def sFor (it : ItD) (g : TgD) (b : DenS) : DenS := fun ev M => (it ev M).bindO ev fun p M1 => forL g b p.2 p.1 ev M1
section
variable {X : Cx} {G : GC} {W : WX} {e c : Expr} {es : List Expr} {a b : List Stmt} {st : Stmt} {fe : Den} {fs fb : DenS} {ft : DenT} {pos p : Pos} {x : Str}
theorem tS_of {f : DenS} {T : Ends} {σ : St} {H : Hp} (h : tS X G W f T σ H) : ∃ ρ M ev, Rel G ρ H M ∧ RepE X G ρ M.length H σ ev ∧ PostS X G W ρ M.length H T (f ev M) := h
theorem s_pass : PS X (.Pass pos) (tS X G W sSkip) := PS.imp ps_pass fun T σ H ⟨ρ, M, ev, r, er, p⟩ => p ρ σ H .refl r er
theorem s_brk : PS X (.Break pos) (tS X G W sBrk) := PS.imp ps_break fun T σ H ⟨ρ, M, ev, r, er, p⟩ => p ρ σ H .refl r er
theorem s_cnt : PS X (.Continue pos) (tS X G W sCnt) := PS.imp ps_continue fun T σ H ⟨ρ, M, ev, r, er, p⟩ => p ρ σ H .refl r er
theorem s_retN : PS X (.Return none pos) (tS X G W sRetN) := PS.imp ps_retN fun T σ H ⟨ρ, M, ev, r, er, p⟩ => p ρ .non H .refl r (by simp only [RepV])
theorem s_ret (h : PE X e (tI X G W fe)) : PS X (.Return (some e) pos) (tS X G W (sRet fe)) :=
  PS.imp (ps_ret h) fun T σ H ⟨ρ, M, ev, r, er, p⟩ => ⟨ρ, M, ev, r, er, p.stepR er fun d M1 ρ1 H1 _ g1 r1 p1 v rv => p1 ρ1 v H1 .refl r1 rv⟩
theorem s_drop (h : PE X e (tI X G W fe)) (hs : swapsWith e none pos.line X.env = pure false) : PS X (.Expr e pos) (tS X G W (sDrop fe)) :=
  PS.imp (ps_expr h hs) fun T σ H ⟨ρ, M, ev, r, er, p⟩ => ⟨ρ, M, ev, r, er, p.stepR er fun d M1 ρ1 H1 _ g1 r1 p1 v rv => p1 ρ1 σ H1 .refl r1 (er.grow g1)⟩
theorem tS_set {i : Nat} {T : Ends} {σ : St} {H : Hp} (h : tS X G W (sSet i fe) T σ H) : tAsg (tI X G W fe) (gName i) T σ H := by
  obtain ⟨ρ, M, ev, r, er, p⟩ := h
  exact ⟨ρ, M, ev, r, er, p.stepR er fun d M1 ρ1 H1 _ g1 r1 p1 v rv => p1 ρ1 _ H1 .refl r1 ((er.grow g1).set rv i)⟩
theorem s_set {i : Nat} (hN : X.N.Nodup) (hi : X.N[i]? = some x) (hx : Loc X.env.scope x) (h : PE X e (tI X G W fe)) (hs : swapsWith e (some (.Name x p)) pos.line X.env = pure false) (hf : X.fn x = true ∨ X.env.scope.names.lookup x = some .local) :
    PS X (.Assign [.Name x p] e pos) (tS X G W (sSet i fe)) := PS.imp (ps_set hN hi hx h hs hf) fun T σ H h => tS_set h
theorem ss_nil : PSs X [] (tS X G W sSkip) := PSs.imp pss_nil fun T σ H ⟨ρ, M, ev, r, er, p⟩ => p ρ σ H .refl r er
theorem ss_cons (h1 : PS X st (tS X G W fs)) (h2 : PSs X a (tS X G W fb)) : PSs X (st :: a) (tS X G W (sSeq fs fb)) :=
  PSs.imp (pss_cons h1 h2) fun T σ H ⟨ρ, M, ev, r, er, p⟩ => ⟨ρ, M, ev, r, er, p.stepO (fun _ _ h => h) (fun _ _ h => h) (fun _ _ h => h) fun ev1 M1 ρ1 σ1 H1 _ g1 r1 e1 p1 => ⟨ρ1, M1, ev1, r1, e1, p1⟩⟩
theorem ss_one (h1 : PS X st (tS X G W fs)) : PSs X [st] (tS X G W fs) := pss_one h1
theorem s_if (hc : PT X c (tT X G W ft)) (ha : PSs X a (tS X G W fs)) (hb : PSs X b (tS X G W fb)) : PS X (.If c a b pos) (tS X G W (sIf ft fs fb)) := by
  refine PS.imp (ps_if hc ha hb) fun T σ H ⟨ρ, M, ev, r, er, p⟩ => ⟨ρ, M, ev, r, er, p.stepR er fun d M1 ρ1 H1 _ g1 r1 p1 => ?_⟩
  cases d with
  | true => exact iteT ⟨ρ1, M1, ev, r1, er.grow g1, p1⟩
  | false => exact iteF ⟨ρ1, M1, ev, r1, er.grow g1, p1⟩
/-- the turn's end of a loop -/
theorem turn_end {T : Ends} {ρ : Nat → Addr} {N : Nat} {H : Hp} {r : O} {k : Env → Mem → O} {Nx : St → Hp → Prop}
    (p : PostS X G W ρ N H T (match (generalizing := false) r with
        | .nx ev2 M2 => k ev2 M2
        | .ct ev2 M2 => k ev2 M2
        | .bk ev2 M2 => .nx ev2 M2
        | r => r))
    (hk : ∀ ev2 M2 ρ' σ' H', Grow G ρ N H ρ' M2.length H' → Rel G ρ' H' M2 → RepE X G ρ' M2.length H' σ' ev2 → PostS X G W ρ' M2.length H' T (k ev2 M2) → Nx σ' H') :
    PostS X G W ρ N H { T with nx := Nx, ct := Nx, bk := T.nx } r := by
  cases r with
  | nx ev M' => exact fun ρ2 σ2 H2 g2 r2 e2 => hk ev M' ρ2 σ2 H2 g2 r2 e2 (PostS.trans p g2)
  | ct ev M' => exact fun ρ2 σ2 H2 g2 r2 e2 => hk ev M' ρ2 σ2 H2 g2 r2 e2 (PostS.trans p g2)
  | bk ev M' => exact p
  | rt d M' => exact p
  | ex c fs ev M' => exact p
  | st => exact p
theorem s_while {n : Nat} (hp : PassesOwn (model X.prog X.w) X.A X.env X.xe) (hc : PT X c (tT X G W ft)) (hb : PSs X b (tS X G W fb)) : PS X (.While c b [] pos) (tS X G W (sWhile n ft fb)) := by
  refine PS.imp (ps_while hp hc hb) fun T σ H ⟨ρ, M, ev, r, er, p⟩ => ?_
  refine ⟨fun m σ H => ∃ ρ M ev, Rel G ρ H M ∧ RepE X G ρ M.length H σ ev ∧ PostS X G W ρ M.length H T (sWhile m ft fb ev M), ⟨n, ρ, M, ev, r, er, p⟩, ?_⟩
  rintro m σ H ⟨ρ, M, ev, r, er, p⟩
  cases m with
  | zero => exact p.elim
  | succ m =>
    unfold sWhile at p
    refine ⟨ρ, M, ev, r, er, p.stepR er fun d M1 ρ1 H1 _ g1 r1 p1 => ?_⟩
    cases d with
    | false => exact iteF (p1 ρ1 σ H1 .refl r1 (er.grow g1))
    | true =>
      refine iteT ⟨fun σ' H' => ∃ ρ M ev, Rel G ρ H' M ∧ RepE X G ρ M.length H' σ' ev ∧ PostS X G W ρ M.length H' T (sWhile m ft fb ev M), fun σ' H' h => ⟨m, Nat.lt_succ_self _, h⟩, ρ1, M1, ev, r1, er.grow g1, ?_⟩
      exact turn_end p1 fun ev2 M2 ρ2 σ2 H2 g2 r2 e2 p2 => ⟨ρ2, M2, ev2, r2, e2, p2⟩
/-! targets -/
/-- an item: a value, or a pair that a walk has just made -/
def ItR (pr : Bool) (G : GC) (ρ : Nat → Addr) (N : Nat) (H : Hp) (d : D) (v : V) : Prop := match pr with
  | false => RepV G ρ N H d v
  | true => ∃ a x y vx vy, v = .ref a ∧ d = .tup [x, y] ∧ H a = some (.tup [vx, vy]) ∧ RepV G ρ N H x vx ∧ RepV G ρ N H y vy
/-- only the slots is have changed -/
def Sets (is : List Nat) (σ σ1 : St) : Prop := σ1.length = σ.length ∧ ∀ j, j ∉ is → σ1[j]? = σ[j]?
theorem Sets.trans {is js : List Nat} {σ σ1 σ2 : St} (a : Sets is σ σ1) (b : Sets js σ1 σ2) : Sets (is ++ js) σ σ2 :=
  ⟨b.1.trans a.1, fun j hj => by
    rw [List.mem_append, not_or] at hj
    exact (b.2 j hj.2).trans (a.2 j hj.1)⟩
def tgR (X : Cx) (G : GC) (pr : Bool) (g : TgD) (is : List Nat) : TG := fun v σ H Q => ∃ ρ M ev d, Rel G ρ H M ∧ RepE X G ρ M.length H σ ev ∧ ItR pr G ρ M.length H d v ∧ ∃ ev1, g d ev = some ev1 ∧ ∀ σ1, RepE X G ρ M.length H σ1 ev1 → Sets is σ σ1 → Q σ1 H
def tgRs (X : Cx) (G : GC) (g : TgDs) (is : List Nat) : TGs := fun vs σ H Q => ∃ ρ M ev ds, Rel G ρ H M ∧ RepE X G ρ M.length H σ ev ∧ RepL G ρ M.length H ds vs ∧ ∃ ev1, g ds ev = some ev1 ∧ ∀ σ1, RepE X G ρ M.length H σ1 ev1 → Sets is σ σ1 → Q σ1 H
theorem PG.imp {tg : Expr} {t t' : TG} (h : PG X tg t) (w : ∀ v σ H Q, t' v σ H Q → t v σ H Q) : PG X tg t' := ⟨fun pins s σ H v u Q I r q => h.run pins s σ H v u Q I r (w v σ H Q q)⟩
theorem PGs.imp {tg : List Expr} {t t' : TGs} (h : PGs X tg t) (w : ∀ v σ H Q, t' v σ H Q → t v σ H Q) : PGs X tg t' := ⟨fun pins s σ H v u Q I r q => h.run pins s σ H v u Q I r (w v σ H Q q)⟩
theorem g_name {i : Nat} (hN : X.N.Nodup) (hi : X.N[i]? = some x) (hx : Loc X.env.scope x) (hf : X.fn x = true ∨ X.env.scope.names.lookup x = some .local) : PG X (.Name x pos) (tgR X G false (gN i) [i]) := by
  refine PG.imp (pg_name hN hi hx hf) fun v σ H Q ⟨ρ, M, ev, d, r, er, rv, ev1, e, q⟩ => ?_
  cases e
  refine q _ (er.set rv i) ⟨by simp, fun j hj => List.getElem?_set_ne fun e => hj (List.mem_singleton.mpr e.symm)⟩
theorem gs_nil : PGs X [] (tgRs X G gNil []) := by
  refine PGs.imp pgs_nil fun v σ H Q ⟨ρ, M, ev, ds, r, er, rv, ev1, e, q⟩ => ?_
  cases ds with
  | nil =>
    cases e
    simp only [RepL] at rv
    exact ⟨rv, q _ er ⟨rfl, fun _ _ => rfl⟩⟩
  | cons d r => cases e
theorem gs_cons {g : TgD} {u : TgDs} {is js : List Nat} (h1 : PG X e (tgR X G false g is)) (h2 : PGs X es (tgRs X G u js)) (hs : (assignEach (e :: es) X.env).map (·.2) = assign e X.env :: (assignEach es X.env).map (·.2)) : PGs X (e :: es) (tgRs X G (gCons g u) (is ++ js)) := by
  refine PGs.imp (pgs_cons h1 h2 hs) fun v σ H Q ⟨ρ, M, ev, ds, r, er, rv, ev1, eq, q⟩ => ?_
  cases ds with
  | nil => cases eq
  | cons d ds =>
    simp only [RepL] at rv
    obtain ⟨w, t, rfl, r1, r2⟩ := rv
    simp only [gCons] at eq
    cases e2 : g d ev with
    | none => rw [e2] at eq; cases eq
    | some ev2 =>
      rw [e2] at eq
      exact ⟨w, t, rfl, ρ, M, ev, d, r, er, r1, ev2, e2, fun σ2 er2 s2 => ⟨ρ, M, ev2, ds, r, er2, r2, ev1, eq, fun σ3 er3 s3 => q σ3 er3 (s2.trans s3)⟩⟩
def gLen (u : TgDs) (n : Nat) : Prop := ∀ ds ev ev1, u ds ev = some ev1 → ds.length = n
theorem gLen_nil : gLen gNil 0 := fun ds ev ev1 h => by
  cases ds with
  | nil => rfl
  | cons d r => cases h
theorem gLen_cons {g : TgD} {u : TgDs} {n : Nat} (h : gLen u n) : gLen (gCons g u) (n + 1) := fun ds ev ev1 q => by
  cases ds with
  | nil => cases q
  | cons d r =>
    simp only [gCons] at q
    cases e2 : g d ev with
    | none => rw [e2] at q; cases q
    | some ev2 => rw [e2] at q; rw [List.length_cons, h r ev2 ev1 q]
theorem g_tup {pr : Bool} {k n : Nat} {u : TgDs} {is : List Nat} (hK : G.K = X.K) (hc : X.calm = true) (h : PGs X es (tgRs X G u is)) (hl : gLen u n) (hn : (assignEach es X.env).length = n) (hst : (assignEach es X.env).findIdx? (·.1) = none) : PG X (.Tuple es k pos) (tgR X G pr (gT u) is) := by
  refine PG.imp (pg_tup hc h hn hst) fun v σ H Q ⟨ρ, M, ev, d, r, er, rv, ev1, e, q⟩ => ?_
  cases pr with
  | false =>
    cases d with
    | tup xs =>
      obtain ⟨a, vs, rfl, ha, rl⟩ := RepV.tup' rv
      exact ⟨a, vs, rfl, hK ▸ ha.sq, by rw [rl.length]; exact hl xs ev ev1 e, ρ, M, ev, xs, r, er, rl, ev1, e, q⟩
    | _ => cases e
  | true =>
    obtain ⟨a, x, y, vx, vy, rfl, rfl, ha, rx, ry⟩ := rv
    exact ⟨a, [vx, vy], rfl, .of ha, hl _ ev ev1 e, ρ, M, ev, [x, y], r, er, .cons rx (.one ry), ev1, e, q⟩
theorem s_asg {tg : Expr} {g : TgD} {is : List Nat} (he : PE X e (tI X G W fe)) (hg : PG X tg (tgR X G false g is)) (hs : swapsWithSole [tg] e pos.line X.env = pure false) (hw : swappedStores [tg] e X.env = pure none) (h1 : (assignEach [tg] X.env).map (·.2) = [assign tg X.env]) :
    PS X (.Assign [tg] e pos) (tS X G W (sAsg fe g)) := by
  refine PS.imp (ps_asg he hg hs hw h1) fun T σ H ⟨ρ, M, ev, r, er, p⟩ => ⟨ρ, M, ev, r, er, p.stepR er fun d M1 ρ1 H1 _ g1 r1 p1 v rv => ?_⟩
  cases e2 : g d ev with
  | none => rw [e2] at p1; exact p1.elim
  | some ev2 => rw [e2] at p1; exact ⟨ρ1, M1, ev, d, r1, er.grow g1, rv, ev2, e2, fun σ2 er2 _ => p1 ρ1 σ2 H1 .refl r1 er2⟩
/-! for -/
structure WalkD (pr : Bool) (G : GC) (J : It) (xs : List D) (chk : Mem → Bool) (ρ0 : Nat → Addr) (N0 : Nat) (H0 : Hp) : Prop where
  goes : ∀ i ρ H M, i < xs.length → Grow G ρ0 N0 H0 ρ M.length H → Rel G ρ H M → chk M = true → J.go i H
  stops : ∀ ρ H M, Grow G ρ0 N0 H0 ρ M.length H → Rel G ρ H M → chk M = true → J.stop xs.length H
  yields : ∀ i ρ H M x H', i < xs.length → Grow G ρ0 N0 H0 ρ M.length H → Rel G ρ H M → chk M = true → J.yld i H x H' → Grow G ρ M.length H ρ M.length H' ∧ Rel G ρ H' M ∧ ∃ d, xs[i]? = some d ∧ ItR pr G ρ M.length H' d x
abbrev GW (pr : Bool) (G : GC) (R : It → Hp → Prop) : Good (List D × (Mem → Bool)) := fun ρ M H p => ∀ J, WalkD pr G J p.1 p.2 ρ M.length H → R J H
def tW (pr : Bool) (X : Cx) (G : GC) (W : WX) (f : ItD) : TI := fun σ H R => ∃ ρ M ev, Rel G ρ H M ∧ RepE X G ρ M.length H σ ev ∧ PostR G W σ ρ M.length H (GW pr G R) (f ev M)
theorem s_for {pr : Bool} {tg iter : Expr} {fi : ItD} {g : TgD} {is : List Nat} (hp : PassesOwn (model X.prog X.w) X.A X.env X.xe) (hc : X.calm = true) (hi : PI X tg iter (tW pr X G W fi)) (hg : PG X tg (tgR X G pr g is)) (hb : PSs X b (tS X G W fb)) (hs : ∀ x, foldedSetIterable iter X.env x = pure x) :
    PS X (.For tg iter b [] pos) (tS X G W (sFor fi g fb)) := by
  refine PS.imp (ps_for hp hc hi hg hb hs) fun T σ H ⟨ρ, M, ev, r, er, p⟩ => ⟨ρ, M, ev, r, er, p.stepR er fun d M1 ρ1 H1 _ g1 r1 p1 J w => ?_⟩
  obtain ⟨xs, chk⟩ := d
  refine ⟨fun i m σ H => m = xs.length - i ∧ i ≤ xs.length ∧ ∃ ρ M ev, Grow G ρ1 M1.length H1 ρ M.length H ∧ Rel G ρ H M ∧ RepE X G ρ M.length H σ ev ∧ PostS X G W ρ M.length H T (forL g fb chk (xs.drop i) ev M),
    ⟨xs.length, by simp, Nat.zero_le _, ρ1, M1, ev, .refl, r1, er.grow g1, by rw [List.drop_zero]; exact p1⟩, ?_⟩
  rintro i m σ H ⟨rfl, hi, ρ, M, ev, gr, r, er, p⟩
  by_cases hlt : i < xs.length
  · have hd : xs.drop i = xs[i] :: xs.drop (i + 1) := List.drop_eq_getElem_cons hlt
    rw [hd] at p
    simp only [forL] at p
    cases hchk : chk M with
    | false => rw [hchk] at p; exact p.elim
    | true =>
      rw [hchk] at p
      simp only [if_true] at p
      refine .inr ⟨w.goes i ρ H M hlt gr r hchk, fun σ' H' => ∃ ρ M ev, Grow G ρ1 M1.length H1 ρ M.length H' ∧ Rel G ρ H' M ∧ RepE X G ρ M.length H' σ' ev ∧ PostS X G W ρ M.length H' T (forL g fb chk (xs.drop (i + 1)) ev M),
        fun σ' H' h => ⟨xs.length - (i + 1), by omega, rfl, hlt, h⟩, fun x H' y => ?_⟩
      obtain ⟨gy, ry, d, e1, rv⟩ := w.yields i ρ H M x H' hlt gr r hchk y
      have e2 : xs[i] = d := by
        have := List.getElem?_eq_getElem hlt
        rw [this] at e1
        exact Option.some.inj e1
      subst e2
      cases e3 : g xs[i] ev with
      | none => rw [e3] at p; exact p.elim
      | some ev1 =>
        rw [e3] at p
        refine ⟨ρ, M, ev, xs[i], ry, er.grow gy, rv, ev1, e3, fun σ1 er1 _ => ⟨ρ, M, ev1, ry, er1, ?_⟩⟩
        exact turn_end (PostS.trans p gy) fun ev2 M2 ρ2 σ2 H2 g2 r2 e2 p2 => ⟨ρ2, M2, ev2, (gr.trans gy).trans g2, r2, e2, p2⟩
  · have e : i = xs.length := by omega
    subst e
    rw [List.drop_length] at p
    simp only [forL] at p
    cases hchk : chk M with
    | false => rw [hchk] at p; exact p.elim
    | true => rw [hchk] at p; exact .inl ⟨w.stops ρ H M gr r hchk, p ρ σ H .refl r er⟩
end
end MI

set_option Elab.async false
set_option linter.all false
set_option maxRecDepth 100000
namespace MI
open PySem PySem.Spec PyProof.Rows L2
/-! what may be walked -/
def cellIs (n : Nat) (xs : List D) (M : Mem) : Bool := match getL M n with
  | some ys => D.beqL ys xs
  | none => false
theorem cellIs_ok {n : Nat} {xs : List D} {M : Mem} (h : cellIs n xs M = true) : getL M n = some xs := by
  unfold cellIs at h
  cases e : getL M n with
  | none => rw [e] at h; cases h
  | some ys => rw [e] at h; rw [D.eqL_of ys xs h]
def yes : Mem → Bool := fun _ => true
def strItems (z : Str) : List D := z.cps.toList.map fun c => .str ⟨#[c]⟩
def itAny (f : Den) : ItD := fun ev M => (f ev M).bind fun d M1 => match d with
  | .tup xs => .ok (xs, yes) M1
  | .ref n => match getL M1 n with
    | some xs => .ok (xs, cellIs n xs) M1
    | none => .st
  | .str z => .ok (strItems z, yes) M1
  | _ => .st
def big (i : Int) : Bool := decide (-(2 ^ 62) ≤ i) && decide (i < 2 ^ 62)
def rangeD (lo : Int) : Nat → List D
  | 0 => []
  | n + 1 => .int lo :: rangeD (lo + 1) n
def itRange (f : DenL) : ItD := fun ev M => (f ev M).bind fun ds M1 => match ds with
  | [.int j] => if big j then .ok (rangeD 0 j.toNat, yes) M1 else .st
  | [.int i, .int j] => if big i && big j then .ok (rangeD i (j - i).toNat, yes) M1 else .st
  | [.int i, .int j, .int c] => if big i && big j && decide (c = -1) then .ok (((rangeD (j + 1) (i - j).toNat).reverse), yes) M1 else .st
  | _ => .st
def pairsD : Nat → List D → List D
  | _, [] => []
  | n, x :: xs => .tup [.int n, x] :: pairsD (n + 1) xs
def itEnum (f : DenL) : ItD := fun ev M => (f ev M).bind fun ds M1 => match ds with
  | [.ref n] => match getL M1 n with
    | some xs => .ok (pairsD 0 xs, cellIs n xs) M1
    | none => .st
  | _ => .st
def zipD : List D → List D → List D
  | x :: xs, y :: ys => .tup [x, y] :: zipD xs ys
  | _, _ => []
def itZip (f : DenL) : ItD := fun ev M => (f ev M).bind fun ds M1 => match ds with
  | [.ref n, .ref m] => match getL M1 n, getL M1 m with
    | some xs, some ys => .ok (zipD xs ys, fun M => cellIs n xs M && cellIs m ys M) M1
    | _, _ => .st
  | _ => .st
def itRev (f : DenL) : ItD := fun ev M => (f ev M).bind fun ds M1 => match ds with
  | [.ref n] => match getL M1 n with
    | some xs => .ok (xs.reverse, cellIs n xs) M1
    | none => .st
  | _ => .st
section
variable {X : Cx} {G : GC} {W : WX} {e l tg : Expr} {es : List Expr} {fe : Den} {fl : DenL} {pos p : Pos} {pr : Bool}
theorem cur {n : Nat} {xs : List D} {ρ0 ρ : Nat → Addr} {N0 : Nat} {H0 H : Hp} {M : Mem} (hn : n < N0) (g : Grow G ρ0 N0 H0 ρ M.length H) (r : Rel G ρ H M) (h : cellIs n xs M = true) :
    ∃ ws, SqL G.K H (ρ0 n) ws ∧ RepL G ρ M.length H xs ws := by
  obtain ⟨ws, hq, rl⟩ := rel_getL r (cellIs_ok h)
  rw [g.ag n hn] at hq
  exact ⟨ws, hq, rl⟩
theorem getL_lt {n : Nat} {xs : List D} {M : Mem} (h : getL M n = some xs) : n < M.length := by
  unfold getL at h
  cases e : M[n]? with
  | none => rw [e] at h; cases h
  | some c => exact lt_of_get e
theorem walkD_list {n : Nat} {xs : List D} {ρ0 : Nat → Addr} {N0 : Nat} {H0 : Hp} (hn : n < N0) : WalkD false G (Itl G.K (ρ0 n)) xs (cellIs n xs) ρ0 N0 H0 where
  goes := fun i ρ H M hi g r c => by
    obtain ⟨ws, hq, rl⟩ := cur hn g r c
    have hl := rl.length
    exact ⟨ws, ws[i], hq, by simp [show i < ws.length by omega]⟩
  stops := fun ρ H M g r c => by
    obtain ⟨ws, hq, rl⟩ := cur hn g r c
    exact ⟨ws, hq, by rw [rl.length]; exact Nat.le_refl _⟩
  yields := fun i ρ H M x H' hi g r c y => by
    obtain ⟨ws, hq, rl⟩ := cur hn g r c
    obtain ⟨rfl, hx⟩ := y
    obtain ⟨d, hd, rv⟩ := rl.get' (hx ws hq)
    exact ⟨.refl, r, d, hd, rv⟩
theorem walkD_tup {a : Addr} {xs : List D} {vs : List V} {ρ0 : Nat → Addr} {N0 : Nat} {H0 : Hp} (ha : TupAt G.K H0 a vs) (rl : RepL G ρ0 N0 H0 xs vs) : WalkD false G (Itt G.K a) xs yes ρ0 N0 H0 where
  goes := fun i ρ H M hi g r c => by
    have hl := rl.length
    exact ⟨vs, vs[i], (g.sqt ha).sq, by simp [show i < vs.length by omega]⟩
  stops := fun ρ H M g r c => ⟨vs, (g.sqt ha).sq, by rw [rl.length]; exact Nat.le_refl _⟩
  yields := fun i ρ H M x H' hi g r c y => by
    obtain ⟨rfl, hx⟩ := y
    obtain ⟨d, hd, rv⟩ := rl.get' (hx vs (g.sqt ha).sq)
    exact ⟨.refl, r, d, hd, rv.grow g⟩
theorem walkD_str {z : Str} {ρ0 : Nat → Addr} {N0 : Nat} {H0 : Hp} : WalkD false G (Its z) (strItems z) yes ρ0 N0 H0 where
  goes := fun i ρ H M hi g r c => by
    have hi' : i < z.cps.size := by simpa [strItems] using hi
    exact hi'
  stops := fun ρ H M g r c => by
    show z.cps.size ≤ (strItems z).length
    simp [strItems]
  yields := fun i ρ H M x H' hi g r c y => by
    obtain ⟨rfl, c, hc, rfl⟩ := y
    refine ⟨.refl, r, .str ⟨#[c]⟩, ?_, by simp only [ItR, RepV]⟩
    unfold strItems
    rw [List.getElem?_map, Array.getElem?_toList, hc]
    rfl
theorem rangeD_length : ∀ (n : Nat) (lo : Int), (rangeD lo n).length = n
  | 0, _ => rfl
  | n + 1, lo => by simp [rangeD, rangeD_length n]
theorem rangeD_get : ∀ (n : Nat) (lo : Int) (i : Nat), i < n → (rangeD lo n)[i]? = some (.int (lo + i))
  | 0, _, i, h => by omega
  | n + 1, lo, 0, h => by simp [rangeD]
  | n + 1, lo, i + 1, h => by
    simp only [rangeD, List.getElem?_cons_succ]
    rw [rangeD_get n (lo + 1) i (by omega)]
    congr 2
    omega
theorem walkD_range {lo : Int} {n : Nat} {ρ0 : Nat → Addr} {N0 : Nat} {H0 : Hp} : WalkD false G (Itr lo n) (rangeD lo n) yes ρ0 N0 H0 where
  goes := fun i ρ H M hi g r c => by rw [rangeD_length] at hi; exact hi
  stops := fun ρ H M g r c => by show n ≤ (rangeD lo n).length; rw [rangeD_length]; exact Nat.le_refl _
  yields := fun i ρ H M x H' hi g r c y => by
    rw [rangeD_length] at hi
    obtain ⟨rfl, rfl⟩ := y
    exact ⟨.refl, r, _, rangeD_get n lo i hi, by simp only [ItR, RepV]⟩
theorem walkD_down {i₀ : Int} {n : Nat} {ρ0 : Nat → Addr} {N0 : Nat} {H0 : Hp} : WalkD false G (Itc i₀ (-1) n) (rangeD (i₀ - n + 1) n).reverse yes ρ0 N0 H0 where
  goes := fun i ρ H M hi g r c => by rw [List.length_reverse, rangeD_length] at hi; exact hi
  stops := fun ρ H M g r c => by show n ≤ _; rw [List.length_reverse, rangeD_length]; exact Nat.le_refl _
  yields := fun i ρ H M x H' hi g r c y => by
    rw [List.length_reverse, rangeD_length] at hi
    obtain ⟨rfl, rfl⟩ := y
    refine ⟨.refl, r, .int (i₀ + (i : Nat) * -1), ?_, by simp only [ItR, RepV]⟩
    rw [List.getElem?_reverse (by rw [rangeD_length]; exact hi), rangeD_length, rangeD_get _ _ _ (by omega)]
    congr 2
    omega
theorem walkD_rev {n : Nat} {xs : List D} {ρ0 : Nat → Addr} {N0 : Nat} {H0 : Hp} (hn : n < N0) : WalkD false G (Itv G.K (ρ0 n) xs.length) xs.reverse (cellIs n xs) ρ0 N0 H0 where
  goes := fun i ρ H M hi g r c => by
    rw [List.length_reverse] at hi
    obtain ⟨ws, hq, rl⟩ := cur hn g r c
    have hl := rl.length
    exact ⟨hi, ws, ws[xs.length - 1 - i]'(by omega), hq, by simp [show xs.length - 1 - i < ws.length by omega]⟩
  stops := fun ρ H M g r c => by show xs.length ≤ _; rw [List.length_reverse]; exact Nat.le_refl _
  yields := fun i ρ H M x H' hi g r c y => by
    rw [List.length_reverse] at hi
    obtain ⟨ws, hq, rl⟩ := cur hn g r c
    obtain ⟨rfl, hx⟩ := y
    obtain ⟨d, hd, rv⟩ := rl.get' (hx ws hq)
    exact ⟨.refl, r, d, by rw [List.getElem?_reverse hi]; exact hd, rv⟩
theorem pairsD_length : ∀ (xs : List D) (n : Nat), (pairsD n xs).length = xs.length
  | [], _ => rfl
  | x :: xs, n => by simp [pairsD, pairsD_length xs]
theorem pairsD_get : ∀ (xs : List D) (n i : Nat) (d : D), xs[i]? = some d → (pairsD n xs)[i]? = some (.tup [.int ((n + i : Nat) : Int), d])
  | [], _, i, d, h => by simp at h
  | x :: xs, n, 0, d, h => by simp at h; subst h; simp [pairsD]
  | x :: xs, n, i + 1, d, h => by
    simp only [pairsD, List.getElem?_cons_succ] at h ⊢
    rw [pairsD_get xs (n + 1) i d h]
    have : n + 1 + i = n + (i + 1) := by omega
    rw [this]
theorem walkD_enum {n : Nat} {xs : List D} {ρ0 : Nat → Addr} {N0 : Nat} {H0 : Hp} (hn : n < N0) : WalkD true G (Ite G.K (ρ0 n)) (pairsD 0 xs) (cellIs n xs) ρ0 N0 H0 where
  goes := fun i ρ H M hi g r c => by
    rw [pairsD_length] at hi
    obtain ⟨ws, hq, rl⟩ := cur hn g r c
    have hl := rl.length
    exact ⟨ws, ws[i], hq, by simp [show i < ws.length by omega]⟩
  stops := fun ρ H M g r c => by
    obtain ⟨ws, hq, rl⟩ := cur hn g r c
    exact ⟨ws, hq, by rw [rl.length, pairsD_length]; exact Nat.le_refl _⟩
  yields := fun i ρ H M x H' hi g r c y => by
    obtain ⟨ws, hq, rl⟩ := cur hn g r c
    obtain ⟨T, v, rfl, hT, rfl, hx⟩ := y
    obtain ⟨d, hd, rv⟩ := rl.get' (hx ws hq)
    have gf : Grow G ρ M.length H ρ M.length (upd H T (.tup [.int (i : Nat), v])) := grow_fresh hT
    exact ⟨gf, r.fresh hT, _, pairsD_get xs 0 i d hd, T, _, _, _, _, rfl, rfl, upd_same, by simp only [RepV, Nat.zero_add], rv.grow gf⟩
theorem zipD_get : ∀ (xs ys : List D) (i : Nat) (d e : D), xs[i]? = some d → ys[i]? = some e → (zipD xs ys)[i]? = some (.tup [d, e])
  | [], _, i, d, e, h, _ => by simp at h
  | _ :: _, [], i, d, e, _, h => by simp at h
  | x :: xs, y :: ys, 0, d, e, h, h' => by simp at h h'; subst h h'; simp [zipD]
  | x :: xs, y :: ys, i + 1, d, e, h, h' => by
    simp only [zipD, List.getElem?_cons_succ] at h h' ⊢
    exact zipD_get xs ys i d e h h'
theorem zipD_length : ∀ (xs ys : List D), (zipD xs ys).length = min xs.length ys.length
  | [], _ => by simp [zipD]
  | _ :: _, [] => by simp [zipD]
  | x :: xs, y :: ys => by simp [zipD, zipD_length xs ys]
theorem walkD_zip {n m : Nat} {xs ys : List D} {ρ0 : Nat → Addr} {N0 : Nat} {H0 : Hp} (hn : n < N0) (hm : m < N0) : WalkD true G (Itz G.K (ρ0 n) (ρ0 m)) (zipD xs ys) (fun M => cellIs n xs M && cellIs m ys M) ρ0 N0 H0 where
  goes := fun i ρ H M hi g r c => by
    rw [zipD_length] at hi
    rw [Bool.and_eq_true] at c
    obtain ⟨ws, hq, rl⟩ := cur hn g r c.1
    obtain ⟨us, hq2, rl2⟩ := cur hm g r c.2
    have hl := rl.length
    have hl2 := rl2.length
    exact ⟨ws, us, ws[i]'(by omega), us[i]'(by omega), hq, hq2, by simp [show i < ws.length by omega], by simp [show i < us.length by omega]⟩
  stops := fun ρ H M g r c => by
    rw [Bool.and_eq_true] at c
    obtain ⟨ws, hq, rl⟩ := cur hn g r c.1
    obtain ⟨us, hq2, rl2⟩ := cur hm g r c.2
    refine ⟨ws, us, hq, hq2, ?_⟩
    rw [zipD_length, rl.length, rl2.length]
    omega
  yields := fun i ρ H M x H' hi g r c y => by
    rw [Bool.and_eq_true] at c
    obtain ⟨ws, hq, rl⟩ := cur hn g r c.1
    obtain ⟨us, hq2, rl2⟩ := cur hm g r c.2
    obtain ⟨T, v, w, rfl, hT, rfl, hx, hy⟩ := y
    obtain ⟨d, hd, rv⟩ := rl.get' (hx ws hq)
    obtain ⟨e, he, rw'⟩ := rl2.get' (hy us hq2)
    have gf : Grow G ρ M.length H ρ M.length (upd H T (.tup [v, w])) := grow_fresh hT
    exact ⟨gf, r.fresh hT, _, zipD_get xs ys i d e hd he, T, _, _, _, _, rfl, rfl, upd_same, rv.grow gf, rw'.grow gf⟩
theorem PI.imp {tg iter : Expr} {t t' : TI} (h : PI X tg iter t) (w : ∀ σ H R, t' σ H R → t σ H R) : PI X tg iter t' := ⟨fun pins s σ H R I q => h.run pins s σ H R I (w σ H R q)⟩
theorem w_any (hK : G.K = X.K) (hl : PE X l (tI X G W fe)) : PI X tg l (tW false X G W (itAny fe)) := by
  refine ⟨fun pins s σ H R I ⟨ρ, M, ev, r, er, p⟩ => ?_⟩
  have h0 : tI X G W fe σ H fun x H1 => (∃ a, x = .ref a ∧ (∃ xs, SqL X.K H1 a xs) ∧ R (Itl X.K a) H1) ∨ (∃ a, x = .ref a ∧ (∃ xs, SqT X.K H1 a xs) ∧ R (Itt X.K a) H1) ∨ ∃ z, x = .str z ∧ R (Its z) H1 := by
    refine ⟨ρ, M, ev, r, er, p.step fun d M1 ρ1 H1 _ g1 r1 p1 v rv => ?_⟩
    cases d with
    | tup xs =>
      obtain ⟨a, vs, rfl, ha, rl⟩ := rv.tup'
      exact .inr (.inl ⟨a, rfl, ⟨vs, hK ▸ ha.sq⟩, hK ▸ p1 ρ1 H1 .refl r1 _ (walkD_tup ha rl)⟩)
    | ref n =>
      obtain ⟨hn, rfl⟩ := rv.ref'
      simp only at p1
      cases e : getL M1 n with
      | none => rw [e] at p1; exact p1.elim
      | some xs =>
        rw [e] at p1
        obtain ⟨vs, hq, rl⟩ := rel_getL r1 e
        exact .inl ⟨_, rfl, ⟨vs, hK ▸ hq⟩, hK ▸ p1 ρ1 H1 .refl r1 _ (walkD_list hn)⟩
    | str z => exact .inr (.inr ⟨z, rv.str', p1 ρ1 H1 .refl r1 _ walkD_str⟩)
    | _ => exact p1.elim
  refine thn (hl.run pins s σ H _ I h0) fun v s1 ⟨x, H1, I1, r1, q1⟩ => ?_
  rcases q1 with ⟨a, rfl, ⟨xs, hq⟩, q⟩ | ⟨a, rfl, ⟨xs, hq⟩, q⟩ | ⟨z, rfl, q⟩
  · cases r1
    obtain ⟨its, rv, p, hz⟩ := I1.list hq
    refine wpAny_pyIter_list p.isList ?_
    refine ⟨s1.heap.objs.size, [s1.heap.objs.size], _, _, H1, rfl, I1.kept (t' := s1.toks) fun b o e => Heap.get?_push_of_some _ e, turn_list a _, ⟨_, Heap.get?_push_size _ rfl, rfl, rfl⟩, fun b hb => ?_, q⟩
    have e : b = s1.heap.objs.size := by simpa using hb
    subst e
    exact I1.fpOk (Nat.le_refl _) (I1.hok.fresh (Nat.le_refl _))
  · cases r1
    obtain ⟨its, rv, p, hz⟩ := I1.tuple hq
    refine wpAny_pyIter_tuple (show s1.heap.IsTuple a its.toArray from p) ?_
    refine ⟨s1.heap.objs.size, [s1.heap.objs.size], _, _, H1, rfl, I1.kept (t' := s1.toks) fun b o e => Heap.get?_push_of_some _ e, turn_tuple a _, ⟨_, Heap.get?_push_size _ rfl, rfl, rfl⟩, fun b hb => ?_, q⟩
    have e : b = s1.heap.objs.size := by simpa using hb
    subst e
    exact I1.fpOk (Nat.le_refl _) (I1.hok.fresh (Nat.le_refl _))
  · obtain ⟨t, rfl⟩ := r1
    cases ha : z.cps.all (· < 128)
    · exact wpAny_pyIter_wide ha (pi_one (tk := s1.toks) I1 _ (turn_str _ z t "str_iterator" (.inr rfl)) ⟨_, Heap.get?_push_size _ rfl, rfl, rfl⟩ q)
    · exact wpAny_pyIter_ascii ha (pi_one (tk := s1.toks) I1 _ (turn_str _ z t "str_ascii_iterator" (.inl rfl)) ⟨_, Heap.get?_push_size _ rfl, rfl, rfl⟩ q)
theorem big_ok {i : Int} (h : big i = true) : -(2 ^ 62) ≤ i ∧ i < 2 ^ 62 := by
  unfold big at h
  rw [Bool.and_eq_true] at h
  exact ⟨of_decide_eq_true h.1, of_decide_eq_true h.2⟩
theorem w_range1 {a : Expr} (hg : Gl X "range") (hm : X.mg "range" = none) (ha : PA X [a] (tL X G W fl)) (hs : starEach [a] X.env = [(false, eval a X.env)]) (h1 : ∀ ev M ds M1, fl ev M = .ok ds M1 → ds.length = 1) :
    PI X tg (.Call (.Name "range" p) [a] [] pos) (tW false X G W (itRange fl)) := by
  refine PI.imp (pi_range1 hg hm ha hs) fun σ H R ⟨ρ, M, ev, r, er, p⟩ => ⟨ρ, M, ev, r, er, p.step fun d M1 ρ1 H1 eq g1 r1 p1 vs rl => ?_⟩
  have hl := h1 ev M d M1 eq
  match d, hl with
  | [.int j], _ =>
    simp only [RepL] at rl
    obtain ⟨v, t, rfl, rv, rfl⟩ := rl
    rw [rv.int']
    simp only at p1
    split at p1
    · rename_i hb
      obtain ⟨b1, b2⟩ := big_ok hb
      exact ⟨j, rfl, b1, b2, p1 ρ1 H1 .refl r1 _ walkD_range⟩
    · exact p1.elim
  | [.non], _ | [.bl _], _ | [.str _], _ | [.tup _], _ | [.ref _], _ | [.exc _ _ _], _ => exact p1.elim
theorem w_range2 {a b : Expr} (hg : Gl X "range") (hm : X.mg "range" = none) (ha : PA X [a, b] (tL X G W fl)) (hs : starEach [a, b] X.env = [(false, eval a X.env), (false, eval b X.env)]) (hs2 : starEach [b] X.env = [(false, eval b X.env)]) (h1 : ∀ ev M ds M1, fl ev M = .ok ds M1 → ds.length = 2) :
    PI X tg (.Call (.Name "range" p) [a, b] [] pos) (tW false X G W (itRange fl)) := by
  refine PI.imp (pi_range2 hg hm ha hs hs2) fun σ H R ⟨ρ, M, ev, r, er, p⟩ => ⟨ρ, M, ev, r, er, p.step fun d M1 ρ1 H1 eq g1 r1 p1 vs rl => ?_⟩
  have hl := h1 ev M d M1 eq
  match d, hl with
  | [x, y], _ =>
    cases x with
    | int i =>
      cases y with
      | int j =>
        simp only [RepL] at rl
        obtain ⟨v, t, rfl, rv, w, t2, rfl, rw', rfl⟩ := rl
        rw [rv.int', rw'.int']
        simp only at p1
        split at p1
        · rename_i hb
          rw [Bool.and_eq_true] at hb
          obtain ⟨b1, b2⟩ := big_ok hb.1
          obtain ⟨b3, b4⟩ := big_ok hb.2
          exact ⟨i, j, rfl, ⟨b1, b2, b3, b4⟩, p1 ρ1 H1 .refl r1 _ walkD_range⟩
        · exact p1.elim
      | _ => exact p1.elim
    | _ => exact p1.elim
theorem w_range3 {a b c : Expr} (hg : Gl X "range") (hm : X.mg "range" = none) (ha : PA X [a, b, c] (tL X G W fl)) (hs : starEach [a, b, c] X.env = (false, eval a X.env) :: starEach [b, c] X.env) (hpl : (backTo pos (starEach [b, c] X.env)).any (·.1) = false) (h1 : ∀ ev M ds M1, fl ev M = .ok ds M1 → ds.length = 3) :
    PI X tg (.Call (.Name "range" p) [a, b, c] [] pos) (tW false X G W (itRange fl)) := by
  refine PI.imp (pi_range3 hg hm ha hs hpl) fun σ H R ⟨ρ, M, ev, r, er, p⟩ => ⟨ρ, M, ev, r, er, p.step fun d M1 ρ1 H1 eq g1 r1 p1 vs rl => ?_⟩
  have hl := h1 ev M d M1 eq
  match d, hl with
  | [x, y, z], _ =>
    cases x with
    | int i =>
      cases y with
      | int j =>
        cases z with
        | int k =>
          simp only [RepL] at rl
          obtain ⟨v, t, rfl, rv, w, t2, rfl, rw', u, t3, rfl, ru, rfl⟩ := rl
          rw [rv.int', rw'.int', ru.int']
          simp only at p1
          split at p1
          · rename_i hb
            rw [Bool.and_eq_true, Bool.and_eq_true] at hb
            obtain ⟨b1, b2⟩ := big_ok hb.1.1
            obtain ⟨b3, b4⟩ := big_ok hb.1.2
            have hk : k = -1 := of_decide_eq_true hb.2
            subst hk
            refine ⟨i, j, -1, (i - j).toNat, rfl, RgC.neg b1 b2 b3 b4, p1 ρ1 H1 .refl r1 _ ?_⟩
            by_cases hij : j ≤ i
            · have e : j + 1 = i - ((i - j).toNat : Int) + 1 := by omega
              rw [e]
              exact walkD_down
            · have e : (i - j).toNat = 0 := by omega
              rw [e]
              exact walkD_down (i₀ := i) (n := 0)
          · exact p1.elim
        | _ => exact p1.elim
      | _ => exact p1.elim
    | _ => exact p1.elim
theorem w_enum {a : Expr} {elts : List Expr} {kk : Nat} {tpos : Pos} (hK : G.K = X.K) (hg : Gl X "enumerate") (hm : X.mg "enumerate" = none) (ha : PA X [a] (tL X G W fl)) (hs : starEach [a] X.env = [(false, eval a X.env)]) :
    PI X (.Tuple elts kk tpos) (.Call (.Name "enumerate" p) [a] [] pos) (tW true X G W (itEnum fl)) := by
  refine PI.imp (pi_enum hg hm ha hs) fun σ H R ⟨ρ, M, ev, r, er, p⟩ => ⟨ρ, M, ev, r, er, p.step fun d M1 ρ1 H1 eq g1 r1 p1 vs rl => ?_⟩
  skip
  split at p1
  · rename_i n
    simp only [RepL] at rl
    obtain ⟨v, t, rfl, rv, rfl⟩ := rl
    obtain ⟨hn, rfl⟩ := rv.ref'
    split at p1
    · rename_i xs e
      obtain ⟨ws, hq, rl⟩ := rel_getL r1 e
      exact ⟨_, ws, rfl, hK ▸ hq, hK ▸ p1 ρ1 H1 .refl r1 _ (walkD_enum hn)⟩
    · exact p1.elim
  · exact p1.elim
theorem w_zip {a b : Expr} {elts : List Expr} {kk : Nat} {tpos : Pos} (hK : G.K = X.K) (hg : Gl X "zip") (hm : X.mg "zip" = none) (ha : PA X [a, b] (tL X G W fl)) (hs : starEach [a, b] X.env = (false, eval a X.env) :: starEach [b] X.env) (hpl : (backTo pos (starEach [b] X.env)).any (·.1) = false) :
    PI X (.Tuple elts kk tpos) (.Call (.Name "zip" p) [a, b] [] pos) (tW true X G W (itZip fl)) := by
  refine PI.imp (pi_zip hg hm ha hs hpl) fun σ H R ⟨ρ, M, ev, r, er, p⟩ => ⟨ρ, M, ev, r, er, p.step fun d M1 ρ1 H1 eq g1 r1 p1 vs rl => ?_⟩
  skip
  split at p1
  · rename_i n m
    simp only [RepL] at rl
    obtain ⟨v, t, rfl, rv, w, t2, rfl, rw', rfl⟩ := rl
    obtain ⟨hn, rfl⟩ := rv.ref'
    obtain ⟨hm', rfl⟩ := rw'.ref'
    split at p1
    · rename_i xs ys e e2
      obtain ⟨ws, hq, rl⟩ := rel_getL r1 e
      obtain ⟨us, hq2, rl2⟩ := rel_getL r1 e2
      exact ⟨_, _, ws, us, rfl, hK ▸ hq, hK ▸ hq2, hK ▸ p1 ρ1 H1 .refl r1 _ (walkD_zip hn hm')⟩
    · exact p1.elim
  · exact p1.elim
theorem w_rev {a : Expr} (hK : G.K = X.K) (hg : Gl X "reversed") (hm : X.mg "reversed" = none) (ha : PA X [a] (tL X G W fl)) (hs : starEach [a] X.env = [(false, eval a X.env)]) :
    PI X tg (.Call (.Name "reversed" p) [a] [] pos) (tW false X G W (itRev fl)) := by
  refine PI.imp (pi_reversed hg hm ha hs) fun σ H R ⟨ρ, M, ev, r, er, p⟩ => ⟨ρ, M, ev, r, er, p.step fun d M1 ρ1 H1 eq g1 r1 p1 vs rl => ?_⟩
  skip
  split at p1
  · rename_i n
    simp only [RepL] at rl
    obtain ⟨v, t, rfl, rv, rfl⟩ := rl
    obtain ⟨hn, rfl⟩ := rv.ref'
    split at p1
    · rename_i xs e
      obtain ⟨ws, hq, rl⟩ := rel_getL r1 e
      refine ⟨_, ws, rfl, hK ▸ hq, ?_⟩
      rw [rl.length]
      exact hK ▸ p1 ρ1 H1 .refl r1 _ (walkD_rev hn)
    · exact p1.elim
  · exact p1.elim
end
end MI

set_option Elab.async false
set_option linter.all false
set_option maxRecDepth 100000
namespace MI
open PySem PySem.Spec PyProof.Rows L2
/-! list comprehensions -/
def dropE : Option D → Option D
  | some (.exc _ _ _) => none
  | o => o
def wipeD (ev : Env) : List Nat → Env
  | [] => ev.map dropE
  | v :: vs => (wipeD ev vs).set v none
def accD (k : Mem → Option Mem) (n : Nat) (d : D) (M : Mem) : Option Mem := match M[n]? with
  | some (.lst acc) => if acc.length < lim then k (M.set n (.lst (acc ++ [d]))) else none
  | _ => none
def elD (k : Mem → Option Mem) (n : Nat) : R D → Option Mem
  | .ok d M => accD k n d M
  | _ => none
def tsD (k : Mem → Option Mem) (n : Nat) (f : Mem → R D) : R Bool → Option Mem
  | .ok b M => if b then elD k n (f M) else k M
  | _ => none
def compL (g : TgD) (t : DenT) (f : Den) (chk : Mem → Bool) (n : Nat) (ev : Env) : List D → Mem → Option Mem
  | [], M => if chk M then some M else none
  | x :: xs, M => if chk M then
      (match g x ev with
      | some ev1 => tsD (compL g t f chk n ev xs) n (f (ev1.map dropE)) (t (ev1.map dropE) M)
      | none => none)
    else none
def dComp (it : ItD) (g : TgD) (t : DenT) (f : Den) (vs : List Nat) : Den := fun ev M => (it ev M).bind fun p M1 =>
  R.of ((compL g t f p.2 M1.length (wipeD ev vs) p.1 (M1 ++ [.lst []])).map fun M2 => (.ref M1.length, M2))
def tYesD : DenT := fun _ M => .ok true M
def noW : WX := fun _ _ _ _ => False
section
variable {X : Cx} {G : GC} {W : WX} {σ : St} {ρ : Nat → Addr} {N : Nat} {H : Hp} {ev : Env}
theorem RepE.drop (h : RepE X G ρ N H σ ev) (X' : Cx) : RepE X' G ρ N H σ (ev.map dropE) := by
  refine ⟨by simp [h.len], fun i d e => ?_⟩
  rw [List.getElem?_map] at e
  cases e1 : ev[i]? with
  | none => rw [e1] at e; cases e
  | some o =>
    rw [e1] at e
    cases o with
    | none => cases e
    | some d' =>
      obtain ⟨v, hv, rv⟩ := h.at_ i d' e1
      cases d' with
      | exc _ _ _ => cases e
      | _ => cases e; exact ⟨v, hv, rv⟩
theorem RepE.wipe (h : RepE X G ρ N H σ ev) (X' : Cx) : ∀ vs : List Nat, RepE X' G ρ N H (L2.wipe σ vs) (wipeD ev vs)
  | [] => h.drop X'
  | v :: vs => by
    have ih := RepE.wipe h X' vs
    refine ⟨by simp [L2.wipe, wipeD, ih.len], fun i d e => ?_⟩
    unfold wipeD at e
    by_cases hi : v = i
    · subst hi
      by_cases hv : v < (wipeD ev vs).length
      · rw [List.getElem?_set_self hv] at e; cases e
      · rw [List.getElem?_eq_none (by simpa using hv)] at e; cases e
    · rw [List.getElem?_set_ne hi] at e
      obtain ⟨w, hw, rw'⟩ := ih.at_ i d e
      refine ⟨w, ?_, rw'⟩
      unfold L2.wipe
      rw [List.getElem?_set_ne hi]
      exact hw
theorem wipe_get (σ : St) (i : Nat) : ∀ vs : List Nat, (L2.wipe σ vs)[i]? = if i ∈ vs then (σ[i]?).map fun _ => none else σ[i]?
  | [] => by simp [L2.wipe]
  | v :: vs => by
    unfold L2.wipe
    have ih := wipe_get σ i vs
    by_cases hi : v = i
    · subst hi
      rw [if_pos List.mem_cons_self]
      by_cases hv : v < σ.length
      · rw [List.getElem?_set_self (by rw [wipe_length]; exact hv), List.getElem?_eq_getElem hv]
        rfl
      · rw [List.getElem?_eq_none (by simpa [wipe_length] using hv), List.getElem?_eq_none (by simpa using hv)]
        rfl
    · rw [List.getElem?_set_ne hi, ih]
      by_cases hm : i ∈ vs
      · rw [if_pos hm, if_pos (List.mem_cons_of_mem _ hm)]
      · rw [if_neg hm, if_neg (by simp only [List.mem_cons, not_or]; exact ⟨fun e => hi e.symm, hm⟩)]
theorem wipe_sets {is vs : List Nat} {σ1 : St} (h : Sets is (L2.wipe σ vs) σ1) (hs : ∀ i ∈ is, i ∈ vs) : L2.wipe σ1 vs = L2.wipe σ vs := by
  refine List.ext_getElem? fun i => ?_
  rw [wipe_get, wipe_get]
  by_cases hm : i ∈ vs
  · rw [if_pos hm, if_pos hm]
    have hl : σ1.length = σ.length := by rw [h.1, wipe_length]
    by_cases hi : i < σ.length
    · rw [List.getElem?_eq_getElem hi, List.getElem?_eq_getElem (hl ▸ hi)]; rfl
    · rw [List.getElem?_eq_none (by rw [hl]; simpa using hi), List.getElem?_eq_none (by simpa using hi)]
  · rw [if_neg hm, if_neg hm]
    have e := h.2 i fun hi => hm (hs i hi)
    rw [e, wipe_get, if_neg hm]
end
theorem PostO.mono {G : GC} {ρ ρ' : Nat → Addr} {N N' : Nat} {H H' : Hp} {Q : VK} {o : Option (D × Mem)} (p : PostO G ρ N H Q o) (g : Grow G ρ N H ρ' N' H') : PostO G ρ' N' H' Q o := by
  cases o with
  | none => exact p
  | some x => exact fun ρ2 v H2 g2 r2 q => p ρ2 v H2 (g.trans g2) r2 q
section
variable {X : Cx} {G : GC} {W : WX} {elt tg iter : Expr} {ifs : List Expr} {scope : Scope} {own : List (Str × Nat)} {pos : Pos} {fi : ItD} {g : TgD} {is : List Nat} {t : DenT} {f : Den} {pr : Bool}
/-- the reading of a comprehension -/
theorem tI_comp {tt : TT} (hgs : ∀ i ∈ is, i ∈ own.map (·.2)) (htt : ∀ σ H Q, (∀ X2, tT X2 G noW t σ H Q) → tt σ H Q) {σ : St} {H : Hp} {Q : VK} (h : tI X G W (dComp fi g t f (own.map (·.2))) σ H Q) :
    tLc (tW pr X G W fi) (fun v σ H Q => ∀ X2, tgR X2 G pr g is v σ H Q) tt (fun σ H Q => ∀ X2, tI X2 G noW f σ H Q) (own.map (·.2)) σ H Q := by
  obtain ⟨ρ, M, ev, r, er, p⟩ := h
  refine ⟨ρ, M, ev, r, er, p.step fun q M1 ρ1 H1 _ g1 r1 p1 J w D hD => ?_⟩
  obtain ⟨xs, chk⟩ := q
  generalize hvs : own.map (·.2) = vs at *
  have er1 := fun X2 : Cx => (er.grow g1).wipe X2 vs
  generalize hev : wipeD ev vs = evw at *
  have hl : (M1 ++ [Cell.lst []]).length = M1.length + 1 := by simp
  have g0 : Grow G ρ1 M1.length H1 (ext ρ1 M1.length D) (M1 ++ [Cell.lst []]).length (upd H1 D (.lst [])) := hl ▸ grow_new hD
  have r0 : Rel G (ext ρ1 M1.length D) (upd H1 D (.lst [])) (M1 ++ [.lst []]) := r1.new hD ⟨[], upd_same, .nil⟩
  -- what a memory at a turn is to reach
  refine ⟨fun i m H2 => m = xs.length - i ∧ i ≤ xs.length ∧ ∃ ρ2 M2, Grow G (ext ρ1 M1.length D) (M1 ++ [Cell.lst []]).length (upd H1 D (.lst [])) ρ2 M2.length H2 ∧ Rel G ρ2 H2 M2 ∧
      PostO G ρ2 M2.length H2 Q ((compL g t f chk M1.length evw (xs.drop i) M2).map fun M3 => (MI.D.ref M1.length, M3)),
    ⟨xs.length, by simp, Nat.zero_le _, _, _, .refl, r0, ?_⟩, ?_⟩
  · rw [List.drop_zero]
    exact PostO.of (W := W) (σ := σ) (p1.trans g0)
  rintro i m H2 ⟨rfl, hi, ρ2, M2, g2, r2, p2⟩
  have gw : Grow G ρ1 M1.length H1 ρ2 M2.length H2 := g0.trans g2
  have hn : M1.length < M2.length := Nat.lt_of_lt_of_le (by rw [hl]; exact Nat.lt_succ_self _) g2.le
  have hD2 : ρ2 M1.length = D := by rw [g2.ag _ (by rw [hl]; exact Nat.lt_succ_self _), ext_new]
  by_cases hlt : i < xs.length
  · have hd : xs.drop i = xs[i] :: xs.drop (i + 1) := List.drop_eq_getElem_cons hlt
    rw [hd] at p2
    simp only [compL] at p2
    cases hchk : chk M2 with
    | false => rw [hchk] at p2; exact p2.elim
    | true =>
      rw [hchk] at p2
      simp only [if_true] at p2
      refine .inr ⟨w.goes i ρ2 H2 M2 hlt gw r2 hchk, fun H' => ∃ ρ3 M3, Grow G (ext ρ1 M1.length D) (M1 ++ [Cell.lst []]).length (upd H1 D (.lst [])) ρ3 M3.length H' ∧ Rel G ρ3 H' M3 ∧
          PostO G ρ3 M3.length H' Q ((compL g t f chk M1.length evw (xs.drop (i + 1)) M3).map fun M4 => (MI.D.ref M1.length, M4)),
        fun H' h => ⟨xs.length - (i + 1), by omega, rfl, hlt, h⟩, fun x H' y => ?_⟩
      obtain ⟨gy, ry, d, e1, rv⟩ := w.yields i ρ2 H2 M2 x H' hlt gw r2 hchk y
      have e2 : xs[i] = d := by
        have := List.getElem?_eq_getElem hlt
        rw [this] at e1
        exact Option.some.inj e1
      subst e2
      cases e3 : g xs[i] evw with
      | none => rw [e3] at p2; exact p2.elim
      | some ev1 =>
        simp only [e3] at p2
        intro X2
        refine ⟨ρ2, M2, evw, xs[i], ry, ((er1 X2).grow gw).grow gy, rv, ev1, e3, fun σ1 er2 s1 => ⟨wipe_sets s1 hgs, htt _ _ _ fun X3 => ⟨ρ2, M2, ev1.map dropE, ry, er2.drop X3, ?_⟩⟩⟩
        have p3 := p2
        cases et : t (ev1.map dropE) M2 with
        | ex c fs M3 => rw [et] at p3; exact p3.elim
        | st => rw [et] at p3; exact p3.elim
        | ok b M3 =>
          rw [et] at p3
          intro ρ3 H3 g3 r3
          cases b with
          | false =>
            simp only [tsD, Bool.false_eq_true, if_false] at p3
            exact iteF ⟨ρ3, M3, (g2.trans gy).trans g3, r3, PostO.mono p3 (gy.trans g3)⟩
          | true =>
            refine iteT fun X4 => ⟨ρ3, M3, ev1.map dropE, r3, (er2.drop X4).grow g3, ?_⟩
            simp only [tsD, if_true] at p3
            cases ef : f (ev1.map dropE) M3 with
            | ex c fs M4 => rw [ef] at p3; exact p3.elim
            | st => rw [ef] at p3; exact p3.elim
            | ok d M4 =>
              rw [ef] at p3
              intro ρ4 H4 g4 r4 v rv4
              have g24 := (g2.trans gy).trans (g3.trans g4)
              have hD4 : ρ4 M1.length = D := by rw [g24.ag _ (by rw [hl]; exact Nat.lt_succ_self _), ext_new]
              have hn4 : M1.length < M4.length := Nat.lt_of_lt_of_le (by rw [hl]; exact Nat.lt_succ_self _) g24.le
              simp only [elD, accD] at p3
              cases em : M4[M1.length]? with
              | none => rw [em] at p3; exact p3.elim
              | some c =>
                rw [em] at p3
                cases c with
                | lst acc =>
                  simp only at p3
                  split at p3
                  · rename_i hz
                    obtain ⟨ws, hw, rl⟩ := rel_lst r4 em
                    refine ⟨ws, by rw [← hD4]; exact hw, by rw [rl.length, ← lim_eq]; exact hz, ?_⟩
                    have gW := r4.grow_write (o := .lst (ws ++ [v])) hn4
                    have hl4 : (M4.set M1.length (.lst (acc ++ [d]))).length = M4.length := by simp
                    have rW : Rel G ρ4 (upd H4 (ρ4 M1.length) (.lst (ws ++ [v]))) (M4.set M1.length (.lst (acc ++ [d]))) := r4.write hn4 ⟨_, upd_same, (rl.append (.one rv4)).grow gW⟩
                    rw [hD4] at gW rW
                    refine ⟨ρ4, _, hl4.symm ▸ g24.trans gW, rW, ?_⟩
                    exact PostO.mono p3 (hl4.symm ▸ (gy.trans (g3.trans g4)).trans gW)
                  · exact p3.elim
                | _ => exact p3.elim
  · have e : i = xs.length := by omega
    subst e
    rw [List.drop_length] at p2
    simp only [compL] at p2
    cases hchk : chk M2 with
    | false => rw [hchk] at p2; exact p2.elim
    | true =>
      rw [hchk] at p2
      refine .inl ⟨w.stops ρ2 H2 M2 gw r2 hchk, ?_⟩
      refine p2.same r2 ?_
      simp only [RepV]
      exact ⟨hn, by rw [hD2]⟩
theorem i_comp (hc : X.calm = true) (hN : X.N.Nodup) (hi : PI X tg iter (tW pr X G W fi)) (ok : BlkOk X.N X.env.scope scope own) (hgs : ∀ i ∈ is, i ∈ own.map (·.2))
    (hg : ∀ (s : Shared) (H : Hp) (C : Addr) (cl : List (Str × Addr)) (fp : List Addr), PG (X.blk s H scope (compEnvC scope cl C X.env) fp) tg (tgR (X.blk s H scope (compEnvC scope cl C X.env) fp) G pr g is))
    (he : ∀ (s : Shared) (H : Hp) (C : Addr) (cl : List (Str × Addr)) (fp : List Addr), PE (X.blk s H scope (compEnvC scope cl C X.env) fp) elt (tI (X.blk s H scope (compEnvC scope cl C X.env) fp) G noW f)) (hs : ∀ x, foldedSetIterable iter X.env x = pure x) :
    PE X (.ListComp elt [⟨tg, iter, [], 0⟩] scope pos) (tI X G W (dComp fi g tYesD f (own.map (·.2)))) :=
  PE.imp (pe_lc hc hN hi ok (fun s H C cl fp => PG.imp (hg s H C cl fp) fun v σ H Q h => h _) (fun _ _ _ _ _ => pts_nil) (fun s H C cl fp => PE.imp (he s H C cl fp) fun σ H Q h => h _) hs) fun σ H Q h =>
    tI_comp hgs (fun σ H Q h => by
      obtain ⟨ρ, M, ev, r, er, p⟩ := h X
      exact p ρ H .refl r) h
theorem i_compIf {cnd : Expr} (hc : X.calm = true) (hN : X.N.Nodup) (hi : PI X tg iter (tW pr X G W fi)) (ok : BlkOk X.N X.env.scope scope own) (hgs : ∀ i ∈ is, i ∈ own.map (·.2))
    (hg : ∀ (s : Shared) (H : Hp) (C : Addr) (cl : List (Str × Addr)) (fp : List Addr), PG (X.blk s H scope (compEnvC scope cl C X.env) fp) tg (tgR (X.blk s H scope (compEnvC scope cl C X.env) fp) G pr g is))
    (ht : ∀ (s : Shared) (H : Hp) (C : Addr) (cl : List (Str × Addr)) (fp : List Addr), PT (X.blk s H scope (compEnvC scope cl C X.env) fp) cnd (tT (X.blk s H scope (compEnvC scope cl C X.env) fp) G noW t))
    (he : ∀ (s : Shared) (H : Hp) (C : Addr) (cl : List (Str × Addr)) (fp : List Addr), PE (X.blk s H scope (compEnvC scope cl C X.env) fp) elt (tI (X.blk s H scope (compEnvC scope cl C X.env) fp) G noW f)) (hs : ∀ x, foldedSetIterable iter X.env x = pure x) :
    PE X (.ListComp elt [⟨tg, iter, [cnd], 0⟩] scope pos) (tI X G W (dComp fi g t f (own.map (·.2)))) :=
  PE.imp (pe_lc hc hN hi ok (fun s H C cl fp => PG.imp (hg s H C cl fp) fun v σ H Q h => h _) (tt := fun σ H Q => ∀ X2, tT X2 G noW t σ H Q) (fun s H C cl fp => pts_one (PT.imp (ht s H C cl fp) fun σ H Q h => h _)) (fun s H C cl fp => PE.imp (he s H C cl fp) fun σ H Q h => h _) hs) fun σ H Q h =>
    tI_comp hgs (fun _ _ _ h => h) h
/-- name = [..] on one line -/
theorem s_setComp {i : Nat} {y : Str} {py spos : Pos} (hc : X.calm = true) (hN : X.N.Nodup) (hy : X.N[i]? = some y) (hyl : X.env.scope.names.lookup y = some .local)
    (hsw : swapsWith (.ListComp elt [⟨tg, iter, [], 0⟩] scope pos) (some (.Name y py)) spos.line X.env = pure true) (hi : PI X tg iter (tW pr X G W fi)) (ok : BlkOk X.N X.env.scope scope own) (hgs : ∀ i ∈ is, i ∈ own.map (·.2))
    (hg : ∀ (s : Shared) (H : Hp) (C : Addr) (cl : List (Str × Addr)) (fp : List Addr), PG (X.blk s H scope (compEnvC scope cl C X.env) fp) tg (tgR (X.blk s H scope (compEnvC scope cl C X.env) fp) G pr g is))
    (he : ∀ (s : Shared) (H : Hp) (C : Addr) (cl : List (Str × Addr)) (fp : List Addr), PE (X.blk s H scope (compEnvC scope cl C X.env) fp) elt (tI (X.blk s H scope (compEnvC scope cl C X.env) fp) G noW f)) (hs : ∀ x, foldedSetIterable iter X.env x = pure x) :
    PS X (.Assign [.Name y py] (.ListComp elt [⟨tg, iter, [], 0⟩] scope pos) spos) (tS X G W (sSet i (dComp fi g tYesD f (own.map (·.2))))) :=
  PS.imp (ps_setLc hc hN hy hyl hsw hi ok (fun s H C cl fp => PG.imp (hg s H C cl fp) fun v σ H Q h => h _) (fun _ _ _ _ _ => pts_nil) (fun s H C cl fp => PE.imp (he s H C cl fp) fun σ H Q h => h _) hs) fun T σ H h =>
    tI_comp hgs (fun σ H Q h => by
      obtain ⟨ρ, M, ev, r, er, p⟩ := h X
      exact p ρ H .refl r) (tS_set h)
theorem s_setCompIf {i : Nat} {y : Str} {py spos : Pos} {cnd : Expr} (hc : X.calm = true) (hN : X.N.Nodup) (hy : X.N[i]? = some y) (hyl : X.env.scope.names.lookup y = some .local)
    (hsw : swapsWith (.ListComp elt [⟨tg, iter, [cnd], 0⟩] scope pos) (some (.Name y py)) spos.line X.env = pure true) (hi : PI X tg iter (tW pr X G W fi)) (ok : BlkOk X.N X.env.scope scope own) (hgs : ∀ i ∈ is, i ∈ own.map (·.2))
    (hg : ∀ (s : Shared) (H : Hp) (C : Addr) (cl : List (Str × Addr)) (fp : List Addr), PG (X.blk s H scope (compEnvC scope cl C X.env) fp) tg (tgR (X.blk s H scope (compEnvC scope cl C X.env) fp) G pr g is))
    (ht : ∀ (s : Shared) (H : Hp) (C : Addr) (cl : List (Str × Addr)) (fp : List Addr), PT (X.blk s H scope (compEnvC scope cl C X.env) fp) cnd (tT (X.blk s H scope (compEnvC scope cl C X.env) fp) G noW t))
    (he : ∀ (s : Shared) (H : Hp) (C : Addr) (cl : List (Str × Addr)) (fp : List Addr), PE (X.blk s H scope (compEnvC scope cl C X.env) fp) elt (tI (X.blk s H scope (compEnvC scope cl C X.env) fp) G noW f)) (hs : ∀ x, foldedSetIterable iter X.env x = pure x) :
    PS X (.Assign [.Name y py] (.ListComp elt [⟨tg, iter, [cnd], 0⟩] scope pos) spos) (tS X G W (sSet i (dComp fi g t f (own.map (·.2))))) :=
  PS.imp (ps_setLc hc hN hy hyl hsw hi ok (fun s H C cl fp => PG.imp (hg s H C cl fp) fun v σ H Q h => h _) (tt := fun σ H Q => ∀ X2, tT X2 G noW t σ H Q) (fun s H C cl fp => pts_one (PT.imp (ht s H C cl fp) fun σ H Q h => h _)) (fun s H C cl fp => PE.imp (he s H C cl fp) fun σ H Q h => h _) hs) fun T σ H h =>
    tI_comp hgs (fun _ _ _ h => h) (tS_set h)
end
end MI

set_option Elab.async false
set_option linter.all false
set_option maxRecDepth 100000
namespace MI
open PySem PySem.Spec PyProof.Rows L2
/-! calls of own functions -/
/-- room for k levels of calls -/
structure RoomG (calm : Bool) (k : Nat) (A : Around) : Prop where
  dp : A.depth + 3 * k + 5 < recursionLimit
  un : A.units + 16 * k + 200 < cLine
  hd : calm = true → A.handled = none
  gd : A.guards = some []
section
variable {calm : Bool} {j k : Nat} {A : Around}
theorem RoomG.mono (r : RoomG calm k A) (h : j ≤ k) : RoomG calm j A := ⟨by have := r.dp; omega, by have := r.un; omega, r.hd, r.gd⟩
theorem RoomG.deeper (r : RoomG calm (k + 1) A) (env : PySem.Env) : RoomG calm k (A.deeper env) :=
  ⟨by have := r.dp; show A.depth + 1 + 3 * k + 5 < _; omega, by have := r.un; show A.units + 3 + 16 * k + 200 < _; omega, r.hd, r.gd⟩
theorem RoomG.depth (r : RoomG calm k A) : A.depth < recursionLimit := by have := r.dp; omega
theorem RoomG.room (r : RoomG true k A) : Room k A := ⟨r.hd rfl, r.dp, r.un⟩
theorem RoomG.make (r : RoomG calm (k + 1) A) (C : Addr) (us : List Value) (kw : List (Str × Value)) : RoomG calm k (A.under (.builtin "type.__call__" ⟨.ref C :: us, kw⟩)) :=
  ⟨by have := r.dp; rw [make_depth]; omega, by have := r.un; rw [make_units]; omega, fun h => r.hd h, by
    have := r.gd
    first
      | exact this
      | (simp [Around.under, Code.guards, Code.isGuard, guardIds, pushGuards, this])⟩
end
/-- what a def promises, called within a suite or without -/
structure FnG (calm : Bool) (P : Program) (w : World) (K : PySem.W.Frag) (mg : Str → Option Value) (base : Heap) (k : Nat) (f : Addr) (fd : FuncData) (ps : List Str) (sp : Sp) : Prop where
  len : ∀ vs H Q E, sp vs H Q E → vs.length = ps.length
  run : ∀ (A : Around) (outer : List PySem.Env) (s : Shared) (H : Hp) (args : Args) (us : List Value) (vs : List V) (Q : VK) (E : XK), RoomG calm k A → Env0 P w K mg base A outer s H → BindsTo s fd args (ps.zip us) → Vals vs us → sp vs H Q E →
    codeAny (model P w) A (.call (.ref f) args) (CR (L2.CX P w) outer P w H s Q E) s
/-- the context of a def's body -/
def cxG (calm : Bool) (P : Program) (w : World) (K : PySem.W.Frag) (mg : Str → Option Value) (base : Heap) (N : List Str) (qual : Str) (scope : Scope) (f : Addr) (cd : Value) (A : Around) (outer : List PySem.Env) (s : Shared) (H : Hp) (E : XK) : Cx :=
  { cxOf (L2.CX P w) P w K mg base N qual scope f cd A outer s H E with calm := calm }
section
variable {calm : Bool} {P : Program} {w : World} {K : PySem.W.Frag} {mg : Str → Option Value} {base : Heap} {N ps : List Str} {qual : Str} {scope : Scope} {f : Addr} {cd : Value} {A : Around} {outer : List PySem.Env} {s s1 : Shared} {H : Hp} {E : XK} {us : List Value} {vs : List V} {k : Nat}
theorem inv_go (S : FnScope N ps scope) (hd : calm = true → A.handled = none) (e0 : Env0 P w K mg base A outer s H) (hl : vs.length = ps.length) (r : Vals vs us)
    (x : InCallC s s.heap.objs.size (bindL (envOfC qual scope s.heap.objs.size f cd).kindOf (ps.zip us) fun _ => none) (cellsFrom (s.heap.objs.size + 1) scope.names []) (bindC (envOfC qual scope s.heap.objs.size f cd).kindOf (ps.zip us) fun _ => none) s1) :
    Inv (cxG calm P w K mg base N qual scope f cd A outer s H E) [] (L2.start N vs) H s1 := by
  have e1 : Env0 P w K mg base { A with handled := none } outer s H := ⟨e0.frames, e0.mod, e0.bs, e0.bsz, e0.funs, e0.frf, e0.hok, e0.bare⟩
  have I := inv_start (CX := L2.CX P w) (E := E) S rfl e1 hl r x
  have fr : (A.deeper (envOfC qual scope s.heap.objs.size f cd)).frames = some (envOfC qual scope s.heap.objs.size f cd :: outer) := Around.frames_deeper e0.frames
  exact ⟨⟨I.ok.mod, I.ok.kind, I.ok.glob, I.ok.blt, I.ok.above, I.ok.inj, I.ok.has, I.ok.cab, hd, fr, I.ok.stk, I.ok.exf, I.ok.bs, I.ok.bsz, I.ok.noex, I.ok.exfs, I.ok.funs, I.ok.frf⟩, I.os, I.bare, I.base, I.loc, I.cell, I.free, I.freeC, I.pin, I.hok, I.len⟩
theorem takesG : Takes (cxG calm P w K mg base N qual scope f cd A outer s H E) (fun c d _ H => E c d H) :=
  takes_of (X := cxG calm P w K mg base N qual scope f cd A outer s H E) (E₁ := fun e' s'' => L2.CX P w outer H s E e' s'') rfl rfl rfl rfl
theorem passesG : PassesOwn (model P w) (A.deeper (envOfC qual scope s.heap.objs.size f cd)) (envOfC qual scope s.heap.objs.size f cd) (cxG calm P w K mg base N qual scope f cd A outer s H E).xe :=
  passes_of (X := cxG calm P w K mg base N qual scope f cd A outer s H E) (K := fun e s'' => L2.CX P w outer H s E e s'') (E₁ := fun e' s'' => L2.CX P w outer H s E e' s'') rfl
theorem fn_ofG {name : Str} {params : Arguments} {body : List Stmt} {dV kV doc pm cdv ct oc : Value} {an od : Option Addr}
    {osl : Array (Option Value)} {sp : Sp} (lk : K.lookup f = some ⟨oc, od, .func (PySem.W.fnOf name qual params body scope dV kV doc pm an cdv ct), osl⟩) (hcd : PySem.W.codeIn K cdv qual = true) (S : FnScope N ps scope)
    (len : ∀ vs H Q E, sp vs H Q E → vs.length = ps.length)
    (hbody : ∀ (A : Around) (outer : List PySem.Env) (s : Shared) (H : Hp) (vs : List V) (Q : VK) (E : XK), RoomG calm k (A.deeper (envOfC qual scope s.heap.objs.size f cdv)) → sp vs H Q E →
      ∃ t, PSs (cxG calm P w K mg base N qual scope f cdv A outer s H E) body t ∧ t { nx := fun _ H' => Q .non H', rt := Q } (L2.start N vs) H) :
    FnG calm P w K mg base (k + 1) f (PySem.W.fnOf name qual params body scope dV kV doc pm an cdv ct) ps sp := by
  refine ⟨len, fun A outer s H args us vs Q E hr e0 hb r hsp => ?_⟩
  have hl := len _ _ _ _ hsp
  have KX : K.In s.heap := e0.mod.kin.keeps fun b o e => (e0.bs b o e).1
  have lim : s.heap.NoLimit := e0.mod.nolimit.keeps fun b o e => (e0.bs b o e).1
  have hkind : ∀ y ∈ ps.zip us, scope.names.lookup y.1 = some .local ∨ (scope.names.lookup y.1 = some .cell ∧ ((cellsFrom (s.heap.objs.size + 1) scope.names []).lookup y.1).isSome = true) := fun ⟨n, v⟩ hy => by
    rcases S.par n (List.of_mem_zip hy).1 with q | q
    · exact .inl q
    · exact .inr ⟨q, PySem.W.cellsFrom_some _ _ _ (.inl q)⟩
  refine codeAny_call_function hr.depth (KX _ _ lk) rfl S.co S.gen rfl (PySem.W.codeRec_of KX hcd) (hb _ _ _ _ ?_)
  refine wpAny_newFunctionEnv_cells S.kind hkind fun env he s1 x => ?_
  subst he
  refine ⟨lim.keeps x.toInCall.keep, codeAny_func ?_⟩
  obtain ⟨t, ht, hq⟩ := hbody A outer s H vs Q E (hr.deeper _) hsp
  have I : Inv (cxG calm P w K mg base N qual scope f cdv A outer s H E) [] (L2.start N vs) H s1 := inv_go S hr.hd e0 hl r x
  refine wpAny_mono (ht.run [] s1 (L2.start N vs) H _ I hq) (fun fl s' hs => ?_) fun e s' hs => hs
  have fin : ∀ {σ' : St} {H' : Hp} {v : V} {u : Value}, Inv (cxG calm P w K mg base N qual scope f cdv A outer s H E) [] σ' H' s' → RelV v u → Q v H' → CE outer P w H s Q u s' :=
    fun {σ' H' v u} J rv q => ⟨v, H', J.os, J.bare, J.base, J.hok, rv, q⟩
  cases fl with
  | ret u =>
    obtain ⟨v, σ', H', J, rv, q⟩ := hs
    exact fin J rv q
  | next =>
    obtain ⟨σ', H', J, q⟩ := hs
    exact fin (v := V.non) (u := Value.none) J rfl q
  | brk =>
    obtain ⟨_, _, _, q⟩ := hs
    exact False.elim q
  | cont =>
    obtain ⟨_, _, _, q⟩ := hs
    exact False.elim q
end
/-! by deep values -/
abbrev Fun := List D → Mem → R D
/-- a def's promise: what f computes of n arguments -/
def spI (G : GC) (n : Nat) (f : Fun) : Sp := fun vs H Q E => vs.length = n ∧ ∃ ρ M ds, Rel G ρ H M ∧ RepL G ρ M.length H ds vs ∧ PostR G (fun c d _ H => E c d H) [] ρ M.length H (GV G Q) (f ds M)
/-- a body run: nN names -/
def O.ret : O → R D
  | .nx _ M => .ok .non M
  | .rt d M => .ok d M
  | .ex c fs _ M => .ex c fs M
  | _ => .st
def runB (nN : Nat) (b : DenS) : Fun := fun ds M => (b (ds.map some ++ List.replicate (nN - ds.length) none) M).ret
theorem RepE.start {X : Cx} {G : GC} {ρ : Nat → Addr} {n : Nat} {H : Hp} {N : List Str} {ds : List D} {vs : List V} (r : RepL G ρ n H ds vs) :
    RepE X G ρ n H (L2.start N vs) (ds.map some ++ List.replicate (N.length - ds.length) none) := by
  have hl := r.length
  refine ⟨by unfold L2.start; simp [hl], fun i d e => ?_⟩
  have hi : i < ds.length := by
    by_cases hi : i < ds.length
    · exact hi
    · rw [List.getElem?_append_right (by simpa using hi), List.getElem?_replicate] at e
      split at e <;> cases e
  rw [List.getElem?_append_left (by simpa using hi), List.getElem?_map] at e
  cases q : ds[i]? with
  | none => rw [q] at e; cases e
  | some d' =>
    rw [q] at e
    cases e
    obtain ⟨v, hv, rv⟩ := r.get q
    refine ⟨v, ?_, .of rv⟩
    unfold L2.start
    rw [List.getElem?_append_left (by rw [List.length_map, hl]; exact hi), List.getElem?_map, hv]
    rfl
/-- a def by its body's denotation -/
theorem fn_den {calm : Bool} {P : Program} {w : World} {K : PySem.W.Frag} {mg : Str → Option Value} {base : Heap} {N ps : List Str} {qual : Str} {scope : Scope} {f : Addr} {k : Nat} {G : GC} {b : DenS}
    {name : Str} {params : Arguments} {body : List Stmt} {dV kV doc pm cdv ct oc : Value} {an od : Option Addr}
    {osl : Array (Option Value)} (lk : K.lookup f = some ⟨oc, od, .func (PySem.W.fnOf name qual params body scope dV kV doc pm an cdv ct), osl⟩) (hcd : PySem.W.codeIn K cdv qual = true) (S : FnScope N ps scope)
    (hbody : ∀ (A : Around) (outer : List PySem.Env) (s : Shared) (H : Hp) (E : XK), RoomG calm k (A.deeper (envOfC qual scope s.heap.objs.size f cdv)) →
      PSs (cxG calm P w K mg base N qual scope f cdv A outer s H E) body (tS (cxG calm P w K mg base N qual scope f cdv A outer s H E) G (fun c d _ H => E c d H) b)) :
    FnG calm P w K mg base (k + 1) f (PySem.W.fnOf name qual params body scope dV kV doc pm an cdv ct) ps (spI G ps.length (runB N.length b)) := by
  refine fn_ofG lk hcd S (fun vs H Q E h => h.1) fun A outer s H vs Q E hr h => ⟨_, hbody A outer s H E hr, ?_⟩
  obtain ⟨hl, ρ, M, ds, r, rl, p⟩ := h
  refine ⟨ρ, M, _, r, .start rl, ?_⟩
  unfold runB at p
  generalize b (ds.map some ++ List.replicate (N.length - ds.length) none) M = o at p
  cases o with
  | nx ev M' => exact fun ρ' σ' H' g r' _ => p ρ' H' g r' .non (by simp only [RepV])
  | rt d M' => exact fun ρ' v H' g r' rv => p ρ' H' g r' v rv
  | ex c fs ev M' => exact fun ρ' d fv σ' H' g r' _ q rf => p ρ' d fv H' g r' q rf
  | bk ev M' => exact p.elim
  | ct ev M' => exact p.elim
  | st => exact p.elim
/-! calls -/
/-- a callee at hand -/
structure Cal (X : Cx) (G : GC) (x : Str) (fd : FuncData) (ps : List Str) (f : Fun) : Prop where
  ex : ∃ (k : Nat) (a : Addr), FnG X.calm X.prog X.w X.K X.mg X.base k a fd ps (spI G ps.length f) ∧ RoomG X.calm k X.A ∧ X.mg x = some (.ref a) ∧ PySem.W.keepIn X.K (.ref a) = true
/-- a default as a deep value -/
def DefOk (d : D) (u : Value) : Prop := ∃ v, RelV v u ∧ ∀ G ρ N H, RepV G ρ N H d v
/-- from where a parameter has its value: the i-th that is given, or a default -/
def pickD (S : List (Nat ⊕ D)) (xs : List D) : Option (List D) := match S with
  | [] => some []
  | .inl i :: r => match xs[i]?, pickD r xs with
    | some d, some ds => some (d :: ds)
    | _, _ => none
  | .inr d :: r => match pickD r xs with
    | some ds => some (d :: ds)
    | none => none
def pickU (S : List (Nat ⊕ Value)) (xs : List Value) : List Value := S.map fun
  | .inl i => xs.getD i .none
  | .inr u => u
/-- the two tell the same -/
def Pk : List (Nat ⊕ D) → List (Nat ⊕ Value) → Prop
  | [], [] => True
  | .inl i :: r, .inl j :: t => i = j ∧ Pk r t
  | .inr d :: r, .inr u :: t => DefOk d u ∧ Pk r t
  | _, _ => False
theorem pick_ok {G : GC} {ρ : Nat → Addr} {N : Nat} {H : Hp} {xs : List D} {vs : List V} {us : List Value} (r : RepL G ρ N H xs vs) (rv : Vals vs us) :
    ∀ {S : List (Nat ⊕ D)} {T : List (Nat ⊕ Value)} {ys : List D}, Pk S T → pickD S xs = some ys → ∃ ws, Vals ws (pickU T us) ∧ RepL G ρ N H ys ws
  | [], [], ys, _, h => by cases h; exact ⟨[], .nil, .nil⟩
  | .inl i :: r', .inl j :: t, ys, h, e => by
    obtain ⟨rfl, h2⟩ := h
    unfold pickD at e
    split at e
    · rename_i d ds e1 e2
      cases e
      obtain ⟨ws, a, b⟩ := pick_ok r rv h2 e2
      obtain ⟨v, hv, r1⟩ := r.get e1
      obtain ⟨u, hu, r2⟩ := rv.get hv
      refine ⟨v :: ws, .cons ?_ a, .cons r1 b⟩
      show RelV v (us.getD i .none)
      rw [List.getD_eq_getElem?_getD, hu]
      exact r2
    · cases e
  | .inr d :: r', .inr u :: t, ys, h, e => by
    obtain ⟨⟨v, h0, h1⟩, h2⟩ := h
    unfold pickD at e
    split at e
    · rename_i ds e2
      cases e
      obtain ⟨ws, a, b⟩ := pick_ok r rv h2 e2
      exact ⟨v :: ws, .cons h0 a, .cons (h1 _ _ _ _) b⟩
    · cases e
  | [], _ :: _, _, h, _ => h.elim
  | .inl _ :: _, [], _, h, _ => h.elim
  | .inr _ :: _, [], _, h, _ => h.elim
  | .inl _ :: _, .inr _ :: _, _, h, _ => h.elim
  | .inr _ :: _, .inl _ :: _, _, h, _ => h.elim
theorem pickU_len {T : List (Nat ⊕ Value)} {us : List Value} : (pickU T us).length = T.length := by simp [pickU]
/-- how a call with n values in places and the keywords ks binds -/
structure CBind (K : PySem.W.Frag) (fd : FuncData) (ps : List Str) (n : Nat) (ks : List Str) (S : List (Nat ⊕ D)) : Prop where
  ex : ∃ T : List (Nat ⊕ Value), Pk S T ∧ T.length = ps.length ∧ ∀ (s : Shared) (us ws : List Value), K.In s.heap → us.length = n → ws.length = ks.length → BindsTo s fd ⟨us, ks.zip ws⟩ (ps.zip (pickU T (us ++ ws)))
def dCal (f : Fun) (a : DenL) : Den := fun ev M => (a ev M).bind f
def dCalK (f : Fun) (n m : Nat) (S : List (Nat ⊕ D)) (a b : DenL) : Den := fun ev M => (a ev M).bind fun xs M1 => (b ev M1).bind fun ys M2 =>
  if xs.length = n ∧ ys.length = m then (match pickD S (xs ++ ys) with
    | some zs => f zs M2
    | none => .st) else .st
theorem PostR.wish {G : GC} {α : Type} {W W' : WX} {σ σ' : St} {ρ : Nat → Addr} {N : Nat} {H : Hp} {P : Good α} {r : R α} (p : PostR G W σ ρ N H P r) (h : ∀ c d H, W c d σ H → W' c d σ' H) : PostR G W' σ' ρ N H P r := by
  cases r with
  | ok a M' => exact p
  | ex c fs M' => exact fun ρ2 d fv H2 g2 r2 q f => h _ _ _ (p ρ2 d fv H2 g2 r2 q f)
  | st => exact p
section
variable {X : Cx} {G : GC} {W : WX} {es : List Expr} {e : Expr} {kws : List Keyword} {fl fk : DenL} {x : Str} {np n : Nat} {f : Fun} {p pos kpos : Pos} {fd : FuncData} {ps ks : List Str} {S : List (Nat ⊕ D)} {fe : Den} {nm : Option Str}
theorem call_fnG {pins : List (Addr × Obj)} {σ : St} {H : Hp} {s : Shared} {Q : VK} {us ws : List Value} {kv : List (Str × Value)} {vs : List V} {k : Nat} {a : Addr} {sp : Sp} {E : XK}
    (F : FnG X.calm X.prog X.w X.K X.mg X.base k a fd ps sp) (hr : RoomG X.calm k X.A) (hx : PassesAt (L2.CX X.prog X.w) X σ E)
    (I : Inv X pins σ H s) (hb : BindsTo s fd ⟨ws, kv⟩ (ps.zip us)) (r : Vals vs us) (h : sp vs H Q E) : wpAny (model X.prog X.w) X.A (call (.ref a) ws kv) (EP X pins σ Q) X.xe s := by
  refine wpAny_call (codeAny_mono (F.run X.A X.stack s H ⟨ws, kv⟩ us vs Q E hr I.env0 hb r h) fun r s' hq => ?_)
  cases r with
  | error e => exact hx pins H s e s' I hq
  | ok fl =>
    cases fl with
    | ret u => exact I.after hq
    | next => exact False.elim hq
    | brk => exact False.elim hq
    | cont => exact False.elim hq
/-- f(e, ..), every parameter given in its place -/
theorem i_call (tk : Takes X W) (hg : Gl X x) (F : Cal X G x fd ps f) (hb : ∀ us : List Value, us.length = ps.length → bindArgs fd ⟨us, []⟩ = pure (ps.zip us)) (ha : PA X (e :: es) (tL X G W fl)) (hdb : (x == ("__debug__" : Str)) = false)
    (hn : ∀ ev M ds M1, fl ev M = .ok ds M1 → ds.length = ps.length)
    (he : starEach (e :: es) X.env = (false, eval e X.env) :: starEach es X.env) (hpl : (backTo pos (starEach es X.env)).any (·.1) = false) :
    PE X (.Call (.Name x p) (e :: es) [] pos) (tI X G W (dCal f fl)) := by
  obtain ⟨k, a, F, hr, hm, hk⟩ := F.ex
  refine ⟨fun pins s σ H Q I h => ?_⟩
  refine wpAny_Call_Name_kw (ld_glob I hg hm ?_ hdb)
  obtain ⟨ρ, M, ev, r, er, p⟩ := h
  have q : tL X G W fl σ H fun vs H1 => spI G ps.length f vs H1 Q (WE W σ) := ⟨ρ, M, ev, r, er, p.step fun ds M1 ρ1 H1 e1 g1 r1 p1 vs rl => ⟨by rw [rl.length]; exact hn _ _ _ _ e1, ρ1, M1, ds, r1, rl, p1.wish fun _ _ _ h => h⟩⟩
  refine PySem.W.callWith_K (h₀ := X.base) I.ok.mod.kin hk (thn (ha.run pos pins s σ H _ I q) fun us s1 ⟨vs, H1, I1, rv, q1⟩ => ⟨I1.kIn, ?_⟩) he hpl
  exact call_fnG F hr (passAt tk σ) I1 (.of_eq (hb us (by rw [← rv.length]; exact q1.1))) rv q1
theorem i_call0 (tk : Takes X W) (hg : Gl X x) (F : Cal X G x fd [] f) (hb : bindArgs fd ⟨[], []⟩ = pure []) (hdb : (x == ("__debug__" : Str)) = false) :
    PE X (.Call (.Name x p) [] [] pos) (tI X G W (dCal f dNil)) := by
  obtain ⟨k, a, F, hr, hm, hk⟩ := F.ex
  refine ⟨fun pins s σ H Q I h => ?_⟩
  refine wpAny_Call_Name_kw (ld_glob I hg hm ?_ hdb)
  obtain ⟨ρ, M, ev, r, er, p⟩ := h
  exact PySem.W.callWith_K0 I.kIn hk (call_fnG (us := []) (vs := []) F hr (passAt tk σ) I (.of_eq hb) .nil ⟨rfl, ρ, M, [], r, .nil, p.wish fun _ _ _ h => h⟩)
theorem k_nil : PK X [] (tL X G W dNil) := ⟨fun _ pins s σ H Q I h => by
  obtain ⟨ρ, M, ev, r, er, p⟩ := h
  exact wpAny_evalAll_nil ⟨[], H, I, .nil, p ρ H .refl r [] .nil⟩⟩
theorem k_cons (ha : PE X e (tI X G W fe)) (hr : PK X kws (tL X G W fl)) : PK X (⟨nm, e, kpos⟩ :: kws) (tL X G W (dCons fe fl)) := by
  refine ⟨fun pos pins s σ H Q I h => (pk_cons (nm := nm) (kpos := kpos) ha hr).run pos pins s σ H Q I ?_⟩
  obtain ⟨ρ, M, ev, r, er, p⟩ := h
  refine ⟨ρ, M, ev, r, er, p.step fun d M1 ρ1 H1 _ g1 r1 p1 v rv => ⟨ρ1, M1, ev, r1, er.grow g1, p1.step fun ds M2 ρ2 H2 _ g2 r2 p2 vs rvs => ?_⟩⟩
  exact p2 ρ2 H2 .refl r2 (v :: vs) (.cons (rv.grow g2) rvs)
/-- f(e, .., k = v, ..), or defaults -/
theorem i_callK (tk : Takes X W) (hg : Gl X x) (F : Cal X G x fd ps f) (hb : CBind X.K fd ps n ks S) (ha : PA X (e :: es) (tL X G W fl)) (hkw : PK X kws (tL X G W fk)) (hdb : (x == ("__debug__" : Str)) = false)
    (hall : (backToKw pos (keywordEach kws X.env)).all (·.1.isSome) = true) (hks : (backToKw pos (keywordEach kws X.env)).filterMap (·.1) = ks) (he : starEach (e :: es) X.env = (false, eval e X.env) :: starEach es X.env)
    (hpl : ((backTo pos (starEach (e :: es) X.env)).any (·.1) || (backToKw pos (keywordEach kws X.env)).any (·.1.isNone)) = false) :
    PE X (.Call (.Name x p) (e :: es) kws pos) (tI X G W (dCalK f n ks.length S fl fk)) := by
  obtain ⟨k, a, F, hr, hm, hk⟩ := F.ex
  obtain ⟨T, hT, hTl, hB⟩ := hb.ex
  refine ⟨fun pins s σ H Q I h => ?_⟩
  refine wpAny_Call_Name_kw (ld_glob I hg hm ?_ hdb)
  obtain ⟨ρ, M, ev, r, er, p⟩ := h
  have q : tL X G W fl σ H fun vs H1 => tL X G W fk σ H1 fun zs H2 => ∃ (ρ2 : Nat → Addr) (M2 : Mem) (xs ys ds : List D), Rel G ρ2 H2 M2 ∧ RepL G ρ2 M2.length H2 (xs ++ ys) (vs ++ zs) ∧ vs.length = n ∧ zs.length = ks.length ∧ pickD S (xs ++ ys) = some ds ∧ PostR G W σ ρ2 M2.length H2 (GV G Q) (f ds M2) :=
    ⟨ρ, M, ev, r, er, p.step fun xs M1 ρ1 H1 _ g1 r1 p1 vs rv => ⟨ρ1, M1, ev, r1, er.grow g1, p1.step fun ys M2 ρ2 H2 _ g2 r2 p2 zs rz => by
      split at p2
      · rename_i hl
        split at p2
        · rename_i ds e1
          exact ⟨ρ2, M2, xs, ys, ds, r2, (rv.grow g2).append rz, rv.length.trans hl.1, rz.length.trans hl.2, e1, p2⟩
        · exact p2.elim
      · exact p2.elim⟩⟩
  refine PySem.W.callWith_KW (h₀ := X.base) I.ok.mod.kin hk hall (thn (ha.run pos pins s σ H _ I q) fun us s1 ⟨vs, H1, I1, rv, q1⟩ => ?_) hpl he
  refine thn (hkw.run pos pins s1 σ H1 _ I1 q1) fun ws s2 ⟨zs, H2, I2, rz, q2⟩ => ⟨I2.kIn, ?_⟩
  rw [hks]
  obtain ⟨ρ2, M2, xs, ys, ds, r2, rl, l1, l2, e1, p2⟩ := q2
  obtain ⟨vv, a1, a2⟩ := pick_ok rl (rv.append rz) hT e1
  exact call_fnG F hr (passAt tk σ) I2 (hB s2 us ws I2.kIn (by rw [← rv.length]; exact l1) (by rw [← rz.length]; exact l2)) a1
    ⟨by rw [a1.length, pickU_len, hTl], ρ2, M2, ds, r2, a2, p2.wish fun _ _ _ h => h⟩
theorem i_callK0 (tk : Takes X W) (hg : Gl X x) (F : Cal X G x fd ps f) (hb : CBind X.K fd ps 0 ks S) (hkw : PK X kws (tL X G W fk)) (hdb : (x == ("__debug__" : Str)) = false)
    (hall : (backToKw pos (keywordEach kws X.env)).all (·.1.isSome) = true) (hks : (backToKw pos (keywordEach kws X.env)).filterMap (·.1) = ks)
    (hpl : ((backTo pos (starEach [] X.env)).any (·.1) || (backToKw pos (keywordEach kws X.env)).any (·.1.isNone)) = false) :
    PE X (.Call (.Name x p) [] kws pos) (tI X G W (dCalK f 0 ks.length S dNil fk)) := by
  obtain ⟨k, a, F, hr, hm, hk⟩ := F.ex
  obtain ⟨T, hT, hTl, hB⟩ := hb.ex
  refine ⟨fun pins s σ H Q I h => ?_⟩
  refine wpAny_Call_Name_kw (ld_glob I hg hm ?_ hdb)
  obtain ⟨ρ, M, ev, r, er, p⟩ := h
  have q : tL X G W fk σ H fun zs H2 => ∃ (ρ2 : Nat → Addr) (M2 : Mem) (ys ds : List D), Rel G ρ2 H2 M2 ∧ RepL G ρ2 M2.length H2 ys zs ∧ zs.length = ks.length ∧ pickD S ys = some ds ∧ PostR G W σ ρ2 M2.length H2 (GV G Q) (f ds M2) :=
    ⟨ρ, M, ev, r, er, (show PostR G W σ ρ M.length H (GV G Q) ((fk ev M).bind fun ys M2 => if ([] : List D).length = 0 ∧ ys.length = ks.length then (match pickD S ([] ++ ys) with
      | some zs => f zs M2
      | none => .st) else .st) from p).step fun ys M2 ρ2 H2 _ g2 r2 p2 zs rz => by
      split at p2
      · rename_i hl
        split at p2
        · rename_i ds e1
          exact ⟨ρ2, M2, ys, ds, r2, rz, rz.length.trans hl.2, e1, p2⟩
        · exact p2.elim
      · exact p2.elim⟩
  refine PySem.W.callWith_KW0 (h₀ := X.base) I.ok.mod.kin hk hall (thn (hkw.run pos pins s σ H _ I q) fun ws s2 ⟨zs, H2, I2, rz, q2⟩ => ⟨I2.kIn, ?_⟩) hpl
  rw [hks]
  obtain ⟨ρ2, M2, ys, ds, r2, rl, l2, e1, p2⟩ := q2
  obtain ⟨vv, a1, a2⟩ := pick_ok rl rz hT e1
  exact call_fnG F hr (passAt tk σ) I2 (hB s2 [] ws I2.kIn rfl (by rw [← rz.length]; exact l2)) a1
    ⟨by rw [a1.length, pickU_len, hTl], ρ2, M2, ds, r2, a2, p2.wish fun _ _ _ h => h⟩
end
end MI

set_option Elab.async false
set_option linter.all false
set_option maxRecDepth 100000
namespace MI
open PySem PySem.Spec PyProof.Rows L2
/-! method calls -/
theorem len_nil : ∀ ev M ds M1, dNil ev M = R.ok ds M1 → ds.length = 0 := fun _ _ _ _ h => by cases h; rfl
theorem len_cons {a : Den} {r : DenL} {n : Nat} (h : ∀ ev M ds M1, r ev M = R.ok ds M1 → ds.length = n) : ∀ ev M ds M1, dCons a r ev M = R.ok ds M1 → ds.length = n + 1 := fun ev M ds M1 e => by
  unfold dCons at e
  cases e1 : a ev M with
  | ok d M2 =>
    rw [e1] at e
    cases e2 : r ev M2 with
    | ok xs M3 =>
      have e : ((r ev M2).bind fun xs M2 => R.ok (d :: xs) M2) = R.ok ds M1 := e
      rw [e2] at e
      cases e
      rw [List.length_cons, h _ _ _ _ e2]
    | ex c fs M3 =>
      have e : ((r ev M2).bind fun xs M2 => R.ok (d :: xs) M2) = R.ok ds M1 := e
      rw [e2] at e
      cases e
    | st =>
      have e : ((r ev M2).bind fun xs M2 => R.ok (d :: xs) M2) = R.ok ds M1 := e
      rw [e2] at e
      cases e
  | ex c fs M2 => rw [e1] at e; cases e
  | st => rw [e1] at e; cases e
/-- a callable that a method's name gives of a receiver -/
abbrev MetD := D → Mem → Option (List D → Mem → R D)
/-- what callWith takes as it is -/
inductive Cle (X : Cx) : Value → Prop where
  | blt (id : String) : Cle X (.builtin id)
  | own (a : Addr) (h : PySem.W.keepIn X.K (.ref a) = true) : Cle X (.ref a)
/-- the name of a method, at the receivers that m knows -/
structure MetR (X : Cx) (G : GC) (W : WX) (name : Str) (m : MetD) : Prop where
  run : ∀ (pins : List (Addr × Obj)) (s : Shared) (σ : St) (H : Hp) (ρ : Nat → Addr) (M : Mem) (d : D) (x : V) (v : Value) (g : List D → Mem → R D) (pl : Sem Bool) (Q : Value × List Value → Shared → Prop),
    Inv X pins σ H s → Rel G ρ H M → RepV G ρ M.length H d x → RelV x v → m d M = some g →
    (∀ (f : Value) (first : List Value), Cle X f → (∀ (s2 : Shared) (H2 : Hp) (ρ2 : Nat → Addr) (M2 : Mem) (us : List Value) (vs : List V) (ds : List D) (Q2 : VK), Inv X pins σ H2 s2 → Grow G ρ M.length H ρ2 M2.length H2 → Rel G ρ2 H2 M2 → Vals vs us → RepL G ρ2 M2.length H2 ds vs →
        PostR G W σ ρ2 M2.length H2 (GV G Q2) (g ds M2) → wpAny (model X.prog X.w) X.A (call f (first ++ us)) (EP X pins σ Q2) X.xe s2) → Q (f, first) s) →
    wpAny (model X.prog X.w) X.A (getMethod v name pl) Q X.xe s
def mOr (m n : MetD) : MetD := fun d M => match m d M with
  | some g => some g
  | none => n d M
theorem MetR.or {X : Cx} {G : GC} {W : WX} {name : Str} {m n : MetD} (a : MetR X G W name m) (b : MetR X G W name n) : MetR X G W name (mOr m n) :=
  ⟨fun pins s σ H ρ M d x v g pl Q I r rd rv e q => by
    unfold mOr at e
    split at e
    · rename_i g' e'
      cases e
      exact a.run pins s σ H ρ M d x v _ pl Q I r rd rv e' q
    · exact b.run pins s σ H ρ M d x v g pl Q I r rd rv e q⟩
def dMet (m : MetD) (o : Den) (a : DenL) : Den := fun ev M => (o ev M).bind fun d M1 => match m d M1 with
  | some g => (a ev M1).bind g
  | none => .st
theorem callWith_cle {X : Cx} {pins : List (Addr × Obj)} {σ : St} {H : Hp} {s : Shared} {f : Value} {first : List Value} {e : Expr} {es : List Expr} {pos : Pos} {Q : Value → Shared → Prop} (I : Inv X pins σ H s) (c : Cle X f)
    (he : starEach (e :: es) X.env = (false, eval e X.env) :: starEach es X.env) (hpl : (backTo pos (starEach es X.env)).any (·.1) = false)
    (h : wpAny (model X.prog X.w) X.A (spliced (backTo pos (starEach (e :: es) X.env))) (fun us s1 => X.K.In s1.heap ∧ wpAny (model X.prog X.w) X.A (call f (first ++ us)) Q X.xe s1) X.xe s) :
    wpAny (model X.prog X.w) X.A (callWith pos f first (backTo pos (starEach (e :: es) X.env)) []) Q X.xe s := by
  cases c with
  | blt id =>
    have h2 := thn h fun us s1 q => q.2
    rw [he] at h2 ⊢
    refine Calls.callWith_builtin (by show (false || (backTo pos (starEach es X.env)).any (·.1)) = false; rw [hpl] <;> rfl) (Calls.evalArgs_plain ?_)
    exact h2
  | own a hk => exact PySem.W.callWith_K (h₀ := X.base) I.ok.mod.kin hk h he hpl
theorem callWith_cle0 {X : Cx} {pins : List (Addr × Obj)} {σ : St} {H : Hp} {s : Shared} {f : Value} {first : List Value} {pos : Pos} {Q : Value → Shared → Prop} (I : Inv X pins σ H s) (c : Cle X f)
    (h : wpAny (model X.prog X.w) X.A (call f (first ++ [])) Q X.xe s) :
    wpAny (model X.prog X.w) X.A (callWith pos f first (backTo pos (starEach [] X.env)) []) Q X.xe s := by
  cases c with
  | blt id => exact Calls.callWith_builtin rfl (PySem.evalArgs_none h)
  | own a hk => exact PySem.W.callWith_K0 I.kIn hk h
section
variable {X : Cx} {G : GC} {W : WX} {o e : Expr} {es : List Expr} {fo : Den} {fl : DenL} {name : Str} {m : MetD} {apos pos : Pos}
theorem i_met {pl : Sem Bool} (hm : MetR X G W name m) (ho : PE X o (tI X G W fo)) (ha : PA X (e :: es) (tL X G W fl))
    (he : starEach (e :: es) X.env = (false, eval e X.env) :: starEach es X.env) (hpl : (backTo pos (starEach es X.env)).any (·.1) = false)
    (ht : eval (.Call (.Attribute o name apos) (e :: es) [] pos) X.env = (do
      let ov ← eval o X.env
      standAt apos.atName
      let (f, first) ← holding [ov] (getMethod ov name pl)
      callWith pos f first (backTo pos (starEach (e :: es) X.env)) (backToKw pos (keywordEach [] X.env)))) :
    PE X (.Call (.Attribute o name apos) (e :: es) [] pos) (tI X G W (dMet m fo fl)) := by
  refine ⟨fun pins s σ H Q I h => ?_⟩
  obtain ⟨ρ, M, ev, r, er, p⟩ := h
  have q : tI X G W fo σ H fun x H1 => ∃ ρ1 M1 d, Rel G ρ1 H1 M1 ∧ RepV G ρ1 M1.length H1 d x ∧ RepE X G ρ1 M1.length H1 σ ev ∧ ∃ g, m d M1 = some g ∧ PostR G W σ ρ1 M1.length H1 (GV G Q) ((fl ev M1).bind g) :=
    ⟨ρ, M, ev, r, er, p.step fun d M1 ρ1 H1 _ g1 r1 p1 v rv => by
      split at p1
      · rename_i g eg
        exact ⟨ρ1, M1, d, r1, rv, er.grow g1, g, eg, p1⟩
      · exact p1.elim⟩
  refine PySem.W.methodCall_KW (pl := pl) (thn (ho.run pins s σ H _ I q) fun u s1 ⟨x, H1, I1, rx, ρ1, M1, d, r1, rv, er1, g, eg, p1⟩ => ?_) ht
  refine hm.run pins s1 σ H1 ρ1 M1 d x u g pl _ I1 r1 rv rx eg fun f first c hc => ?_
  refine callWith_cle I1 c he hpl ?_
  have q2 : tL X G W fl σ H1 fun vs H2 => ∃ ρ2 M2 ds, Grow G ρ1 M1.length H1 ρ2 M2.length H2 ∧ Rel G ρ2 H2 M2 ∧ RepL G ρ2 M2.length H2 ds vs ∧ PostR G W σ ρ2 M2.length H2 (GV G Q) (g ds M2) :=
    ⟨ρ1, M1, ev, r1, er1, p1.step fun ds M2 ρ2 H2 _ g2 r2 p2 vs rl => ⟨ρ2, M2, ds, g2, r2, rl, p2⟩⟩
  exact thn (ha.run pos pins s1 σ H1 _ I1 q2) fun us s2 ⟨vs, H2, I2, rvs, ρ2, M2, ds, g2, r2, rl, p2⟩ => ⟨I2.kIn, hc s2 H2 ρ2 M2 us vs ds Q I2 g2 r2 rvs rl p2⟩
theorem i_met0 {pl : Sem Bool} (hm : MetR X G W name m) (ho : PE X o (tI X G W fo))
    (ht : eval (.Call (.Attribute o name apos) [] [] pos) X.env = (do
      let ov ← eval o X.env
      standAt apos.atName
      let (f, first) ← holding [ov] (getMethod ov name pl)
      callWith pos f first (backTo pos (starEach [] X.env)) (backToKw pos (keywordEach [] X.env)))) :
    PE X (.Call (.Attribute o name apos) [] [] pos) (tI X G W (dMet m fo dNil)) := by
  refine ⟨fun pins s σ H Q I h => ?_⟩
  obtain ⟨ρ, M, ev, r, er, p⟩ := h
  have q : tI X G W fo σ H fun x H1 => ∃ ρ1 M1 d, Rel G ρ1 H1 M1 ∧ RepV G ρ1 M1.length H1 d x ∧ ∃ g, m d M1 = some g ∧ PostR G W σ ρ1 M1.length H1 (GV G Q) (g [] M1) :=
    ⟨ρ, M, ev, r, er, p.step fun d M1 ρ1 H1 _ g1 r1 p1 v rv => by
      split at p1
      · rename_i g eg
        exact ⟨ρ1, M1, d, r1, rv, g, eg, p1⟩
      · exact p1.elim⟩
  refine PySem.W.methodCall_KW (pl := pl) (thn (ho.run pins s σ H _ I q) fun u s1 ⟨x, H1, I1, rx, ρ1, M1, d, r1, rv, g, eg, p1⟩ => ?_) ht
  refine hm.run pins s1 σ H1 ρ1 M1 d x u g pl _ I1 r1 rv rx eg fun f first c hc => ?_
  exact callWith_cle0 I1 c (hc s1 H1 ρ1 M1 [] [] [] Q I1 .refl r1 .nil .nil p1)
end
/-! built-in methods -/
/-- by a table of one type -/
def mL (f : D → OpN) : MetD := fun d M => match d with
  | .ref n => match M[n]? with
    | some (.lst _) => some fun ds M2 => R.of (f d ds M2)
    | some (.rls _) => some fun ds M2 => R.of (f d ds M2)
    | _ => none
  | _ => none
def mT (f : D → OpN) : MetD := fun d M => match d with
  | .tup _ => some fun ds M2 => R.of (f d ds M2)
  | _ => none
def mS (f : D → OpN) : MetD := fun d M => match d with
  | .str _ => some fun ds M2 => R.of (f d ds M2)
  | _ => none
section
variable {X : Cx} {G : GC} {W : WX} {name : Str} {f : D → OpN} {id : String}
theorem tupObj {pins : List (Addr × Obj)} {σ : St} {H : Hp} {s : Shared} (I : Inv X pins σ H s) {a : Addr} {vs : List V} (t : TupAt X.K H a vs) :
    ∃ (its : List Value) (n : Nat) (sl : Array (Option Value)), Vals vs its ∧ s.heap.get? a = some { cls := .type "tuple", dict := none, data := .seq its.toArray n, slots := sl } ∧ vs.length ≤ sizeLine := by
  rcases t with ⟨o, hd, h⟩ | ⟨o, its, n, hd, ho, hc, hdt, hz, hv⟩
  · obtain ⟨ho, hz, its, rv, o2, e2, c2, n, d2⟩ := I.hok a _ h
    rw [ho] at e2
    cases e2
    obtain ⟨cls, dd, data, sl⟩ := o
    simp only at hd c2 d2
    subst hd c2 d2
    exact ⟨its, n, sl, rv, ho, hz⟩
  · obtain ⟨cls, dd, data, sl⟩ := o
    simp only at hd hc hdt
    subst hd hc hdt
    refine ⟨its.toList, n, sl, hv, ?_, by rw [hv.length]; exact hz⟩
    rw [show its.toList.toArray = its from by simp]
    exact I.kIn _ _ ho
theorem met_of (hK : G.K = X.K) {m : MetD} {T : String} (pa : PlainAttrs T) (slot : Slot T name id) (hty : typeOf (.builtin id) = pure (.type "method_descriptor")) (hf : MtR X id (rdm G f))
    (hm : ∀ d M g, m d M = some g → g = fun ds M2 => R.of (f d ds M2))
    (hT : ∀ (pins : List (Addr × Obj)) (s : Shared) (σ : St) (H : Hp) (ρ : Nat → Addr) (M : Mem) (d : D) (x : V) (v : Value) (g : List D → Mem → R D), Inv X pins σ H s → Rel G ρ H M → RepV G ρ M.length H d x → RelV x v → m d M = some g →
      s.TypeIs v T ∧ ∀ a, v = .ref a → ∃ ob, s.heap.get? a = some ob ∧ ob.dict = none) : MetR X G W name m :=
  ⟨fun pins s σ H ρ M d x v g pl Q I r rd rv e q => by
    obtain ⟨h1, h2⟩ := hT pins s σ H ρ M d x v g I r rd rv e
    have hg := hm d M g e
    subst hg
    refine getMethod_builtin h1 pa slot hty h2 (q _ _ (.blt id) fun s2 H2 ρ2 M2 us vs ds Q2 I2 g2 r2 rvs rl p => ?_)
    exact hf pins s2 σ H2 x vs v us Q2 I2 rv rvs ⟨ρ2, M2, d, ds, r2, rd.grow g2, rl, .of p⟩⟩
theorem met_L (hK : G.K = X.K) (slot : Slot "list" name id) (hty : typeOf (.builtin id) = pure (.type "method_descriptor")) (hf : MtR X id (rdm G f)) : MetR X G W name (mL f) := by
  refine met_of hK F.plainAttrs_list slot hty hf (fun d M g e => ?_) fun pins s σ H ρ M d x v g I r rd rv e => ?_
  · unfold mL at e
    split at e
    · split at e <;> cases e <;> rfl
    · cases e
  · unfold mL at e
    split at e
    · rename_i n
      obtain ⟨hn, rfl⟩ := rd.ref'
      cases rv
      have go : ∀ xs, getL M n = some xs → s.TypeIs (.ref (ρ n)) "list" ∧ ∀ a, Value.ref (ρ n) = .ref a → ∃ ob, s.heap.get? a = some ob ∧ ob.dict = none := fun xs hg => by
        obtain ⟨vs, hq, rl⟩ := rel_getL r hg
        rw [hK] at hq
        obtain ⟨its, _, ⟨o, n', ho, hc, hdn, hd⟩, _⟩ := I.list hq
        exact ⟨⟨o, ho, hc⟩, fun a ea => by cases ea; exact ⟨o, ho, hdn⟩⟩
      split at e
      · rename_i xs em; exact go xs (by unfold getL; rw [em])
      · rename_i xs em; exact go xs (by unfold getL; rw [em])
      · cases e
    · cases e
theorem met_T (hK : G.K = X.K) (slot : Slot "tuple" name id) (hty : typeOf (.builtin id) = pure (.type "method_descriptor")) (hf : MtR X id (rdm G f)) : MetR X G W name (mT f) := by
  refine met_of hK F.plainAttrs_tuple slot hty hf (fun d M g e => ?_) fun pins s σ H ρ M d x v g I r rd rv e => ?_
  · unfold mT at e
    split at e <;> cases e
    rfl
  · unfold mT at e
    split at e
    · rename_i xs
      obtain ⟨a, vs, rfl, ta, rl⟩ := rd.tup'
      cases rv
      rw [hK] at ta
      obtain ⟨its, n, sl, _, ho, _⟩ := tupObj I ta
      exact ⟨⟨_, ho, rfl⟩, fun b eb => by cases eb; exact ⟨_, ho, rfl⟩⟩
    · cases e
theorem met_S (hK : G.K = X.K) (slot : Slot "str" name id) (hty : typeOf (.builtin id) = pure (.type "method_descriptor")) (hf : MtR X id (rdm G f)) : MetR X G W name (mS f) := by
  refine met_of hK F.plainAttrs_str slot hty hf (fun d M g e => ?_) fun pins s σ H ρ M d x v g I r rd rv e => ?_
  · unfold mS at e
    split at e <;> cases e
    rfl
  · unfold mS at e
    split at e
    · rename_i xs
      have := rd.str'
      subst this
      obtain ⟨t, rfl⟩ := rv
      exact ⟨typeIs_str _ _ _, fun b eb => by cases eb⟩
    · cases e
/-! list methods -/
def wrL (n : Nat) (xs : List D) (M : Mem) : Mem := M.set n (.lst xs)
theorem PostO.wr {ρ : Nat → Addr} {H : Hp} {M : Mem} {Q : VK} {n : Nat} {xs : List D} {vs : List V} {d : D} {v : V} (p : PostO G ρ M.length H Q (some (d, wrL n xs M))) (r : Rel G ρ H M) (hn : n < M.length) (rl : RepL G ρ M.length H xs vs) (rd : RepV G ρ M.length H d v) :
    Q v (upd H (ρ n) (.lst vs)) := by
  have gw := r.grow_write (o := .lst vs) hn
  have hl : (wrL n xs M).length = M.length := by simp [wrL]
  have rW : Rel G ρ (upd H (ρ n) (.lst vs)) (wrL n xs M) := r.write hn ⟨_, upd_same, rl.grow gw⟩
  exact p ρ v _ (hl.symm ▸ gw) rW (hl.symm ▸ rd.grow gw)
def nAppend (d : D) : OpN := fun ds M => match d, ds with
  | .ref n, [y] => match M[n]? with
    | some (.lst xs) => if xs.length < lim then some (.non, wrL n (xs ++ [y]) M) else none
    | _ => none
  | _, _ => none
theorem m_append : MtR X "list.append" (rdm G nAppend) := fun pins s σ H x xs v us Q I rx rxs ⟨ρ, M, d, ds, r, rd, rl, p⟩ => by
  unfold nAppend at p
  split at p
  · rename_i n y
    split at p
    · rename_i ys em
      split at p
      · rename_i hz
        obtain ⟨hn, rfl⟩ := rd.ref'
        obtain ⟨vs, hq, rv⟩ := rel_lst r em
        simp only [RepL] at rl
        obtain ⟨w, t, rfl, rw1, rfl⟩ := rl
        exact mt_append pins s σ H _ _ v us Q I rx rxs ⟨ρ n, vs, w, rfl, rfl, hq, by rw [rv.length, ← lim_eq]; exact hz, p.wr r hn (rv.append (.one rw1)) (by simp only [RepV])⟩
      · exact p.elim
    · exact p.elim
  · exact p.elim
def nPop (d : D) : OpN := fun ds M => match d with
  | .ref n => match M[n]? with
    | some (.lst xs) => match ds with
      | [] => match xs[xs.length - 1]? with
        | some y => some (y, wrL n xs.dropLast M)
        | none => none
      | [.int i] => if -(2 ^ 63) ≤ i ∧ i < 2 ^ 63 then (match seqIndex? i xs.length with
        | some k => match xs[k]? with
          | some y => some (y, wrL n (xs.eraseIdx k) M)
          | none => none
        | none => none) else none
      | _ => none
    | _ => none
  | _ => none
theorem RepL.dropLast {ρ : Nat → Addr} {N : Nat} {H : Hp} {ds : List D} {vs : List V} (h : RepL G ρ N H ds vs) : RepL G ρ N H ds.dropLast vs.dropLast := by
  rw [List.dropLast_eq_take, List.dropLast_eq_take, h.length]
  exact h.take _
theorem RepL.eraseIdx {ρ : Nat → Addr} {N : Nat} {H : Hp} : ∀ {ds : List D} {vs : List V} (k : Nat), RepL G ρ N H ds vs → RepL G ρ N H (ds.eraseIdx k) (vs.eraseIdx k)
  | [], _, k, h => by simp only [RepL] at h; subst h; exact .nil
  | d :: ds, _, 0, h => by
    simp only [RepL] at h
    obtain ⟨v, r, rfl, h1, h2⟩ := h
    exact h2
  | d :: ds, _, k + 1, h => by
    simp only [RepL] at h
    obtain ⟨v, r, rfl, h1, h2⟩ := h
    exact .cons h1 (RepL.eraseIdx k h2)
theorem m_pop : MtR X "list.pop" (rdm G nPop) := fun pins s σ H x xs v us Q I rx rxs ⟨ρ, M, d, ds, r, rd, rl, p⟩ => by
  unfold nPop at p
  split at p
  · rename_i n
    split at p
    · rename_i ys em
      obtain ⟨hn, rfl⟩ := rd.ref'
      obtain ⟨vs, hq, rv⟩ := rel_lst r em
      split at p
      · split at p
        · rename_i y ey
          simp only [RepL] at rl
          subst rl
          obtain ⟨w, hw, rw1⟩ := rv.get ey
          exact mt_pop pins s σ H _ _ v us Q I rx rxs ⟨ρ n, vs, w, rfl, rfl, hq, by rw [rv.length]; exact hw, p.wr r hn rv.dropLast rw1⟩
        · exact p.elim
      · rename_i i
        split at p
        · rename_i hi
          split at p
          · rename_i k ek
            split at p
            · rename_i y ey
              simp only [RepL] at rl
              obtain ⟨w0, t, rfl, rw0, rfl⟩ := rl
              have := rw0.int'
              subst this
              obtain ⟨w, hw, rw1⟩ := rv.get ey
              exact mt_popAt pins s σ H _ _ v us Q I rx rxs ⟨ρ n, vs, i, k, w, rfl, rfl, hq, hi.1, hi.2, by rw [rv.length]; exact ek, hw, p.wr r hn (rv.eraseIdx k) rw1⟩
            · exact p.elim
          · exact p.elim
        · exact p.elim
      · exact p.elim
    · exact p.elim
  · exact p.elim
/-! count, at flat items -/
theorem countP_eqU {x : V} : ∀ {xs : List V} {us : List Value}, Vals xs us → xs.all flatV = true → us.countP (eqU x) = xs.countP fun y => eqV y x
  | _, _, .nil, _ => rfl
  | y :: xs, u :: us, .cons r t, f => by
    rw [List.all_cons, Bool.and_eq_true] at f
    rw [List.countP_cons, List.countP_cons, eqU_of r f.1, countP_eqU t f.2]
theorem countP_rep {ρ : Nat → Addr} {N : Nat} {H : Hp} {x : D} {w : V} (rx : RepV G ρ N H x w) (fx : flatD x = true) : ∀ {ds : List D} {vs : List V}, RepL G ρ N H ds vs → ds.all flatD = true → (vs.countP fun y => eqV y w) = ds.countP fun z => eqFlat z x
  | [], vs, r, _ => by simp only [RepL] at r; subst r; rfl
  | d :: ds, vs, r, f => by
    simp only [RepL] at r
    obtain ⟨v, t, rfl, r1, r2⟩ := r
    rw [List.all_cons, Bool.and_eq_true] at f
    rw [List.countP_cons, List.countP_cons, countP_rep rx fx r2 f.2, eqFlat_rep r1 rx f.1 fx]
def nCount (d : D) : OpN := fun ds M => match ds with
  | [x] => match seqOf d M with
    | some xs => if flatD x && xs.all flatD then some (.int (xs.countP fun z => eqFlat z x : Nat), M) else none
    | none => none
  | _ => none
def nCountT (d : D) : OpN := fun ds M => match d with
    | .tup _ => nCount d ds M
    | _ => none
theorem m_countT (hK : G.K = X.K) : MtR X "tuple.count" (rdm G nCountT) := fun pins s σ H x xs v us Q I rx rxs ⟨ρ, M, d, ds, r, rd, rl, p⟩ => by
  unfold nCountT at p
  split at p
  · rename_i ys
    unfold nCount at p
    split at p
    · rename_i z
      simp only [seqOf] at p
      split at p
      · rename_i hf
        rw [Bool.and_eq_true] at hf
        obtain ⟨a, vs, rfl, ta, rv⟩ := rd.tup'
        rw [hK] at ta
        obtain ⟨its, n, sl, hv, ho, hz⟩ := tupObj I ta
        cases rx
        simp only [RepL] at rl
        obtain ⟨w, t, rfl, rw1, rfl⟩ := rl
        obtain ⟨u, rfl, ru⟩ := rxs.one
        have q := p.int r
        have fv := flat_repL rv hf.2
        have fw := flat_rep rw1 hf.1
        rw [← countP_rep rw1 hf.1 rv hf.2, ← countP_eqU hv fv] at q
        refine call_meets PySem.F.slot_tuple_count ⟨_, ho, rfl⟩ PySem.F.entry_tuple_count (PySem.F.args_tuple_count_2 _ _) (SeqAt.tuple_countAt a its.toArray n none sl u (eqU w)) ⟨ho, fun y hy => mem_eqAt ru fw hv fv y (by simpa using hy), ?_⟩
        exact ⟨V.int ((its.countP (eqU w) : Nat) : Int), H, I.tok _, ⟨s.toks, rfl⟩, q⟩
      · exact p.elim
    · exact p.elim
  · exact p.elim
end
/-! x[i] = v -/
def nSetIx (d i y : D) (M : Mem) : Option Mem := match d, i with
  | .ref n, .int k => match M[n]? with
    | some (.lst xs) => (ixN xs.length k).map fun j => wrL n (xs.set j y) M
    | _ => none
  | _, _ => none
/-- a store by deep values -/
def rdS (G : GC) (f : D → D → D → Mem → Option Mem) : TSet := fun o i v H Q => ∃ ρ M d e y, Rel G ρ H M ∧ RepV G ρ M.length H d o ∧ RepV G ρ M.length H e i ∧ RepV G ρ M.length H y v ∧ ∃ M', f d e y M = some M' ∧
  ∀ ρ' H', Grow G ρ M.length H ρ' M'.length H' → Rel G ρ' H' M' → Q H'
def sSetIx (fs : D → D → D → Mem → Option Mem) (fo fi fv : Den) : DenS := fun ev M => (fv ev M).bindO ev fun y M1 => (fo ev M1).bindO ev fun d M2 => (fi ev M2).bindO ev fun i M3 => match fs d i y M3 with
  | some M4 => .nx ev M4
  | none => .st
section
variable {X : Cx} {G : GC} {W : WX} {o i e : Expr} {fo fi fe : Den} {pos p : Pos}
theorem set_ix : PSet X (rdS G nSetIx) := fun pins s σ H o i v ov iv u Q I ro ri rv ⟨ρ, M, d, e, y, r, rd, re, ry, M', em, q⟩ => by
  unfold nSetIx at em
  split at em
  · rename_i n k
    split at em
    · rename_i xs ex
      cases ej : ixN xs.length k with
      | none => rw [ej] at em; cases em
      | some j =>
        rw [ej] at em
        cases em
        obtain ⟨hn, rfl⟩ := rd.ref'
        have := re.int'
        subst this
        obtain ⟨vs, hq, rl⟩ := rel_lst r ex
        have gw := r.grow_write (o := .lst (vs.set j v)) hn
        have hl : (wrL n (xs.set j y) M).length = M.length := by simp [wrL]
        refine set_list pins s σ H _ _ _ ov iv u Q I ro ri rv ⟨ρ n, vs, k, j, rfl, rfl, hq, by rw [rl.length]; exact ej, q ρ _ (hl.symm ▸ gw) ?_⟩
        exact r.write hn ⟨_, upd_same, (RepL.set ry j rl).grow gw⟩
    · cases em
  · cases em
theorem s_setIx {f : D → D → D → Mem → Option Mem} (hS : PSet X (rdS G f)) (he : PE X e (tI X G W fe)) (ho : PE X o (tI X G W fo)) (hi : PE X i (tI X G W fi)) (hs : swapsWithSole [.Subscript o i p] e pos.line X.env = pure false) (hw : swappedStores [.Subscript o i p] e X.env = pure none)
    (h1 : (assignEach [.Subscript o i p] X.env).map (·.2) = [assign (.Subscript o i p) X.env])
    (ha : ∀ v, assign (.Subscript o i p) X.env v = (do
      let ov ← holding [v] (eval o X.env)
      let iv ← holding [v, ov] (eval i X.env)
      standAt p
      holding [v, ov, iv] (setItem ov iv v)
      release [v, ov, iv] [])) : PS X (.Assign [.Subscript o i p] e pos) (tS X G W (sSetIx f fo fi fe)) := by
  refine PS.imp (ps_asg he (pg_sub ho hi hS ha) hs hw h1) fun T σ H ⟨ρ, M, ev, r, er, p⟩ => ⟨ρ, M, ev, r, er, p.stepR er fun y M1 ρ1 H1 _ g1 r1 p1 v rv => ?_⟩
  have er1 := er.grow g1
  refine ⟨ρ1, M1, ev, r1, er1, p1.stepR er1 fun d M2 ρ2 H2 _ g2 r2 p2 x rx => ?_⟩
  have er2 := er1.grow g2
  refine ⟨ρ2, M2, ev, r2, er2, p2.stepR er2 fun k M3 ρ3 H3 _ g3 r3 p3 z rz => ?_⟩
  cases em : f d k y M3 with
  | none => rw [em] at p3; exact p3.elim
  | some M4 =>
    rw [em] at p3
    exact ⟨ρ3, M3, d, k, y, r3, rx.grow g3, rz, (rv.grow g2).grow g3, M4, em, fun ρ4 H4 g4 r4 => p3 ρ4 σ H4 g4 r4 ((er2.grow g3).grow g4)⟩
end
end MI

set_option Elab.async false
set_option linter.all false
set_option maxRecDepth 100000
set_option maxHeartbeats 2000000
namespace MI
open PySem PySem.Spec PyProof.Rows L2
/-! an own exception's __init__: super().__init__('text'), then fields -/
theorem zip_sub : ∀ (P : List Str) (us : List Value), List.Sublist ((P.zip us).map (·.1)) P
  | [], _ => by simp
  | _ :: _, [] => by simp
  | p :: P, u :: us => by
    rw [List.zip_cons_cons, List.map_cons]
    exact (zip_sub P us).cons_cons p
theorem lookup_rev {us : List Value} : ∀ {P : List Str} {i : Nat} {x : Str} {u : Value}, P.Nodup → P[i]? = some x → us[i]? = some u → (P.zip us).reverse.lookup x = some u := by
  have key : ∀ (l : List (Str × Value)) (x : Str) (u : Value), (l.map (·.1)).Nodup → (x, u) ∈ l → l.lookup x = some u := by
    intro l
    induction l with
    | nil => intro x u _ h; cases h
    | cons p l ih =>
      intro x u nd h
      obtain ⟨a, b⟩ := p
      simp only [List.map_cons, List.nodup_cons] at nd
      rcases List.mem_cons.mp h with e | h
      · cases e; simp [List.lookup]
      · have hne : x ≠ a := fun e => nd.1 (by rw [← e]; exact List.mem_map_of_mem (f := (·.1)) h)
        have : (x == a) = false := by simpa using hne
        simp only [List.lookup, this]
        exact ih x u nd.2 h
  intro P i x u nd h1 h2
  refine key _ x u ?_ ?_
  · rw [List.map_reverse]
    refine List.pairwise_reverse.mpr (List.Pairwise.imp (R := (· ≠ ·)) (fun h => Ne.symm h) ?_)
    exact nd.sublist (zip_sub P us)
  · rw [List.mem_reverse]
    have : (P.zip us)[i]? = some (x, u) := by
      rw [List.getElem?_zip_eq_some]
      exact ⟨h1, h2⟩
    exact List.mem_of_getElem? this
section
variable {P : Program} {w : World} {K : PySem.W.Frag} {mg : Str → Option Value} {base : Heap} {N ps : List Str} {qual : Str} {scope : Scope} {f cc : Addr} {cd : Value} {A : Around} {outer : List PySem.Env} {s s1 : Shared} {H : Hp} {E : XK} {us : List Value} {vs : List V} {k : Nat}
/-- the context of an __init__ that closes over __class__ -/
def cxX (P : Program) (w : World) (K : PySem.W.Frag) (mg : Str → Option Value) (base : Heap) (N : List Str) (env : PySem.Env) (A : Around) (outer : List PySem.Env) (s : Shared) (H : Hp) (E : XK) : Cx where
  prog := P
  w := w
  K := K
  mg := mg
  base := base
  A := A.deeper env
  N := N
  s_0 := s
  H_0 := H
  env := env
  outer := outer
  stack := env :: outer
  ex := []
  calm := true
  fn := fun _ => false
  pn := []
  xe := fun e s' => wpAny (model P w) (A.deeper env) (leaving env e) (fun _ s'' => L2.CX P w outer H s E e s'') (fun e' s'' => L2.CX P w outer H s E e' s'') s'
/-- the scope: parameters, the class, names of the module -/
structure InScope (N : List Str) (sc : Scope) : Prop where
  kind : sc.kind = .function
  co : sc.isCoroutine = false
  gen : sc.isGenerator = false
  nd : N.Nodup
  par : ∀ x ∈ N, sc.names.lookup x = some .local
  nocell : ∀ y ∈ sc.names, y.2 ≠ .cell
  free : ∀ x, sc.names.lookup x = some .free → x = "__class__"
  cls : sc.names.lookup ("__class__" : Str) = some .free
  sup : sc.names.lookup ("super" : Str) = some .globalImplicit
theorem inv_X (S : InScope N scope) (hd : A.handled = none) (e0 : Env0 P w K mg base A outer s H) (hl : vs.length = N.length) (r : Vals vs us) {ocl : Obj} {cv : Option Value} (hcc : K.lookup cc = some ocl) (hcd : ocl.data = .cell cv)
    {h₁ : Heap} {tk : Nat} (hns : h₁.Ns s.heap.objs.size (fun x => (N.zip us).reverse.lookup x)) (hk : ∀ b o, s.heap.get? b = some o → h₁.get? b = some o) :
    Inv (cxX P w K mg base N (PySem.W.ksEnv qual scope s.heap.objs.size f cd cc) A outer s H E) [] (L2.start N vs) H { s with heap := h₁, toks := tk } := by
  have noA : ∀ b : Addr, b ∉ (cxX P w K mg base N (PySem.W.ksEnv qual scope s.heap.objs.size f cd cc) A outer s H E).ex := fun b z => absurd (show b ∈ ([] : List Addr) from z) (by simp)
  have hb := e0.mod.kin _ _ hcc
  have cl : ∀ {x : Str} {c : Addr}, [(("__class__" : Str), cc)].lookup x = some c → x = "__class__" ∧ c = cc := fun {x c} h => by
    by_cases hx : x = "__class__"
    · subst hx
      simp [List.lookup] at h
      exact ⟨rfl, h.symm⟩
    · have hx' : (x == ("__class__" : Str)) = false := by simpa using hx
      simp [List.lookup, hx'] at h
  refine ⟨⟨e0.mod, S.kind, rfl, rfl, Nat.le_refl _, fun y z c h1 h2 => ?_, fun y hy => ?_, fun y c hf _ => absurd (show false = true from hf) Bool.false_ne_true, fun _ => hd, Around.frames_deeper e0.frames, .inr ⟨rfl, rfl⟩, fun b z => absurd z (noA b), e0.bs, e0.bsz, fun b _ _ => noA b, fun b z => absurd z (noA b), e0.funs, e0.frf⟩,
    rfl, e0.bare, Un.kept hk, ⟨_, hns, fun i y v h1 h2 h3 => ?_⟩, fun y c h => ?_, e0.hok.fresh (Nat.le_refl _), fun y c h => ?_, fun p hp => absurd (show p ∈ ([] : List (Addr × Obj)) from hp) (by simp), e0.hok.kept hk, ?_⟩
  · rw [(cl h1).1, (cl h2).1]
  · have hy : scope.names.lookup y = some .cell ∨ scope.names.lookup y = some .free := hy
    rcases hy with hy | hy
    · exact absurd rfl (S.nocell _ (PySem.mem_of_lookup hy))
    · have := S.free y hy
      subst this
      exact ⟨cc, by simp [PySem.W.ksEnv, cxX, List.lookup]⟩
  · have hi : i < vs.length := by
      unfold L2.start at h2
      by_cases hi : i < vs.length
      · exact hi
      · rw [List.getElem?_append_right (by simpa using hi)] at h2
        rw [List.getElem?_replicate] at h2
        split at h2 <;> cases h2
    have ha : vs[i]? = some v := by
      unfold L2.start at h2
      rw [List.getElem?_append_left (by simpa using hi), List.getElem?_map] at h2
      cases e : vs[i]? with
      | none => rw [e] at h2; cases h2
      | some a => rw [e] at h2; cases h2; rfl
    obtain ⟨u, hu, rv⟩ := r.get ha
    have h1' : N[i]? = some y := h1
    exact ⟨u, rv, .inl ⟨S.par y (List.mem_of_getElem? h1'), lookup_rev S.nd h1' hu⟩⟩
  · obtain ⟨_, rfl⟩ := cl h
    exact ⟨cv, ocl, hk _ _ (e0.bs _ _ hb).1, hcd⟩
  · obtain ⟨_, rfl⟩ := cl h
    exact (e0.bs _ _ hb).2
  · unfold L2.start
    show _ = N.length
    rw [List.length_append, List.length_map, List.length_replicate]
    omega
/-- the statements self.f = x, x the i-th parameter behind self -/
inductive FSt (N : List Str) (self : Str) (env : PySem.Env) : List Stmt → List (Str × Nat) → Prop where
  | nil : FSt N self env [] []
  | cons {x fn : Str} {i : Nat} {p1 p2 p3 pos : Pos} {r : List Stmt} {l : List (Str × Nat)} (hx : N[i + 1]? = some x) (hv : env.scope.names.lookup x = some .local) (h1 : (x == ("__debug__" : Str)) = false) (h2 : (x == ("__classdict__" : Str)) = false)
      (hs : swapsWith (.Name x p3) (some (.Attribute (.Name self p1) fn p2)) pos.line env = pure false) (t : FSt N self env r l) : FSt N self env (.Assign [.Attribute (.Name self p1) fn p2] (.Name x p3) pos :: r) ((fn, i) :: l)
def mkF {α : Type} (z : α) (ys : List α) : List (Str × Nat) → List (Str × α) → List (Str × α)
  | [], acc => acc
  | (f, i) :: l, acc => mkF z ys l ((f, ys.getD i z) :: acc)
structure FI (H : Hp) (a C d : Addr) (fs : List (Str × V)) (H2 : Hp) : Prop where
  at_ : H2 a = some (exo a C (some d))
  dict : H2 d = some (exd d fs)
  same : ∀ b, b ≠ a → b ≠ d → H2 b = H b
  ne : d ≠ a
  fr : H d = none
theorem fields_more {X : Cx} {self : Str} {C : Addr} (T : OexC X.K C) (hN : X.N[0]? = some self) (hv : X.env.scope.names.lookup self = some .local) (h1 : (self == ("__debug__" : Str)) = false) (h2 : (self == ("__classdict__" : Str)) = false) :
    ∀ {st : List Stmt} {l : List (Str × Nat)}, FSt X.N self X.env st l → (∀ q ∈ l, PySem.W.findIn X.K (.ref C) q.1 = some none) →
    ∃ t, PSs X st t ∧ ∀ (D : Ends) (σ : St) (ys : List V) (H : Hp) (a d : Addr) (fs : List (Str × V)) (H2 : Hp), σ[0]? = some (some (.ref a)) → (∀ i v, ys[i]? = some v → σ[i + 1]? = some (some v)) → (∀ q ∈ l, q.2 < ys.length) → FI H a C d fs H2 → fs.length + l.length ≤ 900 →
      (∀ H3, FI H a C d (mkF .non ys l fs) H3 → D.nx σ H3) → t D σ H2
  | _, _, .nil, _ => ⟨_, pss_nil, fun D σ ys H a d fs H2 _ _ _ hF _ q => q H2 hF⟩
  | _, _, .cons hx hvx hd1 hd2 hs t, hno => by
    obtain ⟨t2, p2, q2⟩ := fields_more T hN hv h1 h2 t fun q hq => hno q (List.mem_cons_of_mem _ hq)
    refine ⟨_, pss_cons (ps_ost (pe_var hN (.inl hv) h1 h2) (pe_var hx (.inl hvx) hd1 hd2) hs) p2, fun D σ ys H a d fs H2 ha hy hi hF hl q => ?_⟩
    rename_i x fn i p1 p2' p3 pos r l
    have hil : i < ys.length := hi (fn, i) List.mem_cons_self
    have e : ys[i]? = some ys[i] := List.getElem?_eq_getElem hil
    refine ⟨ys[i], hy i _ e, .ref a, ha, a, C, rfl, T, hno (fn, i) List.mem_cons_self, .inr ⟨d, fs, hF.at_, hF.dict, ?_, ?_⟩⟩
    · simp only [List.length_cons] at hl; omega
    · refine q2 D σ ys H a d ((fn, ys[i]) :: fs) _ ha hy (fun q hq => hi q (List.mem_cons_of_mem _ hq)) ⟨?_, upd_same, fun b h1 h2 => by rw [upd_ne h2]; exact hF.same b h1 h2, hF.ne, hF.fr⟩ (by simp only [List.length_cons] at hl ⊢; omega) fun H3 h3 => q H3 ?_
      · rw [upd_ne hF.ne.symm]; exact hF.at_
      · have : ys.getD i .non = ys[i] := by rw [List.getD_eq_getElem?_getD, e]; rfl
        unfold mkF
        rw [this]
        exact h3
theorem fields_all {X : Cx} {self : Str} {C : Addr} (T : OexC X.K C) (hN : X.N[0]? = some self) (hv : X.env.scope.names.lookup self = some .local) (h1 : (self == ("__debug__" : Str)) = false) (h2 : (self == ("__classdict__" : Str)) = false)
    {st : List Stmt} {l : List (Str × Nat)} (hl : FSt X.N self X.env st l) (hne : l ≠ []) (hno : ∀ q ∈ l, PySem.W.findIn X.K (.ref C) q.1 = some none) :
    ∃ t, PSs X st t ∧ ∀ (D : Ends) (σ : St) (ys : List V) (H : Hp) (a : Addr), σ[0]? = some (some (.ref a)) → (∀ i v, ys[i]? = some v → σ[i + 1]? = some (some v)) → (∀ q ∈ l, q.2 < ys.length) → H a = some (exo a C none) → l.length ≤ 900 →
      (∀ d H3, FI H a C d (mkF .non ys l []) H3 → D.nx σ H3) → t D σ H := by
  cases hl with
  | nil => exact absurd rfl hne
  | @cons x fn i p1 p2' p3 pos r l hx hvx hd1 hd2 hs t =>
    obtain ⟨t2, p2, q2⟩ := fields_more T hN hv h1 h2 t fun q hq => hno q (List.mem_cons_of_mem _ hq)
    refine ⟨_, pss_cons (ps_ost (pe_var hN (.inl hv) h1 h2) (pe_var hx (.inl hvx) hd1 hd2) hs) p2, fun D σ ys H a ha hy hi hH hlen q => ?_⟩
    have hil : i < ys.length := hi (fn, i) List.mem_cons_self
    have e : ys[i]? = some ys[i] := List.getElem?_eq_getElem hil
    refine ⟨ys[i], hy i _ e, .ref a, ha, a, C, rfl, T, hno (fn, i) List.mem_cons_self, .inl ⟨hH, fun dx hn hne => ?_⟩⟩
    refine q2 D σ ys H a dx [(fn, ys[i])] _ ha hy (fun q hq => hi q (List.mem_cons_of_mem _ hq)) ⟨upd_same, by rw [upd_ne hne]; exact upd_same, fun b h1 h2 => by rw [upd_ne h1, upd_ne h2], hne, hn⟩ (by simp only [List.length_cons, List.length_nil] at hlen ⊢; omega) fun H3 h3 => q dx H3 ?_
    have : ys.getD i .non = ys[i] := by rw [List.getD_eq_getElem?_getD, e]; rfl
    unfold mkF
    rw [this]
    exact h3
/-- what such an __init__ promises -/
def spN (K : PySem.W.Frag) (C : Addr) (n : Nat) (l : List (Str × Nat)) : Sp := fun vs H Q _ => ∃ a ys, vs = .ref a :: ys ∧ ys.length = n ∧ H a = some (exo a C none) ∧ ∀ d H3, FI H a C d (mkF .non ys l []) H3 → Q .non H3

open PySem.W PySem.Calls in
theorem call_mw {X : Cx} {pins : List (Addr × Obj)} {σ : St} {H : Hp} {s : Shared} {a C u : Addr} {rest : List Value} {Q : Value → Shared → Prop} (T : OexC X.K C) (I : Inv X pins σ H s) (e : H a = some (exo a C none)) (hu : s.heap.get? u = some (kxs_mw "ValueError.__init__" a)) (hz : rest.length ≤ sizeLine)
    (h : ∀ s', Inv X pins σ H s' → Q .none s') {A : Around} {E : Value → Shared → Prop} : wpAny (model X.prog X.w) A (call (.ref u) rest) Q E s := by
  obtain ⟨nm, q, N, bs, bm, sn, sub, ab, col, dd, k0, k1, k2, k3, k5, hC, hbm⟩ := T.cls
  have hC' := I.kIn _ _ hC
  obtain ⟨t1, ho⟩ := exo_at I.hok e
  obtain ⟨hp, g, d, t, os⟩ := s
  refine wpAny_call (codeAny_of_tree ?_)
  show wpAny _ A.in1 (callAny (.ref u) ⟨rest, []⟩) _ _ _
  simp only [callAny]
  refine wpAny_bind (wpAny_load hu ?_)
  simp only [kxs_mw, show (Value.type "method-wrapper" == Value.type "method" || Value.type "method-wrapper" == Value.type "builtin_function_or_method" || Value.type "method-wrapper" == Value.type "method-wrapper") = true by decide, if_true]
  refine KFB.if_so (by decide) ?_
  refine wpAny_bind (check_bound_init F.excBase_ValueError.toExcCallFacts hC' ho rfl ?_)
  refine wpAny_bind (wpAny_pure (wpAny_pure ?_))
  refine ⟨plainId_quiet F.excBase_ValueError.init.plain _, codeAny_builtin F.excBase_ValueError.initEntry ?_⟩
  refine exc_init_tree (cls := .ref C) (t0 := t1) (dv := none) (c2 := .none) (c3 := .none) (b4 := .bool false) ho hz fun h' k hx _ => ?_
  have J := I.write (t' := t) (x := a) (e := a) (o := exo a C none) (by rw [e]; exact True.intro) (.inl rfl) k ⟨_, hx⟩ (exo_ok hx)
  have eu : upd H a (exo a C none) = H := by
    funext b
    by_cases hb : b = a
    · rw [hb, upd_same, e]
    · rw [upd_ne hb]
  rw [eu] at J
  exact h _ J
open PySem.W PySem.Calls in
theorem init_fn {P : Program} {w : World} {K : PySem.W.Frag} {mg : Str → Option Value} {base : Heap} {N : List Str} {qual self text file : Str} {scope : Scope} {f cc C D cda : Addr} {l : List (Str × Nat)} {st : List Stmt} {params : Arguments} {dV kV doc pm ct oc : Value} {an od : Option Addr} {osl : Array (Option Value)}
    {p0 p1 p2 p3 p4 p5 : Pos} {kk : Nat} {ar : Arg} {tf : Tok} {vs0 : Array Value} {ocl ccl : Value} {ocd ccd : Option Addr} {csl ccs : Array (Option Value)} {cdD : ClassData} {k : Nat}
    (lk : K.lookup f = some ⟨oc, od, .func (PySem.W.ksFn "__init__" qual params (.Expr (.Call (.Attribute (.Call (.Name "super" p0) [] [] p1) "__init__" p2) [.Constant (.str text) kk p3] [] p4) p5 :: st) scope dV kV doc pm an (.ref cda) ct cc), osl⟩)
    (hcdi : PySem.W.codeIn K (.ref cda) qual = true) (S : InScope N scope) (hN : N[0]? = some self) (hp : (params.posonlyargs ++ params.args).head? = some ar) (har : ar.arg = self)
    (hcode : K.lookup cda = some ⟨ccl, ccd, .fields vs0, ccs⟩) (hvs : vs0[2]? = some (.str file tf)) (hfile : ((P.main.file : Str) == file) = true) (htop : (P.main.scope.names.lookup ("super" : Str)).isSome = false)
    (hcc : K.lookup cc = some ⟨ocl, ocd, .cell (some (.ref D)), csl⟩) (hD : clsIn K D = some cdD) (hsub : mroIn K C (.ref D) = some true) (hsuper : mg "super" = none)
    (hno : nsIn K cStatics "thirdparty.any" = some none) (hmeth : ks_superIn K C D "__init__" = some (some (.builtin "ValueError.__init__"))) (hB : subIn K (.ref C) (.type "ValueError") = some true)
    (T : OexC K C) (hst : ∀ L, FSt N self (PySem.W.ksEnv qual scope L f (.ref cda) cc) st l) (hne : l ≠ []) (hnoA : ∀ q ∈ l, PySem.W.findIn K (.ref C) q.1 = some none) (hi : ∀ q ∈ l, q.2 + 1 < N.length) (hll : l.length ≤ 900)
    (h1 : (self == ("__debug__" : Str)) = false) (h2' : (self == ("__classdict__" : Str)) = false) (hsw : ∀ env : PySem.Env, swapsWith (.Call (.Attribute (.Call (.Name "super" p0) [] [] p1) "__init__" p2) [.Constant (.str text) kk p3] [] p4) none p5.line env = pure false)
    {pl : Addr → Sem Bool} (hcall : ∀ L, eval (.Call (.Attribute (.Call (.Name "super" p0) [] [] p1) "__init__" p2) [.Constant (.str text) kk p3] [] p4) (PySem.W.ksEnv qual scope L f (.ref cda) cc) = (do
      let ov ← attributeBase (.Call (.Name "super" p0) [] [] p1) "__init__" (PySem.W.ksEnv qual scope L f (.ref cda) cc) (eval (.Call (.Name "super" p0) [] [] p1) (PySem.W.ksEnv qual scope L f (.ref cda) cc))
      standAt p2.atName
      let (f', first) ← holding [ov] (getMethod ov "__init__" (pl L))
      callWith p4 f' first (backTo p4 (starEach [.Constant (.str text) kk p3] (PySem.W.ksEnv qual scope L f (.ref cda) cc))) [])) :
    FnOk P w K mg base (L2.CX P w) (k + 1) f (PySem.W.ksFn "__init__" qual params (.Expr (.Call (.Attribute (.Call (.Name "super" p0) [] [] p1) "__init__" p2) [.Constant (.str text) kk p3] [] p4) p5 :: st) scope dV kV doc pm an (.ref cda) ct cc) N
      (fun vs H Q E => vs.length = N.length ∧ spN K C (N.length - 1) l vs H Q E) := by
  refine ⟨fun vs H Q E h => h.1, fun A outer s H args us vs Q E hr e0 hb r hsp => ?_⟩
  obtain ⟨hl, a, ys, rfl, hys, hH, hq⟩ := hsp
  have KX : K.In s.heap := e0.mod.kin.keeps fun b o e => (e0.bs b o e).1
  have lim : s.heap.NoLimit := e0.mod.nolimit.keeps fun b o e => (e0.bs b o e).1
  have hloc : ∀ x ∈ N.zip us, scope.names.lookup x.1 = some .local := fun ⟨n, v⟩ hx => S.par n (List.of_mem_zip hx).1
  refine ks_codeAny_call_defAt (fd := PySem.W.ksFn "__init__" qual params _ scope dV kV doc pm an (.ref cda) ct cc) (binds := N.zip us) hr.depth (KX _ _ lk) rfl lim (codeRec_of KX hcdi) rfl hb S.nocell hloc (fun h₁ hns hk => ?_) S.co S.gen S.kind
  have I0 := inv_X (qual := qual) (f := f) (cd := .ref cda) (E := E) (tk := s.toks + (N.zip us).length) S hr.hd e0 hl r hcc rfl hns hk
  have hX : ∀ {s2 : Shared}, Inv (cxX P w K mg base N (PySem.W.ksEnv qual scope s.heap.objs.size f (.ref cda) cc) A outer s H E) [] (L2.start N (.ref a :: ys)) H s2 → K.In s2.heap := fun I => I.kIn
  refine ks_wpAt_execs_cons ?_
  refine ks_wpAt_Expr_any ?_ I0.quiet (hsw _)
  refine ks_wpAt_MethodCall (pl := pl s.heap.objs.size) ?_ (hcall _)
  obtain ⟨t1, hea⟩ := exo_at I0.hok hH
  obtain ⟨nm, q0, N0, bs, bm, sn, sub, ab, col, dd, k0, k1, k2, k3, k5, hC, hbm⟩ := T.cls
  have X1 := hX I0
  obtain ⟨oD, hD1, hD2⟩ : ∃ oD, h₁.get? D = some oD ∧ oD.data = .cls cdD := by
    unfold clsIn at hD
    split at hD
    · rename_i c d cd' sl ho
      cases hD
      exact ⟨_, X1 _ _ ho, rfl⟩
    · cases hD
  obtain ⟨mb, hmb, hmb2⟩ := e0.mod.blt
  have kb : ∀ b o, base.get? b = some o → h₁.get? b = some o := fun b o e => (I0.bs b o e).1
  have self0 : (N.zip us).reverse.lookup self = some (.ref a) := by
    cases r with
    | cons ra rr =>
      obtain rfl := (show _ = Value.ref a from ra)
      exact lookup_rev S.nd hN rfl
  refine ks_wpAt_super_base (env := PySem.W.ksEnv qual scope s.heap.objs.size f (.ref cda) cc) S.sup S.cls (by decide +kernel) rfl (X1 _ _ lk) rfl hp rfl (X1 _ _ hcode) rfl hvs hfile htop ?_
  refine ks_loadName_global S.kind S.sup (loadGlobal_builtin (env := PySem.W.ksEnv qual scope s.heap.objs.size f (.ref cda) cc) (e0.mod.glob.keeps kb) hsuper (hmb.keeps kb) ((hmb2 _ (by decide +kernel)).trans PyProof.Rows.Boot.«super») ⟨rfl, ?_⟩)
  refine wpAny_loadName_free S.kind S.cls rfl ⟨_, X1 _ _ hcc, rfl⟩ ?_
  rw [har]
  refine wpAny_loadName_local S.kind (S.par self (List.mem_of_getElem? hN)) hns self0 ?_
  refine ks_wpAny_isType_cls hD1 hD2 ⟨rfl, ?_⟩
  refine ks_wpAny_call_super hD1 hD2 hea rfl (fun c e => nomatch e) (looks_mroIn X1 hsub) (fun h2 hso k2 => ?_)
  have I2 := I0.kept (h' := h2) (t' := s.toks + (N.zip us).length) fun b o e => k2 b o e
  have hC2 := hX I2 _ _ hC
  have hcl : PySem.W.clsIn K C = some { name := nm, bases := bs, mro := .ref C :: bm, ns := N0, qualname := q0, hasDict := true, slotNames := sn, subclasses := sub, abstract := ab, collection := col, hasDel := false } := by unfold PySem.W.clsIn; rw [hC] <;> rfl
  have hea2 := k2 _ _ hea
  have hne2 : a ≠ C := fun e => by
    have z := (e0.bs C _ (e0.mod.kin _ _ hC)).2
    rw [← e, hH] at z
    cases z
  have hI2 : Looks (model P w) h2 (isInstance (.ref a) (.type "ValueError")) true := (⟨hea2, rfl, rfl, trivial⟩ : InstAt h2 a _ C none).type.andThen (looks_subIn (hX I2) hB)
  unfold ks_superIn at hmeth
  rw [hcl] at hmeth
  refine kxs_getMethod kxs_ValueError hso (looks_opaque (hX I2) hno) (l₀ := .ref C :: bm) (fun A Q E s k q => wpAny_bind ((looks_clsIn (hX I2) hcl) A _ E s k (wpAny_pure q))) rfl (hX I2) hmeth hI2 hne2 (by decide +kernel) ?_
  have I3 := I2.kept (h' := h2.push (kxs_mw "ValueError.__init__" a)) (t' := s.toks + (N.zip us).length + 1) fun b o e => Heap.get?_push_of_some _ e
  refine kxs_callWith (i := "ValueError.__init__") (x := a) rfl (evalArgs_plain ?_)
  refine spliced_cons (show wpAny _ _ (eval (.Constant (.str text) kk p3) (PySem.W.ksEnv qual scope s.heap.objs.size f (.ref cda) cc)) _ _ _ from Constant_str (spliced_nil ?_))
  have hmw : ((h2.push (kxs_mw "ValueError.__init__" a)).get? h2.objs.size) = some (kxs_mw "ValueError.__init__" a) := Heap.get?_push_size _ rfl
  refine ⟨hmw, ?_⟩
  refine call_mw (X := cxX P w K mg base N (PySem.W.ksEnv qual scope s.heap.objs.size f (.ref cda) cc) A outer s H E) T (I3.tok _) hH hmw (by show 1 ≤ sizeLine; rw [sizeLine_eq]; omega) fun s5 I5 => ?_
  show PySem.wpAt _ _ _ _ _ _ _
  obtain ⟨t, ht, hend⟩ := fields_all (X := cxX P w K mg base N (PySem.W.ksEnv qual scope s.heap.objs.size f (.ref cda) cc) A outer s H E) T hN (S.par self (List.mem_of_getElem? hN)) h1 h2' (hst _) hne hnoA
  refine wpAt_of_wpAny ?_
  refine wpAny_mono (ht.run [] s5 _ H { nx := fun _ H' => Q .non H', rt := Q } I5 (hend _ _ ys H a rfl (fun i v e => ?_) (fun q hq => by have := hi q hq; omega) hH hll fun d H3 h3 => hq d H3 h3)) (fun fl s' hs => ?_) fun e s' hs => hs
  · have hi : i < ys.length := (List.getElem?_eq_some_iff.mp e).1
    unfold L2.start
    rw [List.getElem?_append_left (by simp; omega), List.getElem?_map, List.getElem?_cons_succ, e]
    rfl
  have fin : ∀ {σ' : St} {H' : Hp} {v : V} {u : Value}, Inv (cxX P w K mg base N (PySem.W.ksEnv qual scope s.heap.objs.size f (.ref cda) cc) A outer s H E) [] σ' H' s' → RelV v u → Q v H' → CE outer P w H s Q u s' :=
    fun {σ' H' v u} J rv q => ⟨v, H', J.os, J.bare, J.base, J.hok, rv, q⟩
  cases fl with
  | ret u =>
    obtain ⟨v, σ', H', J, rv, q⟩ := hs
    exact fin J rv q
  | next =>
    obtain ⟨σ', H', J, q⟩ := hs
    exact fin (v := V.non) (u := Value.none) J rfl q
  | brk =>
    obtain ⟨_, _, _, q⟩ := hs
    exact False.elim q
  | cont =>
    obtain ⟨_, _, _, q⟩ := hs
    exact False.elim q
end
end MI

set_option Elab.async false
set_option linter.all false
set_option maxRecDepth 100000
set_option maxHeartbeats 2000000
namespace MI
open PySem PySem.Spec PyProof.Rows L2
/-! raise -/
def sRaise (c : Str) (n : Nat) (l : List (Str × Nat)) (fl : DenL) : DenS := fun ev M => (fl ev M).bindO ev fun ds M1 => if ds.length = n then .ex c (mkF .non ds l []) ev M1 else .st
theorem repF_mk {G : GC} {ρ : Nat → Addr} {N : Nat} {H : Hp} {ds : List D} {vs : List V} (r : RepL G ρ N H ds vs) : ∀ {l : List (Str × Nat)} {as : List (Str × D)} {bs : List (Str × V)}, (∀ q ∈ l, q.2 < ds.length) → RepF G ρ N H as bs → RepF G ρ N H (mkF .non ds l as) (mkF .non vs l bs)
  | [], _, _, _, h => h
  | (f, i) :: l, as, bs, hi, h => by
    unfold mkF
    have hil := hi (f, i) List.mem_cons_self
    obtain ⟨v, hv, rv⟩ := r.get (List.getElem?_eq_getElem hil)
    refine repF_mk r (fun q hq => hi q (List.mem_cons_of_mem _ hq)) ⟨v, bs, ?_, ?_, h⟩
    · rw [List.getD_eq_getElem?_getD, hv]; rfl
    · rw [List.getD_eq_getElem?_getD, List.getElem?_eq_getElem hil]; exact rv
theorem s_raise {X : Cx} {G : GC} {W : WX} {c x : Str} {C fI : Addr} {k : Nat} {fd : FuncData} {N : List Str} {l : List (Str × Nat)} {e : Expr} {es : List Expr} {fl : DenL} {p pos pos2 : Pos} (hc : X.calm = true) (tk : Takes X W) (hC : G.ca c = C)
    (T : OexC X.K C) (iC : PySem.W.findIn X.K (.ref C) "__init__" = some (some (.ref fI))) (tI' : PySem.W.typeIn X.K (.ref fI) = some (.type "function"))
    (F1 : FnOk X.prog X.w X.K X.mg X.base (L2.CX X.prog X.w) k fI fd N (fun vs H Q E => vs.length = N.length ∧ spN X.K C (N.length - 1) l vs H Q E)) (hr : RoomG X.calm (k + 1) X.A) (hN : N.length - 1 + 1 = N.length) (hi : ∀ q ∈ l, q.2 < N.length - 1) (hN9 : N.length ≤ 1000)
    (hb : ∀ us : List Value, us.length = N.length → bindArgs fd ⟨us, []⟩ = pure (N.zip us)) (hg : Gl X x) (hm : X.mg x = some (.ref C)) (ha : PA X (e :: es) (tL X G W fl)) (hdb : (x == ("__debug__" : Str)) = false)
    (he : starEach (e :: es) X.env = (false, eval e X.env) :: starEach es X.env) (hpl : (backTo pos (starEach es X.env)).any (·.1) = false) :
    PS X (.Raise (some (.Call (.Name x p) (e :: es) [] pos)) none pos2) (tS X G W (sRaise c (N.length - 1) l fl)) := by
  have hR : Room (k + 1) X.A := ⟨hr.hd hc, hr.dp, hr.un⟩
  refine PS.imp (ps_raise hc tk (pmk_oex (ds := []) (dvs := []) T iC tI' F1 hR (.all hb) .nil (fun pins σ H s e s' I h => ?_) hg hm ha hdb he hpl)) fun D σ H h => ?_
  · obtain ⟨_, _, _, _, _, _, _, _, _, _, _, _, z⟩ := h
    exact z.elim
  obtain ⟨ρ, M, ev, r, er, p⟩ := h
  refine ⟨ρ, M, ev, r, er, p.stepR er fun ds M1 ρ1 H1 _ g1 r1 p1 vs rl => ?_⟩
  split at p1
  · rename_i hl
    refine ⟨by rw [rl.length]; omega, fun a hna => ⟨by simp only [List.append_nil, List.length_cons, rl.length]; omega, a, vs, by rw [List.append_nil], by rw [rl.length]; exact hl, upd_same, fun d H3 h3 => ⟨rfl, d, _, h3.at_, h3.dict, ?_, ?_⟩⟩⟩
    · have := h3.fr
      rw [upd_ne h3.ne] at this
      exact this
    · have hd : H1 d = none := by
        have := h3.fr
        rw [upd_ne h3.ne] at this
        exact this
      have eq : upd (del H3 a) d (.xd (mkF .non vs l [])) = upd H1 d (.xd (mkF .non vs l [])) := by
        funext b
        by_cases hbd : b = d
        · subst hbd; rw [upd_same, upd_same]
        · rw [upd_ne hbd, upd_ne hbd]
          by_cases hba : b = a
          · subst hba; rw [del_same, hna]
          · rw [del_ne hba, h3.same b hba hbd, upd_ne hba]
      rw [eq]
      have gF : Grow G ρ1 M1.length H1 ρ1 M1.length (upd H1 d (.xd (mkF .non vs l []))) := grow_fresh hd
      have := p1 ρ1 d (mkF .non vs l []) σ _ gF (r1.fresh hd) ((er.grow g1).grow gF) upd_same (repF_mk (rl.grow gF) (fun q hq => by rw [hl]; exact hi q hq) rfl)
      rw [hC] at this
      exact this
  · exact p1.elim
/-! try .. except c as n -/
def dropO (f : Env → Env) : O → O
  | .nx ev M => .nx (f ev) M
  | .bk ev M => .bk (f ev) M
  | .ct ev M => .ct (f ev) M
  | .rt d M => .rt d M
  | .ex c fs ev M => .ex c fs (f ev) M
  | .st => .st
def noEx : O → O
  | .ex _ _ _ _ => .st
  | o => o
def offE (i : Nat) (ev : Env) : Env := (ev.set i none).map dropE
def sTryAs (i : Nat) (cm : Str → Option Bool) (fb fs : DenS) : DenS := fun ev M => match fb (ev.map dropE) M with
  | .ex c xs ev1 M1 => (match cm c with
    | some true => dropO (offE i) (noEx (fs ((ev1.map dropE).set i (some (.exc c xs 0))) M1))
    | some false => .ex c xs (ev1.map dropE) M1
    | none => .st)
  | o => dropO (List.map dropE) o
section
variable {X : Cx} {G : GC} {W : WX} {x n : Str} {cv : Value} {i : Nat} {body suite : List Stmt} {b₀ : Stmt} {np pos pos' : Pos} {cm : Str → Option Bool} {fb fs : DenS}
theorem RepE.off {X' : Cx} {ρ : Nat → Addr} {N : Nat} {H : Hp} {σ : St} {ev : Env} (h : RepE X' G ρ N H σ ev) (i : Nat) (X : Cx) : RepE X G ρ N H (σ.set i none) (offE i ev) := by
  refine RepE.drop (X := X') ?_ X
  refine ⟨by simp [h.len], fun j d e => ?_⟩
  by_cases hj : i = j
  · subst hj
    by_cases hl : i < ev.length
    · rw [List.getElem?_set_self hl] at e; cases e
    · rw [List.getElem?_eq_none (by simpa using hl)] at e; cases e
  · rw [List.getElem?_set_ne hj] at e ⊢
    exact h.at_ j d e
theorem takes_no (X : Cx) : Takes X noW := fun u s' ⟨a, B, sI, pins, σ, H, cls, d, e, I, nb, up, sky, na, os, ag, w⟩ => w.elim
theorem s_tryAs (hs : X.stack = X.env :: X.outer) (hf : X.env.frame = some X.env.locals) (hN : X.N.Nodup) (hi : X.N[i]? = some n) (hln : X.env.kindOf n = some .local) (hc : Names X x cv) (tk : Takes X W)
    (hcm : ∀ c b, cm c = some b → PySem.W.exmOne X.K (.ref (G.ca c)) cv = some b)
    (hb : ∀ (W' : WX) (pn : List (Addr × Obj)) (xe : Value → Shared → Prop), Takes (X.tr pn xe) W' → PassesOwn (model X.prog X.w) X.A X.env xe → PSs (X.tr pn xe) body (tS (X.tr pn xe) G W' fb))
    (hsu : ∀ (a : Addr) (oe : Obj) (pn : List (Addr × Obj)), PSs (X.suite a ((a, oe) :: pn)) (b₀ :: suite) (tS (X.suite a ((a, oe) :: pn)) G noW fs)) :
    PS X (.Try body [.ExceptHandler (some (.Name x np)) (some n) (b₀ :: suite) pos'] [] [] pos) (tS X G W (sTryAs i cm fb fs)) := by
  refine PS.imp (ps_try_as (tb := fun W' => fun T σ H => ∀ X' : Cx, tS X' G W' fb T σ H) (ts := fun a cls d => fun T σ H => ∀ (oe : Obj) (pn : List (Addr × Obj)), Zc cls d oe → (∃ vs, oe.data = .fields vs) → tS (X.suite a ((a, oe) :: pn)) G noW fs T σ H) (Wout := W) hs hf hN hi hln hc tk
    (fun W' pn xe t po => PSs.imp (hb W' pn xe t po) fun T σ H h => h _) (fun a oe cls d pn hz hv => PSs.imp (hsu a oe pn) fun T σ H h => h oe pn hz hv)) fun D σ H h => ?_
  obtain ⟨ρ, M, ev, r, er, p⟩ := h
  intro X'
  refine ⟨ρ, M, ev.map dropE, r, er.drop X', ?_⟩
  unfold sTryAs at p
  generalize fb (ev.map dropE) M = o at p
  cases o with
  | nx ev1 M1 => exact fun ρ1 σ1 H1 g1 r1 e1 => p ρ1 σ1 H1 g1 r1 (e1.drop X)
  | bk ev1 M1 => exact fun ρ1 σ1 H1 g1 r1 e1 => p ρ1 σ1 H1 g1 r1 (e1.drop X)
  | ct ev1 M1 => exact fun ρ1 σ1 H1 g1 r1 e1 => p ρ1 σ1 H1 g1 r1 (e1.drop X)
  | rt d M1 => exact p
  | st => exact p.elim
  | ex c xs ev1 M1 =>
    intro ρ1 d fv σ1 H1 g1 r1 e1 hd rf
    cases hm : cm c with
    | none => simp only [hm] at p; exact p.elim
    | some b =>
      refine ⟨b, hcm c b hm, fun eb a na oe pn hz hv => ?_, fun eb => ?_⟩
      · subst eb
        simp only [hm] at p
        have p := PostS.trans p g1
        have er2 : RepE (X.suite a ((a, oe) :: pn)) G ρ1 M1.length H1 (σ1.set i (some (.ref a))) ((ev1.map dropE).set i (some (.exc c xs 0))) := by
          have e2 := e1.drop (X.suite a ((a, oe) :: pn))
          refine ⟨by simp [e2.len], fun j d' e => ?_⟩
          by_cases hj : j = i
          · subst hj
            have hl : j < (ev1.map dropE).length := by
              have := lt_of_get e
              simpa using this
            rw [List.getElem?_set_self hl] at e
            cases e
            exact ⟨.ref a, by rw [List.getElem?_set_self (by rw [e2.len]; exact hl)], a, d, fv, rfl, ⟨oe, List.mem_cons_self, hz, hv⟩, hd, rf⟩
          · rw [List.getElem?_set_ne (Ne.symm hj)] at e ⊢
            exact e2.at_ j d' e
        refine ⟨ρ1, M1, _, r1, er2, ?_⟩
        generalize fs ((ev1.map dropE).set i (some (.exc c xs 0))) M1 = o2 at p
        cases o2 with
        | nx ev2 M2 => exact fun ρ2 σ2 H2 g2 r2 e2 => p ρ2 _ H2 g2 r2 (e2.off i X)
        | bk ev2 M2 => exact fun ρ2 σ2 H2 g2 r2 e2 => p ρ2 _ H2 g2 r2 (e2.off i X)
        | ct ev2 M2 => exact fun ρ2 σ2 H2 g2 r2 e2 => p ρ2 _ H2 g2 r2 (e2.off i X)
        | rt d2 M2 => exact p
        | st => exact p.elim
        | ex _ _ _ _ => exact p.elim
      · subst eb
        simp only [hm] at p
        exact p ρ1 d fv σ1 H1 g1 r1 (e1.drop X) hd rf
end
/-! isinstance -/
inductive Tg where
  | non | bl | int | str | lst | tup | dct
  deriving DecidableEq
def Tg.nm : Tg → String
  | .non => "NoneType" | .bl => "bool" | .int => "int" | .str => "str" | .lst => "list" | .tup => "tuple" | .dct => "dict"
def tag (d : D) (M : Mem) : Option (Tg ⊕ Str) := match d with
  | .non => some (.inl .non)
  | .bl _ => some (.inl .bl)
  | .int _ => some (.inl .int)
  | .str _ => some (.inl .str)
  | .tup _ => some (.inl .tup)
  | .ref n => match M[n]? with
    | some (.lst _) => some (.inl .lst)
    | some (.rls _) => some (.inl .lst)
    | some (.dct _) => some (.inl .dct)
    | some (.ins c _) => some (.inr c)
    | none => none
  | .exc _ _ _ => none
def ansT (tb : Tg → Bool) (own : List (Str × Bool)) : Tg ⊕ Str → Option Bool
  | .inl t => some (tb t)
  | .inr c => own.lookup c
def dIsi (tb : Tg → Bool) (own : List (Str × Bool)) (f : Den) : Den := fun ev M => (f ev M).bind fun d M1 => match (tag d M1).bind (ansT tb own) with
  | some b => .ok (.bl b) M1
  | none => .st
/-- what an own class must have -/
structure InsIs (K : PySem.W.Frag) (C : Addr) : Prop where
  cl : Cls K C
  ha : PySem.W.findIn K (.ref C) "__class__" = some (some (.builtin "object.__class__"))
  hn : PySem.W.specialIn K (.builtin "object.__class__") "__get__" = some (some (.builtin "getset_descriptor.__get__"))
  htk : PySem.W.takesIn K (.builtin "object.__class__") = some true
  hm : PySem.W.mroIn K C (.type "object") = some true
structure ExcIs' (K : PySem.W.Frag) (C : Addr) : Prop where
  hcl : (PySem.W.clsIn K C).isSome = true
  hga : PySem.W.findIn K (.ref C) "__getattribute__" = some (some (.builtin "BaseException.__getattribute__"))
  hgt : PySem.W.findIn K (.ref C) "__getattr__" = some none
  hsub : PySem.W.subIn K (.ref C) (.type "BaseException") = some true
  hd : PySem.W.hasDictIn K C = true
  ha : PySem.W.findIn K (.ref C) "__class__" = some (some (.builtin "object.__class__"))
  hn : PySem.W.specialIn K (.builtin "object.__class__") "__get__" = some (some (.builtin "getset_descriptor.__get__"))
  htk : PySem.W.takesIn K (.builtin "object.__class__") = some true
  hm : PySem.W.mroIn K C (.type "object") = some true
def tgV (G : GC) : Tg ⊕ Str → Value
  | .inl t => .type t.nm
  | .inr c => .ref (G.ca c)
section
variable {X : Cx} {G : GC} {W : WX} {e ce : Expr} {fe : Den} {p pos : Pos} {cV : V} {u : Value} {tb : Tg → Bool} {own : List (Str × Bool)} {x y : Str}
theorem tag_ty {ρ : Nat → Addr} {H : Hp} {M : Mem} {d : D} {v : V} {t : Tg ⊕ Str} (hK : G.K = X.K) (r : Rel G ρ H M) (rd : RepV G ρ M.length H d v) (e : tag d M = some t) (ho : ∀ c, t = .inr c → InsIs X.K (G.ca c)) : TyX X.K H v (tgV G t) := by
  cases d with
  | non => cases e; rw [rd.non']; exact .base .non
  | bl b => cases e; rw [rd.bl']; exact .base (.bl b)
  | int b => cases e; rw [rd.int']; exact .base (.int b)
  | str b => cases e; rw [rd.str']; exact .base (.str b)
  | tup xs =>
    cases e
    obtain ⟨a, vs, rfl, ta, _⟩ := rd.tup'
    rcases ta with ⟨o, _, h⟩ | ⟨o, its, n, _, ho, hc, _⟩
    · exact .fTuple h
    · exact .kTuple (hK ▸ ho) hc
  | ref n =>
    obtain ⟨hn, rfl⟩ := rd.ref'
    unfold tag at e
    simp only at e
    cases em : M[n]? with
    | none => rw [em] at e; cases e
    | some c =>
      rw [em] at e
      have rc := r.cell n c em
      cases c with
      | lst xs => cases e; obtain ⟨vs, q, _⟩ := rc; exact .base (.lst q)
      | rls xs => cases e; obtain ⟨vs, o, q, _⟩ := rc; exact .base (.frz q)
      | dct xs => cases e; obtain ⟨vs, q, _⟩ := rc; exact .base (.dK q)
      | ins k fs =>
        cases e
        obtain ⟨dx, vs, q, _⟩ := rc
        have h := ho k rfl
        exact .base (.ins q h.cl h.ha h.hn h.htk h.hm)
  | exc _ _ _ => cases e
theorem i_isi (hK : G.K = X.K) (hg : Gl X "isinstance") (hm : X.mg "isinstance" = none) (he : PE X e (tI X G W fe)) (hce : PE X ce (tC cV)) (hc : ClsV cV u)
    (hT : ∀ t : Tg, PySem.W.kitOne X.K (.type t.nm) u = some (tb t)) (hO : ∀ c b, own.lookup c = some b → InsIs X.K (G.ca c) ∧ PySem.W.kitOne X.K (.ref (G.ca c)) u = some b)
    (hs : starEach [e, ce] X.env = (false, eval e X.env) :: starEach [ce] X.env) (hs2 : starEach [ce] X.env = (false, eval ce X.env) :: starEach [] X.env) (hpl : (backTo pos (starEach [ce] X.env)).any (·.1) = false) :
    PE X (.Call (.Name "isinstance" p) [e, ce] [] pos) (tI X G W (dIsi tb own fe)) := by
  refine PE.imp (pe_callB call_isi hg hm PyProof.Rows.Boot.«isinstance» (pa_cons he (pa_cons hce pa_nil hs2) hs) (by decide) (by decide) hs hpl) fun σ H Q ⟨ρ, M, ev, r, er, p⟩ => ?_
  refine ⟨ρ, M, ev, r, er, p.step fun d M1 ρ1 H1 _ g1 r1 p1 v rv => ?_⟩
  cases et : tag d M1 with
  | none => rw [et] at p1; exact p1.elim
  | some t =>
    rw [et] at p1
    simp only [Option.bind_some] at p1
    cases ea : ansT tb own t with
    | none => rw [ea] at p1; exact p1.elim
    | some b =>
      rw [ea] at p1
      refine ⟨v, cV, tgV G t, u, b, rfl, hc, tag_ty hK r1 rv et (fun c ec => ?_), ?_, p1 ρ1 H1 .refl r1 (.bl b) (by simp only [RepV])⟩
      · subst ec; exact (hO c b ea).1
      · cases t with
        | inl t => cases ea; exact hT t
        | inr c => exact (hO c b ea).2
/-- isinstance(e, c), e the exception that the suite holds -/
def dIsE (i : Nat) (own : List (Str × Bool)) : Den := fun ev M => match ev[i]? with
  | some (some (.exc c _ _)) => (match own.lookup c with
    | some b => .ok (.bl b) M
    | none => .st)
  | _ => .st
theorem call_isX : CallR X (.builtin "isinstance") (fun xs H Q => ∃ (a d : Addr) (c : Str) (fv : List (Str × V)) (cV : V) (u : Value) (b : Bool), xs = [.ref a, cV] ∧ ClsV cV u ∧ ExcIn X G a c d ∧ H d = some (.xd fv) ∧ ExcIs' X.K (G.ca c) ∧ PySem.W.kitOne X.K (.ref (G.ca c)) u = some b ∧ Q (.bl b) H) := by
  intro pins s σ H xs us Q I r h
  obtain ⟨a, d, c, fv, cV, u, b, rfl, k, ⟨oe, hp, hz, vs, hv⟩, hd, T, e, q⟩ := h
  obtain ⟨u1, u2, rfl, r1, r2⟩ := vals2 r
  have e2 := k.eq r2
  subst e2
  cases (show u1 = Value.ref a from r1)
  obtain ⟨hget, _⟩ := I.pin (a, oe) (List.mem_append_left _ hp)
  obtain ⟨mA, ⟨od, _, _, hod, _⟩, _⟩ : ∃ mA, s.heap.Ns1 d mA ∧ ∀ f, RelO (fv.lookup f) (mA f) := I.hok d _ hd
  have J : PySem.W.InstAt s.heap a oe (G.ca c) (some od) := ⟨hget, hz.1, by unfold PySem.W.notCls; rw [hv] <;> rfl, by rw [hz.2]; exact hod⟩
  exact PySem.W.kia_one (PySem.W.kitx_exc T.hcl T.hga T.hgt T.hsub T.ha T.hn T.htk T.hm) I.kIn J e (fun z => nomatch z) fun tk => ⟨.bl b, H, I.tok tk, rfl, q⟩
theorem i_isE {i : Nat} {p1 : Pos} (hg : Gl X "isinstance") (hm : X.mg "isinstance" = none) (hN : X.N[i]? = some x) (hv : Vis X.env.scope x) (h1 : (x == ("__debug__" : Str)) = false) (h2 : (x == ("__classdict__" : Str)) = false) (hce : PE X ce (tC cV)) (hc : ClsV cV u)
    (hO : ∀ c b, own.lookup c = some b → ExcIs' X.K (G.ca c) ∧ PySem.W.kitOne X.K (.ref (G.ca c)) u = some b)
    (hs : starEach [.Name x p1, ce] X.env = (false, eval (.Name x p1) X.env) :: starEach [ce] X.env) (hs2 : starEach [ce] X.env = (false, eval ce X.env) :: starEach [] X.env) (hpl : (backTo pos (starEach [ce] X.env)).any (·.1) = false) :
    PE X (.Call (.Name "isinstance" p) [.Name x p1, ce] [] pos) (tI X G W (dIsE i own)) := by
  refine PE.imp (pe_callB (call_isX (G := G)) hg hm PyProof.Rows.Boot.«isinstance» (pa_cons (pe_var hN hv h1 h2) (pa_cons hce pa_nil hs2) hs) (by decide) (by decide) hs hpl) fun σ H Q ⟨ρ, M, ev, r, er, p⟩ => ?_
  unfold dIsE at p
  split at p
  · rename_i c fs k eq
    split at p
    · rename_i b eb
      obtain ⟨v, hv', a, d, fv, rfl, hx, hd, rf⟩ := er.at_ _ _ eq
      exact ⟨.ref a, hv', a, d, c, fv, cV, u, b, rfl, hc, hx, hd, (hO c b eb).1, (hO c b eb).2, p ρ H .refl r (.bl b) (by simp only [RepV])⟩
    · exact p.elim
  · exact p.elim
/-- e.f, e the exception -/
def dXf (i : Nat) (cs : List Str) (f : Str) : Den := fun ev M => match ev[i]? with
  | some (some (.exc c fs _)) => if c ∈ cs then (match fs.lookup f with
    | some d => .ok d M
    | none => .st) else .st
  | _ => .st
theorem lookupF {ρ : Nat → Addr} {N : Nat} {H : Hp} {f : Str} {d : D} : ∀ {fs : List (Str × D)} {vs : List (Str × V)}, RepF G ρ N H fs vs → fs.lookup f = some d → ∃ v, vs.lookup f = some v ∧ RepV G ρ N H d v
  | [], _, _, e => by simp at e
  | (g, d') :: fs, _, ⟨v, r, rfl, h1, h2⟩, e => by
    rw [lookup_put]
    have e' : (if f = g then some d' else fs.lookup f) = some d := by
      by_cases h : f = g
      · subst h; simpa [List.lookup] using e
      · have : (f == g) = false := by simpa using h
        rw [if_neg h]; simpa [List.lookup, this] using e
    by_cases h : f = g
    · rw [if_pos h] at e' ⊢; cases e'; exact ⟨v, rfl, h1⟩
    · rw [if_neg h] at e' ⊢; exact lookupF h2 e'
theorem i_xf {i : Nat} {p1 : Pos} {cs : List Str} {f : Str} (hN : X.N[i]? = some x) (hv : Vis X.env.scope x) (h1 : (x == ("__debug__" : Str)) = false) (h2 : (x == ("__classdict__" : Str)) = false)
    (hO : ∀ c, c ∈ cs → ExcIs' X.K (G.ca c) ∧ PySem.W.findIn X.K (.ref (G.ca c)) f = some none) (hb : attributeBase (.Name x p1) f X.env (eval (.Name x p1) X.env) = eval (.Name x p1) X.env) :
    PE X (.Attribute (.Name x p1) f pos) (tI X G W (dXf i cs f)) := by
  refine ⟨fun pins s σ H Q I ⟨ρ, M, ev, r, er, p⟩ => ?_⟩
  unfold dXf at p
  split at p
  · rename_i c fs k eq
    split at p
    · rename_i hcs
      split at p
      · rename_i d ed
        obtain ⟨v, hv', a, dd, fv, rfl, ⟨oe, hp, hz, vs, hvs⟩, hd, rf⟩ := er.at_ _ _ eq
        obtain ⟨v, hl, rv⟩ := lookupF rf ed
        obtain ⟨T, hno⟩ := hO c hcs
        refine attr_of hb (thn ((pe_var hN hv h1 h2).run pins s σ H (fun y H' => y = .ref a ∧ H' = H) I ⟨.ref a, hv', rfl, rfl⟩) fun u s1 hh => ?_)
        obtain ⟨y, H1, I1, rx, rfl, rfl⟩ := hh
        obtain rfl : u = Value.ref a := rx
        obtain ⟨hget, _⟩ := I1.pin (a, oe) (List.mem_append_left _ hp)
        obtain ⟨mA, hns, hr⟩ : ∃ mA, s1.heap.Ns1 dd mA ∧ ∀ f, RelO (fv.lookup f) (mA f) := I1.hok dd _ hd
        obtain ⟨od, ho, hl2⟩ := lookIn_ns hns
        obtain ⟨u, hu, ru⟩ := RelO.some_of (v := v) (o := mA f) (by rw [← hl]; exact hr f)
        have J : PySem.W.InstAt s1.heap a oe (G.ca c) (some od) := ⟨hget, hz.1, by unfold PySem.W.notCls; rw [hvs] <;> rfl, by rw [hz.2]; exact ho⟩
        exact HandSPX.exc_get I1.kIn J T.hga T.hgt T.hsub (PySem.W.findObj_own T.hd hno rfl (by rw [hl2, hu])) (handed_of ru) ⟨v, H1, I1.tok _, ru, p ρ H1 .refl r v rv⟩
      · exact p.elim
    · exact p.elim
  · exact p.elim
end
end MI

set_option Elab.async false
set_option linter.all false
set_option maxRecDepth 100000
set_option maxHeartbeats 2000000
namespace MI
open PySem PySem.Spec PyProof.Rows L2
/-! built-ins by name -/
section
variable {X : Cx} {G : GC} {W : WX} {e : Expr} {es : List Expr} {fl : DenL} {fe : Den} {x : Str} {p pos : Pos} {id T : String} {f : OpN}
theorem i_cB (hc : CallR X (.builtin id) (rdn G f)) (hg : Gl X x) (hm : X.mg x = none) (hv : bootBuiltins x = some (.builtin id)) (ha : PA X (e :: es) (tL X G W fl)) (hn : x ≠ "__name__") (hdb : (x == ("__debug__" : Str)) = false)
    (he : starEach (e :: es) X.env = (false, eval e X.env) :: starEach es X.env) (hpl : (backTo pos (starEach es X.env)).any (·.1) = false) : PE X (.Call (.Name x p) (e :: es) [] pos) (tI X G W (dOpN f fl)) :=
  PE.imp (pe_callB hc hg hm hv ha hn hdb he hpl) fun σ H Q h => tI_opN h
theorem i_cT (hc : CallR X (.type T) (rdn G f)) (hg : Gl X x) (hm : X.mg x = none) (hv : bootBuiltins x = some (.type T)) (ha : PA X (e :: es) (tL X G W fl)) (hn : x ≠ "__name__") (hdb : (x == ("__debug__" : Str)) = false)
    (he : starEach (e :: es) X.env = (false, eval e X.env) :: starEach es X.env) (hpl : (backTo pos (starEach es X.env)).any (·.1) = false) : PE X (.Call (.Name x p) (e :: es) [] pos) (tI X G W (dOpN f fl)) :=
  PE.imp (pe_callTy hc hg hm hv ha hn hdb he hpl) fun σ H Q h => tI_opN h
theorem pe_clsO {C : Addr} (hg : Gl X x) (hm : X.mg x = some (.ref C)) (hd : (x == ("__debug__" : Str)) = false) : PE X (.Name x pos) (tC (.ref C)) := pe_glob hg hm rfl hd
theorem pe_clsT (hg : Gl X x) (hm : X.mg x = none) (hv : bootBuiltins x = some (.type T)) (hn : x ≠ "__name__") (hd : (x == ("__debug__" : Str)) = false) : PE X (.Name x pos) (tC (.ty T)) :=
  ⟨fun pins s σ H Q I h => ld_blt I hg hm hv ⟨.ty T, H, I, rfl, h⟩ hn hd⟩
end
/-! constants of the module -/
def kD (K : PySem.W.Frag) : Nat → Value → Option D
  | _, .none => some .non
  | _, .bool b => some (.bl b)
  | _, .int i _ => some (.int i)
  | _, .str s _ => some (.str s)
  | n + 1, .ref a => match K.lookup a with
    | some o => if o.cls == .type "tuple" && o.dict.isNone then (match o.data with
      | .seq its _ => if its.size ≤ lim then (optMap (kD K n) its.toList).map .tup else none
      | _ => none) else none
    | none => none
  | _, _ => none
section
variable {K : PySem.W.Frag} {G : GC}
theorem kDL_ok {n : Nat} {ρ : Nat → Addr} {N : Nat} {H : Hp} (ih : ∀ {u : Value} {d : D}, kD K n u = some d → ∃ v, RelV v u ∧ RepV G ρ N H d v) : ∀ {us : List Value} {ds : List D}, optMap (kD K n) us = some ds → ∃ vs, Vals vs us ∧ RepL G ρ N H ds vs
  | [], ds, e => by
    simp only [optMap, Option.some.injEq] at e
    subst e
    exact ⟨[], .nil, .nil⟩
  | u :: us, ds, e => by
    simp only [optMap] at e
    cases e1 : kD K n u with
    | none => rw [e1] at e; simp at e
    | some b =>
      cases e2 : optMap (kD K n) us with
      | none => rw [e1, e2] at e; simp at e
      | some t =>
        rw [e1, e2] at e
        simp only [Option.some.injEq] at e
        subst e
        obtain ⟨v, r1, r2⟩ := ih e1
        obtain ⟨vs, r3, r4⟩ := kDL_ok ih e2
        exact ⟨v :: vs, .cons r1 r3, .cons r2 r4⟩
theorem kD_ok (hK : G.K = K) {ρ : Nat → Addr} {N : Nat} {H : Hp} : ∀ {n : Nat} {u : Value} {d : D}, kD K n u = some d → ∃ v, RelV v u ∧ RepV G ρ N H d v
  | n, .none, d, e => by
    have e : some D.non = some d := by cases n <;> exact e
    cases e; exact ⟨.non, rfl, by simp only [RepV]⟩
  | n, .bool b, d, e => by
    have e : some (D.bl b) = some d := by cases n <;> exact e
    cases e; exact ⟨.bl b, rfl, by simp only [RepV]⟩
  | n, .int i t, d, e => by
    have e : some (D.int i) = some d := by cases n <;> exact e
    cases e; exact ⟨.int i, ⟨t, rfl⟩, by simp only [RepV]⟩
  | n, .str i t, d, e => by
    have e : some (D.str i) = some d := by cases n <;> exact e
    cases e; exact ⟨.str i, ⟨t, rfl⟩, by simp only [RepV]⟩
  | n + 1, .ref a, d, e => by
    simp only [kD] at e
    split at e
    · rename_i o ho
      split at e
      · rename_i hc
        simp only [Bool.and_eq_true, beq_iff_eq, Option.isNone_iff_eq_none] at hc
        split at e
        · rename_i its m hd
          split at e
          · rename_i hz
            cases e2 : optMap (kD K n) its.toList with
            | none => rw [e2] at e; simp at e
            | some t =>
              rw [e2] at e
              simp only [Option.map_some, Option.some.injEq] at e
              subst e
              obtain ⟨vs, r3, r4⟩ := kDL_ok (fun e => kD_ok hK e) e2
              refine ⟨.ref a, rfl, ?_⟩
              simp only [RepV]
              refine ⟨a, vs, rfl, .inr ⟨o, its, m, hc.2, ?_, hc.1, hd, by rw [← lim_eq]; exact hz, r3⟩, r4⟩
              rw [hK]; exact ho
          · cases e
        · cases e
      · cases e
    · cases e
  | n, .float _ _, d, e => by cases n <;> cases e
  | n, .bytes _ _, d, e => by cases n <;> cases e
  | 0, .ref _, d, e => by cases e
  | n, .type _, d, e => by cases n <;> cases e
  | n, .builtin _, d, e => by cases n <;> cases e
  | n, .ellipsis, d, e => by cases n <;> cases e
  | n, .notImplemented, d, e => by cases n <;> cases e
theorem i_glob {X : Cx} {G : GC} {W : WX} {x : Str} {u : Value} {n : Nat} {d : D} {pos : Pos} (hK : G.K = X.K) (hg : Gl X x) (hm : X.mg x = some u) (e : kD X.K n u = some d) (hd : (x == ("__debug__" : Str)) = false) : PE X (.Name x pos) (tI X G W (dC d)) := by
  refine ⟨fun pins s σ H Q I ⟨ρ, M, ev, r, er, p⟩ => ld_glob I hg hm ?_ hd⟩
  obtain ⟨v, rv, rd⟩ := kD_ok (ρ := ρ) (N := M.length) (H := H) hK e
  exact ⟨v, H, I, rv, p ρ H .refl r v rd⟩
end
theorem PostR.mono {G : GC} {W : WX} {α : Type} {σ : St} {ρ : Nat → Addr} {N : Nat} {H : Hp} {P P' : Good α} {r : R α} (p : PostR G W σ ρ N H P r) (h : ∀ ρ' M' H' a, Grow G ρ N H ρ' M'.length H' → Rel G ρ' H' M' → P ρ' M' H' a → P' ρ' M' H' a) : PostR G W σ ρ N H P' r := by
  cases r with
  | ok a M' => exact fun ρ' H' g r => h ρ' M' H' a g r (p ρ' H' g r)
  | ex c fs M' => exact p
  | st => exact p
/-! xs[::-1] -/
def opRev : Op1 := fun d M => match d with
  | .ref n => match getL M n with
    | some xs => some (.ref M.length, M ++ [.lst xs.reverse])
    | none => none
  | _ => none
theorem i_rev {X : Cx} {G : GC} {W : WX} {e : Expr} {fe : Den} {k : Nat} {p1 p2 p3 pos : Pos} (hK : G.K = X.K) (he : PE X e (tI X G W fe)) : PE X (.Subscript e (.Slice none none (some (.UnaryOp .USub (.Constant (.int 1) k p1) p2)) p3) pos) (tI X G W (dOp1 opRev fe)) := by
  refine PE.imp (pe_revL he) fun σ H Q h => ?_
  obtain ⟨ρ, M, ev, r, er, p⟩ := tI_op1 h
  refine ⟨ρ, M, ev, r, er, p.mono fun ρ1 M1 H1 d g1 r1 q v rv => ?_⟩
  obtain ⟨ρ2, M2, d2, r2, rd2, p2⟩ := q v rv
  unfold opRev at p2
  split at p2
  · rename_i n
    split at p2
    · rename_i xs ex
      obtain ⟨hn, rfl⟩ := rd2.ref'
      obtain ⟨vs, hq, rl⟩ := rel_getL r2 ex
      exact ⟨_, vs, rfl, hK ▸ hq, p2.lst r2 rl.reverse⟩
    · exact p2.elim
  · exact p2.elim
/-! repr -/
theorem toP_facts {M : Mem} : ∀ {n : Nat} {d : D} {p : PyData}, toP M n d = some p → p.depth ≤ n ∧ p.hasDict = false
  | n, .non, p, e => by
    have e : some PyData.none = some p := by cases n <;> exact e
    cases e; simp [PyData.depth, PyData.hasDict]
  | n, .bl b, p, e => by
    have e : some (PyData.bool b) = some p := by cases n <;> exact e
    cases e; simp [PyData.depth, PyData.hasDict]
  | n, .int b, p, e => by
    have e : some (PyData.int b) = some p := by cases n <;> exact e
    cases e; simp [PyData.depth, PyData.hasDict]
  | n, .str b, p, e => by
    have e : some (PyData.str b) = some p := by cases n <;> exact e
    cases e; simp [PyData.depth, PyData.hasDict]
  | 0, .tup xs, p, e => by simp [toP] at e
  | 0, .ref k, p, e => by simp [toP] at e
  | n + 1, .tup xs, p, e => by
    simp only [toP] at e
    cases e2 : optMap (toP M n) xs with
    | none => rw [e2] at e; simp at e
    | some t =>
      rw [e2] at e
      simp only [Option.map_some, Option.some.injEq] at e
      subst e
      obtain ⟨h1, h2⟩ := go n xs t e2
      simp only [PyData.depth, PyData.hasDict]
      exact ⟨by omega, h2⟩
  | n + 1, .ref k, p, e => by
    simp only [toP] at e
    have go2 : ∀ xs, (optMap (toP M n) xs).map PyData.list = some p → p.depth ≤ n + 1 ∧ p.hasDict = false := fun xs e => by
      cases e2 : optMap (toP M n) xs with
      | none => rw [e2] at e; simp at e
      | some t =>
        rw [e2] at e
        simp only [Option.map_some, Option.some.injEq] at e
        subst e
        obtain ⟨h1, h2⟩ := go n xs t e2
        simp only [PyData.depth, PyData.hasDict]
        exact ⟨by omega, h2⟩
    cases hm : M[k]? with
    | none => rw [hm] at e; simp at e
    | some c =>
      rw [hm] at e
      cases c with
      | lst xs => exact go2 xs e
      | rls xs => exact go2 xs e
      | _ => simp at e
  | n, .exc _ _ _, p, e => by cases n <;> simp [toP] at e
where
  go (n : Nat) : ∀ (xs : List D) (ps : List PyData), optMap (toP M n) xs = some ps → PyData.depthAll ps ≤ n ∧ PyData.hasDictAll ps = false
  | [], ps, e => by
    simp only [optMap, Option.some.injEq] at e
    subst e
    simp [PyData.depthAll, PyData.hasDictAll]
  | x :: xs, ps, e => by
    simp only [optMap] at e
    cases e1 : toP M n x with
    | none => rw [e1] at e; simp at e
    | some b =>
      cases e2 : optMap (toP M n) xs with
      | none => rw [e1, e2] at e; simp at e
      | some t =>
        rw [e1, e2] at e
        simp only [Option.some.injEq] at e
        subst e
        obtain ⟨h1, h2⟩ := toP_facts e1
        obtain ⟨h3, h4⟩ := go n xs t e2
        simp only [PyData.depthAll, PyData.hasDictAll, h2, h4, Bool.or_self, and_true]
        omega
def nRepr : OpN := one fun d M => match toPs M d with
  | some p => if p.showable && decide (p.shown.length ≤ lim) then some (.str p.shown, M) else none
  | none => none
theorem c_repr {X : Cx} {G : GC} (hK : G.K = X.K) (hg : X.A.guards = some []) (hu : X.A.units + 100 < cLine) : CallR X (.builtin "repr") (rdn G nRepr) := one_ok fun pins s σ H v us Q ρ M d I rv r rd p => by
  cases e : toPs M d with
  | none => rw [e] at p; exact p.elim
  | some pd =>
    rw [e] at p
    simp only at p
    split at p
    · rename_i hz
      rw [Bool.and_eq_true, decide_eq_true_eq, lim_eq] at hz
      have q := p.str r
      have h0 : toP M 66 d = some pd := by
        unfold toPs at e
        cases e1 : toP M 66 d with
        | none => rw [e1] at e; cases e
        | some p' =>
          rw [e1] at e
          simp only at e
          split at e <;> cases e
          rfl
      obtain ⟨hd, _⟩ := toPs_ok r e rd
      rw [hK] at hd
      obtain ⟨f1, f2⟩ := toP_facts h0
      obtain ⟨u, rfl, ru⟩ := rv.one
      obtain ⟨as, rr⟩ := Dp.reads I pd v u hd ru
      have fin : ∀ h' t tk, (∀ b o, s.heap.get? b = some o → h'.get? b = some o) → EP X pins σ Q (.str pd.shown t) { s with heap := h', toks := tk } := fun h' t tk k => ⟨.str pd.shown, H, I.kept k, ⟨t, rfl⟩, q⟩
      cases rr with
      | none => exact PySem.P.repr_of_none (fin s.heap _ _ fun _ _ e => e)
      | bool => exact PySem.P.repr_of_bool (fin s.heap _ _ fun _ _ e => e)
      | int => exact PySem.P.repr_of_int (by simpa [PyData.showable] using hz.1) (fin s.heap _ _ fun _ _ e => e)
      | str => exact PySem.P.repr_of_str (fin s.heap _ _ fun _ _ e => e) hz.2
      | list h1 h2 h3 h4 => exact repr_of_reads' (h₀ := s.heap) (.list h1 h2 h3 h4) hz.1 (fun h => absurd (f2.symm.trans h) Bool.false_ne_true) hg (by omega) (fun _ _ e => e) (fun h' u tk k => fin h' u tk k) hz.2
      | tuple h1 h2 h3 h4 => exact repr_of_reads' (h₀ := s.heap) (.tuple h1 h2 h3 h4) hz.1 (fun h => absurd (f2.symm.trans h) Bool.false_ne_true) hg (by omega) (fun _ _ e => e) (fun h' u tk k => fin h' u tk k) hz.2
      | dict h1 h2 h3 h4 h5 => simp [PyData.hasDict] at f2
    · exact p.elim
end MI

set_option Elab.async false
set_option linter.all false
set_option maxRecDepth 100000
set_option maxHeartbeats 2000000
namespace MI
open PySem PySem.Spec PyProof.Rows L2
/-! from the law's denotation to the row -/
/-- no list among the module's own objects -/
def noLists (K : PySem.W.Frag) : Bool := K.all fun p => !(p.2.cls == .type "list")
theorem lookK : ∀ {K : List (Addr × Obj)} {a : Addr} {o : Obj}, K.lookup a = some o → (a, o) ∈ K
  | [], _, _, e => by cases e
  | (b, u) :: K, a, o, e => by
    by_cases h : a = b
    · subst h
      simp [List.lookup] at e
      subst e
      exact List.mem_cons_self
    · have : (a == b) = false := by simpa using h
      simp only [List.lookup, this] at e
      exact List.mem_cons_of_mem _ (lookK e)
theorem noLists_at {K : PySem.W.Frag} (h : noLists K = true) {a : Addr} {o : Obj} (e : K.lookup a = some o) : o.cls ≠ .type "list" := fun c => by
  have m : (a, o) ∈ K := lookK e
  have q := List.all_eq_true.mp h _ m
  simp only [c, beq_self_eq_true, Bool.not_true] at q
  cases q
theorem ints_repr {G : GC} {ρ : Nat → Addr} {N : Nat} {H : Hp} : ∀ ns : List Int, RepL G ρ N H (ns.map D.int) (ns.map V.int)
  | [] => .nil
  | n :: ns => .cons (by simp only [RepV]) (ints_repr ns)
theorem end_call {P : Program} {w : World} {K : PySem.W.Frag} {mg mb : Str → Option Value} {G : GC} {k : Nat} {fa a : Addr} {fd : FuncData} {x : Str} {f : Fun} {s₁ : Shared} {vs : List Value} {ns : List Int}
    (KX : K.In s₁.heap) (hns : s₁.heap.Ns mainGlobals mg) (hb : s₁.heap.Ns builtinsNs mb) (hbb : ∀ x : Str, x ≠ "__name__" → mb x = bootBuiltins x) (hlim : s₁.heap.NoLimit) (hg : s₁.gens = #[])
    (ha : s₁.heap.get? a = some { cls := .type "list", data := .seq vs.toArray }) (hi : IntsAre vs ns) (hl : ns.length ≤ sizeLine) (hr : RoomG true k callerA) (hno : noLists K = true)
    (F : ∀ base : Heap, K.In base → base.Ns mainGlobals mg → FnG true P w K mg base k fa fd [x] (spI G 1 f)) (hbind : ∀ (s : Shared) (u : Value), BindsTo s fd ⟨[u], []⟩ [(x, u)])
    (hf : ∃ M, f [.ref 0] [.rls (ns.map .int)] = .ok (.bl true) M) :
    codeAny (model P w) callerA (.call (.ref fa) ⟨[.ref a], []⟩) (fun r s' => r = .ok (.ret (.bool true)) ∧ OldK s₁.heap s'.heap ∧ s'.os = s₁.os ∧ AllBare s'.gens) s₁ := by
  have hKa : K.lookup a = none := by
    cases e : K.lookup a with
    | none => rfl
    | some o =>
      have z := KX a o e
      rw [ha] at z
      cases z
      exact absurd rfl (noLists_at hno e)
  obtain ⟨H, hH1, hH2⟩ : ∃ H : Hp, H a = some (.frz { cls := .type "list", data := .seq vs.toArray } (.lst (ns.map V.int))) ∧ ∀ b, b ≠ a → H b = none :=
    ⟨fun b => if b = a then some (.frz { cls := .type "list", data := .seq vs.toArray } (.lst (ns.map V.int))) else none, if_pos rfl, fun b hb => if_neg hb⟩
  have rv := vals_ints hi
  have notA : ∀ {b : Addr} {o : Obj}, s₁.heap.get? b = some o → (∀ z n, o.data ≠ .seq z n) → b ≠ a := fun {b o} e d z => by
    rw [z, ha] at e
    cases e
    exact d _ _ rfl
  have hok : HOk P w H s₁.heap := fun b u e => by
    by_cases hb : b = a
    · subst hb
      rw [hH1] at e
      cases e
      exact ⟨ha, by rw [List.length_map]; exact hl, vs, _, rv, ha⟩
    · rw [hH2 b hb] at e; cases e
  have nsK : ∀ {b : Addr} {m : Str → Option Value}, s₁.heap.Ns b m → (hidT s₁.heap H).Ns b m := fun {b m} ⟨o, es, ep, e, d, r⟩ =>
    ⟨o, es, ep, hidT_get e (hH2 b (notA e fun z n q => by rw [d] at q; cases q)), d, r⟩
  have hKb : K.In (hidT s₁.heap H) := fun b o e => hidT_get (KX b o e) (hH2 b fun z => by rw [z, hKa] at e; cases e)
  have hM : Mod K mg (hidT s₁.heap H) := ⟨hKb, nsK hns, ⟨mb, nsK hb, hbb⟩, let ⟨mc, h1, h2⟩ := hlim; ⟨mc, nsK h1, h2⟩⟩
  have e0 : Env0 P w K mg (hidT s₁.heap H) callerA [] s₁ H := ⟨rfl, hM, fun b o e => of_hidT e, Nat.le_of_eq (hidT_size _ _), trivial, fun b hb => absurd (show b ∈ ([] : List Addr) from hb) (by simp), hok, .of_eq hg⟩
  have hsp : spI G 1 f [.ref a] H (fun v _ => v = .bl true) fun _ _ _ => False := by
    obtain ⟨M, hM⟩ := hf
    refine ⟨rfl, fun _ => a, [.rls (ns.map .int)], [.ref 0], ⟨fun n c e => ?_, fun i j hi hj _ => ?_⟩, .one ?_, ?_⟩
    · cases n with
      | zero => cases e; exact ⟨_, _, hH1, ints_repr ns⟩
      | succ n => simp at e
    · simp only [List.length_cons, List.length_nil] at hi hj; omega
    · simp only [RepV]
      exact ⟨by simp, trivial⟩
    · rw [hM]
      exact fun ρ' H' g r v rd => rd.bl'
  refine codeAny_mono ((F _ hKb (nsK hns)).run callerA [] s₁ H ⟨[.ref a], []⟩ [.ref a] [.ref a] _ _ hr e0 (hbind s₁ (.ref a)) (.cons rfl .nil) hsp) fun r s' h => ?_
  cases r with
  | error e =>
    obtain ⟨_, _, _, _, _, _, _, _, _, _, _, _, z⟩ := h
    exact z.elim
  | ok fl =>
    cases fl with
    | next => exact False.elim h
    | brk => exact False.elim h
    | cont => exact False.elim h
    | ret u =>
      obtain ⟨v, H', os, bare, un, hok', r', q⟩ := h
      have q' : v = .bl true := q
      subst q'
      obtain rfl : u = Value.bool true := r'
      refine ⟨rfl, OldK.of_keep fun b o e => ?_, os, bare⟩
      by_cases hb : b = a
      · subst hb
        rw [ha] at e
        cases e
        exact (hok' b _ (un.frzs b _ _ hH1)).1
      · exact un.keep b o e (hH2 b hb) (by intro z; exact absurd (show b ∈ ([] : List Addr) from z) (by simp)) (by simp)
theorem end_law {l : PySem.W.OpenLaw} {n k : Nat} {q : Program} {loose : List Str} {XP : (Str → Option Value) → Heap → Prop} {YP : World → Heap → Prop} {d : DefRec} {K : Params → PySem.W.Frag} {x : Str} {f : Fun}
    (hn : l.most = some n) (hn2 : n ≤ sizeLine) (hdf : d.params.defaults = []) (hr : RoomG true k callerA) (hno : ∀ p, noLists (K p) = true)
    (hY : ∀ (w : World) (h : Heap), YP w h → (K w.params).In h)
    (F : ∀ (w : World) (mg : Str → Option Value) (fa : Addr) (h : Heap), (K w.params).In h → h.Ns mainGlobals mg → mg d.name = some (.ref fa) →
      ∃ (fd : FuncData) (G : GC), (∀ (s : Shared) (u : Value), BindsTo s fd ⟨[u], []⟩ [(x, u)]) ∧
        ∀ base : Heap, (K w.params).In base → base.Ns mainGlobals mg → FnG true l.prog w (K w.params) mg base k fa fd [x] (spI G 1 f))
    (hf : ∀ ns : List Int, ns.length ≤ n → ∃ M, f [.ref 0] [.rls (ns.map .int)] = .ok (.bl true) M) :
    PySem.W.WalkO q loose XP YP l.row.toRowW d [] (fun f vs => PySem.call f vs) := by
  refine Att.attach_call hn hdf fun w s₀ s₁ mg mb fa o pm cd doc a vs ns Gr Y ho hd hcd hmg hobj hints hlen hg => ?_
  have KX := hY w _ Y
  obtain ⟨fd, G, hb, hF⟩ := F w mg fa _ KX Gr.T.g hmg
  exact end_call KX Gr.T.g Gr.T.b Gr.T.builtins Gr.T.nolimit hg hobj hints (Nat.le_trans hlen hn2) hr (hno _) hF hb (hf ns hlen)
end MI

set_option Elab.async false
set_option linter.all false
set_option maxRecDepth 100000
set_option maxHeartbeats 2000000
namespace MI
open PySem PySem.Spec PyProof.Rows L2
/-! the rules in short, for printed terms -/
theorem RoomG.u64 {c : Bool} {k : Nat} {A : Around} (r : RoomG c k A) : A.units + 64 < cLine := by have := r.un; omega
theorem RoomG.u65 {c : Bool} {k : Nat} {A : Around} (r : RoomG c k A) : A.units + 65 < cLine := by have := r.un; omega
theorem RoomG.u0 {c : Bool} {k : Nat} {A : Around} (r : RoomG c k A) : A.units < cLine := by have := r.un; omega
theorem RoomG.u100 {c : Bool} {k : Nat} {A : Around} (r : RoomG c k A) : A.units + 100 < cLine := by have := r.un; omega
/-- what the rules ask of a context -/
structure Ctx (X : Cx) (G : GC) (W : WX) (k : Nat) : Prop where
  hK : G.K = X.K
  tk : Takes X W
  rm : RoomG X.calm k X.A
section
variable {X : Cx} {G : GC} {W : WX} {k : Nat}
theorem Ctx.blk (c : Ctx X G W k) (s : Shared) (H : Hp) (scope : Scope) (e : PySem.Env) (fp : List Addr) : Ctx (X.blk s H scope e fp) G noW k := ⟨c.hK, takes_no _, c.rm⟩
theorem Ctx.tr (c : Ctx X G W k) {W' : WX} {pn : List (Addr × Obj)} {xe : Value → Shared → Prop} (t : Takes (X.tr pn xe) W') : Ctx (X.tr pn xe) G W' k := ⟨c.hK, t, c.rm⟩
theorem Ctx.su (c : Ctx X G W k) (a : Addr) (pn : List (Addr × Obj)) : Ctx (X.suite a pn) G noW k := ⟨c.hK, takes_no _, ⟨c.rm.dp, c.rm.un, fun h => absurd (show false = true from h) Bool.false_ne_true, c.rm.gd⟩⟩
end
section
variable {X : Cx} {G : GC} {W : WX} {k : Nat} {a b c e : Expr} {es : List Expr} {fa fb fc fe : Den} {fl : DenL} {ta tb : DenT} {pos p p2 : Pos} {x : Str}
theorem v (i : Nat) (hN : X.N[i]? = some x := by rfl) (hv : Vis X.env.scope x := by first | exact Or.inl rfl | exact Or.inr (Or.inl rfl) | exact Or.inr (Or.inr rfl)) (h1 : (x == ("__debug__" : Str)) = false := by decide) (h2 : (x == ("__classdict__" : Str)) = false := by decide) :
    PE X (.Name x pos) (tI X G W (dVar i)) := i_var hN hv h1 h2
theorem gl (C : Ctx X G W k) {u : Value} {n : Nat} {d : D} (hm : X.mg x = some u) (e : kD X.K n u = some d) (hg : Gl X x := by rfl) (hd : (x == ("__debug__" : Str)) = false := by decide) : PE X (.Name x pos) (tI X G W (dC d)) := i_glob C.hK hg hm e hd
theorem bAdd (C : Ctx X G W k) (ha : PE X a (tI X G W fa)) (hb : PE X b (tI X G W fb)) : PE X (.BinOp a .Add b pos) (tI X G W (dOp2 opAdd fa fb)) := i_op (op_addD C.hK) ha hb
theorem bSub (C : Ctx X G W k) (ha : PE X a (tI X G W fa)) (hb : PE X b (tI X G W fb)) : PE X (.BinOp a .Sub b pos) (tI X G W (dOp2 opSub fa fb)) := i_op op_subDD ha hb
theorem bMult (C : Ctx X G W k) (ha : PE X a (tI X G W fa)) (hb : PE X b (tI X G W fb)) : PE X (.BinOp a .Mult b pos) (tI X G W (dOp2 opMul fa fb)) := i_op op_mulDD ha hb
theorem bMod (C : Ctx X G W k) (ha : PE X a (tI X G W fa)) (hb : PE X b (tI X G W fb)) : PE X (.BinOp a .Mod b pos) (tI X G W (dOp2 opMod fa fb)) := i_op op_modDD ha hb
theorem bFloorDiv (C : Ctx X G W k) (ha : PE X a (tI X G W fa)) (hb : PE X b (tI X G W fb)) : PE X (.BinOp a .FloorDiv b pos) (tI X G W (dOp2 opDiv fa fb)) := i_op op_divDD ha hb
theorem bPow (C : Ctx X G W k) (ha : PE X a (tI X G W fa)) (hb : PE X b (tI X G W fb)) : PE X (.BinOp a .Pow b pos) (tI X G W (dOp2 opPow fa fb)) := i_op op_powDD ha hb
theorem bLShift (C : Ctx X G W k) (ha : PE X a (tI X G W fa)) (hb : PE X b (tI X G W fb)) : PE X (.BinOp a .LShift b pos) (tI X G W (dOp2 opShl fa fb)) := i_op op_shlDD ha hb
theorem bRShift (C : Ctx X G W k) (ha : PE X a (tI X G W fa)) (hb : PE X b (tI X G W fb)) : PE X (.BinOp a .RShift b pos) (tI X G W (dOp2 opShr fa fb)) := i_op op_shrDD ha hb
theorem bBitAnd (C : Ctx X G W k) (ha : PE X a (tI X G W fa)) (hb : PE X b (tI X G W fb)) : PE X (.BinOp a .BitAnd b pos) (tI X G W (dOp2 opAnd fa fb)) := i_op op_andDD ha hb
theorem bBitOr (C : Ctx X G W k) (ha : PE X a (tI X G W fa)) (hb : PE X b (tI X G W fb)) : PE X (.BinOp a .BitOr b pos) (tI X G W (dOp2 opOr fa fb)) := i_op op_orDD ha hb
theorem bBitXor (C : Ctx X G W k) (ha : PE X a (tI X G W fa)) (hb : PE X b (tI X G W fb)) : PE X (.BinOp a .BitXor b pos) (tI X G W (dOp2 opXor fa fb)) := i_op op_xorDD ha hb
theorem uUSub (C : Ctx X G W k) (ha : PE X a (tI X G W fa)) : PE X (.UnaryOp .USub a pos) (tI X G W (dOp1 opNeg fa)) := i_un un_negDD ha
/-! comparisons: the operation, then value or test -/
theorem qEq (C : Ctx X G W k) : OpR X (compareOp .Eq) (rd2 G (opB eqB)) := op_eqDD C.hK C.rm.u64
theorem qNotEq (C : Ctx X G W k) : OpR X (compareOp .NotEq) (rd2 G (opB neB)) := op_neDD C.hK C.rm.u64
theorem qIn (C : Ctx X G W k) : OpR X (compareOp .In) (rd2 G (opB inB)) := op_inDD C.hK C.rm.u65
theorem qNotIn (C : Ctx X G W k) : OpR X (compareOp .NotIn) (rd2 G (opB ninB)) := op_ninDD C.hK C.rm.u65
theorem qLt (C : Ctx X G W k) : OpR X (compareOp .Lt) (rd2 G (opB ltB)) := op_ltDD C.hK C.rm.u0
theorem qLtE (C : Ctx X G W k) : OpR X (compareOp .LtE) (rd2 G (opB leB)) := op_leDD
theorem qGt (C : Ctx X G W k) : OpR X (compareOp .Gt) (rd2 G (opB gtB)) := op_gtDD
theorem qGtE (C : Ctx X G W k) : OpR X (compareOp .GtE) (rd2 G (opB geB)) := op_geDD
theorem qIs (C : Ctx X G W k) : OpR X (compareOp .Is) (rd2 G (opB isB)) := op_isDD
theorem qIsNot (C : Ctx X G W k) : OpR X (compareOp .IsNot) (rd2 G (opB nisB)) := op_nisDD
theorem cmp {op : CmpOp} {f : D → D → Mem → Option Bool} (ho : OpR X (compareOp op) (rd2 G (opB f))) (ha : PE X a (tI X G W fa)) (hb : PE X b (tI X G W fb)) (hm : behindInMarks op b = false := by with_unfolding_all rfl) : PE X (.Compare a [op] [b] pos) (tI X G W (dOp2 (opB f) fa fb)) := i_cmp ho ha hb hm
theorem tcmp {op : CmpOp} {f : D → D → Mem → Option Bool} (ho : OpR X (compareOp op) (rd2 G (opB f))) (ha : PE X a (tI X G W fa)) (hb : PE X b (tI X G W fb)) (hm : behindInMarks op b = false := by with_unfolding_all rfl) : PT X (.Compare a [op] [b] pos) (tT X G W (dTru (dOp2 (opB f) fa fb))) := t_cmp ho ha hb hm
theorem chain {op op' : CmpOp} {f g : D → D → Mem → Option Bool} (ho : OpR X (compareOp op) (rd2 G (opB f))) (ho' : OpR X (compareOp op') (rd2 G (opB g))) (ha : PE X a (tI X G W fa)) (hb : PE X b (tI X G W fb)) (hc : PE X c (tI X G W fc))
    (hm : lastMarks [op, op'] [b, c] = false := by with_unfolding_all rfl) : PE X (.Compare a [op, op'] [b, c] pos) (tI X G W (dChain f g fa fb fc)) := i_chain ho ho' ha hb hc hm
theorem tchain {op op' : CmpOp} {f g : D → D → Mem → Option Bool} (ho : OpR X (compareOp op) (rd2 G (opB f))) (ho' : OpR X (compareOp op') (rd2 G (opB g))) (ha : PE X a (tI X G W fa)) (hb : PE X b (tI X G W fb)) (hc : PE X c (tI X G W fc))
    (hm : lastMarks [op, op'] [b, c] = false := by with_unfolding_all rfl) : PT X (.Compare a [op, op'] [b, c] pos) (tT X G W (dTru (dChain f g fa fb fc))) := t_chain ho ho' ha hb hc hm
theorem tru (C : Ctx X G W k) (ha : PE X a (tI X G W fa)) (he : ∀ whole, isTrue a X.env whole = (do let v ← whole; standAt a.pos; holding [v] (truthy v)) := by intro _; rfl) : PT X a (tT X G W (dTru fa)) := t_tru C.hK ha he
theorem tnot (ha : PT X a (tT X G W ta)) : PT X (.UnaryOp .Not a pos) (tT X G W (tNotD ta)) := t_not ha
theorem w1 {op : BoolOp} (ha : PT X a (tT X G W ta)) : PW X (.BoolOp op [a] pos) (tT X G W ta) := w_and1 ha
theorem wand (ha : PT X a (tT X G W ta)) (hb : PW X (.BoolOp .And (b :: es) pos) (tT X G W tb)) : PW X (.BoolOp .And (a :: b :: es) pos) (tT X G W (tAndD ta tb)) := w_and ha hb
theorem wor (ha : PT X a (tT X G W ta)) (hb : PW X (.BoolOp .Or (b :: es) pos) (tT X G W tb)) : PW X (.BoolOp .Or (a :: b :: es) pos) (tT X G W (tOrD ta tb)) := w_or ha hb
theorem one_ {op : BoolOp} (h : PE X a (tI X G W fa)) : PE X (.BoolOp op [a] pos) (tI X G W fa) := pe_one h
theorem and_ (C : Ctx X G W k) (ha : PE X a (tI X G W fa)) (hb : PE X (.BoolOp .And (b :: es) pos) (tI X G W fb)) : PE X (.BoolOp .And (a :: b :: es) pos) (tI X G W (dAnd fa fb)) := i_and C.hK ha hb
theorem or_ (C : Ctx X G W k) (ha : PE X a (tI X G W fa)) (hb : PE X (.BoolOp .Or (b :: es) pos) (tI X G W fb)) : PE X (.BoolOp .Or (a :: b :: es) pos) (tI X G W (dOr fa fb)) := i_or C.hK ha hb
theorem not_ (C : Ctx X G W k) (ha : PE X a (tI X G W fa)) : PE X (.UnaryOp .Not a pos) (tI X G W (dNot fa)) := i_not C.hK ha
/-! arguments, displays -/
theorem an : PA X [] (tL X G W dNil) := i_nil
theorem ac (ha : PE X e (tI X G W fe)) (hr : PA X es (tL X G W fl)) (hs : starEach (e :: es) X.env = (false, eval e X.env) :: starEach es X.env := by rfl) : PA X (e :: es) (tL X G W (dCons fe fl)) := i_cons ha hr hs
/-! subscripts -/
theorem ix (C : Ctx X G W k) (ha : PE X a (tI X G W fa)) (hb : PE X b (tI X G W fb)) (hs : PlainIx b := by exact fun _ _ => rfl) : PE X (.Subscript a b pos) (tI X G W (dOp2 opIx fa fb)) := i_ix (ix_DD C.hK) ha hb hs
theorem sl (C : Ctx X G W k) {lo hi : Option Expr} {fo fh : Env → Mem → R (Option Int)} (he : PE X e (tI X G W fe)) (hl : PO X lo (tO X G W fo)) (hh : PO X hi (tO X G W fh)) : PE X (.Subscript e (.Slice lo hi none p2) pos) (tI X G W (dSl fe fo fh)) := i_slice C.hK he hl hh
theorem rev {kk : Nat} {q1 q2 q3 : Pos} (C : Ctx X G W k) (he : PE X e (tI X G W fe)) : PE X (.Subscript e (.Slice none none (some (.UnaryOp .USub (.Constant (.int 1) kk q1) q2)) q3) pos) (tI X G W (dOp1 opRev fe)) := i_rev C.hK he
/-! calls of built-ins -/
theorem cB {id : String} {f : OpN} (hc : CallR X (.builtin id) (rdn G f)) (hv : bootBuiltins x = some (.builtin id)) (hm : X.mg x = none) (ha : PA X (e :: es) (tL X G W fl)) (hg : Gl X x := by rfl) (hn : x ≠ "__name__" := by decide) (hdb : (x == ("__debug__" : Str)) = false := by decide)
    (he : starEach (e :: es) X.env = (false, eval e X.env) :: starEach es X.env := by rfl) (hpl : (backTo pos (starEach es X.env)).any (·.1) = false := by rfl) : PE X (.Call (.Name x p) (e :: es) [] pos) (tI X G W (dOpN f fl)) := i_cB hc hg hm hv ha hn hdb he hpl
theorem cT {T : String} {f : OpN} (hc : CallR X (.type T) (rdn G f)) (hv : bootBuiltins x = some (.type T)) (hm : X.mg x = none) (ha : PA X (e :: es) (tL X G W fl)) (hg : Gl X x := by rfl) (hn : x ≠ "__name__" := by decide) (hdb : (x == ("__debug__" : Str)) = false := by decide)
    (he : starEach (e :: es) X.env = (false, eval e X.env) :: starEach es X.env := by rfl) (hpl : (backTo pos (starEach es X.env)).any (·.1) = false := by rfl) : PE X (.Call (.Name x p) (e :: es) [] pos) (tI X G W (dOpN f fl)) := i_cT hc hg hm hv ha hn hdb he hpl
theorem c_repr' (C : Ctx X G W k) : CallR X (.builtin "repr") (rdn G nRepr) := c_repr C.hK C.rm.gd C.rm.u100
/-! calls of own functions -/
/-- a def at hand: its place, its facts -/
structure FnE (K : PySem.W.Frag) (mg : Str → Option Value) (x qual : Str) (st : Stmt) (f : Addr) (fd : FuncData) : Prop where
  fn : L2.Fun K x qual st f fd
  gl : mg x = some (.ref f)
theorem cal {fd : FuncData} {ps : List Str} {f : Fun} {j : Nat} {fa : Addr} (C : Ctx X G W k) (F : FnG X.calm X.prog X.w X.K X.mg X.base j fa fd ps (spI G ps.length f)) (hm : X.mg x = some (.ref fa)) (hk : PySem.W.keepIn X.K (.ref fa) = true) (hj : j ≤ k := by decide) : Cal X G x fd ps f :=
  ⟨j, fa, F, C.rm.mono hj, hm, hk⟩
theorem call_ {fd : FuncData} {ps : List Str} {f : Fun} (C : Ctx X G W k) (F : Cal X G x fd ps f) (hb : ∀ us : List Value, us.length = ps.length → bindArgs fd ⟨us, []⟩ = pure (ps.zip us)) (ha : PA X (e :: es) (tL X G W fl)) (hn : ∀ ev M ds M1, fl ev M = .ok ds M1 → ds.length = ps.length)
    (hg : Gl X x := by rfl) (hdb : (x == ("__debug__" : Str)) = false := by decide)
    (he : starEach (e :: es) X.env = (false, eval e X.env) :: starEach es X.env := by rfl) (hpl : (backTo pos (starEach es X.env)).any (·.1) = false := by rfl) :
    PE X (.Call (.Name x p) (e :: es) [] pos) (tI X G W (dCal f fl)) := i_call C.tk hg F hb ha hdb hn he hpl
theorem kn : PK X [] (tL X G W dNil) := k_nil
theorem kc {kws : List Keyword} {nm : Option Str} {kpos : Pos} (ha : PE X e (tI X G W fe)) (hr : PK X kws (tL X G W fl)) : PK X (⟨nm, e, kpos⟩ :: kws) (tL X G W (dCons fe fl)) := k_cons ha hr
theorem callK {fd : FuncData} {ps : List Str} {f : Fun} {kws : List Keyword} {n : Nat} {ks : List Str} {S : List (Nat ⊕ D)} {fk : DenL} (C : Ctx X G W k) (F : Cal X G x fd ps f) (hb : CBind X.K fd ps n ks S) (ha : PA X (e :: es) (tL X G W fl)) (hkw : PK X kws (tL X G W fk))
    (hg : Gl X x := by rfl) (hdb : (x == ("__debug__" : Str)) = false := by decide) (hall : (backToKw pos (keywordEach kws X.env)).all (·.1.isSome) = true := by rfl) (hks : (backToKw pos (keywordEach kws X.env)).filterMap (·.1) = ks := by rfl)
    (he : starEach (e :: es) X.env = (false, eval e X.env) :: starEach es X.env := by rfl)
    (hpl : ((backTo pos (starEach (e :: es) X.env)).any (·.1) || (backToKw pos (keywordEach kws X.env)).any (·.1.isNone)) = false := by rfl) :
    PE X (.Call (.Name x p) (e :: es) kws pos) (tI X G W (dCalK f n ks.length S fl fk)) := i_callK C.tk hg F hb ha hkw hdb hall hks he hpl
theorem callK0 {fd : FuncData} {ps : List Str} {f : Fun} {kws : List Keyword} {ks : List Str} {S : List (Nat ⊕ D)} {fk : DenL} (C : Ctx X G W k) (F : Cal X G x fd ps f) (hb : CBind X.K fd ps 0 ks S) (hkw : PK X kws (tL X G W fk))
    (hg : Gl X x := by rfl) (hdb : (x == ("__debug__" : Str)) = false := by decide) (hall : (backToKw pos (keywordEach kws X.env)).all (·.1.isSome) = true := by rfl) (hks : (backToKw pos (keywordEach kws X.env)).filterMap (·.1) = ks := by rfl)
    (hpl : ((backTo pos (starEach [] X.env)).any (·.1) || (backToKw pos (keywordEach kws X.env)).any (·.1.isNone)) = false := by rfl) :
    PE X (.Call (.Name x p) [] kws pos) (tI X G W (dCalK f 0 ks.length S dNil fk)) := i_callK0 C.tk hg F hb hkw hdb hall hks hpl
/-! methods -/
theorem met {o : Expr} {fo : Den} {name : Str} {m : MetD} {apos : Pos} {pl : Sem Bool} (hm : MetR X G W name m) (ho : PE X o (tI X G W fo)) (ha : PA X (e :: es) (tL X G W fl))
    (he : starEach (e :: es) X.env = (false, eval e X.env) :: starEach es X.env := by rfl) (hpl : (backTo pos (starEach es X.env)).any (·.1) = false := by rfl)
    (ht : eval (.Call (.Attribute o name apos) (e :: es) [] pos) X.env = (do
      let ov ← eval o X.env
      standAt apos.atName
      let (f, first) ← holding [ov] (getMethod ov name pl)
      callWith pos f first (backTo pos (starEach (e :: es) X.env)) (backToKw pos (keywordEach [] X.env))) := by rfl) :
    PE X (.Call (.Attribute o name apos) (e :: es) [] pos) (tI X G W (dMet m fo fl)) := i_met hm ho ha he hpl ht
theorem met0 {o : Expr} {fo : Den} {name : Str} {m : MetD} {apos : Pos} {pl : Sem Bool} (hm : MetR X G W name m) (ho : PE X o (tI X G W fo))
    (ht : eval (.Call (.Attribute o name apos) [] [] pos) X.env = (do
      let ov ← eval o X.env
      standAt apos.atName
      let (f, first) ← holding [ov] (getMethod ov name pl)
      callWith pos f first (backTo pos (starEach [] X.env)) (backToKw pos (keywordEach [] X.env))) := by rfl) :
    PE X (.Call (.Attribute o name apos) [] [] pos) (tI X G W (dMet m fo dNil)) := i_met0 hm ho ht
theorem mAppend (C : Ctx X G W k) : MetR X G W "append" (mL nAppend) := met_L C.hK F.slot_list_append F.type_list_append m_append
theorem mPop (C : Ctx X G W k) : MetR X G W "pop" (mL nPop) := met_L C.hK F.slot_list_pop F.type_list_pop m_pop
theorem mCountT (C : Ctx X G W k) : MetR X G W "count" (mT nCountT) := met_T C.hK F.slot_tuple_count F.type_tuple_count (m_countT C.hK)
end
/-! statements -/
section
variable {X : Cx} {G : GC} {W : WX} {k : Nat} {e c tg iter : Expr} {a b ss : List Stmt} {st : Stmt} {fe : Den} {fs fb : DenS} {ft : DenT} {pos p : Pos} {x : Str}
theorem s0 : PSs X [] (tS X G W sSkip) := ss_nil
theorem s1 (h1 : PS X st (tS X G W fs)) : PSs X [st] (tS X G W fs) := ss_one h1
theorem sc (h1 : PS X st (tS X G W fs)) (h2 : PSs X a (tS X G W fb)) : PSs X (st :: a) (tS X G W (sSeq fs fb)) := ss_cons h1 h2
theorem drop (h : PE X e (tI X G W fe)) (hs : swapsWith e none pos.line X.env = pure false := by rfl) : PS X (.Expr e pos) (tS X G W (sDrop fe)) := s_drop h hs
theorem set_ (i : Nat) (hN : X.N.Nodup) (h : PE X e (tI X G W fe)) (hi : X.N[i]? = some x := by rfl) (hx : Loc X.env.scope x := by first | exact Or.inl rfl | exact Or.inr rfl) (hs : swapsWith e (some (.Name x p)) pos.line X.env = pure false := by rfl) (hf : X.fn x = true ∨ X.env.scope.names.lookup x = some .local := by first | exact Or.inl rfl | exact Or.inr rfl) :
    PS X (.Assign [.Name x p] e pos) (tS X G W (sSet i fe)) := s_set hN hi hx h hs hf
theorem while_ (n : Nat) (hp : PassesOwn (model X.prog X.w) X.A X.env X.xe) (hc : PT X c (tT X G W ft)) (hb : PSs X b (tS X G W fb)) : PS X (.While c b [] pos) (tS X G W (sWhile n ft fb)) := s_while hp hc hb
theorem gn (i : Nat) (hN : X.N.Nodup) (hi : X.N[i]? = some x := by rfl) (hx : Loc X.env.scope x := by first | exact Or.inl rfl | exact Or.inr rfl) (hf : X.fn x = true ∨ X.env.scope.names.lookup x = some .local := by first | exact Or.inl rfl | exact Or.inr rfl) : PG X (.Name x pos) (tgR X G false (gN i) [i]) := g_name hN hi hx hf
theorem for_ {pr : Bool} {fi : ItD} {g : TgD} {is : List Nat} (hp : PassesOwn (model X.prog X.w) X.A X.env X.xe) (hi : PI X tg iter (tW pr X G W fi)) (hg : PG X tg (tgR X G pr g is)) (hb : PSs X b (tS X G W fb)) (hc : X.calm = true := by rfl) (hs : ∀ x, foldedSetIterable iter X.env x = pure x := by intro _; rfl) :
    PS X (.For tg iter b [] pos) (tS X G W (sFor fi g fb)) := s_for hp hc hi hg hb hs
theorem setIx {o i : Expr} {fo fi : Den} (he : PE X e (tI X G W fe)) (ho : PE X o (tI X G W fo)) (hi : PE X i (tI X G W fi)) (hs : swapsWithSole [.Subscript o i p] e pos.line X.env = pure false := by rfl) (hw : swappedStores [.Subscript o i p] e X.env = pure none := by rfl)
    (h1 : (assignEach [.Subscript o i p] X.env).map (·.2) = [assign (.Subscript o i p) X.env] := by rfl)
    (ha : ∀ v, assign (.Subscript o i p) X.env v = (do
      let ov ← holding [v] (eval o X.env)
      let iv ← holding [v, ov] (eval i X.env)
      standAt p
      holding [v, ov, iv] (setItem ov iv v)
      release [v, ov, iv] []) := by intro _; rfl) : PS X (.Assign [.Subscript o i p] e pos) (tS X G W (sSetIx nSetIx fo fi fe)) := s_setIx set_ix he ho hi hs hw h1 ha
/-! iterables -/
theorem iAny {l : Expr} {fe : Den} (C : Ctx X G W k) (hl : PE X l (tI X G W fe)) : PI X tg l (tW false X G W (itAny fe)) := w_any C.hK hl
theorem iR1 {a : Expr} {fl : DenL} (hm : X.mg "range" = none) (ha : PA X [a] (tL X G W fl)) (h1 : ∀ ev M ds M1, fl ev M = .ok ds M1 → ds.length = 1) (hg : Gl X "range" := by rfl) (hs : starEach [a] X.env = [(false, eval a X.env)] := by rfl) :
    PI X tg (.Call (.Name "range" p) [a] [] pos) (tW false X G W (itRange fl)) := w_range1 hg hm ha hs h1
theorem iR2 {a b : Expr} {fl : DenL} (hm : X.mg "range" = none) (ha : PA X [a, b] (tL X G W fl)) (h1 : ∀ ev M ds M1, fl ev M = .ok ds M1 → ds.length = 2) (hg : Gl X "range" := by rfl) (hs : starEach [a, b] X.env = [(false, eval a X.env), (false, eval b X.env)] := by rfl) (hs2 : starEach [b] X.env = [(false, eval b X.env)] := by rfl) :
    PI X tg (.Call (.Name "range" p) [a, b] [] pos) (tW false X G W (itRange fl)) := w_range2 hg hm ha hs hs2 h1
/-! comprehensions -/
theorem cmpr {elt : Expr} {scope : Scope} {fi : ItD} {g : TgD} {is : List Nat} {pr : Bool} {f : Den} (C : Ctx X G W k) (N' : List Str) (sc' : Scope) (own : List (Str × Nat)) (hN : X.N.Nodup) (hi : PI X tg iter (tW pr X G W fi))
    (hg : ∀ (s : Shared) (H : Hp) (C : Addr) (cl : List (Str × Addr)) (fp : List Addr), PG (X.blk s H scope (compEnvC scope cl C X.env) fp) tg (tgR (X.blk s H scope (compEnvC scope cl C X.env) fp) G pr g is))
    (he : ∀ (s : Shared) (H : Hp) (C : Addr) (cl : List (Str × Addr)) (fp : List Addr), Ctx (X.blk s H scope (compEnvC scope cl C X.env) fp) G noW k → PE (X.blk s H scope (compEnvC scope cl C X.env) fp) elt (tI (X.blk s H scope (compEnvC scope cl C X.env) fp) G noW f))
    (ok : blkC N' sc' scope own = true := by decide +kernel) (hN' : X.N = N' := by rfl) (hsc' : X.env.scope = sc' := by rfl) (hgs : ∀ i ∈ is, i ∈ own.map (·.2) := by decide) (hc : X.calm = true := by rfl) (hs : ∀ x, foldedSetIterable iter X.env x = pure x := by intro _; rfl) :
    PE X (.ListComp elt [⟨tg, iter, [], 0⟩] scope pos) (tI X G W (dComp fi g tYesD f (own.map (·.2)))) := i_comp hc hN hi (blkOk_by (hN'.symm ▸ hsc'.symm ▸ ok)) hgs hg (fun s H A cl fp => he s H A cl fp (C.blk ..)) hs
theorem cmprIf {elt cnd : Expr} {scope : Scope} {fi : ItD} {g : TgD} {is : List Nat} {pr : Bool} {f : Den} {t : DenT} (C : Ctx X G W k) (N' : List Str) (sc' : Scope) (own : List (Str × Nat)) (hN : X.N.Nodup) (hi : PI X tg iter (tW pr X G W fi))
    (hg : ∀ (s : Shared) (H : Hp) (C : Addr) (cl : List (Str × Addr)) (fp : List Addr), PG (X.blk s H scope (compEnvC scope cl C X.env) fp) tg (tgR (X.blk s H scope (compEnvC scope cl C X.env) fp) G pr g is))
    (ht : ∀ (s : Shared) (H : Hp) (C : Addr) (cl : List (Str × Addr)) (fp : List Addr), Ctx (X.blk s H scope (compEnvC scope cl C X.env) fp) G noW k → PT (X.blk s H scope (compEnvC scope cl C X.env) fp) cnd (tT (X.blk s H scope (compEnvC scope cl C X.env) fp) G noW t))
    (he : ∀ (s : Shared) (H : Hp) (C : Addr) (cl : List (Str × Addr)) (fp : List Addr), Ctx (X.blk s H scope (compEnvC scope cl C X.env) fp) G noW k → PE (X.blk s H scope (compEnvC scope cl C X.env) fp) elt (tI (X.blk s H scope (compEnvC scope cl C X.env) fp) G noW f))
    (ok : blkC N' sc' scope own = true := by decide +kernel) (hN' : X.N = N' := by rfl) (hsc' : X.env.scope = sc' := by rfl) (hgs : ∀ i ∈ is, i ∈ own.map (·.2) := by decide) (hc : X.calm = true := by rfl) (hs : ∀ x, foldedSetIterable iter X.env x = pure x := by intro _; rfl) :
    PE X (.ListComp elt [⟨tg, iter, [cnd], 0⟩] scope pos) (tI X G W (dComp fi g t f (own.map (·.2)))) := i_compIf hc hN hi (blkOk_by (hN'.symm ▸ hsc'.symm ▸ ok)) hgs hg (fun s H A cl fp => ht s H A cl fp (C.blk ..)) (fun s H A cl fp => he s H A cl fp (C.blk ..)) hs
theorem setC {y : Str} {py spos : Pos} {elt : Expr} {scope : Scope} {fi : ItD} {g : TgD} {is : List Nat} {pr : Bool} {f : Den} (C : Ctx X G W k) (i : Nat) (N' : List Str) (sc' : Scope) (own : List (Str × Nat)) (hN : X.N.Nodup) (hi : PI X tg iter (tW pr X G W fi))
    (hg : ∀ (s : Shared) (H : Hp) (C : Addr) (cl : List (Str × Addr)) (fp : List Addr), PG (X.blk s H scope (compEnvC scope cl C X.env) fp) tg (tgR (X.blk s H scope (compEnvC scope cl C X.env) fp) G pr g is))
    (he : ∀ (s : Shared) (H : Hp) (C : Addr) (cl : List (Str × Addr)) (fp : List Addr), Ctx (X.blk s H scope (compEnvC scope cl C X.env) fp) G noW k → PE (X.blk s H scope (compEnvC scope cl C X.env) fp) elt (tI (X.blk s H scope (compEnvC scope cl C X.env) fp) G noW f))
    (hy : X.N[i]? = some y := by rfl) (hyl : X.env.scope.names.lookup y = some .local := by rfl) (hk : X.env.scope.kind = .function := by rfl) (hl : (py.line == pos.line) = true := by rfl) (hna : (scope.names.any fun (n, k) => n == y && (k == .local || k == .cell)) = false := by rfl)
    (ok : blkC N' sc' scope own = true := by decide +kernel) (hN' : X.N = N' := by rfl) (hsc' : X.env.scope = sc' := by rfl) (hgs : ∀ i ∈ is, i ∈ own.map (·.2) := by decide) (hc : X.calm = true := by rfl) (hs : ∀ x, foldedSetIterable iter X.env x = pure x := by intro _; rfl) :
    PS X (.Assign [.Name y py] (.ListComp elt [⟨tg, iter, [], 0⟩] scope pos) spos) (tS X G W (sSet i (dComp fi g tYesD f (own.map (·.2))))) := s_setComp hc hN hy hyl (sw_true hk hyl hl hna) hi (blkOk_by (hN'.symm ▸ hsc'.symm ▸ ok)) hgs hg (fun s H A cl fp => he s H A cl fp (C.blk ..)) hs
theorem setCIf {y : Str} {py spos : Pos} {elt cnd : Expr} {scope : Scope} {fi : ItD} {g : TgD} {is : List Nat} {pr : Bool} {f : Den} {t : DenT} (C : Ctx X G W k) (i : Nat) (N' : List Str) (sc' : Scope) (own : List (Str × Nat)) (hN : X.N.Nodup) (hi : PI X tg iter (tW pr X G W fi))
    (hg : ∀ (s : Shared) (H : Hp) (C : Addr) (cl : List (Str × Addr)) (fp : List Addr), PG (X.blk s H scope (compEnvC scope cl C X.env) fp) tg (tgR (X.blk s H scope (compEnvC scope cl C X.env) fp) G pr g is))
    (ht : ∀ (s : Shared) (H : Hp) (C : Addr) (cl : List (Str × Addr)) (fp : List Addr), Ctx (X.blk s H scope (compEnvC scope cl C X.env) fp) G noW k → PT (X.blk s H scope (compEnvC scope cl C X.env) fp) cnd (tT (X.blk s H scope (compEnvC scope cl C X.env) fp) G noW t))
    (he : ∀ (s : Shared) (H : Hp) (C : Addr) (cl : List (Str × Addr)) (fp : List Addr), Ctx (X.blk s H scope (compEnvC scope cl C X.env) fp) G noW k → PE (X.blk s H scope (compEnvC scope cl C X.env) fp) elt (tI (X.blk s H scope (compEnvC scope cl C X.env) fp) G noW f))
    (hy : X.N[i]? = some y := by rfl) (hyl : X.env.scope.names.lookup y = some .local := by rfl) (hk : X.env.scope.kind = .function := by rfl) (hl : (py.line == pos.line) = true := by rfl) (hna : (scope.names.any fun (n, k) => n == y && (k == .local || k == .cell)) = false := by rfl)
    (ok : blkC N' sc' scope own = true := by decide +kernel) (hN' : X.N = N' := by rfl) (hsc' : X.env.scope = sc' := by rfl) (hgs : ∀ i ∈ is, i ∈ own.map (·.2) := by decide) (hc : X.calm = true := by rfl) (hs : ∀ x, foldedSetIterable iter X.env x = pure x := by intro _; rfl) :
    PS X (.Assign [.Name y py] (.ListComp elt [⟨tg, iter, [cnd], 0⟩] scope pos) spos) (tS X G W (sSet i (dComp fi g t f (own.map (·.2))))) := s_setCompIf hc hN hy hyl (sw_true hk hyl hl hna) hi (blkOk_by (hN'.symm ▸ hsc'.symm ▸ ok)) hgs hg (fun s H A cl fp => ht s H A cl fp (C.blk ..)) (fun s H A cl fp => he s H A cl fp (C.blk ..)) hs
/-! exceptions -/
/-- an own exception class whose __init__ is walked -/
structure ExE (P : Program) (w : World) (K : PySem.W.Frag) (mg : Str → Option Value) (x : Str) (C : Addr) (N : List Str) (l : List (Str × Nat)) : Prop where
  gl : mg x = some (.ref C)
  cls : OexC K C
  ini : ∃ (fI : Addr) (fd : FuncData), PySem.W.findIn K (.ref C) "__init__" = some (some (.ref fI)) ∧ PySem.W.typeIn K (.ref fI) = some (.type "function") ∧ (∀ us : List Value, us.length = N.length → bindArgs fd ⟨us, []⟩ = pure (N.zip us)) ∧
    ∀ base : Heap, FnOk P w K mg base (L2.CX P w) 1 fI fd N (fun vs H Q E => vs.length = N.length ∧ spN K C (N.length - 1) l vs H Q E)
  is_ : ExcIs' K C
theorem raise_ {x : Str} {C : Addr} {N : List Str} {l : List (Str × Nat)} {es : List Expr} {fl : DenL} {pos2 : Pos} (Cx : Ctx X G W k) (E : ExE X.prog X.w X.K X.mg x C N l) (ha : PA X (e :: es) (tL X G W fl)) (c : Str) (hC : G.ca c = C := by rfl) (hk : 2 ≤ k := by decide)
    (hN : N.length - 1 + 1 = N.length := by rfl) (hi : ∀ q ∈ l, q.2 < N.length - 1 := by decide) (hN9 : N.length ≤ 1000 := by decide) (hc : X.calm = true := by rfl) (hg : Gl X x := by rfl) (hdb : (x == ("__debug__" : Str)) = false := by decide)
    (he : starEach (e :: es) X.env = (false, eval e X.env) :: starEach es X.env := by rfl) (hpl : (backTo pos (starEach es X.env)).any (·.1) = false := by rfl) :
    PS X (.Raise (some (.Call (.Name x p) (e :: es) [] pos)) none pos2) (tS X G W (sRaise c (N.length - 1) l fl)) := by
  obtain ⟨fI, fd, iC, tI', hb, F⟩ := E.ini
  exact s_raise hc Cx.tk hC E.cls iC tI' (F X.base) (Cx.rm.mono hk) hN hi hN9 hb hg E.gl ha hdb he hpl
theorem tryAs {x n : Str} {cv : Value} {body suite : List Stmt} {b₀ : Stmt} {np pos' : Pos} {fb fs : DenS} (C : Ctx X G W k) (i : Nat) (cm : Str → Option Bool) (hN : X.N.Nodup) (hm : X.mg x = some cv)
    (hcm : ∀ c b, cm c = some b → PySem.W.exmOne X.K (.ref (G.ca c)) cv = some b)
    (hb : ∀ (W' : WX) (pn : List (Addr × Obj)) (xe : Value → Shared → Prop), Ctx (X.tr pn xe) G W' k → PassesOwn (model X.prog X.w) X.A X.env xe → PSs (X.tr pn xe) body (tS (X.tr pn xe) G W' fb))
    (hsu : ∀ (a : Addr) (oe : Obj) (pn : List (Addr × Obj)), Ctx (X.suite a ((a, oe) :: pn)) G noW k → PSs (X.suite a ((a, oe) :: pn)) (b₀ :: suite) (tS (X.suite a ((a, oe) :: pn)) G noW fs))
    (hs : X.stack = X.env :: X.outer := by rfl) (hf : X.env.frame = some X.env.locals := by rfl) (hi : X.N[i]? = some n := by rfl) (hln : X.env.kindOf n = some .local := by rfl) (hg : Gl X x := by rfl) (hd : (x == ("__debug__" : Str)) = false := by decide) :
    PS X (.Try body [.ExceptHandler (some (.Name x np)) (some n) (b₀ :: suite) pos'] [] [] pos) (tS X G W (sTryAs i cm fb fs)) :=
  s_tryAs hs hf hN hi hln ⟨hg, hd, .inl hm⟩ C.tk hcm (fun W' pn xe t po => hb W' pn xe (C.tr t) po) (fun a oe pn => hsu a oe pn (C.su a _))
theorem isE {ce : Expr} {cV : V} {u : Value} {p1 : Pos} (i : Nat) (own : List (Str × Bool)) (hm : X.mg "isinstance" = none) (hce : PE X ce (tC cV)) (hc : ClsV cV u)
    (hO : ∀ c b, own.lookup c = some b → ExcIs' X.K (G.ca c) ∧ PySem.W.kitOne X.K (.ref (G.ca c)) u = some b) (hg : Gl X "isinstance" := by rfl) (hN : X.N[i]? = some x := by rfl) (hv : Vis X.env.scope x := by first | exact Or.inl rfl | exact Or.inr (Or.inl rfl) | exact Or.inr (Or.inr rfl)) (h1 : (x == ("__debug__" : Str)) = false := by decide) (h2 : (x == ("__classdict__" : Str)) = false := by decide)
    (hs : starEach [.Name x p1, ce] X.env = (false, eval (.Name x p1) X.env) :: starEach [ce] X.env := by rfl) (hs2 : starEach [ce] X.env = (false, eval ce X.env) :: starEach [] X.env := by rfl) (hpl : (backTo pos (starEach [ce] X.env)).any (·.1) = false := by rfl) :
    PE X (.Call (.Name "isinstance" p) [.Name x p1, ce] [] pos) (tI X G W (dIsE i own)) := i_isE hg hm hN hv h1 h2 hce hc hO hs hs2 hpl
theorem xf {p1 : Pos} {f : Str} (i : Nat) (cs : List Str) (hO : ∀ c, c ∈ cs → ExcIs' X.K (G.ca c) ∧ PySem.W.findIn X.K (.ref (G.ca c)) f = some none) (hN : X.N[i]? = some x := by rfl) (hv : Vis X.env.scope x := by first | exact Or.inl rfl | exact Or.inr (Or.inl rfl) | exact Or.inr (Or.inr rfl)) (h1 : (x == ("__debug__" : Str)) = false := by decide) (h2 : (x == ("__classdict__" : Str)) = false := by decide)
    (hb : attributeBase (.Name x p1) f X.env (eval (.Name x p1) X.env) = eval (.Name x p1) X.env := by rfl) : PE X (.Attribute (.Name x p1) f pos) (tI X G W (dXf i cs f)) := i_xf hN hv h1 h2 hO hb
theorem clsO {C : Addr} (hm : X.mg x = some (.ref C)) (hg : Gl X x := by rfl) (hd : (x == ("__debug__" : Str)) = false := by decide) : PE X (.Name x pos) (tC (.ref C)) := pe_clsO hg hm hd
theorem clsT {T : String} (hv : bootBuiltins x = some (.type T)) (hm : X.mg x = none) (hg : Gl X x := by rfl) (hn : x ≠ "__name__" := by decide) (hd : (x == ("__debug__" : Str)) = false := by decide) : PE X (.Name x pos) (tC (.ty T)) := pe_clsT hg hm hv hn hd
end
/-! a def of the text by its denotation -/
theorem fnE_den {calm : Bool} {P : Program} {w : World} {K : PySem.W.Frag} {mg : Str → Option Value} {base : Heap} {N ps : List Str} {x qual : Str} {st : Stmt} {f : Addr} {fd : FuncData} {k : Nat} {G : GC} {b : DenS} (E : FnE K mg x qual st f fd) (hK : G.K = K) (S : FnScope N ps (defScope st))
    (hbody : ∀ (cdv : Value) (A : Around) (outer : List PySem.Env) (s : Shared) (H : Hp) (E : XK), Ctx (cxG calm P w K mg base N qual (defScope st) f cdv A outer s H E) G (fun c d _ H => E c d H) k →
      PassesOwn (model P w) (A.deeper (envOfC qual (defScope st) s.heap.objs.size f cdv)) (envOfC qual (defScope st) s.heap.objs.size f cdv) (cxG calm P w K mg base N qual (defScope st) f cdv A outer s H E).xe →
      PSs (cxG calm P w K mg base N qual (defScope st) f cdv A outer s H E) (defBody st) (tS (cxG calm P w K mg base N qual (defScope st) f cdv A outer s H E) G (fun c d _ H => E c d H) b)) :
    FnG calm P w K mg base (k + 1) f fd ps (spI G ps.length (runB N.length b)) := by
  obtain ⟨⟨oc, od, kV, doc, pm, an, cdv, ct, osl, rfl, lk, hcd⟩, _⟩ := E.fn
  exact fn_den lk hcd S fun A outer s H E hr => hbody cdv A outer s H E ⟨hK, takesG, hr⟩ passesG
theorem look_cons {α : Type} {c k : Str} {x b : α} {r : List (Str × α)} (h : List.lookup c ((k, x) :: r) = some b) : (c = k ∧ x = b) ∨ List.lookup c r = some b := by
  by_cases e : c = k
  · subst e
    simp [List.lookup] at h
    exact .inl ⟨rfl, h⟩
  · have e' : (c == k) = false := by simpa using e
    simp only [List.lookup, e'] at h
    exact .inr h
end MI

set_option Elab.async false
set_option linter.all false
set_option maxRecDepth 100000
set_option maxHeartbeats 2000000
namespace MI
open PySem PySem.Spec PyProof.Rows L2
/-! the facts of the module, put together -/
theorem fnE_mk {K : PySem.W.Frag} {h : Heap} {mg : Str → Option Value} {x qual : Str} {st : Stmt} {f : Addr} {oc : Value} {od an : Option Addr} {osl : Array (Option Value)} {kV doc pm cdv ct : Value} (X : K.In h) (Gr : h.Ns mainGlobals mg)
    (a : PySem.W.nsIn K mainGlobals x = some (some (.ref f))) (l : K.lookup f = some ⟨oc, od, .func (PySem.W.fnOf x qual (defArgs st) (defBody st) (defScope st) .none kV doc pm an cdv ct), osl⟩)
    (c : PySem.W.codeIn K cdv qual = true) (k : PySem.W.keepIn K (.ref f) = true) : FnE K mg x qual st f (PySem.W.fnOf x qual (defArgs st) (defBody st) (defScope st) .none kV doc pm an cdv ct) :=
  ⟨⟨⟨oc, od, kV, doc, pm, an, cdv, ct, osl, rfl, l, c⟩, k⟩, PySem.W.mg_of X Gr a⟩
/-- the deciders of an own exception class -/
structure ExFacts (K : PySem.W.Frag) (C : Addr) : Prop where
  sa : PySem.W.findIn K (.ref C) "__setattr__" = some (some (.builtin "object.__setattr__"))
  kC : PySem.W.keepIn K (.ref C) = true
  tyC : PySem.W.typeIn K (.ref C) = some (.type "type")
  ex : ExcIs' K C
  hB : PySem.W.subIn K (.ref C) (.type "ValueError") = some true
theorem oexC_mk {K : PySem.W.Frag} {C N : Addr} {nm q : Str} {bs bm : List Value} {sn : List Str} {sub : List Value} {ab : Bool} {col : Option Bool} {dd : Option Addr} {k0 k1 k2 k3 k5 : Option Value} (F : ExFacts K C)
    (l : K.lookup C = some (excClassObj nm q C N bs bm true sn sub ab col dd k0 k1 k2 k3 k5 "ValueError.__new__")) (hbm : PySem.HandSPX.refsVE bm = true) : OexC K C :=
  ⟨⟨nm, q, N, bs, bm, sn, sub, ab, col, dd, k0, k1, k2, k3, k5, l, hbm⟩, F.sa, F.ex.hsub, F.tyC, F.kC⟩
open PySem.W PySem.Calls in
theorem exE_mk {P : Program} {w : World} {K : PySem.W.Frag} {mg : Str → Option Value} {N : List Str} {x qual self text file : Str} {scope : Scope} {f cc C D cda : Addr} {l : List (Str × Nat)} {st : List Stmt} {params : Arguments} {dV kV doc pm ct oc : Value} {an od : Option Addr} {osl : Array (Option Value)}
    {p0 p1 p2 p3 p4 p5 : Pos} {kk : Nat} {ar : Arg} {tf : Tok} {vs0 : Array Value} {ocl ccl : Value} {ocd ccd : Option Addr} {csl ccs : Array (Option Value)} {cdD : ClassData} {h : Heap} (X : K.In h) (Gr : h.Ns mainGlobals mg)
    (aC : nsIn K mainGlobals x = some (some (.ref C))) (F : ExFacts K C) (T : OexC K C) (iC : PySem.W.findIn K (.ref C) "__init__" = some (some (.ref f))) (tI' : PySem.W.typeIn K (.ref f) = some (.type "function"))
    (lk : K.lookup f = some ⟨oc, od, .func (PySem.W.ksFn "__init__" qual params (.Expr (.Call (.Attribute (.Call (.Name "super" p0) [] [] p1) "__init__" p2) [.Constant (.str text) kk p3] [] p4) p5 :: st) scope dV kV doc pm an (.ref cda) ct cc), osl⟩)
    (hcdi : PySem.W.codeIn K (.ref cda) qual = true)
    (hcode : K.lookup cda = some ⟨ccl, ccd, .fields vs0, ccs⟩) (hcc : K.lookup cc = some ⟨ocl, ocd, .cell (some (.ref D)), csl⟩) (hD : clsIn K D = some cdD) (hsub : mroIn K C (.ref D) = some true) (hsuper : nsIn K mainGlobals "super" = some none)
    (hno : nsIn K cStatics "thirdparty.any" = some none) (hmeth : ks_superIn K C D "__init__" = some (some (.builtin "ValueError.__init__")))
    (hnoA : ∀ q ∈ l, PySem.W.findIn K (.ref C) q.1 = some none)
    (hvs : vs0[2]? = some (.str file tf)) (hfile : ((P.main.file : Str) == file) = true) (htop : (P.main.scope.names.lookup ("super" : Str)).isSome = false)
    (S : InScope N scope) (hN : N[0]? = some self) (hp : (params.posonlyargs ++ params.args).head? = some ar) (har : ar.arg = self)
    (hst : ∀ L, FSt N self (PySem.W.ksEnv qual scope L f (.ref cda) cc) st l) (hne : l ≠ []) (hi : ∀ q ∈ l, q.2 + 1 < N.length) (hll : l.length ≤ 900)
    (h1 : (self == ("__debug__" : Str)) = false) (h2' : (self == ("__classdict__" : Str)) = false) (hsw : ∀ env : PySem.Env, swapsWith (.Call (.Attribute (.Call (.Name "super" p0) [] [] p1) "__init__" p2) [.Constant (.str text) kk p3] [] p4) none p5.line env = pure false)
    {pl : Addr → Sem Bool} (hcall : ∀ L, eval (.Call (.Attribute (.Call (.Name "super" p0) [] [] p1) "__init__" p2) [.Constant (.str text) kk p3] [] p4) (PySem.W.ksEnv qual scope L f (.ref cda) cc) = (do
      let ov ← attributeBase (.Call (.Name "super" p0) [] [] p1) "__init__" (PySem.W.ksEnv qual scope L f (.ref cda) cc) (eval (.Call (.Name "super" p0) [] [] p1) (PySem.W.ksEnv qual scope L f (.ref cda) cc))
      standAt p2.atName
      let (f', first) ← holding [ov] (getMethod ov "__init__" (pl L))
      callWith p4 f' first (backTo p4 (starEach [.Constant (.str text) kk p3] (PySem.W.ksEnv qual scope L f (.ref cda) cc))) []))
    (hb : ∀ us : List Value, us.length = N.length → bindArgs (PySem.W.ksFn "__init__" qual params (.Expr (.Call (.Attribute (.Call (.Name "super" p0) [] [] p1) "__init__" p2) [.Constant (.str text) kk p3] [] p4) p5 :: st) scope dV kV doc pm an (.ref cda) ct cc) ⟨us, []⟩ = pure (N.zip us)) :
    ExE P w K mg x C N l :=
  ⟨mg_of X Gr aC, T, ⟨f, _, iC, tI', hb, fun base => init_fn (k := 0) lk hcdi S hN hp har hcode hvs hfile htop hcc hD hsub (mg_none_of X Gr hsuper) hno hmeth F.hB T hst hne hnoA hi hll h1 h2' hsw hcall⟩, F.ex⟩
theorem all_nil {p : Str × Nat → Prop} : ∀ q ∈ ([] : List (Str × Nat)), p q := fun q hq => by cases hq
theorem all_cons {p : Str × Nat → Prop} {a : Str × Nat} {l : List (Str × Nat)} (h : p a) (t : ∀ q ∈ l, p q) : ∀ q ∈ a :: l, p q := fun q hq => (List.mem_cons.mp hq).elim (fun e => e ▸ h) (t q)
theorem L2free {names : List (Str × NameKind)} (h : (names.all fun y => decide (y.2 = .free → y.1 = "__class__")) = true) : ∀ x, names.lookup x = some .free → x = "__class__" := fun x e => by
  have m := PySem.mem_of_lookup e
  have q := List.all_eq_true.mp h _ m
  exact of_decide_eq_true q rfl
end MI

set_option Elab.async false
set_option linter.all false
set_option maxRecDepth 100000
set_option maxHeartbeats 2000000
namespace MI
open PySem L2
/-! the plain side: what the denotations compute -/
def iL (xs : List Int) : List D := xs.map .int
theorem iL_length (xs : List Int) : (iL xs).length = xs.length := by simp [iL]
theorem iL_append (xs ys : List Int) : iL xs ++ iL ys = iL (xs ++ ys) := by simp [iL]
theorem iL_get (xs : List Int) (i : Nat) : (iL xs)[i]? = (xs[i]?).map .int := by simp [iL]
/-- the cells but n are kept -/
structure Keep (n : Nat) (M M' : Mem) : Prop where
  le : M.length ≤ M'.length
  at_ : ∀ j, j < M.length → j ≠ n → M'[j]? = M[j]?
theorem Keep.refl {n : Nat} {M : Mem} : Keep n M M := ⟨Nat.le_refl _, fun _ _ _ => rfl⟩
theorem Keep.trans {n : Nat} {M M1 M2 : Mem} (a : Keep n M M1) (b : Keep n M1 M2) : Keep n M M2 :=
  ⟨Nat.le_trans a.le b.le, fun j h1 h2 => (b.at_ j (Nat.lt_of_lt_of_le h1 a.le) h2).trans (a.at_ j h1 h2)⟩
theorem Keep.push {n : Nat} {M : Mem} {c : Cell} : Keep n M (M ++ [c]) := ⟨by simp, fun j h _ => List.getElem?_append_left h⟩
theorem Keep.set {n : Nat} {M : Mem} {c : Cell} : Keep n M (M.set n c) := ⟨by simp, fun j h hn => by rw [List.getElem?_set_ne (Ne.symm hn)]⟩
/-- the pool of a law: a list of numbers, none below 0 -/
def PoolAt (n : Nat) (M : Mem) : Prop := ∃ ps : List Int, ps ≠ [] ∧ (∀ p ∈ ps, 0 ≤ p) ∧ M[n]? = some (.lst (iL ps))
theorem PoolAt.keep {n m : Nat} {M M' : Mem} (p : PoolAt n M) (k : Keep m M M') (h : n ≠ m) : PoolAt n M' := by
  obtain ⟨ps, h1, h2, h3⟩ := p
  exact ⟨ps, h1, h2, (k.at_ n (lt_of_get h3) h).trans h3⟩
theorem PoolAt.push {n : Nat} {M : Mem} (p : PoolAt n M) (c : Cell) : PoolAt n (M ++ [c]) := by
  obtain ⟨ps, h1, h2, h3⟩ := p
  exact ⟨ps, h1, h2, by rw [List.getElem?_append_left (lt_of_get h3)]; exact h3⟩
theorem PoolAt.lt {n : Nat} {M : Mem} (p : PoolAt n M) : n < M.length := by
  obtain ⟨ps, h1, h2, h3⟩ := p
  exact lt_of_get h3
/-! loops -/
theorem forL_ok {g : TgD} {b : DenS} {chk : Mem → Bool} (P : List D → Env → Mem → Prop) (hc : ∀ xs ev M, P xs ev M → chk M = true)
    (hs : ∀ x xs ev M, P (x :: xs) ev M → ∃ ev1 ev2 M2, g x ev = some ev1 ∧ (b ev1 M = .nx ev2 M2 ∨ b ev1 M = .ct ev2 M2) ∧ P xs ev2 M2) :
    ∀ xs ev M, P xs ev M → ∃ ev' M', forL g b chk xs ev M = .nx ev' M' ∧ P [] ev' M'
  | [], ev, M, p => ⟨ev, M, by simp only [forL, hc _ _ _ p, if_true], p⟩
  | x :: xs, ev, M, p => by
    obtain ⟨ev1, ev2, M2, h1, h2, h3⟩ := hs x xs ev M p
    obtain ⟨ev', M', h4, h5⟩ := forL_ok P hc hs xs ev2 M2 h3
    refine ⟨ev', M', ?_, h5⟩
    simp only [forL, hc _ _ _ p, if_true, h1]
    rcases h2 with h2 | h2 <;> simp only [h2, h4]
/-- with a return out of the loop -/
theorem forL_rt {g : TgD} {b : DenS} {chk : Mem → Bool} (P : List D → Env → Mem → Prop) (Q : D → Mem → Prop) (hc : ∀ xs ev M, P xs ev M → chk M = true)
    (hs : ∀ x xs ev M, P (x :: xs) ev M → ∃ ev1, g x ev = some ev1 ∧ ((∃ ev2 M2, (b ev1 M = .nx ev2 M2 ∨ b ev1 M = .ct ev2 M2) ∧ P xs ev2 M2) ∨ ∃ d M2, b ev1 M = .rt d M2 ∧ Q d M2)) :
    ∀ xs ev M, P xs ev M → (∃ ev' M', forL g b chk xs ev M = .nx ev' M' ∧ P [] ev' M') ∨ ∃ d M', forL g b chk xs ev M = .rt d M' ∧ Q d M'
  | [], ev, M, p => .inl ⟨ev, M, by simp only [forL, hc _ _ _ p, if_true], p⟩
  | x :: xs, ev, M, p => by
    obtain ⟨ev1, h1, h2⟩ := hs x xs ev M p
    rcases h2 with ⟨ev2, M2, h2, h3⟩ | ⟨d, M2, h2, h3⟩
    · rcases forL_rt P Q hc hs xs ev2 M2 h3 with ⟨ev', M', h4, h5⟩ | ⟨d, M', h4, h5⟩
      · refine .inl ⟨ev', M', ?_, h5⟩
        simp only [forL, hc _ _ _ p, if_true, h1]
        rcases h2 with h2 | h2 <;> simp only [h2, h4]
      · refine .inr ⟨d, M', ?_, h5⟩
        simp only [forL, hc _ _ _ p, if_true, h1]
        rcases h2 with h2 | h2 <;> simp only [h2, h4]
    · refine .inr ⟨d, M2, ?_, h3⟩
      simp only [forL, hc _ _ _ p, if_true, h1, h2]
/-- a comprehension: acc is what stands in the new list -/
theorem compL_ok {g : TgD} {t : DenT} {f : Den} {chk : Mem → Bool} {n : Nat} {ev : Env} (P : List D → List D → Mem → Prop) (hc : ∀ xs acc M, P xs acc M → chk M = true ∧ M[n]? = some (.lst acc) ∧ acc.length + xs.length ≤ lim)
    (hs : ∀ x xs acc M, P (x :: xs) acc M → ∃ ev1 b M1, g x ev = some ev1 ∧ t (ev1.map dropE) M = .ok b M1 ∧
      (b = false → P xs acc M1) ∧ (b = true → ∃ d M2, f (ev1.map dropE) M1 = .ok d M2 ∧ M2[n]? = some (.lst acc) ∧ P xs (acc ++ [d]) (M2.set n (.lst (acc ++ [d]))))) :
    ∀ xs acc M, P xs acc M → ∃ acc' M', compL g t f chk n ev xs M = some M' ∧ P [] acc' M'
  | [], acc, M, p => ⟨acc, M, by simp only [compL, (hc _ _ _ p).1, if_true], p⟩
  | x :: xs, acc, M, p => by
    obtain ⟨ev1, b, M1, h1, h2, h3, h4⟩ := hs x xs acc M p
    obtain ⟨c1, c2, c3⟩ := hc _ _ _ p
    simp only [compL, c1, if_true, h1, h2, tsD]
    cases b with
    | false =>
      simp only [Bool.false_eq_true, if_false]
      exact compL_ok P hc hs xs acc M1 (h3 rfl)
    | true =>
      obtain ⟨d, M2, h5, h6, h7⟩ := h4 rfl
      have hl : acc.length < lim := by simp only [List.length_cons] at c3; omega
      simp only [if_true, h5, elD, accD, h6, hl]
      exact compL_ok P hc hs xs (acc ++ [d]) _ h7
theorem atI_0 {α : Type} {x : α} {xs : List α} : atI (x :: xs) 0 = some x := by
  rw [show (0 : Int) = ((0 : Nat) : Int) from rfl]
  exact atI_nat rfl
section
variable {α β : Type} {a : α} {b : β} {M : Mem} {ev ev1 : Env} {d : D} {c : Str} {fs : List (Str × D)}
theorem bnd {k : α → Mem → R β} : (R.ok a M).bind k = k a M := rfl
theorem bndE {k : α → Mem → R β} : (R.ex c fs M : R α).bind k = .ex c fs M := rfl
theorem bndO {k : α → Mem → O} : (R.ok a M).bindO ev k = k a M := rfl
theorem bndOE {k : α → Mem → O} : (R.ex c fs M : R α).bindO ev k = .ex c fs ev M := rfl
theorem onx {k : Env → Mem → O} : (O.nx ev M).bind k = k ev M := rfl
theorem ort {k : Env → Mem → O} : (O.rt d M).bind k = .rt d M := rfl
theorem oex {k : Env → Mem → O} : (O.ex c fs ev M).bind k = .ex c fs ev M := rfl
theorem retN : (O.nx ev M).ret = .ok .non M := rfl
theorem retR : (O.rt d M).ret = .ok d M := rfl
theorem retE : (O.ex c fs ev M).ret = .ex c fs M := rfl
theorem ofS : R.of (some (a, M)) = .ok a M := rfl
theorem ofBS {x : Bool} : R.ofB (some x) M = .ok x M := rfl
theorem ff {p q : β} : (if (false : Bool) = true then p else q) = q := rfl
theorem tt {p q : β} : (if (true : Bool) = true then p else q) = p := rfl
theorem ffP {p q : β} : (if False then p else q) = q := if_neg id
theorem ttP {p q : β} : (if True then p else q) = p := if_pos trivial
end
theorem plainL_iL : ∀ xs : List Int, D.plainL (iL xs) = true
  | [] => rfl
  | x :: xs => by
    show (D.plain (.int x) && D.plainL (iL xs)) = true
    rw [plainL_iL xs]; rfl
theorem beqL_iL (xs : List Int) : D.beqL (iL xs) (iL xs) = true := D.beqL_self _ (plainL_iL xs)
theorem cellIs_at {n : Nat} {xs : List D} {M : Mem} (h : M[n]? = some (.lst xs)) (p : D.plainL xs = true) : cellIs n xs M = true := by
  unfold cellIs getL
  rw [h]
  exact D.beqL_self _ p
theorem ints_iL : ∀ xs : List Int, tupInts (iL xs) = some xs
  | [] => rfl
  | x :: xs => by
    show (tupInts (iL xs)).map (x :: ·) = some (x :: xs)
    rw [ints_iL xs]; rfl
theorem getL_at {n : Nat} {xs : List D} {M : Mem} (h : M[n]? = some (.lst xs)) : getL M n = some xs := by unfold getL; rw [h]
theorem cut_iL (ns : List Int) (lo hi : Option Int) : cutD (iL ns) lo hi = iL ((ns.drop (HT.sIx ns.length 0 lo)).take (HT.sIx ns.length ns.length hi - HT.sIx ns.length 0 lo)) := by simp [cutD, iL]
theorem rep_iL (k : Nat) (xs : List Int) : (List.replicate k (iL xs)).flatten = iL (List.replicate k xs).flatten := by
  induction k with
  | zero => rfl
  | succ k ih => rw [List.replicate_succ, List.replicate_succ, List.flatten_cons, List.flatten_cons, ih, iL_append]
theorem get_push {M : Mem} {c : Cell} : (M ++ [c])[M.length]? = some c := by simp
theorem get_old {M : Mem} {c : Cell} {n : Nat} {d : Cell} (h : M[n]? = some d) : (M ++ [c])[n]? = some d := by rw [List.getElem?_append_left (lt_of_get h)]; exact h
/-- a list of numbers of a kind -/
def LAt (P : List Int → Prop) (k : Nat) (M : Mem) : Prop := ∃ xs, P xs ∧ M[k]? = some (.lst (iL xs))
/-- cells are added only -/
def Ext (M M' : Mem) : Prop := ∃ cs, M' = M ++ cs
theorem Ext.refl {M : Mem} : Ext M M := ⟨[], by simp⟩
theorem Ext.push {M : Mem} {c : Cell} : Ext M (M ++ [c]) := ⟨[c], rfl⟩
theorem Ext.trans {M M1 M2 : Mem} (a : Ext M M1) (b : Ext M1 M2) : Ext M M2 := by
  obtain ⟨c, rfl⟩ := a
  obtain ⟨d, rfl⟩ := b
  exact ⟨c ++ d, by rw [List.append_assoc]⟩
theorem Ext.get {M M' : Mem} (a : Ext M M') {n : Nat} {c : Cell} (h : M[n]? = some c) : M'[n]? = some c := by
  obtain ⟨d, rfl⟩ := a
  rw [List.getElem?_append_left (lt_of_get h)]
  exact h
end MI

set_option Elab.async false
set_option linter.all false
set_option maxRecDepth 100000
set_option maxHeartbeats 4000000
namespace K23
open PySem PySem.Spec PyProof.Rows L2 MI
/-! the text -/
def topS (i : Nat) : Stmt := PySem.Challenge.pw_rangeasks_k23_change_words.main.body.getD i (.Pass ⟨0, 0, 0, 0⟩)
/-! what the defs compute -/
def k_KINDS : D := (.tup [(.str (Str.ofString "")), (.str (Str.ofString "C")), (.str (Str.ofString "L"))])
def cm_BadKind_AskError (c : Str) : Option Bool := List.lookup c [(Str.ofString "BadKind", true)]
def d__law_stock : DenS := (sSeq (sSet 1 (dComp (itAny (dSl (dVar 0) oNo (oSome (dC (.int 63))))) (gN 3) tYesD (dOp2 opMod (dOpN nInt (dCons (dVar 3) dNil)) (dOp2 opPow (dOp2 opPow (dC (.int 10)) (dC (.int 60))) (dC (.int 9)))) [3]))
    (sSeq (sSet 2 (dC (.int 0)))
    (sSeq (sFor (itAny (dVar 1)) (gN 3) (sSet 2 (dOp2 opMod (dOpN nInt (dCons (dOp2 opAdd (dOp2 opAdd (dOp2 opMul (dVar 2) (dC (.int 31))) (dVar 3)) (dC (.int 1))) dNil)) (dC (.int 1000003)))))
    (sRet (dOp2 opAdd (dComp (itAny (dVar 1)) (gN 3) (dTru (dOp2 (opB gtB) (dVar 3) (dC (.int 0)))) (dVar 3) [3]) (dLst (dCons (dOp2 opMul (dOp2 opAdd (dVar 2) (dC (.int 1))) (dOp2 opPow (dC (.int 10007)) (dC (.int 61)))) dNil)))))))
def f__law_stock : Fun := runB 4 d__law_stock
def d__law_draw : DenS := (sSeq (sSet 2 (dOpN nInt (dCons (dOp2 opIx (dVar 0) (dC (.int 0))) dNil)))
    (sSeq (sIf (tAndD (dTru (dOp2 (opB ltB) (dVar 2) (dVar 1))) (dTru (dOp2 (opB gtB) (dOpN nLen (dCons (dVar 0) dNil)) (dC (.int 1))))) (sDrop (dMet (mL nPop) (dVar 0) (dCons (dC (.int 0)) dNil))) (sSetIx nSetIx (dVar 0) (dC (.int 0)) (dOp2 opDiv (dVar 2) (dVar 1))))
    (sRet (dOp2 opMod (dOpN nInt (dCons (dVar 2) dNil)) (dVar 1)))))
def f__law_draw : Fun := runB 3 d__law_draw
def d__law_change_word : DenS := (sSeq (sSet 1 (dCal f__law_draw (dCons (dVar 0) (dCons (dC (.int 5)) dNil))))
    (sSeq (sSet 2 (dCal f__law_draw (dCons (dVar 0) (dCons (dC (.int 13)) dNil))))
    (sSeq (sSet 3 (dOp2 opIx (dLst (dCons (dC (.int 3)) (dCons (dC (.int 4)) (dCons (dC (.int 11)) (dCons (dC (.int 100)) dNil))))) (dCal f__law_draw (dCons (dVar 0) (dCons (dC (.int 4)) dNil)))))
    (sSeq (sSet 4 (dComp (itRange (dCons (dVar 2) dNil)) (gN 5) tYesD (dCal f__law_draw (dCons (dVar 0) (dCons (dVar 3) dNil))) [5]))
    (sSeq (sIf (dTru (dOp2 (opB eqB) (dVar 1) (dC (.int 0)))) (sSet 4 (dOp2 opMul (dSl (dVar 4) oNo (oSome (dC (.int 1)))) (dVar 2))) sSkip)
    (sSeq (sIf (dTru (dOp2 (opB eqB) (dVar 1) (dC (.int 1)))) (sSet 4 (dOp1 opRev (dOpN nSorted (dCons (dVar 4) dNil)))) sSkip)
    (sSeq (sIf (dTru (dOp2 (opB eqB) (dVar 1) (dC (.int 2)))) (sSet 4 (dSl (dVar 4) oNo (oSome (dC (.int 1))))) sSkip)
    (sRet (dOpN nTuple (dCons (dVar 4) dNil))))))))))
def f__law_change_word : Fun := runB 6 d__law_change_word
def d__law_odd_name : DenS := (sSeq (sSet 1 (dLst (dCons (dC (.str (Str.ofString "c"))) (dCons (dC (.str (Str.ofString "l"))) (dCons (dC (.str (Str.ofString "N"))) (dCons (dC (.str (Str.ofString "I"))) (dCons (dC (.str (Str.ofString "CL"))) (dCons (dC (.str (Str.ofString "LC"))) (dCons (dC (.str (Str.ofString "CC"))) (dCons (dC (.str (Str.ofString "LL"))) (dCons (dC (.str (Str.ofString " "))) (dCons (dC (.str (Str.ofString "C "))) (dCons (dC (.str (Str.ofString " L"))) (dCons (dC (.str (Str.ofString "None"))) (dCons (dC (.str (Str.ofString "0"))) (dCons (dC (.str (Str.ofString "CIN"))) (dCons (dC (.str (Str.ofString "\""))) (dCons (dC (.str (Str.ofString "-"))) dNil))))))))))))))))))
    (sSeq (sSet 2 (dCal f__law_draw (dCons (dVar 0) (dCons (dC (.int 20)) dNil))))
    (sSeq (sIf (dTru (dOp2 (opB ltB) (dVar 2) (dC (.int 16)))) (sRet (dOp2 opIx (dVar 1) (dVar 2))) sSkip)
    (sSeq (sSet 3 (dC (.str (Str.ofString "CLNI cl"))))
    (sSeq (sSet 4 (dC (.str (Str.ofString ""))))
    (sSeq (sFor (itRange (dCons (dCal f__law_draw (dCons (dVar 0) (dCons (dC (.int 4)) dNil))) dNil)) (gN 5) (sSet 4 (dOp2 opAdd (dVar 4) (dOp2 opIx (dVar 3) (dCal f__law_draw (dCons (dVar 0) (dCons (dC (.int 7)) dNil)))))))
    (sRet (dOp2 opAdd (dVar 4) (dC (.str (Str.ofString "x")))))))))))
def f__law_odd_name : Fun := runB 6 d__law_odd_name
def d__law_normal_form : DenS := (sSeq (sIf (dTru (dOp2 (opB eqB) (dVar 0) (dC (.str (Str.ofString "C"))))) (sSeq (sSet 2 (dLst dNil))
    (sSeq (sFor (itRange (dCons (dC (.int 100)) dNil)) (gN 3) (sSet 2 (dOp2 opAdd (dVar 2) (dOp2 opMul (dLst (dCons (dVar 3) dNil)) (dMet (mT nCountT) (dVar 1) (dCons (dVar 3) dNil))))))
    (sRet (dOpN nTuple (dCons (dVar 2) dNil))))) sSkip)
    (sSeq (sIf (tAndD (dTru (dOp2 (opB eqB) (dVar 0) (dC (.str (Str.ofString "L"))))) (dTru (dOp2 (opB gtB) (dOpN nLen (dCons (dVar 1) dNil)) (dC (.int 1))))) (sRet (dTup (dCons (dOp2 opIx (dVar 1) (dOp2 opSub (dOpN nLen (dCons (dVar 1) dNil)) (dC (.int 1)))) dNil))) sSkip)
    (sRet (dVar 1))))
def f__law_normal_form : Fun := runB 4 d__law_normal_form
def d__law_same : DenS := (sRet (dAnd (dOp2 (opB eqB) (dVar 0) (dVar 1)) (dOp2 (opB eqB) (dOpN nRepr (dCons (dVar 0) dNil)) (dOpN nRepr (dCons (dVar 1) dNil)))))
def f__law_same : Fun := runB 2 d__law_same
def d_check_kind : DenS := (sIf (dTru (dOp2 (opB ninB) (dVar 0) (dC k_KINDS))) (sRaise (Str.ofString "BadKind") 1 [(Str.ofString "kind", 0)] (dCons (dVar 0) dNil)) sSkip)
def f_check_kind : Fun := runB 1 d_check_kind
def d_normal_changes : DenS := (sSeq (sDrop (dCal f_check_kind (dCons (dVar 0) dNil)))
    (sSeq (sIf (dTru (dOp2 (opB eqB) (dVar 0) (dC (.str (Str.ofString "C"))))) (sRet (dOpN nTuple (dCons (dOpN nSorted (dCons (dOpN nList (dCons (dVar 1) dNil)) dNil)) dNil))) sSkip)
    (sSeq (sIf (dTru (dOp2 (opB eqB) (dVar 0) (dC (.str (Str.ofString "L"))))) (sRet (dSl (dVar 1) (oSome (dOp1 opNeg (dC (.int 1)))) oNo)) sSkip)
    (sRet (dVar 1)))))
def f_normal_changes : Fun := runB 2 d_normal_changes
def d__law_refused : DenS := (sSeq (sTryAs 2 cm_BadKind_AskError (sDrop (dCal f_normal_changes (dCons (dVar 0) (dCons (dVar 1) dNil)))) (sSeq (sSet 3 (dAnd (dIsE 2 [(Str.ofString "BadKind", true)]) (dAnd (dIsE 2 [(Str.ofString "BadKind", true)]) (dNot (dIsE 2 [(Str.ofString "BadKind", false)])))))
    (sRet (dAnd (dVar 3) (dCal f__law_same (dCons (dXf 2 [Str.ofString "BadKind"] (Str.ofString "kind")) (dCons (dVar 0) dNil)))))))
    (sRet (dC (.bl false))))
def f__law_refused : Fun := runB 4 d__law_refused
def d_law : DenS := (sSeq (sSet 1 (dCal f__law_stock (dCons (dVar 0) dNil)))
    (sSeq (sSet 2 (dCal f__law_change_word (dCons (dVar 1) dNil)))
    (sSeq (sSet 3 (dCal f__law_draw (dCons (dVar 1) (dCons (dC (.int 13)) dNil))))
    (sSeq (sSet 4 (dCal f__law_odd_name (dCons (dVar 1) dNil)))
    (sSeq (sFor (itAny (dLst (dCons (dC (.str (Str.ofString ""))) (dCons (dC (.str (Str.ofString "C"))) (dCons (dC (.str (Str.ofString "L"))) dNil))))) (gN 5) (sSeq (sSet 6 (dCal f__law_normal_form (dCons (dVar 5) (dCons (dVar 2) dNil))))
    (sSeq (sSet 7 (dCal f__law_normal_form (dCons (dVar 5) (dCons (dSl (dVar 2) oNo (oSome (dVar 3))) dNil))))
    (sSeq (sSet 7 (dOp2 opAdd (dVar 7) (dCal f__law_normal_form (dCons (dVar 5) (dCons (dSl (dVar 2) (oSome (dVar 3)) oNo) dNil)))))
    (sSeq (sFor (itAny (dLst (dCons (dVar 2) (dCons (dVar 6) (dCons (dVar 7) (dCons (dVar 2) dNil)))))) (gN 8) (sIf (tNotD (dTru (dCal f__law_same (dCons (dCal f_normal_changes (dCons (dVar 5) (dCons (dVar 8) dNil))) (dCons (dVar 6) dNil))))) (sRet (dC (.bl false))) sSkip))
    (sSeq (sIf (tNotD (dTru (dCal f__law_same (dCons (dCalK f_normal_changes 0 2 [.inl 1, .inl 0] dNil (dCons (dVar 2) (dCons (dVar 5) dNil))) (dCons (dVar 6) dNil))))) (sRet (dC (.bl false))) sSkip)
    (sIf (tNotD (dTru (dCal f__law_refused (dCons (dVar 4) (dCons (dVar 6) dNil))))) (sRet (dC (.bl false))) sSkip)))))))
    (sRet (dC (.bl true))))))))
def f_law : Fun := runB 9 d_law
/-! what the module holds -/
structure Tx (P : Program) (w : World) (K : PySem.W.Frag) (mg : Str → Option Value) where
  a__law_stock : Addr
  fd__law_stock : FuncData
  e__law_stock : FnE K mg "_law_stock" "_law_stock" (topS 10) a__law_stock fd__law_stock
  a__law_draw : Addr
  fd__law_draw : FuncData
  e__law_draw : FnE K mg "_law_draw" "_law_draw" (topS 11) a__law_draw fd__law_draw
  a__law_change_word : Addr
  fd__law_change_word : FuncData
  e__law_change_word : FnE K mg "_law_change_word" "_law_change_word" (topS 14) a__law_change_word fd__law_change_word
  a__law_odd_name : Addr
  fd__law_odd_name : FuncData
  e__law_odd_name : FnE K mg "_law_odd_name" "_law_odd_name" (topS 15) a__law_odd_name fd__law_odd_name
  a__law_normal_form : Addr
  fd__law_normal_form : FuncData
  e__law_normal_form : FnE K mg "_law_normal_form" "_law_normal_form" (topS 13) a__law_normal_form fd__law_normal_form
  a__law_same : Addr
  fd__law_same : FuncData
  e__law_same : FnE K mg "_law_same" "_law_same" (topS 12) a__law_same fd__law_same
  a_check_kind : Addr
  fd_check_kind : FuncData
  e_check_kind : FnE K mg "check_kind" "check_kind" (topS 6) a_check_kind fd_check_kind
  a_normal_changes : Addr
  fd_normal_changes : FuncData
  e_normal_changes : FnE K mg "normal_changes" "normal_changes" (topS 8) a_normal_changes fd_normal_changes
  a__law_refused : Addr
  fd__law_refused : FuncData
  e__law_refused : FnE K mg "_law_refused" "_law_refused" (topS 16) a__law_refused fd__law_refused
  a_law : Addr
  fd_law : FuncData
  e_law : FnE K mg "law" "law" (topS 17) a_law fd_law
  C_AskError : Addr
  g_AskError : mg "AskError" = some (.ref C_AskError)
  C_BadKind : Addr
  g_BadKind : mg "BadKind" = some (.ref C_BadKind)
  C_BadRights : Addr
  g_BadRights : mg "BadRights" = some (.ref C_BadRights)
  x_BadKind : ExE P w K mg "BadKind" C_BadKind ["self", "kind"] [(Str.ofString "kind", 0)]
  m_BadKind_AskError : PySem.W.exmOne K (.ref C_BadKind) (.ref C_AskError) = some true
  i_BadKind_BadKind : PySem.W.kitOne K (.ref C_BadKind) (.ref C_BadKind) = some true
  i_BadKind_BadRights : PySem.W.kitOne K (.ref C_BadKind) (.ref C_BadRights) = some false
  i_BadKind_ValueError : PySem.W.kitOne K (.ref C_BadKind) (.type "ValueError") = some true
  n_BadKind_kind : PySem.W.findIn K (.ref C_BadKind) "kind" = some none
  u_KINDS : Value
  mu_KINDS : mg "KINDS" = some u_KINDS
  ku_KINDS : kD K 3 u_KINDS = some k_KINDS
  z_ValueError : mg "ValueError" = none
  z_int : mg "int" = none
  z_isinstance : mg "isinstance" = none
  z_len : mg "len" = none
  z_list : mg "list" = none
  z_range : mg "range" = none
  z_repr : mg "repr" = none
  z_sorted : mg "sorted" = none
  z_tuple : mg "tuple" = none
section
variable {P : Program} {w : World} {K : PySem.W.Frag} {mg : Str → Option Value}
def Tx.G (t : Tx P w K mg) : GC := ⟨K, fun c => (if c = Str.ofString "AskError" then t.C_AskError else (if c = Str.ofString "BadKind" then t.C_BadKind else (if c = Str.ofString "BadRights" then t.C_BadRights else 0)))⟩
theorem ca_AskError (t : Tx P w K mg) : t.G.ca (Str.ofString "AskError") = t.C_AskError := by
  show (if Str.ofString "AskError" = Str.ofString "AskError" then t.C_AskError else (if Str.ofString "AskError" = Str.ofString "BadKind" then t.C_BadKind else (if Str.ofString "AskError" = Str.ofString "BadRights" then t.C_BadRights else 0))) = _
  rw [if_pos rfl]
theorem ca_BadKind (t : Tx P w K mg) : t.G.ca (Str.ofString "BadKind") = t.C_BadKind := by
  show (if Str.ofString "BadKind" = Str.ofString "AskError" then t.C_AskError else (if Str.ofString "BadKind" = Str.ofString "BadKind" then t.C_BadKind else (if Str.ofString "BadKind" = Str.ofString "BadRights" then t.C_BadRights else 0))) = _
  rw [if_neg (by decide +kernel), if_pos rfl]
theorem ca_BadRights (t : Tx P w K mg) : t.G.ca (Str.ofString "BadRights") = t.C_BadRights := by
  show (if Str.ofString "BadRights" = Str.ofString "AskError" then t.C_AskError else (if Str.ofString "BadRights" = Str.ofString "BadKind" then t.C_BadKind else (if Str.ofString "BadRights" = Str.ofString "BadRights" then t.C_BadRights else 0))) = _
  rw [if_neg (by decide +kernel), if_neg (by decide +kernel), if_pos rfl]
theorem cm_BadKind_AskError_ok (t : Tx P w K mg) : ∀ c b, cm_BadKind_AskError c = some b → PySem.W.exmOne K (.ref (t.G.ca c)) (.ref t.C_AskError) = some b := fun c b h => by
  unfold cm_BadKind_AskError at h
  rcases look_cons h with ⟨rfl, rfl⟩ | h
  · rw [ca_BadKind t]; exact t.m_BadKind_AskError
  cases h
theorem is_BadKind_BadRights (t : Tx P w K mg) : ∀ c b, List.lookup c [(Str.ofString "BadKind", false)] = some b → ExcIs' K (t.G.ca c) ∧ PySem.W.kitOne K (.ref (t.G.ca c)) (.ref t.C_BadRights) = some b := fun c b h => by
  rcases look_cons h with ⟨rfl, rfl⟩ | h
  · rw [ca_BadKind t]; exact ⟨t.x_BadKind.is_, t.i_BadKind_BadRights⟩
  cases h
theorem is_BadKind_BadKind (t : Tx P w K mg) : ∀ c b, List.lookup c [(Str.ofString "BadKind", true)] = some b → ExcIs' K (t.G.ca c) ∧ PySem.W.kitOne K (.ref (t.G.ca c)) (.ref t.C_BadKind) = some b := fun c b h => by
  rcases look_cons h with ⟨rfl, rfl⟩ | h
  · rw [ca_BadKind t]; exact ⟨t.x_BadKind.is_, t.i_BadKind_BadKind⟩
  cases h
theorem is_BadKind_ValueError (t : Tx P w K mg) : ∀ c b, List.lookup c [(Str.ofString "BadKind", true)] = some b → ExcIs' K (t.G.ca c) ∧ PySem.W.kitOne K (.ref (t.G.ca c)) (.type "ValueError") = some b := fun c b h => by
  rcases look_cons h with ⟨rfl, rfl⟩ | h
  · rw [ca_BadKind t]; exact ⟨t.x_BadKind.is_, t.i_BadKind_ValueError⟩
  cases h
theorem b__law_stock (t : Tx P w K mg) : ∀ us : List Value, us.length = (["script"] : List Str).length → bindArgs t.fd__law_stock ⟨us, []⟩ = pure ((["script"] : List Str).zip us) := by
  obtain ⟨oc, od, kV, doc, pm, an, cdv, ct, osl, h, _⟩ := t.e__law_stock.fn.ex
  rw [h]
  exact fun us hl => match us, hl with | [_], _ => rfl
theorem b__law_draw (t : Tx P w K mg) : ∀ us : List Value, us.length = (["pool", "many"] : List Str).length → bindArgs t.fd__law_draw ⟨us, []⟩ = pure ((["pool", "many"] : List Str).zip us) := by
  obtain ⟨oc, od, kV, doc, pm, an, cdv, ct, osl, h, _⟩ := t.e__law_draw.fn.ex
  rw [h]
  exact fun us hl => match us, hl with | [_, _], _ => rfl
theorem b__law_change_word (t : Tx P w K mg) : ∀ us : List Value, us.length = (["pool"] : List Str).length → bindArgs t.fd__law_change_word ⟨us, []⟩ = pure ((["pool"] : List Str).zip us) := by
  obtain ⟨oc, od, kV, doc, pm, an, cdv, ct, osl, h, _⟩ := t.e__law_change_word.fn.ex
  rw [h]
  exact fun us hl => match us, hl with | [_], _ => rfl
theorem b__law_odd_name (t : Tx P w K mg) : ∀ us : List Value, us.length = (["pool"] : List Str).length → bindArgs t.fd__law_odd_name ⟨us, []⟩ = pure ((["pool"] : List Str).zip us) := by
  obtain ⟨oc, od, kV, doc, pm, an, cdv, ct, osl, h, _⟩ := t.e__law_odd_name.fn.ex
  rw [h]
  exact fun us hl => match us, hl with | [_], _ => rfl
theorem b__law_normal_form (t : Tx P w K mg) : ∀ us : List Value, us.length = (["name", "spelt"] : List Str).length → bindArgs t.fd__law_normal_form ⟨us, []⟩ = pure ((["name", "spelt"] : List Str).zip us) := by
  obtain ⟨oc, od, kV, doc, pm, an, cdv, ct, osl, h, _⟩ := t.e__law_normal_form.fn.ex
  rw [h]
  exact fun us hl => match us, hl with | [_, _], _ => rfl
theorem b__law_same (t : Tx P w K mg) : ∀ us : List Value, us.length = (["told", "due"] : List Str).length → bindArgs t.fd__law_same ⟨us, []⟩ = pure ((["told", "due"] : List Str).zip us) := by
  obtain ⟨oc, od, kV, doc, pm, an, cdv, ct, osl, h, _⟩ := t.e__law_same.fn.ex
  rw [h]
  exact fun us hl => match us, hl with | [_, _], _ => rfl
theorem b_check_kind (t : Tx P w K mg) : ∀ us : List Value, us.length = (["kind"] : List Str).length → bindArgs t.fd_check_kind ⟨us, []⟩ = pure ((["kind"] : List Str).zip us) := by
  obtain ⟨oc, od, kV, doc, pm, an, cdv, ct, osl, h, _⟩ := t.e_check_kind.fn.ex
  rw [h]
  exact fun us hl => match us, hl with | [_], _ => rfl
theorem b_normal_changes (t : Tx P w K mg) : ∀ us : List Value, us.length = (["kind", "changes"] : List Str).length → bindArgs t.fd_normal_changes ⟨us, []⟩ = pure ((["kind", "changes"] : List Str).zip us) := by
  obtain ⟨oc, od, kV, doc, pm, an, cdv, ct, osl, h, _⟩ := t.e_normal_changes.fn.ex
  rw [h]
  exact fun us hl => match us, hl with | [_, _], _ => rfl
theorem b__law_refused (t : Tx P w K mg) : ∀ us : List Value, us.length = (["name", "spelt"] : List Str).length → bindArgs t.fd__law_refused ⟨us, []⟩ = pure ((["name", "spelt"] : List Str).zip us) := by
  obtain ⟨oc, od, kV, doc, pm, an, cdv, ct, osl, h, _⟩ := t.e__law_refused.fn.ex
  rw [h]
  exact fun us hl => match us, hl with | [_, _], _ => rfl
theorem b_law (t : Tx P w K mg) : ∀ us : List Value, us.length = (["script"] : List Str).length → bindArgs t.fd_law ⟨us, []⟩ = pure ((["script"] : List Str).zip us) := by
  obtain ⟨oc, od, kV, doc, pm, an, cdv, ct, osl, h, _⟩ := t.e_law.fn.ex
  rw [h]
  exact fun us hl => match us, hl with | [_], _ => rfl
theorem kb_normal_changes_0_changes_kind (t : Tx P w K mg) : CBind K t.fd_normal_changes ["kind", "changes"] 0 ["changes", "kind"] [.inl 1, .inl 0] := by
  obtain ⟨oc, od, kV, doc, pm, an, cdv, ct, osl, h, _⟩ := t.e_normal_changes.fn.ex
  rw [h]
  exact ⟨⟨[.inl 1, .inl 0], ⟨rfl, rfl, trivial⟩, rfl, fun s us ws _ h1 h2 => match us, ws, h1, h2 with | [], [_, _], _, _ => .of_eq rfl⟩⟩
def N__law_stock : List Str := ["script", "cells", "mark", "cell"]
theorem sc__law_stock : FnScope N__law_stock ["script"] (defScope (topS 10)) := ⟨rfl, rfl, rfl, by decide +kernel, rfl, by decide +kernel, by decide +kernel⟩
theorem ok__law_stock (t : Tx P w K mg) (base : Heap) : FnG true P w K mg base 1 t.a__law_stock t.fd__law_stock ["script"] (spI t.G 1 f__law_stock) :=
  have S := sc__law_stock
  fnE_den (b := d__law_stock) (N := N__law_stock) (k := 0) t.e__law_stock rfl S fun cdv A outer s H E C po => by
  exact (sc (setC C 1 N__law_stock (defScope (topS 10)) [(Str.ofString "cell", 3)] S.nd (iAny C (sl C (v 0) o_no (o_some i_int))) (fun _ _ _ _ _ => (gn 3 S.nd)) (fun _ _ _ _ _ C => (bMod C (cT c_int PyProof.Rows.Boot.«int» t.z_int (ac (v 3) an)) (bPow C (bPow C i_int i_int) i_int))))
    (sc (set_ 2 S.nd i_int)
    (sc (for_ po (iAny C (v 1)) (gn 3 S.nd) (s1 (set_ 2 S.nd (bMod C (cT c_int PyProof.Rows.Boot.«int» t.z_int (ac (bAdd C (bAdd C (bMult C (v 2) i_int) (v 3)) i_int) an)) i_int))))
    (s1 (s_ret (bAdd C (cmprIf C N__law_stock (defScope (topS 10)) [(Str.ofString "cell", 3)] S.nd (iAny C (v 1)) (fun _ _ _ _ _ => (gn 3 S.nd)) (fun _ _ _ _ _ C => (tcmp (qGt C) (v 3) i_int)) (fun _ _ _ _ _ C => (v 3))) (i_lst (ac (bMult C (bAdd C (v 2) i_int) (bPow C i_int i_int)) an))))))))
def N__law_draw : List Str := ["pool", "many", "number"]
theorem sc__law_draw : FnScope N__law_draw ["pool", "many"] (defScope (topS 11)) := ⟨rfl, rfl, rfl, by decide +kernel, rfl, by decide +kernel, by decide +kernel⟩
theorem ok__law_draw (calm : Bool) (t : Tx P w K mg) (base : Heap) : FnG calm P w K mg base 1 t.a__law_draw t.fd__law_draw ["pool", "many"] (spI t.G 2 f__law_draw) :=
  have S := sc__law_draw
  fnE_den (b := d__law_draw) (N := N__law_draw) (k := 0) t.e__law_draw rfl S fun cdv A outer s H E C po => by
  exact (sc (set_ 2 S.nd (cT c_int PyProof.Rows.Boot.«int» t.z_int (ac (ix C (v 0) i_int) an)))
    (sc (s_if (wand (tcmp (qLt C) (v 2) (v 1)) (w1 (tcmp (qGt C) (cB (c_len C.hK) PyProof.Rows.Boot.«len» t.z_len (ac (v 0) an)) i_int))).pt (s1 (drop (met (mPop C) (v 0) (ac i_int an)))) (s1 (setIx (bFloorDiv C (v 2) (v 1)) (v 0) i_int)))
    (s1 (s_ret (bMod C (cT c_int PyProof.Rows.Boot.«int» t.z_int (ac (v 2) an)) (v 1))))))
def N__law_change_word : List Str := ["pool", "shape", "size", "top", "numbers", "k"]
theorem sc__law_change_word : FnScope N__law_change_word ["pool"] (defScope (topS 14)) := ⟨rfl, rfl, rfl, by decide +kernel, rfl, by decide +kernel, by decide +kernel⟩
theorem ok__law_change_word (t : Tx P w K mg) (base : Heap) : FnG true P w K mg base 2 t.a__law_change_word t.fd__law_change_word ["pool"] (spI t.G 1 f__law_change_word) :=
  have S := sc__law_change_word
  fnE_den (b := d__law_change_word) (N := N__law_change_word) (k := 1) t.e__law_change_word rfl S fun cdv A outer s H E C po => by
  exact (sc (set_ 1 S.nd (call_ C (cal C (ok__law_draw _ t base) t.e__law_draw.gl t.e__law_draw.fn.kp) (b__law_draw t) (ac (v 0) (ac i_int an)) (len_cons (len_cons len_nil))))
    (sc (set_ 2 S.nd (call_ C (cal C (ok__law_draw _ t base) t.e__law_draw.gl t.e__law_draw.fn.kp) (b__law_draw t) (ac (v 0) (ac i_int an)) (len_cons (len_cons len_nil))))
    (sc (set_ 3 S.nd (ix C (i_lst (ac i_int (ac i_int (ac i_int (ac i_int an))))) (call_ C (cal C (ok__law_draw _ t base) t.e__law_draw.gl t.e__law_draw.fn.kp) (b__law_draw t) (ac (v 0) (ac i_int an)) (len_cons (len_cons len_nil)))))
    (sc (setC C 4 N__law_change_word (defScope (topS 14)) [(Str.ofString "k", 5)] S.nd (iR1 t.z_range (ac (v 2) an) (len_cons len_nil)) (fun _ _ _ _ _ => (gn 5 S.nd)) (fun _ _ _ _ _ C => (call_ C (cal C (ok__law_draw _ t base) t.e__law_draw.gl t.e__law_draw.fn.kp) (b__law_draw t) (ac (v 0) (ac (v 3) an)) (len_cons (len_cons len_nil)))))
    (sc (s_if (tcmp (qEq C) (v 1) i_int) (s1 (set_ 4 S.nd (bMult C (sl C (v 4) o_no (o_some i_int)) (v 2)))) s0)
    (sc (s_if (tcmp (qEq C) (v 1) i_int) (s1 (set_ 4 S.nd (rev C (cB (c_sorted C.hK) PyProof.Rows.Boot.«sorted» t.z_sorted (ac (v 4) an))))) s0)
    (sc (s_if (tcmp (qEq C) (v 1) i_int) (s1 (set_ 4 S.nd (sl C (v 4) o_no (o_some i_int)))) s0)
    (s1 (s_ret (cT (c_tuple C.hK) PyProof.Rows.Boot.«tuple» t.z_tuple (ac (v 4) an)))))))))))
def N__law_odd_name : List Str := ["pool", "names", "at", "letters", "text", "k"]
theorem sc__law_odd_name : FnScope N__law_odd_name ["pool"] (defScope (topS 15)) := ⟨rfl, rfl, rfl, by decide +kernel, rfl, by decide +kernel, by decide +kernel⟩
theorem ok__law_odd_name (t : Tx P w K mg) (base : Heap) : FnG true P w K mg base 2 t.a__law_odd_name t.fd__law_odd_name ["pool"] (spI t.G 1 f__law_odd_name) :=
  have S := sc__law_odd_name
  fnE_den (b := d__law_odd_name) (N := N__law_odd_name) (k := 1) t.e__law_odd_name rfl S fun cdv A outer s H E C po => by
  exact (sc (set_ 1 S.nd (i_lst (ac i_str (ac i_str (ac i_str (ac i_str (ac i_str (ac i_str (ac i_str (ac i_str (ac i_str (ac i_str (ac i_str (ac i_str (ac i_str (ac i_str (ac i_str (ac i_str an))))))))))))))))))
    (sc (set_ 2 S.nd (call_ C (cal C (ok__law_draw _ t base) t.e__law_draw.gl t.e__law_draw.fn.kp) (b__law_draw t) (ac (v 0) (ac i_int an)) (len_cons (len_cons len_nil))))
    (sc (s_if (tcmp (qLt C) (v 2) i_int) (s1 (s_ret (ix C (v 1) (v 2)))) s0)
    (sc (set_ 3 S.nd i_str)
    (sc (set_ 4 S.nd i_str)
    (sc (for_ po (iR1 t.z_range (ac (call_ C (cal C (ok__law_draw _ t base) t.e__law_draw.gl t.e__law_draw.fn.kp) (b__law_draw t) (ac (v 0) (ac i_int an)) (len_cons (len_cons len_nil))) an) (len_cons len_nil)) (gn 5 S.nd) (s1 (set_ 4 S.nd (bAdd C (v 4) (ix C (v 3) (call_ C (cal C (ok__law_draw _ t base) t.e__law_draw.gl t.e__law_draw.fn.kp) (b__law_draw t) (ac (v 0) (ac i_int an)) (len_cons (len_cons len_nil))))))))
    (s1 (s_ret (bAdd C (v 4) i_str)))))))))
def N__law_normal_form : List Str := ["name", "spelt", "ordered", "number"]
theorem sc__law_normal_form : FnScope N__law_normal_form ["name", "spelt"] (defScope (topS 13)) := ⟨rfl, rfl, rfl, by decide +kernel, rfl, by decide +kernel, by decide +kernel⟩
theorem ok__law_normal_form (t : Tx P w K mg) (base : Heap) : FnG true P w K mg base 1 t.a__law_normal_form t.fd__law_normal_form ["name", "spelt"] (spI t.G 2 f__law_normal_form) :=
  have S := sc__law_normal_form
  fnE_den (b := d__law_normal_form) (N := N__law_normal_form) (k := 0) t.e__law_normal_form rfl S fun cdv A outer s H E C po => by
  exact (sc (s_if (tcmp (qEq C) (v 0) i_str) (sc (set_ 2 S.nd (i_lst an))
    (sc (for_ po (iR1 t.z_range (ac i_int an) (len_cons len_nil)) (gn 3 S.nd) (s1 (set_ 2 S.nd (bAdd C (v 2) (bMult C (i_lst (ac (v 3) an)) (met (mCountT C) (v 1) (ac (v 3) an)))))))
    (s1 (s_ret (cT (c_tuple C.hK) PyProof.Rows.Boot.«tuple» t.z_tuple (ac (v 2) an)))))) s0)
    (sc (s_if (wand (tcmp (qEq C) (v 0) i_str) (w1 (tcmp (qGt C) (cB (c_len C.hK) PyProof.Rows.Boot.«len» t.z_len (ac (v 1) an)) i_int))).pt (s1 (s_ret (i_tup (ac (ix C (v 1) (bSub C (cB (c_len C.hK) PyProof.Rows.Boot.«len» t.z_len (ac (v 1) an)) i_int)) an)))) s0)
    (s1 (s_ret (v 1)))))
def N__law_same : List Str := ["told", "due"]
theorem sc__law_same : FnScope N__law_same ["told", "due"] (defScope (topS 12)) := ⟨rfl, rfl, rfl, by decide +kernel, rfl, by decide +kernel, by decide +kernel⟩
theorem ok__law_same (calm : Bool) (t : Tx P w K mg) (base : Heap) : FnG calm P w K mg base 1 t.a__law_same t.fd__law_same ["told", "due"] (spI t.G 2 f__law_same) :=
  have S := sc__law_same
  fnE_den (b := d__law_same) (N := N__law_same) (k := 0) t.e__law_same rfl S fun cdv A outer s H E C po => by
  exact (s1 (s_ret (and_ C (cmp (qEq C) (v 0) (v 1)) (one_ (cmp (qEq C) (cB (c_repr' C) PyProof.Rows.Boot.«repr» t.z_repr (ac (v 0) an)) (cB (c_repr' C) PyProof.Rows.Boot.«repr» t.z_repr (ac (v 1) an)))))))
def N_check_kind : List Str := ["kind"]
theorem sc_check_kind : FnScope N_check_kind ["kind"] (defScope (topS 6)) := ⟨rfl, rfl, rfl, by decide +kernel, rfl, by decide +kernel, by decide +kernel⟩
theorem ok_check_kind (t : Tx P w K mg) (base : Heap) : FnG true P w K mg base 3 t.a_check_kind t.fd_check_kind ["kind"] (spI t.G 1 f_check_kind) :=
  have S := sc_check_kind
  fnE_den (b := d_check_kind) (N := N_check_kind) (k := 2) t.e_check_kind rfl S fun cdv A outer s H E C po => by
  exact (s1 (s_if (tcmp (qNotIn C) (v 0) (gl C t.mu_KINDS t.ku_KINDS)) (s1 (raise_ C t.x_BadKind (ac (v 0) an) (Str.ofString "BadKind") (ca_BadKind t))) s0))
def N_normal_changes : List Str := ["kind", "changes"]
theorem sc_normal_changes : FnScope N_normal_changes ["kind", "changes"] (defScope (topS 8)) := ⟨rfl, rfl, rfl, by decide +kernel, rfl, by decide +kernel, by decide +kernel⟩
theorem ok_normal_changes (t : Tx P w K mg) (base : Heap) : FnG true P w K mg base 4 t.a_normal_changes t.fd_normal_changes ["kind", "changes"] (spI t.G 2 f_normal_changes) :=
  have S := sc_normal_changes
  fnE_den (b := d_normal_changes) (N := N_normal_changes) (k := 3) t.e_normal_changes rfl S fun cdv A outer s H E C po => by
  exact (sc (drop (call_ C (cal C (ok_check_kind t base) t.e_check_kind.gl t.e_check_kind.fn.kp) (b_check_kind t) (ac (v 0) an) (len_cons len_nil)))
    (sc (s_if (tcmp (qEq C) (v 0) i_str) (s1 (s_ret (cT (c_tuple C.hK) PyProof.Rows.Boot.«tuple» t.z_tuple (ac (cB (c_sorted C.hK) PyProof.Rows.Boot.«sorted» t.z_sorted (ac (cT (c_list C.hK) PyProof.Rows.Boot.«list» t.z_list (ac (v 1) an)) an)) an)))) s0)
    (sc (s_if (tcmp (qEq C) (v 0) i_str) (s1 (s_ret (sl C (v 1) (o_some (uUSub C i_int)) o_no))) s0)
    (s1 (s_ret (v 1))))))
def N__law_refused : List Str := ["name", "spelt", "e", "right"]
theorem sc__law_refused : FnScope N__law_refused ["name", "spelt"] (defScope (topS 16)) := ⟨rfl, rfl, rfl, by decide +kernel, rfl, by decide +kernel, by decide +kernel⟩
theorem ok__law_refused (t : Tx P w K mg) (base : Heap) : FnG true P w K mg base 5 t.a__law_refused t.fd__law_refused ["name", "spelt"] (spI t.G 2 f__law_refused) :=
  have S := sc__law_refused
  fnE_den (b := d__law_refused) (N := N__law_refused) (k := 4) t.e__law_refused rfl S fun cdv A outer s H E C po => by
  exact (sc (tryAs C 2 cm_BadKind_AskError S.nd t.g_AskError (cm_BadKind_AskError_ok t) (fun _ _ _ C po => (s1 (drop (call_ C (cal C (ok_normal_changes t base) t.e_normal_changes.gl t.e_normal_changes.fn.kp) (b_normal_changes t) (ac (v 0) (ac (v 1) an)) (len_cons (len_cons len_nil)))))) (fun _ _ _ C => (sc (set_ 3 S.nd (and_ C (isE 2 [(Str.ofString "BadKind", true)] t.z_isinstance (clsO t.g_BadKind) (.own _) (is_BadKind_BadKind t)) (and_ C (isE 2 [(Str.ofString "BadKind", true)] t.z_isinstance (clsT PyProof.Rows.Boot.«ValueError» t.z_ValueError) (.ty _) (is_BadKind_ValueError t)) (one_ (not_ C (isE 2 [(Str.ofString "BadKind", false)] t.z_isinstance (clsO t.g_BadRights) (.own _) (is_BadKind_BadRights t)))))))
    (s1 (s_ret (and_ C (v 3) (one_ (call_ C (cal C (ok__law_same _ t base) t.e__law_same.gl t.e__law_same.fn.kp) (b__law_same t) (ac (xf 2 [Str.ofString "BadKind"] (fun c hc => by have e := List.mem_singleton.mp hc; subst e; rw [ca_BadKind t]; exact ⟨t.x_BadKind.is_, t.n_BadKind_kind⟩)) (ac (v 0) an)) (len_cons (len_cons len_nil))))))))))
    (s1 (s_ret i_bl)))
def N_law : List Str := ["script", "pool", "spelt", "cut", "odd", "name", "due", "parts", "asked"]
theorem sc_law : FnScope N_law ["script"] (defScope (topS 17)) := ⟨rfl, rfl, rfl, by decide +kernel, rfl, by decide +kernel, by decide +kernel⟩
theorem ok_law (t : Tx P w K mg) (base : Heap) : FnG true P w K mg base 6 t.a_law t.fd_law ["script"] (spI t.G 1 f_law) :=
  have S := sc_law
  fnE_den (b := d_law) (N := N_law) (k := 5) t.e_law rfl S fun cdv A outer s H E C po => by
  exact (sc (set_ 1 S.nd (call_ C (cal C (ok__law_stock t base) t.e__law_stock.gl t.e__law_stock.fn.kp) (b__law_stock t) (ac (v 0) an) (len_cons len_nil)))
    (sc (set_ 2 S.nd (call_ C (cal C (ok__law_change_word t base) t.e__law_change_word.gl t.e__law_change_word.fn.kp) (b__law_change_word t) (ac (v 1) an) (len_cons len_nil)))
    (sc (set_ 3 S.nd (call_ C (cal C (ok__law_draw _ t base) t.e__law_draw.gl t.e__law_draw.fn.kp) (b__law_draw t) (ac (v 1) (ac i_int an)) (len_cons (len_cons len_nil))))
    (sc (set_ 4 S.nd (call_ C (cal C (ok__law_odd_name t base) t.e__law_odd_name.gl t.e__law_odd_name.fn.kp) (b__law_odd_name t) (ac (v 1) an) (len_cons len_nil)))
    (sc (for_ po (iAny C (i_lst (ac i_str (ac i_str (ac i_str an))))) (gn 5 S.nd) (sc (set_ 6 S.nd (call_ C (cal C (ok__law_normal_form t base) t.e__law_normal_form.gl t.e__law_normal_form.fn.kp) (b__law_normal_form t) (ac (v 5) (ac (v 2) an)) (len_cons (len_cons len_nil))))
    (sc (set_ 7 S.nd (call_ C (cal C (ok__law_normal_form t base) t.e__law_normal_form.gl t.e__law_normal_form.fn.kp) (b__law_normal_form t) (ac (v 5) (ac (sl C (v 2) o_no (o_some (v 3))) an)) (len_cons (len_cons len_nil))))
    (sc (set_ 7 S.nd (bAdd C (v 7) (call_ C (cal C (ok__law_normal_form t base) t.e__law_normal_form.gl t.e__law_normal_form.fn.kp) (b__law_normal_form t) (ac (v 5) (ac (sl C (v 2) (o_some (v 3)) o_no) an)) (len_cons (len_cons len_nil)))))
    (sc (for_ po (iAny C (i_lst (ac (v 2) (ac (v 6) (ac (v 7) (ac (v 2) an)))))) (gn 8 S.nd) (s1 (s_if (tnot (tru C (call_ C (cal C (ok__law_same _ t base) t.e__law_same.gl t.e__law_same.fn.kp) (b__law_same t) (ac (call_ C (cal C (ok_normal_changes t base) t.e_normal_changes.gl t.e_normal_changes.fn.kp) (b_normal_changes t) (ac (v 5) (ac (v 8) an)) (len_cons (len_cons len_nil))) (ac (v 6) an)) (len_cons (len_cons len_nil))))) (s1 (s_ret i_bl)) s0)))
    (sc (s_if (tnot (tru C (call_ C (cal C (ok__law_same _ t base) t.e__law_same.gl t.e__law_same.fn.kp) (b__law_same t) (ac (callK0 C (cal C (ok_normal_changes t base) t.e_normal_changes.gl t.e_normal_changes.fn.kp) (kb_normal_changes_0_changes_kind t) (kc (v 2) (kc (v 5) kn))) (ac (v 6) an)) (len_cons (len_cons len_nil))))) (s1 (s_ret i_bl)) s0)
    (s1 (s_if (tnot (tru C (call_ C (cal C (ok__law_refused t base) t.e__law_refused.gl t.e__law_refused.fn.kp) (b__law_refused t) (ac (v 4) (ac (v 6) an)) (len_cons (len_cons len_nil))))) (s1 (s_ret i_bl)) s0))))))))
    (s1 (s_ret i_bl)))))))
end
end K23

set_option Elab.async false
set_option linter.all false
set_option maxRecDepth 100000
set_option maxHeartbeats 2000000
namespace K23
open PySem L2 MI
theorem draw_ok {M : Mem} {n : Nat} {many : Int} (hp : PoolAt n M) (h1 : 0 < many) (h2 : many < 2 ^ 62) :
    ∃ (x : Int) (M' : Mem), f__law_draw [.ref n, .int many] M = .ok (.int x) M' ∧ 0 ≤ x ∧ x < many ∧ PoolAt n M' ∧ Keep n M M' ∧ M'.length = M.length := by
  obtain ⟨ps, hne, hnn, hps⟩ := hp
  cases ps with
  | nil => exact absurd rfl hne
  | cons p r =>
    have hn := lt_of_get hps
    have p0 : 0 ≤ p := hnn p List.mem_cons_self
    have hg : getL M n = some (.int p :: iL r) := by unfold getL; rw [hps]; rfl
    have hps' : M[n]? = some (.lst (.int p :: iL r)) := hps
    have e0 : atI (D.int p :: iL r) 0 = some (.int p) := atI_0
    have hmod : 0 ≤ p.fmod many ∧ p.fmod many < many := ⟨Int.fmod_nonneg_of_pos p h1, Int.fmod_lt_of_pos p h1⟩
    have hm0 : (decide (many ≠ 0)) = true := decide_eq_true (by omega)
    have hdo : divOk p many = true := by
      unfold divOk
      simp only [hm0, Bool.true_and, Bool.or_eq_true, decide_eq_true_eq]
      left
      omega
    have hr : (-2 ^ 63 ≤ (0 : Int) ∧ (0 : Int) < 2 ^ 63) := by decide
    have ek : seqIndex? 0 ((iL r).length + 1) = some 0 := by simp [seqIndex?]
    have ei : ixN ((iL r).length + 1) 0 = some 0 := by simp [ixN]
    by_cases hc : p < many ∧ r ≠ []
    · obtain ⟨hc1, hc2⟩ := hc
      have hl : (1 : Int) < (((iL r).length + 1 : Nat) : Int) := by
        cases r with
        | nil => exact absurd rfl hc2
        | cons a b => simp only [iL, List.map_cons, List.length_cons]; omega
      refine ⟨p.fmod many, M.set n (.lst (iL r)), ?_, hmod.1, hmod.2, ⟨r, hc2, fun q hq => hnn q (List.mem_cons_of_mem _ hq), by rw [List.getElem?_set_self hn]⟩, .set, by simp⟩
      simp only [f__law_draw, runB, d__law_draw, sSeq, sSet, sIf, sRet, sDrop, dOp2, dVar, dC, dOpN, dCons, dNil, dTru, tAndD, bnd, bndO, onx, ort, retN, retR, ofS, ofBS, Bool.false_eq_true, reduceIte, dMet, mL, hps', nPop, List.map_cons, List.map_nil, List.length_cons, List.length_nil,
        List.replicate, List.append_eq, List.cons_append, List.nil_append, List.getElem?_cons_zero, List.getElem?_cons_succ, List.set_cons_zero, List.set_cons_succ, D.isExc, opIx, hg, e0, Option.map_some, nInt, one, opB, ltB, gtB, cmpI, truB, hc1, ek, decide_true, nLen, seqOf, hl, hr, and_self, wrL, List.eraseIdx_zero, List.tail_cons, opMod, MI.opI, hm0]
    · have hcond : (if decide (p < many) = true then R.ok (decide ((1 : Int) < (((iL r).length + 1 : Nat) : Int))) M else R.ok false M) = R.ok false M := by
        by_cases q : p < many
        · have : r = [] := Classical.byContradiction fun z => hc ⟨q, z⟩
          subst this
          simp [q, iL]
        · simp [q]
      have hmem : ∀ q ∈ p.fdiv many :: r, 0 ≤ q := fun q hq => by
        rcases List.mem_cons.mp hq with rfl | hq
        · exact Int.fdiv_nonneg p0 (by omega)
        · exact hnn q (List.mem_cons_of_mem _ hq)
      refine ⟨p.fmod many, M.set n (.lst (iL (p.fdiv many :: r))), ?_, hmod.1, hmod.2, ⟨p.fdiv many :: r, by simp, hmem, by rw [List.getElem?_set_self hn]⟩, .set, by simp⟩
      simp only [f__law_draw, runB, d__law_draw, sSeq, sSet, sIf, sRet, sDrop, dOp2, dVar, dC, dOpN, dCons, dNil, dTru, tAndD, bnd, bndO, onx, ort, retN, retR, ofS, ofBS, Bool.false_eq_true, if_false, if_true, dMet, mL, hps', nPop, List.map_cons, List.map_nil, List.length_cons, List.length_nil,
        List.replicate, List.append_eq, List.cons_append, List.nil_append, List.getElem?_cons_zero, List.getElem?_cons_succ, List.set_cons_zero, List.set_cons_succ, D.isExc, opIx, hg, e0, Option.map_some, nInt, one, opB, ltB, gtB, cmpI, truB, ek, nLen, seqOf, hcond, wrL, opMod, MI.opI, hm0, sSetIx, nSetIx, opDiv, hdo, ei]
      rfl
theorem cut_ints (ns : List Int) (lo hi : Option Int) : ∃ zs : List Int, cutD (iL ns) lo hi = iL zs ∧ zs.length ≤ ns.length := by
  refine ⟨(ns.drop (HT.sIx ns.length 0 lo)).take (HT.sIx ns.length ns.length hi - HT.sIx ns.length 0 lo), ?_, ?_⟩
  · simp [cutD, iL]
  · simp only [List.length_take, List.length_drop]; omega
theorem big1 : ∃ B : Int, 0 < B ∧ ∀ ev M, (dOp2 opPow (dOp2 opPow (dC (.int 10)) (dC (.int 60))) (dC (.int 9))) ev M = .ok (.int B) M :=
  ⟨(10 ^ 60) ^ 9, by decide, fun ev M => by
    have h1 : powOk 10 60 = true := by decide +kernel
    have h2 : powOk (10 ^ 60) 9 = true := by decide +kernel
    have e1 : (60 : Int).toNat = 60 := rfl
    have e2 : (9 : Int).toNat = 9 := rfl
    simp only [dOp2, dC, bnd, opPow, MI.opI, h1, h2, if_true, ofS, e1, e2]⟩
theorem big2 : ∃ B : Int, 0 < B ∧ ∀ ev M, (dOp2 opPow (dC (.int 10007)) (dC (.int 61))) ev M = .ok (.int B) M :=
  ⟨10007 ^ 61, by decide, fun ev M => by
    have h1 : powOk 10007 61 = true := by decide +kernel
    have e1 : (61 : Int).toNat = 61 := rfl
    simp only [dOp2, dC, bnd, opPow, MI.opI, h1, if_true, ofS, e1]⟩
theorem stock_ok (ns : List Int) (hl : ns.length ≤ 63) : ∃ (k : Nat) (M' : Mem), f__law_stock [.ref 0] [.rls (iL ns)] = .ok (.ref k) M' ∧ PoolAt k M' := by
  obtain ⟨B, hB, eB⟩ := big1
  obtain ⟨B2, hB2, eB2⟩ := big2
  obtain ⟨zs, ez, lz⟩ := cut_ints ns none (some 63)
  have hB0 : decide (B ≠ 0) = true := decide_eq_true (by omega)
  have lim9 : lim = 16777216 := rfl
  -- cells
  obtain ⟨as, M1, c1, ys, rs, e1, rfl, h0, hr, rfl⟩ := compL_ok (g := gN 3) (t := tYesD) (f := dOp2 opMod (dOpN nInt (dCons (dVar 3) dNil)) (dOp2 opPow (dOp2 opPow (dC (.int 10)) (dC (.int 60))) (dC (.int 9)))) (chk := cellIs 1 (iL zs)) (n := 2) (ev := wipeD [some (.ref 0), none, none, none] [3])
    (fun xs acc M => ∃ ys rs : List Int, xs = iL ys ∧ acc = iL rs ∧ (∀ r ∈ rs, 0 ≤ r) ∧ rs.length + ys.length ≤ 63 ∧ M = [.rls (iL ns), .lst (iL zs), .lst acc])
    (fun xs acc M ⟨ys, rs, e1, e2, e3, e4, e5⟩ => by
      subst e1 e2 e5
      exact ⟨cellIs_at rfl (plainL_iL _), rfl, by rw [iL_length, iL_length, lim9]; omega⟩)
    (fun x xs acc M ⟨ys, rs, e1, e2, e3, e4, e5⟩ => by
      subst e2 e5
      cases ys with
      | nil => cases e1
      | cons y ys =>
        cases e1
        refine ⟨_, true, [.rls (iL ns), .lst (iL zs), .lst (iL rs)], rfl, rfl, (fun h => by cases h), fun _ => ⟨.int (y.fmod B), [.rls (iL ns), .lst (iL zs), .lst (iL rs)], ?_, rfl, ys, rs ++ [y.fmod B], rfl, by rw [← iL_append]; rfl, fun r hr => ?_, by simp only [List.length_append, List.length_cons, List.length_nil] at e4 ⊢; omega, rfl⟩⟩
        · rw [dOp2]
          rw [show (dOpN nInt (dCons (dVar 3) dNil)) (List.map dropE ((wipeD [some (.ref 0), none, none, none] [3]).set 3 (some (.int y)))) [.rls (iL ns), .lst (iL zs), .lst (iL rs)] = .ok (.int y) [.rls (iL ns), .lst (iL zs), .lst (iL rs)] from rfl]
          rw [bnd, eB, bnd]
          simp only [opMod, MI.opI, hB0, if_true, ofS]
        · rcases List.mem_append.mp hr with hr | hr
          · exact e3 r hr
          · rw [List.mem_singleton.mp hr]
            exact Int.fmod_nonneg_of_pos y hB)
    (iL zs) [] [.rls (iL ns), .lst (iL zs), .lst []] ⟨zs, [], rfl, rfl, by simp, by simp; omega, rfl⟩
  -- mark
  obtain ⟨ev2, M2, c2, m, hm0, hm1, ⟨_, y2, _, rfl⟩, rfl⟩ := forL_ok (g := gN 3) (b := sSet 2 (dOp2 opMod (dOpN nInt (dCons (dOp2 opAdd (dOp2 opAdd (dOp2 opMul (dVar 2) (dC (.int 31))) (dVar 3)) (dC (.int 1))) dNil)) (dC (.int 1000003)))) (chk := cellIs 2 (iL rs))
    (fun xs ev M => ∃ (m : Int), 0 ≤ m ∧ m < 1000003 ∧ (∃ ys : List Int, ∃ y : Option D, xs = iL ys ∧ ev = [some (.ref 0), some (.ref 2), some (.int m), y]) ∧ M = [.rls (iL ns), .lst (iL zs), .lst (iL rs)])
    (fun xs ev M ⟨m, h1, h2, ⟨ys, y, e1, e2⟩, e3⟩ => by subst e3; exact cellIs_at rfl (plainL_iL _))
    (fun x xs ev M ⟨m, h1, h2, ⟨ys, y, e1, e2⟩, e3⟩ => by
      subst e2 e3
      cases ys with
      | nil => cases e1
      | cons z ys =>
        cases e1
        refine ⟨_, [some (.ref 0), some (.ref 2), some (.int ((m * 31 + z + 1).fmod 1000003)), some (.int z)], [.rls (iL ns), .lst (iL zs), .lst (iL rs)], rfl, .inl ?_, _, Int.fmod_nonneg_of_pos _ (by decide), Int.fmod_lt_of_pos _ (by decide), ⟨ys, _, rfl, rfl⟩, rfl⟩
        have hmul : mulOk m 31 = true := by simp [mulOk]
        simp only [sSet, dOp2, dVar, dC, dOpN, dCons, dNil, bnd, bndO, List.set_cons_succ, List.set_cons_zero, List.getElem?_cons_succ, List.getElem?_cons_zero, D.isExc, Bool.false_eq_true, if_false, opMul, opAdd, opMod, MI.opI, hmul, if_true, ofS, nInt, one, ne_eq, decide_true, decide_not, show decide ((1000003 : Int) = 0) = false from rfl, Bool.not_false])
    (iL rs) [some (.ref 0), some (.ref 2), some (.int 0), none] [.rls (iL ns), .lst (iL zs), .lst (iL rs)] ⟨0, by decide, by decide, ⟨rs, none, rfl, rfl⟩, rfl⟩
  -- those above 0
  obtain ⟨as3, M3, c3, ys3, qs, _, rfl, q0, hq, rfl⟩ := compL_ok (g := gN 3) (t := dTru (dOp2 (opB gtB) (dVar 3) (dC (.int 0)))) (f := dVar 3) (chk := cellIs 2 (iL rs)) (n := 3) (ev := wipeD [some (.ref 0), some (.ref 2), some (.int m), y2] [3])
    (fun xs acc M => ∃ ys qs : List Int, xs = iL ys ∧ acc = iL qs ∧ (∀ r ∈ qs, 0 ≤ r) ∧ qs.length + ys.length ≤ 63 ∧ M = [.rls (iL ns), .lst (iL zs), .lst (iL rs), .lst acc])
    (fun xs acc M ⟨ys, rs, e1, e2, e3, e4, e5⟩ => by
      subst e1 e2 e5
      exact ⟨cellIs_at rfl (plainL_iL _), rfl, by rw [iL_length, iL_length, lim9]; omega⟩)
    (fun x xs acc M ⟨ys, qs, e1, e2, e3, e4, e5⟩ => by
      subst e2 e5
      cases ys with
      | nil => cases e1
      | cons y ys =>
        cases e1
        refine ⟨_, decide (0 < y), [.rls (iL ns), .lst (iL zs), .lst (iL rs), .lst (iL qs)], rfl, ?_, (fun h => ⟨ys, qs, rfl, rfl, e3, by simp only [List.length_cons] at e4; omega, rfl⟩), fun h => ⟨.int y, [.rls (iL ns), .lst (iL zs), .lst (iL rs), .lst (iL qs)], rfl, rfl, ys, qs ++ [y], rfl, by rw [← iL_append]; rfl, fun r hr => ?_, by simp only [List.length_append, List.length_cons, List.length_nil] at e4 ⊢; omega, rfl⟩⟩
        · simp only [dTru, dOp2, dVar, dC, wipeD, List.map, dropE, List.set_cons_succ, List.set_cons_zero, List.getElem?_cons_succ, List.getElem?_cons_zero, D.isExc, Bool.false_eq_true, if_false, bnd, opB, gtB, cmpI, Option.map_some, ofS, truB, ofBS]
        · rcases List.mem_append.mp hr with hr | hr
          · exact e3 r hr
          · rw [List.mem_singleton.mp hr]
            exact Int.le_of_lt (of_decide_eq_true h))
    (iL rs) [] [.rls (iL ns), .lst (iL zs), .lst (iL rs), .lst []] ⟨rs, [], rfl, rfl, by simp, by simp; omega, rfl⟩
  refine ⟨5, [.rls (iL ns), .lst (iL zs), .lst (iL rs), .lst (iL qs), .lst [.int ((m + 1) * B2)], .lst (iL (qs ++ [(m + 1) * B2]))], ?_, qs ++ [(m + 1) * B2], by simp, fun p hp => ?_, rfl⟩
  · have hmul : mulOk (m + 1) B2 = true := by
      unfold mulOk
      have : decide ((m + 1).natAbs < 2 ^ 64) = true := decide_eq_true (by omega)
      rw [this]; rfl
    have hlen : (iL qs).length + 1 ≤ lim := by rw [iL_length, lim9]; omega
    have hsl : (dSl (dVar 0) oNo (oSome (dC (.int 63)))) [some (.ref 0), none, none, none] [.rls (iL ns)] = .ok (.ref 1) [.rls (iL ns), .lst (iL zs)] := by
      simp only [dSl, dVar, dC, oNo, oSome, bnd, List.getElem?_cons_zero, D.isExc, Bool.false_eq_true, if_false, opSl, getL, ez, ofS]
      rfl
    have g1 : getL [.rls (iL ns), .lst (iL zs)] 1 = some (iL zs) := rfl
    have g2 : getL [.rls (iL ns), .lst (iL zs), .lst (iL rs)] 2 = some (iL rs) := rfl
    have one_le : 1 ≤ lim := by rw [lim9]; decide
    simp only [f__law_stock, runB, d__law_stock, sSeq, sSet, sFor, sRet, dComp, itAny, hsl, bnd, g1, List.map_cons, List.map_nil, List.length_cons, List.length_nil, List.replicate, List.append_eq, List.cons_append, List.nil_append, Nat.reduceAdd, Nat.reduceSub, c1, Option.map_some, ofS, bndO, onx,
      List.set_cons_succ, List.set_cons_zero, dC, dVar, List.getElem?_cons_succ, List.getElem?_cons_zero, D.isExc, Bool.false_eq_true, if_false, g2]
    have s1 : (dComp (itAny (dVar 1)) (gN 3) (dTru (dOp2 (opB gtB) (dVar 3) (dC (D.int 0)))) (dVar 3) [3]) [some (D.ref 0), some (D.ref 2), some (D.int m), y2] [Cell.rls (iL ns), Cell.lst (iL zs), Cell.lst (iL rs)] =
        .ok (.ref 3) [Cell.rls (iL ns), Cell.lst (iL zs), Cell.lst (iL rs), Cell.lst (iL qs)] := by
      rw [dComp, itAny, show (dVar 1) [some (D.ref 0), some (D.ref 2), some (D.int m), y2] [Cell.rls (iL ns), Cell.lst (iL zs), Cell.lst (iL rs)] = .ok (.ref 2) [Cell.rls (iL ns), Cell.lst (iL zs), Cell.lst (iL rs)] from rfl, bnd]
      simp only [g2, bnd]
      rw [show ([Cell.rls (iL ns), Cell.lst (iL zs), Cell.lst (iL rs)] : Mem).length = 3 from rfl, show ([Cell.rls (iL ns), Cell.lst (iL zs), Cell.lst (iL rs)] ++ [Cell.lst []] : Mem) = [Cell.rls (iL ns), Cell.lst (iL zs), Cell.lst (iL rs), Cell.lst []] from rfl, c3]
      rfl
    have s2 : (dLst (dCons (dOp2 opMul (dOp2 opAdd (dVar 2) (dC (D.int 1))) (dOp2 opPow (dC (D.int 10007)) (dC (D.int 61)))) dNil)) [some (D.ref 0), some (D.ref 2), some (D.int m), y2] [Cell.rls (iL ns), Cell.lst (iL zs), Cell.lst (iL rs), Cell.lst (iL qs)] =
        .ok (.ref 4) [Cell.rls (iL ns), Cell.lst (iL zs), Cell.lst (iL rs), Cell.lst (iL qs), Cell.lst [D.int ((m + 1) * B2)]] := by
      have p1 : (dOp2 opMul (dOp2 opAdd (dVar 2) (dC (D.int 1))) (dOp2 opPow (dC (D.int 10007)) (dC (D.int 61)))) [some (D.ref 0), some (D.ref 2), some (D.int m), y2] [Cell.rls (iL ns), Cell.lst (iL zs), Cell.lst (iL rs), Cell.lst (iL qs)] =
          .ok (.int ((m + 1) * B2)) [Cell.rls (iL ns), Cell.lst (iL zs), Cell.lst (iL rs), Cell.lst (iL qs)] := by
        rw [dOp2, show (dOp2 opAdd (dVar 2) (dC (D.int 1))) [some (D.ref 0), some (D.ref 2), some (D.int m), y2] [Cell.rls (iL ns), Cell.lst (iL zs), Cell.lst (iL rs), Cell.lst (iL qs)] = .ok (.int (m + 1)) [Cell.rls (iL ns), Cell.lst (iL zs), Cell.lst (iL rs), Cell.lst (iL qs)] from rfl, bnd, eB2, bnd]
        simp only [opMul, hmul, if_true, ofS]
      simp only [dLst, dCons, dNil, p1, bnd, List.length_cons, List.length_nil, Nat.reduceAdd, one_le, if_true, List.cons_append, List.nil_append]
    rw [c2, onx, sRet, dOp2, s1, bnd, s2, bnd]
    simp only [opAdd, List.getElem?_cons_succ, List.getElem?_cons_zero, List.length_cons, List.length_nil, Nat.reduceAdd, hlen, if_true, ofS, bndO, retR, List.cons_append, List.nil_append]
    rw [← iL_append]
    rfl
  · rcases List.mem_append.mp hp with hp | hp
    · exact q0 p hp
    · rw [List.mem_singleton.mp hp]
      exact Int.mul_nonneg (by omega) (by omega)
end K23

set_option Elab.async false
set_option linter.all false
set_option maxRecDepth 100000
set_option maxHeartbeats 2000000
namespace K23
open PySem L2 MI
/-- a draw within an expression -/
theorem dDraw_ok {M : Mem} {n : Nat} {ev : MI.Env} {f : Den} {many : Int} (h0 : ev[0]? = some (some (.ref n))) (hf : f ev M = .ok (.int many) M) (hp : PoolAt n M) (h1 : 0 < many) (h2 : many < 2 ^ 62) :
    ∃ (x : Int) (M' : Mem), dCal f__law_draw (dCons (dVar 0) (dCons f dNil)) ev M = .ok (.int x) M' ∧ 0 ≤ x ∧ x < many ∧ PoolAt n M' ∧ Keep n M M' ∧ M'.length = M.length := by
  obtain ⟨x, M', e, h⟩ := draw_ok hp h1 h2
  refine ⟨x, M', ?_, h⟩
  have e0 : dVar 0 ev M = .ok (.ref n) M := by unfold dVar; rw [h0]; rfl
  simp only [dCal, dCons, dNil, e0, bnd, hf, e]
def Num (xs : List Int) : Prop := xs.length ≤ 12 ∧ ∀ x ∈ xs, 0 ≤ x ∧ x < 100
theorem LAt.keep {P : List Int → Prop} {k n : Nat} {M M' : Mem} (h : LAt P k M) (kp : Keep n M M') (hn : k ≠ n) : LAt P k M' := by
  obtain ⟨xs, h1, h2⟩ := h
  exact ⟨xs, h1, (kp.at_ k (lt_of_get h2) hn).trans h2⟩
/-- the first of them, as often as size tells -/
theorem step0 {M : Mem} {n k : Nat} {s z : Int} {t y : Option D} (hp : PoolAt n M) (hk : LAt Num k M) (hz : 0 ≤ z ∧ z ≤ 12) :
    ∃ k' M', (sIf (dTru (dOp2 (opB eqB) (dVar 1) (dC (.int 0)))) (sSet 4 (dOp2 opMul (dSl (dVar 4) oNo (oSome (dC (.int 1)))) (dVar 2))) sSkip) [some (.ref n), some (.int s), some (.int z), t, some (.ref k), y] M =
      .nx [some (.ref n), some (.int s), some (.int z), t, some (.ref k'), y] M' ∧ PoolAt n M' ∧ Keep n M M' ∧ LAt Num k' M' := by
  obtain ⟨xs, ⟨hx1, hx2⟩, hxs⟩ := hk
  by_cases hs : s = 0
  · have hg := getL_at hxs
    have hc := cut_iL xs none (some 1)
    rw [HT.sIx_none, show (1 : Int) = ((1 : Nat) : Int) from rfl, HT.sIx_nat] at hc
    generalize hzs : (xs.drop 0).take (min 1 xs.length - 0) = zs at hc
    have hz1 : zs.length ≤ 1 := by rw [← hzs]; simp only [List.length_take]; omega
    have hz2 : ∀ q ∈ zs, q ∈ xs := fun q hq => by rw [← hzs] at hq; exact List.mem_of_mem_drop (List.mem_of_mem_take hq)
    have lim9 : lim = 16777216 := rfl
    have hcond : (decide (-(2 ^ 63) ≤ z) && decide (z < 2 ^ 63) && decide ((iL zs).length * z.toNat ≤ lim)) = true := by
      have h1 : (iL zs).length * z.toNat ≤ 1 * 12 := Nat.mul_le_mul (by rw [iL_length]; exact hz1) (by omega)
      simp only [Bool.and_eq_true, decide_eq_true_eq]
      exact ⟨⟨by omega, by omega⟩, by rw [lim9]; omega⟩
    refine ⟨M.length + 1, (M ++ [.lst (iL zs)]) ++ [.lst (iL (List.replicate z.toNat zs).flatten)], ?_, (hp.push _).push _, Keep.push.trans Keep.push, (List.replicate z.toNat zs).flatten, ⟨?_, fun x hx => ?_⟩, ?_⟩
    · have hcd : eqB (.int s) (.int 0) M = some true := by simp [eqB, hs]
      have e1 : (M ++ [Cell.lst (iL zs)]).length = M.length + 1 := by simp
      simp only [sIf, dTru, dOp2, dVar, dC, List.getElem?_cons_succ, List.getElem?_cons_zero, D.isExc, Bool.false_eq_true, if_false, bnd, opB, hcd, Option.map_some, ofS, truB, ofBS, bndO, if_true, sSet, dSl, oNo, oSome, opSl, hg, show (1 : Int) = ((1 : Nat) : Int) from rfl, hc, opMul, get_push, hcond,
        rep_iL, e1, List.set_cons_succ, List.set_cons_zero]
    · rw [List.length_flatten, List.map_replicate, List.sum_replicate_nat]
      have : z.toNat * zs.length ≤ 12 * 1 := Nat.mul_le_mul (by omega) hz1
      omega
    · obtain ⟨l, hl, hx⟩ := List.mem_flatten.mp hx
      rw [(List.mem_replicate.mp hl).2] at hx
      exact hx2 x (hz2 x hx)
    · rw [show M.length + 1 = (M ++ [Cell.lst (iL zs)]).length by simp]
      exact get_push
  · have hcd : eqB (.int s) (.int 0) M = some false := by simp [eqB, hs]
    refine ⟨k, M, ?_, hp, .refl, xs, ⟨hx1, hx2⟩, hxs⟩
    simp only [sIf, dTru, dOp2, dVar, dC, List.getElem?_cons_succ, List.getElem?_cons_zero, D.isExc, Bool.false_eq_true, if_false, bnd, opB, hcd, Option.map_some, ofS, truB, ofBS, bndO, sSkip]
theorem step1 {M : Mem} {n k : Nat} {s : Int} {z t y : Option D} (hp : PoolAt n M) (hk : LAt Num k M) :
    ∃ k' M', (sIf (dTru (dOp2 (opB eqB) (dVar 1) (dC (.int 1)))) (sSet 4 (dOp1 opRev (dOpN nSorted (dCons (dVar 4) dNil)))) sSkip) [some (.ref n), some (.int s), z, t, some (.ref k), y] M =
      .nx [some (.ref n), some (.int s), z, t, some (.ref k'), y] M' ∧ PoolAt n M' ∧ Keep n M M' ∧ LAt Num k' M' := by
  obtain ⟨xs, ⟨hx1, hx2⟩, hxs⟩ := hk
  by_cases hs : s = 1
  · have hg := getL_at hxs
    have hi : intsOf (iL xs) = some xs := ints_iL xs
    have hg2 : getL (M ++ [.lst (iL (sortI xs))]) M.length = some (iL (sortI xs)) := getL_at get_push
    refine ⟨M.length + 1, (M ++ [.lst (iL (sortI xs))]) ++ [.lst (iL (sortI xs).reverse)], ?_, (hp.push _).push _, Keep.push.trans Keep.push, (sortI xs).reverse, ⟨?_, fun x hx => ?_⟩, ?_⟩
    · have hcd : eqB (.int s) (.int 1) M = some true := by simp [eqB, hs]
      have e1 : (M ++ [Cell.lst (iL (sortI xs))]).length = M.length + 1 := by simp
      have e2 : (iL (sortI xs)).reverse = iL (sortI xs).reverse := by simp [iL]
      simp only [sIf, dTru, dOp2, dOp1, dOpN, dCons, dNil, dVar, dC, List.getElem?_cons_succ, List.getElem?_cons_zero, D.isExc, Bool.false_eq_true, if_false, bnd, opB, hcd, Option.map_some, ofS, truB, ofBS, bndO, if_true, sSet, nSorted, one, hg, hi, show (sortI xs).map D.int = iL (sortI xs) from rfl, opRev, hg2, e1, e2, List.set_cons_succ, List.set_cons_zero]
    · rw [List.length_reverse, (sortI_perm xs).length_eq]; exact hx1
    · exact hx2 x ((sortI_perm xs).mem_iff.mp (List.mem_reverse.mp hx))
    · rw [show M.length + 1 = (M ++ [Cell.lst (iL (sortI xs))]).length by simp]
      exact get_push
  · have hcd : eqB (.int s) (.int 1) M = some false := by simp [eqB, hs]
    refine ⟨k, M, ?_, hp, .refl, xs, ⟨hx1, hx2⟩, hxs⟩
    simp only [sIf, dTru, dOp2, dVar, dC, List.getElem?_cons_succ, List.getElem?_cons_zero, D.isExc, Bool.false_eq_true, if_false, bnd, opB, hcd, Option.map_some, ofS, truB, ofBS, bndO, sSkip]
theorem step2 {M : Mem} {n k : Nat} {s : Int} {z t y : Option D} (hp : PoolAt n M) (hk : LAt Num k M) :
    ∃ k' M', (sIf (dTru (dOp2 (opB eqB) (dVar 1) (dC (.int 2)))) (sSet 4 (dSl (dVar 4) oNo (oSome (dC (.int 1))))) sSkip) [some (.ref n), some (.int s), z, t, some (.ref k), y] M =
      .nx [some (.ref n), some (.int s), z, t, some (.ref k'), y] M' ∧ PoolAt n M' ∧ Keep n M M' ∧ LAt Num k' M' := by
  obtain ⟨xs, ⟨hx1, hx2⟩, hxs⟩ := hk
  by_cases hs : s = 2
  · have hg := getL_at hxs
    have hc := cut_iL xs none (some 1)
    generalize hzs : (xs.drop (HT.sIx xs.length 0 none)).take (HT.sIx xs.length xs.length (some 1) - HT.sIx xs.length 0 none) = zs at hc
    have hz1 : zs.length ≤ xs.length := by rw [← hzs]; simp only [List.length_take, List.length_drop]; omega
    have hz2 : ∀ q ∈ zs, q ∈ xs := fun q hq => by rw [← hzs] at hq; exact List.mem_of_mem_drop (List.mem_of_mem_take hq)
    refine ⟨M.length, M ++ [.lst (iL zs)], ?_, hp.push _, Keep.push, zs, ⟨by omega, fun x hx => hx2 x (hz2 x hx)⟩, get_push⟩
    have hcd : eqB (.int s) (.int 2) M = some true := by simp [eqB, hs]
    simp only [sIf, dTru, dOp2, dVar, dC, List.getElem?_cons_succ, List.getElem?_cons_zero, D.isExc, Bool.false_eq_true, if_false, bnd, opB, hcd, Option.map_some, ofS, truB, ofBS, bndO, if_true, sSet, dSl, oNo, oSome, opSl, hg, hc, List.set_cons_succ, List.set_cons_zero]
  · have hcd : eqB (.int s) (.int 2) M = some false := by simp [eqB, hs]
    refine ⟨k, M, ?_, hp, .refl, xs, ⟨hx1, hx2⟩, hxs⟩
    simp only [sIf, dTru, dOp2, dVar, dC, List.getElem?_cons_succ, List.getElem?_cons_zero, D.isExc, Bool.false_eq_true, if_false, bnd, opB, hcd, Option.map_some, ofS, truB, ofBS, bndO, sSkip]
end K23

set_option Elab.async false
set_option linter.all false
set_option maxRecDepth 100000
set_option maxHeartbeats 2000000
namespace K23
open PySem L2 MI
theorem rangeD_len : ∀ (n : Nat) (lo : Int), (rangeD lo n).length = n
  | 0, _ => rfl
  | n + 1, lo => by
    show (rangeD (lo + 1) n).length + 1 = n + 1
    rw [rangeD_len n]
theorem top_ok {M : Mem} {n : Nat} {a b c d e : Option D} (hp : PoolAt n M) : ∃ (t : Int) (M' : Mem),
    (dOp2 opIx (dLst (dCons (dC (.int 3)) (dCons (dC (.int 4)) (dCons (dC (.int 11)) (dCons (dC (.int 100)) dNil))))) (dCal f__law_draw (dCons (dVar 0) (dCons (dC (.int 4)) dNil)))) [some (.ref n), a, b, c, d, e] M = .ok (.int t) M' ∧ 0 < t ∧ t ≤ 100 ∧ PoolAt n M' ∧ Keep n M M' := by
  obtain ⟨x, M', e1, h0, h1, hp', hk, hl⟩ := dDraw_ok (ev := [some (.ref n), a, b, c, d, e]) (f := dC (.int 4)) (many := 4) (M := M ++ [.lst (iL [3, 4, 11, 100])]) rfl rfl (hp.push _) (by decide) (by decide)
  have hn := hp.lt
  have hg : getL M' M.length = some (iL [3, 4, 11, 100]) := getL_at ((hk.at_ M.length (by simp) (by omega)).trans get_push)
  have four : (4 : Nat) ≤ lim := by decide
  have eL : dLst (dCons (dC (.int 3)) (dCons (dC (.int 4)) (dCons (dC (.int 11)) (dCons (dC (.int 100)) dNil)))) [some (.ref n), a, b, c, d, e] M = .ok (.ref M.length) (M ++ [.lst (iL [3, 4, 11, 100])]) := by
    simp only [dLst, dCons, dNil, dC, bnd, List.length_cons, List.length_nil, Nat.reduceAdd, four, if_true]
    rfl
  have hx : x = 0 ∨ x = 1 ∨ x = 2 ∨ x = 3 := by omega
  have go : ∀ t : Int, atI (iL [3, 4, 11, 100]) x = some (.int t) → 0 < t → t ≤ 100 → ∃ (t : Int) (M' : Mem),
    (dOp2 opIx (dLst (dCons (dC (.int 3)) (dCons (dC (.int 4)) (dCons (dC (.int 11)) (dCons (dC (.int 100)) dNil))))) (dCal f__law_draw (dCons (dVar 0) (dCons (dC (.int 4)) dNil)))) [some (.ref n), a, b, c, d, e] M = .ok (.int t) M' ∧ 0 < t ∧ t ≤ 100 ∧ PoolAt n M' ∧ Keep n M M' := fun t ht h1 h2 =>
    ⟨t, M', by
      rw [dOp2, eL, bnd, e1, bnd]
      simp only [opIx, hg, ht, Option.map_some, ofS], h1, h2, hp', Keep.push.trans hk⟩
  rcases hx with rfl | rfl | rfl | rfl
  · exact go 3 rfl (by decide) (by decide)
  · exact go 4 rfl (by decide) (by decide)
  · exact go 11 rfl (by decide) (by decide)
  · exact go 100 rfl (by decide) (by decide)
theorem numbers_ok {M : Mem} {n : Nat} {s z t : Int} {y w : Option D} (hp : PoolAt n M) (hz : 0 ≤ z ∧ z ≤ 12) (ht : 0 < t ∧ t ≤ 100) : ∃ (k : Nat) (M' : Mem),
    (dComp (itRange (dCons (dVar 2) dNil)) (gN 5) tYesD (dCal f__law_draw (dCons (dVar 0) (dCons (dVar 3) dNil))) [5]) [some (.ref n), some (.int s), some (.int z), some (.int t), y, w] M = .ok (.ref k) M' ∧ PoolAt n M' ∧ Keep n M M' ∧ LAt Num k M' := by
  have hn := hp.lt
  have hb : big z = true := by unfold big; simp only [Bool.and_eq_true, decide_eq_true_eq]; omega
  have lim9 : lim = 16777216 := rfl
  obtain ⟨acc, M2, c1, qs, rfl, h1, h2, hp2, hk2, hc2⟩ := compL_ok (g := gN 5) (t := tYesD) (f := dCal f__law_draw (dCons (dVar 0) (dCons (dVar 3) dNil))) (chk := yes) (n := M.length) (ev := wipeD [some (.ref n), some (.int s), some (.int z), some (.int t), y, w] [5])
    (fun xs acc M1 => ∃ qs : List Int, acc = iL qs ∧ (∀ q ∈ qs, 0 ≤ q ∧ q < 100) ∧ qs.length + xs.length ≤ 12 ∧ PoolAt n M1 ∧ Keep n M M1 ∧ M1[M.length]? = some (.lst acc))
    (fun xs acc M1 ⟨qs, e2, h1, h2, hp1, hk1, hc1⟩ => by
      subst e2
      exact ⟨rfl, hc1, by rw [iL_length, lim9]; omega⟩)
    (fun x xs acc M1 ⟨qs, e2, h1, h2, hp1, hk1, hc1⟩ => by
      subst e2
      obtain ⟨v, M3, e3, v0, v1, hp3, hk3, hl3⟩ := dDraw_ok (ev := List.map dropE ((wipeD [some (.ref n), some (.int s), some (.int z), some (.int t), y, w] [5]).set 5 (some x))) (f := dVar 3) (many := t) (M := M1) rfl rfl hp1 ht.1 (by omega)
      have hc3 : M3[M.length]? = some (.lst (iL qs)) := (hk3.at_ _ (lt_of_get hc1) (by omega)).trans hc1
      have hlt : M.length < M3.length := lt_of_get hc3
      refine ⟨_, true, M1, rfl, rfl, (fun h => by cases h), fun _ => ⟨.int v, M3, e3, hc3, qs ++ [v], by rw [← iL_append]; rfl, fun q hq => ?_, by simp only [List.length_append, List.length_cons, List.length_nil] at h2 ⊢; omega, ?_, ?_, ?_⟩⟩
      · rcases List.mem_append.mp hq with hq | hq
        · exact h1 q hq
        · rw [List.mem_singleton.mp hq]; omega
      · exact hp3.keep .set (by omega)
      · refine ⟨?_, fun j hj hjn => ?_⟩
        · rw [List.length_set]; omega
        · rw [List.getElem?_set_ne (by omega), hk3.at_ j (Nat.lt_of_lt_of_le hj hk1.le) hjn]
          exact hk1.at_ j hj hjn
      · rw [List.getElem?_set_self hlt])
    (rangeD 0 z.toNat) [] (M ++ [.lst []]) ⟨[], rfl, by simp, by rw [rangeD_len]; simp; omega, hp.push _, .push, get_push⟩
  refine ⟨M.length, M2, ?_, hp2, hk2, qs, ⟨by simpa using h2, h1⟩, hc2⟩
  simp only [dComp, itRange, dCons, dNil, bnd]
  rw [show (dVar 2) [some (.ref n), some (.int s), some (.int z), some (.int t), y, w] M = .ok (.int z) M from rfl]
  simp only [bnd, hb, if_true]
  rw [c1]
  rfl
theorem change_word_ok {M : Mem} {n : Nat} (hp : PoolAt n M) : ∃ (xs : List Int) (M' : Mem), f__law_change_word [.ref n] M = .ok (.tup (iL xs)) M' ∧ PoolAt n M' ∧ Keep n M M' ∧ Num xs := by
  obtain ⟨s, M1, e1, s0, s1, hp1, hk1, _⟩ := dDraw_ok (ev := [some (.ref n), none, none, none, none, none]) (f := dC (.int 5)) (many := 5) rfl rfl hp (by decide) (by decide)
  obtain ⟨z, M2, e2, z0, z1, hp2, hk2, _⟩ := dDraw_ok (ev := [some (.ref n), some (.int s), none, none, none, none]) (f := dC (.int 13)) (many := 13) rfl rfl hp1 (by decide) (by decide)
  obtain ⟨t, M3, e3, t0, t1, hp3, hk3⟩ := top_ok (a := some (.int s)) (b := some (.int z)) (c := none) (d := none) (e := none) hp2
  obtain ⟨k4, M4, e4, hp4, hk4, l4⟩ := numbers_ok (s := s) (z := z) (t := t) (y := none) (w := none) hp3 ⟨z0, by omega⟩ ⟨t0, t1⟩
  obtain ⟨k5, M5, e5, hp5, hk5, l5⟩ := step0 (s := s) (z := z) (t := some (.int t)) (y := none) hp4 l4 ⟨z0, by omega⟩
  obtain ⟨k6, M6, e6, hp6, hk6, l6⟩ := step1 (s := s) (z := some (.int z)) (t := some (.int t)) (y := none) hp5 l5
  obtain ⟨k7, M7, e7, hp7, hk7, xs, l7, l8⟩ := step2 (s := s) (z := some (.int z)) (t := some (.int t)) (y := none) hp6 l6
  refine ⟨xs, M7, ?_, hp7, hk1.trans (hk2.trans (hk3.trans (hk4.trans (hk5.trans (hk6.trans hk7))))), l7⟩
  have hg := getL_at l8
  rw [f__law_change_word, runB, d__law_change_word]
  simp only [List.map_cons, List.map_nil, List.length_cons, List.length_nil, Nat.reduceAdd, Nat.reduceSub, List.replicate, List.append_eq, List.cons_append, List.nil_append]
  simp only [sSeq, sSet, e1, e2, e3, e4, e5, e6, e7, bndO, onx, List.set_cons_succ, List.set_cons_zero]
  simp only [sRet, dOpN, dCons, dNil, dVar, List.getElem?_cons_succ, List.getElem?_cons_zero, D.isExc, Bool.false_eq_true, if_false, bnd, nTuple, one, seqOf, hg, ofS, bndO, retR]
end K23

set_option Elab.async false
set_option linter.all false
set_option maxRecDepth 100000
set_option maxHeartbeats 2000000
namespace K23
open PySem L2 MI
def names16 : List Str := [Str.ofString "c", Str.ofString "l", Str.ofString "N", Str.ofString "I", Str.ofString "CL", Str.ofString "LC", Str.ofString "CC", Str.ofString "LL", Str.ofString " ", Str.ofString "C ", Str.ofString " L", Str.ofString "None", Str.ofString "0", Str.ofString "CIN", Str.ofString "\"", Str.ofString "-"]
def letters : Str := Str.ofString "CLNI cl"
def letL : List Str := letters.cps.toList.map fun c => ⟨#[c]⟩
def texts : Nat → List Str
  | 0 => [Str.ofString ""]
  | n + 1 => (texts n).flatMap fun t => letL.map fun c => t ++ c
def oddB (s : Str) : Bool := decide (s ≠ Str.ofString "") && decide (s ≠ Str.ofString "C") && decide (s ≠ Str.ofString "L") && decide ((reprText s).length ≤ 100) && PyData.strOk s
theorem odd16 : ∀ s ∈ names16, oddB s = true := by decide +kernel
theorem oddT : ∀ n, n ≤ 3 → ∀ t ∈ texts n, oddB (t ++ Str.ofString "x") = true ∧ t.length ≤ 3 := by
  have h : ∀ n ∈ [0, 1, 2, 3], ∀ t ∈ texts n, oddB (t ++ Str.ofString "x") = true ∧ t.length ≤ 3 := by decide +kernel
  intro n hn
  exact h n (by simp; omega)
theorem text_step {t c : Str} {i : Nat} (h : t ∈ texts i) (hc : c ∈ letL) : t ++ c ∈ texts (i + 1) := List.mem_flatMap.mpr ⟨t, h, List.mem_map.mpr ⟨c, hc, rfl⟩⟩
theorem letL_at {v : Int} (h0 : 0 ≤ v) (h1 : v < 7) : ∃ c, atI letters.cps.toList v = some c ∧ (⟨#[c]⟩ : Str) ∈ letL := by
  have hx : v = 0 ∨ v = 1 ∨ v = 2 ∨ v = 3 ∨ v = 4 ∨ v = 5 ∨ v = 6 := by omega
  rcases hx with rfl | rfl | rfl | rfl | rfl | rfl | rfl <;> exact ⟨_, rfl, by decide +kernel⟩
theorem names_at {v : Int} (h0 : 0 ≤ v) (h1 : v < 16) : ∃ s ∈ names16, atI (names16.map D.str) v = some (.str s) := by
  obtain ⟨j, rfl⟩ : ∃ j : Nat, v = (j : Int) := ⟨v.toNat, by omega⟩
  have hl : j < names16.length := by show j < 16; omega
  refine ⟨names16[j], List.getElem_mem hl, atI_nat ?_⟩
  rw [List.getElem?_map, List.getElem?_eq_getElem hl]
  rfl
theorem odd_name_ok {M : Mem} {n : Nat} (hp : PoolAt n M) : ∃ (s : Str) (M' : Mem), f__law_odd_name [.ref n] M = .ok (.str s) M' ∧ PoolAt n M' ∧ Keep n M M' ∧ oddB s = true := by
  have hn := hp.lt
  have lim9 : lim = 16777216 := rfl
  have l16 : (16 : Nat) ≤ lim := by decide
  have eL : ∀ a b c d e, (dLst (dCons (dC (.str (Str.ofString "c"))) (dCons (dC (.str (Str.ofString "l"))) (dCons (dC (.str (Str.ofString "N"))) (dCons (dC (.str (Str.ofString "I"))) (dCons (dC (.str (Str.ofString "CL"))) (dCons (dC (.str (Str.ofString "LC"))) (dCons (dC (.str (Str.ofString "CC"))) (dCons (dC (.str (Str.ofString "LL"))) (dCons (dC (.str (Str.ofString " "))) (dCons (dC (.str (Str.ofString "C "))) (dCons (dC (.str (Str.ofString " L"))) (dCons (dC (.str (Str.ofString "None"))) (dCons (dC (.str (Str.ofString "0"))) (dCons (dC (.str (Str.ofString "CIN"))) (dCons (dC (.str (Str.ofString "\""))) (dCons (dC (.str (Str.ofString "-"))) dNil))))))))))))))))) [some (.ref n), a, b, c, d, e] M =
      .ok (.ref M.length) (M ++ [.lst (names16.map .str)]) := fun a b c d e => by
    simp only [dLst, dCons, dNil, dC, bnd, List.length_cons, List.length_nil, Nat.reduceAdd, l16, if_true]
    rfl
  obtain ⟨v, M1, e1, v0, v1, hp1, hk1, hl1⟩ := dDraw_ok (ev := [some (.ref n), some (.ref M.length), none, none, none, none]) (f := dC (.int 20)) (many := 20) (M := M ++ [.lst (names16.map .str)]) rfl rfl (hp.push _) (by decide) (by decide)
  have hg : getL M1 M.length = some (names16.map .str) := getL_at ((hk1.at_ M.length (by simp) (by omega)).trans get_push)
  by_cases hv : v < 16
  · obtain ⟨s, hs, ea⟩ := names_at v0 hv
    refine ⟨s, M1, ?_, hp1, Keep.push.trans hk1, odd16 s hs⟩
    simp only [f__law_odd_name, runB, d__law_odd_name, List.map_cons, List.map_nil, List.length_cons, List.length_nil, Nat.reduceAdd, Nat.reduceSub, List.replicate, List.append_eq, List.cons_append, List.nil_append, sSeq, sSet, eL, bndO, onx, List.set_cons_succ, List.set_cons_zero, e1,
      sIf, dTru, dOp2, dVar, dC, List.getElem?_cons_succ, List.getElem?_cons_zero, D.isExc, Bool.false_eq_true, if_false, bnd, opB, ltB, hv, decide_true, Option.map_some, ofS, truB, ofBS, if_true, sRet, opIx, hg, ea, ort, retR]
  · -- letters
    obtain ⟨m, M2, e2, m0, m1, hp2, hk2, hl2⟩ := dDraw_ok (ev := [some (.ref n), some (.ref M.length), some (.int v), some (.str letters), some (.str (Str.ofString "")), none]) (f := dC (.int 4)) (many := 4) (M := M1) rfl rfl hp1 (by decide) (by decide)
    have hb : big m = true := by unfold big; simp only [Bool.and_eq_true, decide_eq_true_eq]; omega
    obtain ⟨ev3, M3, e3, i, t, y, hi, ht, rfl, hp3, hk3⟩ := forL_ok (g := gN 5) (b := sSet 4 (dOp2 opAdd (dVar 4) (dOp2 opIx (dVar 3) (dCal f__law_draw (dCons (dVar 0) (dCons (dC (.int 7)) dNil)))))) (chk := yes)
      (fun xs ev M' => ∃ (i : Nat) (t : Str) (y : Option D), i + xs.length = m.toNat ∧ t ∈ texts i ∧ ev = [some (.ref n), some (.ref M.length), some (.int v), some (.str letters), some (.str t), y] ∧ PoolAt n M' ∧ Keep n M2 M')
      (fun xs ev M' h => rfl)
      (fun x xs ev M' ⟨i, t, y, hi, ht, ee, hp', hk'⟩ => by
        subst ee
        obtain ⟨w, M4, e4, w0, w1, hp4, hk4, hl4⟩ := dDraw_ok (ev := [some (.ref n), some (.ref M.length), some (.int v), some (.str letters), some (.str t), some x]) (f := dC (.int 7)) (many := 7) (M := M') rfl rfl hp' (by decide) (by decide)
        obtain ⟨c, ec, hc⟩ := letL_at w0 w1
        simp only [List.length_cons] at hi
        have hlen := (oddT i (by omega) t ht).2
        have h9 : t.length + (⟨#[c]⟩ : Str).length ≤ lim := by
          have : (⟨#[c]⟩ : Str).length = 1 := rfl
          rw [this, lim9]; omega
        have l7 : letters.length ≤ lim := by decide +kernel
        refine ⟨_, [some (.ref n), some (.ref M.length), some (.int v), some (.str letters), some (.str (t ++ ⟨#[c]⟩)), some x], M4, rfl, .inl ?_, i + 1, t ++ ⟨#[c]⟩, some x, by omega, text_step ht hc, rfl, hp4, hk'.trans hk4⟩
        have ev' : ([some (.ref n), some (.ref M.length), some (.int v), some (.str letters), some (.str t), y] : MI.Env).set 5 (some x) = [some (.ref n), some (.ref M.length), some (.int v), some (.str letters), some (.str t), some x] := rfl
        rw [ev', sSet, dOp2, show (dVar 4) [some (.ref n), some (.ref M.length), some (.int v), some (.str letters), some (.str t), some x] M' = .ok (.str t) M' from rfl, bnd, dOp2, show (dVar 3) [some (.ref n), some (.ref M.length), some (.int v), some (.str letters), some (.str t), some x] M' = .ok (.str letters) M' from rfl, bnd, e4, bnd]
        simp only [opIx, l7, if_true, ec, Option.map_some, ofS, bnd, opAdd, h9, bndO]
        rfl)
      (rangeD 0 m.toNat) [some (.ref n), some (.ref M.length), some (.int v), some (.str letters), some (.str (Str.ofString "")), none] M2 ⟨0, Str.ofString "", none, by rw [rangeD_len]; omega, by simp [texts], rfl, hp2, .refl⟩
    have hi3 : i ≤ 3 := by simp only [List.length_nil] at hi; omega
    obtain ⟨ho, hlen⟩ := oddT i hi3 t ht
    refine ⟨t ++ Str.ofString "x", M3, ?_, hp3, Keep.push.trans (hk1.trans (hk2.trans hk3)), ho⟩
    have h9 : t.length + (Str.ofString "x").length ≤ lim := by
      have : (Str.ofString "x").length = 1 := rfl
      rw [this, lim9]; omega
    have er : (dCons (dCal f__law_draw (dCons (dVar 0) (dCons (dC (.int 4)) dNil))) dNil) [some (.ref n), some (.ref M.length), some (.int v), some (.str letters), some (.str (Str.ofString "")), none] M1 = .ok [.int m] M2 := by
      rw [dCons, e2, bnd]; rfl
    simp only [f__law_odd_name, runB, d__law_odd_name, List.map_cons, List.map_nil, List.length_cons, List.length_nil, Nat.reduceAdd, Nat.reduceSub, List.replicate, List.append_eq, List.cons_append, List.nil_append, sSeq, sSet, eL, bndO, onx, List.set_cons_succ, List.set_cons_zero, e1,
      sIf, dTru, dOp2, dVar, dC, List.getElem?_cons_succ, List.getElem?_cons_zero, D.isExc, Bool.false_eq_true, if_false, bnd, opB, ltB, hv, decide_false, Option.map_some, ofS, truB, ofBS, sSkip, sFor, itRange]
    rw [show Str.ofString "CLNI cl" = letters from rfl, er]
    simp only [bnd, hb, if_true, bndO]
    rw [e3]
    simp only [onx, sRet, dOp2, dVar, dC, List.getElem?_cons_succ, List.getElem?_cons_zero, D.isExc, Bool.false_eq_true, if_false, bnd, opAdd, h9, if_true, ofS, bndO, retR]
end K23

set_option Elab.async false
set_option linter.all false
set_option maxRecDepth 100000
set_option maxHeartbeats 2000000
namespace K23
open PySem L2 MI
/-! the same -/
theorem toP_ints {M : Mem} {n : Nat} : ∀ xs : List Int, optMap (toP M n) (iL xs) = some (xs.map PyData.int)
  | [] => rfl
  | x :: xs => by
    have e : toP M n (.int x) = some (.int x) := by cases n <;> rfl
    have ih := toP_ints (M := M) (n := n) xs
    unfold iL at ih ⊢
    simp only [List.map_cons, optMap, e, ih]
theorem canLay_ints : ∀ xs : List Int, PyData.canLayAll0 (xs.map PyData.int) = true
  | [] => by simp [PyData.canLayAll0]
  | x :: xs => by simp [PyData.canLayAll0, PyData.canLay0, canLay_ints xs]
theorem depth_ints : ∀ xs : List Int, PyData.depthAll (xs.map PyData.int) = 0
  | [] => by simp [PyData.depthAll]
  | x :: xs => by simp [PyData.depthAll, PyData.depth, depth_ints xs]
theorem toPs_ints {M : Mem} (xs : List Int) : toPs M (.tup (iL xs)) = some (.tuple (xs.map .int)) := by
  have e : toP M 66 (.tup (iL xs)) = some (.tuple (xs.map .int)) := by
    show (optMap (toP M 65) (iL xs)).map PyData.tuple = _
    rw [toP_ints]; rfl
  have h : SeqAt.shaped (.tuple (xs.map .int)) = true := by
    unfold SeqAt.shaped
    simp [PyData.canLay0, PyData.depth, canLay_ints, depth_ints]
  unfold toPs
  rw [e]
  simp only [h, if_true]
theorem showable_ints : ∀ xs : List Int, (∀ x ∈ xs, 0 ≤ x ∧ x < 100) → PyData.showableAll (xs.map PyData.int) = true
  | [], _ => by simp [PyData.showableAll]
  | x :: xs, h => by
    have h1 := h x List.mem_cons_self
    have h2 : x.natAbs < 2 ^ 1920 := Nat.lt_of_lt_of_le (show x.natAbs < 100 by omega) (by decide +kernel)
    have : x.natAbs.log2 < 1920 := by
      by_cases z : x.natAbs = 0
      · rw [z]; decide
      · exact (Nat.log2_lt z).mpr h2
    simp [PyData.showableAll, PyData.showable, showable_ints xs fun y hy => h y (List.mem_cons_of_mem _ hy), this]
theorem two : ∀ x : Int, 0 ≤ x → x < 100 → (PyData.shown (.int x)).length ≤ 2 := by
  have h : ∀ n : Nat, n < 100 → (PyData.shown (.int (n : Int))).length ≤ 2 := by decide +kernel
  intro x h0 h1
  obtain ⟨j, rfl⟩ : ∃ j : Nat, x = (j : Int) := ⟨x.toNat, by omega⟩
  exact h j (by omega)
theorem shown_len : ∀ xs : List Int, (∀ x ∈ xs, 0 ≤ x ∧ x < 100) → ((PyData.shownAll (xs.map PyData.int)).map (·.length)).sum ≤ 2 * xs.length ∧ (PyData.shownAll (xs.map PyData.int)).length = xs.length
  | [], _ => by simp [PyData.shownAll]
  | x :: xs, h => by
    obtain ⟨h1, h2⟩ := shown_len xs fun y hy => h y (List.mem_cons_of_mem _ hy)
    have h3 := two x (h x List.mem_cons_self).1 (h x List.mem_cons_self).2
    simp only [List.map_cons, PyData.shownAll, List.sum_cons, List.length_cons] at h1 h2 ⊢
    omega
def Ok24 (xs : List Int) : Prop := xs.length ≤ 24 ∧ ∀ x ∈ xs, 0 ≤ x ∧ x < 100
theorem same_ints {M : Mem} {xs : List Int} (h : Ok24 xs) : f__law_same [.tup (iL xs), .tup (iL xs)] M = .ok (.bl true) M := by
  have e := toPs_ints (M := M) xs
  have hs : (PyData.tuple (xs.map .int)).showable = true := by
    show PyData.showableAll _ = true
    exact showable_ints xs h.2
  have hl : (PyData.tuple (xs.map .int)).shown.length ≤ lim := by
    obtain ⟨h1, h2⟩ := shown_len xs h.2
    have h3 := tupleText_len_le (PyData.shownAll (xs.map PyData.int))
    have h4 := h.1
    show (tupleText (PyData.shownAll (xs.map PyData.int))).length ≤ 16777216
    omega
  have hq : PyData.eqv (.tuple (xs.map .int)) (.tuple (xs.map .int)) = true := SeqAt.eqv_refl _ (by simp [PyData.canLay0, canLay_ints])
  have hc : ((PyData.tuple (xs.map .int)).showable && decide ((PyData.tuple (xs.map .int)).shown.length ≤ lim)) = true := by rw [hs, decide_eq_true hl]; rfl
  simp only [f__law_same, runB, d__law_same, sRet, dAnd, dOp2, dVar, dOpN, dCons, dNil, List.map_cons, List.map_nil, List.length_cons, List.length_nil, List.replicate, List.append_eq, List.cons_append, List.nil_append, List.append_nil, Nat.reduceAdd, Nat.reduceSub, List.getElem?_cons_succ, List.getElem?_cons_zero, D.isExc, Bool.false_eq_true, if_false,
    bnd, opB, eqB, e, hq, Option.map_some, ofS, truB, nRepr, one, hc, if_true, bndO, retR, decide_true]
theorem same_str {M : Mem} {s : Str} (h : (reprText s).length ≤ lim) (hk : PyData.strOk s = true) : f__law_same [.str s, .str s] M = .ok (.bl true) M := by
  have e : toPs M (.str s) = some (.str s) := by
    have h2 : SeqAt.shaped (.str s) = true := by unfold SeqAt.shaped; simp [PyData.canLay0, PyData.depth, hk]
    unfold toPs
    rw [show toP M 66 (.str s) = some (.str s) from rfl]
    simp only [h2, if_true]
  have hc : ((PyData.str s).showable && decide ((PyData.str s).shown.length ≤ lim)) = true := by
    rw [show (PyData.str s).showable = true by simp [PyData.showable], show (PyData.str s).shown = reprText s by simp [PyData.shown], decide_eq_true h]; rfl
  simp only [f__law_same, runB, d__law_same, sRet, dAnd, dOp2, dVar, dOpN, dCons, dNil, List.map_cons, List.map_nil, List.length_cons, List.length_nil, List.replicate, List.append_eq, List.cons_append, List.nil_append, List.append_nil, Nat.reduceAdd, Nat.reduceSub, List.getElem?_cons_succ, List.getElem?_cons_zero, D.isExc, Bool.false_eq_true, if_false,
    bnd, opB, eqB, e, Option.map_some, ofS, truB, nRepr, one, hc, if_true, bndO, retR, decide_true]
end K23

set_option Elab.async false
set_option linter.all false
set_option maxRecDepth 100000
set_option maxHeartbeats 2000000
namespace K23
open PySem L2 MI
/-! counting sort -/
def cs (xs : List Int) : Nat → List Int
  | 0 => []
  | i + 1 => cs xs i ++ List.replicate (xs.count (i : Int)) (i : Int)
theorem cs_count (xs : List Int) (a : Int) : ∀ i : Nat, (cs xs i).count a = if 0 ≤ a ∧ a < i then xs.count a else 0
  | 0 => by
    rw [if_neg (by omega)]; rfl
  | i + 1 => by
    unfold cs
    rw [List.count_append, cs_count xs a i, List.count_replicate]
    by_cases h : a = (i : Int)
    · subst h
      rw [if_neg (by omega), if_pos (by simp), if_pos (by omega), Nat.zero_add]
    · by_cases h2 : 0 ≤ a ∧ a < i
      · rw [if_pos h2, if_neg (by simpa using fun e => h e.symm), if_pos (by omega), Nat.add_zero]
      · rw [if_neg h2, if_neg (by simpa using fun e => h e.symm), if_neg (by omega)]
theorem cs_lt (xs : List Int) : ∀ (i : Nat), ∀ x ∈ cs xs i, x < i
  | 0, x, h => by cases h
  | i + 1, x, h => by
    unfold cs at h
    rcases List.mem_append.mp h with h | h
    · have := cs_lt xs i x h; omega
    · rw [(List.mem_replicate.mp h).2]; omega
theorem cs_sorted (xs : List Int) : ∀ i, (cs xs i).Pairwise (· ≤ ·)
  | 0 => .nil
  | i + 1 => by
    unfold cs
    rw [List.pairwise_append]
    refine ⟨cs_sorted xs i, ?_, fun a ha b hb => ?_⟩
    · rw [List.pairwise_replicate]; exact .inr (Int.le_refl _)
    · rw [(List.mem_replicate.mp hb).2]
      exact Int.le_of_lt (cs_lt xs i a ha)
theorem cs_len (xs : List Int) : ∀ i, (cs xs i).length ≤ i * xs.length
  | 0 => by simp [cs]
  | i + 1 => by
    unfold cs
    rw [List.length_append, List.length_replicate, Nat.succ_mul]
    have h1 := cs_len xs i
    have h2 : xs.count (i : Int) ≤ xs.length := List.count_le_length
    omega
theorem cs_all {xs : List Int} (h : ∀ x ∈ xs, 0 ≤ x ∧ x < 100) : cs xs 100 = sortI xs := by
  refine sortI_of (List.perm_iff_count.mpr fun a => ?_) (cs_sorted xs 100)
  rw [cs_count]
  by_cases ha : a ∈ xs
  · rw [if_pos (by have := h a ha; omega)]
  · rw [List.count_eq_zero_of_not_mem ha]; split <;> rfl
def nC : Str := Str.ofString "C"
def nL : Str := Str.ofString "L"
def n0 : Str := Str.ofString ""
def lastL (xs : List Int) : List Int := xs.drop (xs.length - 1)
theorem dropA : ∀ (a b : List Int) (n : Nat), (a ++ b).drop (a.length + n) = b.drop n
  | [], b, n => by simp
  | x :: a, b, n => by
    have := dropA a b n
    rw [List.cons_append, List.length_cons, show a.length + 1 + n = (a.length + n) + 1 by omega, List.drop_succ_cons]
    exact this
theorem lastL_right (a b : List Int) (h : b ≠ []) : lastL (a ++ b) = lastL b := by
  have hb : 0 < b.length := List.length_pos_iff.mpr h
  unfold lastL
  rw [List.length_append, show a.length + b.length - 1 = a.length + (b.length - 1) by omega, dropA]
theorem lastL_idem (a : List Int) : lastL (lastL a) = lastL a := by
  unfold lastL
  rw [List.length_drop, List.drop_drop]
  congr 1
  omega
theorem lastL_app (a b : List Int) : lastL (lastL a ++ lastL b) = lastL (a ++ b) := by
  by_cases h : b = []
  · subst h
    rw [show lastL ([] : List Int) = [] from rfl, List.append_nil, List.append_nil, lastL_idem]
  · have hb : 0 < b.length := List.length_pos_iff.mpr h
    have h2 : lastL b ≠ [] := fun e => by
      have := congrArg List.length e
      unfold lastL at this
      rw [List.length_drop] at this
      simp only [List.length_nil] at this
      omega
    rw [lastL_right _ _ h2, lastL_right _ _ h, lastL_idem]
theorem sortI_app (a b : List Int) : sortI (sortI a ++ sortI b) = sortI (a ++ b) :=
  sortI_of ((sortI_perm _).trans ((sortI_perm a).append (sortI_perm b))) (sortI_sorted _)
theorem sortI_idem (a : List Int) : sortI (sortI a) = sortI a := sortI_of ((sortI_perm _).trans (sortI_perm a)) (sortI_sorted _)
theorem ok_sort {xs : List Int} (h : Ok24 xs) : Ok24 (sortI xs) := ⟨by rw [(sortI_perm xs).length_eq]; exact h.1, fun x hx => h.2 x ((sortI_perm xs).mem_iff.mp hx)⟩
theorem ok_last {xs : List Int} (h : Ok24 xs) : Ok24 (lastL xs) := ⟨by have := h.1; unfold lastL; rw [List.length_drop]; omega, fun x hx => h.2 x (List.mem_of_mem_drop hx)⟩
/-! names -/
theorem eqS (a b : Str) (M : Mem) : eqB (.str a) (.str b) M = some (decide (a = b)) := rfl
theorem eCC : decide (nC = nC) = true := by decide +kernel
theorem eLC : decide (nL = nC) = false := by decide +kernel
theorem e0C : decide (n0 = nC) = false := by decide +kernel
theorem eLL : decide (nL = nL) = true := by decide +kernel
theorem e0L : decide (n0 = nL) = false := by decide +kernel
theorem eCL : decide (nC = nL) = false := by decide +kernel
theorem flat_iL : ∀ xs : List Int, (iL xs).all flatD = true
  | [] => rfl
  | x :: xs => by show (true && (iL xs).all flatD) = true; rw [flat_iL xs]; rfl
theorem count_iL (k : Int) : ∀ xs : List Int, ((iL xs).countP fun z => eqFlat z (.int k)) = xs.count k
  | [] => rfl
  | x :: xs => by
    have ih := count_iL k xs
    unfold iL at ih ⊢
    rw [List.map_cons, List.countP_cons, ih, List.count_cons]
    rfl
/-- the law's own normal form -/
theorem form_L {M : Mem} (xs : List Int) (h : Ok24 xs) : f__law_normal_form [.str nL, .tup (iL xs)] M = .ok (.tup (iL (lastL xs))) M := by
  have l1 : (1 : Nat) ≤ lim := by decide
  have hl : ((1 : Int) < ((iL xs).length : Nat)) ↔ 1 < xs.length := by rw [iL_length]; omega
  by_cases h1 : 1 < xs.length
  · have e1 : atI (iL xs) (((iL xs).length : Nat) - 1 : Int) = some (.int (xs[xs.length - 1]'(by omega))) := by
      rw [iL_length, show ((xs.length : Nat) - 1 : Int) = ((xs.length - 1 : Nat) : Int) by omega]
      refine atI_nat ?_
      rw [iL_get, List.getElem?_eq_getElem (by omega)]
      rfl
    have e2 : lastL xs = [xs[xs.length - 1]'(by omega)] := by
      unfold lastL
      rw [List.drop_eq_getElem_cons (by omega), show xs.length - 1 + 1 = xs.length by omega, List.drop_length]
    rw [e2]
    simp only [f__law_normal_form, runB, d__law_normal_form, show Str.ofString "C" = nC from rfl, show Str.ofString "L" = nL from rfl, List.map_cons, List.map_nil, List.length_cons, List.length_nil, List.replicate, List.append_eq, List.cons_append, List.nil_append, Nat.reduceAdd, Nat.reduceSub, sSeq, sIf, dTru, tAndD, dOp2, dVar, dC, dOpN, dCons, dNil, List.getElem?_cons_succ, List.getElem?_cons_zero, D.isExc, Bool.false_eq_true, if_false,
      bnd, bndO, opB, eqS, eLC, eLL, decide_true, Option.map_some, ofS, truB, ofBS, sSkip, onx, if_true, nLen, one, seqOf, gtB, cmpI, decide_eq_true (hl.mpr h1), sRet, dTup, opSub, MI.opI, opIx, e1, l1, ort, retR]
    rfl
  · have e2 : lastL xs = xs := by
      unfold lastL
      rw [show xs.length - 1 = 0 by omega]; rfl
    rw [e2]
    simp only [f__law_normal_form, runB, d__law_normal_form, show Str.ofString "C" = nC from rfl, show Str.ofString "L" = nL from rfl, List.map_cons, List.map_nil, List.length_cons, List.length_nil, List.replicate, List.append_eq, List.cons_append, List.nil_append, Nat.reduceAdd, Nat.reduceSub, sSeq, sIf, dTru, tAndD, dOp2, dVar, dC, dOpN, dCons, dNil, List.getElem?_cons_succ, List.getElem?_cons_zero, D.isExc, Bool.false_eq_true, if_false,
      bnd, bndO, opB, eqS, eLC, eLL, decide_true, Option.map_some, ofS, truB, ofBS, sSkip, onx, if_true, nLen, one, seqOf, gtB, cmpI, decide_eq_false (fun q => h1 (hl.mp q)), sRet, ort, retR]
theorem form_0 {M : Mem} (xs : List Int) : f__law_normal_form [.str n0, .tup (iL xs)] M = .ok (.tup (iL xs)) M := by
  simp only [f__law_normal_form, runB, d__law_normal_form, show Str.ofString "C" = nC from rfl, show Str.ofString "L" = nL from rfl, List.map_cons, List.map_nil, List.length_cons, List.length_nil, List.replicate, List.append_eq, List.cons_append, List.nil_append, Nat.reduceAdd, Nat.reduceSub, sSeq, sIf, dTru, tAndD, dOp2, dVar, dC, List.getElem?_cons_succ, List.getElem?_cons_zero, D.isExc, Bool.false_eq_true, if_false,
    bnd, bndO, opB, eqS, e0C, e0L, Option.map_some, ofS, truB, ofBS, sSkip, onx, sRet, ort, retR]
end K23

set_option Elab.async false
set_option linter.all false
set_option maxRecDepth 100000
set_option maxHeartbeats 2000000
namespace K23
open PySem L2 MI
theorem range_step {zs : List D} {z : D} {i : Nat} (hi1 : i < 100) (hz : z :: zs = rangeD (i : Int) (100 - i)) : z = .int i ∧ zs = rangeD ((i + 1 : Nat) : Int) (100 - (i + 1)) := by
  have e100 : 100 - i = (100 - (i + 1)) + 1 := by omega
  rw [e100] at hz
  have h2 : z :: zs = .int i :: rangeD ((i : Int) + 1) (100 - (i + 1)) := hz
  rw [List.cons.injEq] at h2
  exact ⟨h2.1, h2.2⟩
theorem stepC {M : Mem} {xs : List Int} (h : Ok24 xs) {i k : Nat} (hi : i < 100) (hk : M[k]? = some (.lst (iL (cs xs i)))) :
    ∃ k2 M2, sSet 2 (dOp2 opAdd (dVar 2) (dOp2 opMul (dLst (dCons (dVar 3) dNil)) (dMet (mT nCountT) (dVar 1) (dCons (dVar 3) dNil)))) [some (.str nC), some (.tup (iL xs)), some (.ref k), some (.int i)] M =
      .nx [some (.str nC), some (.tup (iL xs)), some (.ref k2), some (.int i)] M2 ∧ M2[k2]? = some (.lst (iL (cs xs (i + 1)))) ∧ Ext M M2 := by
  have lim9 : lim = 16777216 := rfl
  have l1 : (0 : Nat) + 1 ≤ lim := by decide
  obtain ⟨c, hc0⟩ : ∃ c, xs.count (i : Int) = c := ⟨_, rfl⟩
  have hcl : c ≤ 24 := by
    have h1 : xs.count (i : Int) ≤ xs.length := List.count_le_length
    have h2 := h.1
    omega
  have hc : (decide (-(2 ^ 63) ≤ ((c : Nat) : Int)) && decide (((c : Nat) : Int) < 2 ^ 63) && decide ([D.int (i : Int)].length * ((c : Nat) : Int).toNat ≤ lim)) = true := by
    have e1 : [D.int (i : Int)].length = 1 := rfl
    rw [e1, Int.toNat_natCast, Nat.one_mul, lim9]
    simp only [Bool.and_eq_true, decide_eq_true_eq]
    omega
  have hr : (List.replicate ((c : Nat) : Int).toNat [D.int (i : Int)]).flatten = iL (List.replicate c (i : Int)) := by
    rw [Int.toNat_natCast, List.flatten_replicate_singleton]
    unfold iL
    rw [List.map_replicate]
  have hcs : cs xs (i + 1) = cs xs i ++ List.replicate c (i : Int) := by rw [← hc0]; rfl
  have hlen : (iL (cs xs i)).length + (iL (List.replicate c (i : Int))).length ≤ lim := by
    have h3 := cs_len xs i
    have h4 : i * xs.length ≤ 100 * 24 := Nat.mul_le_mul (by omega) h.1
    rw [iL_length, iL_length, List.length_replicate, lim9]
    omega
  have hfl : (flatD (D.int (i : Int)) && (iL xs).all flatD) = true := by rw [flat_iL]; rfl
  obtain ⟨MA, hMA⟩ : ∃ MA, M ++ [Cell.lst [D.int (i : Int)]] = MA := ⟨_, rfl⟩
  have g1 : MA[M.length]? = some (.lst [D.int (i : Int)]) := by rw [← hMA]; exact get_push
  have g2 : MA[k]? = some (.lst (iL (cs xs i))) := by rw [← hMA]; exact get_old hk
  obtain ⟨MB, hMB⟩ : ∃ MB, MA ++ [Cell.lst (iL (List.replicate c (i : Int)))] = MB := ⟨_, rfl⟩
  have g3 : MB[MA.length]? = some (.lst (iL (List.replicate c (i : Int)))) := by rw [← hMB]; exact get_push
  have g4 : MB[k]? = some (.lst (iL (cs xs i))) := by rw [← hMB]; exact get_old g2
  have s1 : dLst (dCons (dVar 3) dNil) [some (.str nC), some (.tup (iL xs)), some (.ref k), some (.int i)] M = .ok (.ref M.length) MA := by
    rw [← hMA]
    simp only [dLst, dCons, dNil, dVar, List.getElem?_cons_succ, List.getElem?_cons_zero, D.isExc, Bool.false_eq_true, if_false, bnd, List.length_cons, List.length_nil, l1, if_true]
  have s2 : dMet (mT nCountT) (dVar 1) (dCons (dVar 3) dNil) [some (.str nC), some (.tup (iL xs)), some (.ref k), some (.int i)] MA = .ok (.int (c : Nat)) MA := by
    simp only [dMet, dCons, dNil, dVar, List.getElem?_cons_succ, List.getElem?_cons_zero, D.isExc, Bool.false_eq_true, if_false, bnd, mT, nCountT, nCount, seqOf, hfl, if_true, count_iL, hc0, ofS]
  have s3 : opMul (.ref M.length) (.int (c : Nat)) MA = some (.ref MA.length, MB) := by
    rw [← hMB]
    unfold opMul
    simp only [g1]
    rw [if_pos hc, hr]
  have s4 : opAdd (.ref k) (.ref MA.length) MB = some (.ref MB.length, MB ++ [.lst (iL (cs xs (i + 1)))]) := by
    unfold opAdd
    simp only [g3, g4]
    rw [if_pos hlen, iL_append, hcs]
  refine ⟨MB.length, MB ++ [.lst (iL (cs xs (i + 1)))], ?_, get_push, Ext.trans (by rw [← hMB, ← hMA]; exact Ext.push.trans .push) .push⟩
  rw [sSet, dOp2, show (dVar 2) [some (.str nC), some (.tup (iL xs)), some (.ref k), some (.int i)] M = .ok (.ref k) M from rfl, bnd, dOp2, s1, bnd, s2, bnd, s3, ofS, bnd, s4, ofS, bndO]
  rfl
theorem form_C {M : Mem} (xs : List Int) (h : Ok24 xs) : ∃ M', f__law_normal_form [.str nC, .tup (iL xs)] M = .ok (.tup (iL (sortI xs))) M' ∧ Ext M M' := by
  have hb : big 100 = true := by decide +kernel
  have l0 : (0 : Nat) ≤ lim := by decide
  obtain ⟨ev2, M2, e2, i, k, y, hi, rfl, hi2, hk, hE⟩ := forL_ok (g := gN 3) (b := sSet 2 (dOp2 opAdd (dVar 2) (dOp2 opMul (dLst (dCons (dVar 3) dNil)) (dMet (mT nCountT) (dVar 1) (dCons (dVar 3) dNil))))) (chk := yes)
    (fun zs ev M' => ∃ (i k : Nat) (y : Option D), zs = rangeD (i : Int) (100 - i) ∧ ev = [some (.str nC), some (.tup (iL xs)), some (.ref k), y] ∧ i ≤ 100 ∧ M'[k]? = some (.lst (iL (cs xs i))) ∧ Ext M M')
    (fun _ _ _ _ => rfl)
    (fun z zs ev M' ⟨i, k, y, hz, ee, hi, hk, hx⟩ => by
      subst ee
      have hi1 : i < 100 := by
        refine Classical.byContradiction fun q => ?_
        have e0 : 100 - i = 0 := by omega
        rw [e0] at hz
        cases hz
      obtain ⟨rfl, rfl⟩ := range_step hi1 hz
      obtain ⟨k2, M2, e, hk2, hx2⟩ := stepC h hi1 hk
      exact ⟨_, _, M2, rfl, .inl e, i + 1, k2, some (.int i), rfl, rfl, hi1, hk2, hx.trans hx2⟩)
    (rangeD ((0 : Nat) : Int) (100 - 0)) [some (.str nC), some (.tup (iL xs)), some (.ref M.length), none] (M ++ [.lst []]) ⟨0, M.length, none, rfl, rfl, by omega, get_push, .push⟩
  have hi3 : i = 100 := by
    refine Classical.byContradiction fun q => ?_
    have e100 : 100 - i = (99 - i) + 1 := by omega
    rw [e100] at hi
    cases hi
  subst hi3
  rw [cs_all h.2] at hk
  have hg := getL_at hk
  refine ⟨M2, ?_, hE⟩
  have e0 : dLst dNil [some (.str nC), some (.tup (iL xs)), none, none] M = .ok (.ref M.length) (M ++ [.lst []]) := by
    simp only [dLst, dNil, bnd, List.length_nil, l0, if_true]
  have e1 : itRange (dCons (dC (.int 100)) dNil) [some (.str nC), some (.tup (iL xs)), some (.ref M.length), none] (M ++ [.lst []]) = .ok (rangeD ((0 : Nat) : Int) (100 - 0), yes) (M ++ [.lst []]) := by
    simp only [itRange, dCons, dNil, dC, bnd, hb, if_true]
    rfl
  simp only [f__law_normal_form, runB, d__law_normal_form, show Str.ofString "C" = nC from rfl, show Str.ofString "L" = nL from rfl, List.map_cons, List.map_nil, List.length_cons, List.length_nil, List.replicate, List.append_eq, List.cons_append, List.nil_append, Nat.reduceAdd, Nat.reduceSub, sSeq, sIf, dTru, dOp2, dVar, dC, List.getElem?_cons_succ, List.getElem?_cons_zero, D.isExc, Bool.false_eq_true, if_false,
    bnd, bndO, opB, eqS, decide_true, Option.map_some, ofS, truB, ofBS, if_true]
  rw [sSet, e0, bndO, onx]
  simp only [List.set_cons_succ, List.set_cons_zero]
  rw [sSeq, sFor]
  rw [e1, bndO]
  simp only []
  rw [e2, onx]
  simp only [sRet, dOpN, dCons, dNil, dVar, List.getElem?_cons_succ, List.getElem?_cons_zero, D.isExc, Bool.false_eq_true, if_false, bnd, nTuple, one, seqOf, hg, ofS, bndO, ort, retR]
end K23

set_option Elab.async false
set_option linter.all false
set_option maxRecDepth 100000
set_option maxHeartbeats 2000000
namespace K23
open PySem L2 MI
def nf (c : Str) (xs : List Int) : List Int := if c = nC then sortI xs else if c = nL then lastL xs else xs
theorem nf_C (xs : List Int) : nf nC xs = sortI xs := if_pos rfl
theorem nf_L (xs : List Int) : nf nL xs = lastL xs := by
  unfold nf
  rw [if_neg (by decide +kernel), if_pos rfl]
theorem nf_0 (xs : List Int) : nf n0 xs = xs := by
  unfold nf
  rw [if_neg (by decide +kernel), if_neg (by decide +kernel)]
def names3 : List Str := [n0, nC, nL]
theorem form_ok {M : Mem} {c : Str} {xs : List Int} (hc : c ∈ names3) (h : Ok24 xs) : ∃ M', f__law_normal_form [.str c, .tup (iL xs)] M = .ok (.tup (iL (nf c xs))) M' ∧ Ext M M' := by
  rcases List.mem_cons.mp hc with rfl | hc
  · rw [nf_0]; exact ⟨M, form_0 xs, .refl⟩
  rcases List.mem_cons.mp hc with rfl | hc
  · rw [nf_C]; exact form_C xs h
  · rw [List.mem_singleton.mp hc, nf_L]; exact ⟨M, form_L xs h, .refl⟩
theorem nf_idem {c : Str} (xs : List Int) (hc : c ∈ names3) : nf c (nf c xs) = nf c xs := by
  rcases List.mem_cons.mp hc with rfl | hc
  · rw [nf_0]
  rcases List.mem_cons.mp hc with rfl | hc
  · rw [nf_C, nf_C, sortI_idem]
  · rw [List.mem_singleton.mp hc, nf_L, nf_L, lastL_idem]
theorem nf_app {c : Str} (a b : List Int) (hc : c ∈ names3) : nf c (nf c a ++ nf c b) = nf c (a ++ b) := by
  rcases List.mem_cons.mp hc with rfl | hc
  · simp only [nf_0]
  rcases List.mem_cons.mp hc with rfl | hc
  · simp only [nf_C, sortI_app]
  · rw [List.mem_singleton.mp hc]; simp only [nf_L, lastL_app]
theorem nf_ok {c : Str} {xs : List Int} (hc : c ∈ names3) (h : Ok24 xs) : Ok24 (nf c xs) := by
  rcases List.mem_cons.mp hc with rfl | hc
  · rw [nf_0]; exact h
  rcases List.mem_cons.mp hc with rfl | hc
  · rw [nf_C]; exact ok_sort h
  · rw [List.mem_singleton.mp hc, nf_L]; exact ok_last h
theorem nin_ok (s : Str) (M : Mem) : ninB (.str s) k_KINDS M = some (!(n0 == s || (nC == s || (nL == s || false)))) := rfl
theorem check_in {s : Str} {M : Mem} (h : (n0 == s || (nC == s || (nL == s || false))) = true) : f_check_kind [.str s] M = .ok .non M := by
  simp only [f_check_kind, runB, d_check_kind, List.map_cons, List.map_nil, List.length_cons, List.length_nil, List.replicate, List.append_eq, List.cons_append, List.nil_append, List.append_nil, Nat.reduceAdd, Nat.reduceSub, sIf, dTru, dOp2, dVar, dC, List.getElem?_cons_succ, List.getElem?_cons_zero, D.isExc, Bool.false_eq_true, if_false, bnd, opB, nin_ok, h, Bool.not_true, Option.map_some, ofS, truB, ofBS, bndO, sSkip, retN]
theorem check_out {s : Str} {M : Mem} (h : (n0 == s || (nC == s || (nL == s || false))) = false) : f_check_kind [.str s] M = .ex (Str.ofString "BadKind") [(Str.ofString "kind", .str s)] M := by
  simp only [f_check_kind, runB, d_check_kind, List.map_cons, List.map_nil, List.length_cons, List.length_nil, List.replicate, List.append_eq, List.cons_append, List.nil_append, List.append_nil, Nat.reduceAdd, Nat.reduceSub, sIf, dTru, dOp2, dVar, dC, dCons, dNil, List.getElem?_cons_succ, List.getElem?_cons_zero, D.isExc, Bool.false_eq_true, if_false, bnd, opB, nin_ok, h, Bool.not_false, Option.map_some, ofS, truB, ofBS, bndO, if_true, sRaise, mkF, retE]
  rfl
theorem in3 {c : Str} (hc : c ∈ names3) : (n0 == c || (nC == c || (nL == c || false))) = true := by
  rcases List.mem_cons.mp hc with rfl | hc
  · simp
  rcases List.mem_cons.mp hc with rfl | hc
  · simp
  · rw [List.mem_singleton.mp hc]; simp
theorem out3 {s : Str} (h : oddB s = true) : (n0 == s || (nC == s || (nL == s || false))) = false := by
  unfold oddB at h
  simp only [Bool.and_eq_true, decide_eq_true_eq] at h
  obtain ⟨⟨⟨⟨h1, h2⟩, h3⟩, _⟩, _⟩ := h
  have a1 : (n0 == s) = false := by simpa using fun e => h1 e.symm
  have a2 : (nC == s) = false := by simpa using fun e => h2 e.symm
  have a3 : (nL == s) = false := by simpa using fun e => h3 e.symm
  rw [a1, a2, a3]; rfl
theorem nch_ok {M : Mem} {c : Str} {xs : List Int} (hc : c ∈ names3) : ∃ M', f_normal_changes [.str c, .tup (iL xs)] M = .ok (.tup (iL (nf c xs))) M' ∧ Ext M M' := by
  have hk := check_in (M := M) (in3 hc)
  rcases List.mem_cons.mp hc with rfl | hc
  · rw [nf_0]
    refine ⟨M, ?_, .refl⟩
    simp only [f_normal_changes, runB, d_normal_changes, show Str.ofString "C" = nC from rfl, show Str.ofString "L" = nL from rfl, List.map_cons, List.map_nil, List.length_cons, List.length_nil, List.replicate, List.append_eq, List.cons_append, List.nil_append, List.append_nil, Nat.reduceAdd, Nat.reduceSub, sSeq, sDrop, dCal, dCons, dNil, sIf, dTru, dOp2, dVar, dC, List.getElem?_cons_succ, List.getElem?_cons_zero, D.isExc, Bool.false_eq_true, if_false, bnd, bndO, hk, onx, opB, eqS, e0C, e0L, Option.map_some, ofS, truB, ofBS, sSkip, sRet, retR]
  rcases List.mem_cons.mp hc with rfl | hc
  · rw [nf_C]
    refine ⟨(M ++ [.lst (iL xs)]) ++ [.lst (iL (sortI xs))], ?_, Ext.push.trans .push⟩
    have g1 : getL (M ++ [.lst (iL xs)]) M.length = some (iL xs) := getL_at get_push
    have hi : intsOf (iL xs) = some xs := ints_iL xs
    have g2 : getL ((M ++ [.lst (iL xs)]) ++ [.lst (iL (sortI xs))]) (M ++ [Cell.lst (iL xs)]).length = some (iL (sortI xs)) := getL_at get_push
    simp only [f_normal_changes, runB, d_normal_changes, show Str.ofString "C" = nC from rfl, show Str.ofString "L" = nL from rfl, List.map_cons, List.map_nil, List.length_cons, List.length_nil, List.replicate, List.append_eq, List.cons_append, List.nil_append, List.append_nil, Nat.reduceAdd, Nat.reduceSub, sSeq, sDrop, dCal, dCons, dNil, sIf, dTru, dOp2, dOpN, dVar, dC, List.getElem?_cons_succ, List.getElem?_cons_zero, D.isExc, Bool.false_eq_true, if_false, bnd, bndO, hk, onx, opB, eqS, decide_true, Option.map_some, ofS, truB, ofBS, if_true, nList, nSorted, nTuple, one, seqOf, g1, hi, show (sortI xs).map D.int = iL (sortI xs) from rfl, g2, sRet, ort, retR]
  · have e := List.mem_singleton.mp hc
    subst e
    rw [nf_L]
    refine ⟨M, ?_, .refl⟩
    have hcut : cutD (iL xs) (some (-1)) none = iL (lastL xs) := by
      rw [cut_iL, HT.sIx_none]
      unfold lastL
      congr 1
      have e1 : HT.sIx xs.length 0 (some (-1)) = xs.length - 1 := by
        show (if (-1 : Int) < 0 then ((-1 : Int) + (xs.length : Int)).toNat else min (-1 : Int).toNat xs.length) = _
        rw [if_pos (by decide)]; omega
      rw [e1, List.take_of_length_le (by rw [List.length_drop]; omega)]
    simp only [f_normal_changes, runB, d_normal_changes, show Str.ofString "C" = nC from rfl, show Str.ofString "L" = nL from rfl, List.map_cons, List.map_nil, List.length_cons, List.length_nil, List.replicate, List.append_eq, List.cons_append, List.nil_append, List.append_nil, Nat.reduceAdd, Nat.reduceSub, sSeq, sDrop, dCal, dCons, dNil, sIf, dTru, dOp2, dOp1, dVar, dC, List.getElem?_cons_succ, List.getElem?_cons_zero, D.isExc, Bool.false_eq_true, if_false, bnd, bndO, hk, onx, opB, eqS, eLC, decide_true, Option.map_some, ofS, truB, ofBS, sSkip, if_true, dSl, oSome, oNo, opNeg, opSl, hcut, sRet, ort, retR]
theorem nch_bad {M : Mem} {s : Str} {xs : List Int} (h : oddB s = true) : f_normal_changes [.str s, .tup (iL xs)] M = .ex (Str.ofString "BadKind") [(Str.ofString "kind", .str s)] M := by
  have hk := check_out (M := M) (out3 h)
  simp only [f_normal_changes, runB, d_normal_changes, List.map_cons, List.map_nil, List.length_cons, List.length_nil, List.replicate, List.append_eq, List.cons_append, List.nil_append, List.append_nil, Nat.reduceAdd, Nat.reduceSub, sSeq, sDrop, dCal, dCons, dNil, dVar, List.getElem?_cons_succ, List.getElem?_cons_zero, D.isExc, Bool.false_eq_true, if_false, bnd, hk, bndOE, oex, retE]
theorem refused_ok {M : Mem} {s : Str} {xs : List Int} (h : oddB s = true) : f__law_refused [.str s, .tup (iL xs)] M = .ok (.bl true) M := by
  have hb := nch_bad (M := M) (xs := xs) h
  have hrl : (reprText s).length ≤ lim ∧ PyData.strOk s = true := by
    unfold oddB at h
    simp only [Bool.and_eq_true, decide_eq_true_eq] at h
    exact ⟨Nat.le_trans h.1.2 (by decide), h.2⟩
  have hs := same_str (M := M) hrl.1 hrl.2
  have hcm : cm_BadKind_AskError (Str.ofString "BadKind") = some true := by decide +kernel
  have l1 : List.lookup (Str.ofString "BadKind") [(Str.ofString "BadKind", true)] = some true := by decide +kernel
  have l2 : List.lookup (Str.ofString "BadKind") [(Str.ofString "BadKind", false)] = some false := by decide +kernel
  have l3 : ∀ d : D, List.lookup (Str.ofString "kind") [(Str.ofString "kind", d)] = some d := fun d => by simp [List.lookup]
  have m1 : Str.ofString "BadKind" ∈ [Str.ofString "BadKind"] := List.mem_cons_self
  simp only [f__law_refused, runB, d__law_refused, List.map_cons, List.map_nil, List.length_cons, List.length_nil, List.replicate, List.append_eq, List.cons_append, List.nil_append, List.append_nil, Nat.reduceAdd, Nat.reduceSub, sSeq, sTryAs, dropE, sDrop, dCal, dCons, dNil, dVar, List.getElem?_cons_succ, List.getElem?_cons_zero, D.isExc, Bool.false_eq_true, if_false, bnd, hb, bndOE, hcm,
    List.set_cons_succ, List.set_cons_zero, sSet, dAnd, dIsE, l1, l2, truB, dNot, Bool.not_false, bndO, onx, sRet, dXf, m1, if_true, l3, hs, noEx, dropO, ort, retR]
/-! the law -/
def inner : DenS := sIf (tNotD (dTru (dCal f__law_same (dCons (dCal f_normal_changes (dCons (dVar 5) (dCons (dVar 8) dNil))) (dCons (dVar 6) dNil))))) (sRet (dC (.bl false))) sSkip
def body : DenS := (sSeq (sSet 6 (dCal f__law_normal_form (dCons (dVar 5) (dCons (dVar 2) dNil))))
    (sSeq (sSet 7 (dCal f__law_normal_form (dCons (dVar 5) (dCons (dSl (dVar 2) oNo (oSome (dVar 3))) dNil))))
    (sSeq (sSet 7 (dOp2 opAdd (dVar 7) (dCal f__law_normal_form (dCons (dVar 5) (dCons (dSl (dVar 2) (oSome (dVar 3)) oNo) dNil)))))
    (sSeq (sFor (itAny (dLst (dCons (dVar 2) (dCons (dVar 6) (dCons (dVar 7) (dCons (dVar 2) dNil)))))) (gN 8) inner)
    (sSeq (sIf (tNotD (dTru (dCal f__law_same (dCons (dCalK f_normal_changes 0 2 [.inl 1, .inl 0] dNil (dCons (dVar 2) (dCons (dVar 5) dNil))) (dCons (dVar 6) dNil))))) (sRet (dC (.bl false))) sSkip)
    (sIf (tNotD (dTru (dCal f__law_refused (dCons (dVar 4) (dCons (dVar 6) dNil))))) (sRet (dC (.bl false))) sSkip))))))
theorem plain_iL (xs : List Int) : D.plain (.tup (iL xs)) = true := by
  show D.plainL (iL xs) = true
  exact plainL_iL xs
theorem inner_ok {M : Mem} {c : Str} {xs ys : List Int} {a b : D} {p q r t : Option D} (hc : c ∈ names3) (hx : Ok24 xs) (he : nf c xs = ys) (hy : Ok24 ys) :
    ∃ M', inner [some a, p, q, r, t, some (.str c), some (.tup (iL ys)), some b, some (.tup (iL xs))] M = .nx [some a, p, q, r, t, some (.str c), some (.tup (iL ys)), some b, some (.tup (iL xs))] M' ∧ Ext M M' := by
  obtain ⟨M', e, hE⟩ := nch_ok (M := M) (xs := xs) hc
  rw [he] at e
  have hs := same_ints (M := M') hy
  refine ⟨M', ?_, hE⟩
  simp only [inner, sIf, tNotD, dTru, dCal, dCons, dNil, dVar, List.getElem?_cons_succ, List.getElem?_cons_zero, D.isExc, Bool.false_eq_true, if_false, bnd, e, hs, truB, ofBS, Bool.not_true, bndO, sSkip]
theorem body_ok {M : Mem} {c odd : Str} {sp : List Int} {cut : Int} {a b : D} {y6 y7 y8 : Option D} (hc : c ∈ names3) (hs : sp.length ≤ 12 ∧ ∀ x ∈ sp, 0 ≤ x ∧ x < 100) (hcut : 0 ≤ cut) (ho : oddB odd = true) :
    ∃ M' z6 z7 z8, body [some a, some b, some (.tup (iL sp)), some (.int cut), some (.str odd), some (.str c), y6, y7, y8] M = .nx [some a, some b, some (.tup (iL sp)), some (.int cut), some (.str odd), some (.str c), z6, z7, z8] M' ∧ Ext M M' := by
  have hsp : Ok24 sp := ⟨by omega, hs.2⟩
  have l4 : (0 : Nat) + 1 + 1 + 1 + 1 ≤ lim := by decide
  -- the two parts
  obtain ⟨k, rfl⟩ : ∃ k : Nat, cut = (k : Int) := ⟨cut.toNat, by omega⟩
  have c1 : cutD (iL sp) none (some (k : Int)) = iL (sp.take k) := by
    rw [cut_iL, HT.sIx_none, HT.sIx_nat]
    congr 1
    simp only [List.drop_zero, Nat.sub_zero]
    by_cases h : k ≤ sp.length
    · rw [Nat.min_eq_left h]
    · rw [Nat.min_eq_right (by omega), List.take_length, List.take_of_length_le (by omega)]
  have c2 : cutD (iL sp) (some (k : Int)) none = iL (sp.drop k) := by
    rw [cut_iL, HT.sIx_none, HT.sIx_nat]
    congr 1
    by_cases h : k ≤ sp.length
    · rw [Nat.min_eq_left h, List.take_of_length_le (by rw [List.length_drop]; omega)]
    · rw [Nat.min_eq_right (by omega), List.drop_length, List.drop_eq_nil_of_le (by omega)]; simp
  have h1 : Ok24 (sp.take k) := ⟨by rw [List.length_take]; omega, fun x hx => hs.2 x (List.mem_of_mem_take hx)⟩
  have h2 : Ok24 (sp.drop k) := ⟨by rw [List.length_drop]; omega, fun x hx => hs.2 x (List.mem_of_mem_drop hx)⟩
  obtain ⟨M1, e1, x1⟩ := form_ok (M := M) hc hsp
  obtain ⟨M2, e2, x2⟩ := form_ok (M := M1) hc h1
  obtain ⟨M3, e3, x3⟩ := form_ok (M := M2) hc h2
  have l1 : (nf c (sp.take k)).length ≤ 12 := by
    have : (nf c (sp.take k)).length ≤ (sp.take k).length := by
      rcases List.mem_cons.mp hc with rfl | hc
      · rw [nf_0]; exact Nat.le_refl _
      rcases List.mem_cons.mp hc with rfl | hc
      · rw [nf_C, (sortI_perm _).length_eq]; exact Nat.le_refl _
      · rw [List.mem_singleton.mp hc, nf_L]; unfold lastL; rw [List.length_drop]; omega
    rw [List.length_take] at this; omega
  have l2 : (nf c (sp.drop k)).length ≤ 12 := by
    have : (nf c (sp.drop k)).length ≤ (sp.drop k).length := by
      rcases List.mem_cons.mp hc with rfl | hc
      · rw [nf_0]; exact Nat.le_refl _
      rcases List.mem_cons.mp hc with rfl | hc
      · rw [nf_C, (sortI_perm _).length_eq]; exact Nat.le_refl _
      · rw [List.mem_singleton.mp hc, nf_L]; unfold lastL; rw [List.length_drop]; omega
    rw [List.length_drop] at this; omega
  have hp : Ok24 (nf c (sp.take k) ++ nf c (sp.drop k)) := ⟨by rw [List.length_append]; omega, fun x hx => by
    rcases List.mem_append.mp hx with hx | hx
    · exact (nf_ok hc h1).2 x hx
    · exact (nf_ok hc h2).2 x hx⟩
  have hd := nf_ok hc hsp
  have hlen : (iL (nf c (sp.take k))).length + (iL (nf c (sp.drop k))).length ≤ lim := by
    rw [iL_length, iL_length]
    exact Nat.le_trans (show _ ≤ 24 by omega) (by decide)
  have hparts : nf c (nf c (sp.take k) ++ nf c (sp.drop k)) = nf c sp := by rw [nf_app _ _ hc, List.take_append_drop]
  -- the inner loop
  obtain ⟨ev4, M4, e4, ⟨z, rfl⟩, x4⟩ := forL_ok (g := gN 8) (b := inner) (chk := cellIs M3.length [.tup (iL sp), .tup (iL (nf c sp)), .tup (iL (nf c (sp.take k) ++ nf c (sp.drop k))), .tup (iL sp)])
    (fun zs ev M' => (∃ z, ev = [some a, some b, some (.tup (iL sp)), some (.int (k : Int)), some (.str odd), some (.str c), some (.tup (iL (nf c sp))), some (.tup (iL (nf c (sp.take k) ++ nf c (sp.drop k)))), z]) ∧
      (Ext (M3 ++ [.lst [.tup (iL sp), .tup (iL (nf c sp)), .tup (iL (nf c (sp.take k) ++ nf c (sp.drop k))), .tup (iL sp)]]) M' ∧ ∀ d ∈ zs, ∃ xs, d = .tup (iL xs) ∧ Ok24 xs ∧ nf c xs = nf c sp))
    (fun zs ev M' ⟨_, hE, _⟩ => cellIs_at (hE.get get_push) (by
      show (D.plain (.tup (iL sp)) && (D.plain (.tup (iL (nf c sp))) && (D.plain (.tup (iL (nf c (sp.take k) ++ nf c (sp.drop k)))) && (D.plain (.tup (iL sp)) && true)))) = true
      rw [plain_iL, plain_iL, plain_iL]; rfl))
    (fun d zs ev M' ⟨⟨z, ee⟩, hE, hz⟩ => by
      subst ee
      obtain ⟨xs, rfl, hx, hn⟩ := hz d List.mem_cons_self
      obtain ⟨M5, e5, x5⟩ := inner_ok (M := M') (a := a) (b := .tup (iL (nf c (sp.take k) ++ nf c (sp.drop k)))) (p := some b) (q := some (.tup (iL sp))) (r := some (.int (k : Int))) (t := some (.str odd)) hc hx hn hd
      exact ⟨_, _, M5, rfl, .inl e5, ⟨_, rfl⟩, hE.trans x5, fun d hd => hz d (List.mem_cons_of_mem _ hd)⟩)
    [.tup (iL sp), .tup (iL (nf c sp)), .tup (iL (nf c (sp.take k) ++ nf c (sp.drop k))), .tup (iL sp)]
    [some a, some b, some (.tup (iL sp)), some (.int (k : Int)), some (.str odd), some (.str c), some (.tup (iL (nf c sp))), some (.tup (iL (nf c (sp.take k) ++ nf c (sp.drop k)))), y8]
    (M3 ++ [.lst [.tup (iL sp), .tup (iL (nf c sp)), .tup (iL (nf c (sp.take k) ++ nf c (sp.drop k))), .tup (iL sp)]])
    ⟨⟨y8, rfl⟩, .refl, fun d hd' => by
      simp only [List.mem_cons, List.not_mem_nil, or_false] at hd'
      rcases hd' with rfl | rfl | rfl | rfl
      · exact ⟨sp, rfl, hsp, rfl⟩
      · exact ⟨_, rfl, hd, nf_idem sp hc⟩
      · exact ⟨_, rfl, hp, hparts⟩
      · exact ⟨sp, rfl, hsp, rfl⟩⟩
  obtain ⟨x4, _⟩ := x4
  obtain ⟨M6, e6, x6⟩ := nch_ok (M := M4) (xs := sp) hc
  have hs6 := same_ints (M := M6) hd
  have hr6 := refused_ok (M := M6) (xs := nf c sp) ho
  refine ⟨M6, some (.tup (iL (nf c sp))), some (.tup (iL (nf c (sp.take k) ++ nf c (sp.drop k)))), z, ?_, x1.trans (x2.trans (x3.trans (Ext.push.trans (x4.trans x6))))⟩
  have hpk : pickD [.inl 1, .inl 0] [.tup (iL sp), .str c] = some [.str c, .tup (iL sp)] := rfl
  have t1 : getL (M3 ++ [.lst [.tup (iL sp), .tup (iL (nf c sp)), .tup (iL (nf c (sp.take k) ++ nf c (sp.drop k))), .tup (iL sp)]]) M3.length = some [.tup (iL sp), .tup (iL (nf c sp)), .tup (iL (nf c (sp.take k) ++ nf c (sp.drop k))), .tup (iL sp)] := getL_at get_push
  simp only [body, sSeq, sSet, dCal, dCons, dNil, dVar, List.getElem?_cons_succ, List.getElem?_cons_zero, D.isExc, Bool.false_eq_true, if_false, bnd, e1, bndO, onx, List.set_cons_succ, List.set_cons_zero, dSl, oNo, oSome, opSl, c1, c2, ofS, e2, dOp2, e3, opAdd, hlen, if_true, iL_append,
    sFor, itAny, dLst, List.length_cons, List.length_nil, l4, t1, e4, sIf, tNotD, dTru, dCalK, and_self, List.cons_append, List.nil_append, hpk, e6, hs6, truB, ofBS, Bool.not_true, sSkip, hr6]
theorem law_true (ns : List Int) (hl : ns.length ≤ 63) : ∃ M, f_law [.ref 0] [.rls (ns.map .int)] = .ok (.bl true) M := by
  obtain ⟨k, M1, e1, hp1⟩ := stock_ok ns hl
  obtain ⟨sp, M2, e2, hp2, _, hsp⟩ := change_word_ok hp1
  obtain ⟨cut, M3, e3, c0, _, hp3, _, _⟩ := draw_ok (many := 13) hp2 (by decide) (by decide)
  obtain ⟨odd, M4, e4, _, _, ho⟩ := odd_name_ok hp3
  have l3 : (0 : Nat) + 1 + 1 + 1 ≤ lim := by decide
  have t1 : getL (M4 ++ [.lst [.str n0, .str nC, .str nL]]) M4.length = some [.str n0, .str nC, .str nL] := getL_at get_push
  obtain ⟨ev5, M5, e5, ⟨z5, z6, z7, z8, rfl⟩, _⟩ := forL_ok (g := gN 5) (b := body) (chk := cellIs M4.length [.str n0, .str nC, .str nL])
    (fun zs ev M' => (∃ z5 z6 z7 z8, ev = [some (.ref 0), some (.ref k), some (.tup (iL sp)), some (.int cut), some (.str odd), z5, z6, z7, z8]) ∧
      Ext (M4 ++ [.lst [.str n0, .str nC, .str nL]]) M' ∧ ∀ d ∈ zs, ∃ c ∈ names3, d = .str c)
    (fun zs ev M' ⟨_, hE, _⟩ => cellIs_at (hE.get get_push) rfl)
    (fun d zs ev M' ⟨⟨z5, z6, z7, z8, ee⟩, hE, hz⟩ => by
      subst ee
      obtain ⟨c, hc, rfl⟩ := hz d List.mem_cons_self
      obtain ⟨M6, y6, y7, y8, e6, x6⟩ := body_ok (M := M') (a := .ref 0) (b := .ref k) (y6 := z6) (y7 := z7) (y8 := z8) hc hsp c0 ho
      exact ⟨_, _, M6, rfl, .inl e6, ⟨_, _, _, _, rfl⟩, hE.trans x6, fun d hd => hz d (List.mem_cons_of_mem _ hd)⟩)
    [.str n0, .str nC, .str nL] [some (.ref 0), some (.ref k), some (.tup (iL sp)), some (.int cut), some (.str odd), none, none, none, none] (M4 ++ [.lst [.str n0, .str nC, .str nL]])
    ⟨⟨_, _, _, _, rfl⟩, .refl, fun d hd => by
      simp only [List.mem_cons, List.not_mem_nil, or_false] at hd
      rcases hd with rfl | rfl | rfl
      · exact ⟨n0, List.mem_cons_self, rfl⟩
      · exact ⟨nC, by simp [names3], rfl⟩
      · exact ⟨nL, by simp [names3], rfl⟩⟩
  refine ⟨M5, ?_⟩
  rw [show ns.map D.int = iL ns from rfl]
  rw [f_law, runB, d_law]
  simp only [List.map_cons, List.map_nil, List.length_cons, List.length_nil, List.replicate, List.append_eq, List.cons_append, List.nil_append, Nat.reduceAdd, Nat.reduceSub, sSeq, sSet, dCal, dCons, dNil, dVar, dC, List.getElem?_cons_succ, List.getElem?_cons_zero, D.isExc, Bool.false_eq_true, if_false, bnd, e1, bndO, onx, List.set_cons_succ, List.set_cons_zero, e2, e3, e4,
    sFor, itAny, dLst, l3, if_true, show Str.ofString "C" = nC from rfl, show Str.ofString "L" = nL from rfl, show Str.ofString "" = n0 from rfl, t1]
  have e6 := e5
  unfold body inner at e6
  rw [e6]
  rfl
end K23

set_option Elab.async false
set_option linter.all false
set_option maxRecDepth 100000
set_option maxHeartbeats 8000000
namespace K23
open PySem PySem.Spec PyProof.Rows L2 MI
theorem fin_mk {P : Program} {w : World} {K : PySem.W.Frag} {h : Heap} {mg : Str → Option Value} {fa : Addr} (X : K.In h) (Gr : h.Ns mainGlobals mg) (hfa : mg "law" = some (.ref fa))
    {a__law_stock : Addr} {od__law_stock an__law_stock : Option Addr} {sl__law_stock : Array (Option Value)} {oc__law_stock kV__law_stock dc__law_stock pm__law_stock cd__law_stock ct__law_stock : Value}
    {a__law_draw : Addr} {od__law_draw an__law_draw : Option Addr} {sl__law_draw : Array (Option Value)} {oc__law_draw kV__law_draw dc__law_draw pm__law_draw cd__law_draw ct__law_draw : Value}
    {a__law_change_word : Addr} {od__law_change_word an__law_change_word : Option Addr} {sl__law_change_word : Array (Option Value)} {oc__law_change_word kV__law_change_word dc__law_change_word pm__law_change_word cd__law_change_word ct__law_change_word : Value}
    {a__law_odd_name : Addr} {od__law_odd_name an__law_odd_name : Option Addr} {sl__law_odd_name : Array (Option Value)} {oc__law_odd_name kV__law_odd_name dc__law_odd_name pm__law_odd_name cd__law_odd_name ct__law_odd_name : Value}
    {a__law_normal_form : Addr} {od__law_normal_form an__law_normal_form : Option Addr} {sl__law_normal_form : Array (Option Value)} {oc__law_normal_form kV__law_normal_form dc__law_normal_form pm__law_normal_form cd__law_normal_form ct__law_normal_form : Value}
    {a__law_same : Addr} {od__law_same an__law_same : Option Addr} {sl__law_same : Array (Option Value)} {oc__law_same kV__law_same dc__law_same pm__law_same cd__law_same ct__law_same : Value}
    {a_check_kind : Addr} {od_check_kind an_check_kind : Option Addr} {sl_check_kind : Array (Option Value)} {oc_check_kind kV_check_kind dc_check_kind pm_check_kind cd_check_kind ct_check_kind : Value}
    {a_normal_changes : Addr} {od_normal_changes an_normal_changes : Option Addr} {sl_normal_changes : Array (Option Value)} {oc_normal_changes kV_normal_changes dc_normal_changes pm_normal_changes cd_normal_changes ct_normal_changes : Value}
    {a__law_refused : Addr} {od__law_refused an__law_refused : Option Addr} {sl__law_refused : Array (Option Value)} {oc__law_refused kV__law_refused dc__law_refused pm__law_refused cd__law_refused ct__law_refused : Value}
    {a_law : Addr} {od_law an_law : Option Addr} {sl_law : Array (Option Value)} {oc_law kV_law dc_law pm_law cd_law ct_law : Value}
    {C_AskError : Addr}
    {C_BadKind : Addr}
    {C_BadRights : Addr}
    {N_BadKind : Addr} {nm_BadKind q_BadKind : Str} {bs_BadKind bm_BadKind sub_BadKind : List Value} {sn_BadKind : List Str} {ab_BadKind : Bool} {col_BadKind : Option Bool} {dd_BadKind : Option Addr} {m0_BadKind m1_BadKind m2_BadKind m3_BadKind m5_BadKind : Option Value}
    {f_BadKind cc_BadKind D_BadKind cda_BadKind : Addr} {qual_BadKind self_BadKind text_BadKind file_BadKind : Str} {scope_BadKind : Scope} {st_BadKind : List Stmt} {params_BadKind : Arguments} {dV_BadKind kV_BadKind doc_BadKind pm_BadKind ct_BadKind oc_BadKind : Value} {an_BadKind od_BadKind : Option Addr} {osl_BadKind : Array (Option Value)} {p0_BadKind p1_BadKind p2_BadKind p3_BadKind p4_BadKind p5_BadKind : Pos} {kk_BadKind : Nat} {ar_BadKind : Arg} {tf_BadKind : Tok} {vs0_BadKind : Array Value} {ocl_BadKind ccl_BadKind : Value} {ocd_BadKind ccd_BadKind : Option Addr} {csl_BadKind ccs_BadKind : Array (Option Value)} {cdD_BadKind : ClassData} {pl_BadKind : Addr → Sem Bool}
    {u_KINDS : Value}
    (h1__law_stock : PySem.W.nsIn K mainGlobals "_law_stock" = some (some (.ref a__law_stock)))
    (h2__law_stock : K.lookup a__law_stock = some ⟨oc__law_stock, od__law_stock, .func (PySem.W.fnOf "_law_stock" "_law_stock" (defArgs (topS 10)) (defBody (topS 10)) (defScope (topS 10)) .none kV__law_stock dc__law_stock pm__law_stock an__law_stock cd__law_stock ct__law_stock), sl__law_stock⟩)
    (h3__law_stock : PySem.W.codeIn K cd__law_stock "_law_stock" = true)
    (h4__law_stock : PySem.W.keepIn K (.ref a__law_stock) = true)
    (h1__law_draw : PySem.W.nsIn K mainGlobals "_law_draw" = some (some (.ref a__law_draw)))
    (h2__law_draw : K.lookup a__law_draw = some ⟨oc__law_draw, od__law_draw, .func (PySem.W.fnOf "_law_draw" "_law_draw" (defArgs (topS 11)) (defBody (topS 11)) (defScope (topS 11)) .none kV__law_draw dc__law_draw pm__law_draw an__law_draw cd__law_draw ct__law_draw), sl__law_draw⟩)
    (h3__law_draw : PySem.W.codeIn K cd__law_draw "_law_draw" = true)
    (h4__law_draw : PySem.W.keepIn K (.ref a__law_draw) = true)
    (h1__law_change_word : PySem.W.nsIn K mainGlobals "_law_change_word" = some (some (.ref a__law_change_word)))
    (h2__law_change_word : K.lookup a__law_change_word = some ⟨oc__law_change_word, od__law_change_word, .func (PySem.W.fnOf "_law_change_word" "_law_change_word" (defArgs (topS 14)) (defBody (topS 14)) (defScope (topS 14)) .none kV__law_change_word dc__law_change_word pm__law_change_word an__law_change_word cd__law_change_word ct__law_change_word), sl__law_change_word⟩)
    (h3__law_change_word : PySem.W.codeIn K cd__law_change_word "_law_change_word" = true)
    (h4__law_change_word : PySem.W.keepIn K (.ref a__law_change_word) = true)
    (h1__law_odd_name : PySem.W.nsIn K mainGlobals "_law_odd_name" = some (some (.ref a__law_odd_name)))
    (h2__law_odd_name : K.lookup a__law_odd_name = some ⟨oc__law_odd_name, od__law_odd_name, .func (PySem.W.fnOf "_law_odd_name" "_law_odd_name" (defArgs (topS 15)) (defBody (topS 15)) (defScope (topS 15)) .none kV__law_odd_name dc__law_odd_name pm__law_odd_name an__law_odd_name cd__law_odd_name ct__law_odd_name), sl__law_odd_name⟩)
    (h3__law_odd_name : PySem.W.codeIn K cd__law_odd_name "_law_odd_name" = true)
    (h4__law_odd_name : PySem.W.keepIn K (.ref a__law_odd_name) = true)
    (h1__law_normal_form : PySem.W.nsIn K mainGlobals "_law_normal_form" = some (some (.ref a__law_normal_form)))
    (h2__law_normal_form : K.lookup a__law_normal_form = some ⟨oc__law_normal_form, od__law_normal_form, .func (PySem.W.fnOf "_law_normal_form" "_law_normal_form" (defArgs (topS 13)) (defBody (topS 13)) (defScope (topS 13)) .none kV__law_normal_form dc__law_normal_form pm__law_normal_form an__law_normal_form cd__law_normal_form ct__law_normal_form), sl__law_normal_form⟩)
    (h3__law_normal_form : PySem.W.codeIn K cd__law_normal_form "_law_normal_form" = true)
    (h4__law_normal_form : PySem.W.keepIn K (.ref a__law_normal_form) = true)
    (h1__law_same : PySem.W.nsIn K mainGlobals "_law_same" = some (some (.ref a__law_same)))
    (h2__law_same : K.lookup a__law_same = some ⟨oc__law_same, od__law_same, .func (PySem.W.fnOf "_law_same" "_law_same" (defArgs (topS 12)) (defBody (topS 12)) (defScope (topS 12)) .none kV__law_same dc__law_same pm__law_same an__law_same cd__law_same ct__law_same), sl__law_same⟩)
    (h3__law_same : PySem.W.codeIn K cd__law_same "_law_same" = true)
    (h4__law_same : PySem.W.keepIn K (.ref a__law_same) = true)
    (h1_check_kind : PySem.W.nsIn K mainGlobals "check_kind" = some (some (.ref a_check_kind)))
    (h2_check_kind : K.lookup a_check_kind = some ⟨oc_check_kind, od_check_kind, .func (PySem.W.fnOf "check_kind" "check_kind" (defArgs (topS 6)) (defBody (topS 6)) (defScope (topS 6)) .none kV_check_kind dc_check_kind pm_check_kind an_check_kind cd_check_kind ct_check_kind), sl_check_kind⟩)
    (h3_check_kind : PySem.W.codeIn K cd_check_kind "check_kind" = true)
    (h4_check_kind : PySem.W.keepIn K (.ref a_check_kind) = true)
    (h1_normal_changes : PySem.W.nsIn K mainGlobals "normal_changes" = some (some (.ref a_normal_changes)))
    (h2_normal_changes : K.lookup a_normal_changes = some ⟨oc_normal_changes, od_normal_changes, .func (PySem.W.fnOf "normal_changes" "normal_changes" (defArgs (topS 8)) (defBody (topS 8)) (defScope (topS 8)) .none kV_normal_changes dc_normal_changes pm_normal_changes an_normal_changes cd_normal_changes ct_normal_changes), sl_normal_changes⟩)
    (h3_normal_changes : PySem.W.codeIn K cd_normal_changes "normal_changes" = true)
    (h4_normal_changes : PySem.W.keepIn K (.ref a_normal_changes) = true)
    (h1__law_refused : PySem.W.nsIn K mainGlobals "_law_refused" = some (some (.ref a__law_refused)))
    (h2__law_refused : K.lookup a__law_refused = some ⟨oc__law_refused, od__law_refused, .func (PySem.W.fnOf "_law_refused" "_law_refused" (defArgs (topS 16)) (defBody (topS 16)) (defScope (topS 16)) .none kV__law_refused dc__law_refused pm__law_refused an__law_refused cd__law_refused ct__law_refused), sl__law_refused⟩)
    (h3__law_refused : PySem.W.codeIn K cd__law_refused "_law_refused" = true)
    (h4__law_refused : PySem.W.keepIn K (.ref a__law_refused) = true)
    (h1_law : PySem.W.nsIn K mainGlobals "law" = some (some (.ref a_law)))
    (h2_law : K.lookup a_law = some ⟨oc_law, od_law, .func (PySem.W.fnOf "law" "law" (defArgs (topS 17)) (defBody (topS 17)) (defScope (topS 17)) .none kV_law dc_law pm_law an_law cd_law ct_law), sl_law⟩)
    (h3_law : PySem.W.codeIn K cd_law "law" = true)
    (h4_law : PySem.W.keepIn K (.ref a_law) = true)
    (g1_AskError : PySem.W.nsIn K mainGlobals "AskError" = some (some (.ref C_AskError)))
    (g1_BadKind : PySem.W.nsIn K mainGlobals "BadKind" = some (some (.ref C_BadKind)))
    (g1_BadRights : PySem.W.nsIn K mainGlobals "BadRights" = some (some (.ref C_BadRights)))
    (zsuper : PySem.W.nsIn K mainGlobals "super" = some none)
    (zany : PySem.W.nsIn K cStatics "thirdparty.any" = some none)
    (cn : PySem.W.specialIn K (.builtin "object.__class__") "__get__" = some (some (.builtin "getset_descriptor.__get__")))
    (ctk : PySem.W.takesIn K (.builtin "object.__class__") = some true)
    (x0_BadKind : K.lookup C_BadKind = some (excClassObj nm_BadKind q_BadKind C_BadKind N_BadKind bs_BadKind bm_BadKind true sn_BadKind sub_BadKind ab_BadKind col_BadKind dd_BadKind m0_BadKind m1_BadKind m2_BadKind m3_BadKind m5_BadKind "ValueError.__new__"))
    (x1_BadKind : PySem.HandSPX.refsVE bm_BadKind = true)
    (sa_BadKind : PySem.W.findIn K (.ref C_BadKind) "__setattr__" = some (some (.builtin "object.__setattr__")))
    (kC_BadKind : PySem.W.keepIn K (.ref C_BadKind) = true)
    (ty_BadKind : PySem.W.typeIn K (.ref C_BadKind) = some (.type "type"))
    (cl_BadKind : PySem.W.isClsIn K C_BadKind = true)
    (ga_BadKind : PySem.W.findIn K (.ref C_BadKind) "__getattribute__" = some (some (.builtin "BaseException.__getattribute__")))
    (gt_BadKind : PySem.W.findIn K (.ref C_BadKind) "__getattr__" = some none)
    (be_BadKind : PySem.W.subIn K (.ref C_BadKind) (.type "BaseException") = some true)
    (hd_BadKind : PySem.W.hasDictIn K C_BadKind = true)
    (ca_BadKind : PySem.W.findIn K (.ref C_BadKind) "__class__" = some (some (.builtin "object.__class__")))
    (mo_BadKind : PySem.W.mroIn K C_BadKind (.type "object") = some true)
    (ve_BadKind : PySem.W.subIn K (.ref C_BadKind) (.type "ValueError") = some true)
    (ii_BadKind : PySem.W.findIn K (.ref C_BadKind) "__init__" = some (some (.ref f_BadKind)))
    (ti_BadKind : PySem.W.typeIn K (.ref f_BadKind) = some (.type "function"))
    (lk_BadKind : K.lookup f_BadKind = some ⟨oc_BadKind, od_BadKind, .func (PySem.W.ksFn "__init__" qual_BadKind params_BadKind (.Expr (.Call (.Attribute (.Call (.Name "super" p0_BadKind) [] [] p1_BadKind) "__init__" p2_BadKind) [.Constant (.str text_BadKind) kk_BadKind p3_BadKind] [] p4_BadKind) p5_BadKind :: st_BadKind) scope_BadKind dV_BadKind kV_BadKind doc_BadKind pm_BadKind an_BadKind (.ref cda_BadKind) ct_BadKind cc_BadKind), osl_BadKind⟩)
    (ci_BadKind : PySem.W.codeIn K (.ref cda_BadKind) qual_BadKind = true)
    (co_BadKind : K.lookup cda_BadKind = some ⟨ccl_BadKind, ccd_BadKind, .fields vs0_BadKind, ccs_BadKind⟩)
    (cc_BadKindh : K.lookup cc_BadKind = some ⟨ocl_BadKind, ocd_BadKind, .cell (some (.ref D_BadKind)), csl_BadKind⟩)
    (hD_BadKind : PySem.W.clsIn K D_BadKind = some cdD_BadKind)
    (hs_BadKind : PySem.W.mroIn K C_BadKind (.ref D_BadKind) = some true)
    (hm_BadKind : PySem.W.ks_superIn K C_BadKind D_BadKind "__init__" = some (some (.builtin "ValueError.__init__")))
    (na_BadKind_kind : PySem.W.findIn K (.ref C_BadKind) "kind" = some none)
    (r1_BadKind : vs0_BadKind[2]? = some (.str file_BadKind tf_BadKind))
    (r2_BadKind : ((P.main.file : Str) == file_BadKind) = true)
    (r3_BadKind : (P.main.scope.names.lookup ("super" : Str)).isSome = false)
    (r4_BadKind : InScope ["self", "kind"] scope_BadKind)
    (r5_BadKind : (["self", "kind"] : List Str)[0]? = some self_BadKind)
    (r6_BadKind : (params_BadKind.posonlyargs ++ params_BadKind.args).head? = some ar_BadKind)
    (r7_BadKind : ar_BadKind.arg = self_BadKind)
    (r8_BadKind : ∀ L, FSt ["self", "kind"] self_BadKind (PySem.W.ksEnv qual_BadKind scope_BadKind L f_BadKind (.ref cda_BadKind) cc_BadKind) st_BadKind [(Str.ofString "kind", 0)])
    (r9_BadKind : (self_BadKind == ("__debug__" : Str)) = false)
    (ra_BadKind : (self_BadKind == ("__classdict__" : Str)) = false)
    (rb_BadKind : ∀ env : PySem.Env, swapsWith (.Call (.Attribute (.Call (.Name "super" p0_BadKind) [] [] p1_BadKind) "__init__" p2_BadKind) [.Constant (.str text_BadKind) kk_BadKind p3_BadKind] [] p4_BadKind) none p5_BadKind.line env = pure false)
    (rc_BadKind : ∀ L, eval (.Call (.Attribute (.Call (.Name "super" p0_BadKind) [] [] p1_BadKind) "__init__" p2_BadKind) [.Constant (.str text_BadKind) kk_BadKind p3_BadKind] [] p4_BadKind) (PySem.W.ksEnv qual_BadKind scope_BadKind L f_BadKind (.ref cda_BadKind) cc_BadKind) = (do
      let ov ← attributeBase (.Call (.Name "super" p0_BadKind) [] [] p1_BadKind) "__init__" (PySem.W.ksEnv qual_BadKind scope_BadKind L f_BadKind (.ref cda_BadKind) cc_BadKind) (eval (.Call (.Name "super" p0_BadKind) [] [] p1_BadKind) (PySem.W.ksEnv qual_BadKind scope_BadKind L f_BadKind (.ref cda_BadKind) cc_BadKind))
      standAt p2_BadKind.atName
      let (f', first) ← holding [ov] (getMethod ov "__init__" (pl_BadKind L))
      callWith p4_BadKind f' first (backTo p4_BadKind (starEach [.Constant (.str text_BadKind) kk_BadKind p3_BadKind] (PySem.W.ksEnv qual_BadKind scope_BadKind L f_BadKind (.ref cda_BadKind) cc_BadKind))) []))
    (rd_BadKind : ∀ us : List Value, us.length = (["self", "kind"] : List Str).length → bindArgs (PySem.W.ksFn "__init__" qual_BadKind params_BadKind (.Expr (.Call (.Attribute (.Call (.Name "super" p0_BadKind) [] [] p1_BadKind) "__init__" p2_BadKind) [.Constant (.str text_BadKind) kk_BadKind p3_BadKind] [] p4_BadKind) p5_BadKind :: st_BadKind) scope_BadKind dV_BadKind kV_BadKind doc_BadKind pm_BadKind an_BadKind (.ref cda_BadKind) ct_BadKind cc_BadKind) ⟨us, []⟩ = pure ((["self", "kind"] : List Str).zip us))
    (m1_BadKind_AskError : PySem.W.exmOne K (.ref C_BadKind) (.ref C_AskError) = some true)
    (i1_BadKind_BadKind : PySem.W.kitOne K (.ref C_BadKind) (.ref C_BadKind) = some true)
    (i1_BadKind_BadRights : PySem.W.kitOne K (.ref C_BadKind) (.ref C_BadRights) = some false)
    (i1_BadKind_ValueError : PySem.W.kitOne K (.ref C_BadKind) (.type "ValueError") = some true)
    (u1_KINDS : PySem.W.nsIn K mainGlobals "KINDS" = some (some u_KINDS))
    (u2_KINDS : kD K 3 u_KINDS = some k_KINDS)
    (z1_ValueError : PySem.W.nsIn K mainGlobals "ValueError" = some none)
    (z1_int : PySem.W.nsIn K mainGlobals "int" = some none)
    (z1_isinstance : PySem.W.nsIn K mainGlobals "isinstance" = some none)
    (z1_len : PySem.W.nsIn K mainGlobals "len" = some none)
    (z1_list : PySem.W.nsIn K mainGlobals "list" = some none)
    (z1_range : PySem.W.nsIn K mainGlobals "range" = some none)
    (z1_repr : PySem.W.nsIn K mainGlobals "repr" = some none)
    (z1_sorted : PySem.W.nsIn K mainGlobals "sorted" = some none)
    (z1_tuple : PySem.W.nsIn K mainGlobals "tuple" = some none)
    : ∃ (fd : FuncData) (G : GC), (∀ (s : Shared) (u : Value), BindsTo s fd ⟨[u], []⟩ [("script", u)]) ∧ ∀ base : Heap, K.In base → base.Ns mainGlobals mg → FnG true P w K mg base 6 fa fd ["script"] (spI G 1 f_law) := by
  have t : Tx P w K mg := {
    a__law_stock := _
    fd__law_stock := _
    e__law_stock := fnE_mk X Gr h1__law_stock h2__law_stock h3__law_stock h4__law_stock
    a__law_draw := _
    fd__law_draw := _
    e__law_draw := fnE_mk X Gr h1__law_draw h2__law_draw h3__law_draw h4__law_draw
    a__law_change_word := _
    fd__law_change_word := _
    e__law_change_word := fnE_mk X Gr h1__law_change_word h2__law_change_word h3__law_change_word h4__law_change_word
    a__law_odd_name := _
    fd__law_odd_name := _
    e__law_odd_name := fnE_mk X Gr h1__law_odd_name h2__law_odd_name h3__law_odd_name h4__law_odd_name
    a__law_normal_form := _
    fd__law_normal_form := _
    e__law_normal_form := fnE_mk X Gr h1__law_normal_form h2__law_normal_form h3__law_normal_form h4__law_normal_form
    a__law_same := _
    fd__law_same := _
    e__law_same := fnE_mk X Gr h1__law_same h2__law_same h3__law_same h4__law_same
    a_check_kind := _
    fd_check_kind := _
    e_check_kind := fnE_mk X Gr h1_check_kind h2_check_kind h3_check_kind h4_check_kind
    a_normal_changes := _
    fd_normal_changes := _
    e_normal_changes := fnE_mk X Gr h1_normal_changes h2_normal_changes h3_normal_changes h4_normal_changes
    a__law_refused := _
    fd__law_refused := _
    e__law_refused := fnE_mk X Gr h1__law_refused h2__law_refused h3__law_refused h4__law_refused
    a_law := _
    fd_law := _
    e_law := fnE_mk X Gr h1_law h2_law h3_law h4_law
    C_AskError := C_AskError
    g_AskError := PySem.W.mg_of X Gr g1_AskError
    C_BadKind := C_BadKind
    g_BadKind := PySem.W.mg_of X Gr g1_BadKind
    C_BadRights := C_BadRights
    g_BadRights := PySem.W.mg_of X Gr g1_BadRights
    x_BadKind := by
      have Fx : ExFacts K C_BadKind := ⟨sa_BadKind, kC_BadKind, ty_BadKind, ⟨cl_BadKind, ga_BadKind, gt_BadKind, be_BadKind, hd_BadKind, ca_BadKind, cn, ctk, mo_BadKind⟩, ve_BadKind⟩
      exact exE_mk X Gr g1_BadKind Fx (oexC_mk Fx x0_BadKind x1_BadKind) ii_BadKind ti_BadKind lk_BadKind ci_BadKind co_BadKind cc_BadKindh hD_BadKind hs_BadKind zsuper zany hm_BadKind (all_cons na_BadKind_kind all_nil) r1_BadKind r2_BadKind r3_BadKind r4_BadKind r5_BadKind r6_BadKind r7_BadKind r8_BadKind (by decide) (by decide) (by decide) r9_BadKind ra_BadKind rb_BadKind rc_BadKind rd_BadKind
    m_BadKind_AskError := m1_BadKind_AskError
    i_BadKind_BadKind := i1_BadKind_BadKind
    i_BadKind_BadRights := i1_BadKind_BadRights
    i_BadKind_ValueError := i1_BadKind_ValueError
    n_BadKind_kind := na_BadKind_kind
    u_KINDS := u_KINDS
    mu_KINDS := PySem.W.mg_of X Gr u1_KINDS
    ku_KINDS := u2_KINDS
    z_ValueError := PySem.W.mg_none_of X Gr z1_ValueError
    z_int := PySem.W.mg_none_of X Gr z1_int
    z_isinstance := PySem.W.mg_none_of X Gr z1_isinstance
    z_len := PySem.W.mg_none_of X Gr z1_len
    z_list := PySem.W.mg_none_of X Gr z1_list
    z_range := PySem.W.mg_none_of X Gr z1_range
    z_repr := PySem.W.mg_none_of X Gr z1_repr
    z_sorted := PySem.W.mg_none_of X Gr z1_sorted
    z_tuple := PySem.W.mg_none_of X Gr z1_tuple
  }
  have e := hfa.symm.trans t.e_law.gl
  cases e
  exact ⟨t.fd_law, t.G, fun s u => .of_eq (b_law t [u] rfl), fun base _ _ => ok_law t base⟩
end K23
open PySem PySem.W PyProof.Rows
set_option maxHeartbeats 0 in
theorem PySem.Challenge.cw_rangeasks_k23_change_words_holds : PySem.Challenge.rw_rangeasks_k23_change_words.Holds := by
  w_on; o_law; k_head; (case hw => w_witness2)
  k_fill
  refine MI.end_law (l := PySem.Challenge.rw_rangeasks_k23_change_words) (n := 63) (k := 6) (x := "script") (f := K23.f_law) rfl (by decide) rfl ⟨by decide, by decide, fun _ => rfl, rfl⟩ ?hno (fun w h Y => PySem.W.kIn_of Y) ?F K23.law_true
  case hno => intro p; first | rfl | kernel_rfl
  case F =>
    intro w mg fa h KX Gr hmg
    refine' K23.fin_mk KX Gr hmg ?h1__law_stock ?h2__law_stock ?h3__law_stock ?h4__law_stock ?h1__law_draw ?h2__law_draw ?h3__law_draw ?h4__law_draw ?h1__law_change_word ?h2__law_change_word ?h3__law_change_word ?h4__law_change_word ?h1__law_odd_name ?h2__law_odd_name ?h3__law_odd_name ?h4__law_odd_name ?h1__law_normal_form ?h2__law_normal_form ?h3__law_normal_form ?h4__law_normal_form ?h1__law_same ?h2__law_same ?h3__law_same ?h4__law_same ?h1_check_kind ?h2_check_kind ?h3_check_kind ?h4_check_kind ?h1_normal_changes ?h2_normal_changes ?h3_normal_changes ?h4_normal_changes ?h1__law_refused ?h2__law_refused ?h3__law_refused ?h4__law_refused ?h1_law ?h2_law ?h3_law ?h4_law ?g1_AskError ?g1_BadKind ?g1_BadRights ?zsuper ?zany ?cn ?ctk ?x0_BadKind ?x1_BadKind ?sa_BadKind ?kC_BadKind ?ty_BadKind ?cl_BadKind ?ga_BadKind ?gt_BadKind ?be_BadKind ?hd_BadKind ?ca_BadKind ?mo_BadKind ?ve_BadKind ?ii_BadKind ?ti_BadKind ?lk_BadKind ?ci_BadKind ?co_BadKind ?cc_BadKindh ?hD_BadKind ?hs_BadKind ?hm_BadKind ?na_BadKind_kind ?r1_BadKind ?r2_BadKind ?r3_BadKind ?r4_BadKind ?r5_BadKind ?r6_BadKind ?r7_BadKind ?r8_BadKind ?r9_BadKind ?ra_BadKind ?rb_BadKind ?rc_BadKind ?rd_BadKind ?m1_BadKind_AskError ?i1_BadKind_BadKind ?i1_BadKind_BadRights ?i1_BadKind_ValueError ?u1_KINDS ?u2_KINDS ?z1_ValueError ?z1_int ?z1_isinstance ?z1_len ?z1_list ?z1_range ?z1_repr ?z1_sorted ?z1_tuple
    (case h1__law_stock => k_is)
    (case h2__law_stock => k_is)
    (case h3__law_stock => k_is)
    (case h4__law_stock => k_is)
    (case h1__law_draw => k_is)
    (case h2__law_draw => k_is)
    (case h3__law_draw => k_is)
    (case h4__law_draw => k_is)
    (case h1__law_change_word => k_is)
    (case h2__law_change_word => k_is)
    (case h3__law_change_word => k_is)
    (case h4__law_change_word => k_is)
    (case h1__law_odd_name => k_is)
    (case h2__law_odd_name => k_is)
    (case h3__law_odd_name => k_is)
    (case h4__law_odd_name => k_is)
    (case h1__law_normal_form => k_is)
    (case h2__law_normal_form => k_is)
    (case h3__law_normal_form => k_is)
    (case h4__law_normal_form => k_is)
    (case h1__law_same => k_is)
    (case h2__law_same => k_is)
    (case h3__law_same => k_is)
    (case h4__law_same => k_is)
    (case h1_check_kind => k_is)
    (case h2_check_kind => k_is)
    (case h3_check_kind => k_is)
    (case h4_check_kind => k_is)
    (case h1_normal_changes => k_is)
    (case h2_normal_changes => k_is)
    (case h3_normal_changes => k_is)
    (case h4_normal_changes => k_is)
    (case h1__law_refused => k_is)
    (case h2__law_refused => k_is)
    (case h3__law_refused => k_is)
    (case h4__law_refused => k_is)
    (case h1_law => k_is)
    (case h2_law => k_is)
    (case h3_law => k_is)
    (case h4_law => k_is)
    (case g1_AskError => k_is)
    (case g1_BadKind => k_is)
    (case g1_BadRights => k_is)
    (case zsuper => k_is)
    (case zany => k_is)
    (case cn => k_is)
    (case ctk => k_is)
    (case x0_BadKind => k_is)
    (case x1_BadKind => decide +kernel)
    (case sa_BadKind => k_is)
    (case kC_BadKind => k_is)
    (case ty_BadKind => k_is)
    (case cl_BadKind => k_is)
    (case ga_BadKind => k_is)
    (case gt_BadKind => k_is)
    (case be_BadKind => k_is)
    (case hd_BadKind => k_is)
    (case ca_BadKind => k_is)
    (case mo_BadKind => k_is)
    (case ve_BadKind => k_is)
    (case ii_BadKind => k_is)
    (case ti_BadKind => k_is)
    (case lk_BadKind => k_is)
    (case ci_BadKind => k_is)
    (case co_BadKind => k_is)
    (case cc_BadKindh => k_is)
    (case hD_BadKind => k_is)
    (case hs_BadKind => k_is)
    (case hm_BadKind => first | ks_is | k_is)
    (case na_BadKind_kind => k_is)
    (case r1_BadKind => rfl)
    (case r2_BadKind => decide +kernel)
    (case r3_BadKind => decide +kernel)
    (case r4_BadKind => exact ⟨rfl, rfl, rfl, by decide +kernel, by decide +kernel, by decide +kernel, MI.L2free (by decide +kernel), by decide +kernel, by decide +kernel⟩)
    (case r5_BadKind => rfl)
    (case r6_BadKind => rfl)
    (case r7_BadKind => rfl)
    (case r8_BadKind => exact fun L => .cons rfl rfl (by decide) (by decide) rfl (.nil))
    (case r9_BadKind => decide)
    (case ra_BadKind => decide)
    (case rb_BadKind => exact fun _ => rfl)
    (case rc_BadKind => exact fun _ => rfl)
    (case rd_BadKind => exact fun us hl => match us, hl with | [_, _], _ => rfl)
    (case m1_BadKind_AskError => first | k_is | rfl)
    (case i1_BadKind_BadKind => first | kit_is | k_is | rfl)
    (case i1_BadKind_BadRights => first | kit_is | k_is | rfl)
    (case i1_BadKind_ValueError => first | kit_is | k_is | rfl)
    (case u1_KINDS => k_is)
    (case u2_KINDS => rfl)
    (case z1_ValueError => k_is)
    (case z1_int => k_is)
    (case z1_isinstance => k_is)
    (case z1_len => k_is)
    (case z1_list => k_is)
    (case z1_range => k_is)
    (case z1_repr => k_is)
    (case z1_sorted => k_is)
    (case z1_tuple => k_is)
