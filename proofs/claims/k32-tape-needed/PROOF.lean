import PyProof.Rows.All
import Wide.All
import OpenK.AllK
import Wide.FinOn
import HandS.ForMost
import HandS.ForExc
import HandS.Walk
import HandS.TupAny
import HandS.Wide
import HandS.WideBits
import HandS.Deep
import HandS.TupLe
import HandS.TupMul
import HandS.Style
import HandS.Flow
import HandS.SortInts
import HandS.IsInst
import KE.KSortedM
import HandS.HotCalls
import HandS.SetFor
import HandS.ExcInit
import KE.KExcSuper
import KE.KSuper
import HandS.ExcField
import HandS.ExcIs
import KE.KExcIs
import PyProof.ReprRoads
import HandS.Ends
import HandS.Words
import HandS.Zip
import KE.GoesMore
import HandS.Conv
import HandS.RevRange
import PyProof.ReprLen
import PySem.Challenge.RW_rangeasks_k32_tape_needed
set_option Elab.async false
set_option linter.all false
set_option maxRecDepth 100000
namespace MI
open PySem L2
/-! deep values, memory, results -/
inductive D where
  | non | bl (b : Bool) | int (i : Int) | str (s : Str) | tup (xs : List D) | ref (n : Nat) | exc (c : Str) (fs : List (Str × D)) (i : Nat)
mutual
def D.beq : D → D → Bool
  | .non, .non => true
  | .bl a, .bl b => a == b
  | .int a, .int b => a == b
  | .str a, .str b => a == b
  | .tup a, .tup b => D.beqL a b
  | .ref a, .ref b => a == b
  | _, _ => false
def D.beqL : List D → List D → Bool
  | [], [] => true
  | a :: r, b :: t => D.beq a b && D.beqL r t
  | _, _ => false
end
mutual
theorem D.eq_of : ∀ (a b : D), D.beq a b = true → a = b
  | .non, b, h => by cases b <;> simp [D.beq] at h ⊢
  | .bl x, b, h => by cases b <;> simp [D.beq] at h ⊢; exact h
  | .int x, b, h => by cases b <;> simp [D.beq] at h ⊢; exact h
  | .str x, b, h => by cases b <;> simp [D.beq] at h ⊢; exact h
  | .tup x, b, h => by
    cases b <;> simp [D.beq] at h ⊢
    exact D.eqL_of x _ h
  | .ref x, b, h => by cases b <;> simp [D.beq] at h ⊢; exact h
  | .exc c f i, b, h => by cases b <;> simp [D.beq] at h
theorem D.eqL_of : ∀ (a b : List D), D.beqL a b = true → a = b
  | [], b, h => by cases b <;> simp [D.beqL] at h ⊢
  | x :: r, b, h => by
    cases b with
    | nil => simp [D.beqL] at h
    | cons y t =>
      simp only [D.beqL, Bool.and_eq_true] at h
      rw [D.eq_of x y h.1, D.eqL_of r t h.2]
end

mutual
def D.plain : D → Bool
  | .exc _ _ _ => false
  | .tup xs => D.plainL xs
  | _ => true
def D.plainL : List D → Bool
  | [] => true
  | a :: r => D.plain a && D.plainL r
end
mutual
theorem D.beq_self : ∀ (a : D), D.plain a = true → D.beq a a = true
  | .non, _ => rfl
  | .bl x, _ => by simp [D.beq]
  | .int x, _ => by simp [D.beq]
  | .str x, _ => by simp [D.beq]
  | .tup x, h => by simp only [D.beq]; exact D.beqL_self x (by simpa [D.plain] using h)
  | .ref x, _ => by simp [D.beq]
  | .exc c f i, h => by simp [D.plain] at h
theorem D.beqL_self : ∀ (a : List D), D.plainL a = true → D.beqL a a = true
  | [], _ => rfl
  | x :: r, h => by
    simp only [D.plainL, Bool.and_eq_true] at h
    simp only [D.beqL, Bool.and_eq_true]
    exact ⟨D.beq_self x h.1, D.beqL_self r h.2⟩
end

inductive Cell where
  | lst (xs : List D)
  | rls (xs : List D)
  | ins (c : Str) (fs : List (Str × D))
  | dct (kvs : List (Key × D))
abbrev Mem := List Cell
inductive R (α : Type) where
  | ok (a : α) (M : Mem)
  | ex (c : Str) (fs : List (Str × D)) (M : Mem)
  | st
def R.bind {α β : Type} (r : R α) (k : α → Mem → R β) : R β :=
  match r with
  | .ok a M => k a M
  | .ex c fs M => .ex c fs M
  | .st => .st
abbrev Env := List (Option D)
inductive O where
  | nx (ρ : Env) (M : Mem) | rt (d : D) (M : Mem) | bk (ρ : Env) (M : Mem) | ct (ρ : Env) (M : Mem) | ex (c : Str) (fs : List (Str × D)) (ρ : Env) (M : Mem) | st

/-! how a value and a memory lie in the abstract heap -/
/-- a tuple: tracked, or an object of the module -/
def TupAt (K : PySem.W.Frag) (H : Hp) (a : Addr) (xs : List V) : Prop :=
  (∃ o : Obj, o.dict = none ∧ H a = some (.frz o (.tup xs))) ∨
    ∃ (o : Obj) (its : Array Value) (n : Nat), o.dict = none ∧ K.lookup a = some o ∧ o.cls = .type "tuple" ∧ o.data = .seq its n ∧ its.size ≤ sizeLine ∧ Vals xs its.toList
theorem TupAt.sq {K : PySem.W.Frag} {H : Hp} {a : Addr} {xs : List V} (h : TupAt K H a xs) : SqT K H a xs := by
  rcases h with ⟨o, _, h⟩ | ⟨o, its, n, _, h⟩
  · exact .inl (.inr ⟨o, h⟩)
  · exact .inr ⟨o, its, n, h⟩
structure GC where
  K : PySem.W.Frag
  ca : Str → Addr
mutual
def RepV (G : GC) (ρ : Nat → Addr) (N : Nat) (H : Hp) : D → V → Prop
  | .non, v => v = .non
  | .bl b, v => v = .bl b
  | .int i, v => v = .int i
  | .str s, v => v = .str s
  | .tup xs, v => ∃ a vs, v = .ref a ∧ TupAt G.K H a vs ∧ RepL G ρ N H xs vs
  | .ref n, v => n < N ∧ v = .ref (ρ n)
  | .exc _ _ _, _ => False
def RepL (G : GC) (ρ : Nat → Addr) (N : Nat) (H : Hp) : List D → List V → Prop
  | [], vs => vs = []
  | d :: ds, vs => ∃ v r, vs = v :: r ∧ RepV G ρ N H d v ∧ RepL G ρ N H ds r
end
def RepF (G : GC) (ρ : Nat → Addr) (N : Nat) (H : Hp) : List (Str × D) → List (Str × V) → Prop
  | [], vs => vs = []
  | (f, d) :: ds, vs => ∃ v r, vs = (f, v) :: r ∧ RepV G ρ N H d v ∧ RepF G ρ N H ds r
def RepK (G : GC) (ρ : Nat → Addr) (N : Nat) (H : Hp) : List (Key × D) → List (Key × V) → Prop
  | [], vs => vs = []
  | (f, d) :: ds, vs => ∃ v r, vs = (f, v) :: r ∧ RepV G ρ N H d v ∧ RepK G ρ N H ds r
/-- what only grows -/
structure Grow (G : GC) (ρ : Nat → Addr) (N : Nat) (H : Hp) (ρ' : Nat → Addr) (N' : Nat) (H' : Hp) : Prop where
  le : N ≤ N'
  ag : ∀ n, n < N → ρ' n = ρ n
  tups : ∀ b o xs, H b = some (.frz o (.tup xs)) → H' b = some (.frz o (.tup xs))
  xds : ∀ b fs, H b = some (.xd fs) → H' b = some (.xd fs)
section
variable {G : GC} {ρ ρ' ρ'' : Nat → Addr} {N N' N'' : Nat} {H H' H'' : Hp}
theorem Grow.refl : Grow G ρ N H ρ N H := ⟨Nat.le_refl _, fun _ _ => rfl, fun _ _ _ h => h, fun _ _ h => h⟩
theorem Grow.trans (a : Grow G ρ N H ρ' N' H') (b : Grow G ρ' N' H' ρ'' N'' H'') : Grow G ρ N H ρ'' N'' H'' :=
  ⟨Nat.le_trans a.le b.le, fun n h => (b.ag n (Nat.lt_of_lt_of_le h a.le)).trans (a.ag n h), fun c o xs h => b.tups c o xs (a.tups c o xs h), fun c fs h => b.xds c fs (a.xds c fs h)⟩
theorem Grow.sqt (g : Grow G ρ N H ρ' N' H') {K : PySem.W.Frag} {a : Addr} {vs : List V} (h : TupAt K H a vs) : TupAt K H' a vs := by
  rcases h with ⟨o, hd, h⟩ | h
  · exact .inl ⟨o, hd, g.tups _ _ _ h⟩
  · exact .inr h
mutual
theorem RepV.grow (g : Grow G ρ N H ρ' N' H') : ∀ {d : D} {v : V}, RepV G ρ N H d v → RepV G ρ' N' H' d v
  | .non, _, h => by simpa only [RepV] using h
  | .bl b, _, h => by simpa only [RepV] using h
  | .int i, _, h => by simpa only [RepV] using h
  | .str s, _, h => by simpa only [RepV] using h
  | .tup xs, _, h => by
    simp only [RepV] at h ⊢
    obtain ⟨a, vs, e, s, r⟩ := h
    exact ⟨a, vs, e, g.sqt s, RepL.grow g r⟩
  | .ref n, _, h => by
    simp only [RepV] at h ⊢
    exact ⟨Nat.lt_of_lt_of_le h.1 g.le, by rw [g.ag n h.1]; exact h.2⟩
  | .exc _ _ _, _, h => by simp only [RepV] at h
theorem RepL.grow (g : Grow G ρ N H ρ' N' H') : ∀ {ds : List D} {vs : List V}, RepL G ρ N H ds vs → RepL G ρ' N' H' ds vs
  | [], _, h => by simpa only [RepL] using h
  | d :: ds, _, h => by
    simp only [RepL] at h ⊢
    obtain ⟨v, r, e, h1, h2⟩ := h
    exact ⟨v, r, e, RepV.grow g h1, RepL.grow g h2⟩
end
theorem RepF.grow (g : Grow G ρ N H ρ' N' H') : ∀ {ds : List (Str × D)} {vs : List (Str × V)}, RepF G ρ N H ds vs → RepF G ρ' N' H' ds vs
  | [], _, h => h
  | (f, d) :: ds, _, ⟨v, r, e, h1, h2⟩ => ⟨v, r, e, h1.grow g, RepF.grow g h2⟩
theorem RepK.grow (g : Grow G ρ N H ρ' N' H') : ∀ {ds : List (Key × D)} {vs : List (Key × V)}, RepK G ρ N H ds vs → RepK G ρ' N' H' ds vs
  | [], _, h => h
  | (f, d) :: ds, _, ⟨v, r, e, h1, h2⟩ => ⟨v, r, e, h1.grow g, RepK.grow g h2⟩
theorem RepL.length : ∀ {ds : List D} {vs : List V}, RepL G ρ N H ds vs → vs.length = ds.length
  | [], _, h => by simp only [RepL] at h; subst h; rfl
  | d :: ds, _, h => by
    simp only [RepL] at h
    obtain ⟨v, r, e, h1, h2⟩ := h
    subst e
    simp [RepL.length h2]
theorem RepL.get : ∀ {ds : List D} {vs : List V} {i : Nat} {d : D}, RepL G ρ N H ds vs → ds[i]? = some d → ∃ v, vs[i]? = some v ∧ RepV G ρ N H d v
  | [], _, i, d, h, e => by simp at e
  | x :: ds, _, i, d, h, e => by
    simp only [RepL] at h
    obtain ⟨v, r, rfl, h1, h2⟩ := h
    cases i with
    | zero => simp at e; subst e; exact ⟨v, rfl, h1⟩
    | succ i => exact RepL.get (i := i) h2 (by simpa using e)
theorem RepL.get' : ∀ {ds : List D} {vs : List V} {i : Nat} {v : V}, RepL G ρ N H ds vs → vs[i]? = some v → ∃ d, ds[i]? = some d ∧ RepV G ρ N H d v
  | [], _, i, v, h, e => by simp only [RepL] at h; subst h; simp at e
  | x :: ds, _, i, v, h, e => by
    simp only [RepL] at h
    obtain ⟨w, r, rfl, h1, h2⟩ := h
    cases i with
    | zero => simp at e; subst e; exact ⟨x, rfl, h1⟩
    | succ i => exact RepL.get' (i := i) h2 (by simpa using e)
theorem RepL.append : ∀ {ds es : List D} {vs ws : List V}, RepL G ρ N H ds vs → RepL G ρ N H es ws → RepL G ρ N H (ds ++ es) (vs ++ ws)
  | [], _, _, _, h, h' => by simp only [RepL] at h; subst h; exact h'
  | d :: ds, _, _, _, h, h' => by
    simp only [RepL] at h
    obtain ⟨v, r, rfl, h1, h2⟩ := h
    show RepL G ρ N H (d :: (ds ++ _)) _
    simp only [RepL]
    exact ⟨v, _, rfl, h1, RepL.append h2 h'⟩
theorem RepL.nil : RepL G ρ N H [] [] := by simp only [RepL]
theorem RepL.cons {d : D} {ds : List D} {v : V} {vs : List V} (h : RepV G ρ N H d v) (t : RepL G ρ N H ds vs) : RepL G ρ N H (d :: ds) (v :: vs) := by
  simp only [RepL]; exact ⟨v, vs, rfl, h, t⟩
theorem RepL.one {d : D} {v : V} (h : RepV G ρ N H d v) : RepL G ρ N H [d] [v] := .cons h .nil
theorem RepL.take : ∀ {ds : List D} {vs : List V} (n : Nat), RepL G ρ N H ds vs → RepL G ρ N H (ds.take n) (vs.take n)
  | ds, vs, 0, h => by simp; exact .nil
  | [], _, n + 1, h => by simp only [RepL] at h; subst h; exact .nil
  | d :: ds, _, n + 1, h => by
    simp only [RepL] at h
    obtain ⟨v, r, rfl, h1, h2⟩ := h
    exact .cons h1 (RepL.take n h2)
theorem RepL.drop : ∀ {ds : List D} {vs : List V} (n : Nat), RepL G ρ N H ds vs → RepL G ρ N H (ds.drop n) (vs.drop n)
  | ds, vs, 0, h => h
  | [], _, n + 1, h => by simp only [RepL] at h; subst h; exact .nil
  | d :: ds, _, n + 1, h => by
    simp only [RepL] at h
    obtain ⟨v, r, rfl, h1, h2⟩ := h
    exact RepL.drop n h2
theorem RepL.set {d : D} {v : V} (h : RepV G ρ N H d v) : ∀ {ds : List D} {vs : List V} (i : Nat), RepL G ρ N H ds vs → RepL G ρ N H (ds.set i d) (vs.set i v)
  | [], _, _, h' => by simp only [RepL] at h'; subst h'; exact .nil
  | x :: ds, _, 0, h' => by
    simp only [RepL] at h'
    obtain ⟨w, r, rfl, h1, h2⟩ := h'
    exact .cons h h2
  | x :: ds, _, i + 1, h' => by
    simp only [RepL] at h'
    obtain ⟨w, r, rfl, h1, h2⟩ := h'
    exact .cons h1 (RepL.set h i h2)
theorem RepL.reverse : ∀ {ds : List D} {vs : List V}, RepL G ρ N H ds vs → RepL G ρ N H ds.reverse vs.reverse
  | [], _, h => by simp only [RepL] at h; subst h; exact .nil
  | x :: ds, _, h => by
    simp only [RepL] at h
    obtain ⟨w, r, rfl, h1, h2⟩ := h
    simp only [List.reverse_cons]
    exact (RepL.reverse h2).append (.one h1)
end

/-- the cell c at a -/
def RepC (G : GC) (ρ : Nat → Addr) (N : Nat) (H : Hp) : Cell → Addr → Prop
  | .lst xs, a => ∃ vs, H a = some (.lst vs) ∧ RepL G ρ N H xs vs
  | .rls xs, a => ∃ vs o, H a = some (.frz o (.lst vs)) ∧ RepL G ρ N H xs vs
  | .ins c fs, a => ∃ dx vs, H a = some (.ins (G.ca c) dx vs) ∧ RepF G ρ N H fs vs
  | .dct kvs, a => ∃ vs, H a = some (.dK vs) ∧ RepK G ρ N H kvs vs
structure Rel (G : GC) (ρ : Nat → Addr) (H : Hp) (M : Mem) : Prop where
  cell : ∀ n c, M[n]? = some c → RepC G ρ M.length H c (ρ n)
  inj : ∀ i j, i < M.length → j < M.length → ρ i = ρ j → i = j
end MI

set_option Elab.async false
set_option linter.all false
set_option maxRecDepth 100000
namespace MI
open PySem L2
section
variable {G : GC} {ρ ρ' ρ'' : Nat → Addr} {N N' N'' : Nat} {H H' H'' : Hp} {M M' : Mem}
theorem RepC.there {c : Cell} {a : Addr} (h : RepC G ρ N H c a) : ∃ u, H a = some u ∧ (∀ o xs, u ≠ .frz o (.tup xs)) ∧ (∀ fs, u ≠ .xd fs) := by
  cases c with
  | lst xs => obtain ⟨vs, e, _⟩ := h; exact ⟨_, e, (fun _ _ q => nomatch q), (fun _ q => nomatch q)⟩
  | rls xs => obtain ⟨vs, o, e, _⟩ := h; exact ⟨_, e, (fun _ _ q => nomatch q), (fun _ q => nomatch q)⟩
  | ins k fs => obtain ⟨dx, vs, e, _⟩ := h; exact ⟨_, e, (fun _ _ q => nomatch q), (fun _ q => nomatch q)⟩
  | dct kvs => obtain ⟨vs, e, _⟩ := h; exact ⟨_, e, (fun _ _ q => nomatch q), (fun _ q => nomatch q)⟩
theorem RepC.grow (g : Grow G ρ N H ρ' N' H') {c : Cell} {a b : Addr} (e : H' b = H a) (h : RepC G ρ N H c a) : RepC G ρ' N' H' c b := by
  cases c with
  | lst xs => obtain ⟨vs, q, r⟩ := h; exact ⟨vs, e.trans q, r.grow g⟩
  | rls xs => obtain ⟨vs, o, q, r⟩ := h; exact ⟨vs, o, e.trans q, r.grow g⟩
  | ins k fs => obtain ⟨dx, vs, q, r⟩ := h; exact ⟨dx, vs, e.trans q, r.grow g⟩
  | dct kvs => obtain ⟨vs, q, r⟩ := h; exact ⟨vs, e.trans q, r.grow g⟩
theorem lt_of_get {α : Type} {l : List α} {n : Nat} {c : α} (h : l[n]? = some c) : n < l.length := (List.getElem?_eq_some_iff.mp h).1
theorem Rel.some_ (r : Rel G ρ H M) {n : Nat} (h : n < M.length) : ∃ u, H (ρ n) = some u ∧ (∀ o xs, u ≠ .frz o (.tup xs)) ∧ (∀ fs, u ≠ .xd fs) :=
  (r.cell n M[n] (by simp [h])).there
/-- the cells' objects as they were -/
theorem Rel.keep (r : Rel G ρ H M) (g : Grow G ρ M.length H ρ M.length H') (k : ∀ n, n < M.length → H' (ρ n) = H (ρ n)) : Rel G ρ H' M :=
  ⟨fun n c e => (r.cell n c e).grow g (k n (lt_of_get e)), r.inj⟩
/-- a fresh object that is no cell -/
theorem grow_fresh {p : Addr} {o : HO} (hp : H p = none) : Grow G ρ N H ρ N (upd H p o) :=
  ⟨Nat.le_refl _, fun _ _ => rfl, fun b o xs h => by rw [upd_ne (ne_of_none h hp)]; exact h, fun b fs h => by rw [upd_ne (ne_of_none h hp)]; exact h⟩
theorem Rel.fresh (r : Rel G ρ H M) {p : Addr} {o : HO} (hp : H p = none) : Rel G ρ (upd H p o) M :=
  r.keep (grow_fresh hp) fun n h => by
    obtain ⟨u, e, _⟩ := r.some_ h
    rw [upd_ne (ne_of_none e hp)]
/-- a new cell -/
def ext (ρ : Nat → Addr) (N : Nat) (p : Addr) : Nat → Addr := fun n => if n = N then p else ρ n
theorem ext_new {p : Addr} : ext ρ N p N = p := if_pos rfl
theorem ext_old {p : Addr} {n : Nat} (h : n < N) : ext ρ N p n = ρ n := if_neg (Nat.ne_of_lt h)
theorem grow_new {p : Addr} {o : HO} (hp : H p = none) : Grow G ρ N H (ext ρ N p) (N + 1) (upd H p o) :=
  ⟨Nat.le_succ _, fun n h => ext_old h, fun b o xs h => by rw [upd_ne (ne_of_none h hp)]; exact h, fun b fs h => by rw [upd_ne (ne_of_none h hp)]; exact h⟩
theorem Rel.new (r : Rel G ρ H M) {p : Addr} {o : HO} (hp : H p = none) {c : Cell} (hc : RepC G (ext ρ M.length p) (M.length + 1) (upd H p o) c p) :
    Rel G (ext ρ M.length p) (upd H p o) (M ++ [c]) := by
  refine ⟨fun n c' e => ?_, fun i j hi hj e => ?_⟩
  · have hl : (M ++ [c]).length = M.length + 1 := by simp
    rw [hl]
    have hn := lt_of_get e
    rw [hl] at hn
    by_cases h : n = M.length
    · subst h
      rw [List.getElem?_append_right (Nat.le_refl _)] at e
      simp at e
      subst e
      rw [ext_new]
      exact hc
    · have hlt : n < M.length := by omega
      rw [List.getElem?_append_left hlt] at e
      have q := r.cell n c' e
      refine q.grow (grow_new hp) ?_
      rw [ext_old hlt]
      obtain ⟨u, e', _⟩ := q.there
      rw [upd_ne (ne_of_none e' hp)]
  · have hl : (M ++ [c]).length = M.length + 1 := by simp
    rw [hl] at hi hj
    have one : ∀ {i}, i < M.length → ρ i ≠ p := fun {i} h => by
      obtain ⟨u, e', _⟩ := r.some_ h
      exact ne_of_none e' hp
    by_cases h1 : i = M.length
    · by_cases h2 : j = M.length
      · omega
      · have h2' : j < M.length := by omega
        rw [h1, ext_new, ext_old h2'] at e
        exact absurd e.symm (one h2')
    · have h1' : i < M.length := by omega
      by_cases h2 : j = M.length
      · rw [h2, ext_new, ext_old h1'] at e
        exact absurd e (one h1')
      · have h2' : j < M.length := by omega
        rw [ext_old h1', ext_old h2'] at e
        exact r.inj i j h1' h2' e
/-- a cell is written -/
theorem Rel.grow_write (r : Rel G ρ H M) {n : Nat} {o : HO} (h : n < M.length) : Grow G ρ M.length H ρ M.length (upd H (ρ n) o) := by
  obtain ⟨u, e, h1, h2⟩ := r.some_ h
  refine ⟨Nat.le_refl _, fun _ _ => rfl, fun b o' xs q => ?_, fun b fs q => ?_⟩
  · rw [upd_ne]; exact q
    rintro rfl
    rw [e] at q
    exact h1 _ _ (Option.some.inj q)
  · rw [upd_ne]; exact q
    rintro rfl
    rw [e] at q
    exact h2 _ (Option.some.inj q)
theorem Rel.write (r : Rel G ρ H M) {n : Nat} {o : HO} (h : n < M.length) {c : Cell} (hc : RepC G ρ M.length (upd H (ρ n) o) c (ρ n)) :
    Rel G ρ (upd H (ρ n) o) (M.set n c) := by
  have hl : (M.set n c).length = M.length := by simp
  refine ⟨fun m c' e => ?_, fun i j hi hj e => r.inj i j (hl ▸ hi) (hl ▸ hj) e⟩
  rw [hl]
  by_cases hm : m = n
  · subst hm
    rw [List.getElem?_set_self h] at e
    cases e
    exact hc
  · rw [List.getElem?_set_ne (Ne.symm hm)] at e
    have hml := lt_of_get e
    refine (r.cell m c' e).grow (r.grow_write h) ?_
    rw [upd_ne]
    exact fun z => hm (r.inj m n hml h z)
end

/-! contexts -/
/-- an exception's own dict, if it has one -/
def ExD (d : Option Addr) (fv : List (Str × V)) (H : Hp) : Prop := match d with
  | some d => H d = some (.xd fv)
  | none => fv = []
theorem ExD.grow {G : GC} {ρ ρ' : Nat → Addr} {N N' : Nat} {H H' : Hp} (g : Grow G ρ N H ρ' N' H') {d : Option Addr} {fv : List (Str × V)} (h : ExD d fv H) : ExD d fv H' := by
  cases d with
  | none => exact h
  | some d => exact g.xds _ _ h
def ExcIn (X : Cx) (G : GC) (a : Addr) (c : Str) (d : Option Addr) : Prop := ∃ oe, (a, oe) ∈ X.pn ∧ Zc (.ref (G.ca c)) d oe ∧ ∃ vs, oe.data = .fields vs
def RepS (X : Cx) (G : GC) (ρ : Nat → Addr) (N : Nat) (H : Hp) : D → V → Prop
  | .exc c fs _, v => ∃ a d fv, v = .ref a ∧ ExcIn X G a c d ∧ ExD d fv H ∧ RepF G ρ N H fs fv
  | d, v => RepV G ρ N H d v
structure RepE (X : Cx) (G : GC) (ρ : Nat → Addr) (N : Nat) (H : Hp) (σ : St) (ev : Env) : Prop where
  len : σ.length = ev.length
  at_ : ∀ (i : Nat) (d : D), ev[i]? = some (some d) → ∃ v, σ[i]? = some (some v) ∧ RepS X G ρ N H d v
section
variable {X : Cx} {G : GC} {ρ ρ' ρ'' : Nat → Addr} {N N' N'' : Nat} {H H' H'' : Hp} {M M' : Mem} {σ : St} {ev : Env}
theorem RepS.of {d : D} {v : V} (h : RepV G ρ N H d v) : RepS X G ρ N H d v := by
  cases d with
  | exc _ _ _ => simp only [RepV] at h
  | _ => exact h
theorem RepS.grow (g : Grow G ρ N H ρ' N' H') {d : D} {v : V} (h : RepS X G ρ N H d v) : RepS X G ρ' N' H' d v := by
  cases d with
  | exc c fs i => obtain ⟨a, d, fv, e, x, q, r⟩ := h; exact ⟨a, d, fv, e, x, q.grow g, r.grow g⟩
  | non => exact RepV.grow g (d := .non) h
  | bl b => exact RepV.grow g (d := .bl b) h
  | int b => exact RepV.grow g (d := .int b) h
  | str b => exact RepV.grow g (d := .str b) h
  | tup b => exact RepV.grow g (d := .tup b) h
  | ref b => exact RepV.grow g (d := .ref b) h
theorem RepE.grow (g : Grow G ρ N H ρ' N' H') (h : RepE X G ρ N H σ ev) : RepE X G ρ' N' H' σ ev :=
  ⟨h.len, fun i d e => let ⟨v, q, r⟩ := h.at_ i d e; ⟨v, q, r.grow g⟩⟩
theorem RepE.set (h : RepE X G ρ N H σ ev) {d : D} {v : V} (r : RepV G ρ N H d v) (i : Nat) : RepE X G ρ N H (σ.set i (some v)) (ev.set i (some d)) := by
  refine ⟨by simp [h.len], fun j d' e => ?_⟩
  by_cases hj : j = i
  · subst hj
    have hl : j < ev.length := by
      have := lt_of_get e
      simpa using this
    rw [List.getElem?_set_self hl] at e
    cases e
    exact ⟨v, by rw [List.getElem?_set_self (by rw [h.len]; exact hl)], .of r⟩
  · rw [List.getElem?_set_ne (Ne.symm hj)] at e
    obtain ⟨w, q, r'⟩ := h.at_ j d' e
    exact ⟨w, by rw [List.getElem?_set_ne (Ne.symm hj)]; exact q, r'⟩
end

/-! what a result asks of what follows -/
abbrev Good (α : Type) := (Nat → Addr) → Mem → Hp → α → Prop
def PostR {α : Type} (G : GC) (W : WX) (σ : St) (ρ : Nat → Addr) (N : Nat) (H : Hp) (P : Good α) : R α → Prop
  | .ok a M' => ∀ ρ' H', Grow G ρ N H ρ' M'.length H' → Rel G ρ' H' M' → P ρ' M' H' a
  | .ex c fs M' => ∀ ρ' d fv H', Grow G ρ N H ρ' M'.length H' → Rel G ρ' H' M' → ExD d fv H' → RepF G ρ' M'.length H' fs fv → W (.ref (G.ca c)) d σ H'
  | .st => False
abbrev GV (G : GC) (Q : VK) : Good D := fun ρ M H d => ∀ v, RepV G ρ M.length H d v → Q v H
abbrev GL (G : GC) (Q : List V → Hp → Prop) : Good (List D) := fun ρ M H d => ∀ v, RepL G ρ M.length H d v → Q v H
abbrev GB (Q : Bool → Hp → Prop) : Good Bool := fun _ _ H b => Q b H
def PostS (X : Cx) (G : GC) (W : WX) (ρ : Nat → Addr) (N : Nat) (H : Hp) (T : Ends) : O → Prop
  | .nx ev M' => ∀ ρ' σ' H', Grow G ρ N H ρ' M'.length H' → Rel G ρ' H' M' → RepE X G ρ' M'.length H' σ' ev → T.nx σ' H'
  | .bk ev M' => ∀ ρ' σ' H', Grow G ρ N H ρ' M'.length H' → Rel G ρ' H' M' → RepE X G ρ' M'.length H' σ' ev → T.bk σ' H'
  | .ct ev M' => ∀ ρ' σ' H', Grow G ρ N H ρ' M'.length H' → Rel G ρ' H' M' → RepE X G ρ' M'.length H' σ' ev → T.ct σ' H'
  | .rt d M' => ∀ ρ' v H', Grow G ρ N H ρ' M'.length H' → Rel G ρ' H' M' → RepV G ρ' M'.length H' d v → T.rt v H'
  | .ex c fs ev M' => ∀ ρ' d fv σ' H', Grow G ρ N H ρ' M'.length H' → Rel G ρ' H' M' → RepE X G ρ' M'.length H' σ' ev → ExD d fv H' → RepF G ρ' M'.length H' fs fv → W (.ref (G.ca c)) d σ' H'
  | .st => False
abbrev Den := Env → Mem → R D
abbrev DenL := Env → Mem → R (List D)
abbrev DenT := Env → Mem → R Bool
abbrev DenS := Env → Mem → O
def tI (X : Cx) (G : GC) (W : WX) (f : Den) : TE := fun σ H Q => ∃ ρ M ev, Rel G ρ H M ∧ RepE X G ρ M.length H σ ev ∧ PostR G W σ ρ M.length H (GV G Q) (f ev M)
def tL (X : Cx) (G : GC) (W : WX) (f : DenL) : TA := fun σ H Q => ∃ ρ M ev, Rel G ρ H M ∧ RepE X G ρ M.length H σ ev ∧ PostR G W σ ρ M.length H (GL G Q) (f ev M)
def tT (X : Cx) (G : GC) (W : WX) (f : DenT) : TT := fun σ H Q => ∃ ρ M ev, Rel G ρ H M ∧ RepE X G ρ M.length H σ ev ∧ PostR G W σ ρ M.length H (GB Q) (f ev M)
def tS (X : Cx) (G : GC) (W : WX) (f : DenS) : TS := fun T σ H => ∃ ρ M ev, Rel G ρ H M ∧ RepE X G ρ M.length H σ ev ∧ PostS X G W ρ M.length H T (f ev M)
section
variable {X : Cx} {G : GC} {W : WX} {σ : St} {ρ ρ' : Nat → Addr} {N N' : Nat} {H H' : Hp} {α β : Type}
theorem PostR.trans {P : Good α} {r : R α} (p : PostR G W σ ρ N H P r) (g : Grow G ρ N H ρ' N' H') : PostR G W σ ρ' N' H' P r := by
  cases r with
  | ok a M' => exact fun ρ2 H2 g2 r2 => p ρ2 H2 (g.trans g2) r2
  | ex c fs M' => exact fun ρ2 d fv H2 g2 r2 => p ρ2 d fv H2 (g.trans g2) r2
  | st => exact p
theorem PostR.step {P : Good β} {P' : Good α} {r : R α} {k : α → Mem → R β} (p : PostR G W σ ρ N H P (r.bind k))
    (h : ∀ a M' ρ' H', r = .ok a M' → Grow G ρ N H ρ' M'.length H' → Rel G ρ' H' M' → PostR G W σ ρ' M'.length H' P (k a M') → P' ρ' M' H' a) : PostR G W σ ρ N H P' r := by
  cases r with
  | ok a M' => exact fun ρ2 H2 g2 r2 => h a M' ρ2 H2 rfl g2 r2 (PostR.trans p g2)
  | ex c fs M' => exact p
  | st => exact p
theorem PostS.trans {T : Ends} {r : O} (p : PostS X G W ρ N H T r) (g : Grow G ρ N H ρ' N' H') : PostS X G W ρ' N' H' T r := by
  cases r with
  | nx ev M' => exact fun ρ2 σ2 H2 g2 => p ρ2 σ2 H2 (g.trans g2)
  | bk ev M' => exact fun ρ2 σ2 H2 g2 => p ρ2 σ2 H2 (g.trans g2)
  | ct ev M' => exact fun ρ2 σ2 H2 g2 => p ρ2 σ2 H2 (g.trans g2)
  | rt d M' => exact fun ρ2 v H2 g2 => p ρ2 v H2 (g.trans g2)
  | ex c fs ev M' => exact fun ρ2 d fv σ2 H2 g2 => p ρ2 d fv σ2 H2 (g.trans g2)
  | st => exact p
end
/-- an expression within a statement -/
def R.bindO {α : Type} (r : R α) (ev : Env) (k : α → Mem → O) : O :=
  match r with
  | .ok a M => k a M
  | .ex c fs M => .ex c fs ev M
  | .st => .st
def O.bind (r : O) (k : Env → Mem → O) : O :=
  match r with
  | .nx ev M => k ev M
  | .rt d M => .rt d M
  | .bk ev M => .bk ev M
  | .ct ev M => .ct ev M
  | .ex c fs ev M => .ex c fs ev M
  | .st => .st
section
variable {X : Cx} {G : GC} {W : WX} {σ : St} {ρ ρ' : Nat → Addr} {N N' : Nat} {H H' : Hp} {α : Type} {ev : Env} {T : Ends}
theorem PostS.stepR {P' : Good α} {r : R α} {k : α → Mem → O} (e : RepE X G ρ N H σ ev) (p : PostS X G W ρ N H T (r.bindO ev k))
    (h : ∀ a M' ρ' H', r = .ok a M' → Grow G ρ N H ρ' M'.length H' → Rel G ρ' H' M' → PostS X G W ρ' M'.length H' T (k a M') → P' ρ' M' H' a) : PostR G W σ ρ N H P' r := by
  cases r with
  | ok a M' => exact fun ρ2 H2 g2 r2 => h a M' ρ2 H2 rfl g2 r2 (PostS.trans p g2)
  | ex c fs M' => exact fun ρ2 d fv H2 g2 r2 q f => p ρ2 d fv σ H2 g2 r2 (e.grow g2) q f
  | st => exact p
theorem PostS.stepO {T' : Ends} {r : O} {k : Env → Mem → O} (p : PostS X G W ρ N H T (r.bind k)) (hr : ∀ v H, T.rt v H → T'.rt v H) (hb : ∀ v H, T.bk v H → T'.bk v H) (hc : ∀ v H, T.ct v H → T'.ct v H)
    (h : ∀ ev M' ρ' σ' H', r = .nx ev M' → Grow G ρ N H ρ' M'.length H' → Rel G ρ' H' M' → RepE X G ρ' M'.length H' σ' ev → PostS X G W ρ' M'.length H' T (k ev M') → T'.nx σ' H') : PostS X G W ρ N H T' r := by
  cases r with
  | nx ev M' => exact fun ρ2 σ2 H2 g2 r2 e2 => h ev M' ρ2 σ2 H2 rfl g2 r2 e2 (PostS.trans p g2)
  | bk ev M' => exact fun ρ2 σ2 H2 g2 r2 e2 => hb _ _ (p ρ2 σ2 H2 g2 r2 e2)
  | ct ev M' => exact fun ρ2 σ2 H2 g2 r2 e2 => hc _ _ (p ρ2 σ2 H2 g2 r2 e2)
  | rt d M' => exact fun ρ2 v H2 g2 r2 e2 => hr _ _ (p ρ2 v H2 g2 r2 e2)
  | ex c fs ev M' => exact p
  | st => exact p
end
section
variable {X : Cx}
theorem PE.imp {e : Expr} {t t' : TE} (h : PE X e t) (w : ∀ σ H Q, t' σ H Q → t σ H Q) : PE X e t' := ⟨fun pins s σ H Q I q => h.run pins s σ H Q I (w σ H Q q)⟩
theorem PT.imp {e : Expr} {t t' : TT} (h : PT X e t) (w : ∀ σ H Q, t' σ H Q → t σ H Q) : PT X e t' := ⟨fun pins s σ H Q I q => h.run pins s σ H Q I (w σ H Q q)⟩
theorem PW.imp {e : Expr} {t t' : TT} (h : PW X e t) (w : ∀ σ H Q, t' σ H Q → t σ H Q) : PW X e t' := ⟨fun wh pins s σ H Q I q => h.run wh pins s σ H Q I (w σ H Q q)⟩
theorem PA.imp {e : List Expr} {t t' : TA} (h : PA X e t) (w : ∀ σ H Q, t' σ H Q → t σ H Q) : PA X e t' := ⟨fun pos pins s σ H Q I q => h.run pos pins s σ H Q I (w σ H Q q)⟩
theorem PS.imp {e : Stmt} {t t' : TS} (h : PS X e t) (w : ∀ T σ H, t' T σ H → t T σ H) : PS X e t' := ⟨fun pins s σ H T I q => h.run pins s σ H T I (w T σ H q)⟩
theorem PSs.imp {e : List Stmt} {t t' : TS} (h : PSs X e t) (w : ∀ T σ H, t' T σ H → t T σ H) : PSs X e t' := ⟨fun pins s σ H T I q => h.run pins s σ H T I (w T σ H q)⟩
end
end MI

set_option Elab.async false
set_option linter.all false
set_option maxRecDepth 100000
namespace MI
open PySem PySem.Spec PyProof.Rows L2
abbrev St := L2.St
/-! operations by deep values -/
abbrev Op1 := D → Mem → Option (D × Mem)
abbrev Op2 := D → D → Mem → Option (D × Mem)
abbrev OpN := List D → Mem → Option (D × Mem)
def R.of {α : Type} : Option (α × Mem) → R α
  | some (d, M) => .ok d M
  | none => .st
def PostO (G : GC) (ρ : Nat → Addr) (N : Nat) (H : Hp) (Q : VK) : Option (D × Mem) → Prop
  | some (d, M') => ∀ ρ' v H', Grow G ρ N H ρ' M'.length H' → Rel G ρ' H' M' → RepV G ρ' M'.length H' d v → Q v H'
  | none => False
def rd1 (G : GC) (f : Op1) : V → Hp → VK → Prop := fun x H Q => ∃ ρ M d, Rel G ρ H M ∧ RepV G ρ M.length H d x ∧ PostO G ρ M.length H Q (f d M)
def rd2 (G : GC) (f : Op2) : R2 := fun x y H Q => ∃ ρ M d e, Rel G ρ H M ∧ RepV G ρ M.length H d x ∧ RepV G ρ M.length H e y ∧ PostO G ρ M.length H Q (f d e M)
def rdn (G : GC) (f : OpN) : List V → Hp → VK → Prop := fun xs H Q => ∃ ρ M ds, Rel G ρ H M ∧ RepL G ρ M.length H ds xs ∧ PostO G ρ M.length H Q (f ds M)
def rdm (G : GC) (f : D → OpN) : V → List V → Hp → VK → Prop := fun x xs H Q => ∃ ρ M d ds, Rel G ρ H M ∧ RepV G ρ M.length H d x ∧ RepL G ρ M.length H ds xs ∧ PostO G ρ M.length H Q (f d ds M)
section
variable {X : Cx} {G : GC} {W : WX} {σ : St} {ρ ρ' : Nat → Addr} {N N' : Nat} {H H' : Hp} {M : Mem}
theorem PostO.of {Q : VK} {o : Option (D × Mem)} (p : PostR G W σ ρ N H (GV G Q) (R.of o)) : PostO G ρ N H Q o := by
  cases o with
  | none => exact p
  | some x => exact fun ρ' v H' g r q => p ρ' H' g r v q
theorem PostO.same {Q : VK} {d : D} {v : V} (p : PostO G ρ M.length H Q (some (d, M))) (r : Rel G ρ H M) (q : RepV G ρ M.length H d v) : Q v H := p ρ v H .refl r q
end
/-! combinators -/
def D.isExc : D → Bool
  | .exc _ _ _ => true
  | _ => false
def dVar (i : Nat) : Den := fun ev M => match ev[i]? with
  | some (some d) => if d.isExc then .st else .ok d M
  | _ => .st
def dC (d : D) : Den := fun _ M => .ok d M
def dOp1 (f : Op1) (a : Den) : Den := fun ev M => (a ev M).bind fun x M1 => R.of (f x M1)
def dOp2 (f : Op2) (a b : Den) : Den := fun ev M => (a ev M).bind fun x M1 => (b ev M1).bind fun y M2 => R.of (f x y M2)
def dNil : DenL := fun _ M => .ok [] M
def dCons (a : Den) (r : DenL) : DenL := fun ev M => (a ev M).bind fun x M1 => (r ev M1).bind fun xs M2 => .ok (x :: xs) M2
def dOpN (f : OpN) (a : DenL) : Den := fun ev M => (a ev M).bind fun xs M1 => R.of (f xs M1)
def dOpM (f : D → OpN) (o : Den) (a : DenL) : Den := fun ev M => (o ev M).bind fun x M1 => (a ev M1).bind fun xs M2 => R.of (f x xs M2)
section
variable {X : Cx} {G : GC} {W : WX} {a b e : Expr} {es : List Expr} {fa fb fe : Den} {fl : DenL} {pos p : Pos} {x : Str}
theorem i_var {i : Nat} (hN : X.N[i]? = some x) (hv : Vis X.env.scope x) (h1 : (x == ("__debug__" : Str)) = false) (h2 : (x == ("__classdict__" : Str)) = false) : PE X (.Name x pos) (tI X G W (dVar i)) := by
  refine PE.imp (pe_var hN hv h1 h2) fun σ H Q ⟨ρ, M, ev, r, er, p⟩ => ?_
  unfold dVar at p
  cases he : ev[i]? with
  | none => rw [he] at p; exact p.elim
  | some o =>
    cases o with
    | none => rw [he] at p; exact p.elim
    | some d =>
      rw [he] at p
      obtain ⟨v, q, rv⟩ := er.at_ i d he
      cases hd : d.isExc with
      | true => simp only [hd, if_true] at p; exact p.elim
      | false =>
        simp only [hd] at p
        have rv' : RepV G ρ M.length H d v := by
          cases d with
          | exc _ _ _ => simp [D.isExc] at hd
          | _ => exact rv
        exact ⟨v, q, p ρ H .refl r v rv'⟩
theorem tI_c {d : D} {v : V} {σ : St} {H : Hp} {Q : VK} (h : tI X G W (dC d) σ H Q) (hv : ∀ ρ N, RepV G ρ N H d v) : Q v H := by
  obtain ⟨ρ, M, ev, r, er, p⟩ := h
  exact p ρ H .refl r v (hv _ _)
theorem i_int {i : Int} {j : Nat} : PE X (.Constant (.int i) j pos) (tI X G W (dC (.int i))) := PE.imp pe_int fun _ _ _ h => tI_c h fun _ _ => by simp only [RepV]
theorem i_bl {i : Bool} {j : Nat} : PE X (.Constant (.bool i) j pos) (tI X G W (dC (.bl i))) := PE.imp pe_bl fun _ _ _ h => tI_c h fun _ _ => by simp only [RepV]
theorem i_non {j : Nat} : PE X (.Constant .none j pos) (tI X G W (dC .non)) := PE.imp pe_non fun _ _ _ h => tI_c h fun _ _ => by simp only [RepV]
theorem i_str {i : Str} {j : Nat} : PE X (.Constant (.str i) j pos) (tI X G W (dC (.str i))) := PE.imp pe_str fun _ _ _ h => tI_c h fun _ _ => by simp only [RepV]
theorem tI_op1 {f : Op1} {σ : St} {H : Hp} {Q : VK} (h : tI X G W (dOp1 f fa) σ H Q) : tI X G W fa σ H fun x H1 => rd1 G f x H1 Q := by
  obtain ⟨ρ, M, ev, r, er, p⟩ := h
  exact ⟨ρ, M, ev, r, er, p.step fun d M1 ρ1 H1 _ g1 r1 p1 v rv => ⟨ρ1, M1, d, r1, rv, .of p1⟩⟩
theorem tI_op2 {f : Op2} {σ : St} {H : Hp} {Q : VK} (h : tI X G W (dOp2 f fa fb) σ H Q) : tI X G W fa σ H fun x H1 => tI X G W fb σ H1 fun y H2 => rd2 G f x y H2 Q := by
  obtain ⟨ρ, M, ev, r, er, p⟩ := h
  exact ⟨ρ, M, ev, r, er, p.step fun d M1 ρ1 H1 _ g1 r1 p1 v rv => ⟨ρ1, M1, ev, r1, er.grow g1, p1.step fun e M2 ρ2 H2 _ g2 r2 p2 w rw' => ⟨ρ2, M2, d, e, r2, rv.grow g2, rw', .of p2⟩⟩⟩
theorem tI_opN {f : OpN} {σ : St} {H : Hp} {Q : VK} (h : tI X G W (dOpN f fl) σ H Q) : tL X G W fl σ H fun x H1 => rdn G f x H1 Q := by
  obtain ⟨ρ, M, ev, r, er, p⟩ := h
  exact ⟨ρ, M, ev, r, er, p.step fun d M1 ρ1 H1 _ g1 r1 p1 v rv => ⟨ρ1, M1, d, r1, rv, .of p1⟩⟩
theorem tI_opM {f : D → OpN} {σ : St} {H : Hp} {Q : VK} (h : tI X G W (dOpM f fa fl) σ H Q) : tI X G W fa σ H fun x H1 => tL X G W fl σ H1 fun xs H2 => rdm G f x xs H2 Q := by
  obtain ⟨ρ, M, ev, r, er, p⟩ := h
  exact ⟨ρ, M, ev, r, er, p.step fun d M1 ρ1 H1 _ g1 r1 p1 v rv => ⟨ρ1, M1, ev, r1, er.grow g1, p1.step fun e M2 ρ2 H2 _ g2 r2 p2 w rw' => ⟨ρ2, M2, d, e, r2, rv.grow g2, rw', .of p2⟩⟩⟩
theorem i_op {op : Operator} {f : Op2} (ho : OpR X (binaryOp op) (rd2 G f)) (ha : PE X a (tI X G W fa)) (hb : PE X b (tI X G W fb)) : PE X (.BinOp a op b pos) (tI X G W (dOp2 f fa fb)) :=
  PE.imp (pe_op ho ha hb) fun _ _ _ h => tI_op2 h
theorem i_un {op : UnaryOp} {f : Op1} (ho : UnR X (unaryOp op) (rd1 G f)) (ha : PE X a (tI X G W fa)) : PE X (.UnaryOp op a pos) (tI X G W (dOp1 f fa)) :=
  PE.imp (pe_un ho ha) fun _ _ _ h => tI_op1 h
theorem i_nil : PA X [] (tL X G W dNil) := PA.imp pa_nil fun σ H Q ⟨ρ, M, ev, r, er, p⟩ => p ρ H .refl r [] .nil
theorem i_cons (ha : PE X e (tI X G W fe)) (hr : PA X es (tL X G W fl)) (hs : starEach (e :: es) X.env = (false, eval e X.env) :: starEach es X.env) : PA X (e :: es) (tL X G W (dCons fe fl)) := by
  refine PA.imp (pa_cons ha hr hs) fun σ H Q ⟨ρ, M, ev, r, er, p⟩ => ?_
  exact ⟨ρ, M, ev, r, er, p.step fun d M1 ρ1 H1 _ g1 r1 p1 v rv => ⟨ρ1, M1, ev, r1, er.grow g1, p1.step fun ds M2 ρ2 H2 _ g2 r2 p2 vs rvs => p2 ρ2 H2 .refl r2 _ (.cons (rv.grow g2) rvs)⟩⟩
end

/-! arithmetic -/
theorem sizeN : sizeLine = 16777216 := sizeLine_eq
def lim : Nat := 16777216
theorem lim_eq : lim = sizeLine := sizeLine_eq.symm
def opAdd : Op2 := fun x y M => match x, y with
  | .int i, .int j => some (.int (i + j), M)
  | .str a, .str b => if a.length + b.length ≤ lim then some (.str (a ++ b), M) else none
  | .tup a, .tup b => if a.length + b.length ≤ lim then some (.tup (a ++ b), M) else none
  | .ref a, .ref b => match M[a]?, M[b]? with
    | some (.lst xs), some (.lst ys) => if xs.length + ys.length ≤ lim then some (.ref M.length, M ++ [.lst (xs ++ ys)]) else none
    | _, _ => none
  | _, _ => none
def opI (C : Int → Int → Bool) (g : Int → Int → Int) : Op2 := fun x y M => match x, y with
  | .int i, .int j => if C i j then some (.int (g i j), M) else none
  | _, _ => none
def opSub : Op2 := opI (fun _ _ => true) fun i j => i - j
/-- the bits together below a million -/
def bitsOk (i j : Int) : Bool := decide (i.natAbs.log2 + j.natAbs.log2 ≤ 400000)
section
variable {X : Cx} {G : GC}
theorem op_dI {op : Operator} {C : Int → Int → Bool} {C' : Int → Int → Prop} {g : Int → Int → Int} (h : OpR X (binaryOp op) (rI C' fun i j => .int (g i j))) (hc : ∀ i j, C i j = true → C' i j) : OpR X (binaryOp op) (rd2 G (opI C g)) := by
  intro pins s σ H x y v u Q I rx ry ⟨ρ, M, d, e, r, hd, he, p⟩
  cases d with
  | int i =>
    cases e with
    | int j =>
      simp only [RepV] at hd he
      subst hd he
      simp only [opI] at p
      split at p
      · rename_i hcc
        exact h pins s σ H _ _ v u Q I rx ry ⟨i, j, rfl, rfl, hc i j hcc, p.same r (by simp only [RepV])⟩
      · exact p.elim
    | _ => exact p.elim
  | _ => exact p.elim
/-- a new tuple, its object known -/
theorem Inv.tnew {pins : List (Addr × Obj)} {σ : St} {H : Hp} {s : Shared} {t' : Nat} {xs : List V} {its : List Value} (I : Inv X pins σ H s) (hv : Vals xs its) (hz : xs.length ≤ sizeLine) :
    Inv X pins σ (upd H s.heap.objs.size (.frz { cls := .type "tuple", data := .seq its.toArray } (.tup xs))) { s with heap := s.heap.push { cls := .type "tuple", data := .seq its.toArray }, toks := t' } :=
  I.laid (fun _ _ q => Heap.get?_push_of_some _ q) (Nat.le_refl _) ⟨Heap.get?_push_size _ rfl, hz, its, hv, IsTup.new _ _⟩
theorem rep_new {ρ : Nat → Addr} {M : Mem} {H : Hp} {p : Addr} {xs : List D} {vs : List V} {o : Obj} (hp : H p = none) (ho : o.dict = none) (r : RepL G ρ M.length H xs vs) : RepV G ρ M.length (upd H p (.frz o (.tup vs))) (.tup xs) (.ref p) := by
  simp only [RepV]
  exact ⟨p, vs, rfl, .inl ⟨o, ho, upd_same⟩, r.grow (grow_fresh hp)⟩
theorem PostO.lst {ρ : Nat → Addr} {M : Mem} {H : Hp} {Q : VK} {xs : List D} {vs : List V} (p : PostO G ρ M.length H Q (some (.ref M.length, M ++ [.lst xs]))) (r : Rel G ρ H M) (rl : RepL G ρ M.length H xs vs) :
    ∀ a, H a = none → Q (.ref a) (upd H a (.lst vs)) := fun a ha => by
  have hl : (M ++ [Cell.lst xs]).length = M.length + 1 := by simp
  refine p (ext ρ M.length a) (.ref a) _ (hl ▸ grow_new ha) (r.new ha ⟨vs, upd_same, rl.grow (grow_new ha)⟩) ?_
  simp only [RepV, hl]
  exact ⟨Nat.lt_succ_self _, by rw [ext_new]⟩
theorem PostO.tup {ρ : Nat → Addr} {M : Mem} {H : Hp} {Q : VK} {xs : List D} {vs : List V} (p : PostO G ρ M.length H Q (some (.tup xs, M))) (r : Rel G ρ H M) (rl : RepL G ρ M.length H xs vs) :
    ∀ a o, H a = none → o.dict = none → Q (.ref a) (upd H a (.frz o (.tup vs))) := fun a o ha ho => p ρ (.ref a) _ (grow_fresh ha) (r.fresh ha) (rep_new ha ho rl)
theorem PostO.put {ρ : Nat → Addr} {M : Mem} {H : Hp} {Q : VK} {n : Nat} {c : Cell} {o : HO} {d : D} {v : V} (p : PostO G ρ M.length H Q (some (d, M.set n c))) (r : Rel G ρ H M) (h : n < M.length) (hc : RepC G ρ M.length (upd H (ρ n) o) c (ρ n))
    (hv : RepV G ρ M.length (upd H (ρ n) o) d v) : Q v (upd H (ρ n) o) := by
  have hl : (M.set n c).length = M.length := by simp
  refine p ρ v _ ?_ (r.write h hc) ?_
  · rw [hl]; exact r.grow_write h
  · rw [hl]; exact hv
theorem rel_lst {ρ : Nat → Addr} {M : Mem} {H : Hp} {n : Nat} {xs : List D} (r : Rel G ρ H M) (h : M[n]? = some (.lst xs)) : ∃ vs, H (ρ n) = some (.lst vs) ∧ RepL G ρ M.length H xs vs := r.cell n _ h
/-- a list that is read -/
def getL (M : Mem) (n : Nat) : Option (List D) := match M[n]? with
  | some (.lst xs) => some xs
  | some (.rls xs) => some xs
  | _ => none
theorem rel_getL {ρ : Nat → Addr} {M : Mem} {H : Hp} {n : Nat} {xs : List D} (r : Rel G ρ H M) (h : MI.getL M n = some xs) : ∃ vs, SqL G.K H (ρ n) vs ∧ RepL G ρ M.length H xs vs := by
  unfold MI.getL at h
  cases e : M[n]? with
  | none => rw [e] at h; cases h
  | some c =>
    rw [e] at h
    cases c with
    | lst ys =>
      cases h
      obtain ⟨vs, q, rl⟩ := r.cell n _ e
      exact ⟨vs, .inl (.inl q), rl⟩
    | rls ys =>
      cases h
      obtain ⟨vs, o, q, rl⟩ := r.cell n _ e
      exact ⟨vs, .inl (.inr ⟨o, q⟩), rl⟩
    | _ => cases h
theorem RepL.nil_iff {ρ : Nat → Addr} {N : Nat} {H : Hp} {xs : List D} {vs : List V} (r : RepL G ρ N H xs vs) : xs = [] ↔ vs = [] := by
  have h := r.length
  constructor
  · intro e; rw [e] at h; exact List.length_eq_zero_iff.mp h
  · intro e; rw [e] at h; exact List.length_eq_zero_iff.mp h.symm
theorem op_addD (hK : G.K = X.K) : OpR X (binaryOp .Add) (rd2 G opAdd) := by
  intro pins s σ H x y v u Q I rx ry ⟨ρ, M, d, e, r, hd, he, p⟩
  unfold opAdd at p
  split at p
  · rename_i i j
    simp only [RepV] at hd he
    subst hd he
    exact op_add pins s σ H _ _ v u Q I rx ry ⟨i, j, rfl, rfl, p.same r (by simp only [RepV])⟩
  · rename_i a b
    simp only [RepV] at hd he
    subst hd he
    split at p
    · rename_i hz
      exact op_add_str pins s σ H _ _ v u Q I rx ry ⟨a, b, rfl, rfl, lim_eq ▸ hz, p.same r (by simp only [RepV])⟩
    · exact p.elim
  · rename_i a b
    simp only [RepV] at hd he
    obtain ⟨a', vs, rfl, ha, ra⟩ := hd
    obtain ⟨b', ws, rfl, hb, rb⟩ := he
    split at p
    · rename_i hz
      rw [lim_eq] at hz
      cases rx
      cases ry
      rw [hK] at ha hb
      obtain ⟨its, r1, p1, z1⟩ := I.tuple ha.sq
      obtain ⟨its2, r2, p2, z2⟩ := I.tuple hb.sq
      have l1 := ra.length
      have l2 := rb.length
      have hz' : vs.length + ws.length ≤ sizeLine := by omega
      by_cases hv : vs = []
      · have ea := ra.nil_iff.mpr hv
        subst hv ea
        cases r1
        refine cat_tup0 p1 p2 ⟨.ref b', H, I, rfl, p.same r ?_⟩
        simp only [RepV, List.nil_append]
        exact ⟨b', ws, rfl, hK ▸ hb, rb⟩
      · refine HT.cat_tup p1 p2 (fun z => hv (r1.nil_iff.mp z)) (fun z => ⟨.ref a', H, I, rfl, p.same r ?_⟩) (fun z => ?_) (by rw [← r1.length, ← r2.length]; exact hz')
        · have ew : ws = [] := r2.nil_iff.mp z
          have eb := rb.nil_iff.mpr ew
          subst eb
          simp only [RepV, List.append_nil]
          exact ⟨a', vs, rfl, hK ▸ ha, ra⟩
        · exact ⟨.ref s.heap.objs.size, _, Inv.tnew (t' := s.toks) I (r1.append r2) (by rw [List.length_append]; exact hz'), rfl, p.tup r (ra.append rb) _ _ I.fresh rfl⟩
    · exact p.elim
  · rename_i a b
    simp only [RepV] at hd he
    obtain ⟨la, rfl⟩ := hd
    obtain ⟨lb, rfl⟩ := he
    split at p
    · rename_i xs ys e1 e2
      obtain ⟨vs, h1, r1⟩ := rel_lst r e1
      obtain ⟨ws, h2, r2⟩ := rel_lst r e2
      split at p
      · rename_i hz
        exact op_cat pins s σ H _ _ v u Q I rx ry ⟨ρ a, ρ b, vs, ws, rfl, rfl, h1, h2, by rw [r1.length, r2.length, ← lim_eq]; exact hz, p.lst r (r1.append r2)⟩
      · exact p.elim
    · exact p.elim
  · exact p.elim
end
end MI

set_option Elab.async false
set_option linter.all false
set_option maxRecDepth 100000
namespace MI
open PySem PySem.Spec PyProof.Rows L2
/-! data as a whole -/
def optMap {α β : Type} (f : α → Option β) : List α → Option (List β)
  | [] => some []
  | a :: r => match f a, optMap f r with
    | some b, some t => some (b :: t)
    | _, _ => none
def toP (M : Mem) : Nat → D → Option PyData
  | _, .non => some .none
  | _, .bl b => some (.bool b)
  | _, .int i => some (.int i)
  | _, .str s => some (.str s)
  | n + 1, .tup xs => (optMap (toP M n) xs).map .tuple
  | n + 1, .ref k => match M[k]? with
    | some (.lst xs) => (optMap (toP M n) xs).map .list
    | some (.rls xs) => (optMap (toP M n) xs).map .list
    | _ => none
  | _, _ => none
section
variable {G : GC} {ρ : Nat → Addr} {H : Hp} {M : Mem}
theorem toPL_ok {n : Nat} (ih : ∀ {d : D} {v : V} {p : PyData}, toP M n d = some p → RepV G ρ M.length H d v → Dp G.K H v p) :
    ∀ {xs : List D} {vs : List V} {ps : List PyData}, optMap (toP M n) xs = some ps → RepL G ρ M.length H xs vs → DpAll G.K H vs ps
  | [], vs, ps, e, r => by
    simp only [RepL] at r
    simp only [optMap, Option.some.injEq] at e
    subst r e
    exact .nil
  | x :: xs, vs, ps, e, r => by
    simp only [RepL] at r
    obtain ⟨v, t, rfl, r1, r2⟩ := r
    simp only [optMap] at e
    cases e1 : toP M n x with
    | none => rw [e1] at e; simp at e
    | some b =>
      cases e2 : optMap (toP M n) xs with
      | none => rw [e1, e2] at e; simp at e
      | some t' =>
        rw [e1, e2] at e
        simp only [Option.some.injEq] at e
        subst e
        exact .cons (ih e1 r1) (toPL_ok ih e2 r2)
theorem toP_ok (r : Rel G ρ H M) : ∀ {n : Nat} {d : D} {v : V} {p : PyData}, toP M n d = some p → RepV G ρ M.length H d v → Dp G.K H v p
  | n, .non, v, p, e, h => by
    have e : some PyData.none = some p := by cases n <;> exact e
    cases e
    simp only [RepV] at h
    subst h
    exact .non
  | n, .bl b, v, p, e, h => by
    have e : some (PyData.bool b) = some p := by cases n <;> exact e
    cases e
    simp only [RepV] at h
    subst h
    exact .bl b
  | n, .int b, v, p, e, h => by
    have e : some (PyData.int b) = some p := by cases n <;> exact e
    cases e
    simp only [RepV] at h
    subst h
    exact .int b
  | n, .str b, v, p, e, h => by
    have e : some (PyData.str b) = some p := by cases n <;> exact e
    cases e
    simp only [RepV] at h
    subst h
    exact .str b
  | 0, .tup xs, v, p, e, h => by simp [toP] at e
  | n + 1, .tup xs, v, p, e, h => by
    simp only [toP] at e
    cases e2 : optMap (toP M n) xs with
    | none => rw [e2] at e; simp at e
    | some t =>
      rw [e2] at e
      simp only [Option.map_some, Option.some.injEq] at e
      subst e
      simp only [RepV] at h
      obtain ⟨a, vs, rfl, ha, rl⟩ := h
      exact .tup ha.sq (toPL_ok (fun e h => toP_ok r e h) e2 rl)
  | 0, .ref k, v, p, e, h => by simp [toP] at e
  | n + 1, .ref k, v, p, e, h => by
    simp only [toP] at e
    simp only [RepV] at h
    obtain ⟨hk, rfl⟩ := h
    have go : ∀ xs, getL M k = some xs → (optMap (toP M n) xs).map .list = some p → Dp G.K H (.ref (ρ k)) p := fun xs hg e => by
      obtain ⟨vs, hq, rl⟩ := rel_getL r hg
      cases e2 : optMap (toP M n) xs with
      | none => rw [e2] at e; simp at e
      | some t =>
        rw [e2] at e
        simp only [Option.map_some, Option.some.injEq] at e
        subst e
        exact .lst hq (toPL_ok (fun e h => toP_ok r e h) e2 rl)
    cases hm : M[k]? with
    | none => rw [hm] at e; simp at e
    | some c =>
      rw [hm] at e
      cases c with
      | lst xs => exact go xs (by unfold getL; rw [hm]) e
      | rls xs => exact go xs (by unfold getL; rw [hm]) e
      | _ => simp at e
  | n, .exc _ _ _, v, p, e, h => by simp only [RepV] at h
end
def toPs (M : Mem) (d : D) : Option PyData := match toP M 66 d with
  | some p => if SeqAt.shaped p then some p else none
  | none => none
theorem toPs_ok {G : GC} {ρ : Nat → Addr} {H : Hp} {M : Mem} (r : Rel G ρ H M) {d : D} {v : V} {p : PyData} (e : toPs M d = some p) (h : RepV G ρ M.length H d v) : Dp G.K H v p ∧ SeqAt.shaped p = true := by
  unfold toPs at e
  cases e1 : toP M 66 d with
  | none => rw [e1] at e; cases e
  | some q =>
    rw [e1] at e
    simp only at e
    split at e
    · rename_i hs
      cases e
      exact ⟨toP_ok r e1 h, hs⟩
    · cases e
/-- == -/
def eqB (x y : D) (M : Mem) : Option Bool := match x, y with
  | .int i, .int j => some (decide (i = j))
  | .str a, .str b => some (decide (a = b))
  | .bl a, .bl b => some (decide (a = b))
  | x, y => match toPs M x, toPs M y with
    | some p, some q => some (PyData.eqv p q)
    | _, _ => none
def opB (f : D → D → Mem → Option Bool) : Op2 := fun x y M => (f x y M).map fun b => (.bl b, M)
def neB (x y : D) (M : Mem) : Option Bool := (eqB x y M).map not
section
variable {X : Cx} {G : GC} {ρ : Nat → Addr} {H : Hp} {M : Mem}
theorem PostO.bl {Q : VK} {b : Bool} (p : PostO G ρ M.length H Q (some (.bl b, M))) (r : Rel G ρ H M) : Q (.bl b) H := p.same r (by simp only [RepV])
theorem PostO.int {Q : VK} {b : Int} (p : PostO G ρ M.length H Q (some (.int b, M))) (r : Rel G ρ H M) : Q (.int b) H := p.same r (by simp only [RepV])
theorem PostO.str {Q : VK} {b : Str} (p : PostO G ρ M.length H Q (some (.str b, M))) (r : Rel G ρ H M) : Q (.str b) H := p.same r (by simp only [RepV])
theorem PostO.non {Q : VK} (p : PostO G ρ M.length H Q (some (.non, M))) (r : Rel G ρ H M) : Q .non H := p.same r (by simp only [RepV])
theorem PostO.opB {Q : VK} {f : D → D → Mem → Option Bool} {x y : D} (p : PostO G ρ M.length H Q (MI.opB f x y M)) (r : Rel G ρ H M) : ∃ b, f x y M = some b ∧ Q (.bl b) H := by
  unfold MI.opB at p
  cases e : f x y M with
  | none => rw [e] at p; exact p.elim
  | some b => rw [e] at p; exact ⟨b, rfl, p.bl r⟩
theorem RepV.int' {N : Nat} {i : Int} {v : V} (h : RepV G ρ N H (.int i) v) : v = .int i := by simpa only [RepV] using h
theorem RepV.str' {N : Nat} {i : Str} {v : V} (h : RepV G ρ N H (.str i) v) : v = .str i := by simpa only [RepV] using h
theorem RepV.bl' {N : Nat} {i : Bool} {v : V} (h : RepV G ρ N H (.bl i) v) : v = .bl i := by simpa only [RepV] using h
theorem RepV.non' {N : Nat} {v : V} (h : RepV G ρ N H .non v) : v = .non := by simpa only [RepV] using h
theorem RepV.ref' {N n : Nat} {v : V} (h : RepV G ρ N H (.ref n) v) : n < N ∧ v = .ref (ρ n) := by simpa only [RepV] using h
theorem RepV.tup' {N : Nat} {xs : List D} {v : V} (h : RepV G ρ N H (.tup xs) v) : ∃ a vs, v = .ref a ∧ TupAt G.K H a vs ∧ RepL G ρ N H xs vs := by simpa only [RepV] using h
theorem eqB_pair {x y : D} {b : Bool} (h : eqB x y M = some b) : (∃ i j, x = .int i ∧ y = .int j ∧ b = decide (i = j)) ∨ (∃ i j, x = .str i ∧ y = .str j ∧ b = decide (i = j)) ∨ (∃ i j, x = .bl i ∧ y = .bl j ∧ b = decide (i = j)) ∨
    ∃ p q, toPs M x = some p ∧ toPs M y = some q ∧ b = PyData.eqv p q := by
  unfold eqB at h
  split at h
  · rename_i i j; cases h; exact .inl ⟨i, j, rfl, rfl, rfl⟩
  · rename_i i j; cases h; exact .inr (.inl ⟨i, j, rfl, rfl, rfl⟩)
  · rename_i i j; cases h; exact .inr (.inr (.inl ⟨i, j, rfl, rfl, rfl⟩))
  · split at h
    · rename_i p q e1 e2; cases h; exact .inr (.inr (.inr ⟨p, q, e1, e2, rfl⟩))
    · cases h
theorem op_eqDD (hK : G.K = X.K) (hu : X.A.units + 64 < cLine) : OpR X (compareOp .Eq) (rd2 G (opB eqB)) := by
  intro pins s σ H x y v u Q I rx ry ⟨ρ, M, d, e, r, hd, he, p⟩
  obtain ⟨b, hb, q⟩ := p.opB r
  rcases eqB_pair hb with ⟨i, j, rfl, rfl, rfl⟩ | ⟨i, j, rfl, rfl, rfl⟩ | ⟨i, j, rfl, rfl, rfl⟩ | ⟨p1, q1, e1, e2, rfl⟩
  · have h1 := hd.int'; have h2 := he.int'; subst h1 h2
    exact op_eq pins s σ H _ _ v u Q I rx ry ⟨rfl, by rw [dec_int, Bool.beq_eq_decide_eq]; exact q⟩
  · have h1 := hd.str'; have h2 := he.str'; subst h1 h2
    exact op_eq pins s σ H _ _ v u Q I rx ry ⟨rfl, by rw [dec_str, Bool.beq_eq_decide_eq]; exact q⟩
  · have h1 := hd.bl'; have h2 := he.bl'; subst h1 h2
    exact op_eq pins s σ H _ _ v u Q I rx ry ⟨rfl, by rw [dec_bl, Bool.beq_eq_decide_eq]; exact q⟩
  · obtain ⟨d1, s1⟩ := toPs_ok r e1 hd
    obtain ⟨d2, s2⟩ := toPs_ok r e2 he
    rw [hK] at d1 d2
    exact op_eqD hu pins s σ H _ _ v u Q I rx ry ⟨p1, q1, d1, d2, s1, s2, q⟩
theorem op_neDD (hK : G.K = X.K) (hu : X.A.units + 64 < cLine) : OpR X (compareOp .NotEq) (rd2 G (opB neB)) := by
  intro pins s σ H x y v u Q I rx ry ⟨ρ, M, d, e, r, hd, he, p⟩
  obtain ⟨b, hb', q⟩ := p.opB r
  unfold neB at hb'
  cases hb : eqB d e M with
  | none => rw [hb] at hb'; cases hb'
  | some b0 =>
  rw [hb] at hb'
  simp only [Option.map_some, Option.some.injEq] at hb'
  subst hb'
  rcases eqB_pair hb with ⟨i, j, rfl, rfl, rfl⟩ | ⟨i, j, rfl, rfl, rfl⟩ | ⟨i, j, rfl, rfl, rfl⟩ | ⟨p1, q1, e1, e2, rfl⟩
  · have h1 := hd.int'; have h2 := he.int'; subst h1 h2
    exact op_ne pins s σ H _ _ v u Q I rx ry ⟨rfl, by rw [dec_int, Bool.beq_eq_decide_eq]; exact q⟩
  · have h1 := hd.str'; have h2 := he.str'; subst h1 h2
    exact op_ne pins s σ H _ _ v u Q I rx ry ⟨rfl, by rw [dec_str, Bool.beq_eq_decide_eq]; exact q⟩
  · have h1 := hd.bl'; have h2 := he.bl'; subst h1 h2
    exact op_ne pins s σ H _ _ v u Q I rx ry ⟨rfl, by rw [dec_bl, Bool.beq_eq_decide_eq]; exact q⟩
  · obtain ⟨d1, s1⟩ := toPs_ok r e1 hd
    obtain ⟨d2, s2⟩ := toPs_ok r e2 he
    rw [hK] at d1 d2
    exact op_neD hu pins s σ H _ _ v u Q I rx ry ⟨p1, q1, d1, d2, s1, s2, q⟩
end
end MI

set_option Elab.async false
set_option linter.all false
set_option maxRecDepth 100000
namespace MI
open PySem PySem.Spec PyProof.Rows L2
/-! further comparisons -/
def flatD : D → Bool
  | .non | .bl _ | .int _ | .str _ => true
  | _ => false
def eqFlat : D → D → Bool
  | .non, .non => true
  | .bl a, .bl b => a == b
  | .bl a, .int b => (if a then 1 else 0) == b
  | .int a, .bl b => a == (if b then 1 else 0)
  | .int a, .int b => a == b
  | .str a, .str b => a == b
  | _, _ => false
def seqOf (y : D) (M : Mem) : Option (List D) := match y with
  | .tup xs => some xs
  | .ref n => getL M n
  | _ => none
def inB (x y : D) (M : Mem) : Option Bool := match y with
  | .str j => match x with
    | .str i => some (!(Builtin.Str.occurrences j i 0 j.length 1).isEmpty)
    | _ => none
  | y => match seqOf y M with
    | none => none
    | some xs => if flatD x && xs.all flatD then some (xs.any fun z => eqFlat z x) else
      match toPs M x, toPs M y with
      | some d, some (.list ds) => some (ds.any fun z => PyData.eqv z d)
      | some d, some (.tuple ds) => some (ds.any fun z => PyData.eqv z d)
      | _, _ => none
def ninB (x y : D) (M : Mem) : Option Bool := (inB x y M).map not
def tupInts : List D → Option (List Int)
  | [] => some []
  | .int i :: r => (tupInts r).map (i :: ·)
  | _ :: _ => none
def ltB (x y : D) (_ : Mem) : Option Bool := match x, y with
  | .int i, .int j => some (decide (i < j))
  | .str a, .str b => some (decide (a.cps.toList < b.cps.toList))
  | .tup a, .tup b => match tupInts a, tupInts b with
    | some ns, some ms => some (HT.lexLt ns ms)
    | _, _ => none
  | _, _ => none
def cmpI (f : Int → Int → Bool) (x y : D) (_ : Mem) : Option Bool := match x, y with
  | .int i, .int j => some (f i j)
  | _, _ => none
def leB := cmpI fun i j => decide (i ≤ j)
def gtB := cmpI fun i j => decide (j < i)
def geB := cmpI fun i j => decide (j ≤ i)
def D.isNon : D → Bool
  | .non => true
  | _ => false
def isB (x y : D) (_ : Mem) : Option Bool := match y with
  | .non => some x.isNon
  | .bl b => match x with
    | .bl a => some (decide (a = b))
    | _ => none
  | _ => none
def nisB (x y : D) (M : Mem) : Option Bool := (isB x y M).map not
section
variable {X : Cx} {G : GC}
theorem flat_rep {ρ : Nat → Addr} {N : Nat} {H : Hp} {d : D} {v : V} (r : RepV G ρ N H d v) (f : flatD d = true) : flatV v = true := by
  cases d with
  | non => rw [r.non']; rfl
  | bl b => rw [r.bl']; rfl
  | int b => rw [r.int']; rfl
  | str b => rw [r.str']; rfl
  | _ => simp [flatD] at f
theorem flat_repL {ρ : Nat → Addr} {N : Nat} {H : Hp} : ∀ {ds : List D} {vs : List V}, RepL G ρ N H ds vs → ds.all flatD = true → vs.all flatV = true
  | [], vs, r, _ => by simp only [RepL] at r; subst r; rfl
  | d :: ds, vs, r, f => by
    simp only [RepL] at r
    obtain ⟨v, t, rfl, r1, r2⟩ := r
    rw [List.all_cons, Bool.and_eq_true] at f ⊢
    exact ⟨flat_rep r1 f.1, flat_repL r2 f.2⟩
theorem eqFlat_rep {ρ : Nat → Addr} {N : Nat} {H : Hp} {d e : D} {v w : V} (r : RepV G ρ N H d v) (r' : RepV G ρ N H e w) (f : flatD d = true) (f' : flatD e = true) : eqV v w = eqFlat d e := by
  cases d with
  | non => rw [r.non']; cases e with
    | non => rw [r'.non']; rfl
    | bl b => rw [r'.bl']; rfl
    | int b => rw [r'.int']; rfl
    | str b => rw [r'.str']; rfl
    | _ => simp [flatD] at f'
  | bl b => rw [r.bl']; cases e with
    | non => rw [r'.non']; rfl
    | bl b => rw [r'.bl']; rfl
    | int b => rw [r'.int']; rfl
    | str b => rw [r'.str']; rfl
    | _ => simp [flatD] at f'
  | int b => rw [r.int']; cases e with
    | non => rw [r'.non']; rfl
    | bl b => rw [r'.bl']; rfl
    | int b => rw [r'.int']; rfl
    | str b => rw [r'.str']; rfl
    | _ => simp [flatD] at f'
  | str b => rw [r.str']; cases e with
    | non => rw [r'.non']; rfl
    | bl b => rw [r'.bl']; rfl
    | int b => rw [r'.int']; rfl
    | str b => rw [r'.str']; rfl
    | _ => simp [flatD] at f'
  | _ => simp [flatD] at f
theorem any_rep {ρ : Nat → Addr} {N : Nat} {H : Hp} {x : D} {w : V} (rx : RepV G ρ N H x w) (fx : flatD x = true) : ∀ {ds : List D} {vs : List V}, RepL G ρ N H ds vs → ds.all flatD = true → inV w vs = ds.any fun z => eqFlat z x
  | [], vs, r, _ => by simp only [RepL] at r; subst r; rfl
  | d :: ds, vs, r, f => by
    simp only [RepL] at r
    obtain ⟨v, t, rfl, r1, r2⟩ := r
    rw [List.all_cons, Bool.and_eq_true] at f
    have ih := any_rep rx fx r2 f.2
    unfold inV at ih ⊢
    rw [List.any_cons, List.any_cons, ih, eqFlat_rep r1 rx f.1 fx]
theorem seqOf_rep {ρ : Nat → Addr} {M : Mem} {H : Hp} {y : D} {w : V} {xs : List D} (r : Rel G ρ H M) (h : RepV G ρ M.length H y w) (e : seqOf y M = some xs) : ∃ a vs, w = .ref a ∧ (SqL G.K H a vs ∨ SqT G.K H a vs) ∧ RepL G ρ M.length H xs vs := by
  cases y with
  | tup ys =>
    cases e
    obtain ⟨a, vs, rfl, ha, rl⟩ := h.tup'
    exact ⟨a, vs, rfl, .inr ha.sq, rl⟩
  | ref n =>
    obtain ⟨hn, rfl⟩ := h.ref'
    obtain ⟨vs, hq, rl⟩ := rel_getL r e
    exact ⟨_, vs, rfl, .inl hq, rl⟩
  | _ => cases e
theorem in_data {pins : List (Addr × Obj)} {s : Shared} {σ : St} {H : Hp} {x y : V} {v u : Value} {Q : VK} {d : PyData} {ds : List PyData} {c : PyData} (hu : X.A.units + 65 < cLine) (I : Inv X pins σ H s) (rx : RelV x v) (ry : RelV y u) (hc : c = .list ds ∨ c = .tuple ds)
    (hd : Dp X.K H x d) (he : Dp X.K H y c) (sd : SeqAt.shaped d = true) (se : SeqAt.shaped c = true) (q : Q (.bl (ds.any fun z => PyData.eqv z d)) H) : wpAny (model X.prog X.w) X.A (compareOp .In v u) (EP X pins σ Q) X.xe s := by
  obtain ⟨as, r1⟩ := Dp.reads I d x v hd rx
  obtain ⟨bs, r2⟩ := Dp.reads I c y u he ry
  rcases hc with rfl | rfl
  · exact SeqAt.in_list_reads r2 r1 (SeqAt.canLay_of_shaped se) (SeqAt.canLay_of_shaped sd) (room_in_shaped sd hu) ⟨.bl _, H, I, rfl, q⟩
  · exact SeqAt.in_tuple_reads r2 r1 (SeqAt.canLay_of_shaped se) (SeqAt.canLay_of_shaped sd) (room_in_shaped sd hu) ⟨.bl _, H, I, rfl, q⟩
theorem nin_data {pins : List (Addr × Obj)} {s : Shared} {σ : St} {H : Hp} {x y : V} {v u : Value} {Q : VK} {d : PyData} {ds : List PyData} {c : PyData} (hu : X.A.units + 65 < cLine) (I : Inv X pins σ H s) (rx : RelV x v) (ry : RelV y u) (hc : c = .list ds ∨ c = .tuple ds)
    (hd : Dp X.K H x d) (he : Dp X.K H y c) (sd : SeqAt.shaped d = true) (se : SeqAt.shaped c = true) (q : Q (.bl (!ds.any fun z => PyData.eqv z d)) H) : wpAny (model X.prog X.w) X.A (compareOp .NotIn v u) (EP X pins σ Q) X.xe s := by
  obtain ⟨as, r1⟩ := Dp.reads I d x v hd rx
  obtain ⟨bs, r2⟩ := Dp.reads I c y u he ry
  rcases hc with rfl | rfl
  · exact SeqAt.notIn_list_reads r2 r1 (SeqAt.canLay_of_shaped se) (SeqAt.canLay_of_shaped sd) (room_in_shaped sd hu) ⟨.bl _, H, I, rfl, q⟩
  · exact SeqAt.notIn_tuple_reads r2 r1 (SeqAt.canLay_of_shaped se) (SeqAt.canLay_of_shaped sd) (room_in_shaped sd hu) ⟨.bl _, H, I, rfl, q⟩
/-- the ways of in -/
theorem inB_ways {x y : D} {M : Mem} {b : Bool} (h : inB x y M = some b) : (∃ i j, x = .str i ∧ y = .str j ∧ b = !(Builtin.Str.occurrences j i 0 j.length 1).isEmpty) ∨
    (∃ xs, seqOf y M = some xs ∧ flatD x = true ∧ xs.all flatD = true ∧ b = xs.any fun z => eqFlat z x) ∨
    ∃ d c ds, toPs M x = some d ∧ toPs M y = some c ∧ (c = .list ds ∨ c = .tuple ds) ∧ b = ds.any fun z => PyData.eqv z d := by
  unfold inB at h
  split at h
  · split at h
    · rename_i j _ i; cases h; exact .inl ⟨i, j, rfl, rfl, rfl⟩
    · cases h
  · split at h
    · cases h
    · rename_i xs e
      split at h
      · rename_i f
        rw [Bool.and_eq_true] at f
        cases h
        exact .inr (.inl ⟨xs, e, f.1, f.2, rfl⟩)
      · split at h
        · rename_i d ds e1 e2; cases h; exact .inr (.inr ⟨d, _, ds, e1, e2, .inl rfl, rfl⟩)
        · rename_i d ds e1 e2; cases h; exact .inr (.inr ⟨d, _, ds, e1, e2, .inr rfl, rfl⟩)
        · cases h
theorem op_inDD (hK : G.K = X.K) (hu : X.A.units + 65 < cLine) : OpR X (compareOp .In) (rd2 G (opB inB)) := by
  intro pins s σ H x y v u Q I rx ry ⟨ρ, M, d, e, r, hd, he, p⟩
  obtain ⟨b, hb, q⟩ := p.opB r
  rcases inB_ways hb with ⟨i, j, rfl, rfl, rfl⟩ | ⟨xs, e1, f1, f2, rfl⟩ | ⟨d', c, ds, e1, e2, hc, rfl⟩
  · have h1 := hd.str'; have h2 := he.str'; subst h1 h2
    exact op_in_str pins s σ H _ _ v u Q I rx ry ⟨i, j, rfl, rfl, q⟩
  · obtain ⟨a, vs, rfl, hq, rl⟩ := seqOf_rep r he e1
    rw [hK] at hq
    refine op_in_seq pins s σ H _ _ v u Q I rx ry ⟨a, vs, rfl, hq, flat_rep hd f1, flat_repL rl f2, ?_⟩
    rw [if_neg (by decide), any_rep hd f1 rl f2]
    exact q
  · obtain ⟨d1, s1⟩ := toPs_ok r e1 hd
    obtain ⟨d2, s2⟩ := toPs_ok r e2 he
    rw [hK] at d1 d2
    exact in_data hu I rx ry hc d1 d2 s1 s2 q
theorem op_ninDD (hK : G.K = X.K) (hu : X.A.units + 65 < cLine) : OpR X (compareOp .NotIn) (rd2 G (opB ninB)) := by
  intro pins s σ H x y v u Q I rx ry ⟨ρ, M, d, e, r, hd, he, p⟩
  obtain ⟨b, hb', q⟩ := p.opB r
  unfold ninB at hb'
  cases hb : inB d e M with
  | none => rw [hb] at hb'; cases hb'
  | some b0 =>
  rw [hb] at hb'
  simp only [Option.map_some, Option.some.injEq] at hb'
  subst hb'
  rcases inB_ways hb with ⟨i, j, rfl, rfl, rfl⟩ | ⟨xs, e1, f1, f2, rfl⟩ | ⟨d', c, ds, e1, e2, hc, rfl⟩
  · have h1 := hd.str'; have h2 := he.str'; subst h1 h2
    exact op_notIn_str pins s σ H _ _ v u Q I rx ry ⟨i, j, rfl, rfl, q⟩
  · obtain ⟨a, vs, rfl, hq, rl⟩ := seqOf_rep r he e1
    rw [hK] at hq
    refine op_notIn_seq pins s σ H _ _ v u Q I rx ry ⟨a, vs, rfl, hq, flat_rep hd f1, flat_repL rl f2, ?_⟩
    rw [if_pos rfl, any_rep hd f1 rl f2]
    exact q
  · obtain ⟨d1, s1⟩ := toPs_ok r e1 hd
    obtain ⟨d2, s2⟩ := toPs_ok r e2 he
    rw [hK] at d1 d2
    exact nin_data hu I rx ry hc d1 d2 s1 s2 q
theorem tupInts_ok {ρ : Nat → Addr} {N : Nat} {H : Hp} : ∀ {xs : List D} {vs : List V} {ns : List Int}, tupInts xs = some ns → RepL G ρ N H xs vs → vs = ns.map V.int
  | [], vs, ns, e, r => by
    simp only [RepL] at r
    cases e
    subst r
    rfl
  | x :: xs, vs, ns, e, r => by
    simp only [RepL] at r
    obtain ⟨v, t, rfl, r1, r2⟩ := r
    cases x with
    | int i =>
      simp only [tupInts] at e
      cases e1 : tupInts xs with
      | none => rw [e1] at e; cases e
      | some ms =>
        rw [e1] at e
        cases e
        rw [r1.int', tupInts_ok e1 r2]
        rfl
    | _ => cases e
theorem op_ltDD (hK : G.K = X.K) (hu : X.A.units < cLine) : OpR X (compareOp .Lt) (rd2 G (opB ltB)) := by
  intro pins s σ H x y v u Q I rx ry ⟨ρ, M, d, e, r, hd, he, p⟩
  obtain ⟨b, hb, q⟩ := p.opB r
  unfold ltB at hb
  split at hb
  · cases hb
    have h1 := hd.int'; have h2 := he.int'; subst h1 h2
    exact op_lt pins s σ H _ _ v u Q I rx ry ⟨_, _, rfl, rfl, q⟩
  · cases hb
    have h1 := hd.str'; have h2 := he.str'; subst h1 h2
    exact op_lt_str pins s σ H _ _ v u Q I rx ry ⟨_, _, rfl, rfl, q⟩
  · split at hb
    · rename_i ns ms e1 e2
      cases hb
      obtain ⟨a, vs, rfl, ha, ra⟩ := hd.tup'
      obtain ⟨b, ws, rfl, hb, rb⟩ := he.tup'
      rw [hK] at ha hb
      have q1 := tupInts_ok e1 ra
      have q2 := tupInts_ok e2 rb
      subst q1 q2
      exact op_ltT hu pins s σ H _ _ v u Q I rx ry ⟨a, b, ns, ms, rfl, rfl, ha.sq, hb.sq, q⟩
    · cases hb
  · cases hb
theorem op_cmpI {op : CmpOp} {f : Int → Int → Bool} (h : OpR X (compareOp op) (rI0 fun i j => .bl (f i j))) : OpR X (compareOp op) (rd2 G (opB (cmpI f))) := by
  intro pins s σ H x y v u Q I rx ry ⟨ρ, M, d, e, r, hd, he, p⟩
  obtain ⟨b, hb, q⟩ := p.opB r
  unfold cmpI at hb
  split at hb
  · cases hb
    have h1 := hd.int'; have h2 := he.int'; subst h1 h2
    exact h pins s σ H _ _ v u Q I rx ry ⟨_, _, rfl, rfl, q⟩
  · cases hb
theorem op_leDD : OpR X (compareOp .LtE) (rd2 G (opB leB)) := op_cmpI op_le
theorem op_gtDD : OpR X (compareOp .Gt) (rd2 G (opB gtB)) := op_cmpI op_gt
theorem op_geDD : OpR X (compareOp .GtE) (rd2 G (opB geB)) := op_cmpI op_ge
theorem isNon_rep {ρ : Nat → Addr} {N : Nat} {H : Hp} {d : D} {v : V} (r : RepV G ρ N H d v) : decide (v = .non) = d.isNon := by
  cases d with
  | non => rw [r.non']; rfl
  | bl b => rw [r.bl']; rfl
  | int b => rw [r.int']; rfl
  | str b => rw [r.str']; rfl
  | tup xs => obtain ⟨a, vs, rfl, _⟩ := r.tup'; rfl
  | ref n => obtain ⟨_, rfl⟩ := r.ref'; rfl
  | exc _ _ _ => simp only [RepV] at r
theorem op_isDD : OpR X (compareOp .Is) (rd2 G (opB isB)) := by
  intro pins s σ H x y v u Q I rx ry ⟨ρ, M, d, e, r, hd, he, p⟩
  obtain ⟨b, hb, q⟩ := p.opB r
  unfold isB at hb
  split at hb
  · cases hb
    have h2 := he.non'; subst h2
    refine op_isN pins s σ H _ _ v u Q I rx ry ⟨rfl, ?_⟩
    rw [isNon_rep hd]
    exact q
  · split at hb
    · cases hb
      have h1 := hd.bl'; have h2 := he.bl'; subst h1 h2
      exact op_is_bl pins s σ H _ _ v u Q I rx ry ⟨_, _, rfl, rfl, q⟩
    · cases hb
  · cases hb
theorem op_nisDD : OpR X (compareOp .IsNot) (rd2 G (opB nisB)) := by
  intro pins s σ H x y v u Q I rx ry ⟨ρ, M, d, e, r, hd, he, p⟩
  obtain ⟨b, hb', q⟩ := p.opB r
  unfold nisB at hb'
  cases hb : isB d e M with
  | none => rw [hb] at hb'; cases hb'
  | some b0 =>
  rw [hb] at hb'
  simp only [Option.map_some, Option.some.injEq] at hb'
  subst hb'
  unfold isB at hb
  split at hb
  · cases hb
    have h2 := he.non'; subst h2
    refine op_notN pins s σ H _ _ v u Q I rx ry ⟨rfl, ?_⟩
    rw [isNon_rep hd]
    exact q
  · split at hb
    · cases hb
      have h1 := hd.bl'; have h2 := he.bl'; subst h1 h2
      exact op_isnot_bl pins s σ H _ _ v u Q I rx ry ⟨_, _, rfl, rfl, q⟩
    · cases hb
  · cases hb
end
end MI

set_option Elab.async false
set_option linter.all false
set_option maxRecDepth 100000
namespace MI
open PySem PySem.Spec PyProof.Rows L2
/-! truth, tests -/
def truB (x : D) (M : Mem) : Option Bool := match x with
  | .non => some false
  | .bl b => some b
  | .int i => some (i != 0)
  | .str s => if s.length ≤ lim then some ((s.length : Int) != 0) else none
  | .tup xs => some (!xs.isEmpty)
  | .ref n => match M[n]? with
    | some (.lst xs) => some (!xs.isEmpty)
    | some (.rls xs) => some (!xs.isEmpty)
    | some (.dct xs) => some (!xs.isEmpty)
    | _ => none
  | _ => none
def R.ofB (o : Option Bool) (M : Mem) : R Bool := match o with
  | some b => .ok b M
  | none => .st
def dTru (a : Den) : DenT := fun ev M => (a ev M).bind fun x M1 => R.ofB (truB x M1) M1
def tNotD (a : DenT) : DenT := fun ev M => (a ev M).bind fun b M1 => .ok (!b) M1
def tAndD (a b : DenT) : DenT := fun ev M => (a ev M).bind fun x M1 => if x then b ev M1 else .ok false M1
def tOrD (a b : DenT) : DenT := fun ev M => (a ev M).bind fun x M1 => if x then .ok true M1 else b ev M1
def dAnd (a b : Den) : Den := fun ev M => (a ev M).bind fun x M1 => match truB x M1 with
  | some true => b ev M1
  | some false => .ok x M1
  | none => .st
def dOr (a b : Den) : Den := fun ev M => (a ev M).bind fun x M1 => match truB x M1 with
  | some true => .ok x M1
  | some false => b ev M1
  | none => .st
def dNot (a : Den) : Den := fun ev M => (a ev M).bind fun x M1 => match truB x M1 with
  | some b => .ok (.bl (!b)) M1
  | none => .st
def dIf (t : DenT) (a b : Den) : Den := fun ev M => (t ev M).bind fun x M1 => if x then a ev M1 else b ev M1
def dChain (f g : D → D → Mem → Option Bool) (a b c : Den) : Den := fun ev M => (a ev M).bind fun x M1 => (b ev M1).bind fun y M2 => match f x y M2 with
  | some true => (c ev M2).bind fun z M3 => R.of (opB g y z M3)
  | some false => .ok (.bl false) M2
  | none => .st
section
variable {X : Cx} {G : GC} {W : WX} {a b c e : Expr} {es : List Expr} {fa fb fc fe : Den} {ta tb : DenT} {fl : DenL} {pos p : Pos}
theorem emp_len {α β : Type} {xs : List α} {ys : List β} (h : xs.length = ys.length) : xs.isEmpty = ys.isEmpty := by
  cases xs <;> cases ys <;> simp_all
theorem truB_ok (hK : G.K = X.K) {ρ : Nat → Addr} {M : Mem} {H : Hp} {x : D} {v : V} {b : Bool} (r : Rel G ρ H M) (h : RepV G ρ M.length H x v) (e : truB x M = some b) : TruV X.K v H b := by
  unfold truB at e
  split at e
  · cases e; rw [h.non']; rfl
  · cases e; rw [h.bl']; rfl
  · cases e; rw [h.int']; rfl
  · split at e
    · rename_i hz; cases e; rw [h.str']; exact ⟨lim_eq ▸ hz, rfl⟩
    · cases e
  · cases e
    obtain ⟨a, vs, rfl, ha, rl⟩ := h.tup'
    refine .inr (.inl ⟨vs, hK ▸ ha.sq, ?_⟩)
    have := rl.length
    exact congrArg not (emp_len this).symm
  · obtain ⟨hn, rfl⟩ := h.ref'
    split at e
    · rename_i xs hm
      cases e
      obtain ⟨vs, q, rl⟩ := r.cell _ _ hm
      refine .inl ⟨vs, .inl (.inl q), ?_⟩
      have := rl.length
      exact congrArg not (emp_len this).symm
    · rename_i xs hm
      cases e
      obtain ⟨vs, o, q, rl⟩ := r.cell _ _ hm
      refine .inl ⟨vs, .inl (.inr ⟨o, q⟩), ?_⟩
      have := rl.length
      exact congrArg not (emp_len this).symm
    · rename_i xs hm
      cases e
      obtain ⟨vs, q, rl⟩ := r.cell _ _ hm
      refine .inr (.inr ⟨vs, q, ?_⟩)
      cases xs with
      | nil => cases rl; rfl
      | cons x xs => obtain ⟨v, t, rfl, _⟩ := rl; rfl
    · cases e
  · cases e
theorem t_tru (hK : G.K = X.K) (ha : PE X a (tI X G W fa)) (he : ∀ whole, isTrue a X.env whole = (do let v ← whole; standAt a.pos; holding [v] (truthy v))) : PT X a (tT X G W (dTru fa)) := by
  refine PT.imp (pt_truth ha he) fun σ H Q ⟨ρ, M, ev, r, er, p⟩ => ?_
  refine ⟨ρ, M, ev, r, er, p.step fun d M1 ρ1 H1 _ g1 r1 p1 v rv => ?_⟩
  cases ht : truB d M1 with
  | none => rw [ht] at p1; exact p1.elim
  | some b => rw [ht] at p1; exact ⟨b, truB_ok hK r1 rv ht, p1 ρ1 H1 .refl r1⟩
theorem opB_bl {f : D → D → Mem → Option Bool} {x y d : D} {M M1 : Mem} (h : R.of (opB f x y M) = .ok d M1) : ∃ b, d = .bl b := by
  unfold opB at h
  cases e : f x y M with
  | none => rw [e] at h; cases h
  | some b => rw [e] at h; cases h; exact ⟨b, rfl⟩
theorem bind_ok {α β : Type} {r : R α} {k : α → Mem → R β} {d : β} {M : Mem} (h : r.bind k = .ok d M) : ∃ x M1, r = .ok x M1 ∧ k x M1 = .ok d M := by
  cases r with
  | ok x M1 => exact ⟨x, M1, rfl, h⟩
  | ex c fs M1 => cases h
  | st => cases h
theorem t_of_bl {f : Den} {σ : St} {H : Hp} {Q : Bool → Hp → Prop} (hb : ∀ ev M d M1, f ev M = .ok d M1 → ∃ b, d = .bl b) (h : tT X G W (dTru f) σ H Q) : tI X G W f σ H fun x H' => ∃ k, x = .bl k ∧ Q k H' := by
  obtain ⟨ρ, M, ev, r, er, p⟩ := h
  refine ⟨ρ, M, ev, r, er, p.step fun d M1 ρ1 H1 eq g1 r1 p1 v rv => ?_⟩
  obtain ⟨b, rfl⟩ := hb ev M d M1 eq
  exact ⟨b, rv.bl', p1 ρ1 H1 .refl r1⟩
theorem t_cmp {op : CmpOp} {f : D → D → Mem → Option Bool} (ho : OpR X (compareOp op) (rd2 G (opB f))) (ha : PE X a (tI X G W fa)) (hb : PE X b (tI X G W fb)) (hm : behindInMarks op b = false) : PT X (.Compare a [op] [b] pos) (tT X G W (dTru (dOp2 (opB f) fa fb))) :=
  PT.imp (pt_cmpR ho ha hb hm) fun σ H Q h => tI_op2 (t_of_bl (fun ev M d M1 e => by
    obtain ⟨x, M2, _, e⟩ := bind_ok e
    obtain ⟨y, M3, _, e⟩ := bind_ok e
    exact opB_bl e) h)
theorem i_cmp {op : CmpOp} {f : Op2} (ho : OpR X (compareOp op) (rd2 G f)) (ha : PE X a (tI X G W fa)) (hb : PE X b (tI X G W fb)) (hm : behindInMarks op b = false) : PE X (.Compare a [op] [b] pos) (tI X G W (dOp2 f fa fb)) :=
  PE.imp (pe_cmpR ho ha hb hm) fun _ _ _ h => tI_op2 h
theorem tI_chain {f g : D → D → Mem → Option Bool} {σ : St} {H : Hp} {Q : VK} (h : tI X G W (dChain f g fa fb fc) σ H Q) : tChain (rd2 G (opB f)) (rd2 G (opB g)) (tI X G W fa) (tI X G W fb) (tI X G W fc) σ H Q := by
  obtain ⟨ρ, M, ev, r, er, p⟩ := h
  refine ⟨ρ, M, ev, r, er, p.step fun x M1 ρ1 H1 _ g1 r1 p1 v rv => ⟨ρ1, M1, ev, r1, er.grow g1, p1.step fun y M2 ρ2 H2 _ g2 r2 p2 w rw' => ?_⟩⟩
  have er2 := (er.grow g1).grow g2
  refine ⟨ρ2, M2, x, y, r2, rv.grow g2, rw', ?_⟩
  unfold opB
  cases e : f x y M2 with
  | none => rw [e] at p2; exact p2.elim
  | some b =>
    rw [e] at p2
    intro ρ3 z H3 g3 r3 rz
    refine ⟨b, rz.bl', ?_⟩
    have p3 := p2.trans g3
    cases b with
    | false => exact iteF (p3 ρ3 H3 .refl r3 _ (by simp only [RepV]))
    | true =>
      rw [if_pos rfl]
      exact ⟨ρ3, M2, ev, r3, er2.grow g3, p3.step fun z' M4 ρ4 H4 _ g4 r4 p4 u ru => ⟨ρ4, M4, y, z', r4, (rw'.grow g3).grow g4, ru, .of p4⟩⟩
theorem i_chain {op op' : CmpOp} {f g : D → D → Mem → Option Bool} (ho : OpR X (compareOp op) (rd2 G (opB f))) (ho' : OpR X (compareOp op') (rd2 G (opB g))) (ha : PE X a (tI X G W fa)) (hb : PE X b (tI X G W fb)) (hc : PE X c (tI X G W fc))
    (hm : lastMarks [op, op'] [b, c] = false) : PE X (.Compare a [op, op'] [b, c] pos) (tI X G W (dChain f g fa fb fc)) := PE.imp (pe_chain ho ho' ha hb hc hm) fun _ _ _ h => tI_chain h
theorem t_chain {op op' : CmpOp} {f g : D → D → Mem → Option Bool} (ho : OpR X (compareOp op) (rd2 G (opB f))) (ho' : OpR X (compareOp op') (rd2 G (opB g))) (ha : PE X a (tI X G W fa)) (hb : PE X b (tI X G W fb)) (hc : PE X c (tI X G W fc))
    (hm : lastMarks [op, op'] [b, c] = false) : PT X (.Compare a [op, op'] [b, c] pos) (tT X G W (dTru (dChain f g fa fb fc))) :=
  PT.imp (pt_chain ho ho' ha hb hc hm) fun σ H Q h => tI_chain (t_of_bl (fun ev M d M1 e => by
    obtain ⟨x, M2, _, e⟩ := bind_ok e
    obtain ⟨y, M3, _, e⟩ := bind_ok e
    split at e
    · obtain ⟨z, M4, _, e⟩ := bind_ok e
      exact opB_bl e
    · cases e; exact ⟨false, rfl⟩
    · cases e) h)
theorem t_not (ha : PT X a (tT X G W ta)) : PT X (.UnaryOp .Not a pos) (tT X G W (tNotD ta)) :=
  PT.imp (pt_not ha) fun σ H Q ⟨ρ, M, ev, r, er, p⟩ => ⟨ρ, M, ev, r, er, p.step fun d M1 ρ1 H1 _ g1 r1 p1 => p1 ρ1 H1 .refl r1⟩
theorem w_and1 {op : BoolOp} (ha : PT X a (tT X G W ta)) : PW X (.BoolOp op [a] pos) (tT X G W ta) := by
  cases op with
  | And => exact pw_and1 ha
  | Or => exact pw_or1 ha
theorem w_and (ha : PT X a (tT X G W ta)) (hb : PW X (.BoolOp .And (b :: es) pos) (tT X G W tb)) : PW X (.BoolOp .And (a :: b :: es) pos) (tT X G W (tAndD ta tb)) := by
  refine PW.imp (pw_and ha hb) fun σ H Q ⟨ρ, M, ev, r, er, p⟩ => ⟨ρ, M, ev, r, er, p.step fun d M1 ρ1 H1 _ g1 r1 p1 => ?_⟩
  cases d with
  | true => exact iteT ⟨ρ1, M1, ev, r1, er.grow g1, p1⟩
  | false => exact iteF (p1 ρ1 H1 .refl r1)
theorem w_or (ha : PT X a (tT X G W ta)) (hb : PW X (.BoolOp .Or (b :: es) pos) (tT X G W tb)) : PW X (.BoolOp .Or (a :: b :: es) pos) (tT X G W (tOrD ta tb)) := by
  refine PW.imp (pw_or ha hb) fun σ H Q ⟨ρ, M, ev, r, er, p⟩ => ⟨ρ, M, ev, r, er, p.step fun d M1 ρ1 H1 _ g1 r1 p1 => ?_⟩
  cases d with
  | false => exact iteF ⟨ρ1, M1, ev, r1, er.grow g1, p1⟩
  | true => exact iteT (p1 ρ1 H1 .refl r1)
theorem i_and (hK : G.K = X.K) (ha : PE X a (tI X G W fa)) (hb : PE X (.BoolOp .And (b :: es) pos) (tI X G W fb)) : PE X (.BoolOp .And (a :: b :: es) pos) (tI X G W (dAnd fa fb)) := by
  refine PE.imp (pe_andT ha hb) fun σ H Q ⟨ρ, M, ev, r, er, p⟩ => ⟨ρ, M, ev, r, er, p.step fun d M1 ρ1 H1 _ g1 r1 p1 v rv => ?_⟩
  cases ht : truB d M1 with
  | none => rw [ht] at p1; exact p1.elim
  | some k =>
    rw [ht] at p1
    refine ⟨k, truB_ok hK r1 rv ht, ?_⟩
    cases k with
    | true => exact iteT ⟨ρ1, M1, ev, r1, er.grow g1, p1⟩
    | false => exact iteF (p1 ρ1 H1 .refl r1 v rv)
theorem i_or (hK : G.K = X.K) (ha : PE X a (tI X G W fa)) (hb : PE X (.BoolOp .Or (b :: es) pos) (tI X G W fb)) : PE X (.BoolOp .Or (a :: b :: es) pos) (tI X G W (dOr fa fb)) := by
  refine PE.imp (pe_orT ha hb) fun σ H Q ⟨ρ, M, ev, r, er, p⟩ => ⟨ρ, M, ev, r, er, p.step fun d M1 ρ1 H1 _ g1 r1 p1 v rv => ?_⟩
  cases ht : truB d M1 with
  | none => rw [ht] at p1; exact p1.elim
  | some k =>
    rw [ht] at p1
    refine ⟨k, truB_ok hK r1 rv ht, ?_⟩
    cases k with
    | false => exact iteF ⟨ρ1, M1, ev, r1, er.grow g1, p1⟩
    | true => exact iteT (p1 ρ1 H1 .refl r1 v rv)
theorem i_not (hK : G.K = X.K) (ha : PE X a (tI X G W fa)) : PE X (.UnaryOp .Not a pos) (tI X G W (dNot fa)) := by
  refine PE.imp (pe_notT ha) fun σ H Q ⟨ρ, M, ev, r, er, p⟩ => ⟨ρ, M, ev, r, er, p.step fun d M1 ρ1 H1 _ g1 r1 p1 v rv => ?_⟩
  cases ht : truB d M1 with
  | none => rw [ht] at p1; exact p1.elim
  | some k => rw [ht] at p1; exact ⟨k, truB_ok hK r1 rv ht, p1 ρ1 H1 .refl r1 _ (by simp only [RepV])⟩
theorem i_ifExp (hc : PT X c (tT X G W ta)) (ha : PE X a (tI X G W fa)) (hb : PE X b (tI X G W fb)) : PE X (.IfExp c a b pos) (tI X G W (dIf ta fa fb)) := by
  refine PE.imp (pe_ifExp hc ha hb) fun σ H Q ⟨ρ, M, ev, r, er, p⟩ => ⟨ρ, M, ev, r, er, p.step fun d M1 ρ1 H1 _ g1 r1 p1 => ?_⟩
  cases d with
  | true => exact iteT ⟨ρ1, M1, ev, r1, er.grow g1, p1⟩
  | false => exact iteF ⟨ρ1, M1, ev, r1, er.grow g1, p1⟩
end

/-! displays -/
def dTup (a : DenL) : Den := fun ev M => (a ev M).bind fun xs M1 => if xs.length ≤ lim then .ok (.tup xs) M1 else .st
def dLst (a : DenL) : Den := fun ev M => (a ev M).bind fun xs M1 => if xs.length ≤ lim then .ok (.ref M1.length) (M1 ++ [.lst xs]) else .st
section
variable {X : Cx} {G : GC} {W : WX} {es : List Expr} {fl : DenL} {pos : Pos}
theorem i_tup {k : Nat} (h : PA X es (tL X G W fl)) : PE X (.Tuple es k pos) (tI X G W (dTup fl)) := by
  refine ⟨fun pins s σ H Q I ⟨ρ, M, ev, r, er, p⟩ => ?_⟩
  refine wpAny_Tuple_spliced (thn (h.run pos pins s σ H (fun xs H1 => xs.length ≤ sizeLine ∧ ∀ a o, H1 a = none → o.dict = none → Q (.ref a) (upd H1 a (.frz o (.tup xs)))) I ⟨ρ, M, ev, r, er, p.step fun ds M1 ρ1 H1 _ g1 r1 p1 vs rl => ?_⟩)
    fun us s1 ⟨xs, H1, I1, rv, z, q⟩ => ⟨by rw [← rv.length]; exact z, ?_⟩)
  · skip
    split at p1
    · rename_i hz
      exact ⟨by rw [rl.length, ← lim_eq]; exact hz, fun a o ha ho => p1 ρ1 _ (grow_fresh ha) (r1.fresh ha) _ (rep_new ha ho rl)⟩
    · exact p1.elim
  · exact ⟨.ref s1.heap.objs.size, _, Inv.tnew (t' := s1.toks) I1 rv z, rfl, q _ _ I1.fresh rfl⟩
theorem i_lst (h : PA X es (tL X G W fl)) : PE X (.List es pos) (tI X G W (dLst fl)) := by
  refine PE.imp (pe_lst h) fun σ H Q ⟨ρ, M, ev, r, er, p⟩ => ⟨ρ, M, ev, r, er, p.step fun ds M1 ρ1 H1 _ g1 r1 p1 vs rl => ?_⟩
  skip
  split at p1
  · rename_i hz
    have p2 : PostO G ρ1 M1.length H1 Q (some (.ref M1.length, M1 ++ [.lst ds])) := fun ρ' v H' g r' q => p1 ρ' H' g r' v q
    exact ⟨by rw [rl.length, ← lim_eq]; exact hz, p2.lst r1 rl⟩
  · exact p1.elim
end
end MI

set_option Elab.async false
set_option linter.all false
set_option maxRecDepth 100000
namespace MI
open PySem PySem.Spec PyProof.Rows L2
/-! subscripts and slices -/
def opIx : Op2 := fun x y M => match y with
  | .int i => match x with
    | .tup xs => (atI xs i).map (·, M)
    | .ref n => match getL M n with
      | some xs => (atI xs i).map (·, M)
      | none => none
    | .str z => if z.length ≤ lim then (atI z.cps.toList i).map fun c => (.str ⟨#[c]⟩, M) else none
    | _ => none
  | _ => none
def cutD (xs : List D) (lo hi : Option Int) : List D := (xs.drop (HT.sIx xs.length 0 lo)).take (HT.sIx xs.length xs.length hi - HT.sIx xs.length 0 lo)
def opSl (x : D) (lo hi : Option Int) (M : Mem) : Option (D × Mem) := match x with
  | .tup xs => some (.tup (cutD xs lo hi), M)
  | .ref n => match getL M n with
    | some xs => some (.ref M.length, M ++ [.lst (cutD xs lo hi)])
    | none => none
  | .str z => if z.length ≤ lim then some (.str (cutS z lo hi), M) else none
  | _ => none
def oNo : Env → Mem → R (Option Int) := fun _ M => .ok none M
def oSome (f : Den) : Env → Mem → R (Option Int) := fun ev M => (f ev M).bind fun d M1 => match d with
  | .int i => .ok (some i) M1
  | _ => .st
def dSl (a : Den) (lo hi : Env → Mem → R (Option Int)) : Den := fun ev M => (a ev M).bind fun x M1 => (lo ev M1).bind fun l M2 => (hi ev M2).bind fun h M3 => R.of (opSl x l h M3)
abbrev GO (Q : Option Int → Hp → Prop) : Good (Option Int) := fun _ _ H b => Q b H
def tO (X : Cx) (G : GC) (W : WX) (f : Env → Mem → R (Option Int)) : TO := fun σ H Q => ∃ ρ M ev, Rel G ρ H M ∧ RepE X G ρ M.length H σ ev ∧ PostR G W σ ρ M.length H (GO Q) (f ev M)
section
variable {X : Cx} {G : GC} {W : WX} {a b c e : Expr} {es : List Expr} {fa fb fc fe : Den} {fo fh : Env → Mem → R (Option Int)} {pos p2 : Pos} {lo hi : Option Expr}
theorem atI_rep {ρ : Nat → Addr} {N : Nat} {H : Hp} {xs : List D} {vs : List V} {i : Int} {d : D} (r : RepL G ρ N H xs vs) (h : atI xs i = some d) : ∃ v, atI vs i = some v ∧ RepV G ρ N H d v := by
  unfold atI at h ⊢
  rw [r.length]
  cases e : ixN xs.length i with
  | none => rw [e] at h; cases h
  | some j =>
    rw [e] at h
    obtain ⟨v, hv, rv⟩ := r.get h
    exact ⟨v, hv, rv⟩
theorem ix_DD (hK : G.K = X.K) : IxR X (rd2 G opIx) := by
  intro value slice pins s σ H x y v u Q I rx ry ⟨ρ, M, d, e, r, hd, he, p⟩ hs
  unfold opIx at p
  split at p
  · rename_i i
    have h2 := he.int'
    subst h2
    split at p
    · rename_i xs
      obtain ⟨a, vs, rfl, ha, rl⟩ := hd.tup'
      cases hi : atI xs i with
      | none => rw [hi] at p; exact p.elim
      | some z =>
        rw [hi] at p
        obtain ⟨w, hw, rw'⟩ := atI_rep rl hi
        exact ix_tup value slice pins s σ H _ _ v u Q I rx ry ⟨a, vs, i, w, rfl, rfl, hK ▸ ha.sq, hw, p.same r rw'⟩ hs
    · rename_i n
      obtain ⟨hn, rfl⟩ := hd.ref'
      split at p
      · rename_i xs e1
        obtain ⟨vs, hq, rl⟩ := rel_getL r e1
        cases hi : atI xs i with
        | none => rw [hi] at p; exact p.elim
        | some z =>
          rw [hi] at p
          obtain ⟨w, hw, rw'⟩ := atI_rep rl hi
          exact ix_list value slice pins s σ H _ _ v u Q I rx ry ⟨_, vs, i, w, rfl, rfl, hK ▸ hq, hw, p.same r rw'⟩ hs
      · exact p.elim
    · rename_i z
      have h1 := hd.str'
      subst h1
      split at p
      · rename_i hz
        cases hi : atI z.cps.toList i with
        | none => rw [hi] at p; exact p.elim
        | some c =>
          rw [hi] at p
          exact ix_str value slice pins s σ H _ _ v u Q I rx ry ⟨z, i, c, rfl, rfl, lim_eq ▸ hz, hi, p.str r⟩ hs
      · exact p.elim
    · exact p.elim
  · exact p.elim
theorem i_ix {f : Op2} (hr : IxR X (rd2 G f)) (ha : PE X a (tI X G W fa)) (hb : PE X b (tI X G W fb)) (hs : PlainIx b) : PE X (.Subscript a b pos) (tI X G W (dOp2 f fa fb)) := PE.imp (pe_ix hr ha hb hs) fun _ _ _ h => tI_op2 h
theorem o_no : PO X none (tO X G W oNo) := by
  refine ⟨fun pins s σ H Q I ⟨ρ, M, ev, r, er, p⟩ => po_none.run pins s σ H Q I ?_⟩
  exact p ρ H .refl r
theorem o_some (ha : PE X a (tI X G W fa)) : PO X (some a) (tO X G W (oSome fa)) := by
  refine ⟨fun pins s σ H Q I ⟨ρ, M, ev, r, er, p⟩ => (po_some ha).run pins s σ H Q I ?_⟩
  refine ⟨ρ, M, ev, r, er, p.step fun d M1 ρ1 H1 _ g1 r1 p1 v rv => ?_⟩
  cases d with
  | int i => exact ⟨i, rv.int', p1 ρ1 H1 .refl r1⟩
  | _ => exact p1.elim
theorem cut_rep {ρ : Nat → Addr} {N : Nat} {H : Hp} {xs : List D} {vs : List V} (r : RepL G ρ N H xs vs) (lo hi : Option Int) : RepL G ρ N H (cutD xs lo hi) (cutV vs lo hi) := by
  unfold cutD cutV
  rw [r.length]
  exact (r.drop _).take _
def rdSl (G : GC) (f : D → Option Int → Option Int → Mem → Option (D × Mem)) : V → Option Int → Option Int → Hp → VK → Prop := fun x lo hi H Q => ∃ ρ M d, Rel G ρ H M ∧ RepV G ρ M.length H d x ∧ PostO G ρ M.length H Q (f d lo hi M)
theorem sIx_whole {α : Type} {xs : List α} {lo hi : Option Int} (h : HT.sIx xs.length 0 lo = 0 ∧ HT.sIx xs.length xs.length hi = xs.length) : (xs.drop (HT.sIx xs.length 0 lo)).take (HT.sIx xs.length xs.length hi - HT.sIx xs.length 0 lo) = xs := by
  rw [h.1, h.2]; simp
theorem sl_DD (hK : G.K = X.K) : SlR X (rdSl G opSl) := by
  intro pins s σ H x v vl vu lo hi sl Q I rx hs pl pu ⟨ρ, M, d, r, hd, p⟩
  unfold opSl at p
  split at p
  · rename_i xs
    obtain ⟨a, vs, rfl, ha, rl⟩ := hd.tup'
    rw [hK] at ha
    by_cases hw : HT.sIx vs.length 0 lo = 0 ∧ HT.sIx vs.length vs.length hi = vs.length
    · refine sl_tupA pins s σ H _ v vl vu lo hi sl Q I rx hs pl pu ⟨a, vs, rfl, ha.sq, fun _ => ?_, fun h => absurd hw h⟩
      refine p.same r ?_
      rw [rl.length] at hw
      have e : cutD xs lo hi = xs := sIx_whole hw
      rw [e]
      exact hd
    · cases rx
      obtain ⟨its, r', ht, hz⟩ := I.tuple ha.sq
      have hlen : its.toArray.size = vs.length := by rw [List.size_toArray]; exact r'.length.symm
      refine ⟨"tuple", _, PyProof.Rows.slot_tuple_getitem.lookup, ht.typeIs, ?_⟩
      refine HT.getItem_tuple_cut ht hs pl pu (by rw [hlen]; exact hw) ?_ (by rw [hlen]; exact hz)
      rw [hlen]
      have hv : Vals (cutV vs lo hi) ((its.drop (HT.sIx vs.length 0 lo)).take (HT.sIx vs.length vs.length hi - HT.sIx vs.length 0 lo)) := (r'.drop _).take _
      exact ⟨.ref s.heap.objs.size, _, Inv.tnew (t' := s.toks) I hv (Nat.le_trans (cutV_length vs lo hi) hz), rfl, p.tup r (cut_rep rl lo hi) _ _ I.fresh rfl⟩
  · rename_i n
    obtain ⟨hn, rfl⟩ := hd.ref'
    split at p
    · rename_i xs e1
      obtain ⟨vs, hq, rl⟩ := rel_getL r e1
      exact sl_list pins s σ H _ v vl vu lo hi sl Q I rx hs pl pu ⟨_, vs, rfl, hK ▸ hq, p.lst r (cut_rep rl lo hi)⟩
    · exact p.elim
  · rename_i z
    have h1 := hd.str'
    subst h1
    split at p
    · rename_i hz
      exact sl_str pins s σ H _ v vl vu lo hi sl Q I rx hs pl pu ⟨z, rfl, lim_eq ▸ hz, p.str r⟩
    · exact p.elim
  · exact p.elim
theorem i_slice (hK : G.K = X.K) (he : PE X e (tI X G W fe)) (hl : PO X lo (tO X G W fo)) (hh : PO X hi (tO X G W fh)) : PE X (.Subscript e (.Slice lo hi none p2) pos) (tI X G W (dSl fe fo fh)) := by
  refine PE.imp (pe_slice (sl_DD hK) he hl hh) fun σ H Q ⟨ρ, M, ev, r, er, p⟩ => ?_
  exact ⟨ρ, M, ev, r, er, p.step fun x M1 ρ1 H1 _ g1 r1 p1 v rv => ⟨ρ1, M1, ev, r1, er.grow g1, p1.step fun l M2 ρ2 H2 _ g2 r2 p2 =>
    ⟨ρ2, M2, ev, r2, (er.grow g1).grow g2, p2.step fun h M3 ρ3 H3 _ g3 r3 p3 => ⟨ρ3, M3, x, r3, (rv.grow g2).grow g3, .of p3⟩⟩⟩⟩
end
/-! more arithmetic -/
def mulOk (i j : Int) : Bool := decide (i.natAbs < 2 ^ 64) || decide (j.natAbs < 2 ^ 64) || decide (i.natAbs.log2 + j.natAbs.log2 < 1000000)
def divOk (_ j : Int) : Bool := decide (j ≠ 0) && (decide (j.natAbs < 2 ^ 64) || decide (j.natAbs.log2 < 9000))
def powOk (i j : Int) : Bool := decide (0 ≤ j) && (decide (i.natAbs < 2 ^ 64 ∧ j ≤ 1000000) || decide ((Builtin.Int.intBits i : Int) * j ≤ 2 ^ 27))
def opMul : Op2 := fun x y M => match x, y with
  | .int i, .int j => if mulOk i j then some (.int (i * j), M) else none
  | .ref n, .int k => match M[n]? with
    | some (.lst xs) => if decide (-(2 ^ 63) ≤ k) && decide (k < 2 ^ 63) && decide (xs.length * k.toNat ≤ lim) then some (.ref M.length, M ++ [.lst (List.replicate k.toNat xs).flatten]) else none
    | _ => none
  | _, _ => none
def opDiv : Op2 := opI divOk fun i j => i.fdiv j
def opMod : Op2 := opI (fun _ j => decide (j ≠ 0)) fun i j => i.fmod j
def opPow : Op2 := opI powOk fun i j => i ^ j.toNat
def opShl : Op2 := opI (fun i j => decide (0 ≤ j ∧ j ≤ 1000000 ∧ i.natAbs < 2 ^ 64)) fun i j => i * 2 ^ j.toNat
def opShr : Op2 := opI (fun _ j => decide (0 ≤ j)) fun i j => i / 2 ^ j.toNat
def opAnd : Op2 := opI (fun _ _ => true) fun i j => Builtin.bitAnd i j
def opOr : Op2 := opI (fun _ _ => true) fun i j => Builtin.bitOr i j
def opXor : Op2 := opI (fun _ _ => true) fun i j => Builtin.bitXor i j
def opNeg : Op1 := fun x M => match x with
  | .int i => some (.int (-i), M)
  | _ => none
section
variable {X : Cx} {G : GC}
theorem op_subDD : OpR X (binaryOp .Sub) (rd2 G opSub) := op_dI (C' := fun _ _ => True) (fun pins s σ H x y v u Q I rx ry ⟨i, j, e1, e2, _, q⟩ => op_sub pins s σ H x y v u Q I rx ry ⟨i, j, e1, e2, q⟩) fun _ _ _ => trivial
theorem op_andDD : OpR X (binaryOp .BitAnd) (rd2 G opAnd) := op_dI (C' := fun _ _ => True) (fun pins s σ H x y v u Q I rx ry ⟨i, j, e1, e2, _, q⟩ => L2.op_and pins s σ H x y v u Q I rx ry ⟨i, j, e1, e2, q⟩) fun _ _ _ => trivial
theorem op_orDD : OpR X (binaryOp .BitOr) (rd2 G opOr) := op_dI (C' := fun _ _ => True) (fun pins s σ H x y v u Q I rx ry ⟨i, j, e1, e2, _, q⟩ => L2.op_or pins s σ H x y v u Q I rx ry ⟨i, j, e1, e2, q⟩) fun _ _ _ => trivial
theorem op_xorDD : OpR X (binaryOp .BitXor) (rd2 G opXor) := op_dI (C' := fun _ _ => True) (fun pins s σ H x y v u Q I rx ry ⟨i, j, e1, e2, _, q⟩ => L2.op_xor pins s σ H x y v u Q I rx ry ⟨i, j, e1, e2, q⟩) fun _ _ _ => trivial
theorem op_shlDD : OpR X (binaryOp .LShift) (rd2 G opShl) := op_dI op_shl fun i j h => (of_decide_eq_true h : 0 ≤ j ∧ j ≤ 1000000 ∧ i.natAbs < 2 ^ 64)
theorem op_shrDD : OpR X (binaryOp .RShift) (rd2 G opShr) := op_dI op_shr fun i j h => of_decide_eq_true h
theorem op_modDD : OpR X (binaryOp .Mod) (rd2 G opMod) := op_dI op_modN fun i j h => of_decide_eq_true h
theorem log2_64 {n : Nat} (h : n < 2 ^ 64) : n.log2 < 64 := by
  by_cases h0 : n = 0
  · subst h0; decide
  · exact (Nat.log2_lt h0).mpr h
theorem op_divDD : OpR X (binaryOp .FloorDiv) (rd2 G opDiv) := by
  refine op_dI (C' := fun _ j => j ≠ 0 ∧ j.natAbs.log2 < 9000) (L2.opI fun i j _ _ _ _ _ hc q => floordiv_int hc.1 q (.inl (PyProof.noPylong_of_log2 hc.2))) fun i j h => ?_
  unfold divOk at h
  rw [Bool.and_eq_true, Bool.or_eq_true] at h
  refine ⟨of_decide_eq_true h.1, ?_⟩
  rcases h.2 with h | h
  · have := log2_64 (of_decide_eq_true h); omega
  · exact of_decide_eq_true h
theorem op_powDD : OpR X (binaryOp .Pow) (rd2 G opPow) := by
  refine op_dI (C' := fun i j => 0 ≤ j ∧ (i.natAbs < 2 ^ 64 ∧ j ≤ 1000000 ∨ (Builtin.Int.intBits i : Int) * j ≤ 2 ^ 27)) (L2.opI fun i j _ _ _ _ _ hc q => ?_) fun i j h => ?_
  · rcases hc.2 with h | h
    · exact pow_int_small hc.1 h.2 h.1 q
    · exact pow_int hc.1 h q
  · unfold powOk at h
    rw [Bool.and_eq_true, Bool.or_eq_true] at h
    exact ⟨of_decide_eq_true h.1, h.2.imp of_decide_eq_true of_decide_eq_true⟩
theorem rep_flat {ρ : Nat → Addr} {N : Nat} {H : Hp} {xs : List D} {vs : List V} (r : RepL G ρ N H xs vs) : ∀ k : Nat, RepL G ρ N H (List.replicate k xs).flatten (List.replicate k vs).flatten
  | 0 => .nil
  | k + 1 => by
    rw [List.replicate_succ, List.replicate_succ, List.flatten_cons, List.flatten_cons]
    exact r.append (rep_flat r k)
theorem op_mulDD : OpR X (binaryOp .Mult) (rd2 G opMul) := by
  intro pins s σ H x y v u Q I rx ry ⟨ρ, M, d, e, r, hd, he, p⟩
  unfold opMul at p
  split at p
  · rename_i i j
    have h1 := hd.int'; have h2 := he.int'; subst h1 h2
    split at p
    · rename_i hc
      obtain ⟨t, rfl⟩ := rx
      obtain ⟨t', rfl⟩ := ry
      refine mul_int ⟨.int _, H, I.tok _, ⟨_, rfl⟩, p.int r⟩ ?_
      unfold mulOk at hc
      rw [Bool.or_eq_true, Bool.or_eq_true] at hc
      rcases hc with (hc | hc) | hc
      · have := of_decide_eq_true hc
        exact .of_left (intBits_le_64 (by omega) (by omega))
      · have := of_decide_eq_true hc
        exact .of_right (intBits_le_64 (by omega) (by omega))
      · exact CMulW.ok (of_decide_eq_true hc : i.natAbs.log2 + j.natAbs.log2 < 1000000)
    · exact p.elim
  · rename_i n k
    have h2 := he.int'; subst h2
    obtain ⟨hn, rfl⟩ := hd.ref'
    split at p
    · rename_i xs e1
      obtain ⟨vs, hq, rl⟩ := rel_lst r e1
      split at p
      · rename_i hc
        rw [Bool.and_eq_true, Bool.and_eq_true] at hc
        exact op_rep pins s σ H _ _ v u Q I rx ry ⟨_, k, vs, rfl, rfl, hq, of_decide_eq_true hc.1.1, of_decide_eq_true hc.1.2, by rw [rl.length, ← lim_eq]; exact of_decide_eq_true hc.2, p.lst r (rep_flat rl _)⟩
      · exact p.elim
    · exact p.elim
  · exact p.elim
theorem un_negDD : UnR X (unaryOp .USub) (rd1 G opNeg) := by
  intro pins s σ H x v Q I rx ⟨ρ, M, d, r, hd, p⟩
  unfold opNeg at p
  split at p
  · have h1 := hd.int'; subst h1
    exact un_neg pins s σ H _ v Q I rx ⟨_, rfl, p.int r⟩
  · exact p.elim
end
end MI

set_option Elab.async false
set_option linter.all false
set_option maxRecDepth 100000
namespace MI
open PySem PySem.Spec PyProof.Rows L2
/-! built-ins by values -/
def insI (a : Int) : List Int → List Int
  | [] => [a]
  | b :: r => if a ≤ b then a :: b :: r else b :: insI a r
def sortI : List Int → List Int
  | [] => []
  | a :: r => insI a (sortI r)
theorem insI_perm (a : Int) : ∀ l, (insI a l).Perm (a :: l)
  | [] => .refl _
  | b :: r => by
    unfold insI
    split
    · exact .refl _
    · exact ((insI_perm a r).cons b).trans (.swap a b r)
theorem insI_sorted (a : Int) : ∀ l, l.Pairwise (· ≤ ·) → (insI a l).Pairwise (· ≤ ·)
  | [], _ => by simp [insI]
  | b :: r, h => by
    unfold insI
    rw [List.pairwise_cons] at h
    split
    · rename_i hab
      rw [List.pairwise_cons, List.pairwise_cons]
      refine ⟨fun c hc => ?_, h⟩
      rcases List.mem_cons.mp hc with rfl | hc
      · exact hab
      · exact Int.le_trans hab (h.1 c hc)
    · rename_i hab
      rw [List.pairwise_cons]
      refine ⟨fun c hc => ?_, insI_sorted a r h.2⟩
      rcases List.mem_cons.mp ((insI_perm a r).mem_iff.mp hc) with rfl | hc
      · omega
      · exact h.1 c hc
theorem sortI_perm : ∀ l, (sortI l).Perm l
  | [] => .refl _
  | a :: r => (insI_perm a (sortI r)).trans ((sortI_perm r).cons a)
theorem sortI_sorted : ∀ l, (sortI l).Pairwise (· ≤ ·)
  | [] => by simp [sortI]
  | a :: r => insI_sorted a _ (sortI_sorted r)
theorem sortI_of {l m : List Int} (h : m.Perm l) (hs : m.Pairwise (· ≤ ·)) : m = sortI l := PySem.W.ksm_same (h.trans (sortI_perm l).symm) hs (sortI_sorted l)
def intsOf : List D → Option (List Int) := tupInts
def blsOf : List D → Option (List Bool)
  | [] => some []
  | .bl i :: r => (blsOf r).map (i :: ·)
  | _ :: _ => none
def maxI : List Int → Option Int
  | [] => none
  | a :: r => some (r.foldl (fun m x => if x > m then x else m) a)
def minI : List Int → Option Int
  | [] => none
  | a :: r => some (r.foldl (fun m x => if x < m then x else m) a)
def one (f : D → Mem → Option (D × Mem)) : OpN := fun ds M => match ds with
  | [d] => f d M
  | _ => none
def nInt : OpN := one fun d M => match d with
  | .int i => some (.int i, M)
  | .bl b => some (.int (if b then 1 else 0), M)
  | _ => none
def nAbs : OpN := one fun d M => match d with
  | .int i => some (.int (if i < 0 then -i else i), M)
  | _ => none
def nBool : OpN := one fun d M => match d with
  | .int i => some (.bl (i != 0), M)
  | .bl b => some (.bl b, M)
  | _ => none
def nLen : OpN := one fun d M => match d with
  | .str s => if s.length ≤ lim then some (.int s.length, M) else none
  | d => match seqOf d M with
    | some xs => some (.int xs.length, M)
    | none => none
def nList : OpN := one fun d M => match seqOf d M with
  | some xs => some (.ref M.length, M ++ [.lst xs])
  | none => none
def nTuple : OpN := one fun d M => match seqOf d M with
  | some xs => some (.tup xs, M)
  | none => none
def onInts (f : List Int → Option D) : OpN := one fun d M => match d with
  | .ref n => match getL M n with
    | some xs => match intsOf xs with
      | some ns => (f ns).map (·, M)
      | none => none
    | none => none
  | _ => none
def nSum : OpN := onInts fun ns => some (.int ns.sum)
def nMax : OpN := fun ds M => match ds with
  | [.int i, .int j] => some (.int (if j > i then j else i), M)
  | ds => onInts (fun ns => (maxI ns).map .int) ds M
def nMin : OpN := fun ds M => match ds with
  | [.int i, .int j] => some (.int (if j < i then j else i), M)
  | ds => onInts (fun ns => (minI ns).map .int) ds M
def onBls (f : List Bool → Bool) : OpN := one fun d M => match d with
  | .ref n => match getL M n with
    | some xs => match blsOf xs with
      | some ns => some (.bl (f ns), M)
      | none => none
    | none => none
  | _ => none
def nAll : OpN := onBls fun bs => bs.all id
def nAny : OpN := onBls fun bs => bs.any id
def nSorted : OpN := one fun d M => match d with
  | .ref n => match getL M n with
    | some xs => match intsOf xs with
      | some ns => some (.ref M.length, M ++ [.lst ((sortI ns).map .int)])
      | none => none
    | none => none
  | _ => none
section
variable {X : Cx} {G : GC}
theorem one_ok {f : Value} {g : D → Mem → Option (D × Mem)} (h : ∀ (pins : List (Addr × Obj)) (s : Shared) (σ : St) (H : Hp) (v : V) (us : List Value) (Q : VK) (ρ : Nat → Addr) (M : Mem) (d : D), Inv X pins σ H s → Vals [v] us → Rel G ρ H M → RepV G ρ M.length H d v →
    PostO G ρ M.length H Q (g d M) → wpAny (model X.prog X.w) X.A (call f us) (EP X pins σ Q) X.xe s) : CallR X f (rdn G (one g)) := by
  intro pins s σ H xs us Q I rv ⟨ρ, M, ds, r, rl, p⟩
  unfold one at p
  split at p
  · rename_i d
    simp only [RepL] at rl
    obtain ⟨v, t, rfl, r1, rfl⟩ := rl
    exact h pins s σ H v us Q ρ M d I rv r r1 p
  · exact p.elim
theorem c_int : CallR X (.type "int") (rdn G nInt) := one_ok fun pins s σ H v us Q ρ M d I rv r rd p => by
  split at p
  · have := rd.int'; subst this
    exact call_int1 pins s σ H _ us Q I rv (.inl ⟨_, rfl, p.int r⟩)
  · have := rd.bl'; subst this
    exact call_int1 pins s σ H _ us Q I rv (.inr ⟨_, rfl, p.int r⟩)
  · exact p.elim
theorem c_bool : CallR X (.type "bool") (rdn G nBool) := one_ok fun pins s σ H v us Q ρ M d I rv r rd p => by
  split at p
  · have := rd.int'; subst this
    exact call_bool1 pins s σ H _ us Q I rv (.inl ⟨_, rfl, p.bl r⟩)
  · have := rd.bl'; subst this
    exact call_bool1 pins s σ H _ us Q I rv (.inr ⟨_, rfl, p.bl r⟩)
  · exact p.elim
theorem c_abs : CallR X (.builtin "abs") (rdn G nAbs) := one_ok fun pins s σ H v us Q ρ M d I rv r rd p => by
  split at p
  · have := rd.int'; subst this
    exact call_abs pins s σ H _ us Q I rv ⟨_, rfl, p.int r⟩
  · exact p.elim
theorem c_len (hK : G.K = X.K) : CallR X (.builtin "len") (rdn G nLen) := one_ok fun pins s σ H v us Q ρ M d I rv r rd p => by
  split at p
  · have := rd.str'; subst this
    split at p
    · rename_i hz
      exact call_len_str pins s σ H _ us Q I rv ⟨_, rfl, lim_eq ▸ hz, p.int r⟩
    · exact p.elim
  · split at p
    · rename_i xs e
      obtain ⟨a, vs, rfl, hq, rl⟩ := seqOf_rep r rd e
      refine call_len_seq pins s σ H _ us Q I rv ⟨a, vs, rfl, hK ▸ hq, ?_⟩
      rw [rl.length]
      exact p.int r
    · exact p.elim
theorem c_list (hK : G.K = X.K) : CallR X (.type "list") (rdn G nList) := one_ok fun pins s σ H v us Q ρ M d I rv r rd p => by
  split at p
  · rename_i xs e
    obtain ⟨a, vs, rfl, hq, rl⟩ := seqOf_rep r rd e
    exact call_list_of pins s σ H _ us Q I rv ⟨a, vs, rfl, hK ▸ hq, p.lst r rl⟩
  · exact p.elim
theorem c_tuple (hK : G.K = X.K) : CallR X (.type "tuple") (rdn G nTuple) := one_ok fun pins s σ H v us Q ρ M d I rv r rd p => by
  split at p
  · rename_i xs e
    cases d with
    | tup ys =>
      cases e
      obtain ⟨a, vs, rfl, ha, rl⟩ := rd.tup'
      exact call_tupleT pins s σ H _ us Q I rv ⟨a, vs, rfl, hK ▸ ha.sq, p.same r rd⟩
    | ref n =>
      obtain ⟨hn, rfl⟩ := rd.ref'
      obtain ⟨vs, hq, rl⟩ := rel_getL r e
      rw [hK] at hq
      obtain ⟨u, rfl, rx⟩ := vals1 rv
      cases rx
      obtain ⟨its, r', pl, hz⟩ := I.list hq
      have hlen := r'.length
      refine call_tuple_list pl.isList (fun h' kp => ?_) (by simp only [List.size_toArray] <;> omega)
      have I1 : Inv X pins σ H { s with heap := h' } := I.kept (t' := s.toks) kp
      exact ⟨.ref h'.objs.size, _, Inv.tnew (t' := s.toks) I1 r' hz, rfl, p.tup r rl _ _ I1.fresh rfl⟩
    | _ => cases e
  · exact p.elim
theorem onInts_ok {f : Value} {g : List Int → Option D} (h : ∀ (pins : List (Addr × Obj)) (s : Shared) (σ : St) (H : Hp) (a : Addr) (ns : List Int) (us : List Value) (Q : VK) (d : D), Inv X pins σ H s → Vals [.ref a] us → SqL G.K H a (ns.map V.int) → g ns = some d →
    (∀ v, (∀ ρ N, RepV G ρ N H d v) → Q v H) → wpAny (model X.prog X.w) X.A (call f us) (EP X pins σ Q) X.xe s) : CallR X f (rdn G (onInts g)) := one_ok fun pins s σ H v us Q ρ M d I rv r rd p => by
  split at p
  · rename_i n
    obtain ⟨hn, rfl⟩ := rd.ref'
    split at p
    · rename_i xs e
      split at p
      · rename_i ns e2
        obtain ⟨vs, hq, rl⟩ := rel_getL r e
        have q := tupInts_ok e2 rl
        subst q
        cases e3 : g ns with
        | none => rw [e3] at p; exact p.elim
        | some d => rw [e3] at p; exact h pins s σ H _ ns us Q d I rv hq e3 fun v hv => p.same r (hv _ _)
      · exact p.elim
    · exact p.elim
  · exact p.elim
theorem c_sum (hK : G.K = X.K) (hc : X.calm = true) : CallR X (.builtin "sum") (rdn G nSum) := onInts_ok fun pins s σ H a ns us Q d I rv hq e q => by
  cases e
  exact cr_sum hc pins s σ H _ us Q I rv ⟨a, ns, rfl, hK ▸ hq, q _ fun _ _ => by simp only [RepV]⟩
theorem fold_max : ∀ (l : List Int) (a : Int), (l.foldl (fun m x => if x > m then x else m) a = a ∨ l.foldl (fun m x => if x > m then x else m) a ∈ l) ∧ a ≤ l.foldl (fun m x => if x > m then x else m) a ∧ ∀ y ∈ l, y ≤ l.foldl (fun m x => if x > m then x else m) a
  | [], a => ⟨.inl rfl, Int.le_refl _, fun _ h => nomatch h⟩
  | b :: r, a => by
    rw [List.foldl_cons]
    obtain ⟨h1, h2, h3⟩ := fold_max r (if b > a then b else a)
    refine ⟨?_, ?_, fun y hy => ?_⟩
    · rcases h1 with h1 | h1
      · rw [h1]
        split
        · exact .inr List.mem_cons_self
        · exact .inl rfl
      · exact .inr (List.mem_cons_of_mem _ h1)
    · refine Int.le_trans ?_ h2
      split <;> omega
    · rcases List.mem_cons.mp hy with rfl | hy
      · refine Int.le_trans ?_ h2
        split <;> omega
      · exact h3 y hy
theorem fold_min : ∀ (l : List Int) (a : Int), (l.foldl (fun m x => if x < m then x else m) a = a ∨ l.foldl (fun m x => if x < m then x else m) a ∈ l) ∧ l.foldl (fun m x => if x < m then x else m) a ≤ a ∧ ∀ y ∈ l, l.foldl (fun m x => if x < m then x else m) a ≤ y
  | [], a => ⟨.inl rfl, Int.le_refl _, fun _ h => nomatch h⟩
  | b :: r, a => by
    rw [List.foldl_cons]
    obtain ⟨h1, h2, h3⟩ := fold_min r (if b < a then b else a)
    refine ⟨?_, ?_, fun y hy => ?_⟩
    · rcases h1 with h1 | h1
      · rw [h1]
        split
        · exact .inr List.mem_cons_self
        · exact .inl rfl
      · exact .inr (List.mem_cons_of_mem _ h1)
    · refine Int.le_trans h2 ?_
      split <;> omega
    · rcases List.mem_cons.mp hy with rfl | hy
      · refine Int.le_trans h2 ?_
        split <;> omega
      · exact h3 y hy
theorem maxI_ok {ns : List Int} {m : Int} (h : maxI ns = some m) : m ∈ ns ∧ ∀ y, y ∈ ns → y ≤ m := by
  cases ns with
  | nil => cases h
  | cons a r =>
    cases h
    obtain ⟨h1, h2, h3⟩ := fold_max r a
    refine ⟨?_, fun y hy => ?_⟩
    · rcases h1 with h1 | h1
      · rw [h1]; exact List.mem_cons_self
      · exact List.mem_cons_of_mem _ h1
    · rcases List.mem_cons.mp hy with rfl | hy
      · exact h2
      · exact h3 y hy
theorem minI_ok {ns : List Int} {m : Int} (h : minI ns = some m) : m ∈ ns ∧ ∀ y, y ∈ ns → m ≤ y := by
  cases ns with
  | nil => cases h
  | cons a r =>
    cases h
    obtain ⟨h1, h2, h3⟩ := fold_min r a
    refine ⟨?_, fun y hy => ?_⟩
    · rcases h1 with h1 | h1
      · rw [h1]; exact List.mem_cons_self
      · exact List.mem_cons_of_mem _ h1
    · rcases List.mem_cons.mp hy with rfl | hy
      · exact h2
      · exact h3 y hy
theorem c_max (hK : G.K = X.K) (hc : X.calm = true) : CallR X (.builtin "max") (rdn G nMax) := by
  intro pins s σ H xs us Q I rv ⟨ρ, M, ds, r, rl, p⟩
  unfold nMax at p
  split at p
  · rename_i i j
    simp only [RepL] at rl
    obtain ⟨v, t, rfl, r1, v2, t2, rfl, r2, rfl⟩ := rl
    rw [r1.int', r2.int'] at rv
    exact call_max2 hc pins s σ H _ us Q I rv ⟨i, j, rfl, p.int r⟩
  · refine onInts_ok (G := G) (fun pins s σ H a ns us Q d I rv hq e q => ?_) pins s σ H xs us Q I rv ⟨ρ, M, ds, r, rl, p⟩
    cases hm : maxI ns with
    | none => rw [hm] at e; cases e
    | some m =>
      rw [hm] at e
      cases e
      obtain ⟨h1, h2⟩ := maxI_ok hm
      refine cr_max hc pins s σ H _ us Q I rv ⟨a, ns, rfl, hK ▸ hq, by cases ns <;> simp_all [maxI], fun m' h1' h2' => ?_⟩
      have : m' = m := Int.le_antisymm (h2 _ h1') (h2' _ h1)
      subst this
      exact q _ fun _ _ => by simp only [RepV]
theorem c_min (hK : G.K = X.K) (hc : X.calm = true) : CallR X (.builtin "min") (rdn G nMin) := by
  intro pins s σ H xs us Q I rv ⟨ρ, M, ds, r, rl, p⟩
  unfold nMin at p
  split at p
  · rename_i i j
    simp only [RepL] at rl
    obtain ⟨v, t, rfl, r1, v2, t2, rfl, r2, rfl⟩ := rl
    rw [r1.int', r2.int'] at rv
    exact call_min2 hc pins s σ H _ us Q I rv ⟨i, j, rfl, p.int r⟩
  · refine onInts_ok (G := G) (fun pins s σ H a ns us Q d I rv hq e q => ?_) pins s σ H xs us Q I rv ⟨ρ, M, ds, r, rl, p⟩
    cases hm : minI ns with
    | none => rw [hm] at e; cases e
    | some m =>
      rw [hm] at e
      cases e
      obtain ⟨h1, h2⟩ := minI_ok hm
      refine cr_min hc pins s σ H _ us Q I rv ⟨a, ns, rfl, hK ▸ hq, by cases ns <;> simp_all [minI], fun m' h1' h2' => ?_⟩
      have : m' = m := Int.le_antisymm (h2' _ h1) (h2 _ h1')
      subst this
      exact q _ fun _ _ => by simp only [RepV]
theorem c_sorted (hK : G.K = X.K) : CallR X (.builtin "sorted") (rdn G nSorted) := one_ok fun pins s σ H v us Q ρ M d I rv r rd p => by
  split at p
  · rename_i n
    obtain ⟨hn, rfl⟩ := rd.ref'
    split at p
    · rename_i xs e
      split at p
      · rename_i ns e2
        obtain ⟨vs, hq, rl⟩ := rel_getL r e
        have q := tupInts_ok e2 rl
        subst q
        refine cr_sortedI pins s σ H _ us Q I rv ⟨_, ns, rfl, hK ▸ hq, fun ns' a hp hs ha => ?_⟩
        have es := sortI_of hp hs
        subst es
        have ra : ∀ l : List Int, RepL G ρ M.length H (l.map D.int) (l.map V.int) := by
          intro l
          induction l with
          | nil => exact .nil
          | cons x l ih => exact .cons (by simp only [RepV]) ih
        exact p.lst r (ra _) a ha
      · exact p.elim
    · exact p.elim
  · exact p.elim
theorem blsOf_ok {ρ : Nat → Addr} {N : Nat} {H : Hp} : ∀ {xs : List D} {vs : List V} {ns : List Bool}, blsOf xs = some ns → RepL G ρ N H xs vs → vs = ns.map V.bl
  | [], vs, ns, e, r => by
    simp only [RepL] at r
    cases e
    subst r
    rfl
  | x :: xs, vs, ns, e, r => by
    simp only [RepL] at r
    obtain ⟨v, t, rfl, r1, r2⟩ := r
    cases x with
    | bl i =>
      simp only [blsOf] at e
      cases e1 : blsOf xs with
      | none => rw [e1] at e; cases e
      | some ms =>
        rw [e1] at e
        cases e
        rw [r1.bl', blsOf_ok e1 r2]
        rfl
    | _ => cases e
theorem onBls_ok {f : Value} {g : List Bool → Bool} (h : ∀ (pins : List (Addr × Obj)) (s : Shared) (σ : St) (H : Hp) (a : Addr) (ns : List Bool) (us : List Value) (Q : VK), Inv X pins σ H s → Vals [.ref a] us → SqL G.K H a (ns.map V.bl) →
    Q (.bl (g ns)) H → wpAny (model X.prog X.w) X.A (call f us) (EP X pins σ Q) X.xe s) : CallR X f (rdn G (onBls g)) := one_ok fun pins s σ H v us Q ρ M d I rv r rd p => by
  split at p
  · rename_i n
    obtain ⟨hn, rfl⟩ := rd.ref'
    split at p
    · rename_i xs e
      split at p
      · rename_i ns e2
        obtain ⟨vs, hq, rl⟩ := rel_getL r e
        have q := blsOf_ok e2 rl
        subst q
        exact h pins s σ H _ ns us Q I rv hq (p.bl r)
      · exact p.elim
    · exact p.elim
  · exact p.elim
theorem c_all (hK : G.K = X.K) (hc : X.calm = true) : CallR X (.builtin "all") (rdn G nAll) := onBls_ok fun pins s σ H a ns us Q I rv hq q => cr_all hc pins s σ H _ us Q I rv ⟨a, ns, rfl, hK ▸ hq, q⟩
theorem c_any (hK : G.K = X.K) (hc : X.calm = true) : CallR X (.builtin "any") (rdn G nAny) := onBls_ok fun pins s σ H a ns us Q I rv hq q => cr_any hc pins s σ H _ us Q I rv ⟨a, ns, rfl, hK ▸ hq, q⟩
end
end MI

set_option Elab.async false
set_option linter.all false
set_option maxRecDepth 100000
namespace MI
open PySem PySem.Spec PyProof.Rows L2
/-! statements -/
def sSkip : DenS := fun ev M => .nx ev M
def sBrk : DenS := fun ev M => .bk ev M
def sCnt : DenS := fun ev M => .ct ev M
def sRetN : DenS := fun ev M => .rt .non M
def sRet (f : Den) : DenS := fun ev M => (f ev M).bindO ev fun d M1 => .rt d M1
def sDrop (f : Den) : DenS := fun ev M => (f ev M).bindO ev fun _ M1 => .nx ev M1
def sSet (i : Nat) (f : Den) : DenS := fun ev M => (f ev M).bindO ev fun d M1 => .nx (ev.set i (some d)) M1
def sSeq (a b : DenS) : DenS := fun ev M => (a ev M).bind b
def sIf (t : DenT) (a b : DenS) : DenS := fun ev M => (t ev M).bindO ev fun k M1 => if k then a ev M1 else b ev M1
def sWhile (n : Nat) (t : DenT) (b : DenS) : DenS := fun ev M =>
  match n with
  | 0 => .st
  | n + 1 => (t ev M).bindO ev fun k M1 => if k then
      (match b ev M1 with
        | .nx ev2 M2 => sWhile n t b ev2 M2
        | .ct ev2 M2 => sWhile n t b ev2 M2
        | .bk ev2 M2 => .nx ev2 M2
        | r => r)
    else .nx ev M1
/-- targets -/
abbrev TgD := D → Env → Option Env
def gN (i : Nat) : TgD := fun d ev => some (ev.set i (some d))
abbrev TgDs := List D → Env → Option Env
def gNil : TgDs := fun ds ev => match ds with
  | [] => some ev
  | _ => none
def gCons (t : TgD) (u : TgDs) : TgDs := fun ds ev => match ds with
  | d :: r => match t d ev with
    | some ev1 => u r ev1
    | none => none
  | [] => none
def gT (u : TgDs) : TgD := fun d ev => match d with
  | .tup xs => u xs ev
  | _ => none
def sAsg (f : Den) (g : TgD) : DenS := fun ev M => (f ev M).bindO ev fun d M1 => match g d ev with
  | some ev1 => .nx ev1 M1
  | none => .st
/-- what is walked: the items, and whether all is as it was -/
abbrev ItD := Env → Mem → R (List D × (Mem → Bool))
def forL (g : TgD) (b : DenS) (chk : Mem → Bool) : List D → DenS
  | [], ev, M => if chk M then .nx ev M else .st
  | x :: xs, ev, M => if chk M then
      (match g x ev with
      | some ev1 => (match b ev1 M with
        | .nx ev2 M2 => forL g b chk xs ev2 M2
        | .ct ev2 M2 => forL g b chk xs ev2 M2
        | .bk ev2 M2 => .nx ev2 M2
        | r => r)
      | none => .st)
    else .st
def sFor (it : ItD) (g : TgD) (b : DenS) : DenS := fun ev M => (it ev M).bindO ev fun p M1 => forL g b p.2 p.1 ev M1
section
variable {X : Cx} {G : GC} {W : WX} {e c : Expr} {es : List Expr} {a b : List Stmt} {st : Stmt} {fe : Den} {fs fb : DenS} {ft : DenT} {pos p : Pos} {x : Str}
theorem tS_of {f : DenS} {T : Ends} {σ : St} {H : Hp} (h : tS X G W f T σ H) : ∃ ρ M ev, Rel G ρ H M ∧ RepE X G ρ M.length H σ ev ∧ PostS X G W ρ M.length H T (f ev M) := h
theorem s_pass : PS X (.Pass pos) (tS X G W sSkip) := PS.imp ps_pass fun T σ H ⟨ρ, M, ev, r, er, p⟩ => p ρ σ H .refl r er
theorem s_brk : PS X (.Break pos) (tS X G W sBrk) := PS.imp ps_break fun T σ H ⟨ρ, M, ev, r, er, p⟩ => p ρ σ H .refl r er
theorem s_cnt : PS X (.Continue pos) (tS X G W sCnt) := PS.imp ps_continue fun T σ H ⟨ρ, M, ev, r, er, p⟩ => p ρ σ H .refl r er
theorem s_retN : PS X (.Return none pos) (tS X G W sRetN) := PS.imp ps_retN fun T σ H ⟨ρ, M, ev, r, er, p⟩ => p ρ .non H .refl r (by simp only [RepV])
theorem s_ret (h : PE X e (tI X G W fe)) : PS X (.Return (some e) pos) (tS X G W (sRet fe)) :=
  PS.imp (ps_ret h) fun T σ H ⟨ρ, M, ev, r, er, p⟩ => ⟨ρ, M, ev, r, er, p.stepR er fun d M1 ρ1 H1 _ g1 r1 p1 v rv => p1 ρ1 v H1 .refl r1 rv⟩
theorem s_drop (h : PE X e (tI X G W fe)) (hs : swapsWith e none pos.line X.env = pure false) : PS X (.Expr e pos) (tS X G W (sDrop fe)) :=
  PS.imp (ps_expr h hs) fun T σ H ⟨ρ, M, ev, r, er, p⟩ => ⟨ρ, M, ev, r, er, p.stepR er fun d M1 ρ1 H1 _ g1 r1 p1 v rv => p1 ρ1 σ H1 .refl r1 (er.grow g1)⟩
theorem tS_set {i : Nat} {T : Ends} {σ : St} {H : Hp} (h : tS X G W (sSet i fe) T σ H) : tAsg (tI X G W fe) (gName i) T σ H := by
  obtain ⟨ρ, M, ev, r, er, p⟩ := h
  exact ⟨ρ, M, ev, r, er, p.stepR er fun d M1 ρ1 H1 _ g1 r1 p1 v rv => p1 ρ1 _ H1 .refl r1 ((er.grow g1).set rv i)⟩
theorem s_set {i : Nat} (hN : X.N.Nodup) (hi : X.N[i]? = some x) (hx : Loc X.env.scope x) (h : PE X e (tI X G W fe)) (hs : swapsWith e (some (.Name x p)) pos.line X.env = pure false) (hf : X.fn x = true ∨ X.env.scope.names.lookup x = some .local) :
    PS X (.Assign [.Name x p] e pos) (tS X G W (sSet i fe)) := PS.imp (ps_set hN hi hx h hs hf) fun T σ H h => tS_set h
theorem ss_nil : PSs X [] (tS X G W sSkip) := PSs.imp pss_nil fun T σ H ⟨ρ, M, ev, r, er, p⟩ => p ρ σ H .refl r er
theorem ss_cons (h1 : PS X st (tS X G W fs)) (h2 : PSs X a (tS X G W fb)) : PSs X (st :: a) (tS X G W (sSeq fs fb)) :=
  PSs.imp (pss_cons h1 h2) fun T σ H ⟨ρ, M, ev, r, er, p⟩ => ⟨ρ, M, ev, r, er, p.stepO (fun _ _ h => h) (fun _ _ h => h) (fun _ _ h => h) fun ev1 M1 ρ1 σ1 H1 _ g1 r1 e1 p1 => ⟨ρ1, M1, ev1, r1, e1, p1⟩⟩
theorem ss_one (h1 : PS X st (tS X G W fs)) : PSs X [st] (tS X G W fs) := pss_one h1
theorem s_if (hc : PT X c (tT X G W ft)) (ha : PSs X a (tS X G W fs)) (hb : PSs X b (tS X G W fb)) : PS X (.If c a b pos) (tS X G W (sIf ft fs fb)) := by
  refine PS.imp (ps_if hc ha hb) fun T σ H ⟨ρ, M, ev, r, er, p⟩ => ⟨ρ, M, ev, r, er, p.stepR er fun d M1 ρ1 H1 _ g1 r1 p1 => ?_⟩
  cases d with
  | true => exact iteT ⟨ρ1, M1, ev, r1, er.grow g1, p1⟩
  | false => exact iteF ⟨ρ1, M1, ev, r1, er.grow g1, p1⟩
/-- the turn's end of a loop -/
theorem turn_end {T : Ends} {ρ : Nat → Addr} {N : Nat} {H : Hp} {r : O} {k : Env → Mem → O} {Nx : St → Hp → Prop}
    (p : PostS X G W ρ N H T (match (generalizing := false) r with
        | .nx ev2 M2 => k ev2 M2
        | .ct ev2 M2 => k ev2 M2
        | .bk ev2 M2 => .nx ev2 M2
        | r => r))
    (hk : ∀ ev2 M2 ρ' σ' H', Grow G ρ N H ρ' M2.length H' → Rel G ρ' H' M2 → RepE X G ρ' M2.length H' σ' ev2 → PostS X G W ρ' M2.length H' T (k ev2 M2) → Nx σ' H') :
    PostS X G W ρ N H { T with nx := Nx, ct := Nx, bk := T.nx } r := by
  cases r with
  | nx ev M' => exact fun ρ2 σ2 H2 g2 r2 e2 => hk ev M' ρ2 σ2 H2 g2 r2 e2 (PostS.trans p g2)
  | ct ev M' => exact fun ρ2 σ2 H2 g2 r2 e2 => hk ev M' ρ2 σ2 H2 g2 r2 e2 (PostS.trans p g2)
  | bk ev M' => exact p
  | rt d M' => exact p
  | ex c fs ev M' => exact p
  | st => exact p
theorem s_while {n : Nat} (hp : PassesOwn (model X.prog X.w) X.A X.env X.xe) (hc : PT X c (tT X G W ft)) (hb : PSs X b (tS X G W fb)) : PS X (.While c b [] pos) (tS X G W (sWhile n ft fb)) := by
  refine PS.imp (ps_while hp hc hb) fun T σ H ⟨ρ, M, ev, r, er, p⟩ => ?_
  refine ⟨fun m σ H => ∃ ρ M ev, Rel G ρ H M ∧ RepE X G ρ M.length H σ ev ∧ PostS X G W ρ M.length H T (sWhile m ft fb ev M), ⟨n, ρ, M, ev, r, er, p⟩, ?_⟩
  rintro m σ H ⟨ρ, M, ev, r, er, p⟩
  cases m with
  | zero => exact p.elim
  | succ m =>
    unfold sWhile at p
    refine ⟨ρ, M, ev, r, er, p.stepR er fun d M1 ρ1 H1 _ g1 r1 p1 => ?_⟩
    cases d with
    | false => exact iteF (p1 ρ1 σ H1 .refl r1 (er.grow g1))
    | true =>
      refine iteT ⟨fun σ' H' => ∃ ρ M ev, Rel G ρ H' M ∧ RepE X G ρ M.length H' σ' ev ∧ PostS X G W ρ M.length H' T (sWhile m ft fb ev M), fun σ' H' h => ⟨m, Nat.lt_succ_self _, h⟩, ρ1, M1, ev, r1, er.grow g1, ?_⟩
      exact turn_end p1 fun ev2 M2 ρ2 σ2 H2 g2 r2 e2 p2 => ⟨ρ2, M2, ev2, r2, e2, p2⟩
/-! targets -/
/-- an item: a value, or a pair that a walk has just made -/
def ItR (pr : Bool) (G : GC) (ρ : Nat → Addr) (N : Nat) (H : Hp) (d : D) (v : V) : Prop := match pr with
  | false => RepV G ρ N H d v
  | true => ∃ a x y vx vy, v = .ref a ∧ d = .tup [x, y] ∧ H a = some (.tup [vx, vy]) ∧ RepV G ρ N H x vx ∧ RepV G ρ N H y vy
/-- only the slots is have changed -/
def Sets (is : List Nat) (σ σ1 : St) : Prop := σ1.length = σ.length ∧ ∀ j, j ∉ is → σ1[j]? = σ[j]?
theorem Sets.trans {is js : List Nat} {σ σ1 σ2 : St} (a : Sets is σ σ1) (b : Sets js σ1 σ2) : Sets (is ++ js) σ σ2 :=
  ⟨b.1.trans a.1, fun j hj => by
    rw [List.mem_append, not_or] at hj
    exact (b.2 j hj.2).trans (a.2 j hj.1)⟩
def tgR (X : Cx) (G : GC) (pr : Bool) (g : TgD) (is : List Nat) : TG := fun v σ H Q => ∃ ρ M ev d, Rel G ρ H M ∧ RepE X G ρ M.length H σ ev ∧ ItR pr G ρ M.length H d v ∧ ∃ ev1, g d ev = some ev1 ∧ ∀ σ1, RepE X G ρ M.length H σ1 ev1 → Sets is σ σ1 → Q σ1 H
def tgRs (X : Cx) (G : GC) (g : TgDs) (is : List Nat) : TGs := fun vs σ H Q => ∃ ρ M ev ds, Rel G ρ H M ∧ RepE X G ρ M.length H σ ev ∧ RepL G ρ M.length H ds vs ∧ ∃ ev1, g ds ev = some ev1 ∧ ∀ σ1, RepE X G ρ M.length H σ1 ev1 → Sets is σ σ1 → Q σ1 H
theorem PG.imp {tg : Expr} {t t' : TG} (h : PG X tg t) (w : ∀ v σ H Q, t' v σ H Q → t v σ H Q) : PG X tg t' := ⟨fun pins s σ H v u Q I r q => h.run pins s σ H v u Q I r (w v σ H Q q)⟩
theorem PGs.imp {tg : List Expr} {t t' : TGs} (h : PGs X tg t) (w : ∀ v σ H Q, t' v σ H Q → t v σ H Q) : PGs X tg t' := ⟨fun pins s σ H v u Q I r q => h.run pins s σ H v u Q I r (w v σ H Q q)⟩
theorem g_name {i : Nat} (hN : X.N.Nodup) (hi : X.N[i]? = some x) (hx : Loc X.env.scope x) (hf : X.fn x = true ∨ X.env.scope.names.lookup x = some .local) : PG X (.Name x pos) (tgR X G false (gN i) [i]) := by
  refine PG.imp (pg_name hN hi hx hf) fun v σ H Q ⟨ρ, M, ev, d, r, er, rv, ev1, e, q⟩ => ?_
  cases e
  refine q _ (er.set rv i) ⟨by simp, fun j hj => List.getElem?_set_ne fun e => hj (List.mem_singleton.mpr e.symm)⟩
theorem gs_nil : PGs X [] (tgRs X G gNil []) := by
  refine PGs.imp pgs_nil fun v σ H Q ⟨ρ, M, ev, ds, r, er, rv, ev1, e, q⟩ => ?_
  cases ds with
  | nil =>
    cases e
    simp only [RepL] at rv
    exact ⟨rv, q _ er ⟨rfl, fun _ _ => rfl⟩⟩
  | cons d r => cases e
theorem gs_cons {g : TgD} {u : TgDs} {is js : List Nat} (h1 : PG X e (tgR X G false g is)) (h2 : PGs X es (tgRs X G u js)) (hs : (assignEach (e :: es) X.env).map (·.2) = assign e X.env :: (assignEach es X.env).map (·.2)) : PGs X (e :: es) (tgRs X G (gCons g u) (is ++ js)) := by
  refine PGs.imp (pgs_cons h1 h2 hs) fun v σ H Q ⟨ρ, M, ev, ds, r, er, rv, ev1, eq, q⟩ => ?_
  cases ds with
  | nil => cases eq
  | cons d ds =>
    simp only [RepL] at rv
    obtain ⟨w, t, rfl, r1, r2⟩ := rv
    simp only [gCons] at eq
    cases e2 : g d ev with
    | none => rw [e2] at eq; cases eq
    | some ev2 =>
      rw [e2] at eq
      exact ⟨w, t, rfl, ρ, M, ev, d, r, er, r1, ev2, e2, fun σ2 er2 s2 => ⟨ρ, M, ev2, ds, r, er2, r2, ev1, eq, fun σ3 er3 s3 => q σ3 er3 (s2.trans s3)⟩⟩
def gLen (u : TgDs) (n : Nat) : Prop := ∀ ds ev ev1, u ds ev = some ev1 → ds.length = n
theorem gLen_nil : gLen gNil 0 := fun ds ev ev1 h => by
  cases ds with
  | nil => rfl
  | cons d r => cases h
theorem gLen_cons {g : TgD} {u : TgDs} {n : Nat} (h : gLen u n) : gLen (gCons g u) (n + 1) := fun ds ev ev1 q => by
  cases ds with
  | nil => cases q
  | cons d r =>
    simp only [gCons] at q
    cases e2 : g d ev with
    | none => rw [e2] at q; cases q
    | some ev2 => rw [e2] at q; rw [List.length_cons, h r ev2 ev1 q]
theorem g_tup {pr : Bool} {k n : Nat} {u : TgDs} {is : List Nat} (hK : G.K = X.K) (hc : X.calm = true) (h : PGs X es (tgRs X G u is)) (hl : gLen u n) (hn : (assignEach es X.env).length = n) (hst : (assignEach es X.env).findIdx? (·.1) = none) : PG X (.Tuple es k pos) (tgR X G pr (gT u) is) := by
  refine PG.imp (pg_tup hc h hn hst) fun v σ H Q ⟨ρ, M, ev, d, r, er, rv, ev1, e, q⟩ => ?_
  cases pr with
  | false =>
    cases d with
    | tup xs =>
      obtain ⟨a, vs, rfl, ha, rl⟩ := RepV.tup' rv
      exact ⟨a, vs, rfl, hK ▸ ha.sq, by rw [rl.length]; exact hl xs ev ev1 e, ρ, M, ev, xs, r, er, rl, ev1, e, q⟩
    | _ => cases e
  | true =>
    obtain ⟨a, x, y, vx, vy, rfl, rfl, ha, rx, ry⟩ := rv
    exact ⟨a, [vx, vy], rfl, .of ha, hl _ ev ev1 e, ρ, M, ev, [x, y], r, er, .cons rx (.one ry), ev1, e, q⟩
theorem s_asg {tg : Expr} {g : TgD} {is : List Nat} (he : PE X e (tI X G W fe)) (hg : PG X tg (tgR X G false g is)) (hs : swapsWithSole [tg] e pos.line X.env = pure false) (hw : swappedStores [tg] e X.env = pure none) (h1 : (assignEach [tg] X.env).map (·.2) = [assign tg X.env]) :
    PS X (.Assign [tg] e pos) (tS X G W (sAsg fe g)) := by
  refine PS.imp (ps_asg he hg hs hw h1) fun T σ H ⟨ρ, M, ev, r, er, p⟩ => ⟨ρ, M, ev, r, er, p.stepR er fun d M1 ρ1 H1 _ g1 r1 p1 v rv => ?_⟩
  cases e2 : g d ev with
  | none => rw [e2] at p1; exact p1.elim
  | some ev2 => rw [e2] at p1; exact ⟨ρ1, M1, ev, d, r1, er.grow g1, rv, ev2, e2, fun σ2 er2 _ => p1 ρ1 σ2 H1 .refl r1 er2⟩
/-! for -/
structure WalkD (pr : Bool) (G : GC) (J : It) (xs : List D) (chk : Mem → Bool) (ρ0 : Nat → Addr) (N0 : Nat) (H0 : Hp) : Prop where
  goes : ∀ i ρ H M, i < xs.length → Grow G ρ0 N0 H0 ρ M.length H → Rel G ρ H M → chk M = true → J.go i H
  stops : ∀ ρ H M, Grow G ρ0 N0 H0 ρ M.length H → Rel G ρ H M → chk M = true → J.stop xs.length H
  yields : ∀ i ρ H M x H', i < xs.length → Grow G ρ0 N0 H0 ρ M.length H → Rel G ρ H M → chk M = true → J.yld i H x H' → Grow G ρ M.length H ρ M.length H' ∧ Rel G ρ H' M ∧ ∃ d, xs[i]? = some d ∧ ItR pr G ρ M.length H' d x
abbrev GW (pr : Bool) (G : GC) (R : It → Hp → Prop) : Good (List D × (Mem → Bool)) := fun ρ M H p => ∀ J, WalkD pr G J p.1 p.2 ρ M.length H → R J H
def tW (pr : Bool) (X : Cx) (G : GC) (W : WX) (f : ItD) : TI := fun σ H R => ∃ ρ M ev, Rel G ρ H M ∧ RepE X G ρ M.length H σ ev ∧ PostR G W σ ρ M.length H (GW pr G R) (f ev M)
theorem s_for {pr : Bool} {tg iter : Expr} {fi : ItD} {g : TgD} {is : List Nat} (hp : PassesOwn (model X.prog X.w) X.A X.env X.xe) (hc : X.calm = true) (hi : PI X tg iter (tW pr X G W fi)) (hg : PG X tg (tgR X G pr g is)) (hb : PSs X b (tS X G W fb)) (hs : ∀ x, foldedSetIterable iter X.env x = pure x) :
    PS X (.For tg iter b [] pos) (tS X G W (sFor fi g fb)) := by
  refine PS.imp (ps_for hp hc hi hg hb hs) fun T σ H ⟨ρ, M, ev, r, er, p⟩ => ⟨ρ, M, ev, r, er, p.stepR er fun d M1 ρ1 H1 _ g1 r1 p1 J w => ?_⟩
  obtain ⟨xs, chk⟩ := d
  refine ⟨fun i m σ H => m = xs.length - i ∧ i ≤ xs.length ∧ ∃ ρ M ev, Grow G ρ1 M1.length H1 ρ M.length H ∧ Rel G ρ H M ∧ RepE X G ρ M.length H σ ev ∧ PostS X G W ρ M.length H T (forL g fb chk (xs.drop i) ev M),
    ⟨xs.length, by simp, Nat.zero_le _, ρ1, M1, ev, .refl, r1, er.grow g1, by rw [List.drop_zero]; exact p1⟩, ?_⟩
  rintro i m σ H ⟨rfl, hi, ρ, M, ev, gr, r, er, p⟩
  by_cases hlt : i < xs.length
  · have hd : xs.drop i = xs[i] :: xs.drop (i + 1) := List.drop_eq_getElem_cons hlt
    rw [hd] at p
    simp only [forL] at p
    cases hchk : chk M with
    | false => rw [hchk] at p; exact p.elim
    | true =>
      rw [hchk] at p
      simp only [if_true] at p
      refine .inr ⟨w.goes i ρ H M hlt gr r hchk, fun σ' H' => ∃ ρ M ev, Grow G ρ1 M1.length H1 ρ M.length H' ∧ Rel G ρ H' M ∧ RepE X G ρ M.length H' σ' ev ∧ PostS X G W ρ M.length H' T (forL g fb chk (xs.drop (i + 1)) ev M),
        fun σ' H' h => ⟨xs.length - (i + 1), by omega, rfl, hlt, h⟩, fun x H' y => ?_⟩
      obtain ⟨gy, ry, d, e1, rv⟩ := w.yields i ρ H M x H' hlt gr r hchk y
      have e2 : xs[i] = d := by
        have := List.getElem?_eq_getElem hlt
        rw [this] at e1
        exact Option.some.inj e1
      subst e2
      cases e3 : g xs[i] ev with
      | none => rw [e3] at p; exact p.elim
      | some ev1 =>
        rw [e3] at p
        refine ⟨ρ, M, ev, xs[i], ry, er.grow gy, rv, ev1, e3, fun σ1 er1 _ => ⟨ρ, M, ev1, ry, er1, ?_⟩⟩
        exact turn_end (PostS.trans p gy) fun ev2 M2 ρ2 σ2 H2 g2 r2 e2 p2 => ⟨ρ2, M2, ev2, (gr.trans gy).trans g2, r2, e2, p2⟩
  · have e : i = xs.length := by omega
    subst e
    rw [List.drop_length] at p
    simp only [forL] at p
    cases hchk : chk M with
    | false => rw [hchk] at p; exact p.elim
    | true => rw [hchk] at p; exact .inl ⟨w.stops ρ H M gr r hchk, p ρ σ H .refl r er⟩
end
end MI

set_option Elab.async false
set_option linter.all false
set_option maxRecDepth 100000
namespace MI
open PySem PySem.Spec PyProof.Rows L2
/-! what may be walked -/
def cellIs (n : Nat) (xs : List D) (M : Mem) : Bool := match getL M n with
  | some ys => D.beqL ys xs
  | none => false
theorem cellIs_ok {n : Nat} {xs : List D} {M : Mem} (h : cellIs n xs M = true) : getL M n = some xs := by
  unfold cellIs at h
  cases e : getL M n with
  | none => rw [e] at h; cases h
  | some ys => rw [e] at h; rw [D.eqL_of ys xs h]
def yes : Mem → Bool := fun _ => true
def strItems (z : Str) : List D := z.cps.toList.map fun c => .str ⟨#[c]⟩
def itAny (f : Den) : ItD := fun ev M => (f ev M).bind fun d M1 => match d with
  | .tup xs => .ok (xs, yes) M1
  | .ref n => match getL M1 n with
    | some xs => .ok (xs, cellIs n xs) M1
    | none => .st
  | .str z => .ok (strItems z, yes) M1
  | _ => .st
def big (i : Int) : Bool := decide (-(2 ^ 62) ≤ i) && decide (i < 2 ^ 62)
def rangeD (lo : Int) : Nat → List D
  | 0 => []
  | n + 1 => .int lo :: rangeD (lo + 1) n
def itRange (f : DenL) : ItD := fun ev M => (f ev M).bind fun ds M1 => match ds with
  | [.int j] => if big j then .ok (rangeD 0 j.toNat, yes) M1 else .st
  | [.int i, .int j] => if big i && big j then .ok (rangeD i (j - i).toNat, yes) M1 else .st
  | [.int i, .int j, .int c] => if big i && big j && decide (c = -1) then .ok (((rangeD (j + 1) (i - j).toNat).reverse), yes) M1 else .st
  | _ => .st
def pairsD : Nat → List D → List D
  | _, [] => []
  | n, x :: xs => .tup [.int n, x] :: pairsD (n + 1) xs
def itEnum (f : DenL) : ItD := fun ev M => (f ev M).bind fun ds M1 => match ds with
  | [.ref n] => match getL M1 n with
    | some xs => .ok (pairsD 0 xs, cellIs n xs) M1
    | none => .st
  | _ => .st
def zipD : List D → List D → List D
  | x :: xs, y :: ys => .tup [x, y] :: zipD xs ys
  | _, _ => []
def itZip (f : DenL) : ItD := fun ev M => (f ev M).bind fun ds M1 => match ds with
  | [.ref n, .ref m] => match getL M1 n, getL M1 m with
    | some xs, some ys => .ok (zipD xs ys, fun M => cellIs n xs M && cellIs m ys M) M1
    | _, _ => .st
  | _ => .st
def itRev (f : DenL) : ItD := fun ev M => (f ev M).bind fun ds M1 => match ds with
  | [.ref n] => match getL M1 n with
    | some xs => .ok (xs.reverse, cellIs n xs) M1
    | none => .st
  | _ => .st
section
variable {X : Cx} {G : GC} {W : WX} {e l tg : Expr} {es : List Expr} {fe : Den} {fl : DenL} {pos p : Pos} {pr : Bool}
theorem cur {n : Nat} {xs : List D} {ρ0 ρ : Nat → Addr} {N0 : Nat} {H0 H : Hp} {M : Mem} (hn : n < N0) (g : Grow G ρ0 N0 H0 ρ M.length H) (r : Rel G ρ H M) (h : cellIs n xs M = true) :
    ∃ ws, SqL G.K H (ρ0 n) ws ∧ RepL G ρ M.length H xs ws := by
  obtain ⟨ws, hq, rl⟩ := rel_getL r (cellIs_ok h)
  rw [g.ag n hn] at hq
  exact ⟨ws, hq, rl⟩
theorem getL_lt {n : Nat} {xs : List D} {M : Mem} (h : getL M n = some xs) : n < M.length := by
  unfold getL at h
  cases e : M[n]? with
  | none => rw [e] at h; cases h
  | some c => exact lt_of_get e
theorem walkD_list {n : Nat} {xs : List D} {ρ0 : Nat → Addr} {N0 : Nat} {H0 : Hp} (hn : n < N0) : WalkD false G (Itl G.K (ρ0 n)) xs (cellIs n xs) ρ0 N0 H0 where
  goes := fun i ρ H M hi g r c => by
    obtain ⟨ws, hq, rl⟩ := cur hn g r c
    have hl := rl.length
    exact ⟨ws, ws[i], hq, by simp [show i < ws.length by omega]⟩
  stops := fun ρ H M g r c => by
    obtain ⟨ws, hq, rl⟩ := cur hn g r c
    exact ⟨ws, hq, by rw [rl.length]; exact Nat.le_refl _⟩
  yields := fun i ρ H M x H' hi g r c y => by
    obtain ⟨ws, hq, rl⟩ := cur hn g r c
    obtain ⟨rfl, hx⟩ := y
    obtain ⟨d, hd, rv⟩ := rl.get' (hx ws hq)
    exact ⟨.refl, r, d, hd, rv⟩
theorem walkD_tup {a : Addr} {xs : List D} {vs : List V} {ρ0 : Nat → Addr} {N0 : Nat} {H0 : Hp} (ha : TupAt G.K H0 a vs) (rl : RepL G ρ0 N0 H0 xs vs) : WalkD false G (Itt G.K a) xs yes ρ0 N0 H0 where
  goes := fun i ρ H M hi g r c => by
    have hl := rl.length
    exact ⟨vs, vs[i], (g.sqt ha).sq, by simp [show i < vs.length by omega]⟩
  stops := fun ρ H M g r c => ⟨vs, (g.sqt ha).sq, by rw [rl.length]; exact Nat.le_refl _⟩
  yields := fun i ρ H M x H' hi g r c y => by
    obtain ⟨rfl, hx⟩ := y
    obtain ⟨d, hd, rv⟩ := rl.get' (hx vs (g.sqt ha).sq)
    exact ⟨.refl, r, d, hd, rv.grow g⟩
theorem walkD_str {z : Str} {ρ0 : Nat → Addr} {N0 : Nat} {H0 : Hp} : WalkD false G (Its z) (strItems z) yes ρ0 N0 H0 where
  goes := fun i ρ H M hi g r c => by
    have hi' : i < z.cps.size := by simpa [strItems] using hi
    exact hi'
  stops := fun ρ H M g r c => by
    show z.cps.size ≤ (strItems z).length
    simp [strItems]
  yields := fun i ρ H M x H' hi g r c y => by
    obtain ⟨rfl, c, hc, rfl⟩ := y
    refine ⟨.refl, r, .str ⟨#[c]⟩, ?_, by simp only [ItR, RepV]⟩
    unfold strItems
    rw [List.getElem?_map, Array.getElem?_toList, hc]
    rfl
theorem rangeD_length : ∀ (n : Nat) (lo : Int), (rangeD lo n).length = n
  | 0, _ => rfl
  | n + 1, lo => by simp [rangeD, rangeD_length n]
theorem rangeD_get : ∀ (n : Nat) (lo : Int) (i : Nat), i < n → (rangeD lo n)[i]? = some (.int (lo + i))
  | 0, _, i, h => by omega
  | n + 1, lo, 0, h => by simp [rangeD]
  | n + 1, lo, i + 1, h => by
    simp only [rangeD, List.getElem?_cons_succ]
    rw [rangeD_get n (lo + 1) i (by omega)]
    congr 2
    omega
theorem walkD_range {lo : Int} {n : Nat} {ρ0 : Nat → Addr} {N0 : Nat} {H0 : Hp} : WalkD false G (Itr lo n) (rangeD lo n) yes ρ0 N0 H0 where
  goes := fun i ρ H M hi g r c => by rw [rangeD_length] at hi; exact hi
  stops := fun ρ H M g r c => by show n ≤ (rangeD lo n).length; rw [rangeD_length]; exact Nat.le_refl _
  yields := fun i ρ H M x H' hi g r c y => by
    rw [rangeD_length] at hi
    obtain ⟨rfl, rfl⟩ := y
    exact ⟨.refl, r, _, rangeD_get n lo i hi, by simp only [ItR, RepV]⟩
theorem walkD_down {i₀ : Int} {n : Nat} {ρ0 : Nat → Addr} {N0 : Nat} {H0 : Hp} : WalkD false G (Itc i₀ (-1) n) (rangeD (i₀ - n + 1) n).reverse yes ρ0 N0 H0 where
  goes := fun i ρ H M hi g r c => by rw [List.length_reverse, rangeD_length] at hi; exact hi
  stops := fun ρ H M g r c => by show n ≤ _; rw [List.length_reverse, rangeD_length]; exact Nat.le_refl _
  yields := fun i ρ H M x H' hi g r c y => by
    rw [List.length_reverse, rangeD_length] at hi
    obtain ⟨rfl, rfl⟩ := y
    refine ⟨.refl, r, .int (i₀ + (i : Nat) * -1), ?_, by simp only [ItR, RepV]⟩
    rw [List.getElem?_reverse (by rw [rangeD_length]; exact hi), rangeD_length, rangeD_get _ _ _ (by omega)]
    congr 2
    omega
theorem walkD_rev {n : Nat} {xs : List D} {ρ0 : Nat → Addr} {N0 : Nat} {H0 : Hp} (hn : n < N0) : WalkD false G (Itv G.K (ρ0 n) xs.length) xs.reverse (cellIs n xs) ρ0 N0 H0 where
  goes := fun i ρ H M hi g r c => by
    rw [List.length_reverse] at hi
    obtain ⟨ws, hq, rl⟩ := cur hn g r c
    have hl := rl.length
    exact ⟨hi, ws, ws[xs.length - 1 - i]'(by omega), hq, by simp [show xs.length - 1 - i < ws.length by omega]⟩
  stops := fun ρ H M g r c => by show xs.length ≤ _; rw [List.length_reverse]; exact Nat.le_refl _
  yields := fun i ρ H M x H' hi g r c y => by
    rw [List.length_reverse] at hi
    obtain ⟨ws, hq, rl⟩ := cur hn g r c
    obtain ⟨rfl, hx⟩ := y
    obtain ⟨d, hd, rv⟩ := rl.get' (hx ws hq)
    exact ⟨.refl, r, d, by rw [List.getElem?_reverse hi]; exact hd, rv⟩
theorem pairsD_length : ∀ (xs : List D) (n : Nat), (pairsD n xs).length = xs.length
  | [], _ => rfl
  | x :: xs, n => by simp [pairsD, pairsD_length xs]
theorem pairsD_get : ∀ (xs : List D) (n i : Nat) (d : D), xs[i]? = some d → (pairsD n xs)[i]? = some (.tup [.int ((n + i : Nat) : Int), d])
  | [], _, i, d, h => by simp at h
  | x :: xs, n, 0, d, h => by simp at h; subst h; simp [pairsD]
  | x :: xs, n, i + 1, d, h => by
    simp only [pairsD, List.getElem?_cons_succ] at h ⊢
    rw [pairsD_get xs (n + 1) i d h]
    have : n + 1 + i = n + (i + 1) := by omega
    rw [this]
theorem walkD_enum {n : Nat} {xs : List D} {ρ0 : Nat → Addr} {N0 : Nat} {H0 : Hp} (hn : n < N0) : WalkD true G (Ite G.K (ρ0 n)) (pairsD 0 xs) (cellIs n xs) ρ0 N0 H0 where
  goes := fun i ρ H M hi g r c => by
    rw [pairsD_length] at hi
    obtain ⟨ws, hq, rl⟩ := cur hn g r c
    have hl := rl.length
    exact ⟨ws, ws[i], hq, by simp [show i < ws.length by omega]⟩
  stops := fun ρ H M g r c => by
    obtain ⟨ws, hq, rl⟩ := cur hn g r c
    exact ⟨ws, hq, by rw [rl.length, pairsD_length]; exact Nat.le_refl _⟩
  yields := fun i ρ H M x H' hi g r c y => by
    obtain ⟨ws, hq, rl⟩ := cur hn g r c
    obtain ⟨T, v, rfl, hT, rfl, hx⟩ := y
    obtain ⟨d, hd, rv⟩ := rl.get' (hx ws hq)
    have gf : Grow G ρ M.length H ρ M.length (upd H T (.tup [.int (i : Nat), v])) := grow_fresh hT
    exact ⟨gf, r.fresh hT, _, pairsD_get xs 0 i d hd, T, _, _, _, _, rfl, rfl, upd_same, by simp only [RepV, Nat.zero_add], rv.grow gf⟩
theorem zipD_get : ∀ (xs ys : List D) (i : Nat) (d e : D), xs[i]? = some d → ys[i]? = some e → (zipD xs ys)[i]? = some (.tup [d, e])
  | [], _, i, d, e, h, _ => by simp at h
  | _ :: _, [], i, d, e, _, h => by simp at h
  | x :: xs, y :: ys, 0, d, e, h, h' => by simp at h h'; subst h h'; simp [zipD]
  | x :: xs, y :: ys, i + 1, d, e, h, h' => by
    simp only [zipD, List.getElem?_cons_succ] at h h' ⊢
    exact zipD_get xs ys i d e h h'
theorem zipD_length : ∀ (xs ys : List D), (zipD xs ys).length = min xs.length ys.length
  | [], _ => by simp [zipD]
  | _ :: _, [] => by simp [zipD]
  | x :: xs, y :: ys => by simp [zipD, zipD_length xs ys]
theorem walkD_zip {n m : Nat} {xs ys : List D} {ρ0 : Nat → Addr} {N0 : Nat} {H0 : Hp} (hn : n < N0) (hm : m < N0) : WalkD true G (Itz G.K (ρ0 n) (ρ0 m)) (zipD xs ys) (fun M => cellIs n xs M && cellIs m ys M) ρ0 N0 H0 where
  goes := fun i ρ H M hi g r c => by
    rw [zipD_length] at hi
    rw [Bool.and_eq_true] at c
    obtain ⟨ws, hq, rl⟩ := cur hn g r c.1
    obtain ⟨us, hq2, rl2⟩ := cur hm g r c.2
    have hl := rl.length
    have hl2 := rl2.length
    exact ⟨ws, us, ws[i]'(by omega), us[i]'(by omega), hq, hq2, by simp [show i < ws.length by omega], by simp [show i < us.length by omega]⟩
  stops := fun ρ H M g r c => by
    rw [Bool.and_eq_true] at c
    obtain ⟨ws, hq, rl⟩ := cur hn g r c.1
    obtain ⟨us, hq2, rl2⟩ := cur hm g r c.2
    refine ⟨ws, us, hq, hq2, ?_⟩
    rw [zipD_length, rl.length, rl2.length]
    omega
  yields := fun i ρ H M x H' hi g r c y => by
    rw [Bool.and_eq_true] at c
    obtain ⟨ws, hq, rl⟩ := cur hn g r c.1
    obtain ⟨us, hq2, rl2⟩ := cur hm g r c.2
    obtain ⟨T, v, w, rfl, hT, rfl, hx, hy⟩ := y
    obtain ⟨d, hd, rv⟩ := rl.get' (hx ws hq)
    obtain ⟨e, he, rw'⟩ := rl2.get' (hy us hq2)
    have gf : Grow G ρ M.length H ρ M.length (upd H T (.tup [v, w])) := grow_fresh hT
    exact ⟨gf, r.fresh hT, _, zipD_get xs ys i d e hd he, T, _, _, _, _, rfl, rfl, upd_same, rv.grow gf, rw'.grow gf⟩
theorem PI.imp {tg iter : Expr} {t t' : TI} (h : PI X tg iter t) (w : ∀ σ H R, t' σ H R → t σ H R) : PI X tg iter t' := ⟨fun pins s σ H R I q => h.run pins s σ H R I (w σ H R q)⟩
theorem w_any (hK : G.K = X.K) (hl : PE X l (tI X G W fe)) : PI X tg l (tW false X G W (itAny fe)) := by
  refine ⟨fun pins s σ H R I ⟨ρ, M, ev, r, er, p⟩ => ?_⟩
  have h0 : tI X G W fe σ H fun x H1 => (∃ a, x = .ref a ∧ (∃ xs, SqL X.K H1 a xs) ∧ R (Itl X.K a) H1) ∨ (∃ a, x = .ref a ∧ (∃ xs, SqT X.K H1 a xs) ∧ R (Itt X.K a) H1) ∨ ∃ z, x = .str z ∧ R (Its z) H1 := by
    refine ⟨ρ, M, ev, r, er, p.step fun d M1 ρ1 H1 _ g1 r1 p1 v rv => ?_⟩
    cases d with
    | tup xs =>
      obtain ⟨a, vs, rfl, ha, rl⟩ := rv.tup'
      exact .inr (.inl ⟨a, rfl, ⟨vs, hK ▸ ha.sq⟩, hK ▸ p1 ρ1 H1 .refl r1 _ (walkD_tup ha rl)⟩)
    | ref n =>
      obtain ⟨hn, rfl⟩ := rv.ref'
      simp only at p1
      cases e : getL M1 n with
      | none => rw [e] at p1; exact p1.elim
      | some xs =>
        rw [e] at p1
        obtain ⟨vs, hq, rl⟩ := rel_getL r1 e
        exact .inl ⟨_, rfl, ⟨vs, hK ▸ hq⟩, hK ▸ p1 ρ1 H1 .refl r1 _ (walkD_list hn)⟩
    | str z => exact .inr (.inr ⟨z, rv.str', p1 ρ1 H1 .refl r1 _ walkD_str⟩)
    | _ => exact p1.elim
  refine thn (hl.run pins s σ H _ I h0) fun v s1 ⟨x, H1, I1, r1, q1⟩ => ?_
  rcases q1 with ⟨a, rfl, ⟨xs, hq⟩, q⟩ | ⟨a, rfl, ⟨xs, hq⟩, q⟩ | ⟨z, rfl, q⟩
  · cases r1
    obtain ⟨its, rv, p, hz⟩ := I1.list hq
    refine wpAny_pyIter_list p.isList ?_
    refine ⟨s1.heap.objs.size, [s1.heap.objs.size], _, _, H1, rfl, I1.kept (t' := s1.toks) fun b o e => Heap.get?_push_of_some _ e, turn_list a _, ⟨_, Heap.get?_push_size _ rfl, rfl, rfl⟩, fun b hb => ?_, q⟩
    have e : b = s1.heap.objs.size := by simpa using hb
    subst e
    exact I1.fpOk (Nat.le_refl _) (I1.hok.fresh (Nat.le_refl _))
  · cases r1
    obtain ⟨its, rv, p, hz⟩ := I1.tuple hq
    refine wpAny_pyIter_tuple (show s1.heap.IsTuple a its.toArray from p) ?_
    refine ⟨s1.heap.objs.size, [s1.heap.objs.size], _, _, H1, rfl, I1.kept (t' := s1.toks) fun b o e => Heap.get?_push_of_some _ e, turn_tuple a _, ⟨_, Heap.get?_push_size _ rfl, rfl, rfl⟩, fun b hb => ?_, q⟩
    have e : b = s1.heap.objs.size := by simpa using hb
    subst e
    exact I1.fpOk (Nat.le_refl _) (I1.hok.fresh (Nat.le_refl _))
  · obtain ⟨t, rfl⟩ := r1
    cases ha : z.cps.all (· < 128)
    · exact wpAny_pyIter_wide ha (pi_one (tk := s1.toks) I1 _ (turn_str _ z t "str_iterator" (.inr rfl)) ⟨_, Heap.get?_push_size _ rfl, rfl, rfl⟩ q)
    · exact wpAny_pyIter_ascii ha (pi_one (tk := s1.toks) I1 _ (turn_str _ z t "str_ascii_iterator" (.inl rfl)) ⟨_, Heap.get?_push_size _ rfl, rfl, rfl⟩ q)
theorem big_ok {i : Int} (h : big i = true) : -(2 ^ 62) ≤ i ∧ i < 2 ^ 62 := by
  unfold big at h
  rw [Bool.and_eq_true] at h
  exact ⟨of_decide_eq_true h.1, of_decide_eq_true h.2⟩
theorem w_range1 {a : Expr} (hg : Gl X "range") (hm : X.mg "range" = none) (ha : PA X [a] (tL X G W fl)) (hs : starEach [a] X.env = [(false, eval a X.env)]) (h1 : ∀ ev M ds M1, fl ev M = .ok ds M1 → ds.length = 1) :
    PI X tg (.Call (.Name "range" p) [a] [] pos) (tW false X G W (itRange fl)) := by
  refine PI.imp (pi_range1 hg hm ha hs) fun σ H R ⟨ρ, M, ev, r, er, p⟩ => ⟨ρ, M, ev, r, er, p.step fun d M1 ρ1 H1 eq g1 r1 p1 vs rl => ?_⟩
  have hl := h1 ev M d M1 eq
  match d, hl with
  | [.int j], _ =>
    simp only [RepL] at rl
    obtain ⟨v, t, rfl, rv, rfl⟩ := rl
    rw [rv.int']
    simp only at p1
    split at p1
    · rename_i hb
      obtain ⟨b1, b2⟩ := big_ok hb
      exact ⟨j, rfl, b1, b2, p1 ρ1 H1 .refl r1 _ walkD_range⟩
    · exact p1.elim
  | [.non], _ | [.bl _], _ | [.str _], _ | [.tup _], _ | [.ref _], _ | [.exc _ _ _], _ => exact p1.elim
theorem w_range2 {a b : Expr} (hg : Gl X "range") (hm : X.mg "range" = none) (ha : PA X [a, b] (tL X G W fl)) (hs : starEach [a, b] X.env = [(false, eval a X.env), (false, eval b X.env)]) (hs2 : starEach [b] X.env = [(false, eval b X.env)]) (h1 : ∀ ev M ds M1, fl ev M = .ok ds M1 → ds.length = 2) :
    PI X tg (.Call (.Name "range" p) [a, b] [] pos) (tW false X G W (itRange fl)) := by
  refine PI.imp (pi_range2 hg hm ha hs hs2) fun σ H R ⟨ρ, M, ev, r, er, p⟩ => ⟨ρ, M, ev, r, er, p.step fun d M1 ρ1 H1 eq g1 r1 p1 vs rl => ?_⟩
  have hl := h1 ev M d M1 eq
  match d, hl with
  | [x, y], _ =>
    cases x with
    | int i =>
      cases y with
      | int j =>
        simp only [RepL] at rl
        obtain ⟨v, t, rfl, rv, w, t2, rfl, rw', rfl⟩ := rl
        rw [rv.int', rw'.int']
        simp only at p1
        split at p1
        · rename_i hb
          rw [Bool.and_eq_true] at hb
          obtain ⟨b1, b2⟩ := big_ok hb.1
          obtain ⟨b3, b4⟩ := big_ok hb.2
          exact ⟨i, j, rfl, ⟨b1, b2, b3, b4⟩, p1 ρ1 H1 .refl r1 _ walkD_range⟩
        · exact p1.elim
      | _ => exact p1.elim
    | _ => exact p1.elim
theorem w_range3 {a b c : Expr} (hg : Gl X "range") (hm : X.mg "range" = none) (ha : PA X [a, b, c] (tL X G W fl)) (hs : starEach [a, b, c] X.env = (false, eval a X.env) :: starEach [b, c] X.env) (hpl : (backTo pos (starEach [b, c] X.env)).any (·.1) = false) (h1 : ∀ ev M ds M1, fl ev M = .ok ds M1 → ds.length = 3) :
    PI X tg (.Call (.Name "range" p) [a, b, c] [] pos) (tW false X G W (itRange fl)) := by
  refine PI.imp (pi_range3 hg hm ha hs hpl) fun σ H R ⟨ρ, M, ev, r, er, p⟩ => ⟨ρ, M, ev, r, er, p.step fun d M1 ρ1 H1 eq g1 r1 p1 vs rl => ?_⟩
  have hl := h1 ev M d M1 eq
  match d, hl with
  | [x, y, z], _ =>
    cases x with
    | int i =>
      cases y with
      | int j =>
        cases z with
        | int k =>
          simp only [RepL] at rl
          obtain ⟨v, t, rfl, rv, w, t2, rfl, rw', u, t3, rfl, ru, rfl⟩ := rl
          rw [rv.int', rw'.int', ru.int']
          simp only at p1
          split at p1
          · rename_i hb
            rw [Bool.and_eq_true, Bool.and_eq_true] at hb
            obtain ⟨b1, b2⟩ := big_ok hb.1.1
            obtain ⟨b3, b4⟩ := big_ok hb.1.2
            have hk : k = -1 := of_decide_eq_true hb.2
            subst hk
            refine ⟨i, j, -1, (i - j).toNat, rfl, RgC.neg b1 b2 b3 b4, p1 ρ1 H1 .refl r1 _ ?_⟩
            by_cases hij : j ≤ i
            · have e : j + 1 = i - ((i - j).toNat : Int) + 1 := by omega
              rw [e]
              exact walkD_down
            · have e : (i - j).toNat = 0 := by omega
              rw [e]
              exact walkD_down (i₀ := i) (n := 0)
          · exact p1.elim
        | _ => exact p1.elim
      | _ => exact p1.elim
    | _ => exact p1.elim
theorem w_enum {a : Expr} {elts : List Expr} {kk : Nat} {tpos : Pos} (hK : G.K = X.K) (hg : Gl X "enumerate") (hm : X.mg "enumerate" = none) (ha : PA X [a] (tL X G W fl)) (hs : starEach [a] X.env = [(false, eval a X.env)]) :
    PI X (.Tuple elts kk tpos) (.Call (.Name "enumerate" p) [a] [] pos) (tW true X G W (itEnum fl)) := by
  refine PI.imp (pi_enum hg hm ha hs) fun σ H R ⟨ρ, M, ev, r, er, p⟩ => ⟨ρ, M, ev, r, er, p.step fun d M1 ρ1 H1 eq g1 r1 p1 vs rl => ?_⟩
  skip
  split at p1
  · rename_i n
    simp only [RepL] at rl
    obtain ⟨v, t, rfl, rv, rfl⟩ := rl
    obtain ⟨hn, rfl⟩ := rv.ref'
    split at p1
    · rename_i xs e
      obtain ⟨ws, hq, rl⟩ := rel_getL r1 e
      exact ⟨_, ws, rfl, hK ▸ hq, hK ▸ p1 ρ1 H1 .refl r1 _ (walkD_enum hn)⟩
    · exact p1.elim
  · exact p1.elim
theorem w_zip {a b : Expr} {elts : List Expr} {kk : Nat} {tpos : Pos} (hK : G.K = X.K) (hg : Gl X "zip") (hm : X.mg "zip" = none) (ha : PA X [a, b] (tL X G W fl)) (hs : starEach [a, b] X.env = (false, eval a X.env) :: starEach [b] X.env) (hpl : (backTo pos (starEach [b] X.env)).any (·.1) = false) :
    PI X (.Tuple elts kk tpos) (.Call (.Name "zip" p) [a, b] [] pos) (tW true X G W (itZip fl)) := by
  refine PI.imp (pi_zip hg hm ha hs hpl) fun σ H R ⟨ρ, M, ev, r, er, p⟩ => ⟨ρ, M, ev, r, er, p.step fun d M1 ρ1 H1 eq g1 r1 p1 vs rl => ?_⟩
  skip
  split at p1
  · rename_i n m
    simp only [RepL] at rl
    obtain ⟨v, t, rfl, rv, w, t2, rfl, rw', rfl⟩ := rl
    obtain ⟨hn, rfl⟩ := rv.ref'
    obtain ⟨hm', rfl⟩ := rw'.ref'
    split at p1
    · rename_i xs ys e e2
      obtain ⟨ws, hq, rl⟩ := rel_getL r1 e
      obtain ⟨us, hq2, rl2⟩ := rel_getL r1 e2
      exact ⟨_, _, ws, us, rfl, hK ▸ hq, hK ▸ hq2, hK ▸ p1 ρ1 H1 .refl r1 _ (walkD_zip hn hm')⟩
    · exact p1.elim
  · exact p1.elim
theorem w_rev {a : Expr} (hK : G.K = X.K) (hg : Gl X "reversed") (hm : X.mg "reversed" = none) (ha : PA X [a] (tL X G W fl)) (hs : starEach [a] X.env = [(false, eval a X.env)]) :
    PI X tg (.Call (.Name "reversed" p) [a] [] pos) (tW false X G W (itRev fl)) := by
  refine PI.imp (pi_reversed hg hm ha hs) fun σ H R ⟨ρ, M, ev, r, er, p⟩ => ⟨ρ, M, ev, r, er, p.step fun d M1 ρ1 H1 eq g1 r1 p1 vs rl => ?_⟩
  skip
  split at p1
  · rename_i n
    simp only [RepL] at rl
    obtain ⟨v, t, rfl, rv, rfl⟩ := rl
    obtain ⟨hn, rfl⟩ := rv.ref'
    split at p1
    · rename_i xs e
      obtain ⟨ws, hq, rl⟩ := rel_getL r1 e
      refine ⟨_, ws, rfl, hK ▸ hq, ?_⟩
      rw [rl.length]
      exact hK ▸ p1 ρ1 H1 .refl r1 _ (walkD_rev hn)
    · exact p1.elim
  · exact p1.elim
end
end MI

set_option Elab.async false
set_option linter.all false
set_option maxRecDepth 100000
namespace MI
open PySem PySem.Spec PyProof.Rows L2
/-! list comprehensions -/
def dropE : Option D → Option D
  | some (.exc _ _ _) => none
  | o => o
def wipeD (ev : Env) : List Nat → Env
  | [] => ev.map dropE
  | v :: vs => (wipeD ev vs).set v none
def accD (k : Mem → Option Mem) (n : Nat) (d : D) (M : Mem) : Option Mem := match M[n]? with
  | some (.lst acc) => if acc.length < lim then k (M.set n (.lst (acc ++ [d]))) else none
  | _ => none
def elD (k : Mem → Option Mem) (n : Nat) : R D → Option Mem
  | .ok d M => accD k n d M
  | _ => none
def tsD (k : Mem → Option Mem) (n : Nat) (f : Mem → R D) : R Bool → Option Mem
  | .ok b M => if b then elD k n (f M) else k M
  | _ => none
def compL (g : TgD) (t : DenT) (f : Den) (chk : Mem → Bool) (n : Nat) (ev : Env) : List D → Mem → Option Mem
  | [], M => if chk M then some M else none
  | x :: xs, M => if chk M then
      (match g x ev with
      | some ev1 => tsD (compL g t f chk n ev xs) n (f (ev1.map dropE)) (t (ev1.map dropE) M)
      | none => none)
    else none
def dComp (it : ItD) (g : TgD) (t : DenT) (f : Den) (vs : List Nat) : Den := fun ev M => (it ev M).bind fun p M1 =>
  R.of ((compL g t f p.2 M1.length (wipeD ev vs) p.1 (M1 ++ [.lst []])).map fun M2 => (.ref M1.length, M2))
def tYesD : DenT := fun _ M => .ok true M
def noW : WX := fun _ _ _ _ => False
section
variable {X : Cx} {G : GC} {W : WX} {σ : St} {ρ : Nat → Addr} {N : Nat} {H : Hp} {ev : Env}
theorem RepE.drop (h : RepE X G ρ N H σ ev) (X' : Cx) : RepE X' G ρ N H σ (ev.map dropE) := by
  refine ⟨by simp [h.len], fun i d e => ?_⟩
  rw [List.getElem?_map] at e
  cases e1 : ev[i]? with
  | none => rw [e1] at e; cases e
  | some o =>
    rw [e1] at e
    cases o with
    | none => cases e
    | some d' =>
      obtain ⟨v, hv, rv⟩ := h.at_ i d' e1
      cases d' with
      | exc _ _ _ => cases e
      | _ => cases e; exact ⟨v, hv, rv⟩
theorem RepE.wipe (h : RepE X G ρ N H σ ev) (X' : Cx) : ∀ vs : List Nat, RepE X' G ρ N H (L2.wipe σ vs) (wipeD ev vs)
  | [] => h.drop X'
  | v :: vs => by
    have ih := RepE.wipe h X' vs
    refine ⟨by simp [L2.wipe, wipeD, ih.len], fun i d e => ?_⟩
    unfold wipeD at e
    by_cases hi : v = i
    · subst hi
      by_cases hv : v < (wipeD ev vs).length
      · rw [List.getElem?_set_self hv] at e; cases e
      · rw [List.getElem?_eq_none (by simpa using hv)] at e; cases e
    · rw [List.getElem?_set_ne hi] at e
      obtain ⟨w, hw, rw'⟩ := ih.at_ i d e
      refine ⟨w, ?_, rw'⟩
      unfold L2.wipe
      rw [List.getElem?_set_ne hi]
      exact hw
theorem wipe_get (σ : St) (i : Nat) : ∀ vs : List Nat, (L2.wipe σ vs)[i]? = if i ∈ vs then (σ[i]?).map fun _ => none else σ[i]?
  | [] => by simp [L2.wipe]
  | v :: vs => by
    unfold L2.wipe
    have ih := wipe_get σ i vs
    by_cases hi : v = i
    · subst hi
      rw [if_pos List.mem_cons_self]
      by_cases hv : v < σ.length
      · rw [List.getElem?_set_self (by rw [wipe_length]; exact hv), List.getElem?_eq_getElem hv]
        rfl
      · rw [List.getElem?_eq_none (by simpa [wipe_length] using hv), List.getElem?_eq_none (by simpa using hv)]
        rfl
    · rw [List.getElem?_set_ne hi, ih]
      by_cases hm : i ∈ vs
      · rw [if_pos hm, if_pos (List.mem_cons_of_mem _ hm)]
      · rw [if_neg hm, if_neg (by simp only [List.mem_cons, not_or]; exact ⟨fun e => hi e.symm, hm⟩)]
theorem wipe_sets {is vs : List Nat} {σ1 : St} (h : Sets is (L2.wipe σ vs) σ1) (hs : ∀ i ∈ is, i ∈ vs) : L2.wipe σ1 vs = L2.wipe σ vs := by
  refine List.ext_getElem? fun i => ?_
  rw [wipe_get, wipe_get]
  by_cases hm : i ∈ vs
  · rw [if_pos hm, if_pos hm]
    have hl : σ1.length = σ.length := by rw [h.1, wipe_length]
    by_cases hi : i < σ.length
    · rw [List.getElem?_eq_getElem hi, List.getElem?_eq_getElem (hl ▸ hi)]; rfl
    · rw [List.getElem?_eq_none (by rw [hl]; simpa using hi), List.getElem?_eq_none (by simpa using hi)]
  · rw [if_neg hm, if_neg hm]
    have e := h.2 i fun hi => hm (hs i hi)
    rw [e, wipe_get, if_neg hm]
end
theorem PostO.mono {G : GC} {ρ ρ' : Nat → Addr} {N N' : Nat} {H H' : Hp} {Q : VK} {o : Option (D × Mem)} (p : PostO G ρ N H Q o) (g : Grow G ρ N H ρ' N' H') : PostO G ρ' N' H' Q o := by
  cases o with
  | none => exact p
  | some x => exact fun ρ2 v H2 g2 r2 q => p ρ2 v H2 (g.trans g2) r2 q
section
variable {X : Cx} {G : GC} {W : WX} {elt tg iter : Expr} {ifs : List Expr} {scope : Scope} {own : List (Str × Nat)} {pos : Pos} {fi : ItD} {g : TgD} {is : List Nat} {t : DenT} {f : Den} {pr : Bool}
/-- the reading of a comprehension -/
theorem tI_comp {tt : TT} (hgs : ∀ i ∈ is, i ∈ own.map (·.2)) (htt : ∀ σ H Q, (∀ X2, tT X2 G noW t σ H Q) → tt σ H Q) {σ : St} {H : Hp} {Q : VK} (h : tI X G W (dComp fi g t f (own.map (·.2))) σ H Q) :
    tLc (tW pr X G W fi) (fun v σ H Q => ∀ X2, tgR X2 G pr g is v σ H Q) tt (fun σ H Q => ∀ X2, tI X2 G noW f σ H Q) (own.map (·.2)) σ H Q := by
  obtain ⟨ρ, M, ev, r, er, p⟩ := h
  refine ⟨ρ, M, ev, r, er, p.step fun q M1 ρ1 H1 _ g1 r1 p1 J w D hD => ?_⟩
  obtain ⟨xs, chk⟩ := q
  generalize hvs : own.map (·.2) = vs at *
  have er1 := fun X2 : Cx => (er.grow g1).wipe X2 vs
  generalize hev : wipeD ev vs = evw at *
  have hl : (M1 ++ [Cell.lst []]).length = M1.length + 1 := by simp
  have g0 : Grow G ρ1 M1.length H1 (ext ρ1 M1.length D) (M1 ++ [Cell.lst []]).length (upd H1 D (.lst [])) := hl ▸ grow_new hD
  have r0 : Rel G (ext ρ1 M1.length D) (upd H1 D (.lst [])) (M1 ++ [.lst []]) := r1.new hD ⟨[], upd_same, .nil⟩
  -- what a memory at a turn is to reach
  refine ⟨fun i m H2 => m = xs.length - i ∧ i ≤ xs.length ∧ ∃ ρ2 M2, Grow G (ext ρ1 M1.length D) (M1 ++ [Cell.lst []]).length (upd H1 D (.lst [])) ρ2 M2.length H2 ∧ Rel G ρ2 H2 M2 ∧
      PostO G ρ2 M2.length H2 Q ((compL g t f chk M1.length evw (xs.drop i) M2).map fun M3 => (MI.D.ref M1.length, M3)),
    ⟨xs.length, by simp, Nat.zero_le _, _, _, .refl, r0, ?_⟩, ?_⟩
  · rw [List.drop_zero]
    exact PostO.of (W := W) (σ := σ) (p1.trans g0)
  rintro i m H2 ⟨rfl, hi, ρ2, M2, g2, r2, p2⟩
  have gw : Grow G ρ1 M1.length H1 ρ2 M2.length H2 := g0.trans g2
  have hn : M1.length < M2.length := Nat.lt_of_lt_of_le (by rw [hl]; exact Nat.lt_succ_self _) g2.le
  have hD2 : ρ2 M1.length = D := by rw [g2.ag _ (by rw [hl]; exact Nat.lt_succ_self _), ext_new]
  by_cases hlt : i < xs.length
  · have hd : xs.drop i = xs[i] :: xs.drop (i + 1) := List.drop_eq_getElem_cons hlt
    rw [hd] at p2
    simp only [compL] at p2
    cases hchk : chk M2 with
    | false => rw [hchk] at p2; exact p2.elim
    | true =>
      rw [hchk] at p2
      simp only [if_true] at p2
      refine .inr ⟨w.goes i ρ2 H2 M2 hlt gw r2 hchk, fun H' => ∃ ρ3 M3, Grow G (ext ρ1 M1.length D) (M1 ++ [Cell.lst []]).length (upd H1 D (.lst [])) ρ3 M3.length H' ∧ Rel G ρ3 H' M3 ∧
          PostO G ρ3 M3.length H' Q ((compL g t f chk M1.length evw (xs.drop (i + 1)) M3).map fun M4 => (MI.D.ref M1.length, M4)),
        fun H' h => ⟨xs.length - (i + 1), by omega, rfl, hlt, h⟩, fun x H' y => ?_⟩
      obtain ⟨gy, ry, d, e1, rv⟩ := w.yields i ρ2 H2 M2 x H' hlt gw r2 hchk y
      have e2 : xs[i] = d := by
        have := List.getElem?_eq_getElem hlt
        rw [this] at e1
        exact Option.some.inj e1
      subst e2
      cases e3 : g xs[i] evw with
      | none => rw [e3] at p2; exact p2.elim
      | some ev1 =>
        simp only [e3] at p2
        intro X2
        refine ⟨ρ2, M2, evw, xs[i], ry, ((er1 X2).grow gw).grow gy, rv, ev1, e3, fun σ1 er2 s1 => ⟨wipe_sets s1 hgs, htt _ _ _ fun X3 => ⟨ρ2, M2, ev1.map dropE, ry, er2.drop X3, ?_⟩⟩⟩
        have p3 := p2
        cases et : t (ev1.map dropE) M2 with
        | ex c fs M3 => rw [et] at p3; exact p3.elim
        | st => rw [et] at p3; exact p3.elim
        | ok b M3 =>
          rw [et] at p3
          intro ρ3 H3 g3 r3
          cases b with
          | false =>
            simp only [tsD, Bool.false_eq_true, if_false] at p3
            exact iteF ⟨ρ3, M3, (g2.trans gy).trans g3, r3, PostO.mono p3 (gy.trans g3)⟩
          | true =>
            refine iteT fun X4 => ⟨ρ3, M3, ev1.map dropE, r3, (er2.drop X4).grow g3, ?_⟩
            simp only [tsD, if_true] at p3
            cases ef : f (ev1.map dropE) M3 with
            | ex c fs M4 => rw [ef] at p3; exact p3.elim
            | st => rw [ef] at p3; exact p3.elim
            | ok d M4 =>
              rw [ef] at p3
              intro ρ4 H4 g4 r4 v rv4
              have g24 := (g2.trans gy).trans (g3.trans g4)
              have hD4 : ρ4 M1.length = D := by rw [g24.ag _ (by rw [hl]; exact Nat.lt_succ_self _), ext_new]
              have hn4 : M1.length < M4.length := Nat.lt_of_lt_of_le (by rw [hl]; exact Nat.lt_succ_self _) g24.le
              simp only [elD, accD] at p3
              cases em : M4[M1.length]? with
              | none => rw [em] at p3; exact p3.elim
              | some c =>
                rw [em] at p3
                cases c with
                | lst acc =>
                  simp only at p3
                  split at p3
                  · rename_i hz
                    obtain ⟨ws, hw, rl⟩ := rel_lst r4 em
                    refine ⟨ws, by rw [← hD4]; exact hw, by rw [rl.length, ← lim_eq]; exact hz, ?_⟩
                    have gW := r4.grow_write (o := .lst (ws ++ [v])) hn4
                    have hl4 : (M4.set M1.length (.lst (acc ++ [d]))).length = M4.length := by simp
                    have rW : Rel G ρ4 (upd H4 (ρ4 M1.length) (.lst (ws ++ [v]))) (M4.set M1.length (.lst (acc ++ [d]))) := r4.write hn4 ⟨_, upd_same, (rl.append (.one rv4)).grow gW⟩
                    rw [hD4] at gW rW
                    refine ⟨ρ4, _, hl4.symm ▸ g24.trans gW, rW, ?_⟩
                    exact PostO.mono p3 (hl4.symm ▸ (gy.trans (g3.trans g4)).trans gW)
                  · exact p3.elim
                | _ => exact p3.elim
  · have e : i = xs.length := by omega
    subst e
    rw [List.drop_length] at p2
    simp only [compL] at p2
    cases hchk : chk M2 with
    | false => rw [hchk] at p2; exact p2.elim
    | true =>
      rw [hchk] at p2
      refine .inl ⟨w.stops ρ2 H2 M2 gw r2 hchk, ?_⟩
      refine p2.same r2 ?_
      simp only [RepV]
      exact ⟨hn, by rw [hD2]⟩
theorem i_comp (hc : X.calm = true) (hN : X.N.Nodup) (hi : PI X tg iter (tW pr X G W fi)) (ok : BlkOk X.N X.env.scope scope own) (hgs : ∀ i ∈ is, i ∈ own.map (·.2))
    (hg : ∀ (s : Shared) (H : Hp) (C : Addr) (cl : List (Str × Addr)) (fp : List Addr), PG (X.blk s H scope (compEnvC scope cl C X.env) fp) tg (tgR (X.blk s H scope (compEnvC scope cl C X.env) fp) G pr g is))
    (he : ∀ (s : Shared) (H : Hp) (C : Addr) (cl : List (Str × Addr)) (fp : List Addr), PE (X.blk s H scope (compEnvC scope cl C X.env) fp) elt (tI (X.blk s H scope (compEnvC scope cl C X.env) fp) G noW f)) (hs : ∀ x, foldedSetIterable iter X.env x = pure x) :
    PE X (.ListComp elt [⟨tg, iter, [], 0⟩] scope pos) (tI X G W (dComp fi g tYesD f (own.map (·.2)))) :=
  PE.imp (pe_lc hc hN hi ok (fun s H C cl fp => PG.imp (hg s H C cl fp) fun v σ H Q h => h _) (fun _ _ _ _ _ => pts_nil) (fun s H C cl fp => PE.imp (he s H C cl fp) fun σ H Q h => h _) hs) fun σ H Q h =>
    tI_comp hgs (fun σ H Q h => by
      obtain ⟨ρ, M, ev, r, er, p⟩ := h X
      exact p ρ H .refl r) h
theorem i_compIf {cnd : Expr} (hc : X.calm = true) (hN : X.N.Nodup) (hi : PI X tg iter (tW pr X G W fi)) (ok : BlkOk X.N X.env.scope scope own) (hgs : ∀ i ∈ is, i ∈ own.map (·.2))
    (hg : ∀ (s : Shared) (H : Hp) (C : Addr) (cl : List (Str × Addr)) (fp : List Addr), PG (X.blk s H scope (compEnvC scope cl C X.env) fp) tg (tgR (X.blk s H scope (compEnvC scope cl C X.env) fp) G pr g is))
    (ht : ∀ (s : Shared) (H : Hp) (C : Addr) (cl : List (Str × Addr)) (fp : List Addr), PT (X.blk s H scope (compEnvC scope cl C X.env) fp) cnd (tT (X.blk s H scope (compEnvC scope cl C X.env) fp) G noW t))
    (he : ∀ (s : Shared) (H : Hp) (C : Addr) (cl : List (Str × Addr)) (fp : List Addr), PE (X.blk s H scope (compEnvC scope cl C X.env) fp) elt (tI (X.blk s H scope (compEnvC scope cl C X.env) fp) G noW f)) (hs : ∀ x, foldedSetIterable iter X.env x = pure x) :
    PE X (.ListComp elt [⟨tg, iter, [cnd], 0⟩] scope pos) (tI X G W (dComp fi g t f (own.map (·.2)))) :=
  PE.imp (pe_lc hc hN hi ok (fun s H C cl fp => PG.imp (hg s H C cl fp) fun v σ H Q h => h _) (tt := fun σ H Q => ∀ X2, tT X2 G noW t σ H Q) (fun s H C cl fp => pts_one (PT.imp (ht s H C cl fp) fun σ H Q h => h _)) (fun s H C cl fp => PE.imp (he s H C cl fp) fun σ H Q h => h _) hs) fun σ H Q h =>
    tI_comp hgs (fun _ _ _ h => h) h
/-- name = [..] on one line -/
theorem s_setComp {i : Nat} {y : Str} {py spos : Pos} (hc : X.calm = true) (hN : X.N.Nodup) (hy : X.N[i]? = some y) (hyl : X.env.scope.names.lookup y = some .local)
    (hsw : swapsWith (.ListComp elt [⟨tg, iter, [], 0⟩] scope pos) (some (.Name y py)) spos.line X.env = pure true) (hi : PI X tg iter (tW pr X G W fi)) (ok : BlkOk X.N X.env.scope scope own) (hgs : ∀ i ∈ is, i ∈ own.map (·.2))
    (hg : ∀ (s : Shared) (H : Hp) (C : Addr) (cl : List (Str × Addr)) (fp : List Addr), PG (X.blk s H scope (compEnvC scope cl C X.env) fp) tg (tgR (X.blk s H scope (compEnvC scope cl C X.env) fp) G pr g is))
    (he : ∀ (s : Shared) (H : Hp) (C : Addr) (cl : List (Str × Addr)) (fp : List Addr), PE (X.blk s H scope (compEnvC scope cl C X.env) fp) elt (tI (X.blk s H scope (compEnvC scope cl C X.env) fp) G noW f)) (hs : ∀ x, foldedSetIterable iter X.env x = pure x) :
    PS X (.Assign [.Name y py] (.ListComp elt [⟨tg, iter, [], 0⟩] scope pos) spos) (tS X G W (sSet i (dComp fi g tYesD f (own.map (·.2))))) :=
  PS.imp (ps_setLc hc hN hy hyl hsw hi ok (fun s H C cl fp => PG.imp (hg s H C cl fp) fun v σ H Q h => h _) (fun _ _ _ _ _ => pts_nil) (fun s H C cl fp => PE.imp (he s H C cl fp) fun σ H Q h => h _) hs) fun T σ H h =>
    tI_comp hgs (fun σ H Q h => by
      obtain ⟨ρ, M, ev, r, er, p⟩ := h X
      exact p ρ H .refl r) (tS_set h)
theorem s_setCompIf {i : Nat} {y : Str} {py spos : Pos} {cnd : Expr} (hc : X.calm = true) (hN : X.N.Nodup) (hy : X.N[i]? = some y) (hyl : X.env.scope.names.lookup y = some .local)
    (hsw : swapsWith (.ListComp elt [⟨tg, iter, [cnd], 0⟩] scope pos) (some (.Name y py)) spos.line X.env = pure true) (hi : PI X tg iter (tW pr X G W fi)) (ok : BlkOk X.N X.env.scope scope own) (hgs : ∀ i ∈ is, i ∈ own.map (·.2))
    (hg : ∀ (s : Shared) (H : Hp) (C : Addr) (cl : List (Str × Addr)) (fp : List Addr), PG (X.blk s H scope (compEnvC scope cl C X.env) fp) tg (tgR (X.blk s H scope (compEnvC scope cl C X.env) fp) G pr g is))
    (ht : ∀ (s : Shared) (H : Hp) (C : Addr) (cl : List (Str × Addr)) (fp : List Addr), PT (X.blk s H scope (compEnvC scope cl C X.env) fp) cnd (tT (X.blk s H scope (compEnvC scope cl C X.env) fp) G noW t))
    (he : ∀ (s : Shared) (H : Hp) (C : Addr) (cl : List (Str × Addr)) (fp : List Addr), PE (X.blk s H scope (compEnvC scope cl C X.env) fp) elt (tI (X.blk s H scope (compEnvC scope cl C X.env) fp) G noW f)) (hs : ∀ x, foldedSetIterable iter X.env x = pure x) :
    PS X (.Assign [.Name y py] (.ListComp elt [⟨tg, iter, [cnd], 0⟩] scope pos) spos) (tS X G W (sSet i (dComp fi g t f (own.map (·.2))))) :=
  PS.imp (ps_setLc hc hN hy hyl hsw hi ok (fun s H C cl fp => PG.imp (hg s H C cl fp) fun v σ H Q h => h _) (tt := fun σ H Q => ∀ X2, tT X2 G noW t σ H Q) (fun s H C cl fp => pts_one (PT.imp (ht s H C cl fp) fun σ H Q h => h _)) (fun s H C cl fp => PE.imp (he s H C cl fp) fun σ H Q h => h _) hs) fun T σ H h =>
    tI_comp hgs (fun _ _ _ h => h) (tS_set h)
end
end MI

set_option Elab.async false
set_option linter.all false
set_option maxRecDepth 100000
namespace MI
open PySem PySem.Spec PyProof.Rows L2
/-! calls of own functions -/
/-- room for k levels of calls -/
structure RoomG (calm : Bool) (k : Nat) (A : Around) : Prop where
  dp : A.depth + 3 * k + 5 < recursionLimit
  un : A.units + 16 * k + 200 < cLine
  hd : calm = true → A.handled = none
  gd : A.guards = some []
section
variable {calm : Bool} {j k : Nat} {A : Around}
theorem RoomG.mono (r : RoomG calm k A) (h : j ≤ k) : RoomG calm j A := ⟨by have := r.dp; omega, by have := r.un; omega, r.hd, r.gd⟩
theorem RoomG.deeper (r : RoomG calm (k + 1) A) (env : PySem.Env) : RoomG calm k (A.deeper env) :=
  ⟨by have := r.dp; show A.depth + 1 + 3 * k + 5 < _; omega, by have := r.un; show A.units + 3 + 16 * k + 200 < _; omega, r.hd, r.gd⟩
theorem RoomG.depth (r : RoomG calm k A) : A.depth < recursionLimit := by have := r.dp; omega
theorem RoomG.room (r : RoomG true k A) : Room k A := ⟨r.hd rfl, r.dp, r.un⟩
theorem RoomG.make (r : RoomG calm (k + 1) A) (C : Addr) (us : List Value) (kw : List (Str × Value)) : RoomG calm k (A.under (.builtin "type.__call__" ⟨.ref C :: us, kw⟩)) :=
  ⟨by have := r.dp; rw [make_depth]; omega, by have := r.un; rw [make_units]; omega, fun h => r.hd h, by
    have := r.gd
    first
      | exact this
      | (simp [Around.under, Code.guards, Code.isGuard, guardIds, pushGuards, this])⟩
end
/-- what a def promises, called within a suite or without -/
structure FnG (calm : Bool) (P : Program) (w : World) (K : PySem.W.Frag) (mg : Str → Option Value) (base : Heap) (k : Nat) (f : Addr) (fd : FuncData) (ps : List Str) (sp : Sp) : Prop where
  len : ∀ vs H Q E, sp vs H Q E → vs.length = ps.length
  run : ∀ (A : Around) (outer : List PySem.Env) (s : Shared) (H : Hp) (args : Args) (us : List Value) (vs : List V) (Q : VK) (E : XK), RoomG calm k A → Env0 P w K mg base A outer s H → BindsTo s fd args (ps.zip us) → Vals vs us → sp vs H Q E →
    codeAny (model P w) A (.call (.ref f) args) (CR (L2.CX P w) outer P w H s Q E) s
/-- the context of a def's body -/
def cxG (calm : Bool) (P : Program) (w : World) (K : PySem.W.Frag) (mg : Str → Option Value) (base : Heap) (N : List Str) (qual : Str) (scope : Scope) (f : Addr) (cd : Value) (A : Around) (outer : List PySem.Env) (s : Shared) (H : Hp) (E : XK) : Cx :=
  { cxOf (L2.CX P w) P w K mg base N qual scope f cd A outer s H E with calm := calm }
section
variable {calm : Bool} {P : Program} {w : World} {K : PySem.W.Frag} {mg : Str → Option Value} {base : Heap} {N ps : List Str} {qual : Str} {scope : Scope} {f : Addr} {cd : Value} {A : Around} {outer : List PySem.Env} {s s1 : Shared} {H : Hp} {E : XK} {us : List Value} {vs : List V} {k : Nat}
theorem inv_go (S : FnScope N ps scope) (hd : calm = true → A.handled = none) (e0 : Env0 P w K mg base A outer s H) (hl : vs.length = ps.length) (r : Vals vs us)
    (x : InCallC s s.heap.objs.size (bindL (envOfC qual scope s.heap.objs.size f cd).kindOf (ps.zip us) fun _ => none) (cellsFrom (s.heap.objs.size + 1) scope.names []) (bindC (envOfC qual scope s.heap.objs.size f cd).kindOf (ps.zip us) fun _ => none) s1) :
    Inv (cxG calm P w K mg base N qual scope f cd A outer s H E) [] (L2.start N vs) H s1 := by
  have e1 : Env0 P w K mg base { A with handled := none } outer s H := ⟨e0.frames, e0.mod, e0.bs, e0.bsz, e0.funs, e0.frf, e0.hok, e0.bare⟩
  have I := inv_start (CX := L2.CX P w) (E := E) S rfl e1 hl r x
  have fr : (A.deeper (envOfC qual scope s.heap.objs.size f cd)).frames = some (envOfC qual scope s.heap.objs.size f cd :: outer) := Around.frames_deeper e0.frames
  exact ⟨⟨I.ok.mod, I.ok.kind, I.ok.glob, I.ok.blt, I.ok.above, I.ok.inj, I.ok.has, I.ok.cab, hd, fr, I.ok.stk, I.ok.exf, I.ok.bs, I.ok.bsz, I.ok.noex, I.ok.exfs, I.ok.funs, I.ok.frf⟩, I.os, I.bare, I.base, I.loc, I.cell, I.free, I.freeC, I.pin, I.hok, I.len⟩
theorem takesG : Takes (cxG calm P w K mg base N qual scope f cd A outer s H E) (fun c d _ H => E c d H) :=
  takes_of (X := cxG calm P w K mg base N qual scope f cd A outer s H E) (E₁ := fun e' s'' => L2.CX P w outer H s E e' s'') rfl rfl rfl rfl
theorem passesG : PassesOwn (model P w) (A.deeper (envOfC qual scope s.heap.objs.size f cd)) (envOfC qual scope s.heap.objs.size f cd) (cxG calm P w K mg base N qual scope f cd A outer s H E).xe :=
  passes_of (X := cxG calm P w K mg base N qual scope f cd A outer s H E) (K := fun e s'' => L2.CX P w outer H s E e s'') (E₁ := fun e' s'' => L2.CX P w outer H s E e' s'') rfl
theorem fn_ofG {name : Str} {params : Arguments} {body : List Stmt} {dV kV doc pm cdv ct oc : Value} {an od : Option Addr}
    {osl : Array (Option Value)} {sp : Sp} (lk : K.lookup f = some ⟨oc, od, .func (PySem.W.fnOf name qual params body scope dV kV doc pm an cdv ct), osl⟩) (hcd : PySem.W.codeIn K cdv qual = true) (S : FnScope N ps scope)
    (len : ∀ vs H Q E, sp vs H Q E → vs.length = ps.length)
    (hbody : ∀ (A : Around) (outer : List PySem.Env) (s : Shared) (H : Hp) (vs : List V) (Q : VK) (E : XK), RoomG calm k (A.deeper (envOfC qual scope s.heap.objs.size f cdv)) → sp vs H Q E →
      ∃ t, PSs (cxG calm P w K mg base N qual scope f cdv A outer s H E) body t ∧ t { nx := fun _ H' => Q .non H', rt := Q } (L2.start N vs) H) :
    FnG calm P w K mg base (k + 1) f (PySem.W.fnOf name qual params body scope dV kV doc pm an cdv ct) ps sp := by
  refine ⟨len, fun A outer s H args us vs Q E hr e0 hb r hsp => ?_⟩
  have hl := len _ _ _ _ hsp
  have KX : K.In s.heap := e0.mod.kin.keeps fun b o e => (e0.bs b o e).1
  have lim : s.heap.NoLimit := e0.mod.nolimit.keeps fun b o e => (e0.bs b o e).1
  have hkind : ∀ y ∈ ps.zip us, scope.names.lookup y.1 = some .local ∨ (scope.names.lookup y.1 = some .cell ∧ ((cellsFrom (s.heap.objs.size + 1) scope.names []).lookup y.1).isSome = true) := fun ⟨n, v⟩ hy => by
    rcases S.par n (List.of_mem_zip hy).1 with q | q
    · exact .inl q
    · exact .inr ⟨q, PySem.W.cellsFrom_some _ _ _ (.inl q)⟩
  refine codeAny_call_function hr.depth (KX _ _ lk) rfl S.co S.gen rfl (PySem.W.codeRec_of KX hcd) (hb _ _ _ _ ?_)
  refine wpAny_newFunctionEnv_cells S.kind hkind fun env he s1 x => ?_
  subst he
  refine ⟨lim.keeps x.toInCall.keep, codeAny_func ?_⟩
  obtain ⟨t, ht, hq⟩ := hbody A outer s H vs Q E (hr.deeper _) hsp
  have I : Inv (cxG calm P w K mg base N qual scope f cdv A outer s H E) [] (L2.start N vs) H s1 := inv_go S hr.hd e0 hl r x
  refine wpAny_mono (ht.run [] s1 (L2.start N vs) H _ I hq) (fun fl s' hs => ?_) fun e s' hs => hs
  have fin : ∀ {σ' : St} {H' : Hp} {v : V} {u : Value}, Inv (cxG calm P w K mg base N qual scope f cdv A outer s H E) [] σ' H' s' → RelV v u → Q v H' → CE outer P w H s Q u s' :=
    fun {σ' H' v u} J rv q => ⟨v, H', J.os, J.bare, J.base, J.hok, rv, q⟩
  cases fl with
  | ret u =>
    obtain ⟨v, σ', H', J, rv, q⟩ := hs
    exact fin J rv q
  | next =>
    obtain ⟨σ', H', J, q⟩ := hs
    exact fin (v := V.non) (u := Value.none) J rfl q
  | brk =>
    obtain ⟨_, _, _, q⟩ := hs
    exact False.elim q
  | cont =>
    obtain ⟨_, _, _, q⟩ := hs
    exact False.elim q
end
/-! by deep values -/
abbrev Fun := List D → Mem → R D
/-- a def's promise: what f computes of n arguments -/
def spI (G : GC) (n : Nat) (f : Fun) : Sp := fun vs H Q E => vs.length = n ∧ ∃ ρ M ds, Rel G ρ H M ∧ RepL G ρ M.length H ds vs ∧ PostR G (fun c d _ H => E c d H) [] ρ M.length H (GV G Q) (f ds M)
/-- a body run: nN names -/
def O.ret : O → R D
  | .nx _ M => .ok .non M
  | .rt d M => .ok d M
  | .ex c fs _ M => .ex c fs M
  | _ => .st
def runB (nN : Nat) (b : DenS) : Fun := fun ds M => (b (ds.map some ++ List.replicate (nN - ds.length) none) M).ret
theorem RepE.start {X : Cx} {G : GC} {ρ : Nat → Addr} {n : Nat} {H : Hp} {N : List Str} {ds : List D} {vs : List V} (r : RepL G ρ n H ds vs) :
    RepE X G ρ n H (L2.start N vs) (ds.map some ++ List.replicate (N.length - ds.length) none) := by
  have hl := r.length
  refine ⟨by unfold L2.start; simp [hl], fun i d e => ?_⟩
  have hi : i < ds.length := by
    by_cases hi : i < ds.length
    · exact hi
    · rw [List.getElem?_append_right (by simpa using hi), List.getElem?_replicate] at e
      split at e <;> cases e
  rw [List.getElem?_append_left (by simpa using hi), List.getElem?_map] at e
  cases q : ds[i]? with
  | none => rw [q] at e; cases e
  | some d' =>
    rw [q] at e
    cases e
    obtain ⟨v, hv, rv⟩ := r.get q
    refine ⟨v, ?_, .of rv⟩
    unfold L2.start
    rw [List.getElem?_append_left (by rw [List.length_map, hl]; exact hi), List.getElem?_map, hv]
    rfl
/-- a def by its body's denotation -/
theorem fn_den {calm : Bool} {P : Program} {w : World} {K : PySem.W.Frag} {mg : Str → Option Value} {base : Heap} {N ps : List Str} {qual : Str} {scope : Scope} {f : Addr} {k : Nat} {G : GC} {b : DenS}
    {name : Str} {params : Arguments} {body : List Stmt} {dV kV doc pm cdv ct oc : Value} {an od : Option Addr}
    {osl : Array (Option Value)} (lk : K.lookup f = some ⟨oc, od, .func (PySem.W.fnOf name qual params body scope dV kV doc pm an cdv ct), osl⟩) (hcd : PySem.W.codeIn K cdv qual = true) (S : FnScope N ps scope)
    (hbody : ∀ (A : Around) (outer : List PySem.Env) (s : Shared) (H : Hp) (E : XK), RoomG calm k (A.deeper (envOfC qual scope s.heap.objs.size f cdv)) →
      PSs (cxG calm P w K mg base N qual scope f cdv A outer s H E) body (tS (cxG calm P w K mg base N qual scope f cdv A outer s H E) G (fun c d _ H => E c d H) b)) :
    FnG calm P w K mg base (k + 1) f (PySem.W.fnOf name qual params body scope dV kV doc pm an cdv ct) ps (spI G ps.length (runB N.length b)) := by
  refine fn_ofG lk hcd S (fun vs H Q E h => h.1) fun A outer s H vs Q E hr h => ⟨_, hbody A outer s H E hr, ?_⟩
  obtain ⟨hl, ρ, M, ds, r, rl, p⟩ := h
  refine ⟨ρ, M, _, r, .start rl, ?_⟩
  unfold runB at p
  generalize b (ds.map some ++ List.replicate (N.length - ds.length) none) M = o at p
  cases o with
  | nx ev M' => exact fun ρ' σ' H' g r' _ => p ρ' H' g r' .non (by simp only [RepV])
  | rt d M' => exact fun ρ' v H' g r' rv => p ρ' H' g r' v rv
  | ex c fs ev M' => exact fun ρ' d fv σ' H' g r' _ q rf => p ρ' d fv H' g r' q rf
  | bk ev M' => exact p.elim
  | ct ev M' => exact p.elim
  | st => exact p.elim
/-! calls -/
/-- a callee at hand -/
structure Cal (X : Cx) (G : GC) (x : Str) (fd : FuncData) (ps : List Str) (f : Fun) : Prop where
  ex : ∃ (k : Nat) (a : Addr), FnG X.calm X.prog X.w X.K X.mg X.base k a fd ps (spI G ps.length f) ∧ RoomG X.calm k X.A ∧ X.mg x = some (.ref a) ∧ PySem.W.keepIn X.K (.ref a) = true
/-- a default as a deep value -/
def DefOk (d : D) (u : Value) : Prop := ∃ v, RelV v u ∧ ∀ G ρ N H, RepV G ρ N H d v
/-- from where a parameter has its value: the i-th that is given, or a default -/
def pickD (S : List (Nat ⊕ D)) (xs : List D) : Option (List D) := match S with
  | [] => some []
  | .inl i :: r => match xs[i]?, pickD r xs with
    | some d, some ds => some (d :: ds)
    | _, _ => none
  | .inr d :: r => match pickD r xs with
    | some ds => some (d :: ds)
    | none => none
def pickU (S : List (Nat ⊕ Value)) (xs : List Value) : List Value := S.map fun
  | .inl i => xs.getD i .none
  | .inr u => u
/-- the two tell the same -/
def Pk : List (Nat ⊕ D) → List (Nat ⊕ Value) → Prop
  | [], [] => True
  | .inl i :: r, .inl j :: t => i = j ∧ Pk r t
  | .inr d :: r, .inr u :: t => DefOk d u ∧ Pk r t
  | _, _ => False
theorem pick_ok {G : GC} {ρ : Nat → Addr} {N : Nat} {H : Hp} {xs : List D} {vs : List V} {us : List Value} (r : RepL G ρ N H xs vs) (rv : Vals vs us) :
    ∀ {S : List (Nat ⊕ D)} {T : List (Nat ⊕ Value)} {ys : List D}, Pk S T → pickD S xs = some ys → ∃ ws, Vals ws (pickU T us) ∧ RepL G ρ N H ys ws
  | [], [], ys, _, h => by cases h; exact ⟨[], .nil, .nil⟩
  | .inl i :: r', .inl j :: t, ys, h, e => by
    obtain ⟨rfl, h2⟩ := h
    unfold pickD at e
    split at e
    · rename_i d ds e1 e2
      cases e
      obtain ⟨ws, a, b⟩ := pick_ok r rv h2 e2
      obtain ⟨v, hv, r1⟩ := r.get e1
      obtain ⟨u, hu, r2⟩ := rv.get hv
      refine ⟨v :: ws, .cons ?_ a, .cons r1 b⟩
      show RelV v (us.getD i .none)
      rw [List.getD_eq_getElem?_getD, hu]
      exact r2
    · cases e
  | .inr d :: r', .inr u :: t, ys, h, e => by
    obtain ⟨⟨v, h0, h1⟩, h2⟩ := h
    unfold pickD at e
    split at e
    · rename_i ds e2
      cases e
      obtain ⟨ws, a, b⟩ := pick_ok r rv h2 e2
      exact ⟨v :: ws, .cons h0 a, .cons (h1 _ _ _ _) b⟩
    · cases e
  | [], _ :: _, _, h, _ => h.elim
  | .inl _ :: _, [], _, h, _ => h.elim
  | .inr _ :: _, [], _, h, _ => h.elim
  | .inl _ :: _, .inr _ :: _, _, h, _ => h.elim
  | .inr _ :: _, .inl _ :: _, _, h, _ => h.elim
theorem pickU_len {T : List (Nat ⊕ Value)} {us : List Value} : (pickU T us).length = T.length := by simp [pickU]
/-- how a call with n values in places and the keywords ks binds -/
structure CBind (K : PySem.W.Frag) (fd : FuncData) (ps : List Str) (n : Nat) (ks : List Str) (S : List (Nat ⊕ D)) : Prop where
  ex : ∃ T : List (Nat ⊕ Value), Pk S T ∧ T.length = ps.length ∧ ∀ (s : Shared) (us ws : List Value), K.In s.heap → us.length = n → ws.length = ks.length → BindsTo s fd ⟨us, ks.zip ws⟩ (ps.zip (pickU T (us ++ ws)))
def dCal (f : Fun) (a : DenL) : Den := fun ev M => (a ev M).bind f
def dCalK (f : Fun) (n m : Nat) (S : List (Nat ⊕ D)) (a b : DenL) : Den := fun ev M => (a ev M).bind fun xs M1 => (b ev M1).bind fun ys M2 =>
  if xs.length = n ∧ ys.length = m then (match pickD S (xs ++ ys) with
    | some zs => f zs M2
    | none => .st) else .st
theorem PostR.wish {G : GC} {α : Type} {W W' : WX} {σ σ' : St} {ρ : Nat → Addr} {N : Nat} {H : Hp} {P : Good α} {r : R α} (p : PostR G W σ ρ N H P r) (h : ∀ c d H, W c d σ H → W' c d σ' H) : PostR G W' σ' ρ N H P r := by
  cases r with
  | ok a M' => exact p
  | ex c fs M' => exact fun ρ2 d fv H2 g2 r2 q f => h _ _ _ (p ρ2 d fv H2 g2 r2 q f)
  | st => exact p
section
variable {X : Cx} {G : GC} {W : WX} {es : List Expr} {e : Expr} {kws : List Keyword} {fl fk : DenL} {x : Str} {np n : Nat} {f : Fun} {p pos kpos : Pos} {fd : FuncData} {ps ks : List Str} {S : List (Nat ⊕ D)} {fe : Den} {nm : Option Str}
theorem call_fnG {pins : List (Addr × Obj)} {σ : St} {H : Hp} {s : Shared} {Q : VK} {us ws : List Value} {kv : List (Str × Value)} {vs : List V} {k : Nat} {a : Addr} {sp : Sp} {E : XK}
    (F : FnG X.calm X.prog X.w X.K X.mg X.base k a fd ps sp) (hr : RoomG X.calm k X.A) (hx : PassesAt (L2.CX X.prog X.w) X σ E)
    (I : Inv X pins σ H s) (hb : BindsTo s fd ⟨ws, kv⟩ (ps.zip us)) (r : Vals vs us) (h : sp vs H Q E) : wpAny (model X.prog X.w) X.A (call (.ref a) ws kv) (EP X pins σ Q) X.xe s := by
  refine wpAny_call (codeAny_mono (F.run X.A X.stack s H ⟨ws, kv⟩ us vs Q E hr I.env0 hb r h) fun r s' hq => ?_)
  cases r with
  | error e => exact hx pins H s e s' I hq
  | ok fl =>
    cases fl with
    | ret u => exact I.after hq
    | next => exact False.elim hq
    | brk => exact False.elim hq
    | cont => exact False.elim hq
/-- f(e, ..), every parameter given in its place -/
theorem i_call (tk : Takes X W) (hg : Gl X x) (F : Cal X G x fd ps f) (hb : ∀ us : List Value, us.length = ps.length → bindArgs fd ⟨us, []⟩ = pure (ps.zip us)) (ha : PA X (e :: es) (tL X G W fl)) (hdb : (x == ("__debug__" : Str)) = false)
    (hn : ∀ ev M ds M1, fl ev M = .ok ds M1 → ds.length = ps.length)
    (he : starEach (e :: es) X.env = (false, eval e X.env) :: starEach es X.env) (hpl : (backTo pos (starEach es X.env)).any (·.1) = false) :
    PE X (.Call (.Name x p) (e :: es) [] pos) (tI X G W (dCal f fl)) := by
  obtain ⟨k, a, F, hr, hm, hk⟩ := F.ex
  refine ⟨fun pins s σ H Q I h => ?_⟩
  refine wpAny_Call_Name_kw (ld_glob I hg hm ?_ hdb)
  obtain ⟨ρ, M, ev, r, er, p⟩ := h
  have q : tL X G W fl σ H fun vs H1 => spI G ps.length f vs H1 Q (WE W σ) := ⟨ρ, M, ev, r, er, p.step fun ds M1 ρ1 H1 e1 g1 r1 p1 vs rl => ⟨by rw [rl.length]; exact hn _ _ _ _ e1, ρ1, M1, ds, r1, rl, p1.wish fun _ _ _ h => h⟩⟩
  refine PySem.W.callWith_K (h₀ := X.base) I.ok.mod.kin hk (thn (ha.run pos pins s σ H _ I q) fun us s1 ⟨vs, H1, I1, rv, q1⟩ => ⟨I1.kIn, ?_⟩) he hpl
  exact call_fnG F hr (passAt tk σ) I1 (.of_eq (hb us (by rw [← rv.length]; exact q1.1))) rv q1
theorem i_call0 (tk : Takes X W) (hg : Gl X x) (F : Cal X G x fd [] f) (hb : bindArgs fd ⟨[], []⟩ = pure []) (hdb : (x == ("__debug__" : Str)) = false) :
    PE X (.Call (.Name x p) [] [] pos) (tI X G W (dCal f dNil)) := by
  obtain ⟨k, a, F, hr, hm, hk⟩ := F.ex
  refine ⟨fun pins s σ H Q I h => ?_⟩
  refine wpAny_Call_Name_kw (ld_glob I hg hm ?_ hdb)
  obtain ⟨ρ, M, ev, r, er, p⟩ := h
  exact PySem.W.callWith_K0 I.kIn hk (call_fnG (us := []) (vs := []) F hr (passAt tk σ) I (.of_eq hb) .nil ⟨rfl, ρ, M, [], r, .nil, p.wish fun _ _ _ h => h⟩)
theorem k_nil : PK X [] (tL X G W dNil) := ⟨fun _ pins s σ H Q I h => by
  obtain ⟨ρ, M, ev, r, er, p⟩ := h
  exact wpAny_evalAll_nil ⟨[], H, I, .nil, p ρ H .refl r [] .nil⟩⟩
theorem k_cons (ha : PE X e (tI X G W fe)) (hr : PK X kws (tL X G W fl)) : PK X (⟨nm, e, kpos⟩ :: kws) (tL X G W (dCons fe fl)) := by
  refine ⟨fun pos pins s σ H Q I h => (pk_cons (nm := nm) (kpos := kpos) ha hr).run pos pins s σ H Q I ?_⟩
  obtain ⟨ρ, M, ev, r, er, p⟩ := h
  refine ⟨ρ, M, ev, r, er, p.step fun d M1 ρ1 H1 _ g1 r1 p1 v rv => ⟨ρ1, M1, ev, r1, er.grow g1, p1.step fun ds M2 ρ2 H2 _ g2 r2 p2 vs rvs => ?_⟩⟩
  exact p2 ρ2 H2 .refl r2 (v :: vs) (.cons (rv.grow g2) rvs)
/-- f(e, .., k = v, ..), or defaults -/
theorem i_callK (tk : Takes X W) (hg : Gl X x) (F : Cal X G x fd ps f) (hb : CBind X.K fd ps n ks S) (ha : PA X (e :: es) (tL X G W fl)) (hkw : PK X kws (tL X G W fk)) (hdb : (x == ("__debug__" : Str)) = false)
    (hall : (backToKw pos (keywordEach kws X.env)).all (·.1.isSome) = true) (hks : (backToKw pos (keywordEach kws X.env)).filterMap (·.1) = ks) (he : starEach (e :: es) X.env = (false, eval e X.env) :: starEach es X.env)
    (hpl : ((backTo pos (starEach (e :: es) X.env)).any (·.1) || (backToKw pos (keywordEach kws X.env)).any (·.1.isNone)) = false) :
    PE X (.Call (.Name x p) (e :: es) kws pos) (tI X G W (dCalK f n ks.length S fl fk)) := by
  obtain ⟨k, a, F, hr, hm, hk⟩ := F.ex
  obtain ⟨T, hT, hTl, hB⟩ := hb.ex
  refine ⟨fun pins s σ H Q I h => ?_⟩
  refine wpAny_Call_Name_kw (ld_glob I hg hm ?_ hdb)
  obtain ⟨ρ, M, ev, r, er, p⟩ := h
  have q : tL X G W fl σ H fun vs H1 => tL X G W fk σ H1 fun zs H2 => ∃ (ρ2 : Nat → Addr) (M2 : Mem) (xs ys ds : List D), Rel G ρ2 H2 M2 ∧ RepL G ρ2 M2.length H2 (xs ++ ys) (vs ++ zs) ∧ vs.length = n ∧ zs.length = ks.length ∧ pickD S (xs ++ ys) = some ds ∧ PostR G W σ ρ2 M2.length H2 (GV G Q) (f ds M2) :=
    ⟨ρ, M, ev, r, er, p.step fun xs M1 ρ1 H1 _ g1 r1 p1 vs rv => ⟨ρ1, M1, ev, r1, er.grow g1, p1.step fun ys M2 ρ2 H2 _ g2 r2 p2 zs rz => by
      split at p2
      · rename_i hl
        split at p2
        · rename_i ds e1
          exact ⟨ρ2, M2, xs, ys, ds, r2, (rv.grow g2).append rz, rv.length.trans hl.1, rz.length.trans hl.2, e1, p2⟩
        · exact p2.elim
      · exact p2.elim⟩⟩
  refine PySem.W.callWith_KW (h₀ := X.base) I.ok.mod.kin hk hall (thn (ha.run pos pins s σ H _ I q) fun us s1 ⟨vs, H1, I1, rv, q1⟩ => ?_) hpl he
  refine thn (hkw.run pos pins s1 σ H1 _ I1 q1) fun ws s2 ⟨zs, H2, I2, rz, q2⟩ => ⟨I2.kIn, ?_⟩
  rw [hks]
  obtain ⟨ρ2, M2, xs, ys, ds, r2, rl, l1, l2, e1, p2⟩ := q2
  obtain ⟨vv, a1, a2⟩ := pick_ok rl (rv.append rz) hT e1
  exact call_fnG F hr (passAt tk σ) I2 (hB s2 us ws I2.kIn (by rw [← rv.length]; exact l1) (by rw [← rz.length]; exact l2)) a1
    ⟨by rw [a1.length, pickU_len, hTl], ρ2, M2, ds, r2, a2, p2.wish fun _ _ _ h => h⟩
theorem i_callK0 (tk : Takes X W) (hg : Gl X x) (F : Cal X G x fd ps f) (hb : CBind X.K fd ps 0 ks S) (hkw : PK X kws (tL X G W fk)) (hdb : (x == ("__debug__" : Str)) = false)
    (hall : (backToKw pos (keywordEach kws X.env)).all (·.1.isSome) = true) (hks : (backToKw pos (keywordEach kws X.env)).filterMap (·.1) = ks)
    (hpl : ((backTo pos (starEach [] X.env)).any (·.1) || (backToKw pos (keywordEach kws X.env)).any (·.1.isNone)) = false) :
    PE X (.Call (.Name x p) [] kws pos) (tI X G W (dCalK f 0 ks.length S dNil fk)) := by
  obtain ⟨k, a, F, hr, hm, hk⟩ := F.ex
  obtain ⟨T, hT, hTl, hB⟩ := hb.ex
  refine ⟨fun pins s σ H Q I h => ?_⟩
  refine wpAny_Call_Name_kw (ld_glob I hg hm ?_ hdb)
  obtain ⟨ρ, M, ev, r, er, p⟩ := h
  have q : tL X G W fk σ H fun zs H2 => ∃ (ρ2 : Nat → Addr) (M2 : Mem) (ys ds : List D), Rel G ρ2 H2 M2 ∧ RepL G ρ2 M2.length H2 ys zs ∧ zs.length = ks.length ∧ pickD S ys = some ds ∧ PostR G W σ ρ2 M2.length H2 (GV G Q) (f ds M2) :=
    ⟨ρ, M, ev, r, er, (show PostR G W σ ρ M.length H (GV G Q) ((fk ev M).bind fun ys M2 => if ([] : List D).length = 0 ∧ ys.length = ks.length then (match pickD S ([] ++ ys) with
      | some zs => f zs M2
      | none => .st) else .st) from p).step fun ys M2 ρ2 H2 _ g2 r2 p2 zs rz => by
      split at p2
      · rename_i hl
        split at p2
        · rename_i ds e1
          exact ⟨ρ2, M2, ys, ds, r2, rz, rz.length.trans hl.2, e1, p2⟩
        · exact p2.elim
      · exact p2.elim⟩
  refine PySem.W.callWith_KW0 (h₀ := X.base) I.ok.mod.kin hk hall (thn (hkw.run pos pins s σ H _ I q) fun ws s2 ⟨zs, H2, I2, rz, q2⟩ => ⟨I2.kIn, ?_⟩) hpl
  rw [hks]
  obtain ⟨ρ2, M2, ys, ds, r2, rl, l2, e1, p2⟩ := q2
  obtain ⟨vv, a1, a2⟩ := pick_ok rl rz hT e1
  exact call_fnG F hr (passAt tk σ) I2 (hB s2 [] ws I2.kIn rfl (by rw [← rz.length]; exact l2)) a1
    ⟨by rw [a1.length, pickU_len, hTl], ρ2, M2, ds, r2, a2, p2.wish fun _ _ _ h => h⟩
end
end MI

set_option Elab.async false
set_option linter.all false
set_option maxRecDepth 100000
namespace MI
open PySem PySem.Spec PyProof.Rows L2
/-! method calls -/
theorem len_nil : ∀ ev M ds M1, dNil ev M = R.ok ds M1 → ds.length = 0 := fun _ _ _ _ h => by cases h; rfl
theorem len_cons {a : Den} {r : DenL} {n : Nat} (h : ∀ ev M ds M1, r ev M = R.ok ds M1 → ds.length = n) : ∀ ev M ds M1, dCons a r ev M = R.ok ds M1 → ds.length = n + 1 := fun ev M ds M1 e => by
  unfold dCons at e
  cases e1 : a ev M with
  | ok d M2 =>
    rw [e1] at e
    cases e2 : r ev M2 with
    | ok xs M3 =>
      have e : ((r ev M2).bind fun xs M2 => R.ok (d :: xs) M2) = R.ok ds M1 := e
      rw [e2] at e
      cases e
      rw [List.length_cons, h _ _ _ _ e2]
    | ex c fs M3 =>
      have e : ((r ev M2).bind fun xs M2 => R.ok (d :: xs) M2) = R.ok ds M1 := e
      rw [e2] at e
      cases e
    | st =>
      have e : ((r ev M2).bind fun xs M2 => R.ok (d :: xs) M2) = R.ok ds M1 := e
      rw [e2] at e
      cases e
  | ex c fs M2 => rw [e1] at e; cases e
  | st => rw [e1] at e; cases e
/-- a callable that a method's name gives of a receiver -/
abbrev MetD := D → Mem → Option (List D → Mem → R D)
/-- what callWith takes as it is -/
inductive Cle (X : Cx) : Value → Prop where
  | blt (id : String) : Cle X (.builtin id)
  | own (a : Addr) (h : PySem.W.keepIn X.K (.ref a) = true) : Cle X (.ref a)
/-- the name of a method, at the receivers that m knows -/
structure MetR (X : Cx) (G : GC) (W : WX) (name : Str) (m : MetD) : Prop where
  run : ∀ (pins : List (Addr × Obj)) (s : Shared) (σ : St) (H : Hp) (ρ : Nat → Addr) (M : Mem) (d : D) (x : V) (v : Value) (g : List D → Mem → R D) (pl : Sem Bool) (Q : Value × List Value → Shared → Prop),
    Inv X pins σ H s → Rel G ρ H M → RepV G ρ M.length H d x → RelV x v → m d M = some g →
    (∀ (f : Value) (first : List Value), Cle X f → (∀ (s2 : Shared) (H2 : Hp) (ρ2 : Nat → Addr) (M2 : Mem) (us : List Value) (vs : List V) (ds : List D) (Q2 : VK), Inv X pins σ H2 s2 → Grow G ρ M.length H ρ2 M2.length H2 → Rel G ρ2 H2 M2 → Vals vs us → RepL G ρ2 M2.length H2 ds vs →
        PostR G W σ ρ2 M2.length H2 (GV G Q2) (g ds M2) → wpAny (model X.prog X.w) X.A (call f (first ++ us)) (EP X pins σ Q2) X.xe s2) → Q (f, first) s) →
    wpAny (model X.prog X.w) X.A (getMethod v name pl) Q X.xe s
def mOr (m n : MetD) : MetD := fun d M => match m d M with
  | some g => some g
  | none => n d M
theorem MetR.or {X : Cx} {G : GC} {W : WX} {name : Str} {m n : MetD} (a : MetR X G W name m) (b : MetR X G W name n) : MetR X G W name (mOr m n) :=
  ⟨fun pins s σ H ρ M d x v g pl Q I r rd rv e q => by
    unfold mOr at e
    split at e
    · rename_i g' e'
      cases e
      exact a.run pins s σ H ρ M d x v _ pl Q I r rd rv e' q
    · exact b.run pins s σ H ρ M d x v g pl Q I r rd rv e q⟩
def dMet (m : MetD) (o : Den) (a : DenL) : Den := fun ev M => (o ev M).bind fun d M1 => match m d M1 with
  | some g => (a ev M1).bind g
  | none => .st
theorem callWith_cle {X : Cx} {pins : List (Addr × Obj)} {σ : St} {H : Hp} {s : Shared} {f : Value} {first : List Value} {e : Expr} {es : List Expr} {pos : Pos} {Q : Value → Shared → Prop} (I : Inv X pins σ H s) (c : Cle X f)
    (he : starEach (e :: es) X.env = (false, eval e X.env) :: starEach es X.env) (hpl : (backTo pos (starEach es X.env)).any (·.1) = false)
    (h : wpAny (model X.prog X.w) X.A (spliced (backTo pos (starEach (e :: es) X.env))) (fun us s1 => X.K.In s1.heap ∧ wpAny (model X.prog X.w) X.A (call f (first ++ us)) Q X.xe s1) X.xe s) :
    wpAny (model X.prog X.w) X.A (callWith pos f first (backTo pos (starEach (e :: es) X.env)) []) Q X.xe s := by
  cases c with
  | blt id =>
    have h2 := thn h fun us s1 q => q.2
    rw [he] at h2 ⊢
    refine Calls.callWith_builtin (by show (false || (backTo pos (starEach es X.env)).any (·.1)) = false; rw [hpl] <;> rfl) (Calls.evalArgs_plain ?_)
    exact h2
  | own a hk => exact PySem.W.callWith_K (h₀ := X.base) I.ok.mod.kin hk h he hpl
theorem callWith_cle0 {X : Cx} {pins : List (Addr × Obj)} {σ : St} {H : Hp} {s : Shared} {f : Value} {first : List Value} {pos : Pos} {Q : Value → Shared → Prop} (I : Inv X pins σ H s) (c : Cle X f)
    (h : wpAny (model X.prog X.w) X.A (call f (first ++ [])) Q X.xe s) :
    wpAny (model X.prog X.w) X.A (callWith pos f first (backTo pos (starEach [] X.env)) []) Q X.xe s := by
  cases c with
  | blt id => exact Calls.callWith_builtin rfl (PySem.evalArgs_none h)
  | own a hk => exact PySem.W.callWith_K0 I.kIn hk h
section
variable {X : Cx} {G : GC} {W : WX} {o e : Expr} {es : List Expr} {fo : Den} {fl : DenL} {name : Str} {m : MetD} {apos pos : Pos}
theorem i_met {pl : Sem Bool} (hm : MetR X G W name m) (ho : PE X o (tI X G W fo)) (ha : PA X (e :: es) (tL X G W fl))
    (he : starEach (e :: es) X.env = (false, eval e X.env) :: starEach es X.env) (hpl : (backTo pos (starEach es X.env)).any (·.1) = false)
    (ht : eval (.Call (.Attribute o name apos) (e :: es) [] pos) X.env = (do
      let ov ← eval o X.env
      standAt apos.atName
      let (f, first) ← holding [ov] (getMethod ov name pl)
      callWith pos f first (backTo pos (starEach (e :: es) X.env)) (backToKw pos (keywordEach [] X.env)))) :
    PE X (.Call (.Attribute o name apos) (e :: es) [] pos) (tI X G W (dMet m fo fl)) := by
  refine ⟨fun pins s σ H Q I h => ?_⟩
  obtain ⟨ρ, M, ev, r, er, p⟩ := h
  have q : tI X G W fo σ H fun x H1 => ∃ ρ1 M1 d, Rel G ρ1 H1 M1 ∧ RepV G ρ1 M1.length H1 d x ∧ RepE X G ρ1 M1.length H1 σ ev ∧ ∃ g, m d M1 = some g ∧ PostR G W σ ρ1 M1.length H1 (GV G Q) ((fl ev M1).bind g) :=
    ⟨ρ, M, ev, r, er, p.step fun d M1 ρ1 H1 _ g1 r1 p1 v rv => by
      split at p1
      · rename_i g eg
        exact ⟨ρ1, M1, d, r1, rv, er.grow g1, g, eg, p1⟩
      · exact p1.elim⟩
  refine PySem.W.methodCall_KW (pl := pl) (thn (ho.run pins s σ H _ I q) fun u s1 ⟨x, H1, I1, rx, ρ1, M1, d, r1, rv, er1, g, eg, p1⟩ => ?_) ht
  refine hm.run pins s1 σ H1 ρ1 M1 d x u g pl _ I1 r1 rv rx eg fun f first c hc => ?_
  refine callWith_cle I1 c he hpl ?_
  have q2 : tL X G W fl σ H1 fun vs H2 => ∃ ρ2 M2 ds, Grow G ρ1 M1.length H1 ρ2 M2.length H2 ∧ Rel G ρ2 H2 M2 ∧ RepL G ρ2 M2.length H2 ds vs ∧ PostR G W σ ρ2 M2.length H2 (GV G Q) (g ds M2) :=
    ⟨ρ1, M1, ev, r1, er1, p1.step fun ds M2 ρ2 H2 _ g2 r2 p2 vs rl => ⟨ρ2, M2, ds, g2, r2, rl, p2⟩⟩
  exact thn (ha.run pos pins s1 σ H1 _ I1 q2) fun us s2 ⟨vs, H2, I2, rvs, ρ2, M2, ds, g2, r2, rl, p2⟩ => ⟨I2.kIn, hc s2 H2 ρ2 M2 us vs ds Q I2 g2 r2 rvs rl p2⟩
theorem i_met0 {pl : Sem Bool} (hm : MetR X G W name m) (ho : PE X o (tI X G W fo))
    (ht : eval (.Call (.Attribute o name apos) [] [] pos) X.env = (do
      let ov ← eval o X.env
      standAt apos.atName
      let (f, first) ← holding [ov] (getMethod ov name pl)
      callWith pos f first (backTo pos (starEach [] X.env)) (backToKw pos (keywordEach [] X.env)))) :
    PE X (.Call (.Attribute o name apos) [] [] pos) (tI X G W (dMet m fo dNil)) := by
  refine ⟨fun pins s σ H Q I h => ?_⟩
  obtain ⟨ρ, M, ev, r, er, p⟩ := h
  have q : tI X G W fo σ H fun x H1 => ∃ ρ1 M1 d, Rel G ρ1 H1 M1 ∧ RepV G ρ1 M1.length H1 d x ∧ ∃ g, m d M1 = some g ∧ PostR G W σ ρ1 M1.length H1 (GV G Q) (g [] M1) :=
    ⟨ρ, M, ev, r, er, p.step fun d M1 ρ1 H1 _ g1 r1 p1 v rv => by
      split at p1
      · rename_i g eg
        exact ⟨ρ1, M1, d, r1, rv, g, eg, p1⟩
      · exact p1.elim⟩
  refine PySem.W.methodCall_KW (pl := pl) (thn (ho.run pins s σ H _ I q) fun u s1 ⟨x, H1, I1, rx, ρ1, M1, d, r1, rv, g, eg, p1⟩ => ?_) ht
  refine hm.run pins s1 σ H1 ρ1 M1 d x u g pl _ I1 r1 rv rx eg fun f first c hc => ?_
  exact callWith_cle0 I1 c (hc s1 H1 ρ1 M1 [] [] [] Q I1 .refl r1 .nil .nil p1)
end
/-! built-in methods -/
/-- by a table of one type -/
def mL (f : D → OpN) : MetD := fun d M => match d with
  | .ref n => match M[n]? with
    | some (.lst _) => some fun ds M2 => R.of (f d ds M2)
    | some (.rls _) => some fun ds M2 => R.of (f d ds M2)
    | _ => none
  | _ => none
def mT (f : D → OpN) : MetD := fun d M => match d with
  | .tup _ => some fun ds M2 => R.of (f d ds M2)
  | _ => none
def mS (f : D → OpN) : MetD := fun d M => match d with
  | .str _ => some fun ds M2 => R.of (f d ds M2)
  | _ => none
section
variable {X : Cx} {G : GC} {W : WX} {name : Str} {f : D → OpN} {id : String}
theorem tupObj {pins : List (Addr × Obj)} {σ : St} {H : Hp} {s : Shared} (I : Inv X pins σ H s) {a : Addr} {vs : List V} (t : TupAt X.K H a vs) :
    ∃ (its : List Value) (n : Nat) (sl : Array (Option Value)), Vals vs its ∧ s.heap.get? a = some { cls := .type "tuple", dict := none, data := .seq its.toArray n, slots := sl } ∧ vs.length ≤ sizeLine := by
  rcases t with ⟨o, hd, h⟩ | ⟨o, its, n, hd, ho, hc, hdt, hz, hv⟩
  · obtain ⟨ho, hz, its, rv, o2, e2, c2, n, d2⟩ := I.hok a _ h
    rw [ho] at e2
    cases e2
    obtain ⟨cls, dd, data, sl⟩ := o
    simp only at hd c2 d2
    subst hd c2 d2
    exact ⟨its, n, sl, rv, ho, hz⟩
  · obtain ⟨cls, dd, data, sl⟩ := o
    simp only at hd hc hdt
    subst hd hc hdt
    refine ⟨its.toList, n, sl, hv, ?_, by rw [hv.length]; exact hz⟩
    rw [show its.toList.toArray = its from by simp]
    exact I.kIn _ _ ho
theorem met_of (hK : G.K = X.K) {m : MetD} {T : String} (pa : PlainAttrs T) (slot : Slot T name id) (hty : typeOf (.builtin id) = pure (.type "method_descriptor")) (hf : MtR X id (rdm G f))
    (hm : ∀ d M g, m d M = some g → g = fun ds M2 => R.of (f d ds M2))
    (hT : ∀ (pins : List (Addr × Obj)) (s : Shared) (σ : St) (H : Hp) (ρ : Nat → Addr) (M : Mem) (d : D) (x : V) (v : Value) (g : List D → Mem → R D), Inv X pins σ H s → Rel G ρ H M → RepV G ρ M.length H d x → RelV x v → m d M = some g →
      s.TypeIs v T ∧ ∀ a, v = .ref a → ∃ ob, s.heap.get? a = some ob ∧ ob.dict = none) : MetR X G W name m :=
  ⟨fun pins s σ H ρ M d x v g pl Q I r rd rv e q => by
    obtain ⟨h1, h2⟩ := hT pins s σ H ρ M d x v g I r rd rv e
    have hg := hm d M g e
    subst hg
    refine getMethod_builtin h1 pa slot hty h2 (q _ _ (.blt id) fun s2 H2 ρ2 M2 us vs ds Q2 I2 g2 r2 rvs rl p => ?_)
    exact hf pins s2 σ H2 x vs v us Q2 I2 rv rvs ⟨ρ2, M2, d, ds, r2, rd.grow g2, rl, .of p⟩⟩
theorem met_L (hK : G.K = X.K) (slot : Slot "list" name id) (hty : typeOf (.builtin id) = pure (.type "method_descriptor")) (hf : MtR X id (rdm G f)) : MetR X G W name (mL f) := by
  refine met_of hK F.plainAttrs_list slot hty hf (fun d M g e => ?_) fun pins s σ H ρ M d x v g I r rd rv e => ?_
  · unfold mL at e
    split at e
    · split at e <;> cases e <;> rfl
    · cases e
  · unfold mL at e
    split at e
    · rename_i n
      obtain ⟨hn, rfl⟩ := rd.ref'
      cases rv
      have go : ∀ xs, getL M n = some xs → s.TypeIs (.ref (ρ n)) "list" ∧ ∀ a, Value.ref (ρ n) = .ref a → ∃ ob, s.heap.get? a = some ob ∧ ob.dict = none := fun xs hg => by
        obtain ⟨vs, hq, rl⟩ := rel_getL r hg
        rw [hK] at hq
        obtain ⟨its, _, ⟨o, n', ho, hc, hdn, hd⟩, _⟩ := I.list hq
        exact ⟨⟨o, ho, hc⟩, fun a ea => by cases ea; exact ⟨o, ho, hdn⟩⟩
      split at e
      · rename_i xs em; exact go xs (by unfold getL; rw [em])
      · rename_i xs em; exact go xs (by unfold getL; rw [em])
      · cases e
    · cases e
theorem met_T (hK : G.K = X.K) (slot : Slot "tuple" name id) (hty : typeOf (.builtin id) = pure (.type "method_descriptor")) (hf : MtR X id (rdm G f)) : MetR X G W name (mT f) := by
  refine met_of hK F.plainAttrs_tuple slot hty hf (fun d M g e => ?_) fun pins s σ H ρ M d x v g I r rd rv e => ?_
  · unfold mT at e
    split at e <;> cases e
    rfl
  · unfold mT at e
    split at e
    · rename_i xs
      obtain ⟨a, vs, rfl, ta, rl⟩ := rd.tup'
      cases rv
      rw [hK] at ta
      obtain ⟨its, n, sl, _, ho, _⟩ := tupObj I ta
      exact ⟨⟨_, ho, rfl⟩, fun b eb => by cases eb; exact ⟨_, ho, rfl⟩⟩
    · cases e
theorem met_S (hK : G.K = X.K) (slot : Slot "str" name id) (hty : typeOf (.builtin id) = pure (.type "method_descriptor")) (hf : MtR X id (rdm G f)) : MetR X G W name (mS f) := by
  refine met_of hK F.plainAttrs_str slot hty hf (fun d M g e => ?_) fun pins s σ H ρ M d x v g I r rd rv e => ?_
  · unfold mS at e
    split at e <;> cases e
    rfl
  · unfold mS at e
    split at e
    · rename_i xs
      have := rd.str'
      subst this
      obtain ⟨t, rfl⟩ := rv
      exact ⟨typeIs_str _ _ _, fun b eb => by cases eb⟩
    · cases e
/-! list methods -/
def wrL (n : Nat) (xs : List D) (M : Mem) : Mem := M.set n (.lst xs)
theorem PostO.wr {ρ : Nat → Addr} {H : Hp} {M : Mem} {Q : VK} {n : Nat} {xs : List D} {vs : List V} {d : D} {v : V} (p : PostO G ρ M.length H Q (some (d, wrL n xs M))) (r : Rel G ρ H M) (hn : n < M.length) (rl : RepL G ρ M.length H xs vs) (rd : RepV G ρ M.length H d v) :
    Q v (upd H (ρ n) (.lst vs)) := by
  have gw := r.grow_write (o := .lst vs) hn
  have hl : (wrL n xs M).length = M.length := by simp [wrL]
  have rW : Rel G ρ (upd H (ρ n) (.lst vs)) (wrL n xs M) := r.write hn ⟨_, upd_same, rl.grow gw⟩
  exact p ρ v _ (hl.symm ▸ gw) rW (hl.symm ▸ rd.grow gw)
def nAppend (d : D) : OpN := fun ds M => match d, ds with
  | .ref n, [y] => match M[n]? with
    | some (.lst xs) => if xs.length < lim then some (.non, wrL n (xs ++ [y]) M) else none
    | _ => none
  | _, _ => none
theorem m_append : MtR X "list.append" (rdm G nAppend) := fun pins s σ H x xs v us Q I rx rxs ⟨ρ, M, d, ds, r, rd, rl, p⟩ => by
  unfold nAppend at p
  split at p
  · rename_i n y
    split at p
    · rename_i ys em
      split at p
      · rename_i hz
        obtain ⟨hn, rfl⟩ := rd.ref'
        obtain ⟨vs, hq, rv⟩ := rel_lst r em
        simp only [RepL] at rl
        obtain ⟨w, t, rfl, rw1, rfl⟩ := rl
        exact mt_append pins s σ H _ _ v us Q I rx rxs ⟨ρ n, vs, w, rfl, rfl, hq, by rw [rv.length, ← lim_eq]; exact hz, p.wr r hn (rv.append (.one rw1)) (by simp only [RepV])⟩
      · exact p.elim
    · exact p.elim
  · exact p.elim
def nPop (d : D) : OpN := fun ds M => match d with
  | .ref n => match M[n]? with
    | some (.lst xs) => match ds with
      | [] => match xs[xs.length - 1]? with
        | some y => some (y, wrL n xs.dropLast M)
        | none => none
      | [.int i] => if -(2 ^ 63) ≤ i ∧ i < 2 ^ 63 then (match seqIndex? i xs.length with
        | some k => match xs[k]? with
          | some y => some (y, wrL n (xs.eraseIdx k) M)
          | none => none
        | none => none) else none
      | _ => none
    | _ => none
  | _ => none
theorem RepL.dropLast {ρ : Nat → Addr} {N : Nat} {H : Hp} {ds : List D} {vs : List V} (h : RepL G ρ N H ds vs) : RepL G ρ N H ds.dropLast vs.dropLast := by
  rw [List.dropLast_eq_take, List.dropLast_eq_take, h.length]
  exact h.take _
theorem RepL.eraseIdx {ρ : Nat → Addr} {N : Nat} {H : Hp} : ∀ {ds : List D} {vs : List V} (k : Nat), RepL G ρ N H ds vs → RepL G ρ N H (ds.eraseIdx k) (vs.eraseIdx k)
  | [], _, k, h => by simp only [RepL] at h; subst h; exact .nil
  | d :: ds, _, 0, h => by
    simp only [RepL] at h
    obtain ⟨v, r, rfl, h1, h2⟩ := h
    exact h2
  | d :: ds, _, k + 1, h => by
    simp only [RepL] at h
    obtain ⟨v, r, rfl, h1, h2⟩ := h
    exact .cons h1 (RepL.eraseIdx k h2)
theorem m_pop : MtR X "list.pop" (rdm G nPop) := fun pins s σ H x xs v us Q I rx rxs ⟨ρ, M, d, ds, r, rd, rl, p⟩ => by
  unfold nPop at p
  split at p
  · rename_i n
    split at p
    · rename_i ys em
      obtain ⟨hn, rfl⟩ := rd.ref'
      obtain ⟨vs, hq, rv⟩ := rel_lst r em
      split at p
      · split at p
        · rename_i y ey
          simp only [RepL] at rl
          subst rl
          obtain ⟨w, hw, rw1⟩ := rv.get ey
          exact mt_pop pins s σ H _ _ v us Q I rx rxs ⟨ρ n, vs, w, rfl, rfl, hq, by rw [rv.length]; exact hw, p.wr r hn rv.dropLast rw1⟩
        · exact p.elim
      · rename_i i
        split at p
        · rename_i hi
          split at p
          · rename_i k ek
            split at p
            · rename_i y ey
              simp only [RepL] at rl
              obtain ⟨w0, t, rfl, rw0, rfl⟩ := rl
              have := rw0.int'
              subst this
              obtain ⟨w, hw, rw1⟩ := rv.get ey
              exact mt_popAt pins s σ H _ _ v us Q I rx rxs ⟨ρ n, vs, i, k, w, rfl, rfl, hq, hi.1, hi.2, by rw [rv.length]; exact ek, hw, p.wr r hn (rv.eraseIdx k) rw1⟩
            · exact p.elim
          · exact p.elim
        · exact p.elim
      · exact p.elim
    · exact p.elim
  · exact p.elim
/-! count, at flat items -/
theorem countP_eqU {x : V} : ∀ {xs : List V} {us : List Value}, Vals xs us → xs.all flatV = true → us.countP (eqU x) = xs.countP fun y => eqV y x
  | _, _, .nil, _ => rfl
  | y :: xs, u :: us, .cons r t, f => by
    rw [List.all_cons, Bool.and_eq_true] at f
    rw [List.countP_cons, List.countP_cons, eqU_of r f.1, countP_eqU t f.2]
theorem countP_rep {ρ : Nat → Addr} {N : Nat} {H : Hp} {x : D} {w : V} (rx : RepV G ρ N H x w) (fx : flatD x = true) : ∀ {ds : List D} {vs : List V}, RepL G ρ N H ds vs → ds.all flatD = true → (vs.countP fun y => eqV y w) = ds.countP fun z => eqFlat z x
  | [], vs, r, _ => by simp only [RepL] at r; subst r; rfl
  | d :: ds, vs, r, f => by
    simp only [RepL] at r
    obtain ⟨v, t, rfl, r1, r2⟩ := r
    rw [List.all_cons, Bool.and_eq_true] at f
    rw [List.countP_cons, List.countP_cons, countP_rep rx fx r2 f.2, eqFlat_rep r1 rx f.1 fx]
def nCount (d : D) : OpN := fun ds M => match ds with
  | [x] => match seqOf d M with
    | some xs => if flatD x && xs.all flatD then some (.int (xs.countP fun z => eqFlat z x : Nat), M) else none
    | none => none
  | _ => none
def nCountT (d : D) : OpN := fun ds M => match d with
    | .tup _ => nCount d ds M
    | _ => none
theorem m_countT (hK : G.K = X.K) : MtR X "tuple.count" (rdm G nCountT) := fun pins s σ H x xs v us Q I rx rxs ⟨ρ, M, d, ds, r, rd, rl, p⟩ => by
  unfold nCountT at p
  split at p
  · rename_i ys
    unfold nCount at p
    split at p
    · rename_i z
      simp only [seqOf] at p
      split at p
      · rename_i hf
        rw [Bool.and_eq_true] at hf
        obtain ⟨a, vs, rfl, ta, rv⟩ := rd.tup'
        rw [hK] at ta
        obtain ⟨its, n, sl, hv, ho, hz⟩ := tupObj I ta
        cases rx
        simp only [RepL] at rl
        obtain ⟨w, t, rfl, rw1, rfl⟩ := rl
        obtain ⟨u, rfl, ru⟩ := rxs.one
        have q := p.int r
        have fv := flat_repL rv hf.2
        have fw := flat_rep rw1 hf.1
        rw [← countP_rep rw1 hf.1 rv hf.2, ← countP_eqU hv fv] at q
        refine call_meets PySem.F.slot_tuple_count ⟨_, ho, rfl⟩ PySem.F.entry_tuple_count (PySem.F.args_tuple_count_2 _ _) (SeqAt.tuple_countAt a its.toArray n none sl u (eqU w)) ⟨ho, fun y hy => mem_eqAt ru fw hv fv y (by simpa using hy), ?_⟩
        exact ⟨V.int ((its.countP (eqU w) : Nat) : Int), H, I.tok _, ⟨s.toks, rfl⟩, q⟩
      · exact p.elim
    · exact p.elim
  · exact p.elim
end
/-! x[i] = v -/
def nSetIx (d i y : D) (M : Mem) : Option Mem := match d, i with
  | .ref n, .int k => match M[n]? with
    | some (.lst xs) => (ixN xs.length k).map fun j => wrL n (xs.set j y) M
    | _ => none
  | _, _ => none
/-- a store by deep values -/
def rdS (G : GC) (f : D → D → D → Mem → Option Mem) : TSet := fun o i v H Q => ∃ ρ M d e y, Rel G ρ H M ∧ RepV G ρ M.length H d o ∧ RepV G ρ M.length H e i ∧ RepV G ρ M.length H y v ∧ ∃ M', f d e y M = some M' ∧
  ∀ ρ' H', Grow G ρ M.length H ρ' M'.length H' → Rel G ρ' H' M' → Q H'
def sSetIx (fs : D → D → D → Mem → Option Mem) (fo fi fv : Den) : DenS := fun ev M => (fv ev M).bindO ev fun y M1 => (fo ev M1).bindO ev fun d M2 => (fi ev M2).bindO ev fun i M3 => match fs d i y M3 with
  | some M4 => .nx ev M4
  | none => .st
section
variable {X : Cx} {G : GC} {W : WX} {o i e : Expr} {fo fi fe : Den} {pos p : Pos}
theorem set_ix : PSet X (rdS G nSetIx) := fun pins s σ H o i v ov iv u Q I ro ri rv ⟨ρ, M, d, e, y, r, rd, re, ry, M', em, q⟩ => by
  unfold nSetIx at em
  split at em
  · rename_i n k
    split at em
    · rename_i xs ex
      cases ej : ixN xs.length k with
      | none => rw [ej] at em; cases em
      | some j =>
        rw [ej] at em
        cases em
        obtain ⟨hn, rfl⟩ := rd.ref'
        have := re.int'
        subst this
        obtain ⟨vs, hq, rl⟩ := rel_lst r ex
        have gw := r.grow_write (o := .lst (vs.set j v)) hn
        have hl : (wrL n (xs.set j y) M).length = M.length := by simp [wrL]
        refine set_list pins s σ H _ _ _ ov iv u Q I ro ri rv ⟨ρ n, vs, k, j, rfl, rfl, hq, by rw [rl.length]; exact ej, q ρ _ (hl.symm ▸ gw) ?_⟩
        exact r.write hn ⟨_, upd_same, (RepL.set ry j rl).grow gw⟩
    · cases em
  · cases em
theorem s_setIx {f : D → D → D → Mem → Option Mem} (hS : PSet X (rdS G f)) (he : PE X e (tI X G W fe)) (ho : PE X o (tI X G W fo)) (hi : PE X i (tI X G W fi)) (hs : swapsWithSole [.Subscript o i p] e pos.line X.env = pure false) (hw : swappedStores [.Subscript o i p] e X.env = pure none)
    (h1 : (assignEach [.Subscript o i p] X.env).map (·.2) = [assign (.Subscript o i p) X.env])
    (ha : ∀ v, assign (.Subscript o i p) X.env v = (do
      let ov ← holding [v] (eval o X.env)
      let iv ← holding [v, ov] (eval i X.env)
      standAt p
      holding [v, ov, iv] (setItem ov iv v)
      release [v, ov, iv] [])) : PS X (.Assign [.Subscript o i p] e pos) (tS X G W (sSetIx f fo fi fe)) := by
  refine PS.imp (ps_asg he (pg_sub ho hi hS ha) hs hw h1) fun T σ H ⟨ρ, M, ev, r, er, p⟩ => ⟨ρ, M, ev, r, er, p.stepR er fun y M1 ρ1 H1 _ g1 r1 p1 v rv => ?_⟩
  have er1 := er.grow g1
  refine ⟨ρ1, M1, ev, r1, er1, p1.stepR er1 fun d M2 ρ2 H2 _ g2 r2 p2 x rx => ?_⟩
  have er2 := er1.grow g2
  refine ⟨ρ2, M2, ev, r2, er2, p2.stepR er2 fun k M3 ρ3 H3 _ g3 r3 p3 z rz => ?_⟩
  cases em : f d k y M3 with
  | none => rw [em] at p3; exact p3.elim
  | some M4 =>
    rw [em] at p3
    exact ⟨ρ3, M3, d, k, y, r3, rx.grow g3, rz, (rv.grow g2).grow g3, M4, em, fun ρ4 H4 g4 r4 => p3 ρ4 σ H4 g4 r4 ((er2.grow g3).grow g4)⟩
end
end MI

set_option Elab.async false
set_option linter.all false
set_option maxRecDepth 100000
set_option maxHeartbeats 2000000
namespace MI
open PySem PySem.Spec PyProof.Rows L2
/-! an own exception's __init__: super().__init__('text'), then fields -/
theorem zip_sub : ∀ (P : List Str) (us : List Value), List.Sublist ((P.zip us).map (·.1)) P
  | [], _ => by simp
  | _ :: _, [] => by simp
  | p :: P, u :: us => by
    rw [List.zip_cons_cons, List.map_cons]
    exact (zip_sub P us).cons_cons p
theorem lookup_rev {us : List Value} : ∀ {P : List Str} {i : Nat} {x : Str} {u : Value}, P.Nodup → P[i]? = some x → us[i]? = some u → (P.zip us).reverse.lookup x = some u := by
  have key : ∀ (l : List (Str × Value)) (x : Str) (u : Value), (l.map (·.1)).Nodup → (x, u) ∈ l → l.lookup x = some u := by
    intro l
    induction l with
    | nil => intro x u _ h; cases h
    | cons p l ih =>
      intro x u nd h
      obtain ⟨a, b⟩ := p
      simp only [List.map_cons, List.nodup_cons] at nd
      rcases List.mem_cons.mp h with e | h
      · cases e; simp [List.lookup]
      · have hne : x ≠ a := fun e => nd.1 (by rw [← e]; exact List.mem_map_of_mem (f := (·.1)) h)
        have : (x == a) = false := by simpa using hne
        simp only [List.lookup, this]
        exact ih x u nd.2 h
  intro P i x u nd h1 h2
  refine key _ x u ?_ ?_
  · rw [List.map_reverse]
    refine List.pairwise_reverse.mpr (List.Pairwise.imp (R := (· ≠ ·)) (fun h => Ne.symm h) ?_)
    exact nd.sublist (zip_sub P us)
  · rw [List.mem_reverse]
    have : (P.zip us)[i]? = some (x, u) := by
      rw [List.getElem?_zip_eq_some]
      exact ⟨h1, h2⟩
    exact List.mem_of_getElem? this
section
variable {P : Program} {w : World} {K : PySem.W.Frag} {mg : Str → Option Value} {base : Heap} {N ps : List Str} {qual : Str} {scope : Scope} {f cc : Addr} {cd : Value} {A : Around} {outer : List PySem.Env} {s s1 : Shared} {H : Hp} {E : XK} {us : List Value} {vs : List V} {k : Nat}
/-- the context of an __init__ that closes over __class__ -/
def cxX (P : Program) (w : World) (K : PySem.W.Frag) (mg : Str → Option Value) (base : Heap) (N : List Str) (env : PySem.Env) (A : Around) (outer : List PySem.Env) (s : Shared) (H : Hp) (E : XK) : Cx where
  prog := P
  w := w
  K := K
  mg := mg
  base := base
  A := A.deeper env
  N := N
  s_0 := s
  H_0 := H
  env := env
  outer := outer
  stack := env :: outer
  ex := []
  calm := true
  fn := fun _ => false
  pn := []
  xe := fun e s' => wpAny (model P w) (A.deeper env) (leaving env e) (fun _ s'' => L2.CX P w outer H s E e s'') (fun e' s'' => L2.CX P w outer H s E e' s'') s'
/-- the scope: parameters, the class, names of the module -/
structure InScope (N : List Str) (sc : Scope) : Prop where
  kind : sc.kind = .function
  co : sc.isCoroutine = false
  gen : sc.isGenerator = false
  nd : N.Nodup
  par : ∀ x ∈ N, sc.names.lookup x = some .local
  nocell : ∀ y ∈ sc.names, y.2 ≠ .cell
  free : ∀ x, sc.names.lookup x = some .free → x = "__class__"
  cls : sc.names.lookup ("__class__" : Str) = some .free
  sup : sc.names.lookup ("super" : Str) = some .globalImplicit
theorem inv_X (S : InScope N scope) (hd : A.handled = none) (e0 : Env0 P w K mg base A outer s H) (hl : vs.length = N.length) (r : Vals vs us) {ocl : Obj} {cv : Option Value} (hcc : K.lookup cc = some ocl) (hcd : ocl.data = .cell cv)
    {h₁ : Heap} {tk : Nat} (hns : h₁.Ns s.heap.objs.size (fun x => (N.zip us).reverse.lookup x)) (hk : ∀ b o, s.heap.get? b = some o → h₁.get? b = some o) :
    Inv (cxX P w K mg base N (PySem.W.ksEnv qual scope s.heap.objs.size f cd cc) A outer s H E) [] (L2.start N vs) H { s with heap := h₁, toks := tk } := by
  have noA : ∀ b : Addr, b ∉ (cxX P w K mg base N (PySem.W.ksEnv qual scope s.heap.objs.size f cd cc) A outer s H E).ex := fun b z => absurd (show b ∈ ([] : List Addr) from z) (by simp)
  have hb := e0.mod.kin _ _ hcc
  have cl : ∀ {x : Str} {c : Addr}, [(("__class__" : Str), cc)].lookup x = some c → x = "__class__" ∧ c = cc := fun {x c} h => by
    by_cases hx : x = "__class__"
    · subst hx
      simp [List.lookup] at h
      exact ⟨rfl, h.symm⟩
    · have hx' : (x == ("__class__" : Str)) = false := by simpa using hx
      simp [List.lookup, hx'] at h
  refine ⟨⟨e0.mod, S.kind, rfl, rfl, Nat.le_refl _, fun y z c h1 h2 => ?_, fun y hy => ?_, fun y c hf _ => absurd (show false = true from hf) Bool.false_ne_true, fun _ => hd, Around.frames_deeper e0.frames, .inr ⟨rfl, rfl⟩, fun b z => absurd z (noA b), e0.bs, e0.bsz, fun b _ _ => noA b, fun b z => absurd z (noA b), e0.funs, e0.frf⟩,
    rfl, e0.bare, Un.kept hk, ⟨_, hns, fun i y v h1 h2 h3 => ?_⟩, fun y c h => ?_, e0.hok.fresh (Nat.le_refl _), fun y c h => ?_, fun p hp => absurd (show p ∈ ([] : List (Addr × Obj)) from hp) (by simp), e0.hok.kept hk, ?_⟩
  · rw [(cl h1).1, (cl h2).1]
  · have hy : scope.names.lookup y = some .cell ∨ scope.names.lookup y = some .free := hy
    rcases hy with hy | hy
    · exact absurd rfl (S.nocell _ (PySem.mem_of_lookup hy))
    · have := S.free y hy
      subst this
      exact ⟨cc, by simp [PySem.W.ksEnv, cxX, List.lookup]⟩
  · have hi : i < vs.length := by
      unfold L2.start at h2
      by_cases hi : i < vs.length
      · exact hi
      · rw [List.getElem?_append_right (by simpa using hi)] at h2
        rw [List.getElem?_replicate] at h2
        split at h2 <;> cases h2
    have ha : vs[i]? = some v := by
      unfold L2.start at h2
      rw [List.getElem?_append_left (by simpa using hi), List.getElem?_map] at h2
      cases e : vs[i]? with
      | none => rw [e] at h2; cases h2
      | some a => rw [e] at h2; cases h2; rfl
    obtain ⟨u, hu, rv⟩ := r.get ha
    have h1' : N[i]? = some y := h1
    exact ⟨u, rv, .inl ⟨S.par y (List.mem_of_getElem? h1'), lookup_rev S.nd h1' hu⟩⟩
  · obtain ⟨_, rfl⟩ := cl h
    exact ⟨cv, ocl, hk _ _ (e0.bs _ _ hb).1, hcd⟩
  · obtain ⟨_, rfl⟩ := cl h
    exact (e0.bs _ _ hb).2
  · unfold L2.start
    show _ = N.length
    rw [List.length_append, List.length_map, List.length_replicate]
    omega
/-- the statements self.f = x, x the i-th parameter behind self -/
inductive FSt (N : List Str) (self : Str) (env : PySem.Env) : List Stmt → List (Str × Nat) → Prop where
  | nil : FSt N self env [] []
  | cons {x fn : Str} {i : Nat} {p1 p2 p3 pos : Pos} {r : List Stmt} {l : List (Str × Nat)} (hx : N[i + 1]? = some x) (hv : env.scope.names.lookup x = some .local) (h1 : (x == ("__debug__" : Str)) = false) (h2 : (x == ("__classdict__" : Str)) = false)
      (hs : swapsWith (.Name x p3) (some (.Attribute (.Name self p1) fn p2)) pos.line env = pure false) (t : FSt N self env r l) : FSt N self env (.Assign [.Attribute (.Name self p1) fn p2] (.Name x p3) pos :: r) ((fn, i) :: l)
def mkF {α : Type} (z : α) (ys : List α) : List (Str × Nat) → List (Str × α) → List (Str × α)
  | [], acc => acc
  | (f, i) :: l, acc => mkF z ys l ((f, ys.getD i z) :: acc)
structure FI (H : Hp) (a C d : Addr) (fs : List (Str × V)) (H2 : Hp) : Prop where
  at_ : H2 a = some (exo a C (some d))
  dict : H2 d = some (exd d fs)
  same : ∀ b, b ≠ a → b ≠ d → H2 b = H b
  ne : d ≠ a
  fr : H d = none
theorem fields_more {X : Cx} {self : Str} {C : Addr} (T : OexC X.K C) (hN : X.N[0]? = some self) (hv : X.env.scope.names.lookup self = some .local) (h1 : (self == ("__debug__" : Str)) = false) (h2 : (self == ("__classdict__" : Str)) = false) :
    ∀ {st : List Stmt} {l : List (Str × Nat)}, FSt X.N self X.env st l → (∀ q ∈ l, PySem.W.findIn X.K (.ref C) q.1 = some none) →
    ∃ t, PSs X st t ∧ ∀ (D : Ends) (σ : St) (ys : List V) (H : Hp) (a d : Addr) (fs : List (Str × V)) (H2 : Hp), σ[0]? = some (some (.ref a)) → (∀ i v, ys[i]? = some v → σ[i + 1]? = some (some v)) → (∀ q ∈ l, q.2 < ys.length) → FI H a C d fs H2 → fs.length + l.length ≤ 900 →
      (∀ H3, FI H a C d (mkF .non ys l fs) H3 → D.nx σ H3) → t D σ H2
  | _, _, .nil, _ => ⟨_, pss_nil, fun D σ ys H a d fs H2 _ _ _ hF _ q => q H2 hF⟩
  | _, _, .cons hx hvx hd1 hd2 hs t, hno => by
    obtain ⟨t2, p2, q2⟩ := fields_more T hN hv h1 h2 t fun q hq => hno q (List.mem_cons_of_mem _ hq)
    refine ⟨_, pss_cons (ps_ost (pe_var hN (.inl hv) h1 h2) (pe_var hx (.inl hvx) hd1 hd2) hs) p2, fun D σ ys H a d fs H2 ha hy hi hF hl q => ?_⟩
    rename_i x fn i p1 p2' p3 pos r l
    have hil : i < ys.length := hi (fn, i) List.mem_cons_self
    have e : ys[i]? = some ys[i] := List.getElem?_eq_getElem hil
    refine ⟨ys[i], hy i _ e, .ref a, ha, a, C, rfl, T, hno (fn, i) List.mem_cons_self, .inr ⟨d, fs, hF.at_, hF.dict, ?_, ?_⟩⟩
    · simp only [List.length_cons] at hl; omega
    · refine q2 D σ ys H a d ((fn, ys[i]) :: fs) _ ha hy (fun q hq => hi q (List.mem_cons_of_mem _ hq)) ⟨?_, upd_same, fun b h1 h2 => by rw [upd_ne h2]; exact hF.same b h1 h2, hF.ne, hF.fr⟩ (by simp only [List.length_cons] at hl ⊢; omega) fun H3 h3 => q H3 ?_
      · rw [upd_ne hF.ne.symm]; exact hF.at_
      · have : ys.getD i .non = ys[i] := by rw [List.getD_eq_getElem?_getD, e]; rfl
        unfold mkF
        rw [this]
        exact h3
theorem fields_all {X : Cx} {self : Str} {C : Addr} (T : OexC X.K C) (hN : X.N[0]? = some self) (hv : X.env.scope.names.lookup self = some .local) (h1 : (self == ("__debug__" : Str)) = false) (h2 : (self == ("__classdict__" : Str)) = false)
    {st : List Stmt} {l : List (Str × Nat)} (hl : FSt X.N self X.env st l) (hne : l ≠ []) (hno : ∀ q ∈ l, PySem.W.findIn X.K (.ref C) q.1 = some none) :
    ∃ t, PSs X st t ∧ ∀ (D : Ends) (σ : St) (ys : List V) (H : Hp) (a : Addr), σ[0]? = some (some (.ref a)) → (∀ i v, ys[i]? = some v → σ[i + 1]? = some (some v)) → (∀ q ∈ l, q.2 < ys.length) → H a = some (exo a C none) → l.length ≤ 900 →
      (∀ d H3, FI H a C d (mkF .non ys l []) H3 → D.nx σ H3) → t D σ H := by
  cases hl with
  | nil => exact absurd rfl hne
  | @cons x fn i p1 p2' p3 pos r l hx hvx hd1 hd2 hs t =>
    obtain ⟨t2, p2, q2⟩ := fields_more T hN hv h1 h2 t fun q hq => hno q (List.mem_cons_of_mem _ hq)
    refine ⟨_, pss_cons (ps_ost (pe_var hN (.inl hv) h1 h2) (pe_var hx (.inl hvx) hd1 hd2) hs) p2, fun D σ ys H a ha hy hi hH hlen q => ?_⟩
    have hil : i < ys.length := hi (fn, i) List.mem_cons_self
    have e : ys[i]? = some ys[i] := List.getElem?_eq_getElem hil
    refine ⟨ys[i], hy i _ e, .ref a, ha, a, C, rfl, T, hno (fn, i) List.mem_cons_self, .inl ⟨hH, fun dx hn hne => ?_⟩⟩
    refine q2 D σ ys H a dx [(fn, ys[i])] _ ha hy (fun q hq => hi q (List.mem_cons_of_mem _ hq)) ⟨upd_same, by rw [upd_ne hne]; exact upd_same, fun b h1 h2 => by rw [upd_ne h1, upd_ne h2], hne, hn⟩ (by simp only [List.length_cons, List.length_nil] at hlen ⊢; omega) fun H3 h3 => q dx H3 ?_
    have : ys.getD i .non = ys[i] := by rw [List.getD_eq_getElem?_getD, e]; rfl
    unfold mkF
    rw [this]
    exact h3
/-- what such an __init__ promises -/
def spN (K : PySem.W.Frag) (C : Addr) (n : Nat) (l : List (Str × Nat)) : Sp := fun vs H Q _ => ∃ a ys, vs = .ref a :: ys ∧ ys.length = n ∧ H a = some (exo a C none) ∧ ∀ d H3, FI H a C d (mkF .non ys l []) H3 → Q .non H3

open PySem.W PySem.Calls in
theorem call_mw {X : Cx} {pins : List (Addr × Obj)} {σ : St} {H : Hp} {s : Shared} {a C u : Addr} {rest : List Value} {Q : Value → Shared → Prop} (T : OexC X.K C) (I : Inv X pins σ H s) (e : H a = some (exo a C none)) (hu : s.heap.get? u = some (kxs_mw "ValueError.__init__" a)) (hz : rest.length ≤ sizeLine)
    (h : ∀ s', Inv X pins σ H s' → Q .none s') {A : Around} {E : Value → Shared → Prop} : wpAny (model X.prog X.w) A (call (.ref u) rest) Q E s := by
  obtain ⟨nm, q, N, bs, bm, sn, sub, ab, col, dd, k0, k1, k2, k3, k5, hC, hbm⟩ := T.cls
  have hC' := I.kIn _ _ hC
  obtain ⟨t1, ho⟩ := exo_at I.hok e
  obtain ⟨hp, g, d, t, os⟩ := s
  refine wpAny_call (codeAny_of_tree ?_)
  show wpAny _ A.in1 (callAny (.ref u) ⟨rest, []⟩) _ _ _
  simp only [callAny]
  refine wpAny_bind (wpAny_load hu ?_)
  simp only [kxs_mw, show (Value.type "method-wrapper" == Value.type "method" || Value.type "method-wrapper" == Value.type "builtin_function_or_method" || Value.type "method-wrapper" == Value.type "method-wrapper") = true by decide, if_true]
  refine KFB.if_so (by decide) ?_
  refine wpAny_bind (check_bound_init F.excBase_ValueError.toExcCallFacts hC' ho rfl ?_)
  refine wpAny_bind (wpAny_pure (wpAny_pure ?_))
  refine ⟨plainId_quiet F.excBase_ValueError.init.plain _, codeAny_builtin F.excBase_ValueError.initEntry ?_⟩
  refine exc_init_tree (cls := .ref C) (t0 := t1) (dv := none) (c2 := .none) (c3 := .none) (b4 := .bool false) ho hz fun h' k hx _ => ?_
  have J := I.write (t' := t) (x := a) (e := a) (o := exo a C none) (by rw [e]; exact True.intro) (.inl rfl) k ⟨_, hx⟩ (exo_ok hx)
  have eu : upd H a (exo a C none) = H := by
    funext b
    by_cases hb : b = a
    · rw [hb, upd_same, e]
    · rw [upd_ne hb]
  rw [eu] at J
  exact h _ J
open PySem.W PySem.Calls in
theorem init_fn {P : Program} {w : World} {K : PySem.W.Frag} {mg : Str → Option Value} {base : Heap} {N : List Str} {qual self text file : Str} {scope : Scope} {f cc C D cda : Addr} {l : List (Str × Nat)} {st : List Stmt} {params : Arguments} {dV kV doc pm ct oc : Value} {an od : Option Addr} {osl : Array (Option Value)}
    {p0 p1 p2 p3 p4 p5 : Pos} {kk : Nat} {ar : Arg} {tf : Tok} {vs0 : Array Value} {ocl ccl : Value} {ocd ccd : Option Addr} {csl ccs : Array (Option Value)} {cdD : ClassData} {k : Nat}
    (lk : K.lookup f = some ⟨oc, od, .func (PySem.W.ksFn "__init__" qual params (.Expr (.Call (.Attribute (.Call (.Name "super" p0) [] [] p1) "__init__" p2) [.Constant (.str text) kk p3] [] p4) p5 :: st) scope dV kV doc pm an (.ref cda) ct cc), osl⟩)
    (hcdi : PySem.W.codeIn K (.ref cda) qual = true) (S : InScope N scope) (hN : N[0]? = some self) (hp : (params.posonlyargs ++ params.args).head? = some ar) (har : ar.arg = self)
    (hcode : K.lookup cda = some ⟨ccl, ccd, .fields vs0, ccs⟩) (hvs : vs0[2]? = some (.str file tf)) (hfile : ((P.main.file : Str) == file) = true) (htop : (P.main.scope.names.lookup ("super" : Str)).isSome = false)
    (hcc : K.lookup cc = some ⟨ocl, ocd, .cell (some (.ref D)), csl⟩) (hD : clsIn K D = some cdD) (hsub : mroIn K C (.ref D) = some true) (hsuper : mg "super" = none)
    (hno : nsIn K cStatics "thirdparty.any" = some none) (hmeth : ks_superIn K C D "__init__" = some (some (.builtin "ValueError.__init__"))) (hB : subIn K (.ref C) (.type "ValueError") = some true)
    (T : OexC K C) (hst : ∀ L, FSt N self (PySem.W.ksEnv qual scope L f (.ref cda) cc) st l) (hne : l ≠ []) (hnoA : ∀ q ∈ l, PySem.W.findIn K (.ref C) q.1 = some none) (hi : ∀ q ∈ l, q.2 + 1 < N.length) (hll : l.length ≤ 900)
    (h1 : (self == ("__debug__" : Str)) = false) (h2' : (self == ("__classdict__" : Str)) = false) (hsw : ∀ env : PySem.Env, swapsWith (.Call (.Attribute (.Call (.Name "super" p0) [] [] p1) "__init__" p2) [.Constant (.str text) kk p3] [] p4) none p5.line env = pure false)
    {pl : Addr → Sem Bool} (hcall : ∀ L, eval (.Call (.Attribute (.Call (.Name "super" p0) [] [] p1) "__init__" p2) [.Constant (.str text) kk p3] [] p4) (PySem.W.ksEnv qual scope L f (.ref cda) cc) = (do
      let ov ← attributeBase (.Call (.Name "super" p0) [] [] p1) "__init__" (PySem.W.ksEnv qual scope L f (.ref cda) cc) (eval (.Call (.Name "super" p0) [] [] p1) (PySem.W.ksEnv qual scope L f (.ref cda) cc))
      standAt p2.atName
      let (f', first) ← holding [ov] (getMethod ov "__init__" (pl L))
      callWith p4 f' first (backTo p4 (starEach [.Constant (.str text) kk p3] (PySem.W.ksEnv qual scope L f (.ref cda) cc))) [])) :
    FnOk P w K mg base (L2.CX P w) (k + 1) f (PySem.W.ksFn "__init__" qual params (.Expr (.Call (.Attribute (.Call (.Name "super" p0) [] [] p1) "__init__" p2) [.Constant (.str text) kk p3] [] p4) p5 :: st) scope dV kV doc pm an (.ref cda) ct cc) N
      (fun vs H Q E => vs.length = N.length ∧ spN K C (N.length - 1) l vs H Q E) := by
  refine ⟨fun vs H Q E h => h.1, fun A outer s H args us vs Q E hr e0 hb r hsp => ?_⟩
  obtain ⟨hl, a, ys, rfl, hys, hH, hq⟩ := hsp
  have KX : K.In s.heap := e0.mod.kin.keeps fun b o e => (e0.bs b o e).1
  have lim : s.heap.NoLimit := e0.mod.nolimit.keeps fun b o e => (e0.bs b o e).1
  have hloc : ∀ x ∈ N.zip us, scope.names.lookup x.1 = some .local := fun ⟨n, v⟩ hx => S.par n (List.of_mem_zip hx).1
  refine ks_codeAny_call_defAt (fd := PySem.W.ksFn "__init__" qual params _ scope dV kV doc pm an (.ref cda) ct cc) (binds := N.zip us) hr.depth (KX _ _ lk) rfl lim (codeRec_of KX hcdi) rfl hb S.nocell hloc (fun h₁ hns hk => ?_) S.co S.gen S.kind
  have I0 := inv_X (qual := qual) (f := f) (cd := .ref cda) (E := E) (tk := s.toks + (N.zip us).length) S hr.hd e0 hl r hcc rfl hns hk
  have hX : ∀ {s2 : Shared}, Inv (cxX P w K mg base N (PySem.W.ksEnv qual scope s.heap.objs.size f (.ref cda) cc) A outer s H E) [] (L2.start N (.ref a :: ys)) H s2 → K.In s2.heap := fun I => I.kIn
  refine ks_wpAt_execs_cons ?_
  refine ks_wpAt_Expr_any ?_ I0.quiet (hsw _)
  refine ks_wpAt_MethodCall (pl := pl s.heap.objs.size) ?_ (hcall _)
  obtain ⟨t1, hea⟩ := exo_at I0.hok hH
  obtain ⟨nm, q0, N0, bs, bm, sn, sub, ab, col, dd, k0, k1, k2, k3, k5, hC, hbm⟩ := T.cls
  have X1 := hX I0
  obtain ⟨oD, hD1, hD2⟩ : ∃ oD, h₁.get? D = some oD ∧ oD.data = .cls cdD := by
    unfold clsIn at hD
    split at hD
    · rename_i c d cd' sl ho
      cases hD
      exact ⟨_, X1 _ _ ho, rfl⟩
    · cases hD
  obtain ⟨mb, hmb, hmb2⟩ := e0.mod.blt
  have kb : ∀ b o, base.get? b = some o → h₁.get? b = some o := fun b o e => (I0.bs b o e).1
  have self0 : (N.zip us).reverse.lookup self = some (.ref a) := by
    cases r with
    | cons ra rr =>
      obtain rfl := (show _ = Value.ref a from ra)
      exact lookup_rev S.nd hN rfl
  refine ks_wpAt_super_base (env := PySem.W.ksEnv qual scope s.heap.objs.size f (.ref cda) cc) S.sup S.cls (by decide +kernel) rfl (X1 _ _ lk) rfl hp rfl (X1 _ _ hcode) rfl hvs hfile htop ?_
  refine ks_loadName_global S.kind S.sup (loadGlobal_builtin (env := PySem.W.ksEnv qual scope s.heap.objs.size f (.ref cda) cc) (e0.mod.glob.keeps kb) hsuper (hmb.keeps kb) ((hmb2 _ (by decide +kernel)).trans PyProof.Rows.Boot.«super») ⟨rfl, ?_⟩)
  refine wpAny_loadName_free S.kind S.cls rfl ⟨_, X1 _ _ hcc, rfl⟩ ?_
  rw [har]
  refine wpAny_loadName_local S.kind (S.par self (List.mem_of_getElem? hN)) hns self0 ?_
  refine ks_wpAny_isType_cls hD1 hD2 ⟨rfl, ?_⟩
  refine ks_wpAny_call_super hD1 hD2 hea rfl (fun c e => nomatch e) (looks_mroIn X1 hsub) (fun h2 hso k2 => ?_)
  have I2 := I0.kept (h' := h2) (t' := s.toks + (N.zip us).length) fun b o e => k2 b o e
  have hC2 := hX I2 _ _ hC
  have hcl : PySem.W.clsIn K C = some { name := nm, bases := bs, mro := .ref C :: bm, ns := N0, qualname := q0, hasDict := true, slotNames := sn, subclasses := sub, abstract := ab, collection := col, hasDel := false } := by unfold PySem.W.clsIn; rw [hC] <;> rfl
  have hea2 := k2 _ _ hea
  have hne2 : a ≠ C := fun e => by
    have z := (e0.bs C _ (e0.mod.kin _ _ hC)).2
    rw [← e, hH] at z
    cases z
  have hI2 : Looks (model P w) h2 (isInstance (.ref a) (.type "ValueError")) true := (⟨hea2, rfl, rfl, trivial⟩ : InstAt h2 a _ C none).type.andThen (looks_subIn (hX I2) hB)
  unfold ks_superIn at hmeth
  rw [hcl] at hmeth
  refine kxs_getMethod kxs_ValueError hso (looks_opaque (hX I2) hno) (l₀ := .ref C :: bm) (fun A Q E s k q => wpAny_bind ((looks_clsIn (hX I2) hcl) A _ E s k (wpAny_pure q))) rfl (hX I2) hmeth hI2 hne2 (by decide +kernel) ?_
  have I3 := I2.kept (h' := h2.push (kxs_mw "ValueError.__init__" a)) (t' := s.toks + (N.zip us).length + 1) fun b o e => Heap.get?_push_of_some _ e
  refine kxs_callWith (i := "ValueError.__init__") (x := a) rfl (evalArgs_plain ?_)
  refine spliced_cons (show wpAny _ _ (eval (.Constant (.str text) kk p3) (PySem.W.ksEnv qual scope s.heap.objs.size f (.ref cda) cc)) _ _ _ from Constant_str (spliced_nil ?_))
  have hmw : ((h2.push (kxs_mw "ValueError.__init__" a)).get? h2.objs.size) = some (kxs_mw "ValueError.__init__" a) := Heap.get?_push_size _ rfl
  refine ⟨hmw, ?_⟩
  refine call_mw (X := cxX P w K mg base N (PySem.W.ksEnv qual scope s.heap.objs.size f (.ref cda) cc) A outer s H E) T (I3.tok _) hH hmw (by show 1 ≤ sizeLine; rw [sizeLine_eq]; omega) fun s5 I5 => ?_
  show PySem.wpAt _ _ _ _ _ _ _
  obtain ⟨t, ht, hend⟩ := fields_all (X := cxX P w K mg base N (PySem.W.ksEnv qual scope s.heap.objs.size f (.ref cda) cc) A outer s H E) T hN (S.par self (List.mem_of_getElem? hN)) h1 h2' (hst _) hne hnoA
  refine wpAt_of_wpAny ?_
  refine wpAny_mono (ht.run [] s5 _ H { nx := fun _ H' => Q .non H', rt := Q } I5 (hend _ _ ys H a rfl (fun i v e => ?_) (fun q hq => by have := hi q hq; omega) hH hll fun d H3 h3 => hq d H3 h3)) (fun fl s' hs => ?_) fun e s' hs => hs
  · have hi : i < ys.length := (List.getElem?_eq_some_iff.mp e).1
    unfold L2.start
    rw [List.getElem?_append_left (by simp; omega), List.getElem?_map, List.getElem?_cons_succ, e]
    rfl
  have fin : ∀ {σ' : St} {H' : Hp} {v : V} {u : Value}, Inv (cxX P w K mg base N (PySem.W.ksEnv qual scope s.heap.objs.size f (.ref cda) cc) A outer s H E) [] σ' H' s' → RelV v u → Q v H' → CE outer P w H s Q u s' :=
    fun {σ' H' v u} J rv q => ⟨v, H', J.os, J.bare, J.base, J.hok, rv, q⟩
  cases fl with
  | ret u =>
    obtain ⟨v, σ', H', J, rv, q⟩ := hs
    exact fin J rv q
  | next =>
    obtain ⟨σ', H', J, q⟩ := hs
    exact fin (v := V.non) (u := Value.none) J rfl q
  | brk =>
    obtain ⟨_, _, _, q⟩ := hs
    exact False.elim q
  | cont =>
    obtain ⟨_, _, _, q⟩ := hs
    exact False.elim q
end
end MI

set_option Elab.async false
set_option linter.all false
set_option maxRecDepth 100000
set_option maxHeartbeats 2000000
namespace MI
open PySem PySem.Spec PyProof.Rows L2
/-! raise -/
def sRaise (c : Str) (n : Nat) (l : List (Str × Nat)) (fl : DenL) : DenS := fun ev M => (fl ev M).bindO ev fun ds M1 => if ds.length = n then .ex c (mkF .non ds l []) ev M1 else .st
theorem repF_mk {G : GC} {ρ : Nat → Addr} {N : Nat} {H : Hp} {ds : List D} {vs : List V} (r : RepL G ρ N H ds vs) : ∀ {l : List (Str × Nat)} {as : List (Str × D)} {bs : List (Str × V)}, (∀ q ∈ l, q.2 < ds.length) → RepF G ρ N H as bs → RepF G ρ N H (mkF .non ds l as) (mkF .non vs l bs)
  | [], _, _, _, h => h
  | (f, i) :: l, as, bs, hi, h => by
    unfold mkF
    have hil := hi (f, i) List.mem_cons_self
    obtain ⟨v, hv, rv⟩ := r.get (List.getElem?_eq_getElem hil)
    refine repF_mk r (fun q hq => hi q (List.mem_cons_of_mem _ hq)) ⟨v, bs, ?_, ?_, h⟩
    · rw [List.getD_eq_getElem?_getD, hv]; rfl
    · rw [List.getD_eq_getElem?_getD, List.getElem?_eq_getElem hil]; exact rv
theorem s_raise {X : Cx} {G : GC} {W : WX} {c x : Str} {C fI : Addr} {k : Nat} {fd : FuncData} {N : List Str} {l : List (Str × Nat)} {e : Expr} {es : List Expr} {fl : DenL} {p pos pos2 : Pos} (hc : X.calm = true) (tk : Takes X W) (hC : G.ca c = C)
    (T : OexC X.K C) (iC : PySem.W.findIn X.K (.ref C) "__init__" = some (some (.ref fI))) (tI' : PySem.W.typeIn X.K (.ref fI) = some (.type "function"))
    (F1 : FnOk X.prog X.w X.K X.mg X.base (L2.CX X.prog X.w) k fI fd N (fun vs H Q E => vs.length = N.length ∧ spN X.K C (N.length - 1) l vs H Q E)) (hr : RoomG X.calm (k + 1) X.A) (hN : N.length - 1 + 1 = N.length) (hi : ∀ q ∈ l, q.2 < N.length - 1) (hN9 : N.length ≤ 1000)
    (hb : ∀ us : List Value, us.length = N.length → bindArgs fd ⟨us, []⟩ = pure (N.zip us)) (hg : Gl X x) (hm : X.mg x = some (.ref C)) (ha : PA X (e :: es) (tL X G W fl)) (hdb : (x == ("__debug__" : Str)) = false)
    (he : starEach (e :: es) X.env = (false, eval e X.env) :: starEach es X.env) (hpl : (backTo pos (starEach es X.env)).any (·.1) = false) :
    PS X (.Raise (some (.Call (.Name x p) (e :: es) [] pos)) none pos2) (tS X G W (sRaise c (N.length - 1) l fl)) := by
  have hR : Room (k + 1) X.A := ⟨hr.hd hc, hr.dp, hr.un⟩
  refine PS.imp (ps_raise hc tk (pmk_oex (ds := []) (dvs := []) T iC tI' F1 hR (.all hb) .nil (fun pins σ H s e s' I h => ?_) hg hm ha hdb he hpl)) fun D σ H h => ?_
  · obtain ⟨_, _, _, _, _, _, _, _, _, _, _, _, z⟩ := h
    exact z.elim
  obtain ⟨ρ, M, ev, r, er, p⟩ := h
  refine ⟨ρ, M, ev, r, er, p.stepR er fun ds M1 ρ1 H1 _ g1 r1 p1 vs rl => ?_⟩
  split at p1
  · rename_i hl
    refine ⟨by rw [rl.length]; omega, fun a hna => ⟨by simp only [List.append_nil, List.length_cons, rl.length]; omega, a, vs, by rw [List.append_nil], by rw [rl.length]; exact hl, upd_same, fun d H3 h3 => ⟨rfl, d, _, h3.at_, h3.dict, ?_, ?_⟩⟩⟩
    · have := h3.fr
      rw [upd_ne h3.ne] at this
      exact this
    · have hd : H1 d = none := by
        have := h3.fr
        rw [upd_ne h3.ne] at this
        exact this
      have eq : upd (del H3 a) d (.xd (mkF .non vs l [])) = upd H1 d (.xd (mkF .non vs l [])) := by
        funext b
        by_cases hbd : b = d
        · subst hbd; rw [upd_same, upd_same]
        · rw [upd_ne hbd, upd_ne hbd]
          by_cases hba : b = a
          · subst hba; rw [del_same, hna]
          · rw [del_ne hba, h3.same b hba hbd, upd_ne hba]
      rw [eq]
      have gF : Grow G ρ1 M1.length H1 ρ1 M1.length (upd H1 d (.xd (mkF .non vs l []))) := grow_fresh hd
      have := p1 ρ1 (some d) (mkF .non vs l []) σ _ gF (r1.fresh hd) ((er.grow g1).grow gF) upd_same (repF_mk (rl.grow gF) (fun q hq => by rw [hl]; exact hi q hq) rfl)
      rw [hC] at this
      exact this
  · exact p1.elim
/-! try .. except c as n -/
def dropO (f : Env → Env) : O → O
  | .nx ev M => .nx (f ev) M
  | .bk ev M => .bk (f ev) M
  | .ct ev M => .ct (f ev) M
  | .rt d M => .rt d M
  | .ex c fs ev M => .ex c fs (f ev) M
  | .st => .st
def noEx : O → O
  | .ex _ _ _ _ => .st
  | o => o
def offE (i : Nat) (ev : Env) : Env := (ev.set i none).map dropE
def sTryAs (i : Nat) (cm : Str → Option Bool) (fb fs : DenS) : DenS := fun ev M => match fb (ev.map dropE) M with
  | .ex c xs ev1 M1 => (match cm c with
    | some true => dropO (offE i) (noEx (fs ((ev1.map dropE).set i (some (.exc c xs 0))) M1))
    | some false => .ex c xs (ev1.map dropE) M1
    | none => .st)
  | o => dropO (List.map dropE) o
section
variable {X : Cx} {G : GC} {W : WX} {x n : Str} {cv : Value} {i : Nat} {body suite : List Stmt} {b₀ : Stmt} {np pos pos' : Pos} {cm : Str → Option Bool} {fb fs : DenS}
theorem RepE.off {X' : Cx} {ρ : Nat → Addr} {N : Nat} {H : Hp} {σ : St} {ev : Env} (h : RepE X' G ρ N H σ ev) (i : Nat) (X : Cx) : RepE X G ρ N H (σ.set i none) (offE i ev) := by
  refine RepE.drop (X := X') ?_ X
  refine ⟨by simp [h.len], fun j d e => ?_⟩
  by_cases hj : i = j
  · subst hj
    by_cases hl : i < ev.length
    · rw [List.getElem?_set_self hl] at e; cases e
    · rw [List.getElem?_eq_none (by simpa using hl)] at e; cases e
  · rw [List.getElem?_set_ne hj] at e ⊢
    exact h.at_ j d e
theorem takes_no (X : Cx) : Takes X noW := fun u s' ⟨a, B, sI, pins, σ, H, cls, d, e, I, nb, up, sky, na, os, ag, w⟩ => w.elim
theorem s_tryAs (hs : X.stack = X.env :: X.outer) (hf : X.env.frame = some X.env.locals) (hN : X.N.Nodup) (hi : X.N[i]? = some n) (hln : X.env.kindOf n = some .local) (hc : Names X x cv) (tk : Takes X W)
    (hcm : ∀ c b, cm c = some b → PySem.W.exmOne X.K (.ref (G.ca c)) cv = some b)
    (hb : ∀ (W' : WX) (pn : List (Addr × Obj)) (xe : Value → Shared → Prop), Takes (X.tr pn xe) W' → PassesOwn (model X.prog X.w) X.A X.env xe → PSs (X.tr pn xe) body (tS (X.tr pn xe) G W' fb))
    (hsu : ∀ (a : Addr) (oe : Obj) (pn : List (Addr × Obj)), PSs (X.suite a ((a, oe) :: pn)) (b₀ :: suite) (tS (X.suite a ((a, oe) :: pn)) G noW fs)) :
    PS X (.Try body [.ExceptHandler (some (.Name x np)) (some n) (b₀ :: suite) pos'] [] [] pos) (tS X G W (sTryAs i cm fb fs)) := by
  refine PS.imp (ps_try_as (tb := fun W' => fun T σ H => ∀ X' : Cx, tS X' G W' fb T σ H) (ts := fun a cls d => fun T σ H => ∀ (oe : Obj) (pn : List (Addr × Obj)), Zc cls d oe → (∃ vs, oe.data = .fields vs) → tS (X.suite a ((a, oe) :: pn)) G noW fs T σ H) (Wout := W) hs hf hN hi hln hc tk
    (fun W' pn xe t po => PSs.imp (hb W' pn xe t po) fun T σ H h => h _) (fun a oe cls d pn hz hv => PSs.imp (hsu a oe pn) fun T σ H h => h oe pn hz hv)) fun D σ H h => ?_
  obtain ⟨ρ, M, ev, r, er, p⟩ := h
  intro X'
  refine ⟨ρ, M, ev.map dropE, r, er.drop X', ?_⟩
  unfold sTryAs at p
  generalize fb (ev.map dropE) M = o at p
  cases o with
  | nx ev1 M1 => exact fun ρ1 σ1 H1 g1 r1 e1 => p ρ1 σ1 H1 g1 r1 (e1.drop X)
  | bk ev1 M1 => exact fun ρ1 σ1 H1 g1 r1 e1 => p ρ1 σ1 H1 g1 r1 (e1.drop X)
  | ct ev1 M1 => exact fun ρ1 σ1 H1 g1 r1 e1 => p ρ1 σ1 H1 g1 r1 (e1.drop X)
  | rt d M1 => exact p
  | st => exact p.elim
  | ex c xs ev1 M1 =>
    intro ρ1 d fv σ1 H1 g1 r1 e1 hd rf
    cases hm : cm c with
    | none => simp only [hm] at p; exact p.elim
    | some b =>
      refine ⟨b, hcm c b hm, fun eb a na oe pn hz hv => ?_, fun eb => ?_⟩
      · subst eb
        simp only [hm] at p
        have p := PostS.trans p g1
        have er2 : RepE (X.suite a ((a, oe) :: pn)) G ρ1 M1.length H1 (σ1.set i (some (.ref a))) ((ev1.map dropE).set i (some (.exc c xs 0))) := by
          have e2 := e1.drop (X.suite a ((a, oe) :: pn))
          refine ⟨by simp [e2.len], fun j d' e => ?_⟩
          by_cases hj : j = i
          · subst hj
            have hl : j < (ev1.map dropE).length := by
              have := lt_of_get e
              simpa using this
            rw [List.getElem?_set_self hl] at e
            cases e
            exact ⟨.ref a, by rw [List.getElem?_set_self (by rw [e2.len]; exact hl)], a, d, fv, rfl, ⟨oe, List.mem_cons_self, hz, hv⟩, hd, rf⟩
          · rw [List.getElem?_set_ne (Ne.symm hj)] at e ⊢
            exact e2.at_ j d' e
        refine ⟨ρ1, M1, _, r1, er2, ?_⟩
        generalize fs ((ev1.map dropE).set i (some (.exc c xs 0))) M1 = o2 at p
        cases o2 with
        | nx ev2 M2 => exact fun ρ2 σ2 H2 g2 r2 e2 => p ρ2 _ H2 g2 r2 (e2.off i X)
        | bk ev2 M2 => exact fun ρ2 σ2 H2 g2 r2 e2 => p ρ2 _ H2 g2 r2 (e2.off i X)
        | ct ev2 M2 => exact fun ρ2 σ2 H2 g2 r2 e2 => p ρ2 _ H2 g2 r2 (e2.off i X)
        | rt d2 M2 => exact p
        | st => exact p.elim
        | ex _ _ _ _ => exact p.elim
      · subst eb
        simp only [hm] at p
        exact p ρ1 d fv σ1 H1 g1 r1 (e1.drop X) hd rf
end
/-! isinstance -/
inductive Tg where
  | non | bl | int | str | lst | tup | dct
  deriving DecidableEq
def Tg.nm : Tg → String
  | .non => "NoneType" | .bl => "bool" | .int => "int" | .str => "str" | .lst => "list" | .tup => "tuple" | .dct => "dict"
def tag (d : D) (M : Mem) : Option (Tg ⊕ Str) := match d with
  | .non => some (.inl .non)
  | .bl _ => some (.inl .bl)
  | .int _ => some (.inl .int)
  | .str _ => some (.inl .str)
  | .tup _ => some (.inl .tup)
  | .ref n => match M[n]? with
    | some (.lst _) => some (.inl .lst)
    | some (.rls _) => some (.inl .lst)
    | some (.dct _) => some (.inl .dct)
    | some (.ins c _) => some (.inr c)
    | none => none
  | .exc _ _ _ => none
def ansT (tb : Tg → Bool) (own : List (Str × Bool)) : Tg ⊕ Str → Option Bool
  | .inl t => some (tb t)
  | .inr c => own.lookup c
def dIsi (tb : Tg → Bool) (own : List (Str × Bool)) (f : Den) : Den := fun ev M => (f ev M).bind fun d M1 => match (tag d M1).bind (ansT tb own) with
  | some b => .ok (.bl b) M1
  | none => .st
/-- what an own class must have -/
structure InsIs (K : PySem.W.Frag) (C : Addr) : Prop where
  cl : Cls K C
  ha : PySem.W.findIn K (.ref C) "__class__" = some (some (.builtin "object.__class__"))
  hn : PySem.W.specialIn K (.builtin "object.__class__") "__get__" = some (some (.builtin "getset_descriptor.__get__"))
  htk : PySem.W.takesIn K (.builtin "object.__class__") = some true
  hm : PySem.W.mroIn K C (.type "object") = some true
structure ExcIs' (K : PySem.W.Frag) (C : Addr) : Prop where
  hcl : (PySem.W.clsIn K C).isSome = true
  hga : PySem.W.findIn K (.ref C) "__getattribute__" = some (some (.builtin "BaseException.__getattribute__"))
  hgt : PySem.W.findIn K (.ref C) "__getattr__" = some none
  hsub : PySem.W.subIn K (.ref C) (.type "BaseException") = some true
  hd : PySem.W.hasDictIn K C = true
  ha : PySem.W.findIn K (.ref C) "__class__" = some (some (.builtin "object.__class__"))
  hn : PySem.W.specialIn K (.builtin "object.__class__") "__get__" = some (some (.builtin "getset_descriptor.__get__"))
  htk : PySem.W.takesIn K (.builtin "object.__class__") = some true
  hm : PySem.W.mroIn K C (.type "object") = some true
def tgV (G : GC) : Tg ⊕ Str → Value
  | .inl t => .type t.nm
  | .inr c => .ref (G.ca c)
section
variable {X : Cx} {G : GC} {W : WX} {e ce : Expr} {fe : Den} {p pos : Pos} {cV : V} {u : Value} {tb : Tg → Bool} {own : List (Str × Bool)} {x y : Str}
theorem tag_ty {ρ : Nat → Addr} {H : Hp} {M : Mem} {d : D} {v : V} {t : Tg ⊕ Str} (hK : G.K = X.K) (r : Rel G ρ H M) (rd : RepV G ρ M.length H d v) (e : tag d M = some t) (ho : ∀ c, t = .inr c → InsIs X.K (G.ca c)) : TyX X.K H v (tgV G t) := by
  cases d with
  | non => cases e; rw [rd.non']; exact .base .non
  | bl b => cases e; rw [rd.bl']; exact .base (.bl b)
  | int b => cases e; rw [rd.int']; exact .base (.int b)
  | str b => cases e; rw [rd.str']; exact .base (.str b)
  | tup xs =>
    cases e
    obtain ⟨a, vs, rfl, ta, _⟩ := rd.tup'
    rcases ta with ⟨o, _, h⟩ | ⟨o, its, n, _, ho, hc, _⟩
    · exact .fTuple h
    · exact .kTuple (hK ▸ ho) hc
  | ref n =>
    obtain ⟨hn, rfl⟩ := rd.ref'
    unfold tag at e
    simp only at e
    cases em : M[n]? with
    | none => rw [em] at e; cases e
    | some c =>
      rw [em] at e
      have rc := r.cell n c em
      cases c with
      | lst xs => cases e; obtain ⟨vs, q, _⟩ := rc; exact .base (.lst q)
      | rls xs => cases e; obtain ⟨vs, o, q, _⟩ := rc; exact .base (.frz q)
      | dct xs => cases e; obtain ⟨vs, q, _⟩ := rc; exact .base (.dK q)
      | ins k fs =>
        cases e
        obtain ⟨dx, vs, q, _⟩ := rc
        have h := ho k rfl
        exact .base (.ins q h.cl h.ha h.hn h.htk h.hm)
  | exc _ _ _ => cases e
theorem i_isi (hK : G.K = X.K) (hg : Gl X "isinstance") (hm : X.mg "isinstance" = none) (he : PE X e (tI X G W fe)) (hce : PE X ce (tC cV)) (hc : ClsV cV u)
    (hT : ∀ t : Tg, PySem.W.kitOne X.K (.type t.nm) u = some (tb t)) (hO : ∀ c b, own.lookup c = some b → InsIs X.K (G.ca c) ∧ PySem.W.kitOne X.K (.ref (G.ca c)) u = some b)
    (hs : starEach [e, ce] X.env = (false, eval e X.env) :: starEach [ce] X.env) (hs2 : starEach [ce] X.env = (false, eval ce X.env) :: starEach [] X.env) (hpl : (backTo pos (starEach [ce] X.env)).any (·.1) = false) :
    PE X (.Call (.Name "isinstance" p) [e, ce] [] pos) (tI X G W (dIsi tb own fe)) := by
  refine PE.imp (pe_callB call_isi hg hm PyProof.Rows.Boot.«isinstance» (pa_cons he (pa_cons hce pa_nil hs2) hs) (by decide) (by decide) hs hpl) fun σ H Q ⟨ρ, M, ev, r, er, p⟩ => ?_
  refine ⟨ρ, M, ev, r, er, p.step fun d M1 ρ1 H1 _ g1 r1 p1 v rv => ?_⟩
  cases et : tag d M1 with
  | none => rw [et] at p1; exact p1.elim
  | some t =>
    rw [et] at p1
    simp only [Option.bind_some] at p1
    cases ea : ansT tb own t with
    | none => rw [ea] at p1; exact p1.elim
    | some b =>
      rw [ea] at p1
      refine ⟨v, cV, tgV G t, u, b, rfl, hc, tag_ty hK r1 rv et (fun c ec => ?_), ?_, p1 ρ1 H1 .refl r1 (.bl b) (by simp only [RepV])⟩
      · subst ec; exact (hO c b ea).1
      · cases t with
        | inl t => cases ea; exact hT t
        | inr c => exact (hO c b ea).2
/-- isinstance(e, c), e the exception that the suite holds -/
def dIsE (i : Nat) (own : List (Str × Bool)) : Den := fun ev M => match ev[i]? with
  | some (some (.exc c _ _)) => (match own.lookup c with
    | some b => .ok (.bl b) M
    | none => .st)
  | _ => .st
theorem call_isX : CallR X (.builtin "isinstance") (fun xs H Q => ∃ (a : Addr) (d : Option Addr) (c : Str) (fv : List (Str × V)) (cV : V) (u : Value) (b : Bool), xs = [.ref a, cV] ∧ ClsV cV u ∧ ExcIn X G a c d ∧ ExD d fv H ∧ ExcIs' X.K (G.ca c) ∧ PySem.W.kitOne X.K (.ref (G.ca c)) u = some b ∧ Q (.bl b) H) := by
  intro pins s σ H xs us Q I r h
  obtain ⟨a, d, c, fv, cV, u, b, rfl, k, ⟨oe, hp, hz, vs, hv⟩, hd, T, e, q⟩ := h
  obtain ⟨u1, u2, rfl, r1, r2⟩ := vals2 r
  have e2 := k.eq r2
  subst e2
  cases (show u1 = Value.ref a from r1)
  obtain ⟨hget, _⟩ := I.pin (a, oe) (List.mem_append_left _ hp)
  obtain ⟨od, J⟩ : ∃ od, PySem.W.InstAt s.heap a oe (G.ca c) od := by
    cases d with
    | none => exact ⟨none, hget, hz.1, by unfold PySem.W.notCls; rw [hv] <;> rfl, by rw [hz.2]; trivial⟩
    | some d =>
      obtain ⟨mA, ⟨od, _, _, hod, _⟩, _⟩ : ∃ mA, s.heap.Ns1 d mA ∧ ∀ f, RelO (fv.lookup f) (mA f) := I.hok d _ hd
      exact ⟨some od, hget, hz.1, by unfold PySem.W.notCls; rw [hv] <;> rfl, by rw [hz.2]; exact hod⟩
  exact PySem.W.kia_one (PySem.W.kitx_exc T.hcl T.hga T.hgt T.hsub T.ha T.hn T.htk T.hm) I.kIn J e (fun z => nomatch z) fun tk => ⟨.bl b, H, I.tok tk, rfl, q⟩
theorem i_isE {i : Nat} {p1 : Pos} (hg : Gl X "isinstance") (hm : X.mg "isinstance" = none) (hN : X.N[i]? = some x) (hv : Vis X.env.scope x) (h1 : (x == ("__debug__" : Str)) = false) (h2 : (x == ("__classdict__" : Str)) = false) (hce : PE X ce (tC cV)) (hc : ClsV cV u)
    (hO : ∀ c b, own.lookup c = some b → ExcIs' X.K (G.ca c) ∧ PySem.W.kitOne X.K (.ref (G.ca c)) u = some b)
    (hs : starEach [.Name x p1, ce] X.env = (false, eval (.Name x p1) X.env) :: starEach [ce] X.env) (hs2 : starEach [ce] X.env = (false, eval ce X.env) :: starEach [] X.env) (hpl : (backTo pos (starEach [ce] X.env)).any (·.1) = false) :
    PE X (.Call (.Name "isinstance" p) [.Name x p1, ce] [] pos) (tI X G W (dIsE i own)) := by
  refine PE.imp (pe_callB (call_isX (G := G)) hg hm PyProof.Rows.Boot.«isinstance» (pa_cons (pe_var hN hv h1 h2) (pa_cons hce pa_nil hs2) hs) (by decide) (by decide) hs hpl) fun σ H Q ⟨ρ, M, ev, r, er, p⟩ => ?_
  unfold dIsE at p
  split at p
  · rename_i c fs k eq
    split at p
    · rename_i b eb
      obtain ⟨v, hv', a, d, fv, rfl, hx, hd, rf⟩ := er.at_ _ _ eq
      exact ⟨.ref a, hv', a, d, c, fv, cV, u, b, rfl, hc, hx, hd, (hO c b eb).1, (hO c b eb).2, p ρ H .refl r (.bl b) (by simp only [RepV])⟩
    · exact p.elim
  · exact p.elim
/-- e.f, e the exception -/
def dXf (i : Nat) (cs : List Str) (f : Str) : Den := fun ev M => match ev[i]? with
  | some (some (.exc c fs _)) => if c ∈ cs then (match fs.lookup f with
    | some d => .ok d M
    | none => .st) else .st
  | _ => .st
theorem lookupF {ρ : Nat → Addr} {N : Nat} {H : Hp} {f : Str} {d : D} : ∀ {fs : List (Str × D)} {vs : List (Str × V)}, RepF G ρ N H fs vs → fs.lookup f = some d → ∃ v, vs.lookup f = some v ∧ RepV G ρ N H d v
  | [], _, _, e => by simp at e
  | (g, d') :: fs, _, ⟨v, r, rfl, h1, h2⟩, e => by
    rw [lookup_put]
    have e' : (if f = g then some d' else fs.lookup f) = some d := by
      by_cases h : f = g
      · subst h; simpa [List.lookup] using e
      · have : (f == g) = false := by simpa using h
        rw [if_neg h]; simpa [List.lookup, this] using e
    by_cases h : f = g
    · rw [if_pos h] at e' ⊢; cases e'; exact ⟨v, rfl, h1⟩
    · rw [if_neg h] at e' ⊢; exact lookupF h2 e'
theorem i_xf {i : Nat} {p1 : Pos} {cs : List Str} {f : Str} (hN : X.N[i]? = some x) (hv : Vis X.env.scope x) (h1 : (x == ("__debug__" : Str)) = false) (h2 : (x == ("__classdict__" : Str)) = false)
    (hO : ∀ c, c ∈ cs → ExcIs' X.K (G.ca c) ∧ PySem.W.findIn X.K (.ref (G.ca c)) f = some none) (hb : attributeBase (.Name x p1) f X.env (eval (.Name x p1) X.env) = eval (.Name x p1) X.env) :
    PE X (.Attribute (.Name x p1) f pos) (tI X G W (dXf i cs f)) := by
  refine ⟨fun pins s σ H Q I ⟨ρ, M, ev, r, er, p⟩ => ?_⟩
  unfold dXf at p
  split at p
  · rename_i c fs k eq
    split at p
    · rename_i hcs
      split at p
      · rename_i d ed
        obtain ⟨v, hv', a, dd, fv, rfl, ⟨oe, hp, hz, vs, hvs⟩, hd, rf⟩ := er.at_ _ _ eq
        obtain ⟨v, hl, rv⟩ := lookupF rf ed
        obtain ⟨T, hno⟩ := hO c hcs
        cases dd with
        | none =>
          rw [show fv = [] from hd] at hl
          cases hl
        | some dd =>
        refine attr_of hb (thn ((pe_var hN hv h1 h2).run pins s σ H (fun y H' => y = .ref a ∧ H' = H) I ⟨.ref a, hv', rfl, rfl⟩) fun u s1 hh => ?_)
        obtain ⟨y, H1, I1, rx, rfl, rfl⟩ := hh
        obtain rfl : u = Value.ref a := rx
        obtain ⟨hget, _⟩ := I1.pin (a, oe) (List.mem_append_left _ hp)
        obtain ⟨mA, hns, hr⟩ : ∃ mA, s1.heap.Ns1 dd mA ∧ ∀ f, RelO (fv.lookup f) (mA f) := I1.hok dd _ hd
        obtain ⟨od, ho, hl2⟩ := lookIn_ns hns
        obtain ⟨u, hu, ru⟩ := RelO.some_of (v := v) (o := mA f) (by rw [← hl]; exact hr f)
        have J : PySem.W.InstAt s1.heap a oe (G.ca c) (some od) := ⟨hget, hz.1, by unfold PySem.W.notCls; rw [hvs] <;> rfl, by rw [hz.2]; exact ho⟩
        exact HandSPX.exc_get I1.kIn J T.hga T.hgt T.hsub (PySem.W.findObj_own T.hd hno rfl (by rw [hl2, hu])) (handed_of ru) ⟨v, H1, I1.tok _, ru, p ρ H1 .refl r v rv⟩
      · exact p.elim
    · exact p.elim
  · exact p.elim
end
end MI

set_option Elab.async false
set_option linter.all false
set_option maxRecDepth 100000
set_option maxHeartbeats 2000000
namespace MI
open PySem PySem.Spec PyProof.Rows L2
/-! built-ins by name -/
section
variable {X : Cx} {G : GC} {W : WX} {e : Expr} {es : List Expr} {fl : DenL} {fe : Den} {x : Str} {p pos : Pos} {id T : String} {f : OpN}
theorem i_cB (hc : CallR X (.builtin id) (rdn G f)) (hg : Gl X x) (hm : X.mg x = none) (hv : bootBuiltins x = some (.builtin id)) (ha : PA X (e :: es) (tL X G W fl)) (hn : x ≠ "__name__") (hdb : (x == ("__debug__" : Str)) = false)
    (he : starEach (e :: es) X.env = (false, eval e X.env) :: starEach es X.env) (hpl : (backTo pos (starEach es X.env)).any (·.1) = false) : PE X (.Call (.Name x p) (e :: es) [] pos) (tI X G W (dOpN f fl)) :=
  PE.imp (pe_callB hc hg hm hv ha hn hdb he hpl) fun σ H Q h => tI_opN h
theorem i_cT (hc : CallR X (.type T) (rdn G f)) (hg : Gl X x) (hm : X.mg x = none) (hv : bootBuiltins x = some (.type T)) (ha : PA X (e :: es) (tL X G W fl)) (hn : x ≠ "__name__") (hdb : (x == ("__debug__" : Str)) = false)
    (he : starEach (e :: es) X.env = (false, eval e X.env) :: starEach es X.env) (hpl : (backTo pos (starEach es X.env)).any (·.1) = false) : PE X (.Call (.Name x p) (e :: es) [] pos) (tI X G W (dOpN f fl)) :=
  PE.imp (pe_callTy hc hg hm hv ha hn hdb he hpl) fun σ H Q h => tI_opN h
theorem pe_clsO {C : Addr} (hg : Gl X x) (hm : X.mg x = some (.ref C)) (hd : (x == ("__debug__" : Str)) = false) : PE X (.Name x pos) (tC (.ref C)) := pe_glob hg hm rfl hd
theorem pe_clsT (hg : Gl X x) (hm : X.mg x = none) (hv : bootBuiltins x = some (.type T)) (hn : x ≠ "__name__") (hd : (x == ("__debug__" : Str)) = false) : PE X (.Name x pos) (tC (.ty T)) :=
  ⟨fun pins s σ H Q I h => ld_blt I hg hm hv ⟨.ty T, H, I, rfl, h⟩ hn hd⟩
end
/-! constants of the module -/
def kD (K : PySem.W.Frag) : Nat → Value → Option D
  | _, .none => some .non
  | _, .bool b => some (.bl b)
  | _, .int i _ => some (.int i)
  | _, .str s _ => some (.str s)
  | n + 1, .ref a => match K.lookup a with
    | some o => if o.cls == .type "tuple" && o.dict.isNone then (match o.data with
      | .seq its _ => if its.size ≤ lim then (optMap (kD K n) its.toList).map .tup else none
      | _ => none) else none
    | none => none
  | _, _ => none
section
variable {K : PySem.W.Frag} {G : GC}
theorem kDL_ok {n : Nat} {ρ : Nat → Addr} {N : Nat} {H : Hp} (ih : ∀ {u : Value} {d : D}, kD K n u = some d → ∃ v, RelV v u ∧ RepV G ρ N H d v) : ∀ {us : List Value} {ds : List D}, optMap (kD K n) us = some ds → ∃ vs, Vals vs us ∧ RepL G ρ N H ds vs
  | [], ds, e => by
    simp only [optMap, Option.some.injEq] at e
    subst e
    exact ⟨[], .nil, .nil⟩
  | u :: us, ds, e => by
    simp only [optMap] at e
    cases e1 : kD K n u with
    | none => rw [e1] at e; simp at e
    | some b =>
      cases e2 : optMap (kD K n) us with
      | none => rw [e1, e2] at e; simp at e
      | some t =>
        rw [e1, e2] at e
        simp only [Option.some.injEq] at e
        subst e
        obtain ⟨v, r1, r2⟩ := ih e1
        obtain ⟨vs, r3, r4⟩ := kDL_ok ih e2
        exact ⟨v :: vs, .cons r1 r3, .cons r2 r4⟩
theorem kD_ok (hK : G.K = K) {ρ : Nat → Addr} {N : Nat} {H : Hp} : ∀ {n : Nat} {u : Value} {d : D}, kD K n u = some d → ∃ v, RelV v u ∧ RepV G ρ N H d v
  | n, .none, d, e => by
    have e : some D.non = some d := by cases n <;> exact e
    cases e; exact ⟨.non, rfl, by simp only [RepV]⟩
  | n, .bool b, d, e => by
    have e : some (D.bl b) = some d := by cases n <;> exact e
    cases e; exact ⟨.bl b, rfl, by simp only [RepV]⟩
  | n, .int i t, d, e => by
    have e : some (D.int i) = some d := by cases n <;> exact e
    cases e; exact ⟨.int i, ⟨t, rfl⟩, by simp only [RepV]⟩
  | n, .str i t, d, e => by
    have e : some (D.str i) = some d := by cases n <;> exact e
    cases e; exact ⟨.str i, ⟨t, rfl⟩, by simp only [RepV]⟩
  | n + 1, .ref a, d, e => by
    simp only [kD] at e
    split at e
    · rename_i o ho
      split at e
      · rename_i hc
        simp only [Bool.and_eq_true, beq_iff_eq, Option.isNone_iff_eq_none] at hc
        split at e
        · rename_i its m hd
          split at e
          · rename_i hz
            cases e2 : optMap (kD K n) its.toList with
            | none => rw [e2] at e; simp at e
            | some t =>
              rw [e2] at e
              simp only [Option.map_some, Option.some.injEq] at e
              subst e
              obtain ⟨vs, r3, r4⟩ := kDL_ok (fun e => kD_ok hK e) e2
              refine ⟨.ref a, rfl, ?_⟩
              simp only [RepV]
              refine ⟨a, vs, rfl, .inr ⟨o, its, m, hc.2, ?_, hc.1, hd, by rw [← lim_eq]; exact hz, r3⟩, r4⟩
              rw [hK]; exact ho
          · cases e
        · cases e
      · cases e
    · cases e
  | n, .float _ _, d, e => by cases n <;> cases e
  | n, .bytes _ _, d, e => by cases n <;> cases e
  | 0, .ref _, d, e => by cases e
  | n, .type _, d, e => by cases n <;> cases e
  | n, .builtin _, d, e => by cases n <;> cases e
  | n, .ellipsis, d, e => by cases n <;> cases e
  | n, .notImplemented, d, e => by cases n <;> cases e
theorem i_glob {X : Cx} {G : GC} {W : WX} {x : Str} {u : Value} {n : Nat} {d : D} {pos : Pos} (hK : G.K = X.K) (hg : Gl X x) (hm : X.mg x = some u) (e : kD X.K n u = some d) (hd : (x == ("__debug__" : Str)) = false) : PE X (.Name x pos) (tI X G W (dC d)) := by
  refine ⟨fun pins s σ H Q I ⟨ρ, M, ev, r, er, p⟩ => ld_glob I hg hm ?_ hd⟩
  obtain ⟨v, rv, rd⟩ := kD_ok (ρ := ρ) (N := M.length) (H := H) hK e
  exact ⟨v, H, I, rv, p ρ H .refl r v rd⟩
end
theorem PostR.mono {G : GC} {W : WX} {α : Type} {σ : St} {ρ : Nat → Addr} {N : Nat} {H : Hp} {P P' : Good α} {r : R α} (p : PostR G W σ ρ N H P r) (h : ∀ ρ' M' H' a, Grow G ρ N H ρ' M'.length H' → Rel G ρ' H' M' → P ρ' M' H' a → P' ρ' M' H' a) : PostR G W σ ρ N H P' r := by
  cases r with
  | ok a M' => exact fun ρ' H' g r => h ρ' M' H' a g r (p ρ' H' g r)
  | ex c fs M' => exact p
  | st => exact p
/-! xs[::-1] -/
def opRev : Op1 := fun d M => match d with
  | .ref n => match getL M n with
    | some xs => some (.ref M.length, M ++ [.lst xs.reverse])
    | none => none
  | _ => none
theorem i_rev {X : Cx} {G : GC} {W : WX} {e : Expr} {fe : Den} {k : Nat} {p1 p2 p3 pos : Pos} (hK : G.K = X.K) (he : PE X e (tI X G W fe)) : PE X (.Subscript e (.Slice none none (some (.UnaryOp .USub (.Constant (.int 1) k p1) p2)) p3) pos) (tI X G W (dOp1 opRev fe)) := by
  refine PE.imp (pe_revL he) fun σ H Q h => ?_
  obtain ⟨ρ, M, ev, r, er, p⟩ := tI_op1 h
  refine ⟨ρ, M, ev, r, er, p.mono fun ρ1 M1 H1 d g1 r1 q v rv => ?_⟩
  obtain ⟨ρ2, M2, d2, r2, rd2, p2⟩ := q v rv
  unfold opRev at p2
  split at p2
  · rename_i n
    split at p2
    · rename_i xs ex
      obtain ⟨hn, rfl⟩ := rd2.ref'
      obtain ⟨vs, hq, rl⟩ := rel_getL r2 ex
      exact ⟨_, vs, rfl, hK ▸ hq, p2.lst r2 rl.reverse⟩
    · exact p2.elim
  · exact p2.elim
/-! repr -/
theorem toP_facts {M : Mem} : ∀ {n : Nat} {d : D} {p : PyData}, toP M n d = some p → p.depth ≤ n ∧ p.hasDict = false
  | n, .non, p, e => by
    have e : some PyData.none = some p := by cases n <;> exact e
    cases e; simp [PyData.depth, PyData.hasDict]
  | n, .bl b, p, e => by
    have e : some (PyData.bool b) = some p := by cases n <;> exact e
    cases e; simp [PyData.depth, PyData.hasDict]
  | n, .int b, p, e => by
    have e : some (PyData.int b) = some p := by cases n <;> exact e
    cases e; simp [PyData.depth, PyData.hasDict]
  | n, .str b, p, e => by
    have e : some (PyData.str b) = some p := by cases n <;> exact e
    cases e; simp [PyData.depth, PyData.hasDict]
  | 0, .tup xs, p, e => by simp [toP] at e
  | 0, .ref k, p, e => by simp [toP] at e
  | n + 1, .tup xs, p, e => by
    simp only [toP] at e
    cases e2 : optMap (toP M n) xs with
    | none => rw [e2] at e; simp at e
    | some t =>
      rw [e2] at e
      simp only [Option.map_some, Option.some.injEq] at e
      subst e
      obtain ⟨h1, h2⟩ := go n xs t e2
      simp only [PyData.depth, PyData.hasDict]
      exact ⟨by omega, h2⟩
  | n + 1, .ref k, p, e => by
    simp only [toP] at e
    have go2 : ∀ xs, (optMap (toP M n) xs).map PyData.list = some p → p.depth ≤ n + 1 ∧ p.hasDict = false := fun xs e => by
      cases e2 : optMap (toP M n) xs with
      | none => rw [e2] at e; simp at e
      | some t =>
        rw [e2] at e
        simp only [Option.map_some, Option.some.injEq] at e
        subst e
        obtain ⟨h1, h2⟩ := go n xs t e2
        simp only [PyData.depth, PyData.hasDict]
        exact ⟨by omega, h2⟩
    cases hm : M[k]? with
    | none => rw [hm] at e; simp at e
    | some c =>
      rw [hm] at e
      cases c with
      | lst xs => exact go2 xs e
      | rls xs => exact go2 xs e
      | _ => simp at e
  | n, .exc _ _ _, p, e => by cases n <;> simp [toP] at e
where
  go (n : Nat) : ∀ (xs : List D) (ps : List PyData), optMap (toP M n) xs = some ps → PyData.depthAll ps ≤ n ∧ PyData.hasDictAll ps = false
  | [], ps, e => by
    simp only [optMap, Option.some.injEq] at e
    subst e
    simp [PyData.depthAll, PyData.hasDictAll]
  | x :: xs, ps, e => by
    simp only [optMap] at e
    cases e1 : toP M n x with
    | none => rw [e1] at e; simp at e
    | some b =>
      cases e2 : optMap (toP M n) xs with
      | none => rw [e1, e2] at e; simp at e
      | some t =>
        rw [e1, e2] at e
        simp only [Option.some.injEq] at e
        subst e
        obtain ⟨h1, h2⟩ := toP_facts e1
        obtain ⟨h3, h4⟩ := go n xs t e2
        simp only [PyData.depthAll, PyData.hasDictAll, h2, h4, Bool.or_self, and_true]
        omega
def nRepr : OpN := one fun d M => match toPs M d with
  | some p => if p.showable && decide (p.shown.length ≤ lim) then some (.str p.shown, M) else none
  | none => none
theorem c_repr {X : Cx} {G : GC} (hK : G.K = X.K) (hg : X.A.guards = some []) (hu : X.A.units + 100 < cLine) : CallR X (.builtin "repr") (rdn G nRepr) := one_ok fun pins s σ H v us Q ρ M d I rv r rd p => by
  cases e : toPs M d with
  | none => rw [e] at p; exact p.elim
  | some pd =>
    rw [e] at p
    simp only at p
    split at p
    · rename_i hz
      rw [Bool.and_eq_true, decide_eq_true_eq, lim_eq] at hz
      have q := p.str r
      have h0 : toP M 66 d = some pd := by
        unfold toPs at e
        cases e1 : toP M 66 d with
        | none => rw [e1] at e; cases e
        | some p' =>
          rw [e1] at e
          simp only at e
          split at e <;> cases e
          rfl
      obtain ⟨hd, _⟩ := toPs_ok r e rd
      rw [hK] at hd
      obtain ⟨f1, f2⟩ := toP_facts h0
      obtain ⟨u, rfl, ru⟩ := rv.one
      obtain ⟨as, rr⟩ := Dp.reads I pd v u hd ru
      have fin : ∀ h' t tk, (∀ b o, s.heap.get? b = some o → h'.get? b = some o) → EP X pins σ Q (.str pd.shown t) { s with heap := h', toks := tk } := fun h' t tk k => ⟨.str pd.shown, H, I.kept k, ⟨t, rfl⟩, q⟩
      cases rr with
      | none => exact PySem.P.repr_of_none (fin s.heap _ _ fun _ _ e => e)
      | bool => exact PySem.P.repr_of_bool (fin s.heap _ _ fun _ _ e => e)
      | int => exact PySem.P.repr_of_int (by simpa [PyData.showable] using hz.1) (fin s.heap _ _ fun _ _ e => e)
      | str => exact PySem.P.repr_of_str (fin s.heap _ _ fun _ _ e => e) hz.2
      | list h1 h2 h3 h4 => exact repr_of_reads' (h₀ := s.heap) (.list h1 h2 h3 h4) hz.1 (fun h => absurd (f2.symm.trans h) Bool.false_ne_true) hg (by omega) (fun _ _ e => e) (fun h' u tk k => fin h' u tk k) hz.2
      | tuple h1 h2 h3 h4 => exact repr_of_reads' (h₀ := s.heap) (.tuple h1 h2 h3 h4) hz.1 (fun h => absurd (f2.symm.trans h) Bool.false_ne_true) hg (by omega) (fun _ _ e => e) (fun h' u tk k => fin h' u tk k) hz.2
      | dict h1 h2 h3 h4 h5 => simp [PyData.hasDict] at f2
    · exact p.elim
end MI

set_option Elab.async false
set_option linter.all false
set_option maxRecDepth 100000
set_option maxHeartbeats 2000000
namespace MI
open PySem PySem.Spec PyProof.Rows L2
/-! from the law's denotation to the row -/
/-- no list among the module's own objects -/
def noLists (K : PySem.W.Frag) : Bool := K.all fun p => !(p.2.cls == .type "list")
theorem lookK : ∀ {K : List (Addr × Obj)} {a : Addr} {o : Obj}, K.lookup a = some o → (a, o) ∈ K
  | [], _, _, e => by cases e
  | (b, u) :: K, a, o, e => by
    by_cases h : a = b
    · subst h
      simp [List.lookup] at e
      subst e
      exact List.mem_cons_self
    · have : (a == b) = false := by simpa using h
      simp only [List.lookup, this] at e
      exact List.mem_cons_of_mem _ (lookK e)
theorem noLists_at {K : PySem.W.Frag} (h : noLists K = true) {a : Addr} {o : Obj} (e : K.lookup a = some o) : o.cls ≠ .type "list" := fun c => by
  have m : (a, o) ∈ K := lookK e
  have q := List.all_eq_true.mp h _ m
  simp only [c, beq_self_eq_true, Bool.not_true] at q
  cases q
theorem ints_repr {G : GC} {ρ : Nat → Addr} {N : Nat} {H : Hp} : ∀ ns : List Int, RepL G ρ N H (ns.map D.int) (ns.map V.int)
  | [] => .nil
  | n :: ns => .cons (by simp only [RepV]) (ints_repr ns)
theorem end_call {P : Program} {w : World} {K : PySem.W.Frag} {mg mb : Str → Option Value} {G : GC} {k : Nat} {fa a : Addr} {fd : FuncData} {x : Str} {f : Fun} {s₁ : Shared} {vs : List Value} {ns : List Int}
    (KX : K.In s₁.heap) (hns : s₁.heap.Ns mainGlobals mg) (hb : s₁.heap.Ns builtinsNs mb) (hbb : ∀ x : Str, x ≠ "__name__" → mb x = bootBuiltins x) (hlim : s₁.heap.NoLimit) (hg : s₁.gens = #[])
    (ha : s₁.heap.get? a = some { cls := .type "list", data := .seq vs.toArray }) (hi : IntsAre vs ns) (hl : ns.length ≤ sizeLine) (hr : RoomG true k callerA) (hno : noLists K = true)
    (F : ∀ base : Heap, K.In base → base.Ns mainGlobals mg → FnG true P w K mg base k fa fd [x] (spI G 1 f)) (hbind : ∀ (s : Shared) (u : Value), BindsTo s fd ⟨[u], []⟩ [(x, u)])
    (hf : ∃ M, f [.ref 0] [.rls (ns.map .int)] = .ok (.bl true) M) :
    codeAny (model P w) callerA (.call (.ref fa) ⟨[.ref a], []⟩) (fun r s' => r = .ok (.ret (.bool true)) ∧ OldK s₁.heap s'.heap ∧ s'.os = s₁.os ∧ AllBare s'.gens) s₁ := by
  have hKa : K.lookup a = none := by
    cases e : K.lookup a with
    | none => rfl
    | some o =>
      have z := KX a o e
      rw [ha] at z
      cases z
      exact absurd rfl (noLists_at hno e)
  obtain ⟨H, hH1, hH2⟩ : ∃ H : Hp, H a = some (.frz { cls := .type "list", data := .seq vs.toArray } (.lst (ns.map V.int))) ∧ ∀ b, b ≠ a → H b = none :=
    ⟨fun b => if b = a then some (.frz { cls := .type "list", data := .seq vs.toArray } (.lst (ns.map V.int))) else none, if_pos rfl, fun b hb => if_neg hb⟩
  have rv := vals_ints hi
  have notA : ∀ {b : Addr} {o : Obj}, s₁.heap.get? b = some o → (∀ z n, o.data ≠ .seq z n) → b ≠ a := fun {b o} e d z => by
    rw [z, ha] at e
    cases e
    exact d _ _ rfl
  have hok : HOk P w H s₁.heap := fun b u e => by
    by_cases hb : b = a
    · subst hb
      rw [hH1] at e
      cases e
      exact ⟨ha, by rw [List.length_map]; exact hl, vs, _, rv, ha⟩
    · rw [hH2 b hb] at e; cases e
  have nsK : ∀ {b : Addr} {m : Str → Option Value}, s₁.heap.Ns b m → (hidT s₁.heap H).Ns b m := fun {b m} ⟨o, es, ep, e, d, r⟩ =>
    ⟨o, es, ep, hidT_get e (hH2 b (notA e fun z n q => by rw [d] at q; cases q)), d, r⟩
  have hKb : K.In (hidT s₁.heap H) := fun b o e => hidT_get (KX b o e) (hH2 b fun z => by rw [z, hKa] at e; cases e)
  have hM : Mod K mg (hidT s₁.heap H) := ⟨hKb, nsK hns, ⟨mb, nsK hb, hbb⟩, let ⟨mc, h1, h2⟩ := hlim; ⟨mc, nsK h1, h2⟩⟩
  have e0 : Env0 P w K mg (hidT s₁.heap H) callerA [] s₁ H := ⟨rfl, hM, fun b o e => of_hidT e, Nat.le_of_eq (hidT_size _ _), trivial, fun b hb => absurd (show b ∈ ([] : List Addr) from hb) (by simp), hok, .of_eq hg⟩
  have hsp : spI G 1 f [.ref a] H (fun v _ => v = .bl true) fun _ _ _ => False := by
    obtain ⟨M, hM⟩ := hf
    refine ⟨rfl, fun _ => a, [.rls (ns.map .int)], [.ref 0], ⟨fun n c e => ?_, fun i j hi hj _ => ?_⟩, .one ?_, ?_⟩
    · cases n with
      | zero => cases e; exact ⟨_, _, hH1, ints_repr ns⟩
      | succ n => simp at e
    · simp only [List.length_cons, List.length_nil] at hi hj; omega
    · simp only [RepV]
      exact ⟨by simp, trivial⟩
    · rw [hM]
      exact fun ρ' H' g r v rd => rd.bl'
  refine codeAny_mono ((F _ hKb (nsK hns)).run callerA [] s₁ H ⟨[.ref a], []⟩ [.ref a] [.ref a] _ _ hr e0 (hbind s₁ (.ref a)) (.cons rfl .nil) hsp) fun r s' h => ?_
  cases r with
  | error e =>
    obtain ⟨_, _, _, _, _, _, _, _, _, _, _, _, z⟩ := h
    exact z.elim
  | ok fl =>
    cases fl with
    | next => exact False.elim h
    | brk => exact False.elim h
    | cont => exact False.elim h
    | ret u =>
      obtain ⟨v, H', os, bare, un, hok', r', q⟩ := h
      have q' : v = .bl true := q
      subst q'
      obtain rfl : u = Value.bool true := r'
      refine ⟨rfl, OldK.of_keep fun b o e => ?_, os, bare⟩
      by_cases hb : b = a
      · subst hb
        rw [ha] at e
        cases e
        exact (hok' b _ (un.frzs b _ _ hH1)).1
      · exact un.keep b o e (hH2 b hb) (by intro z; exact absurd (show b ∈ ([] : List Addr) from z) (by simp)) (by simp)
theorem end_law {l : PySem.W.OpenLaw} {n k : Nat} {q : Program} {loose : List Str} {XP : (Str → Option Value) → Heap → Prop} {YP : World → Heap → Prop} {d : DefRec} {K : Params → PySem.W.Frag} {x : Str} {f : Fun}
    (hn : l.most = some n) (hn2 : n ≤ sizeLine) (hdf : d.params.defaults = []) (hr : RoomG true k callerA) (hno : ∀ p, noLists (K p) = true)
    (hY : ∀ (w : World) (h : Heap), YP w h → (K w.params).In h)
    (F : ∀ (w : World) (mg : Str → Option Value) (fa : Addr) (h : Heap), (K w.params).In h → h.Ns mainGlobals mg → mg d.name = some (.ref fa) →
      ∃ (fd : FuncData) (G : GC), (∀ (s : Shared) (u : Value), BindsTo s fd ⟨[u], []⟩ [(x, u)]) ∧
        ∀ base : Heap, (K w.params).In base → base.Ns mainGlobals mg → FnG true l.prog w (K w.params) mg base k fa fd [x] (spI G 1 f))
    (hf : ∀ ns : List Int, ns.length ≤ n → ∃ M, f [.ref 0] [.rls (ns.map .int)] = .ok (.bl true) M) :
    PySem.W.WalkO q loose XP YP l.row.toRowW d [] (fun f vs => PySem.call f vs) := by
  refine Att.attach_call hn hdf fun w s₀ s₁ mg mb fa o pm cd doc a vs ns Gr Y ho hd hcd hmg hobj hints hlen hg => ?_
  have KX := hY w _ Y
  obtain ⟨fd, G, hb, hF⟩ := F w mg fa _ KX Gr.T.g hmg
  exact end_call KX Gr.T.g Gr.T.b Gr.T.builtins Gr.T.nolimit hg hobj hints (Nat.le_trans hlen hn2) hr (hno _) hF hb (hf ns hlen)
end MI

set_option Elab.async false
set_option linter.all false
set_option maxRecDepth 100000
set_option maxHeartbeats 2000000
namespace MI
open PySem PySem.Spec PyProof.Rows L2
/-! the rules in short, for printed terms -/
theorem RoomG.u64 {c : Bool} {k : Nat} {A : Around} (r : RoomG c k A) : A.units + 64 < cLine := by have := r.un; omega
theorem RoomG.u65 {c : Bool} {k : Nat} {A : Around} (r : RoomG c k A) : A.units + 65 < cLine := by have := r.un; omega
theorem RoomG.u0 {c : Bool} {k : Nat} {A : Around} (r : RoomG c k A) : A.units < cLine := by have := r.un; omega
theorem RoomG.u100 {c : Bool} {k : Nat} {A : Around} (r : RoomG c k A) : A.units + 100 < cLine := by have := r.un; omega
/-- what the rules ask of a context -/
structure Ctx (X : Cx) (G : GC) (W : WX) (k : Nat) : Prop where
  hK : G.K = X.K
  tk : Takes X W
  rm : RoomG X.calm k X.A
section
variable {X : Cx} {G : GC} {W : WX} {k : Nat}
theorem Ctx.blk (c : Ctx X G W k) (s : Shared) (H : Hp) (scope : Scope) (e : PySem.Env) (fp : List Addr) : Ctx (X.blk s H scope e fp) G noW k := ⟨c.hK, takes_no _, c.rm⟩
theorem Ctx.tr (c : Ctx X G W k) {W' : WX} {pn : List (Addr × Obj)} {xe : Value → Shared → Prop} (t : Takes (X.tr pn xe) W') : Ctx (X.tr pn xe) G W' k := ⟨c.hK, t, c.rm⟩
theorem Ctx.su (c : Ctx X G W k) (a : Addr) (pn : List (Addr × Obj)) : Ctx (X.suite a pn) G noW k := ⟨c.hK, takes_no _, ⟨c.rm.dp, c.rm.un, fun h => absurd (show false = true from h) Bool.false_ne_true, c.rm.gd⟩⟩
end
section
variable {X : Cx} {G : GC} {W : WX} {k : Nat} {a b c e : Expr} {es : List Expr} {fa fb fc fe : Den} {fl : DenL} {ta tb : DenT} {pos p p2 : Pos} {x : Str}
theorem v (i : Nat) (hN : X.N[i]? = some x := by rfl) (hv : Vis X.env.scope x := by first | exact Or.inl rfl | exact Or.inr (Or.inl rfl) | exact Or.inr (Or.inr rfl)) (h1 : (x == ("__debug__" : Str)) = false := by decide) (h2 : (x == ("__classdict__" : Str)) = false := by decide) :
    PE X (.Name x pos) (tI X G W (dVar i)) := i_var hN hv h1 h2
theorem gl (C : Ctx X G W k) {u : Value} {n : Nat} {d : D} (hm : X.mg x = some u) (e : kD X.K n u = some d) (hg : Gl X x := by rfl) (hd : (x == ("__debug__" : Str)) = false := by decide) : PE X (.Name x pos) (tI X G W (dC d)) := i_glob C.hK hg hm e hd
theorem bAdd (C : Ctx X G W k) (ha : PE X a (tI X G W fa)) (hb : PE X b (tI X G W fb)) : PE X (.BinOp a .Add b pos) (tI X G W (dOp2 opAdd fa fb)) := i_op (op_addD C.hK) ha hb
theorem bSub (C : Ctx X G W k) (ha : PE X a (tI X G W fa)) (hb : PE X b (tI X G W fb)) : PE X (.BinOp a .Sub b pos) (tI X G W (dOp2 opSub fa fb)) := i_op op_subDD ha hb
theorem bMult (C : Ctx X G W k) (ha : PE X a (tI X G W fa)) (hb : PE X b (tI X G W fb)) : PE X (.BinOp a .Mult b pos) (tI X G W (dOp2 opMul fa fb)) := i_op op_mulDD ha hb
theorem bMod (C : Ctx X G W k) (ha : PE X a (tI X G W fa)) (hb : PE X b (tI X G W fb)) : PE X (.BinOp a .Mod b pos) (tI X G W (dOp2 opMod fa fb)) := i_op op_modDD ha hb
theorem bFloorDiv (C : Ctx X G W k) (ha : PE X a (tI X G W fa)) (hb : PE X b (tI X G W fb)) : PE X (.BinOp a .FloorDiv b pos) (tI X G W (dOp2 opDiv fa fb)) := i_op op_divDD ha hb
theorem bPow (C : Ctx X G W k) (ha : PE X a (tI X G W fa)) (hb : PE X b (tI X G W fb)) : PE X (.BinOp a .Pow b pos) (tI X G W (dOp2 opPow fa fb)) := i_op op_powDD ha hb
theorem bLShift (C : Ctx X G W k) (ha : PE X a (tI X G W fa)) (hb : PE X b (tI X G W fb)) : PE X (.BinOp a .LShift b pos) (tI X G W (dOp2 opShl fa fb)) := i_op op_shlDD ha hb
theorem bRShift (C : Ctx X G W k) (ha : PE X a (tI X G W fa)) (hb : PE X b (tI X G W fb)) : PE X (.BinOp a .RShift b pos) (tI X G W (dOp2 opShr fa fb)) := i_op op_shrDD ha hb
theorem bBitAnd (C : Ctx X G W k) (ha : PE X a (tI X G W fa)) (hb : PE X b (tI X G W fb)) : PE X (.BinOp a .BitAnd b pos) (tI X G W (dOp2 opAnd fa fb)) := i_op op_andDD ha hb
theorem bBitOr (C : Ctx X G W k) (ha : PE X a (tI X G W fa)) (hb : PE X b (tI X G W fb)) : PE X (.BinOp a .BitOr b pos) (tI X G W (dOp2 opOr fa fb)) := i_op op_orDD ha hb
theorem bBitXor (C : Ctx X G W k) (ha : PE X a (tI X G W fa)) (hb : PE X b (tI X G W fb)) : PE X (.BinOp a .BitXor b pos) (tI X G W (dOp2 opXor fa fb)) := i_op op_xorDD ha hb
theorem uUSub (C : Ctx X G W k) (ha : PE X a (tI X G W fa)) : PE X (.UnaryOp .USub a pos) (tI X G W (dOp1 opNeg fa)) := i_un un_negDD ha
/-! comparisons: the operation, then value or test -/
theorem qEq (C : Ctx X G W k) : OpR X (compareOp .Eq) (rd2 G (opB eqB)) := op_eqDD C.hK C.rm.u64
theorem qNotEq (C : Ctx X G W k) : OpR X (compareOp .NotEq) (rd2 G (opB neB)) := op_neDD C.hK C.rm.u64
theorem qIn (C : Ctx X G W k) : OpR X (compareOp .In) (rd2 G (opB inB)) := op_inDD C.hK C.rm.u65
theorem qNotIn (C : Ctx X G W k) : OpR X (compareOp .NotIn) (rd2 G (opB ninB)) := op_ninDD C.hK C.rm.u65
theorem qLt (C : Ctx X G W k) : OpR X (compareOp .Lt) (rd2 G (opB ltB)) := op_ltDD C.hK C.rm.u0
theorem qLtE (C : Ctx X G W k) : OpR X (compareOp .LtE) (rd2 G (opB leB)) := op_leDD
theorem qGt (C : Ctx X G W k) : OpR X (compareOp .Gt) (rd2 G (opB gtB)) := op_gtDD
theorem qGtE (C : Ctx X G W k) : OpR X (compareOp .GtE) (rd2 G (opB geB)) := op_geDD
theorem qIs (C : Ctx X G W k) : OpR X (compareOp .Is) (rd2 G (opB isB)) := op_isDD
theorem qIsNot (C : Ctx X G W k) : OpR X (compareOp .IsNot) (rd2 G (opB nisB)) := op_nisDD
theorem cmp {op : CmpOp} {f : D → D → Mem → Option Bool} (ho : OpR X (compareOp op) (rd2 G (opB f))) (ha : PE X a (tI X G W fa)) (hb : PE X b (tI X G W fb)) (hm : behindInMarks op b = false := by with_unfolding_all rfl) : PE X (.Compare a [op] [b] pos) (tI X G W (dOp2 (opB f) fa fb)) := i_cmp ho ha hb hm
theorem tcmp {op : CmpOp} {f : D → D → Mem → Option Bool} (ho : OpR X (compareOp op) (rd2 G (opB f))) (ha : PE X a (tI X G W fa)) (hb : PE X b (tI X G W fb)) (hm : behindInMarks op b = false := by with_unfolding_all rfl) : PT X (.Compare a [op] [b] pos) (tT X G W (dTru (dOp2 (opB f) fa fb))) := t_cmp ho ha hb hm
theorem chain {op op' : CmpOp} {f g : D → D → Mem → Option Bool} (ho : OpR X (compareOp op) (rd2 G (opB f))) (ho' : OpR X (compareOp op') (rd2 G (opB g))) (ha : PE X a (tI X G W fa)) (hb : PE X b (tI X G W fb)) (hc : PE X c (tI X G W fc))
    (hm : lastMarks [op, op'] [b, c] = false := by with_unfolding_all rfl) : PE X (.Compare a [op, op'] [b, c] pos) (tI X G W (dChain f g fa fb fc)) := i_chain ho ho' ha hb hc hm
theorem tchain {op op' : CmpOp} {f g : D → D → Mem → Option Bool} (ho : OpR X (compareOp op) (rd2 G (opB f))) (ho' : OpR X (compareOp op') (rd2 G (opB g))) (ha : PE X a (tI X G W fa)) (hb : PE X b (tI X G W fb)) (hc : PE X c (tI X G W fc))
    (hm : lastMarks [op, op'] [b, c] = false := by with_unfolding_all rfl) : PT X (.Compare a [op, op'] [b, c] pos) (tT X G W (dTru (dChain f g fa fb fc))) := t_chain ho ho' ha hb hc hm
theorem tru (C : Ctx X G W k) (ha : PE X a (tI X G W fa)) (he : ∀ whole, isTrue a X.env whole = (do let v ← whole; standAt a.pos; holding [v] (truthy v)) := by intro _; rfl) : PT X a (tT X G W (dTru fa)) := t_tru C.hK ha he
theorem tnot (ha : PT X a (tT X G W ta)) : PT X (.UnaryOp .Not a pos) (tT X G W (tNotD ta)) := t_not ha
theorem w1 {op : BoolOp} (ha : PT X a (tT X G W ta)) : PW X (.BoolOp op [a] pos) (tT X G W ta) := w_and1 ha
theorem wand (ha : PT X a (tT X G W ta)) (hb : PW X (.BoolOp .And (b :: es) pos) (tT X G W tb)) : PW X (.BoolOp .And (a :: b :: es) pos) (tT X G W (tAndD ta tb)) := w_and ha hb
theorem wor (ha : PT X a (tT X G W ta)) (hb : PW X (.BoolOp .Or (b :: es) pos) (tT X G W tb)) : PW X (.BoolOp .Or (a :: b :: es) pos) (tT X G W (tOrD ta tb)) := w_or ha hb
theorem one_ {op : BoolOp} (h : PE X a (tI X G W fa)) : PE X (.BoolOp op [a] pos) (tI X G W fa) := pe_one h
theorem and_ (C : Ctx X G W k) (ha : PE X a (tI X G W fa)) (hb : PE X (.BoolOp .And (b :: es) pos) (tI X G W fb)) : PE X (.BoolOp .And (a :: b :: es) pos) (tI X G W (dAnd fa fb)) := i_and C.hK ha hb
theorem or_ (C : Ctx X G W k) (ha : PE X a (tI X G W fa)) (hb : PE X (.BoolOp .Or (b :: es) pos) (tI X G W fb)) : PE X (.BoolOp .Or (a :: b :: es) pos) (tI X G W (dOr fa fb)) := i_or C.hK ha hb
theorem not_ (C : Ctx X G W k) (ha : PE X a (tI X G W fa)) : PE X (.UnaryOp .Not a pos) (tI X G W (dNot fa)) := i_not C.hK ha
/-! arguments, displays -/
theorem an : PA X [] (tL X G W dNil) := i_nil
theorem ac (ha : PE X e (tI X G W fe)) (hr : PA X es (tL X G W fl)) (hs : starEach (e :: es) X.env = (false, eval e X.env) :: starEach es X.env := by rfl) : PA X (e :: es) (tL X G W (dCons fe fl)) := i_cons ha hr hs
/-! subscripts -/
theorem ix (C : Ctx X G W k) (ha : PE X a (tI X G W fa)) (hb : PE X b (tI X G W fb)) (hs : PlainIx b := by exact fun _ _ => rfl) : PE X (.Subscript a b pos) (tI X G W (dOp2 opIx fa fb)) := i_ix (ix_DD C.hK) ha hb hs
theorem sl (C : Ctx X G W k) {lo hi : Option Expr} {fo fh : Env → Mem → R (Option Int)} (he : PE X e (tI X G W fe)) (hl : PO X lo (tO X G W fo)) (hh : PO X hi (tO X G W fh)) : PE X (.Subscript e (.Slice lo hi none p2) pos) (tI X G W (dSl fe fo fh)) := i_slice C.hK he hl hh
theorem rev {kk : Nat} {q1 q2 q3 : Pos} (C : Ctx X G W k) (he : PE X e (tI X G W fe)) : PE X (.Subscript e (.Slice none none (some (.UnaryOp .USub (.Constant (.int 1) kk q1) q2)) q3) pos) (tI X G W (dOp1 opRev fe)) := i_rev C.hK he
/-! calls of built-ins -/
theorem cB {id : String} {f : OpN} (hc : CallR X (.builtin id) (rdn G f)) (hv : bootBuiltins x = some (.builtin id)) (hm : X.mg x = none) (ha : PA X (e :: es) (tL X G W fl)) (hg : Gl X x := by rfl) (hn : x ≠ "__name__" := by decide) (hdb : (x == ("__debug__" : Str)) = false := by decide)
    (he : starEach (e :: es) X.env = (false, eval e X.env) :: starEach es X.env := by rfl) (hpl : (backTo pos (starEach es X.env)).any (·.1) = false := by rfl) : PE X (.Call (.Name x p) (e :: es) [] pos) (tI X G W (dOpN f fl)) := i_cB hc hg hm hv ha hn hdb he hpl
theorem cT {T : String} {f : OpN} (hc : CallR X (.type T) (rdn G f)) (hv : bootBuiltins x = some (.type T)) (hm : X.mg x = none) (ha : PA X (e :: es) (tL X G W fl)) (hg : Gl X x := by rfl) (hn : x ≠ "__name__" := by decide) (hdb : (x == ("__debug__" : Str)) = false := by decide)
    (he : starEach (e :: es) X.env = (false, eval e X.env) :: starEach es X.env := by rfl) (hpl : (backTo pos (starEach es X.env)).any (·.1) = false := by rfl) : PE X (.Call (.Name x p) (e :: es) [] pos) (tI X G W (dOpN f fl)) := i_cT hc hg hm hv ha hn hdb he hpl
theorem c_repr' (C : Ctx X G W k) : CallR X (.builtin "repr") (rdn G nRepr) := c_repr C.hK C.rm.gd C.rm.u100
/-! calls of own functions -/
/-- a def at hand: its place, its facts -/
structure FnE (K : PySem.W.Frag) (mg : Str → Option Value) (x qual : Str) (st : Stmt) (f : Addr) (fd : FuncData) : Prop where
  fn : L2.Fun K x qual st f fd
  gl : mg x = some (.ref f)
theorem cal {fd : FuncData} {ps : List Str} {f : Fun} {j : Nat} {fa : Addr} (C : Ctx X G W k) (F : FnG X.calm X.prog X.w X.K X.mg X.base j fa fd ps (spI G ps.length f)) (hm : X.mg x = some (.ref fa)) (hk : PySem.W.keepIn X.K (.ref fa) = true) (hj : j ≤ k := by first | decide | omega) : Cal X G x fd ps f :=
  ⟨j, fa, F, C.rm.mono hj, hm, hk⟩
theorem call_ {fd : FuncData} {ps : List Str} {f : Fun} (C : Ctx X G W k) (F : Cal X G x fd ps f) (hb : ∀ us : List Value, us.length = ps.length → bindArgs fd ⟨us, []⟩ = pure (ps.zip us)) (ha : PA X (e :: es) (tL X G W fl)) (hn : ∀ ev M ds M1, fl ev M = .ok ds M1 → ds.length = ps.length)
    (hg : Gl X x := by rfl) (hdb : (x == ("__debug__" : Str)) = false := by decide)
    (he : starEach (e :: es) X.env = (false, eval e X.env) :: starEach es X.env := by rfl) (hpl : (backTo pos (starEach es X.env)).any (·.1) = false := by rfl) :
    PE X (.Call (.Name x p) (e :: es) [] pos) (tI X G W (dCal f fl)) := i_call C.tk hg F hb ha hdb hn he hpl
theorem kn : PK X [] (tL X G W dNil) := k_nil
theorem kc {kws : List Keyword} {nm : Option Str} {kpos : Pos} (ha : PE X e (tI X G W fe)) (hr : PK X kws (tL X G W fl)) : PK X (⟨nm, e, kpos⟩ :: kws) (tL X G W (dCons fe fl)) := k_cons ha hr
theorem callK {fd : FuncData} {ps : List Str} {f : Fun} {kws : List Keyword} {n : Nat} {ks : List Str} {S : List (Nat ⊕ D)} {fk : DenL} (C : Ctx X G W k) (F : Cal X G x fd ps f) (hb : CBind X.K fd ps n ks S) (ha : PA X (e :: es) (tL X G W fl)) (hkw : PK X kws (tL X G W fk))
    (hg : Gl X x := by rfl) (hdb : (x == ("__debug__" : Str)) = false := by decide) (hall : (backToKw pos (keywordEach kws X.env)).all (·.1.isSome) = true := by rfl) (hks : (backToKw pos (keywordEach kws X.env)).filterMap (·.1) = ks := by rfl)
    (he : starEach (e :: es) X.env = (false, eval e X.env) :: starEach es X.env := by rfl)
    (hpl : ((backTo pos (starEach (e :: es) X.env)).any (·.1) || (backToKw pos (keywordEach kws X.env)).any (·.1.isNone)) = false := by rfl) :
    PE X (.Call (.Name x p) (e :: es) kws pos) (tI X G W (dCalK f n ks.length S fl fk)) := i_callK C.tk hg F hb ha hkw hdb hall hks he hpl
theorem callK0 {fd : FuncData} {ps : List Str} {f : Fun} {kws : List Keyword} {ks : List Str} {S : List (Nat ⊕ D)} {fk : DenL} (C : Ctx X G W k) (F : Cal X G x fd ps f) (hb : CBind X.K fd ps 0 ks S) (hkw : PK X kws (tL X G W fk))
    (hg : Gl X x := by rfl) (hdb : (x == ("__debug__" : Str)) = false := by decide) (hall : (backToKw pos (keywordEach kws X.env)).all (·.1.isSome) = true := by rfl) (hks : (backToKw pos (keywordEach kws X.env)).filterMap (·.1) = ks := by rfl)
    (hpl : ((backTo pos (starEach [] X.env)).any (·.1) || (backToKw pos (keywordEach kws X.env)).any (·.1.isNone)) = false := by rfl) :
    PE X (.Call (.Name x p) [] kws pos) (tI X G W (dCalK f 0 ks.length S dNil fk)) := i_callK0 C.tk hg F hb hkw hdb hall hks hpl
/-! methods -/
theorem met {o : Expr} {fo : Den} {name : Str} {m : MetD} {apos : Pos} {pl : Sem Bool} (hm : MetR X G W name m) (ho : PE X o (tI X G W fo)) (ha : PA X (e :: es) (tL X G W fl))
    (he : starEach (e :: es) X.env = (false, eval e X.env) :: starEach es X.env := by rfl) (hpl : (backTo pos (starEach es X.env)).any (·.1) = false := by rfl)
    (ht : eval (.Call (.Attribute o name apos) (e :: es) [] pos) X.env = (do
      let ov ← eval o X.env
      standAt apos.atName
      let (f, first) ← holding [ov] (getMethod ov name pl)
      callWith pos f first (backTo pos (starEach (e :: es) X.env)) (backToKw pos (keywordEach [] X.env))) := by rfl) :
    PE X (.Call (.Attribute o name apos) (e :: es) [] pos) (tI X G W (dMet m fo fl)) := i_met hm ho ha he hpl ht
theorem met0 {o : Expr} {fo : Den} {name : Str} {m : MetD} {apos : Pos} {pl : Sem Bool} (hm : MetR X G W name m) (ho : PE X o (tI X G W fo))
    (ht : eval (.Call (.Attribute o name apos) [] [] pos) X.env = (do
      let ov ← eval o X.env
      standAt apos.atName
      let (f, first) ← holding [ov] (getMethod ov name pl)
      callWith pos f first (backTo pos (starEach [] X.env)) (backToKw pos (keywordEach [] X.env))) := by rfl) :
    PE X (.Call (.Attribute o name apos) [] [] pos) (tI X G W (dMet m fo dNil)) := i_met0 hm ho ht
theorem mAppend (C : Ctx X G W k) : MetR X G W "append" (mL nAppend) := met_L C.hK F.slot_list_append F.type_list_append m_append
theorem mPop (C : Ctx X G W k) : MetR X G W "pop" (mL nPop) := met_L C.hK F.slot_list_pop F.type_list_pop m_pop
theorem mCountT (C : Ctx X G W k) : MetR X G W "count" (mT nCountT) := met_T C.hK F.slot_tuple_count F.type_tuple_count (m_countT C.hK)
end
/-! statements -/
section
variable {X : Cx} {G : GC} {W : WX} {k : Nat} {e c tg iter : Expr} {a b ss : List Stmt} {st : Stmt} {fe : Den} {fs fb : DenS} {ft : DenT} {pos p : Pos} {x : Str}
theorem s0 : PSs X [] (tS X G W sSkip) := ss_nil
theorem s1 (h1 : PS X st (tS X G W fs)) : PSs X [st] (tS X G W fs) := ss_one h1
theorem sc (h1 : PS X st (tS X G W fs)) (h2 : PSs X a (tS X G W fb)) : PSs X (st :: a) (tS X G W (sSeq fs fb)) := ss_cons h1 h2
theorem drop (h : PE X e (tI X G W fe)) (hs : swapsWith e none pos.line X.env = pure false := by rfl) : PS X (.Expr e pos) (tS X G W (sDrop fe)) := s_drop h hs
theorem set_ (i : Nat) (hN : X.N.Nodup) (h : PE X e (tI X G W fe)) (hi : X.N[i]? = some x := by rfl) (hx : Loc X.env.scope x := by first | exact Or.inl rfl | exact Or.inr rfl) (hs : swapsWith e (some (.Name x p)) pos.line X.env = pure false := by rfl) (hf : X.fn x = true ∨ X.env.scope.names.lookup x = some .local := by first | exact Or.inl rfl | exact Or.inr rfl) :
    PS X (.Assign [.Name x p] e pos) (tS X G W (sSet i fe)) := s_set hN hi hx h hs hf
theorem while_ (n : Nat) (hp : PassesOwn (model X.prog X.w) X.A X.env X.xe) (hc : PT X c (tT X G W ft)) (hb : PSs X b (tS X G W fb)) : PS X (.While c b [] pos) (tS X G W (sWhile n ft fb)) := s_while hp hc hb
theorem gn (i : Nat) (hN : X.N.Nodup) (hi : X.N[i]? = some x := by rfl) (hx : Loc X.env.scope x := by first | exact Or.inl rfl | exact Or.inr rfl) (hf : X.fn x = true ∨ X.env.scope.names.lookup x = some .local := by first | exact Or.inl rfl | exact Or.inr rfl) : PG X (.Name x pos) (tgR X G false (gN i) [i]) := g_name hN hi hx hf
theorem for_ {pr : Bool} {fi : ItD} {g : TgD} {is : List Nat} (hp : PassesOwn (model X.prog X.w) X.A X.env X.xe) (hi : PI X tg iter (tW pr X G W fi)) (hg : PG X tg (tgR X G pr g is)) (hb : PSs X b (tS X G W fb)) (hc : X.calm = true := by rfl) (hs : ∀ x, foldedSetIterable iter X.env x = pure x := by intro _; rfl) :
    PS X (.For tg iter b [] pos) (tS X G W (sFor fi g fb)) := s_for hp hc hi hg hb hs
theorem setIx {o i : Expr} {fo fi : Den} (he : PE X e (tI X G W fe)) (ho : PE X o (tI X G W fo)) (hi : PE X i (tI X G W fi)) (hs : swapsWithSole [.Subscript o i p] e pos.line X.env = pure false := by rfl) (hw : swappedStores [.Subscript o i p] e X.env = pure none := by rfl)
    (h1 : (assignEach [.Subscript o i p] X.env).map (·.2) = [assign (.Subscript o i p) X.env] := by rfl)
    (ha : ∀ v, assign (.Subscript o i p) X.env v = (do
      let ov ← holding [v] (eval o X.env)
      let iv ← holding [v, ov] (eval i X.env)
      standAt p
      holding [v, ov, iv] (setItem ov iv v)
      release [v, ov, iv] []) := by intro _; rfl) : PS X (.Assign [.Subscript o i p] e pos) (tS X G W (sSetIx nSetIx fo fi fe)) := s_setIx set_ix he ho hi hs hw h1 ha
/-! iterables -/
theorem iAny {l : Expr} {fe : Den} (C : Ctx X G W k) (hl : PE X l (tI X G W fe)) : PI X tg l (tW false X G W (itAny fe)) := w_any C.hK hl
theorem iR1 {a : Expr} {fl : DenL} (hm : X.mg "range" = none) (ha : PA X [a] (tL X G W fl)) (h1 : ∀ ev M ds M1, fl ev M = .ok ds M1 → ds.length = 1) (hg : Gl X "range" := by rfl) (hs : starEach [a] X.env = [(false, eval a X.env)] := by rfl) :
    PI X tg (.Call (.Name "range" p) [a] [] pos) (tW false X G W (itRange fl)) := w_range1 hg hm ha hs h1
theorem iR2 {a b : Expr} {fl : DenL} (hm : X.mg "range" = none) (ha : PA X [a, b] (tL X G W fl)) (h1 : ∀ ev M ds M1, fl ev M = .ok ds M1 → ds.length = 2) (hg : Gl X "range" := by rfl) (hs : starEach [a, b] X.env = [(false, eval a X.env), (false, eval b X.env)] := by rfl) (hs2 : starEach [b] X.env = [(false, eval b X.env)] := by rfl) :
    PI X tg (.Call (.Name "range" p) [a, b] [] pos) (tW false X G W (itRange fl)) := w_range2 hg hm ha hs hs2 h1
/-! comprehensions -/
theorem cmpr {elt : Expr} {scope : Scope} {fi : ItD} {g : TgD} {is : List Nat} {pr : Bool} {f : Den} (C : Ctx X G W k) (N' : List Str) (sc' : Scope) (own : List (Str × Nat)) (hN : X.N.Nodup) (hi : PI X tg iter (tW pr X G W fi))
    (hg : ∀ (s : Shared) (H : Hp) (C : Addr) (cl : List (Str × Addr)) (fp : List Addr), PG (X.blk s H scope (compEnvC scope cl C X.env) fp) tg (tgR (X.blk s H scope (compEnvC scope cl C X.env) fp) G pr g is))
    (he : ∀ (s : Shared) (H : Hp) (C : Addr) (cl : List (Str × Addr)) (fp : List Addr), Ctx (X.blk s H scope (compEnvC scope cl C X.env) fp) G noW k → PE (X.blk s H scope (compEnvC scope cl C X.env) fp) elt (tI (X.blk s H scope (compEnvC scope cl C X.env) fp) G noW f))
    (ok : blkC N' sc' scope own = true := by decide +kernel) (hN' : X.N = N' := by rfl) (hsc' : X.env.scope = sc' := by rfl) (hgs : ∀ i ∈ is, i ∈ own.map (·.2) := by decide) (hc : X.calm = true := by rfl) (hs : ∀ x, foldedSetIterable iter X.env x = pure x := by intro _; rfl) :
    PE X (.ListComp elt [⟨tg, iter, [], 0⟩] scope pos) (tI X G W (dComp fi g tYesD f (own.map (·.2)))) := i_comp hc hN hi (blkOk_by (hN'.symm ▸ hsc'.symm ▸ ok)) hgs hg (fun s H A cl fp => he s H A cl fp (C.blk ..)) hs
theorem cmprIf {elt cnd : Expr} {scope : Scope} {fi : ItD} {g : TgD} {is : List Nat} {pr : Bool} {f : Den} {t : DenT} (C : Ctx X G W k) (N' : List Str) (sc' : Scope) (own : List (Str × Nat)) (hN : X.N.Nodup) (hi : PI X tg iter (tW pr X G W fi))
    (hg : ∀ (s : Shared) (H : Hp) (C : Addr) (cl : List (Str × Addr)) (fp : List Addr), PG (X.blk s H scope (compEnvC scope cl C X.env) fp) tg (tgR (X.blk s H scope (compEnvC scope cl C X.env) fp) G pr g is))
    (ht : ∀ (s : Shared) (H : Hp) (C : Addr) (cl : List (Str × Addr)) (fp : List Addr), Ctx (X.blk s H scope (compEnvC scope cl C X.env) fp) G noW k → PT (X.blk s H scope (compEnvC scope cl C X.env) fp) cnd (tT (X.blk s H scope (compEnvC scope cl C X.env) fp) G noW t))
    (he : ∀ (s : Shared) (H : Hp) (C : Addr) (cl : List (Str × Addr)) (fp : List Addr), Ctx (X.blk s H scope (compEnvC scope cl C X.env) fp) G noW k → PE (X.blk s H scope (compEnvC scope cl C X.env) fp) elt (tI (X.blk s H scope (compEnvC scope cl C X.env) fp) G noW f))
    (ok : blkC N' sc' scope own = true := by decide +kernel) (hN' : X.N = N' := by rfl) (hsc' : X.env.scope = sc' := by rfl) (hgs : ∀ i ∈ is, i ∈ own.map (·.2) := by decide) (hc : X.calm = true := by rfl) (hs : ∀ x, foldedSetIterable iter X.env x = pure x := by intro _; rfl) :
    PE X (.ListComp elt [⟨tg, iter, [cnd], 0⟩] scope pos) (tI X G W (dComp fi g t f (own.map (·.2)))) := i_compIf hc hN hi (blkOk_by (hN'.symm ▸ hsc'.symm ▸ ok)) hgs hg (fun s H A cl fp => ht s H A cl fp (C.blk ..)) (fun s H A cl fp => he s H A cl fp (C.blk ..)) hs
theorem setC {y : Str} {py spos : Pos} {elt : Expr} {scope : Scope} {fi : ItD} {g : TgD} {is : List Nat} {pr : Bool} {f : Den} (C : Ctx X G W k) (i : Nat) (N' : List Str) (sc' : Scope) (own : List (Str × Nat)) (hN : X.N.Nodup) (hi : PI X tg iter (tW pr X G W fi))
    (hg : ∀ (s : Shared) (H : Hp) (C : Addr) (cl : List (Str × Addr)) (fp : List Addr), PG (X.blk s H scope (compEnvC scope cl C X.env) fp) tg (tgR (X.blk s H scope (compEnvC scope cl C X.env) fp) G pr g is))
    (he : ∀ (s : Shared) (H : Hp) (C : Addr) (cl : List (Str × Addr)) (fp : List Addr), Ctx (X.blk s H scope (compEnvC scope cl C X.env) fp) G noW k → PE (X.blk s H scope (compEnvC scope cl C X.env) fp) elt (tI (X.blk s H scope (compEnvC scope cl C X.env) fp) G noW f))
    (hy : X.N[i]? = some y := by rfl) (hyl : X.env.scope.names.lookup y = some .local := by rfl) (hk : X.env.scope.kind = .function := by rfl) (hl : (py.line == pos.line) = true := by rfl) (hna : (scope.names.any fun (n, k) => n == y && (k == .local || k == .cell)) = false := by rfl)
    (ok : blkC N' sc' scope own = true := by decide +kernel) (hN' : X.N = N' := by rfl) (hsc' : X.env.scope = sc' := by rfl) (hgs : ∀ i ∈ is, i ∈ own.map (·.2) := by decide) (hc : X.calm = true := by rfl) (hs : ∀ x, foldedSetIterable iter X.env x = pure x := by intro _; rfl) :
    PS X (.Assign [.Name y py] (.ListComp elt [⟨tg, iter, [], 0⟩] scope pos) spos) (tS X G W (sSet i (dComp fi g tYesD f (own.map (·.2))))) := s_setComp hc hN hy hyl (sw_true hk hyl hl hna) hi (blkOk_by (hN'.symm ▸ hsc'.symm ▸ ok)) hgs hg (fun s H A cl fp => he s H A cl fp (C.blk ..)) hs
theorem setCIf {y : Str} {py spos : Pos} {elt cnd : Expr} {scope : Scope} {fi : ItD} {g : TgD} {is : List Nat} {pr : Bool} {f : Den} {t : DenT} (C : Ctx X G W k) (i : Nat) (N' : List Str) (sc' : Scope) (own : List (Str × Nat)) (hN : X.N.Nodup) (hi : PI X tg iter (tW pr X G W fi))
    (hg : ∀ (s : Shared) (H : Hp) (C : Addr) (cl : List (Str × Addr)) (fp : List Addr), PG (X.blk s H scope (compEnvC scope cl C X.env) fp) tg (tgR (X.blk s H scope (compEnvC scope cl C X.env) fp) G pr g is))
    (ht : ∀ (s : Shared) (H : Hp) (C : Addr) (cl : List (Str × Addr)) (fp : List Addr), Ctx (X.blk s H scope (compEnvC scope cl C X.env) fp) G noW k → PT (X.blk s H scope (compEnvC scope cl C X.env) fp) cnd (tT (X.blk s H scope (compEnvC scope cl C X.env) fp) G noW t))
    (he : ∀ (s : Shared) (H : Hp) (C : Addr) (cl : List (Str × Addr)) (fp : List Addr), Ctx (X.blk s H scope (compEnvC scope cl C X.env) fp) G noW k → PE (X.blk s H scope (compEnvC scope cl C X.env) fp) elt (tI (X.blk s H scope (compEnvC scope cl C X.env) fp) G noW f))
    (hy : X.N[i]? = some y := by rfl) (hyl : X.env.scope.names.lookup y = some .local := by rfl) (hk : X.env.scope.kind = .function := by rfl) (hl : (py.line == pos.line) = true := by rfl) (hna : (scope.names.any fun (n, k) => n == y && (k == .local || k == .cell)) = false := by rfl)
    (ok : blkC N' sc' scope own = true := by decide +kernel) (hN' : X.N = N' := by rfl) (hsc' : X.env.scope = sc' := by rfl) (hgs : ∀ i ∈ is, i ∈ own.map (·.2) := by decide) (hc : X.calm = true := by rfl) (hs : ∀ x, foldedSetIterable iter X.env x = pure x := by intro _; rfl) :
    PS X (.Assign [.Name y py] (.ListComp elt [⟨tg, iter, [cnd], 0⟩] scope pos) spos) (tS X G W (sSet i (dComp fi g t f (own.map (·.2))))) := s_setCompIf hc hN hy hyl (sw_true hk hyl hl hna) hi (blkOk_by (hN'.symm ▸ hsc'.symm ▸ ok)) hgs hg (fun s H A cl fp => ht s H A cl fp (C.blk ..)) (fun s H A cl fp => he s H A cl fp (C.blk ..)) hs
/-! exceptions -/
/-- an own exception class whose __init__ is walked -/
structure ExE (P : Program) (w : World) (K : PySem.W.Frag) (mg : Str → Option Value) (x : Str) (C : Addr) (N : List Str) (l : List (Str × Nat)) : Prop where
  gl : mg x = some (.ref C)
  cls : OexC K C
  ini : ∃ (fI : Addr) (fd : FuncData), PySem.W.findIn K (.ref C) "__init__" = some (some (.ref fI)) ∧ PySem.W.typeIn K (.ref fI) = some (.type "function") ∧ (∀ us : List Value, us.length = N.length → bindArgs fd ⟨us, []⟩ = pure (N.zip us)) ∧
    ∀ base : Heap, FnOk P w K mg base (L2.CX P w) 1 fI fd N (fun vs H Q E => vs.length = N.length ∧ spN K C (N.length - 1) l vs H Q E)
  is_ : ExcIs' K C
theorem raise_ {x : Str} {C : Addr} {N : List Str} {l : List (Str × Nat)} {es : List Expr} {fl : DenL} {pos2 : Pos} (Cx : Ctx X G W k) (E : ExE X.prog X.w X.K X.mg x C N l) (ha : PA X (e :: es) (tL X G W fl)) (c : Str) (hC : G.ca c = C := by rfl) (hk : 2 ≤ k := by first | decide | omega)
    (hN : N.length - 1 + 1 = N.length := by rfl) (hi : ∀ q ∈ l, q.2 < N.length - 1 := by decide) (hN9 : N.length ≤ 1000 := by decide) (hc : X.calm = true := by rfl) (hg : Gl X x := by rfl) (hdb : (x == ("__debug__" : Str)) = false := by decide)
    (he : starEach (e :: es) X.env = (false, eval e X.env) :: starEach es X.env := by rfl) (hpl : (backTo pos (starEach es X.env)).any (·.1) = false := by rfl) :
    PS X (.Raise (some (.Call (.Name x p) (e :: es) [] pos)) none pos2) (tS X G W (sRaise c (N.length - 1) l fl)) := by
  obtain ⟨fI, fd, iC, tI', hb, F⟩ := E.ini
  exact s_raise hc Cx.tk hC E.cls iC tI' (F X.base) (Cx.rm.mono hk) hN hi hN9 hb hg E.gl ha hdb he hpl
theorem tryAs {x n : Str} {cv : Value} {body suite : List Stmt} {b₀ : Stmt} {np pos' : Pos} {fb fs : DenS} (C : Ctx X G W k) (i : Nat) (cm : Str → Option Bool) (hN : X.N.Nodup) (hm : X.mg x = some cv)
    (hcm : ∀ c b, cm c = some b → PySem.W.exmOne X.K (.ref (G.ca c)) cv = some b)
    (hb : ∀ (W' : WX) (pn : List (Addr × Obj)) (xe : Value → Shared → Prop), Ctx (X.tr pn xe) G W' k → PassesOwn (model X.prog X.w) X.A X.env xe → PSs (X.tr pn xe) body (tS (X.tr pn xe) G W' fb))
    (hsu : ∀ (a : Addr) (oe : Obj) (pn : List (Addr × Obj)), Ctx (X.suite a ((a, oe) :: pn)) G noW k → PSs (X.suite a ((a, oe) :: pn)) (b₀ :: suite) (tS (X.suite a ((a, oe) :: pn)) G noW fs))
    (hs : X.stack = X.env :: X.outer := by rfl) (hf : X.env.frame = some X.env.locals := by rfl) (hi : X.N[i]? = some n := by rfl) (hln : X.env.kindOf n = some .local := by rfl) (hg : Gl X x := by rfl) (hd : (x == ("__debug__" : Str)) = false := by decide) :
    PS X (.Try body [.ExceptHandler (some (.Name x np)) (some n) (b₀ :: suite) pos'] [] [] pos) (tS X G W (sTryAs i cm fb fs)) :=
  s_tryAs hs hf hN hi hln ⟨hg, hd, .inl hm⟩ C.tk hcm (fun W' pn xe t po => hb W' pn xe (C.tr t) po) (fun a oe pn => hsu a oe pn (C.su a _))
theorem isE {ce : Expr} {cV : V} {u : Value} {p1 : Pos} (i : Nat) (own : List (Str × Bool)) (hm : X.mg "isinstance" = none) (hce : PE X ce (tC cV)) (hc : ClsV cV u)
    (hO : ∀ c b, own.lookup c = some b → ExcIs' X.K (G.ca c) ∧ PySem.W.kitOne X.K (.ref (G.ca c)) u = some b) (hg : Gl X "isinstance" := by rfl) (hN : X.N[i]? = some x := by rfl) (hv : Vis X.env.scope x := by first | exact Or.inl rfl | exact Or.inr (Or.inl rfl) | exact Or.inr (Or.inr rfl)) (h1 : (x == ("__debug__" : Str)) = false := by decide) (h2 : (x == ("__classdict__" : Str)) = false := by decide)
    (hs : starEach [.Name x p1, ce] X.env = (false, eval (.Name x p1) X.env) :: starEach [ce] X.env := by rfl) (hs2 : starEach [ce] X.env = (false, eval ce X.env) :: starEach [] X.env := by rfl) (hpl : (backTo pos (starEach [ce] X.env)).any (·.1) = false := by rfl) :
    PE X (.Call (.Name "isinstance" p) [.Name x p1, ce] [] pos) (tI X G W (dIsE i own)) := i_isE hg hm hN hv h1 h2 hce hc hO hs hs2 hpl
theorem xf {p1 : Pos} {f : Str} (i : Nat) (cs : List Str) (hO : ∀ c, c ∈ cs → ExcIs' X.K (G.ca c) ∧ PySem.W.findIn X.K (.ref (G.ca c)) f = some none) (hN : X.N[i]? = some x := by rfl) (hv : Vis X.env.scope x := by first | exact Or.inl rfl | exact Or.inr (Or.inl rfl) | exact Or.inr (Or.inr rfl)) (h1 : (x == ("__debug__" : Str)) = false := by decide) (h2 : (x == ("__classdict__" : Str)) = false := by decide)
    (hb : attributeBase (.Name x p1) f X.env (eval (.Name x p1) X.env) = eval (.Name x p1) X.env := by rfl) : PE X (.Attribute (.Name x p1) f pos) (tI X G W (dXf i cs f)) := i_xf hN hv h1 h2 hO hb
theorem clsO {C : Addr} (hm : X.mg x = some (.ref C)) (hg : Gl X x := by rfl) (hd : (x == ("__debug__" : Str)) = false := by decide) : PE X (.Name x pos) (tC (.ref C)) := pe_clsO hg hm hd
theorem clsT {T : String} (hv : bootBuiltins x = some (.type T)) (hm : X.mg x = none) (hg : Gl X x := by rfl) (hn : x ≠ "__name__" := by decide) (hd : (x == ("__debug__" : Str)) = false := by decide) : PE X (.Name x pos) (tC (.ty T)) := pe_clsT hg hm hv hn hd
end
/-! a def of the text by its denotation -/
theorem fnE_den {calm : Bool} {P : Program} {w : World} {K : PySem.W.Frag} {mg : Str → Option Value} {base : Heap} {N ps : List Str} {x qual : Str} {st : Stmt} {f : Addr} {fd : FuncData} {k : Nat} {G : GC} {b : DenS} (E : FnE K mg x qual st f fd) (hK : G.K = K) (S : FnScope N ps (defScope st))
    (hbody : ∀ (cdv : Value) (A : Around) (outer : List PySem.Env) (s : Shared) (H : Hp) (E : XK), Ctx (cxG calm P w K mg base N qual (defScope st) f cdv A outer s H E) G (fun c d _ H => E c d H) k →
      PassesOwn (model P w) (A.deeper (envOfC qual (defScope st) s.heap.objs.size f cdv)) (envOfC qual (defScope st) s.heap.objs.size f cdv) (cxG calm P w K mg base N qual (defScope st) f cdv A outer s H E).xe →
      PSs (cxG calm P w K mg base N qual (defScope st) f cdv A outer s H E) (defBody st) (tS (cxG calm P w K mg base N qual (defScope st) f cdv A outer s H E) G (fun c d _ H => E c d H) b)) :
    FnG calm P w K mg base (k + 1) f fd ps (spI G ps.length (runB N.length b)) := by
  obtain ⟨⟨oc, od, kV, doc, pm, an, cdv, ct, osl, rfl, lk, hcd⟩, _⟩ := E.fn
  exact fn_den lk hcd S fun A outer s H E hr => hbody cdv A outer s H E ⟨hK, takesG, hr⟩ passesG
theorem look_cons {α : Type} {c k : Str} {x b : α} {r : List (Str × α)} (h : List.lookup c ((k, x) :: r) = some b) : (c = k ∧ x = b) ∨ List.lookup c r = some b := by
  by_cases e : c = k
  · subst e
    simp [List.lookup] at h
    exact .inl ⟨rfl, h⟩
  · have e' : (c == k) = false := by simpa using e
    simp only [List.lookup, e'] at h
    exact .inr h
end MI

set_option Elab.async false
set_option linter.all false
set_option maxRecDepth 100000
set_option maxHeartbeats 2000000
namespace MI
open PySem PySem.Spec PyProof.Rows L2
/-! the facts of the module, put together -/
theorem fnE_mk {K : PySem.W.Frag} {h : Heap} {mg : Str → Option Value} {x qual : Str} {st : Stmt} {f : Addr} {oc : Value} {od an : Option Addr} {osl : Array (Option Value)} {kV doc pm cdv ct : Value} (X : K.In h) (Gr : h.Ns mainGlobals mg)
    (a : PySem.W.nsIn K mainGlobals x = some (some (.ref f))) (l : K.lookup f = some ⟨oc, od, .func (PySem.W.fnOf x qual (defArgs st) (defBody st) (defScope st) .none kV doc pm an cdv ct), osl⟩)
    (c : PySem.W.codeIn K cdv qual = true) (k : PySem.W.keepIn K (.ref f) = true) : FnE K mg x qual st f (PySem.W.fnOf x qual (defArgs st) (defBody st) (defScope st) .none kV doc pm an cdv ct) :=
  ⟨⟨⟨oc, od, kV, doc, pm, an, cdv, ct, osl, rfl, l, c⟩, k⟩, PySem.W.mg_of X Gr a⟩
/-- the deciders of an own exception class -/
structure ExFacts (K : PySem.W.Frag) (C : Addr) : Prop where
  sa : PySem.W.findIn K (.ref C) "__setattr__" = some (some (.builtin "object.__setattr__"))
  kC : PySem.W.keepIn K (.ref C) = true
  tyC : PySem.W.typeIn K (.ref C) = some (.type "type")
  ex : ExcIs' K C
  hB : PySem.W.subIn K (.ref C) (.type "ValueError") = some true
theorem oexC_mk {K : PySem.W.Frag} {C N : Addr} {nm q : Str} {bs bm : List Value} {sn : List Str} {sub : List Value} {ab : Bool} {col : Option Bool} {dd : Option Addr} {k0 k1 k2 k3 k5 : Option Value} (F : ExFacts K C)
    (l : K.lookup C = some (excClassObj nm q C N bs bm true sn sub ab col dd k0 k1 k2 k3 k5 "ValueError.__new__")) (hbm : PySem.HandSPX.refsVE bm = true) : OexC K C :=
  ⟨⟨nm, q, N, bs, bm, sn, sub, ab, col, dd, k0, k1, k2, k3, k5, l, hbm⟩, F.sa, F.ex.hsub, F.tyC, F.kC⟩
open PySem.W PySem.Calls in
theorem exE_mk {P : Program} {w : World} {K : PySem.W.Frag} {mg : Str → Option Value} {N : List Str} {x qual self text file : Str} {scope : Scope} {f cc C D cda : Addr} {l : List (Str × Nat)} {st : List Stmt} {params : Arguments} {dV kV doc pm ct oc : Value} {an od : Option Addr} {osl : Array (Option Value)}
    {p0 p1 p2 p3 p4 p5 : Pos} {kk : Nat} {ar : Arg} {tf : Tok} {vs0 : Array Value} {ocl ccl : Value} {ocd ccd : Option Addr} {csl ccs : Array (Option Value)} {cdD : ClassData} {h : Heap} (X : K.In h) (Gr : h.Ns mainGlobals mg)
    (aC : nsIn K mainGlobals x = some (some (.ref C))) (F : ExFacts K C) (T : OexC K C) (iC : PySem.W.findIn K (.ref C) "__init__" = some (some (.ref f))) (tI' : PySem.W.typeIn K (.ref f) = some (.type "function"))
    (lk : K.lookup f = some ⟨oc, od, .func (PySem.W.ksFn "__init__" qual params (.Expr (.Call (.Attribute (.Call (.Name "super" p0) [] [] p1) "__init__" p2) [.Constant (.str text) kk p3] [] p4) p5 :: st) scope dV kV doc pm an (.ref cda) ct cc), osl⟩)
    (hcdi : PySem.W.codeIn K (.ref cda) qual = true)
    (hcode : K.lookup cda = some ⟨ccl, ccd, .fields vs0, ccs⟩) (hcc : K.lookup cc = some ⟨ocl, ocd, .cell (some (.ref D)), csl⟩) (hD : clsIn K D = some cdD) (hsub : mroIn K C (.ref D) = some true) (hsuper : nsIn K mainGlobals "super" = some none)
    (hno : nsIn K cStatics "thirdparty.any" = some none) (hmeth : ks_superIn K C D "__init__" = some (some (.builtin "ValueError.__init__")))
    (hnoA : ∀ q ∈ l, PySem.W.findIn K (.ref C) q.1 = some none)
    (hvs : vs0[2]? = some (.str file tf)) (hfile : ((P.main.file : Str) == file) = true) (htop : (P.main.scope.names.lookup ("super" : Str)).isSome = false)
    (S : InScope N scope) (hN : N[0]? = some self) (hp : (params.posonlyargs ++ params.args).head? = some ar) (har : ar.arg = self)
    (hst : ∀ L, FSt N self (PySem.W.ksEnv qual scope L f (.ref cda) cc) st l) (hne : l ≠ []) (hi : ∀ q ∈ l, q.2 + 1 < N.length) (hll : l.length ≤ 900)
    (h1 : (self == ("__debug__" : Str)) = false) (h2' : (self == ("__classdict__" : Str)) = false) (hsw : ∀ env : PySem.Env, swapsWith (.Call (.Attribute (.Call (.Name "super" p0) [] [] p1) "__init__" p2) [.Constant (.str text) kk p3] [] p4) none p5.line env = pure false)
    {pl : Addr → Sem Bool} (hcall : ∀ L, eval (.Call (.Attribute (.Call (.Name "super" p0) [] [] p1) "__init__" p2) [.Constant (.str text) kk p3] [] p4) (PySem.W.ksEnv qual scope L f (.ref cda) cc) = (do
      let ov ← attributeBase (.Call (.Name "super" p0) [] [] p1) "__init__" (PySem.W.ksEnv qual scope L f (.ref cda) cc) (eval (.Call (.Name "super" p0) [] [] p1) (PySem.W.ksEnv qual scope L f (.ref cda) cc))
      standAt p2.atName
      let (f', first) ← holding [ov] (getMethod ov "__init__" (pl L))
      callWith p4 f' first (backTo p4 (starEach [.Constant (.str text) kk p3] (PySem.W.ksEnv qual scope L f (.ref cda) cc))) []))
    (hb : ∀ us : List Value, us.length = N.length → bindArgs (PySem.W.ksFn "__init__" qual params (.Expr (.Call (.Attribute (.Call (.Name "super" p0) [] [] p1) "__init__" p2) [.Constant (.str text) kk p3] [] p4) p5 :: st) scope dV kV doc pm an (.ref cda) ct cc) ⟨us, []⟩ = pure (N.zip us)) :
    ExE P w K mg x C N l :=
  ⟨mg_of X Gr aC, T, ⟨f, _, iC, tI', hb, fun base => init_fn (k := 0) lk hcdi S hN hp har hcode hvs hfile htop hcc hD hsub (mg_none_of X Gr hsuper) hno hmeth F.hB T hst hne hnoA hi hll h1 h2' hsw hcall⟩, F.ex⟩
theorem all_nil {p : Str × Nat → Prop} : ∀ q ∈ ([] : List (Str × Nat)), p q := fun q hq => by cases hq
theorem all_cons {p : Str × Nat → Prop} {a : Str × Nat} {l : List (Str × Nat)} (h : p a) (t : ∀ q ∈ l, p q) : ∀ q ∈ a :: l, p q := fun q hq => (List.mem_cons.mp hq).elim (fun e => e ▸ h) (t q)
theorem L2free {names : List (Str × NameKind)} (h : (names.all fun y => decide (y.2 = .free → y.1 = "__class__")) = true) : ∀ x, names.lookup x = some .free → x = "__class__" := fun x e => by
  have m := PySem.mem_of_lookup e
  have q := List.all_eq_true.mp h _ m
  exact of_decide_eq_true q rfl
end MI

set_option Elab.async false
set_option linter.all false
set_option maxRecDepth 100000
set_option maxHeartbeats 2000000
namespace MI
open PySem L2
/-! the plain side: what the denotations compute -/
def iL (xs : List Int) : List D := xs.map .int
theorem iL_length (xs : List Int) : (iL xs).length = xs.length := by simp [iL]
theorem iL_append (xs ys : List Int) : iL xs ++ iL ys = iL (xs ++ ys) := by simp [iL]
theorem iL_get (xs : List Int) (i : Nat) : (iL xs)[i]? = (xs[i]?).map .int := by simp [iL]
/-- the cells but n are kept -/
structure Keep (n : Nat) (M M' : Mem) : Prop where
  le : M.length ≤ M'.length
  at_ : ∀ j, j < M.length → j ≠ n → M'[j]? = M[j]?
theorem Keep.refl {n : Nat} {M : Mem} : Keep n M M := ⟨Nat.le_refl _, fun _ _ _ => rfl⟩
theorem Keep.trans {n : Nat} {M M1 M2 : Mem} (a : Keep n M M1) (b : Keep n M1 M2) : Keep n M M2 :=
  ⟨Nat.le_trans a.le b.le, fun j h1 h2 => (b.at_ j (Nat.lt_of_lt_of_le h1 a.le) h2).trans (a.at_ j h1 h2)⟩
theorem Keep.push {n : Nat} {M : Mem} {c : Cell} : Keep n M (M ++ [c]) := ⟨by simp, fun j h _ => List.getElem?_append_left h⟩
theorem Keep.set {n : Nat} {M : Mem} {c : Cell} : Keep n M (M.set n c) := ⟨by simp, fun j h hn => by rw [List.getElem?_set_ne (Ne.symm hn)]⟩
/-- the pool of a law: a list of numbers, none below 0 -/
def PoolAt (n : Nat) (M : Mem) : Prop := ∃ ps : List Int, ps ≠ [] ∧ (∀ p ∈ ps, 0 ≤ p) ∧ M[n]? = some (.lst (iL ps))
theorem PoolAt.keep {n m : Nat} {M M' : Mem} (p : PoolAt n M) (k : Keep m M M') (h : n ≠ m) : PoolAt n M' := by
  obtain ⟨ps, h1, h2, h3⟩ := p
  exact ⟨ps, h1, h2, (k.at_ n (lt_of_get h3) h).trans h3⟩
theorem PoolAt.push {n : Nat} {M : Mem} (p : PoolAt n M) (c : Cell) : PoolAt n (M ++ [c]) := by
  obtain ⟨ps, h1, h2, h3⟩ := p
  exact ⟨ps, h1, h2, by rw [List.getElem?_append_left (lt_of_get h3)]; exact h3⟩
theorem PoolAt.lt {n : Nat} {M : Mem} (p : PoolAt n M) : n < M.length := by
  obtain ⟨ps, h1, h2, h3⟩ := p
  exact lt_of_get h3
/-! loops -/
theorem forL_ok {g : TgD} {b : DenS} {chk : Mem → Bool} (P : List D → Env → Mem → Prop) (hc : ∀ xs ev M, P xs ev M → chk M = true)
    (hs : ∀ x xs ev M, P (x :: xs) ev M → ∃ ev1 ev2 M2, g x ev = some ev1 ∧ (b ev1 M = .nx ev2 M2 ∨ b ev1 M = .ct ev2 M2) ∧ P xs ev2 M2) :
    ∀ xs ev M, P xs ev M → ∃ ev' M', forL g b chk xs ev M = .nx ev' M' ∧ P [] ev' M'
  | [], ev, M, p => ⟨ev, M, by simp only [forL, hc _ _ _ p, if_true], p⟩
  | x :: xs, ev, M, p => by
    obtain ⟨ev1, ev2, M2, h1, h2, h3⟩ := hs x xs ev M p
    obtain ⟨ev', M', h4, h5⟩ := forL_ok P hc hs xs ev2 M2 h3
    refine ⟨ev', M', ?_, h5⟩
    simp only [forL, hc _ _ _ p, if_true, h1]
    rcases h2 with h2 | h2 <;> simp only [h2, h4]
/-- with a return out of the loop -/
theorem forL_rt {g : TgD} {b : DenS} {chk : Mem → Bool} (P : List D → Env → Mem → Prop) (Q : D → Mem → Prop) (hc : ∀ xs ev M, P xs ev M → chk M = true)
    (hs : ∀ x xs ev M, P (x :: xs) ev M → ∃ ev1, g x ev = some ev1 ∧ ((∃ ev2 M2, (b ev1 M = .nx ev2 M2 ∨ b ev1 M = .ct ev2 M2) ∧ P xs ev2 M2) ∨ ∃ d M2, b ev1 M = .rt d M2 ∧ Q d M2)) :
    ∀ xs ev M, P xs ev M → (∃ ev' M', forL g b chk xs ev M = .nx ev' M' ∧ P [] ev' M') ∨ ∃ d M', forL g b chk xs ev M = .rt d M' ∧ Q d M'
  | [], ev, M, p => .inl ⟨ev, M, by simp only [forL, hc _ _ _ p, if_true], p⟩
  | x :: xs, ev, M, p => by
    obtain ⟨ev1, h1, h2⟩ := hs x xs ev M p
    rcases h2 with ⟨ev2, M2, h2, h3⟩ | ⟨d, M2, h2, h3⟩
    · rcases forL_rt P Q hc hs xs ev2 M2 h3 with ⟨ev', M', h4, h5⟩ | ⟨d, M', h4, h5⟩
      · refine .inl ⟨ev', M', ?_, h5⟩
        simp only [forL, hc _ _ _ p, if_true, h1]
        rcases h2 with h2 | h2 <;> simp only [h2, h4]
      · refine .inr ⟨d, M', ?_, h5⟩
        simp only [forL, hc _ _ _ p, if_true, h1]
        rcases h2 with h2 | h2 <;> simp only [h2, h4]
    · refine .inr ⟨d, M2, ?_, h3⟩
      simp only [forL, hc _ _ _ p, if_true, h1, h2]
/-- a comprehension: acc is what stands in the new list -/
theorem compL_ok {g : TgD} {t : DenT} {f : Den} {chk : Mem → Bool} {n : Nat} {ev : Env} (P : List D → List D → Mem → Prop) (hc : ∀ xs acc M, P xs acc M → chk M = true ∧ M[n]? = some (.lst acc) ∧ acc.length + xs.length ≤ lim)
    (hs : ∀ x xs acc M, P (x :: xs) acc M → ∃ ev1 b M1, g x ev = some ev1 ∧ t (ev1.map dropE) M = .ok b M1 ∧
      (b = false → P xs acc M1) ∧ (b = true → ∃ d M2, f (ev1.map dropE) M1 = .ok d M2 ∧ M2[n]? = some (.lst acc) ∧ P xs (acc ++ [d]) (M2.set n (.lst (acc ++ [d]))))) :
    ∀ xs acc M, P xs acc M → ∃ acc' M', compL g t f chk n ev xs M = some M' ∧ P [] acc' M'
  | [], acc, M, p => ⟨acc, M, by simp only [compL, (hc _ _ _ p).1, if_true], p⟩
  | x :: xs, acc, M, p => by
    obtain ⟨ev1, b, M1, h1, h2, h3, h4⟩ := hs x xs acc M p
    obtain ⟨c1, c2, c3⟩ := hc _ _ _ p
    simp only [compL, c1, if_true, h1, h2, tsD]
    cases b with
    | false =>
      simp only [Bool.false_eq_true, if_false]
      exact compL_ok P hc hs xs acc M1 (h3 rfl)
    | true =>
      obtain ⟨d, M2, h5, h6, h7⟩ := h4 rfl
      have hl : acc.length < lim := by simp only [List.length_cons] at c3; omega
      simp only [if_true, h5, elD, accD, h6, hl]
      exact compL_ok P hc hs xs (acc ++ [d]) _ h7
theorem atI_0 {α : Type} {x : α} {xs : List α} : atI (x :: xs) 0 = some x := by
  rw [show (0 : Int) = ((0 : Nat) : Int) from rfl]
  exact atI_nat rfl
section
variable {α β : Type} {a : α} {b : β} {M : Mem} {ev ev1 : Env} {d : D} {c : Str} {fs : List (Str × D)}
theorem bnd {k : α → Mem → R β} : (R.ok a M).bind k = k a M := rfl
theorem bndE {k : α → Mem → R β} : (R.ex c fs M : R α).bind k = .ex c fs M := rfl
theorem bndO {k : α → Mem → O} : (R.ok a M).bindO ev k = k a M := rfl
theorem bndOE {k : α → Mem → O} : (R.ex c fs M : R α).bindO ev k = .ex c fs ev M := rfl
theorem onx {k : Env → Mem → O} : (O.nx ev M).bind k = k ev M := rfl
theorem ort {k : Env → Mem → O} : (O.rt d M).bind k = .rt d M := rfl
theorem oex {k : Env → Mem → O} : (O.ex c fs ev M).bind k = .ex c fs ev M := rfl
theorem retN : (O.nx ev M).ret = .ok .non M := rfl
theorem retR : (O.rt d M).ret = .ok d M := rfl
theorem retE : (O.ex c fs ev M).ret = .ex c fs M := rfl
theorem ofS : R.of (some (a, M)) = .ok a M := rfl
theorem ofBS {x : Bool} : R.ofB (some x) M = .ok x M := rfl
theorem ff {p q : β} : (if (false : Bool) = true then p else q) = q := rfl
theorem tt {p q : β} : (if (true : Bool) = true then p else q) = p := rfl
theorem ffP {p q : β} : (if False then p else q) = q := if_neg id
theorem ttP {p q : β} : (if True then p else q) = p := if_pos trivial
end
theorem plainL_iL : ∀ xs : List Int, D.plainL (iL xs) = true
  | [] => rfl
  | x :: xs => by
    show (D.plain (.int x) && D.plainL (iL xs)) = true
    rw [plainL_iL xs]; rfl
theorem beqL_iL (xs : List Int) : D.beqL (iL xs) (iL xs) = true := D.beqL_self _ (plainL_iL xs)
theorem cellIs_at {n : Nat} {xs : List D} {M : Mem} (h : M[n]? = some (.lst xs)) (p : D.plainL xs = true) : cellIs n xs M = true := by
  unfold cellIs getL
  rw [h]
  exact D.beqL_self _ p
theorem ints_iL : ∀ xs : List Int, tupInts (iL xs) = some xs
  | [] => rfl
  | x :: xs => by
    show (tupInts (iL xs)).map (x :: ·) = some (x :: xs)
    rw [ints_iL xs]; rfl
theorem getL_at {n : Nat} {xs : List D} {M : Mem} (h : M[n]? = some (.lst xs)) : getL M n = some xs := by unfold getL; rw [h]
theorem cut_iL (ns : List Int) (lo hi : Option Int) : cutD (iL ns) lo hi = iL ((ns.drop (HT.sIx ns.length 0 lo)).take (HT.sIx ns.length ns.length hi - HT.sIx ns.length 0 lo)) := by simp [cutD, iL]
theorem rep_iL (k : Nat) (xs : List Int) : (List.replicate k (iL xs)).flatten = iL (List.replicate k xs).flatten := by
  induction k with
  | zero => rfl
  | succ k ih => rw [List.replicate_succ, List.replicate_succ, List.flatten_cons, List.flatten_cons, ih, iL_append]
theorem get_push {M : Mem} {c : Cell} : (M ++ [c])[M.length]? = some c := by simp
theorem get_old {M : Mem} {c : Cell} {n : Nat} {d : Cell} (h : M[n]? = some d) : (M ++ [c])[n]? = some d := by rw [List.getElem?_append_left (lt_of_get h)]; exact h
/-- a list of numbers of a kind -/
def LAt (P : List Int → Prop) (k : Nat) (M : Mem) : Prop := ∃ xs, P xs ∧ M[k]? = some (.lst (iL xs))
/-- cells are added only -/
def Ext (M M' : Mem) : Prop := ∃ cs, M' = M ++ cs
theorem Ext.refl {M : Mem} : Ext M M := ⟨[], by simp⟩
theorem Ext.push {M : Mem} {c : Cell} : Ext M (M ++ [c]) := ⟨[c], rfl⟩
theorem Ext.trans {M M1 M2 : Mem} (a : Ext M M1) (b : Ext M1 M2) : Ext M M2 := by
  obtain ⟨c, rfl⟩ := a
  obtain ⟨d, rfl⟩ := b
  exact ⟨c ++ d, by rw [List.append_assoc]⟩
theorem Ext.get {M M' : Mem} (a : Ext M M') {n : Nat} {c : Cell} (h : M[n]? = some c) : M'[n]? = some c := by
  obtain ⟨d, rfl⟩ := a
  rw [List.getElem?_append_left (lt_of_get h)]
  exact h
end MI

set_option Elab.async false
set_option linter.all false
set_option maxRecDepth 100000
set_option maxHeartbeats 2000000
namespace MI
open PySem PySem.Spec PyProof.Rows L2
/-! own classes: made, read, written, called -/
/-- what the class k must have for a call of it -/
structure MkE (K : PySem.W.Frag) (mg : Str → Option Value) (x : Str) (C f : Addr) : Prop where
  gl : mg x = some (.ref C)
  mkC : Mk K C f
/-- C(..): a new cell, then __init__ -/
def dMake (c : Str) (f : Fun) (a : DenL) : Den := fun ev M => (a ev M).bind fun ds M1 => (f (.ref M1.length :: ds) (M1 ++ [.ins c []])).bind fun d M2 => match d with
  | .non => .ok (.ref M1.length) M2
  | _ => .st
section
variable {X : Cx} {G : GC} {W : WX} {k j : Nat} {e : Expr} {es : List Expr} {fl fk : DenL} {x : Str} {p pos : Pos} {f : Fun} {fd : FuncData} {ps : List Str} {C fI : Addr} {c : Str} {kws : List Keyword}
/-- the class at C called with values: the new object's init runs -/
theorem run_makeG {pins : List (Addr × Obj)} {σ : St} {H : Hp} {s : Shared} {Q : VK} {us : List Value} {kv : List (Str × Value)} {all : List Value} {vs : List V} {ρ : Nat → Addr} {M : Mem} {ds : List D} (hK : G.K = X.K) (hC : G.ca c = C) (mk : Mk X.K C fI)
    (F : FnG X.calm X.prog X.w X.K X.mg X.base j fI fd ps (spI G ps.length f)) (hr : RoomG X.calm (j + 1) X.A) (tk : Takes X W) (I : Inv X pins σ H s) (r : Rel G ρ H M) (rl : RepL G ρ M.length H ds vs) (rv : Vals vs all) (hn : all.length + 1 = ps.length)
    (hb : ∀ (s' : Shared) (a : Value), X.K.In s'.heap → BindsTo s' fd ⟨a :: us, kv⟩ (ps.zip (a :: all)))
    (p : PostR G W σ ρ M.length H (GV G Q) ((f (.ref M.length :: ds) (M ++ [.ins c []])).bind fun d M2 => match d with
      | .non => .ok (.ref M.length) M2
      | _ => .st)) : wpAny (model X.prog X.w) X.A (call (.ref C) us kv) (EP X pins σ Q) X.xe s := by
  have I2 := Inv.made (C := C) I
  have hx : H (s.heap.objs.size + 1) = none := I.hok.fresh (Nat.le_succ _)
  have hdx : H s.heap.objs.size = none := I.hok.fresh (Nat.le_refl _)
  have ne : s.heap.objs.size ≠ s.heap.objs.size + 1 := Nat.ne_of_lt (Nat.lt_succ_self _)
  have hx2 : upd H s.heap.objs.size (.own (s.heap.objs.size + 1)) (s.heap.objs.size + 1) = none := by rw [upd_ne ne.symm]; exact hx
  have r1 : Rel G ρ (upd H s.heap.objs.size (.own (s.heap.objs.size + 1))) M := r.fresh hdx
  have g1 : Grow G ρ M.length H ρ M.length (upd H s.heap.objs.size (.own (s.heap.objs.size + 1))) := grow_fresh hdx
  have hl : (M ++ [Cell.ins c []]).length = M.length + 1 := by simp
  have g2 : Grow G ρ M.length H (ext ρ M.length (s.heap.objs.size + 1)) (M ++ [Cell.ins c []]).length (upd (upd H s.heap.objs.size (.own (s.heap.objs.size + 1))) (s.heap.objs.size + 1) (.ins C s.heap.objs.size [])) := hl ▸ g1.trans (grow_new hx2)
  have r2 : Rel G (ext ρ M.length (s.heap.objs.size + 1)) (upd (upd H s.heap.objs.size (.own (s.heap.objs.size + 1))) (s.heap.objs.size + 1) (.ins C s.heap.objs.size [])) (M ++ [.ins c []]) :=
    r1.new hx2 ⟨s.heap.objs.size, [], by rw [hC]; exact upd_same, rfl⟩
  have rself : RepV G (ext ρ M.length (s.heap.objs.size + 1)) (M ++ [Cell.ins c []]).length (upd (upd H s.heap.objs.size (.own (s.heap.objs.size + 1))) (s.heap.objs.size + 1) (.ins C s.heap.objs.size [])) (.ref M.length) (.ref (s.heap.objs.size + 1)) := by
    simp only [RepV]
    exact ⟨by rw [hl]; exact Nat.lt_succ_self _, by rw [ext_new]⟩
  have hval : Vals (V.ref (s.heap.objs.size + 1) :: vs) (Value.ref (s.heap.objs.size + 1) :: all) := .cons rfl rv
  have hsp : spI G ps.length f (.ref (s.heap.objs.size + 1) :: vs) (upd (upd H s.heap.objs.size (.own (s.heap.objs.size + 1))) (s.heap.objs.size + 1) (.ins C s.heap.objs.size [])) (fun v H2 => v = .non ∧ Q (.ref (s.heap.objs.size + 1)) H2) (WE W σ) := by
    refine ⟨by rw [← hn, List.length_cons, rv.length], _, _, .ref M.length :: ds, r2, .cons rself (rl.grow g2), ?_⟩
    have p2 := PostR.trans p g2
    have p3 := PostR.step (P' := GV G fun v H2 => v = .non ∧ Q (.ref (s.heap.objs.size + 1)) H2) p2 fun d M2 ρ3 H3 _ g3 r3 p3 v rv3 => by
      cases d with
      | non =>
        refine ⟨rv3.non', p3 ρ3 H3 .refl r3 _ ?_⟩
        exact rself.grow g3
      | _ => exact p3.elim
    exact p3.wish fun _ _ _ h => h
  refine wpAny_call (L2.make_map (f := fI) I.kIn mk.makes mk.init (beq_iff_eq.mp mk.fn) (codeAny_mono (F.run _ X.stack _ _ ⟨Value.ref (s.heap.objs.size + 1) :: us, kv⟩ (Value.ref (s.heap.objs.size + 1) :: all) _ _ (WE W σ) (hr.make C us kv)
    (I2.env0.make C us kv) (hb _ _ I2.kIn) hval hsp) fun r' s' hq' => ?_))
  cases r' with
  | error er => exact passAt tk σ pins _ _ er s' I2 hq'
  | ok fl =>
    cases fl with
    | ret u =>
      obtain ⟨v, H', I3, rv, ev, q3⟩ := I2.after hq'
      subst ev
      exact ⟨rv, ⟨V.ref (s.heap.objs.size + 1), H', I3, rfl, q3⟩⟩
    | next => exact False.elim hq'
    | brk => exact False.elim hq'
    | cont => exact False.elim hq'
theorem i_make (hK : G.K = X.K) (tk : Takes X W) (hC : G.ca c = C) (E : MkE X.K X.mg x C fI) (F : FnG X.calm X.prog X.w X.K X.mg X.base j fI fd ps (spI G ps.length f)) (hr : RoomG X.calm (j + 1) X.A) (hb : ∀ us : List Value, us.length = ps.length → bindArgs fd ⟨us, []⟩ = pure (ps.zip us))
    (ha : PA X (e :: es) (tL X G W fl)) (hn : ∀ ev M ds M1, fl ev M = .ok ds M1 → ds.length + 1 = ps.length) (hg : Gl X x) (hdb : (x == ("__debug__" : Str)) = false)
    (he : starEach (e :: es) X.env = (false, eval e X.env) :: starEach es X.env) (hpl : (backTo pos (starEach es X.env)).any (·.1) = false) :
    PE X (.Call (.Name x p) (e :: es) [] pos) (tI X G W (dMake c f fl)) := by
  refine ⟨fun pins s σ H Q I h => ?_⟩
  refine wpAny_Call_Name_kw (ld_glob I hg E.gl ?_ hdb)
  obtain ⟨ρ, M, ev, r, er, p⟩ := h
  have q : tL X G W fl σ H fun vs H1 => ∃ ρ1 M1 ds, Rel G ρ1 H1 M1 ∧ RepL G ρ1 M1.length H1 ds vs ∧ ds.length + 1 = ps.length ∧ PostR G W σ ρ1 M1.length H1 (GV G Q) ((f (.ref M1.length :: ds) (M1 ++ [.ins c []])).bind fun d M2 => match d with
      | .non => .ok (.ref M1.length) M2
      | _ => .st) := ⟨ρ, M, ev, r, er, p.step fun ds M1 ρ1 H1 e1 g1 r1 p1 vs rl => ⟨ρ1, M1, ds, r1, rl, hn _ _ _ _ e1, p1⟩⟩
  refine PySem.W.callWith_K (h₀ := X.base) I.ok.mod.kin E.mkC.kp (thn (ha.run pos pins s σ H _ I q) fun us s1 ⟨vs, H1, I1, rv, ρ1, M1, ds, r1, rl, hl, p1⟩ => ⟨I1.kIn, ?_⟩) he hpl
  have hlen : us.length + 1 = ps.length := by rw [← rv.length, rl.length]; exact hl
  exact run_makeG (us := us) (kv := []) hK hC E.mkC F hr tk I1 r1 rl rv hlen (fun s' a _ => .of_eq (hb (a :: us) (by simpa using hlen))) p1
theorem i_make0 (hK : G.K = X.K) (tk : Takes X W) (hC : G.ca c = C) (E : MkE X.K X.mg x C fI) (F : FnG X.calm X.prog X.w X.K X.mg X.base j fI fd ps (spI G ps.length f)) (hr : RoomG X.calm (j + 1) X.A) (hb : ∀ us : List Value, us.length = ps.length → bindArgs fd ⟨us, []⟩ = pure (ps.zip us))
    (hn : ps.length = 1) (hg : Gl X x) (hdb : (x == ("__debug__" : Str)) = false) : PE X (.Call (.Name x p) [] [] pos) (tI X G W (dMake c f dNil)) := by
  refine ⟨fun pins s σ H Q I h => ?_⟩
  refine wpAny_Call_Name_kw (ld_glob I hg E.gl ?_ hdb)
  obtain ⟨ρ, M, ev, r, er, p⟩ := h
  exact PySem.W.callWith_K0 I.kIn E.mkC.kp (run_makeG (us := []) (kv := []) (all := []) (vs := []) (ds := []) hK hC E.mkC F hr tk I r .nil .nil (by rw [hn]; rfl) (fun s' a _ => .of_eq (hb [a] (by rw [hn]; rfl))) p)
/-- C(k = v, ..) -/
def dMakeK (c : Str) (f : Fun) (n m : Nat) (S : List (Nat ⊕ D)) (a b : DenL) : Den := fun ev M => (a ev M).bind fun xs M1 => (b ev M1).bind fun ys M2 =>
  if xs.length = n ∧ ys.length = m then (match pickD S (xs ++ ys) with
    | some zs => (f (.ref M2.length :: zs) (M2 ++ [.ins c []])).bind fun d M3 => match d with
      | .non => .ok (.ref M2.length) M3
      | _ => .st
    | none => .st) else .st
/-- binding behind self -/
structure CBindS (K : PySem.W.Frag) (fd : FuncData) (ps : List Str) (n : Nat) (ks : List Str) (S : List (Nat ⊕ D)) : Prop where
  ex : ∃ T : List (Nat ⊕ Value), Pk S T ∧ T.length + 1 = ps.length ∧ ∀ (s : Shared) (a : Value) (us ws : List Value), K.In s.heap → us.length = n → ws.length = ks.length → BindsTo s fd ⟨a :: us, ks.zip ws⟩ (ps.zip (a :: pickU T (us ++ ws)))
theorem i_makeK0 {ks : List Str} {S : List (Nat ⊕ D)} (hK : G.K = X.K) (tk : Takes X W) (hC : G.ca c = C) (E : MkE X.K X.mg x C fI) (F : FnG X.calm X.prog X.w X.K X.mg X.base j fI fd ps (spI G ps.length f)) (hr : RoomG X.calm (j + 1) X.A) (hb : CBindS X.K fd ps 0 ks S)
    (hkw : PK X kws (tL X G W fk)) (hg : Gl X x) (hdb : (x == ("__debug__" : Str)) = false) (hall : (backToKw pos (keywordEach kws X.env)).all (·.1.isSome) = true) (hks : (backToKw pos (keywordEach kws X.env)).filterMap (·.1) = ks)
    (hpl : ((backTo pos (starEach [] X.env)).any (·.1) || (backToKw pos (keywordEach kws X.env)).any (·.1.isNone)) = false) :
    PE X (.Call (.Name x p) [] kws pos) (tI X G W (dMakeK c f 0 ks.length S dNil fk)) := by
  refine ⟨fun pins s σ H Q I h => ?_⟩
  refine wpAny_Call_Name_kw (ld_glob I hg E.gl ?_ hdb)
  obtain ⟨T, hT, hTl, hB⟩ := hb.ex
  obtain ⟨ρ, M, ev, r, er, p⟩ := h
  have q : tL X G W fk σ H fun zs H2 => ∃ (ρ2 : Nat → Addr) (M2 : Mem) (ys ds : List D), Rel G ρ2 H2 M2 ∧ RepL G ρ2 M2.length H2 ys zs ∧ zs.length = ks.length ∧ pickD S ys = some ds ∧ PostR G W σ ρ2 M2.length H2 (GV G Q) ((f (.ref M2.length :: ds) (M2 ++ [.ins c []])).bind fun d M3 => match d with
      | .non => .ok (.ref M2.length) M3
      | _ => .st) :=
    ⟨ρ, M, ev, r, er, (show PostR G W σ ρ M.length H (GV G Q) ((fk ev M).bind fun ys M2 => if ([] : List D).length = 0 ∧ ys.length = ks.length then (match pickD S ([] ++ ys) with
      | some zs => (f (.ref M2.length :: zs) (M2 ++ [.ins c []])).bind fun d M3 => match d with
        | .non => .ok (.ref M2.length) M3
        | _ => .st
      | none => .st) else .st) from p).step fun ys M2 ρ2 H2 _ g2 r2 p2 zs rz => by
      split at p2
      · rename_i hl
        split at p2
        · rename_i ds e1
          exact ⟨ρ2, M2, ys, ds, r2, rz, rz.length.trans hl.2, e1, p2⟩
        · exact p2.elim
      · exact p2.elim⟩
  refine PySem.W.callWith_KW0 (h₀ := X.base) I.ok.mod.kin E.mkC.kp hall (thn (hkw.run pos pins s σ H _ I q) fun ws s2 ⟨zs, H2, I2, rz, ρ2, M2, ys, ds, r2, rl, l2, e1, p2⟩ => ⟨I2.kIn, ?_⟩) hpl
  rw [hks]
  obtain ⟨vv, a1, a2⟩ := pick_ok rl rz hT e1
  exact run_makeG (us := []) hK hC E.mkC F hr tk I2 r2 a2 a1 (by rw [pickU_len, hTl]) (fun s' a hk => hB s' a [] ws hk rfl (by rw [← rz.length]; exact l2)) p2
/-! fields -/
def putD (f : Str) (v : D) : List (Str × D) → List (Str × D)
  | [] => [(f, v)]
  | (g, x) :: r => if g = f then (g, v) :: r else (g, x) :: putD f v r
theorem repF_put {ρ : Nat → Addr} {N : Nat} {H : Hp} {f : Str} {d : D} {v : V} (rd : RepV G ρ N H d v) : ∀ {fs : List (Str × D)} {vs : List (Str × V)}, RepF G ρ N H fs vs → RepF G ρ N H (putD f d fs) (putF f v vs)
  | [], vs, h => by
    have : vs = [] := h
    subst this
    exact ⟨v, [], rfl, rd, rfl⟩
  | (g, x) :: fs, vs, ⟨y, r, e, h1, h2⟩ => by
    subst e
    unfold putD putF
    by_cases q : g = f
    · rw [if_pos q, if_pos q]; exact ⟨v, r, rfl, rd, h2⟩
    · rw [if_neg q, if_neg q]; exact ⟨y, _, rfl, h1, repF_put rd h2⟩
theorem repF_len {ρ : Nat → Addr} {N : Nat} {H : Hp} : ∀ {fs : List (Str × D)} {vs : List (Str × V)}, RepF G ρ N H fs vs → vs.length = fs.length
  | [], vs, h => by
    have : vs = [] := h
    subst this; rfl
  | (g, x) :: fs, vs, ⟨y, r, e, h1, h2⟩ => by
    subst e
    simp [repF_len h2]
/-- the classes whose instances may be read so -/
def opFld (cs : List Str) (f : Str) : Op1 := fun d M => match d with
  | .ref n => match M[n]? with
    | some (.ins c fs) => if c ∈ cs then (fs.lookup f).map (·, M) else none
    | _ => none
  | _ => none
theorem i_fld {o : Expr} {fo : Den} {cs : List Str} {g : Str} (hO : ∀ c ∈ cs, Cls X.K (G.ca c) ∧ NoAttr X.K (G.ca c) g) (ho : PE X o (tI X G W fo)) (hb : attributeBase o g X.env (eval o X.env) = eval o X.env) : PE X (.Attribute o g pos) (tI X G W (dOp1 (opFld cs g) fo)) := by
  refine PE.imp (pe_fld ho hb) fun σ H Q h => ?_
  obtain ⟨ρ, M, ev, r, er, p⟩ := tI_op1 h
  refine ⟨ρ, M, ev, r, er, p.mono fun ρ1 M1 H1 d g1 r1 q v rv => ?_⟩
  obtain ⟨ρ2, M2, d2, r2, rd2, p2⟩ := q v rv
  unfold opFld at p2
  split at p2
  · rename_i n
    split at p2
    · rename_i c fs em
      split at p2
      · rename_i hc
        obtain ⟨hn, rfl⟩ := rd2.ref'
        obtain ⟨dx, vs, hq, rf⟩ := r2.cell n _ em
        cases el : fs.lookup g with
        | none => rw [el] at p2; exact p2.elim
        | some d3 =>
          rw [el] at p2
          obtain ⟨w, hw, rw1⟩ := lookupF rf el
          exact ⟨_, _, dx, vs, w, rfl, hq, (hO c hc).1, (hO c hc).2, hw, p2.same r2 rw1⟩
      · exact p2.elim
    · exact p2.elim
  · exact p2.elim
def nSetF (cs : List Str) (f : Str) (d y : D) (M : Mem) : Option Mem := match d with
  | .ref n => match M[n]? with
    | some (.ins c fs) => if c ∈ cs ∧ fs.length < 1000 then some (M.set n (.ins c (putD f y fs))) else none
    | _ => none
  | _ => none
theorem nSetF_some {cs : List Str} {f : Str} {d y : D} {M M4 : Mem} (h : nSetF cs f d y M = some M4) : ∃ n c fs, d = .ref n ∧ M[n]? = some (.ins c fs) ∧ c ∈ cs ∧ fs.length < 1000 ∧ M4 = M.set n (.ins c (putD f y fs)) := by
  unfold nSetF at h
  split at h
  · rename_i n
    split at h
    · rename_i c fs ec
      split at h
      · rename_i hc
        cases h
        exact ⟨n, c, fs, rfl, ec, hc.1, hc.2, rfl⟩
      · cases h
    · cases h
  · cases h
def sSetF (cs : List Str) (f : Str) (fo fv : Den) : DenS := fun ev M => (fv ev M).bindO ev fun y M1 => (fo ev M1).bindO ev fun d M2 => match nSetF cs f d y M2 with
  | some M4 => .nx ev M4
  | none => .st
theorem s_fld {o : Expr} {fo fe : Den} {cs : List Str} {g : Str} {p' : Pos} (hO : ∀ c ∈ cs, Cls X.K (G.ca c) ∧ NoAttr X.K (G.ca c) g) (ho : PE X o (tI X G W fo)) (he : PE X e (tI X G W fe)) (hs : swapsWith e (some (.Attribute o g p')) pos.line X.env = pure false) :
    PS X (.Assign [.Attribute o g p'] e pos) (tS X G W (sSetF cs g fo fe)) := by
  refine PS.imp (ps_fld ho he hs) fun T σ H ⟨ρ, M, ev, r, er, p⟩ => ⟨ρ, M, ev, r, er, p.stepR er fun y M1 ρ1 H1 he1 g1 r1 p1 v rv => ?_⟩
  have er1 := er.grow g1
  refine ⟨ρ1, M1, ev, r1, er1, p1.stepR er1 fun d M2 ρ2 H2 he2 g2 r2 p2 x rx => ?_⟩
  have er2 := er1.grow g2
  cases em : nSetF cs g d y M2 with
  | none => rw [em] at p2; exact p2.elim
  | some M4 =>
    rw [em] at p2
    obtain ⟨n, c, fs, rfl, ec, hc1, hc2, rfl⟩ := nSetF_some em
    obtain ⟨hn, rfl⟩ := rx.ref'
    obtain ⟨dx, vs, hq, rf⟩ := r2.cell n _ ec
    have gw := r2.grow_write (o := .ins (G.ca c) dx (putF g v vs)) hn
    have hl : (M2.set n (.ins c (putD g y fs))).length = M2.length := by simp
    refine ⟨_, _, dx, vs, rfl, hq, (hO c hc1).1, (hO c hc1).2, by rw [repF_len rf]; exact hc2, ?_⟩
    exact p2 ρ2 σ _ (hl.symm ▸ gw) (r2.write hn ⟨dx, _, upd_same, (repF_put (rv.grow g2) rf).grow gw⟩) (hl.symm ▸ er2.grow gw)
/-! methods of own classes -/
/-- one entry: the class, how many values behind self, what the method computes -/
structure MEnt where
  c : Str
  n : Nat
  f : Fun
def mO (name : Str) (tbl : List MEnt) : MetD := fun d M => match d with
  | .ref n => match M[n]? with
    | some (.ins c fs) => if (fs.lookup name).isSome then none else (tbl.find? fun m => m.c == c).map fun m => fun ds M2 => if ds.length = m.n then m.f (d :: ds) M2 else .st
    | _ => none
  | _ => none
/-- what such an entry asks -/
structure MEntOk (X : Cx) (G : GC) (name : Str) (m : MEnt) : Prop where
  cls : Cls X.K (G.ca m.c)
  ex : ∃ (j : Nat) (fa : Addr) (fd : FuncData) (ps : List Str), Meth X.K (G.ca m.c) name fa ∧ FnG X.calm X.prog X.w X.K X.mg X.base j fa fd ps (spI G ps.length m.f) ∧ RoomG X.calm j X.A ∧ ps.length = m.n + 1 ∧ ∀ us : List Value, us.length = ps.length → bindArgs fd ⟨us, []⟩ = pure (ps.zip us)
theorem met_O {name : Str} {tbl : List MEnt} (tk : Takes X W) (h : ∀ m ∈ tbl, MEntOk X G name m) : MetR X G W name (mO name tbl) := by
  refine ⟨fun pins s σ H ρ M d x v g pl Q I r rd rv e q => ?_⟩
  unfold mO at e
  split at e
  · rename_i n
    split at e
    · rename_i c fs em
      split at e
      · cases e
      · rename_i hno
        cases ef : tbl.find? fun m => m.c == c with
        | none => rw [ef] at e; cases e
        | some m =>
          rw [ef] at e
          simp only [Option.map_some, Option.some.injEq] at e
          subst e
          have hm := List.mem_of_find?_eq_some ef
          have hc : m.c = c := by simpa using List.find?_some ef
          obtain ⟨hcl, j, fa, fd, ps, hmeth, F, hr, hps, hb⟩ := h m hm
          obtain ⟨hn, rfl⟩ := rd.ref'
          cases rv
          obtain ⟨dx, vs, hq, rf⟩ := r.cell n _ em
          subst hc
          have hl : vs.lookup name = none := by
            cases el : fs.lookup name with
            | some _ => rw [el] at hno; exact absurd rfl hno
            | none =>
              have go : ∀ {fs : List (Str × D)} {vs : List (Str × V)}, RepF G ρ M.length H fs vs → fs.lookup name = none → vs.lookup name = none := by
                intro fs
                induction fs with
                | nil => intro vs h _; rw [show vs = [] from h]; rfl
                | cons a fs ih =>
                  intro vs h e
                  obtain ⟨g, x⟩ := a
                  obtain ⟨y, t, rfl, _, h2⟩ := h
                  by_cases hg : name = g
                  · subst hg; simp [List.lookup] at e
                  · have hg' : (name == g) = false := by simpa using hg
                    simp only [List.lookup, hg'] at e ⊢
                    exact ih h2 e
              exact go rf el
          refine getmeth_ok I hq hcl hmeth hl (q _ _ (.own fa hmeth.kp) fun s2 H2 ρ2 M2 us ws ds Q2 I2 g2 r2 rvs rl p => ?_)
          replace p : PostR G W σ ρ2 M2.length H2 (GV G Q2) (if ds.length = m.n then m.f (.ref n :: ds) M2 else .st) := p
          split at p
          · rename_i hlen
            have hul : us.length + 1 = ps.length := by rw [← rvs.length, rl.length, hlen, hps]
            have hself := (show RepV G ρ M.length H (.ref n) (.ref (ρ n)) from rd).grow g2
            exact call_fnG (us := .ref (ρ n) :: us) (vs := .ref (ρ n) :: ws) F hr (passAt tk σ) I2 (.of_eq (hb _ (by simpa using hul))) (.cons rfl rvs)
              ⟨by rw [List.length_cons, rl.length, hlen, hps], ρ2, M2, .ref n :: ds, r2, .cons hself rl, p.wish fun _ _ _ h => h⟩
          · exact p.elim
    · cases e
  · cases e
end
end MI

set_option Elab.async false
set_option linter.all false
set_option maxRecDepth 100000
set_option maxHeartbeats 2000000
namespace MI
open PySem PySem.Spec PyProof.Rows L2
/-! exception classes without fields -/
def sp0 (C : Addr) : Sp := fun vs H Q _ => ∃ a, vs = [.ref a] ∧ H a = some (exo a C none) ∧ Q .non H
open PySem.W PySem.Calls in
theorem init_fn0 {P : Program} {w : World} {K : PySem.W.Frag} {mg : Str → Option Value} {base : Heap} {qual self text file : Str} {scope : Scope} {f cc C D cda : Addr} {params : Arguments} {dV kV doc pm ct oc : Value} {an od : Option Addr} {osl : Array (Option Value)}
    {p0 p1 p2 p3 p4 p5 : Pos} {kk : Nat} {ar : Arg} {tf : Tok} {vs0 : Array Value} {ocl ccl : Value} {ocd ccd : Option Addr} {csl ccs : Array (Option Value)} {cdD : ClassData} {k : Nat}
    (lk : K.lookup f = some ⟨oc, od, .func (PySem.W.ksFn "__init__" qual params (.Expr (.Call (.Attribute (.Call (.Name "super" p0) [] [] p1) "__init__" p2) [.Constant (.str text) kk p3] [] p4) p5 :: []) scope dV kV doc pm an (.ref cda) ct cc), osl⟩)
    (hcdi : PySem.W.codeIn K (.ref cda) qual = true) (S : InScope [self] scope) (hp : (params.posonlyargs ++ params.args).head? = some ar) (har : ar.arg = self)
    (hcode : K.lookup cda = some ⟨ccl, ccd, .fields vs0, ccs⟩) (hvs : vs0[2]? = some (.str file tf)) (hfile : ((P.main.file : Str) == file) = true) (htop : (P.main.scope.names.lookup ("super" : Str)).isSome = false)
    (hcc : K.lookup cc = some ⟨ocl, ocd, .cell (some (.ref D)), csl⟩) (hD : clsIn K D = some cdD) (hsub : mroIn K C (.ref D) = some true) (hsuper : mg "super" = none)
    (hno : nsIn K cStatics "thirdparty.any" = some none) (hmeth : ks_superIn K C D "__init__" = some (some (.builtin "ValueError.__init__"))) (hB : subIn K (.ref C) (.type "ValueError") = some true)
    (T : OexC K C)
    (hsw : ∀ env : PySem.Env, swapsWith (.Call (.Attribute (.Call (.Name "super" p0) [] [] p1) "__init__" p2) [.Constant (.str text) kk p3] [] p4) none p5.line env = pure false)
    {pl : Addr → Sem Bool} (hcall : ∀ L, eval (.Call (.Attribute (.Call (.Name "super" p0) [] [] p1) "__init__" p2) [.Constant (.str text) kk p3] [] p4) (PySem.W.ksEnv qual scope L f (.ref cda) cc) = (do
      let ov ← attributeBase (.Call (.Name "super" p0) [] [] p1) "__init__" (PySem.W.ksEnv qual scope L f (.ref cda) cc) (eval (.Call (.Name "super" p0) [] [] p1) (PySem.W.ksEnv qual scope L f (.ref cda) cc))
      standAt p2.atName
      let (f', first) ← holding [ov] (getMethod ov "__init__" (pl L))
      callWith p4 f' first (backTo p4 (starEach [.Constant (.str text) kk p3] (PySem.W.ksEnv qual scope L f (.ref cda) cc))) [])) :
    FnOk P w K mg base (L2.CX P w) (k + 1) f (PySem.W.ksFn "__init__" qual params (.Expr (.Call (.Attribute (.Call (.Name "super" p0) [] [] p1) "__init__" p2) [.Constant (.str text) kk p3] [] p4) p5 :: []) scope dV kV doc pm an (.ref cda) ct cc) [self] (sp0 C) := by
  refine ⟨fun vs H Q E h => by obtain ⟨a, rfl, _⟩ := h; rfl, fun A outer s H args us vs Q E hr e0 hb r hsp => ?_⟩
  obtain ⟨a, rfl, hH, hq⟩ := hsp
  have hN : ([self] : List Str)[0]? = some self := rfl
  have hl : ([V.ref a]).length = ([self] : List Str).length := rfl
  have KX : K.In s.heap := e0.mod.kin.keeps fun b o e => (e0.bs b o e).1
  have lim : s.heap.NoLimit := e0.mod.nolimit.keeps fun b o e => (e0.bs b o e).1
  have hloc : ∀ x ∈ ([self] : List Str).zip us, scope.names.lookup x.1 = some .local := fun ⟨n, v⟩ hx => S.par n (List.of_mem_zip hx).1
  refine ks_codeAny_call_defAt (fd := PySem.W.ksFn "__init__" qual params _ scope dV kV doc pm an (.ref cda) ct cc) (binds := ([self] : List Str).zip us) hr.depth (KX _ _ lk) rfl lim (codeRec_of KX hcdi) rfl hb S.nocell hloc (fun h₁ hns hk => ?_) S.co S.gen S.kind
  have I0 := inv_X (qual := qual) (f := f) (cd := .ref cda) (E := E) (tk := s.toks + (([self] : List Str).zip us).length) S hr.hd e0 hl r hcc rfl hns hk
  have hX : ∀ {s2 : Shared}, Inv (cxX P w K mg base [self] (PySem.W.ksEnv qual scope s.heap.objs.size f (.ref cda) cc) A outer s H E) [] (L2.start [self] [.ref a]) H s2 → K.In s2.heap := fun I => I.kIn
  refine ks_wpAt_execs_cons ?_
  refine ks_wpAt_Expr_any ?_ I0.quiet (hsw _)
  refine ks_wpAt_MethodCall (pl := pl s.heap.objs.size) ?_ (hcall _)
  obtain ⟨t1, hea⟩ := exo_at I0.hok hH
  obtain ⟨nm, q0, N0, bs, bm, sn, sub, ab, col, dd, k0, k1, k2, k3, k5, hC, hbm⟩ := T.cls
  have X1 := hX I0
  obtain ⟨oD, hD1, hD2⟩ : ∃ oD, h₁.get? D = some oD ∧ oD.data = .cls cdD := by
    unfold clsIn at hD
    split at hD
    · rename_i c d cd' sl ho
      cases hD
      exact ⟨_, X1 _ _ ho, rfl⟩
    · cases hD
  obtain ⟨mb, hmb, hmb2⟩ := e0.mod.blt
  have kb : ∀ b o, base.get? b = some o → h₁.get? b = some o := fun b o e => (I0.bs b o e).1
  have self0 : (([self] : List Str).zip us).reverse.lookup self = some (.ref a) := by
    cases r with
    | cons ra rr =>
      obtain rfl := (show _ = Value.ref a from ra)
      exact lookup_rev S.nd hN rfl
  refine ks_wpAt_super_base (env := PySem.W.ksEnv qual scope s.heap.objs.size f (.ref cda) cc) S.sup S.cls (by decide +kernel) rfl (X1 _ _ lk) rfl hp rfl (X1 _ _ hcode) rfl hvs hfile htop ?_
  refine ks_loadName_global S.kind S.sup (loadGlobal_builtin (env := PySem.W.ksEnv qual scope s.heap.objs.size f (.ref cda) cc) (e0.mod.glob.keeps kb) hsuper (hmb.keeps kb) ((hmb2 _ (by decide +kernel)).trans PyProof.Rows.Boot.«super») ⟨rfl, ?_⟩)
  refine wpAny_loadName_free S.kind S.cls rfl ⟨_, X1 _ _ hcc, rfl⟩ ?_
  rw [har]
  refine wpAny_loadName_local S.kind (S.par self (List.mem_of_getElem? hN)) hns self0 ?_
  refine ks_wpAny_isType_cls hD1 hD2 ⟨rfl, ?_⟩
  refine ks_wpAny_call_super hD1 hD2 hea rfl (fun c e => nomatch e) (looks_mroIn X1 hsub) (fun h2 hso k2 => ?_)
  have I2 := I0.kept (h' := h2) (t' := s.toks + (([self] : List Str).zip us).length) fun b o e => k2 b o e
  have hC2 := hX I2 _ _ hC
  have hcl : PySem.W.clsIn K C = some { name := nm, bases := bs, mro := .ref C :: bm, ns := N0, qualname := q0, hasDict := true, slotNames := sn, subclasses := sub, abstract := ab, collection := col, hasDel := false } := by unfold PySem.W.clsIn; rw [hC] <;> rfl
  have hea2 := k2 _ _ hea
  have hne2 : a ≠ C := fun e => by
    have z := (e0.bs C _ (e0.mod.kin _ _ hC)).2
    rw [← e, hH] at z
    cases z
  have hI2 : Looks (model P w) h2 (isInstance (.ref a) (.type "ValueError")) true := (⟨hea2, rfl, rfl, trivial⟩ : InstAt h2 a _ C none).type.andThen (looks_subIn (hX I2) hB)
  unfold ks_superIn at hmeth
  rw [hcl] at hmeth
  refine kxs_getMethod kxs_ValueError hso (looks_opaque (hX I2) hno) (l₀ := .ref C :: bm) (fun A Q E s k q => wpAny_bind ((looks_clsIn (hX I2) hcl) A _ E s k (wpAny_pure q))) rfl (hX I2) hmeth hI2 hne2 (by decide +kernel) ?_
  have I3 := I2.kept (h' := h2.push (kxs_mw "ValueError.__init__" a)) (t' := s.toks + (([self] : List Str).zip us).length + 1) fun b o e => Heap.get?_push_of_some _ e
  refine kxs_callWith (i := "ValueError.__init__") (x := a) rfl (evalArgs_plain ?_)
  refine spliced_cons (show wpAny _ _ (eval (.Constant (.str text) kk p3) (PySem.W.ksEnv qual scope s.heap.objs.size f (.ref cda) cc)) _ _ _ from Constant_str (spliced_nil ?_))
  have hmw : ((h2.push (kxs_mw "ValueError.__init__" a)).get? h2.objs.size) = some (kxs_mw "ValueError.__init__" a) := Heap.get?_push_size _ rfl
  refine ⟨hmw, ?_⟩
  refine call_mw (X := cxX P w K mg base [self] (PySem.W.ksEnv qual scope s.heap.objs.size f (.ref cda) cc) A outer s H E) T (I3.tok _) hH hmw (by show 1 ≤ sizeLine; rw [sizeLine_eq]; omega) fun s5 I5 => ?_
  show PySem.wpAt _ _ _ _ _ _ _
  refine wpAt_of_wpAny ?_
  refine wpAny_mono ((pss_nil (X := cxX P w K mg base [self] (PySem.W.ksEnv qual scope s.heap.objs.size f (.ref cda) cc) A outer s H E)).run [] s5 _ H { nx := fun _ H' => Q .non H', rt := Q } I5 hq) (fun fl s' hs => ?_) fun e s' hs => hs
  have fin : ∀ {σ' : St} {H' : Hp} {v : V} {u : Value}, Inv (cxX P w K mg base [self] (PySem.W.ksEnv qual scope s.heap.objs.size f (.ref cda) cc) A outer s H E) [] σ' H' s' → RelV v u → Q v H' → CE outer P w H s Q u s' :=
    fun {σ' H' v u} J rv q => ⟨v, H', J.os, J.bare, J.base, J.hok, rv, q⟩
  cases fl with
  | ret u =>
    obtain ⟨v, σ', H', J, rv, q⟩ := hs
    exact fin J rv q
  | next =>
    obtain ⟨σ', H', J, q⟩ := hs
    exact fin (v := V.non) (u := Value.none) J rfl q
  | brk =>
    obtain ⟨_, _, _, q⟩ := hs
    exact False.elim q
  | cont =>
    obtain ⟨_, _, _, q⟩ := hs
    exact False.elim q
theorem mk_endn {X : Cx} {pins : List (Addr × Obj)} {σ : St} {H1 : Hp} {Q : XK} {hp hp2 h2 : Heap} {g1 g2 : Array GenState} {d1 d2 : Drawn} {t1 t2 : Nat} {os1 os2 : OsState} {a C : Addr} (T : Raises X (.ref C)) (I1 : Inv X pins σ H1 ⟨hp, g1, d1, t1, os1⟩)
    (ha : hp.objs.size ≤ a) (k : ∀ b o, hp.get? b = some o → hp2.get? b = some o) (un : Un (frs X.stack) [] (upd H1 a (exo a C none)) (upd H1 a (exo a C none)) hp2 h2) (hok : HOk X.prog X.w (upd H1 a (exo a C none)) h2) (ho : os2 = os1) (hb : AllBare g2)
    (q : Q (.ref C) none H1) : MkP X pins σ Q (.ref a) ⟨h2, g2, d2, t2, os2⟩ := by
  obtain ⟨t0, hoe⟩ := exo_at hok upd_same
  have hn : H1 a = none := I1.hok.fresh ha
  obtain ⟨G, g1', g2'⟩ := restrict h2 fun b => decide (b ≠ a)
  have gk : ∀ b, b ≠ a → G.get? b = h2.get? b := fun b hb => g1' b (decide_eq_true hb)
  have ge : G.get? a = none := g2' a (by simp)
  have nha : ∀ {b : Addr} {o : Obj}, hp.get? b = some o → b ≠ a := fun {b o} z => Nat.ne_of_lt (Nat.lt_of_lt_of_le (Heap.lt_size z) ha)
  have up : ∀ {b : Addr}, b ≠ a → H1 b = none → upd H1 a (exo a C none) b = none := fun {b} hb n => by rw [upd_ne hb]; exact n
  have U : Un (frs X.stack) [] H1 H1 hp G := {
    keep := fun b o z n hf hx => by
      rw [gk b (nha z)]
      exact un.keep b o (k b o z) (up (nha z) n) hf hx
    slot := fun b o z n hf hx => by
      rw [gk b (nha z)]
      exact un.slot b o (k b o z) (up (nha z) n) hf hx
    free := fun b o z n hx => n
    there := fun b o z hx => by
      rw [gk b (nha z)]
      exact un.there b o (k b o z) hx
    tups := fun b xs z => z
    frzs := fun b o v z => z
    tbls := fun b ps z => ⟨#[], by simpa using z⟩ }
  have hok3 : HOk X.prog X.w H1 G := fun b o z => by
    have hba : b ≠ a := fun e => by
      rw [e, hn] at z
      cases z
    have z' : (upd H1 a (exo a C none)) b = some o := by rw [upd_ne hba]; exact z
    have noa : ∀ {c : Addr}, (upd H1 a (exo a C none)) c = some (.own b) → c ≠ a := fun {c} hc => at_ne upd_same hc exo_own
    exact (hok b o z').stay (fun c v hc y => by
        have hca : c ≠ a := by
          rcases hc with hc | hc
          · rw [hc]
            exact hba
          · exact noa hc
        rw [gk c hca]
        exact y)
      (fun c hc => by have h := noa hc; rw [upd_ne h] at hc; exact hc) (fun c xs hc => by have h := at_ne upd_same hc exo_tup; rw [upd_ne h] at hc; exact hc)
  have J : Inv X pins σ H1 ⟨G, g2, d2, t2, os2⟩ := I1.call' (ch := []) ho U hok3 hb (fun b z => absurd z (by simp))
  refine ⟨a, _, _, ⟨G, g2, d2, t2, os2⟩, _, .ref C, none, rfl, J, fun b o z => ?_, ge, hoe, ⟨rfl, rfl⟩, rfl, rfl, hn, rfl, hb, T, q⟩
  by_cases hba : b = a
  · rw [hba, ge] at z
    cases z
  · exact (gk b hba).symm.trans z
/-- C() for an exception class without fields -/
theorem pmk_oexn {X : Cx} {x : Str} {C fI : Addr} {k : Nat} {fd : FuncData} {self : Str} {p pos : Pos} (T : OexC X.K C) (iC : PySem.W.findIn X.K (.ref C) "__init__" = some (some (.ref fI))) (tI : PySem.W.typeIn X.K (.ref fI) = some (.type "function"))
    (F1 : FnOk X.prog X.w X.K X.mg X.base (L2.CX X.prog X.w) k fI fd [self] (sp0 C)) (hr : Room (k + 1) X.A) (hb : ∀ us : List Value, us.length = 1 → bindArgs fd ⟨us, []⟩ = pure (([self] : List Str).zip us)) (hg : Gl X x) (hm : X.mg x = some (.ref C))
    (hdb : (x == ("__debug__" : Str)) = false) :
    PMk X (.Call (.Name x p) [] [] pos) (fun _ H Q => Q (.ref C) none H) := by
  intro pins s σ H Q I q1
  obtain ⟨nm, q, N, bs, bm, sn, sub, ab, col, dd, k0, k1, k2, k3, k5, hC, hbm⟩ := T.cls
  refine wpAny_Call_Name_kw (ld_glob I hg hm ?_ hdb)
  refine PySem.W.callWith_K0 I.kIn T.kC ?_
  show wpAny _ _ (call (.ref C) []) _ _ _
  obtain ⟨hp, g, dr, tk, os⟩ := s
  have hsz : hp.objs.size ≤ hp.objs.size + 1 := Nat.le_succ _
  have hn : H (hp.objs.size + 1) = none := I.hok.fresh hsz
  have kk : ∀ b o, hp.get? b = some o → ((hp.push (PySem.W.kdv_tup [])).push (PySem.HandSPX.excO C hp.objs.size)).get? b = some o := fun b o e => Heap.get?_push_of_some _ (Heap.get?_push_of_some _ e)
  have hget : ((hp.push (PySem.W.kdv_tup [])).push (PySem.HandSPX.excO C hp.objs.size)).get? (hp.objs.size + 1) = some (PySem.HandSPX.excO C hp.objs.size) := by heap_get
  have I2 : Inv X pins σ (upd H (hp.objs.size + 1) (exo (hp.objs.size + 1) C none)) ⟨(hp.push (PySem.W.kdv_tup [])).push (PySem.HandSPX.excO C hp.objs.size), g, dr, tk, os⟩ :=
    I.laid (t' := tk) (a := hp.objs.size + 1) (o := exo (hp.objs.size + 1) C none) (h' := (hp.push (PySem.W.kdv_tup [])).push (PySem.HandSPX.excO C hp.objs.size)) kk hsz (exo_ok hget)
  have hval : Vals [V.ref (hp.objs.size + 1)] [Value.ref (hp.objs.size + 1)] := .cons rfl .nil
  refine wpAny_call (PySem.HandSPX.call_own F.excBase_ValueError (fun Y => PySem.HandSPX.refsVE_contains Y bm hbm) (I.kIn _ _ hC) (PySem.W.looks_findIn I.kIn iC) (fun self => PySem.W.bind_fn I.kIn self tI) (by rw [sizeLine_eq]; simp)
    (codeAny_mono (F1.run _ X.stack _ _ ⟨[Value.ref (hp.objs.size + 1)], []⟩ [Value.ref (hp.objs.size + 1)] _ (fun v H2 => v = .non ∧ H2 = upd H (hp.objs.size + 1) (exo (hp.objs.size + 1) C none)) (fun _ _ _ => False) (hr.make C [] []) (I2.env0.make C [] []) (.of_eq (hb _ rfl)) hval ⟨_, rfl, upd_same, rfl, rfl⟩) fun r s' hq' => ?_))
  cases r with
  | error er => 
    obtain ⟨_, _, _, _, _, _, _, _, _, _, _, _, z⟩ := hq'
    exact z.elim
  | ok fl =>
    cases fl with
    | ret u =>
      obtain ⟨v, H2, os2, bare2, un2, hok2, rv, ev, eh⟩ := hq'
      subst ev
      subst eh
      obtain ⟨h2, g2, d2, t2, os'⟩ := s'
      exact ⟨rv, mk_endn (raises_own T.exC T.tyC) I hsz kk un2 hok2 os2 bare2 q1⟩
    | next => exact False.elim hq'
    | brk => exact False.elim hq'
    | cont => exact False.elim hq'
theorem s_raise0 {X : Cx} {G : GC} {W : WX} {c x : Str} {C fI : Addr} {k : Nat} {fd : FuncData} {self : Str} {p pos pos2 : Pos} (hc : X.calm = true) (tk : Takes X W) (hC : G.ca c = C)
    (T : OexC X.K C) (iC : PySem.W.findIn X.K (.ref C) "__init__" = some (some (.ref fI))) (tI' : PySem.W.typeIn X.K (.ref fI) = some (.type "function"))
    (F1 : FnOk X.prog X.w X.K X.mg X.base (L2.CX X.prog X.w) k fI fd [self] (sp0 C)) (hr : RoomG X.calm (k + 1) X.A)
    (hb : ∀ us : List Value, us.length = 1 → bindArgs fd ⟨us, []⟩ = pure (([self] : List Str).zip us)) (hg : Gl X x) (hm : X.mg x = some (.ref C)) (hdb : (x == ("__debug__" : Str)) = false) :
    PS X (.Raise (some (.Call (.Name x p) [] [] pos)) none pos2) (tS X G W (sRaise c 0 [] dNil)) := by
  have hR : Room (k + 1) X.A := ⟨hr.hd hc, hr.dp, hr.un⟩
  refine PS.imp (ps_raise hc tk (pmk_oexn T iC tI' F1 hR hb hg hm hdb)) fun D σ H h => ?_
  obtain ⟨ρ, M, ev, r, er, p⟩ := h
  have := p ρ none [] σ H .refl r er rfl rfl
  rw [hC] at this
  exact this
end MI

set_option Elab.async false
set_option linter.all false
set_option maxRecDepth 100000
set_option maxHeartbeats 2000000
/-! enumerate and zip over tuples -/
namespace MI
open PySem PySem.Spec PyProof.Rows L2
section
open PySem.Sem (wp)
open AutoSeq1 (wpAny_loadPart')
variable {prog : Program} {w : World} {A : Around} {E : Value → Shared → Prop} {s : Shared}
theorem meets_enumT (t : Addr) (xs : Array Value) : Meets (Builtin.«enumerate.__new__» ⟨[.type "enumerate", .ref t], []⟩) (fun _ Z s => s.heap.IsTuple t xs ∧
    Z (.ok (.ret (.ref (s.heap.objs.size + 1)))) { s with heap := (s.heap.push { cls := .type "tuple_iterator", data := .fields #[.ref t, .int 0 0] }).push { cls := .type "enumerate", data := .fields #[.none, .bool false, .ref s.heap.objs.size, rawInt 0, .none, .none] } }) :=
  .of_wp fun P w A Z s h => by
    obtain ⟨h0, g0, d0, k0, o0⟩ := s
    obtain ⟨isT, z⟩ := h
    have sub := sub_enumerate
    have it : ∀ {A' : Around} {E' : Value → Shared → Prop} {Q' : Value → Shared → Prop}, Q' (.ref h0.objs.size) ⟨h0.push { cls := .type "tuple_iterator", data := .fields #[.ref t, .int 0 0] }, g0, d0, k0, o0⟩ → wpAny (model P w) A' (pyIter (.ref t)) Q' E' ⟨h0, g0, d0, k0, o0⟩ :=
      fun q => (begins_tuple t xs).iter P w _ _ ⟨h0, g0, d0, k0, o0⟩ _ isT q
    have sz : (h0.push { cls := .type "tuple_iterator", data := .fields #[.ref t, .int 0 0] }).objs.size = h0.objs.size + 1 := Heap.size_push ..
    simp only at z
    rw [← sz] at z
    wp_walk using it
    refine wpAny_stack_any fun st => wpAny_pure ?_
    split
    · rename_i c _ _ _ _ _
      cases (c == Value.type "enumerate") <;> (wp_walk using it; exact ⟨_, rfl, z⟩)
    · wp_walk using it; exact ⟨_, rfl, z⟩
/-- enumerate(t) of a tuple: the two objects that it makes -/
theorem call_enumT {t : Addr} {xs : Array Value} {Q : Value → Shared → Prop} (isT : s.heap.IsTuple t xs)
    (h : ∀ h', IsEnum h' (s.heap.objs.size + 1) s.heap.objs.size 0 .none → h'.IsTupleIter s.heap.objs.size t 0 → (∀ b o, s.heap.get? b = some o → h'.get? b = some o) → Q (.ref (s.heap.objs.size + 1)) { s with heap := h' }) :
    wpAny (model prog w) A (call (.type "enumerate") [.ref t]) Q E s := by
  obtain ⟨o, ho, hcls, c, hdat⟩ := id isT
  have sz : (s.heap.push { cls := .type "tuple_iterator", data := .fields #[.ref t, .int 0 0] }).objs.size = s.heap.objs.size + 1 := Heap.size_push ..
  refine callType_new F.called_enumerate (by decide) (F.typeCall_enumerate_1 _) (F.newCall_enumerate_1 _) (fun x => F.args_object_init_2 x _) F.entry_enumerate_new (meets_enumT t xs) ⟨isT, ?_⟩
  have e1 := Heap.get?_push_size (s.heap.push { cls := .type "tuple_iterator", data := .fields #[.ref t, .int 0 0] }) (o := { cls := .type "enumerate", data := .fields #[.none, .bool false, .ref s.heap.objs.size, rawInt 0, .none, .none] }) rfl
  rw [sz] at e1
  exact ⟨⟨_, e1, rfl⟩, h _ e1 ⟨_, Heap.get?_push_of_some _ (Heap.get?_push_size _ rfl), rfl, rfl⟩ fun b o x => Heap.get?_push_of_some _ (Heap.get?_push_of_some _ x)⟩
end
def IteT (K : PySem.W.Frag) (a : Addr) : It :=
  ⟨fun i H => ∃ (xs : List V) (x : V), SqT K H a xs ∧ xs[i]? = some x, fun i H v H' => ∃ T x, v = .ref T ∧ H T = none ∧ H' = upd H T (.tup [.int (i : Nat), x]) ∧ ∀ xs, SqT K H a xs → xs[i]? = some x, fun i H => ∃ xs : List V, SqT K H a xs ∧ xs.length ≤ i⟩
theorem turn_enumT {P : Program} {w : World} {K : PySem.W.Frag} {elts : List Expr} {kk : Nat} {tpos : Pos} (a e it : Addr) :
    Turn P w K (.Tuple elts kk tpos) (IteT K a) [e, it] e (fun i h => (∃ old, IsEnum h e it ((i : Nat) : Int) old) ∧ h.IsTupleIter it a i ∧ e ≠ it) := by
  have apart : ∀ {h : Heap} {i : Nat} {old : Value} {k : Int} {us : Array Value}, IsEnum h e it k old → h.IsTupleIter it a i → h.IsTuple a us → a ≠ it ∧ e ∉ [it, a] ∨ e = it := by
    intro h i old k us he hi ht
    by_cases q : e = it
    · exact .inr q
    · obtain ⟨o1, h1, c1, _⟩ := hi
      obtain ⟨o2, h2, c2, _⟩ := ht
      refine .inl ⟨fun z => ?_, fun z => ?_⟩
      · subst z; rw [h1] at h2; cases h2; rw [c1] at c2; exact absurd c2 (by decide)
      · rcases List.mem_cons.mp z with z | z
        · exact q z
        · obtain rfl := List.mem_singleton.mp z
          rw [show h.get? e = some _ from he] at h2; cases h2; exact absurd (show Value.type "enumerate" = Value.type "tuple" from c2) (by decide)
  constructor
  case mem => exact List.mem_cons_self
  case self => exact fun A i s Q E st z => st.1.elim fun _ he => wpAny_pyIter_enum he z
  case keep => exact fun i h h' st k => ⟨st.1.elim fun old he => ⟨old, k e (by simp) _ he⟩, st.2.1.at fun o q => k it (by simp) o q, st.2.2⟩
  case obj =>
    intro i h st b hb
    rcases List.mem_cons.mp hb with rfl | hb
    · obtain ⟨old, he⟩ := st.1; exact ⟨_, he, fun v q => nomatch q⟩
    · obtain rfl := List.mem_singleton.mp hb
      obtain ⟨o, ho, _, hd⟩ := st.2.1
      exact ⟨o, ho, fun v q => by rw [hd] at q; exact nomatch q⟩
  case item =>
    rintro X rfl rfl rfl hc i pins s σ H E I hf ⟨⟨old, he⟩, hit, hne⟩ ⟨xs, x, hq, hx⟩
    obtain ⟨us, rv, isT, _⟩ := I.tuple hq
    obtain ⟨u, hu, ru⟩ := rv.get hx
    have tt : s.heap.IsTuple a us.toArray := isT
    rcases apart he hit tt with ⟨ha, hn⟩ | z
    case inr => exact absurd z hne
    have hlt : i < us.toArray.size := by have := (List.getElem?_eq_some_iff.mp hu).1; simpa using this
    have le : e < s.heap.objs.size := Heap.lt_size he
    have li : it < s.heap.objs.size := hit.elim fun _ q => Heap.lt_size q.1
    refine wpAny_pyNext_enum_itemD (Draws.tuple (A := X.A.in1) (I.ok.hd hc) it a ha us.toArray) he ⟨hit, tt⟩ hlt hne hn fun u' h1 tk hu' out st' new sz k1 => ?_
    obtain rfl : u' = u := Option.some.inj (hu'.symm.trans (by simpa using hu))
    refine ⟨_, rfl, wpAny_letOwnedTupleGo_enum (s := { s with heap := h1, toks := tk + 1 }) out fun h2 back sb => ?_⟩
    have pair := (sb.2 _ (Nat.ne_of_gt le)).trans new
    have ok : ObjOk X.prog X.w (upd H s.heap.objs.size (.tup [.int (i : Nat), x])) h2 s.heap.objs.size (.tup [.int (i : Nat), x]) := ⟨by show 2 ≤ sizeLine; decide, [.int i tk, u'], .cons ⟨_, rfl⟩ (.cons ru .nil), ⟨_, pair, rfl, _, rfl⟩⟩
    have J : Inv X pins σ (upd H s.heap.objs.size (.tup [.int (i : Nat), x])) { s with heap := h2, toks := tk + 1 } :=
      I.turnedNew (ch := [e, it]) (fun b ob nb q => (sb.2 b fun z => nb (z ▸ List.mem_cons_self)).trans (k1 b ob (fun z => nb (z ▸ List.mem_cons_self)) (fun z => nb (by rw [z]; simp)) q)) hf (Nat.le_refl _) ok
    have one : ((i + 1 : Nat) : Int) = (i : Int) + 1 := rfl
    refine ⟨.ref s.heap.objs.size, _, J, rfl, ⟨_, x, rfl, I.hok.fresh (Nat.le_refl _), rfl, fun ys hy => by rw [I.tuple_inj hy hq]; exact hx⟩, ⟨⟨u', by rw [one]; exact back⟩, st'.1.at fun o q => (sb.2 it (Ne.symm hne)).trans q, hne⟩, fun b hb => ?_⟩
    have lb : b < s.heap.objs.size := (List.mem_cons.mp hb).elim (fun z => z ▸ le) fun z => List.mem_singleton.mp z ▸ li
    rw [upd_ne (Nat.ne_of_lt lb)]
    exact (hf b hb).1
  case done =>
    rintro X rfl rfl rfl hc i pins s σ H E I hf ⟨⟨old, he⟩, hit, hne⟩ ⟨xs, hq, hx⟩
    obtain ⟨us, rv, isT, _⟩ := I.tuple hq
    have tt : s.heap.IsTuple a us.toArray := isT
    rcases apart he hit tt with ⟨ha, hn⟩ | z
    case inr => exact absurd z hne
    have none' : us.toArray[i]? = none := by have := rv.length; simp; omega
    have D : Draws X.prog X.w X.A.in1 it [it, a] 0 (fun _ _ => False) (fun _ h => h.IsTupleIter it a i ∧ h.IsTuple a us.toArray) :=
      { live := fun _ _ st => st.1.elim fun o z => ⟨o, z.1⟩
        frame := fun _ _ _ st hk => ⟨st.1.at fun o q => hk it (by simp) o q, st.2.at fun o q => hk a (by simp) o q⟩
        item := fun _ _ _ _ z => absurd z (Nat.not_lt_zero _)
        done := fun _ _ _ st z => RZ.nextOf_tuple_end (I.ok.hd hc) st.1 st.2 none' z }
    obtain ⟨f0, f1, f2, f3, f4, f5⟩ := hf it (by simp)
    exact wpAny_pyNext_enum_endD D he ⟨hit, tt⟩ fun h' eb => ⟨rfl, I.turned (t' := s.toks) (fun b o hb q => eb b o hb q) f0 f1 f3 f4 f5⟩
def iEnumA (K : PySem.W.Frag) (ta : TA) : TI := fun σ H R => ta σ H fun vs H1 => ∃ a xs, vs = [.ref a] ∧ ((SqL K H1 a xs ∧ R (Ite K a) H1) ∨ (SqT K H1 a xs ∧ R (IteT K a) H1))
theorem pi_enumA {X : Cx} {e : Expr} {ta : TA} {p pos tpos : Pos} {elts : List Expr} {kk : Nat} (hg : Gl X "enumerate") (hm : X.mg "enumerate" = none) (ha : PA X [e] ta) (hs : starEach [e] X.env = [(false, eval e X.env)] := by rfl) :
    PI X (.Tuple elts kk tpos) (.Call (.Name "enumerate" p) [e] [] pos) (iEnumA X.K ta) := by
  refine ⟨fun pins s σ H R I h => ?_⟩
  refine Call_ (ld_blt I hg hm boot_enumerate (PyProof.Rows.callWith_type1 (thn (ha.run pos pins s σ H _ I h) fun us s1 ⟨vs, H1, I1, r1, q1⟩ => ?_) hs rfl))
  obtain ⟨a, xs, ex, q1⟩ := q1
  subst ex
  cases r1 with
  | cons r rr =>
    cases rr
    cases r
    rcases q1 with ⟨hq, q⟩ | ⟨hq, q⟩
    · obtain ⟨its, rv, p', hz⟩ := I1.list hq
      refine call_enumerate_list p'.isList fun h' he hit hsz hk => wpAny_pyIter_enum he ?_
      have I2 : Inv X pins σ H1 { s1 with heap := h' } := I1.kept (t' := s1.toks) hk
      refine ⟨s1.heap.objs.size + 1, [s1.heap.objs.size + 1, s1.heap.objs.size], _, _, H1, rfl, I2, turn_enum a (s1.heap.objs.size + 1) s1.heap.objs.size, ⟨⟨.none, he⟩, hit, Nat.succ_ne_self _⟩, fun b hb => ?_, q⟩
      have e' : b = s1.heap.objs.size + 1 ∨ b = s1.heap.objs.size := by simpa using hb
      have hle : s1.heap.objs.size ≤ b := by
        rcases e' with z | z
        · rw [z]; exact Nat.le_add_right _ _
        · rw [z]; exact Nat.le_refl _
      exact I1.fpOk hle (I1.hok.fresh hle)
    · obtain ⟨its, rv, p', hz⟩ := I1.tuple hq
      refine call_enumT (show s1.heap.IsTuple a its.toArray from p') fun h' he hit hk => wpAny_pyIter_enum he ?_
      have I2 : Inv X pins σ H1 { s1 with heap := h' } := I1.kept (t' := s1.toks) hk
      refine ⟨s1.heap.objs.size + 1, [s1.heap.objs.size + 1, s1.heap.objs.size], _, _, H1, rfl, I2, turn_enumT a (s1.heap.objs.size + 1) s1.heap.objs.size, ⟨⟨.none, he⟩, hit, Nat.succ_ne_self _⟩, fun b hb => ?_, q⟩
      have e' : b = s1.heap.objs.size + 1 ∨ b = s1.heap.objs.size := by simpa using hb
      have hle : s1.heap.objs.size ≤ b := by
        rcases e' with z | z
        · rw [z]; exact Nat.le_add_right _ _
        · rw [z]; exact Nat.le_refl _
      exact I1.fpOk hle (I1.hok.fresh hle)

def itEnumA (f : DenL) : ItD := fun ev M => (f ev M).bind fun ds M1 => match ds with
  | [.ref n] => match getL M1 n with
    | some xs => .ok (pairsD 0 xs, cellIs n xs) M1
    | none => .st
  | [.tup xs] => .ok (pairsD 0 xs, yes) M1
  | _ => .st
def itZipA (f : DenL) : ItD := fun ev M => (f ev M).bind fun ds M1 => match ds with
  | [.ref n, .ref m] => match getL M1 n, getL M1 m with
    | some xs, some ys => .ok (zipD xs ys, fun M => cellIs n xs M && cellIs m ys M) M1
    | _, _ => .st
  | [.tup xs, .tup ys] => .ok (zipD xs ys, yes) M1
  | _ => .st
section
variable {X : Cx} {G : GC} {W : WX} {e l tg : Expr} {es : List Expr} {fe : Den} {fl : DenL} {pos p : Pos} {pr : Bool}
theorem walkD_enumT {a : Addr} {xs : List D} {vs : List V} {ρ0 : Nat → Addr} {N0 : Nat} {H0 : Hp} (ha : TupAt G.K H0 a vs) (rl : RepL G ρ0 N0 H0 xs vs) : WalkD true G (IteT G.K a) (pairsD 0 xs) yes ρ0 N0 H0 where
  goes := fun i ρ H M hi g r c => by
    rw [pairsD_length] at hi
    have hl := rl.length
    exact ⟨vs, vs[i], (g.sqt ha).sq, by simp [show i < vs.length by omega]⟩
  stops := fun ρ H M g r c => ⟨vs, (g.sqt ha).sq, by rw [rl.length, pairsD_length]; exact Nat.le_refl _⟩
  yields := fun i ρ H M x H' hi g r c y => by
    obtain ⟨T, v, rfl, hT, rfl, hx⟩ := y
    obtain ⟨d, hd, rv⟩ := rl.get' (hx vs (g.sqt ha).sq)
    have gf : Grow G ρ M.length H ρ M.length (upd H T (.tup [.int (i : Nat), v])) := grow_fresh hT
    exact ⟨gf, r.fresh hT, _, pairsD_get xs 0 i d hd, T, _, _, _, _, rfl, rfl, upd_same, by simp only [RepV, Nat.zero_add], (rv.grow g).grow gf⟩
theorem w_enumA {a : Expr} {elts : List Expr} {kk : Nat} {tpos : Pos} (hK : G.K = X.K) (hg : Gl X "enumerate") (hm : X.mg "enumerate" = none) (ha : PA X [a] (tL X G W fl)) (hs : starEach [a] X.env = [(false, eval a X.env)]) :
    PI X (.Tuple elts kk tpos) (.Call (.Name "enumerate" p) [a] [] pos) (tW true X G W (itEnumA fl)) := by
  refine PI.imp (pi_enumA hg hm ha hs) fun σ H R ⟨ρ, M, ev, r, er, p⟩ => ⟨ρ, M, ev, r, er, p.step fun d M1 ρ1 H1 eq g1 r1 p1 vs rl => ?_⟩
  skip
  split at p1
  · rename_i n
    simp only [RepL] at rl
    obtain ⟨v, t, rfl, rv, rfl⟩ := rl
    obtain ⟨hn, rfl⟩ := rv.ref'
    split at p1
    · rename_i xs e
      obtain ⟨ws, hq, rl⟩ := rel_getL r1 e
      exact ⟨_, ws, rfl, .inl ⟨hK ▸ hq, hK ▸ p1 ρ1 H1 .refl r1 _ (walkD_enum hn)⟩⟩
    · exact p1.elim
  · rename_i xs
    simp only [RepL] at rl
    obtain ⟨v, t, rfl, rv, rfl⟩ := rl
    obtain ⟨a, ws, rfl, ha, rl⟩ := RepV.tup' rv
    exact ⟨_, ws, rfl, .inr ⟨hK ▸ ha.sq, hK ▸ p1 ρ1 H1 .refl r1 _ (walkD_enumT ha rl)⟩⟩
  · exact p1.elim
theorem walkD_zipT {a b : Addr} {xs ys : List D} {vs us : List V} {ρ0 : Nat → Addr} {N0 : Nat} {H0 : Hp} (ha : TupAt G.K H0 a vs) (rl : RepL G ρ0 N0 H0 xs vs) (hb : TupAt G.K H0 b us) (rl2 : RepL G ρ0 N0 H0 ys us) : WalkD true G (RZ.ItzT G.K a b) (zipD xs ys) yes ρ0 N0 H0 where
  goes := fun i ρ H M hi g r c => by
    rw [zipD_length] at hi
    have hl := rl.length
    have hl2 := rl2.length
    exact ⟨vs, us, vs[i]'(by omega), us[i]'(by omega), (g.sqt ha).sq, (g.sqt hb).sq, by simp [show i < vs.length by omega], by simp [show i < us.length by omega]⟩
  stops := fun ρ H M g r c => by
    refine ⟨vs, us, (g.sqt ha).sq, (g.sqt hb).sq, ?_⟩
    rw [zipD_length, rl.length, rl2.length]
    omega
  yields := fun i ρ H M x H' hi g r c y => by
    obtain ⟨T, v, w, rfl, hT, rfl, hx, hy⟩ := y
    obtain ⟨d, hd, rv⟩ := rl.get' (hx vs (g.sqt ha).sq)
    obtain ⟨e, he, rw'⟩ := rl2.get' (hy us (g.sqt hb).sq)
    have gf : Grow G ρ M.length H ρ M.length (upd H T (.tup [v, w])) := grow_fresh hT
    exact ⟨gf, r.fresh hT, _, zipD_get xs ys i d e hd he, T, _, _, _, _, rfl, rfl, upd_same, (rv.grow g).grow gf, (rw'.grow g).grow gf⟩
theorem w_zipA {a b : Expr} {elts : List Expr} {kk : Nat} {tpos : Pos} (hK : G.K = X.K) (hg : Gl X "zip") (hm : X.mg "zip" = none) (ha : PA X [a, b] (tL X G W fl)) (hs : starEach [a, b] X.env = (false, eval a X.env) :: starEach [b] X.env) (hpl : (backTo pos (starEach [b] X.env)).any (·.1) = false) :
    PI X (.Tuple elts kk tpos) (.Call (.Name "zip" p) [a, b] [] pos) (tW true X G W (itZipA fl)) := by
  refine PI.imp (RZ.pi_zipA hg hm ha hs hpl) fun σ H R ⟨ρ, M, ev, r, er, p⟩ => ⟨ρ, M, ev, r, er, p.step fun d M1 ρ1 H1 eq g1 r1 p1 vs rl => ?_⟩
  skip
  split at p1
  · rename_i n m
    simp only [RepL] at rl
    obtain ⟨v, t, rfl, rv, w, t2, rfl, rw', rfl⟩ := rl
    obtain ⟨hn, rfl⟩ := rv.ref'
    obtain ⟨hm', rfl⟩ := rw'.ref'
    split at p1
    · rename_i xs ys e e2
      obtain ⟨ws, hq, rl⟩ := rel_getL r1 e
      obtain ⟨us, hq2, rl2⟩ := rel_getL r1 e2
      exact ⟨_, _, ws, us, rfl, .inl ⟨hK ▸ hq, hK ▸ hq2, hK ▸ p1 ρ1 H1 .refl r1 _ (walkD_zip hn hm')⟩⟩
    · exact p1.elim
  · rename_i xs ys
    simp only [RepL] at rl
    obtain ⟨v, t, rfl, rv, w, t2, rfl, rw', rfl⟩ := rl
    obtain ⟨a, ws, rfl, ha, rl⟩ := RepV.tup' rv
    obtain ⟨b, us, rfl, hb, rl2⟩ := RepV.tup' rw'
    exact ⟨_, _, ws, us, rfl, .inr ⟨hK ▸ ha.sq, hK ▸ hb.sq, hK ▸ p1 ρ1 H1 .refl r1 _ (walkD_zipT ha rl hb rl2)⟩⟩
  · exact p1.elim
end
end MI

set_option Elab.async false
set_option linter.all false
set_option maxRecDepth 100000
set_option maxHeartbeats 2000000
/-! rules in short for own classes, isinstance, loops over two things; recursion -/
namespace MI
open PySem PySem.Spec PyProof.Rows L2
def clsBody (s : Stmt) : List Stmt := match s with
  | .ClassDef _ _ _ b _ _ _ _ _ _ _ => b
  | _ => []
def mthS (s : Stmt) (j : Nat) : Stmt := (clsBody s).getD j (.Pass default)
/-- a method at hand -/
theorem funM_mk {K : PySem.W.Frag} {x qual : Str} {st : Stmt} {f : Addr} {oc : Value} {od an : Option Addr} {osl : Array (Option Value)} {kV doc pm cdv ct : Value}
    (l : K.lookup f = some ⟨oc, od, .func (PySem.W.fnOf x qual (defArgs st) (defBody st) (defScope st) .none kV doc pm an cdv ct), osl⟩)
    (c : PySem.W.codeIn K cdv qual = true) (k : PySem.W.keepIn K (.ref f) = true) : L2.Fun K x qual st f (PySem.W.fnOf x qual (defArgs st) (defBody st) (defScope st) .none kV doc pm an cdv ct) :=
  ⟨⟨oc, od, kV, doc, pm, an, cdv, ct, osl, rfl, l, c⟩, k⟩
theorem fnM_den {calm : Bool} {P : Program} {w : World} {K : PySem.W.Frag} {mg : Str → Option Value} {base : Heap} {N ps : List Str} {x qual : Str} {st : Stmt} {f : Addr} {fd : FuncData} {k : Nat} {G : GC} {b : DenS} (E : L2.Fun K x qual st f fd) (hK : G.K = K) (S : FnScope N ps (defScope st))
    (hbody : ∀ (cdv : Value) (A : Around) (outer : List PySem.Env) (s : Shared) (H : Hp) (E : XK), Ctx (cxG calm P w K mg base N qual (defScope st) f cdv A outer s H E) G (fun c d _ H => E c d H) k →
      PassesOwn (model P w) (A.deeper (envOfC qual (defScope st) s.heap.objs.size f cdv)) (envOfC qual (defScope st) s.heap.objs.size f cdv) (cxG calm P w K mg base N qual (defScope st) f cdv A outer s H E).xe →
      PSs (cxG calm P w K mg base N qual (defScope st) f cdv A outer s H E) (defBody st) (tS (cxG calm P w K mg base N qual (defScope st) f cdv A outer s H E) G (fun c d _ H => E c d H) b)) :
    FnG calm P w K mg base (k + 1) f fd ps (spI G ps.length (runB N.length b)) := by
  obtain ⟨⟨oc, od, kV, doc, pm, an, cdv, ct, osl, rfl, lk, hcd⟩, _⟩ := E
  exact fn_den lk hcd S fun A outer s H E hr => hbody cdv A outer s H E ⟨hK, takesG, hr⟩ passesG
/-- a def that is stuck: for the end of a recursion -/
def stuckF : Fun := fun _ _ => .st
theorem fn_stuck {calm : Bool} {P : Program} {w : World} {K : PySem.W.Frag} {mg : Str → Option Value} {base : Heap} {ps : List Str} {f : Addr} {fd : FuncData} {k : Nat} {G : GC} : FnG calm P w K mg base k f fd ps (spI G ps.length stuckF) :=
  ⟨fun vs H Q E h => h.1, fun A outer s H args us vs Q E _ _ _ _ h => by
    obtain ⟨_, ρ, M, ds, _, _, p⟩ := h
    exact p.elim⟩
theorem FnG.mono {calm : Bool} {P : Program} {w : World} {K : PySem.W.Frag} {mg : Str → Option Value} {base : Heap} {ps : List Str} {f : Addr} {fd : FuncData} {k j : Nat} {sp : Sp} (F : FnG calm P w K mg base j f fd ps sp) (h : j ≤ k) : FnG calm P w K mg base k f fd ps sp :=
  ⟨F.len, fun A outer s H args us vs Q E hr => F.run A outer s H args us vs Q E (hr.mono h)⟩
section
variable {X : Cx} {G : GC} {W : WX} {k : Nat} {a b c e : Expr} {es : List Expr} {fa fb fc fe : Den} {fl fk : DenL} {ta tb : DenT} {pos p p2 : Pos} {x : Str}
/-! own classes -/
theorem make_ {j : Nat} {cn : Str} {C fI : Addr} {fd : FuncData} {ps : List Str} {f : Fun} (Cx : Ctx X G W k) (E : MkE X.K X.mg x C fI) (F : FnG X.calm X.prog X.w X.K X.mg X.base j fI fd ps (spI G ps.length f)) (hb : ∀ us : List Value, us.length = ps.length → bindArgs fd ⟨us, []⟩ = pure (ps.zip us))
    (hC : G.ca cn = C) (ha : PA X (e :: es) (tL X G W fl)) (hn : ∀ ev M ds M1, fl ev M = .ok ds M1 → ds.length + 1 = ps.length) (hj : j + 1 ≤ k := by first | decide | omega) (hg : Gl X x := by rfl) (hdb : (x == ("__debug__" : Str)) = false := by decide)
    (he : starEach (e :: es) X.env = (false, eval e X.env) :: starEach es X.env := by rfl) (hpl : (backTo pos (starEach es X.env)).any (·.1) = false := by rfl) :
    PE X (.Call (.Name x p) (e :: es) [] pos) (tI X G W (dMake cn f fl)) := i_make Cx.hK Cx.tk hC E F (Cx.rm.mono hj) hb ha hn hg hdb he hpl
theorem make0 {j : Nat} {cn : Str} {C fI : Addr} {fd : FuncData} {ps : List Str} {f : Fun} (Cx : Ctx X G W k) (E : MkE X.K X.mg x C fI) (F : FnG X.calm X.prog X.w X.K X.mg X.base j fI fd ps (spI G ps.length f)) (hb : ∀ us : List Value, us.length = ps.length → bindArgs fd ⟨us, []⟩ = pure (ps.zip us))
    (hC : G.ca cn = C) (hn : ps.length = 1 := by rfl) (hj : j + 1 ≤ k := by first | decide | omega) (hg : Gl X x := by rfl) (hdb : (x == ("__debug__" : Str)) = false := by decide) :
    PE X (.Call (.Name x p) [] [] pos) (tI X G W (dMake cn f dNil)) := i_make0 Cx.hK Cx.tk hC E F (Cx.rm.mono hj) hb hn hg hdb
theorem makeK0 {j : Nat} {cn : Str} {C fI : Addr} {fd : FuncData} {ps : List Str} {f : Fun} {kws : List Keyword} {ks : List Str} {S : List (Nat ⊕ D)} (Cx : Ctx X G W k) (E : MkE X.K X.mg x C fI) (F : FnG X.calm X.prog X.w X.K X.mg X.base j fI fd ps (spI G ps.length f)) (hb : CBindS X.K fd ps 0 ks S)
    (hC : G.ca cn = C) (hkw : PK X kws (tL X G W fk)) (hj : j + 1 ≤ k := by first | decide | omega) (hg : Gl X x := by rfl) (hdb : (x == ("__debug__" : Str)) = false := by decide) (hall : (backToKw pos (keywordEach kws X.env)).all (·.1.isSome) = true := by rfl) (hks : (backToKw pos (keywordEach kws X.env)).filterMap (·.1) = ks := by rfl)
    (hpl : ((backTo pos (starEach [] X.env)).any (·.1) || (backToKw pos (keywordEach kws X.env)).any (·.1.isNone)) = false := by rfl) :
    PE X (.Call (.Name x p) [] kws pos) (tI X G W (dMakeK cn f 0 ks.length S dNil fk)) := i_makeK0 Cx.hK Cx.tk hC E F (Cx.rm.mono hj) hb hkw hg hdb hall hks hpl
theorem fld {o : Expr} {fo : Den} {g : Str} (cs : List Str) (hO : ∀ c ∈ cs, Cls X.K (G.ca c) ∧ NoAttr X.K (G.ca c) g) (ho : PE X o (tI X G W fo)) (hb : attributeBase o g X.env (eval o X.env) = eval o X.env := by rfl) : PE X (.Attribute o g pos) (tI X G W (dOp1 (opFld cs g) fo)) := i_fld hO ho hb
theorem setF {o : Expr} {fo fe : Den} {g : Str} {p' : Pos} (cs : List Str) (hO : ∀ c ∈ cs, Cls X.K (G.ca c) ∧ NoAttr X.K (G.ca c) g) (he : PE X e (tI X G W fe)) (ho : PE X o (tI X G W fo)) (hs : swapsWith e (some (.Attribute o g p')) pos.line X.env = pure false := by rfl) :
    PS X (.Assign [.Attribute o g p'] e pos) (tS X G W (sSetF cs g fo fe)) := s_fld hO ho he hs
theorem cs1 {K : PySem.W.Frag} {ca : Str → Addr} {cn g : Str} {C : Addr} {cs : List Str} (hC : ca cn = C) (h : Cls K C) (h2 : NoAttr K C g) (ht : ∀ c ∈ cs, Cls K (ca c) ∧ NoAttr K (ca c) g) : ∀ c ∈ cn :: cs, Cls K (ca c) ∧ NoAttr K (ca c) g := fun c hc => by
  rcases List.mem_cons.mp hc with rfl | hc
  · rw [hC]; exact ⟨h, h2⟩
  · exact ht c hc
theorem cs0 {K : PySem.W.Frag} {ca : Str → Addr} {g : Str} : ∀ c ∈ ([] : List Str), Cls K (ca c) ∧ NoAttr K (ca c) g := fun c hc => by cases hc
/-! methods of own classes -/
theorem mOwn {name : Str} {tbl : List MEnt} (C : Ctx X G W k) (h : ∀ m ∈ tbl, MEntOk X G name m) : MetR X G W name (mO name tbl) := met_O C.tk h
theorem me0 {name : Str} : ∀ m ∈ ([] : List MEnt), MEntOk X G name m := fun m h => by cases h
theorem me1 {name cn : Str} {C fa : Addr} {n j : Nat} {f : Fun} {fd : FuncData} {ps : List Str} {tbl : List MEnt} (Cx : Ctx X G W k) (hC : G.ca cn = C) (hcl : Cls X.K C) (hm : Meth X.K C name fa) (F : FnG X.calm X.prog X.w X.K X.mg X.base j fa fd ps (spI G ps.length f))
    (hb : ∀ us : List Value, us.length = ps.length → bindArgs fd ⟨us, []⟩ = pure (ps.zip us)) (hps : ps.length = n + 1) (ht : ∀ m ∈ tbl, MEntOk X G name m) (hj : j ≤ k := by first | decide | omega) : ∀ m ∈ (⟨cn, n, f⟩ : MEnt) :: tbl, MEntOk X G name m := fun m h => by
  rcases List.mem_cons.mp h with rfl | h
  · exact ⟨by rw [show G.ca _ = C from hC]; exact hcl, j, fa, fd, ps, by rw [show G.ca _ = C from hC]; exact hm, F, Cx.rm.mono hj, hps, hb⟩
  · exact ht m h
/-- with keywords -/
structure MEntK where
  c : Str
  n : Nat
  S : List (Nat ⊕ D)
  f : Fun
def findK (name : Str) (tbl : List MEntK) : D → Mem → Option MEntK := fun d M => match d with
  | .ref n => match M[n]? with
    | some (.ins c fs) => if (fs.lookup name).isSome then none else tbl.find? fun m => m.c == c
    | _ => none
  | _ => none
def dMetK (name : Str) (tbl : List MEntK) (l : Nat) (o : Den) (a b : DenL) : Den := fun ev M => (o ev M).bind fun d M1 => match findK name tbl d M1 with
  | some m => (a ev M1).bind fun xs M2 => (b ev M2).bind fun ys M3 => if xs.length = m.n ∧ ys.length = l then (match pickD m.S (xs ++ ys) with
    | some zs => m.f (d :: zs) M3
    | none => .st) else .st
  | none => .st
structure MEntKOk (X : Cx) (G : GC) (name : Str) (ks : List Str) (m : MEntK) : Prop where
  cls : Cls X.K (G.ca m.c)
  ex : ∃ (j : Nat) (fa : Addr) (fd : FuncData) (ps : List Str), Meth X.K (G.ca m.c) name fa ∧ FnG X.calm X.prog X.w X.K X.mg X.base j fa fd ps (spI G ps.length m.f) ∧ RoomG X.calm j X.A ∧ CBindS X.K fd ps m.n ks m.S
theorem noF {G : GC} {ρ : Nat → Addr} {N : Nat} {H : Hp} {name : Str} : ∀ {fs : List (Str × D)} {vs : List (Str × V)}, RepF G ρ N H fs vs → fs.lookup name = none → vs.lookup name = none := by
  intro fs
  induction fs with
  | nil => intro vs h _; rw [show vs = [] from h]; rfl
  | cons a fs ih =>
    intro vs h e
    obtain ⟨g, x⟩ := a
    obtain ⟨y, t, rfl, _, h2⟩ := h
    by_cases hg : name = g
    · subst hg; simp [List.lookup] at e
    · have hg' : (name == g) = false := by simpa using hg
      simp only [List.lookup, hg'] at e ⊢
      exact ih h2 e
theorem findK_some {name : Str} {tbl : List MEntK} {d : D} {M : Mem} {m : MEntK} (h : findK name tbl d M = some m) : ∃ n fs, d = .ref n ∧ M[n]? = some (.ins m.c fs) ∧ fs.lookup name = none ∧ m ∈ tbl := by
  unfold findK at h
  split at h
  · rename_i n
    split at h
    · rename_i c fs em
      split at h
      · cases h
      · rename_i hno
        have hm := List.mem_of_find?_eq_some h
        have hc : m.c = c := by simpa using List.find?_some h
        subst hc
        refine ⟨n, fs, rfl, em, ?_, hm⟩
        cases el : fs.lookup name with
        | none => rfl
        | some _ => rw [el] at hno; exact absurd rfl hno
    · cases h
  · cases h
theorem i_metK0 {o : Expr} {fo : Den} {name : Str} {tbl : List MEntK} {kws : List Keyword} {ks : List Str} {apos : Pos} {pl : Sem Bool} (tk : Takes X W) (hm : ∀ m ∈ tbl, MEntKOk X G name ks m) (ho : PE X o (tI X G W fo)) (hkw : PK X kws (tL X G W fk))
    (hall : (backToKw pos (keywordEach kws X.env)).all (·.1.isSome) = true) (hks : (backToKw pos (keywordEach kws X.env)).filterMap (·.1) = ks) (hpl : ((backTo pos (starEach [] X.env)).any (·.1) || (backToKw pos (keywordEach kws X.env)).any (·.1.isNone)) = false) (hn0 : ∀ m ∈ tbl, m.n = 0)
    (ht : eval (.Call (.Attribute o name apos) [] kws pos) X.env = (do
      let ov ← eval o X.env
      standAt apos.atName
      let (f, first) ← holding [ov] (getMethod ov name pl)
      callWith pos f first (backTo pos (starEach [] X.env)) (backToKw pos (keywordEach kws X.env)))) :
    PE X (.Call (.Attribute o name apos) [] kws pos) (tI X G W (dMetK name tbl ks.length fo dNil fk)) := by
  refine ⟨fun pins s σ H Q I h => ?_⟩
  obtain ⟨ρ, M, ev, r, er, p⟩ := h
  have q : tI X G W fo σ H fun x H1 => ∃ ρ1 M1 d, Rel G ρ1 H1 M1 ∧ RepV G ρ1 M1.length H1 d x ∧ RepE X G ρ1 M1.length H1 σ ev ∧ ∃ m, findK name tbl d M1 = some m ∧ PostR G W σ ρ1 M1.length H1 (GV G Q) ((fk ev M1).bind fun ys M3 => if ([] : List D).length = m.n ∧ ys.length = ks.length then (match pickD m.S ([] ++ ys) with
      | some zs => m.f (d :: zs) M3
      | none => .st) else .st) :=
    ⟨ρ, M, ev, r, er, p.step fun d M1 ρ1 H1 _ g1 r1 p1 v rv => by
      split at p1
      · rename_i g eg
        exact ⟨ρ1, M1, d, r1, rv, er.grow g1, g, eg, p1⟩
      · exact p1.elim⟩
  refine PySem.W.methodCall_KW (pl := pl) (thn (ho.run pins s σ H _ I q) fun u s1 ⟨x, H1, I1, rx, ρ1, M1, d, r1, rv, er1, m, eg, p1⟩ => ?_) ht
  obtain ⟨n, fs, rfl, em, hno, hmem⟩ := findK_some eg
  obtain ⟨hcl, j, fa, fd, ps, hmeth, F, hr, hb⟩ := hm m hmem
  obtain ⟨T, hT, hTl, hB⟩ := hb.ex
  obtain ⟨hn, rfl⟩ := rv.ref'
  cases rx
  obtain ⟨dx, vs, hq, rf⟩ := r1.cell n _ em
  refine getmeth_ok I1 hq hcl hmeth (noF rf hno) ?_
  have q2 : tL X G W fk σ H1 fun zs H2 => ∃ (ρ2 : Nat → Addr) (M2 : Mem) (ys ds : List D), Grow G ρ1 M1.length H1 ρ2 M2.length H2 ∧ Rel G ρ2 H2 M2 ∧ RepL G ρ2 M2.length H2 ys zs ∧ zs.length = ks.length ∧ pickD m.S ys = some ds ∧ PostR G W σ ρ2 M2.length H2 (GV G Q) (m.f (.ref n :: ds) M2) :=
    ⟨ρ1, M1, ev, r1, er1, p1.step fun ys M2 ρ2 H2 _ g2 r2 p2 zs rz => by
      split at p2
      · rename_i hl
        split at p2
        · rename_i ds e1
          exact ⟨ρ2, M2, ys, ds, g2, r2, rz, rz.length.trans hl.2, e1, p2⟩
        · exact p2.elim
      · exact p2.elim⟩
  refine PySem.W.callWith_KW0 (h₀ := X.base) I1.ok.mod.kin hmeth.kp hall (thn (hkw.run pos pins s1 σ H1 _ I1 q2) fun ws s2 ⟨zs, H2, I2, rz, ρ2, M2, ys, ds, g2, r2, rl, l2, e1, p2⟩ => ⟨I2.kIn, ?_⟩) hpl
  rw [hks]
  obtain ⟨vv, a1, a2⟩ := pick_ok rl rz hT e1
  have hself := (show RepV G ρ1 M1.length H1 (.ref n) (.ref (ρ1 n)) from rv).grow g2
  have hval : Vals (V.ref (ρ1 n) :: vv) (Value.ref (ρ1 n) :: pickU T ws) := .cons rfl a1
  have hlen : pickU T ws = pickU T ([] ++ ws) := rfl
  exact call_fnG (us := Value.ref (ρ1 n) :: pickU T ws) (vs := .ref (ρ1 n) :: vv) F hr (passAt tk σ) I2 (hB s2 (.ref (ρ1 n)) [] ws I2.kIn (hn0 m hmem).symm (by rw [← rz.length]; exact l2)) hval
    ⟨by rw [List.length_cons, a1.length, pickU_len, hTl], ρ2, M2, .ref n :: ds, r2, .cons hself a2, p2.wish fun _ _ _ h => h⟩
theorem metK0 {o : Expr} {fo : Den} {name : Str} {tbl : List MEntK} {kws : List Keyword} {ks : List Str} {apos : Pos} {pl : Sem Bool} (C : Ctx X G W k) (hm : ∀ m ∈ tbl, MEntKOk X G name ks m) (ho : PE X o (tI X G W fo)) (hkw : PK X kws (tL X G W fk))
    (hall : (backToKw pos (keywordEach kws X.env)).all (·.1.isSome) = true := by rfl) (hks : (backToKw pos (keywordEach kws X.env)).filterMap (·.1) = ks := by rfl) (hpl : ((backTo pos (starEach [] X.env)).any (·.1) || (backToKw pos (keywordEach kws X.env)).any (·.1.isNone)) = false := by rfl) (hn0 : ∀ m ∈ tbl, m.n = 0 := by decide)
    (ht : eval (.Call (.Attribute o name apos) [] kws pos) X.env = (do
      let ov ← eval o X.env
      standAt apos.atName
      let (f, first) ← holding [ov] (getMethod ov name pl)
      callWith pos f first (backTo pos (starEach [] X.env)) (backToKw pos (keywordEach kws X.env))) := by rfl) :
    PE X (.Call (.Attribute o name apos) [] kws pos) (tI X G W (dMetK name tbl ks.length fo dNil fk)) := i_metK0 C.tk hm ho hkw hall hks hpl hn0 ht
theorem mk0 {name : Str} {ks : List Str} : ∀ m ∈ ([] : List MEntK), MEntKOk X G name ks m := fun m h => by cases h
theorem mk1 {name cn : Str} {C fa : Addr} {n j : Nat} {ks : List Str} {S : List (Nat ⊕ D)} {f : Fun} {fd : FuncData} {ps : List Str} {tbl : List MEntK} (Cx : Ctx X G W k) (hC : G.ca cn = C) (hcl : Cls X.K C) (hm : Meth X.K C name fa) (F : FnG X.calm X.prog X.w X.K X.mg X.base j fa fd ps (spI G ps.length f))
    (hb : CBindS X.K fd ps n ks S) (ht : ∀ m ∈ tbl, MEntKOk X G name ks m) (hj : j ≤ k := by first | decide | omega) : ∀ m ∈ (⟨cn, n, S, f⟩ : MEntK) :: tbl, MEntKOk X G name ks m := fun m h => by
  rcases List.mem_cons.mp h with rfl | h
  · exact ⟨by rw [show G.ca _ = C from hC]; exact hcl, j, fa, fd, ps, by rw [show G.ca _ = C from hC]; exact hm, F, Cx.rm.mono hj, hb⟩
  · exact ht m h
/-! isinstance -/
def tbOf (l : List Tg) (t : Tg) : Bool := l.contains t
theorem isi {ce : Expr} {cV : V} {u : Value} (C : Ctx X G W k) (l : List Tg) (own : List (Str × Bool)) (hm : X.mg "isinstance" = none) (he : PE X e (tI X G W fe)) (hce : PE X ce (tC cV)) (hc : ClsV cV u)
    (hT : ∀ t : Tg, PySem.W.kitOne X.K (.type t.nm) u = some (tbOf l t)) (hO : ∀ c b, own.lookup c = some b → InsIs X.K (G.ca c) ∧ PySem.W.kitOne X.K (.ref (G.ca c)) u = some b) (hg : Gl X "isinstance" := by rfl)
    (hs : starEach [e, ce] X.env = (false, eval e X.env) :: starEach [ce] X.env := by rfl) (hs2 : starEach [ce] X.env = (false, eval ce X.env) :: starEach [] X.env := by rfl) (hpl : (backTo pos (starEach [ce] X.env)).any (·.1) = false := by rfl) :
    PE X (.Call (.Name "isinstance" p) [e, ce] [] pos) (tI X G W (dIsi (tbOf l) own fe)) := i_isi C.hK hg hm he hce hc hT hO hs hs2 hpl
theorem io0 {K : PySem.W.Frag} {ca : Str → Addr} {u : Value} : ∀ c b, ([] : List (Str × Bool)).lookup c = some b → InsIs K (ca c) ∧ PySem.W.kitOne K (.ref (ca c)) u = some b := fun c b h => by cases h
theorem io1 {K : PySem.W.Frag} {ca : Str → Addr} {u : Value} {cn : Str} {b0 : Bool} {C : Addr} {own : List (Str × Bool)} (hC : ca cn = C) (hI : InsIs K C) (hk : PySem.W.kitOne K (.ref C) u = some b0) (ht : ∀ c b, own.lookup c = some b → InsIs K (ca c) ∧ PySem.W.kitOne K (.ref (ca c)) u = some b) :
    ∀ c b, ((cn, b0) :: own).lookup c = some b → InsIs K (ca c) ∧ PySem.W.kitOne K (.ref (ca c)) u = some b := fun c b h => by
  rcases look_cons h with ⟨rfl, rfl⟩ | h
  · rw [hC]; exact ⟨hI, hk⟩
  · exact ht c b h
/-! two things at once -/
variable {tg : Expr} {elts : List Expr} {kk : Nat} {tpos : Pos}
theorem iEn {a : Expr} (C : Ctx X G W k) (hm : X.mg "enumerate" = none) (ha : PA X [a] (tL X G W fl)) (hg : Gl X "enumerate" := by rfl) (hs : starEach [a] X.env = [(false, eval a X.env)] := by rfl) :
    PI X (.Tuple elts kk tpos) (.Call (.Name "enumerate" p) [a] [] pos) (tW true X G W (itEnumA fl)) := w_enumA C.hK hg hm ha hs
theorem iZp {a b : Expr} (C : Ctx X G W k) (hm : X.mg "zip" = none) (ha : PA X [a, b] (tL X G W fl)) (hg : Gl X "zip" := by rfl) (hs : starEach [a, b] X.env = (false, eval a X.env) :: starEach [b] X.env := by rfl) (hpl : (backTo pos (starEach [b] X.env)).any (·.1) = false := by rfl) :
    PI X (.Tuple elts kk tpos) (.Call (.Name "zip" p) [a, b] [] pos) (tW true X G W (itZipA fl)) := w_zipA C.hK hg hm ha hs hpl
theorem iRv {a : Expr} (C : Ctx X G W k) (hm : X.mg "reversed" = none) (ha : PA X [a] (tL X G W fl)) (hg : Gl X "reversed" := by rfl) (hs : starEach [a] X.env = [(false, eval a X.env)] := by rfl) :
    PI X tg (.Call (.Name "reversed" p) [a] [] pos) (tW false X G W (itRev fl)) := w_rev C.hK hg hm ha hs
theorem iR3 {a b c : Expr} (hm : X.mg "range" = none) (ha : PA X [a, b, c] (tL X G W fl)) (h1 : ∀ ev M ds M1, fl ev M = .ok ds M1 → ds.length = 3) (hg : Gl X "range" := by rfl) (hs : starEach [a, b, c] X.env = (false, eval a X.env) :: starEach [b, c] X.env := by rfl) (hpl : (backTo pos (starEach [b, c] X.env)).any (·.1) = false := by rfl) :
    PI X tg (.Call (.Name "range" p) [a, b, c] [] pos) (tW false X G W (itRange fl)) := w_range3 hg hm ha hs hpl h1
theorem gtp {pr : Bool} {n : Nat} {u : TgDs} {is : List Nat} (hK : G.K = X.K) (h : PGs X es (tgRs X G u is)) (hl : gLen u n) (hc : X.calm = true := by rfl) (hn : (assignEach es X.env).length = n := by rfl) (hst : (assignEach es X.env).findIdx? (·.1) = none := by rfl) : PG X (.Tuple es kk pos) (tgR X G pr (gT u) is) := g_tup hK hc h hl hn hst
theorem g0 : PGs X [] (tgRs X G gNil []) := gs_nil
theorem g1 {g : TgD} {u : TgDs} {is js : List Nat} (h1 : PG X e (tgR X G false g is)) (h2 : PGs X es (tgRs X G u js)) (hs : (assignEach (e :: es) X.env).map (·.2) = assign e X.env :: (assignEach es X.env).map (·.2) := by rfl) : PGs X (e :: es) (tgRs X G (gCons g u) (is ++ js)) := gs_cons h1 h2 hs
end
/-- an own exception class without fields -/
structure ExE0 (P : Program) (w : World) (K : PySem.W.Frag) (mg : Str → Option Value) (x : Str) (C : Addr) : Prop where
  gl : mg x = some (.ref C)
  cls : OexC K C
  ini : ∃ (fI : Addr) (fd : FuncData) (self : Str), PySem.W.findIn K (.ref C) "__init__" = some (some (.ref fI)) ∧ PySem.W.typeIn K (.ref fI) = some (.type "function") ∧ (∀ us : List Value, us.length = 1 → bindArgs fd ⟨us, []⟩ = pure (([self] : List Str).zip us)) ∧
    ∀ base : Heap, FnOk P w K mg base (L2.CX P w) 1 fI fd [self] (sp0 C)
  is_ : ExcIs' K C
theorem raise0 {X : Cx} {G : GC} {W : WX} {k : Nat} {x : Str} {C : Addr} {p pos pos2 : Pos} (Cx : Ctx X G W k) (E : ExE0 X.prog X.w X.K X.mg x C) (c : Str) (hC : G.ca c = C) (hk : 2 ≤ k := by first | decide | omega) (hc : X.calm = true := by rfl) (hg : Gl X x := by rfl) (hdb : (x == ("__debug__" : Str)) = false := by decide) :
    PS X (.Raise (some (.Call (.Name x p) [] [] pos)) none pos2) (tS X G W (sRaise c 0 [] dNil)) := by
  obtain ⟨fI, fd, self, iC, tI', hb, F⟩ := E.ini
  exact s_raise0 hc Cx.tk hC E.cls iC tI' (F X.base) (Cx.rm.mono hk) hb hg E.gl hdb
end MI

set_option Elab.async false
set_option linter.all false
set_option maxRecDepth 100000
set_option maxHeartbeats 2000000
/-! list(range(..)), tuple(range(..)) -/
namespace MI
open PySem PySem.Spec PyProof.Rows L2
def rgD (fl : DenL) : Env → Mem → R (Int × Int) := fun ev M => (fl ev M).bind fun ds M1 => match ds with
  | [.int j] => if big j && decide (j ≤ 2 ^ 24) then .ok (0, j) M1 else .st
  | [.int i, .int j] => if big i && big j && decide (j - i ≤ 2 ^ 24) then .ok (i, j) M1 else .st
  | _ => .st
def dLstRg (fl : DenL) : Den := fun ev M => (rgD fl ev M).bind fun p M1 => .ok (.ref M1.length) (M1 ++ [.lst (rangeD p.1 (p.2 - p.1).toNat)])
def dTupRg (fl : DenL) : Den := fun ev M => (rgD fl ev M).bind fun p M1 => .ok (.tup (rangeD p.1 (p.2 - p.1).toNat)) M1
theorem rep_range {G : GC} {ρ : Nat → Addr} {N : Nat} {H : Hp} : ∀ (n : Nat) (lo : Int), RepL G ρ N H (rangeD lo n) ((List.range n).map fun i => V.int (lo + (i : Nat)))
  | 0, lo => .nil
  | n + 1, lo => by
    rw [List.range_succ_eq_map, List.map_cons, List.map_map]
    refine .cons (by simp only [RepV]; simp) ?_
    have := rep_range (G := G) (ρ := ρ) (N := N) (H := H) n (lo + 1)
    have e : ((fun i : Nat => V.int (lo + (i : Nat))) ∘ Nat.succ) = fun i : Nat => V.int (lo + 1 + (i : Nat)) := by
      funext i
      show V.int (lo + ((i + 1 : Nat) : Int)) = _
      congr 1
      omega
    rw [e]
    exact this
theorem rgV_rep {G : GC} {ρ : Nat → Addr} {N : Nat} {H : Hp} (a b : Int) : RepL G ρ N H (rangeD a (b - a).toNat) (rgV a b) := rep_range _ _
theorem rgOk_of {i j : Int} (h : (big i && big j && decide (j - i ≤ 2 ^ 24)) = true) : RgOk i j := by
  rw [Bool.and_eq_true, Bool.and_eq_true] at h
  obtain ⟨a1, a2⟩ := big_ok h.1.1
  obtain ⟨b1, b2⟩ := big_ok h.1.2
  have h3 := of_decide_eq_true h.2
  exact ⟨a1, a2, b1, b2, by omega⟩
theorem rgOk_of0 {j : Int} (h : (big j && decide (j ≤ 2 ^ 24)) = true) : RgOk 0 j := by
  rw [Bool.and_eq_true] at h
  obtain ⟨b1, b2⟩ := big_ok h.1
  have h3 := of_decide_eq_true h.2
  exact ⟨by omega, by omega, b1, b2, by omega⟩
section
variable {X : Cx} {G : GC} {W : WX} {k : Nat} {a b e : Expr} {fa fb : Den} {fl : DenL} {pos p p2 pos2 : Pos} {te : St → Hp → (Int → Int → Hp → Prop) → Prop}
def tTupRgF (te : St → Hp → (Int → Int → Hp → Prop) → Prop) : TE := fun σ H Q => te σ H fun a b H1 => RgOk a b ∧ ∀ q o, H1 q = none → o.dict = none → Q (.ref q) (upd H1 q (.frz o (.tup (rgV a b))))
theorem pe_tupRgF {p pos : Pos} (hc : X.calm = true) (hg : Gl X "tuple") (hm : X.mg "tuple" = none) (he : PRg X e te) (na : starEach [e] X.env = (false, eval e X.env) :: starEach [] X.env := by rfl) : PE X (.Call (.Name "tuple" p) [e] [] pos) (tTupRgF te) := by
  refine ⟨fun pins s σ H Q I h => ?_⟩
  refine Call_ (ld_blt I hg hm boot_tuple (PyProof.Rows.callWith_type1 (args_cons (thn (he pins s σ H _ I h) fun x s1 ⟨r, a, b, t, u, v, H1, ex, hr, I1, ok, q⟩ => args_nil ?_) na) na))
  subst ex
  obtain ⟨b1, b2, b3, b4, b5⟩ := ok
  refine call_tuple_range (n := (b - a).toNat) (I1.ok.hd hc) hr (small_one b1 b2 b3 b4) (rangeSize_nat a b) b5 fun h' tk acc hk hi => ?_
  have I2 : Inv X pins σ H1 { s1 with heap := h', toks := tk } := I1.kept hk
  have hv := vals_rg hi
  have hz : (rgV a b).length ≤ sizeLine := by rw [rgV_length, sizeLine_eq]; omega
  have e : acc = acc.toList.toArray := by simp
  rw [e]
  exact ⟨.ref h'.objs.size, _, Inv.tnew (t' := tk) I2 hv hz, rfl, q _ _ I2.fresh rfl⟩
abbrev tRgD (X : Cx) (G : GC) (W : WX) (f : Env → Mem → R (Int × Int)) : St → Hp → (Int → Int → Hp → Prop) → Prop := fun σ H Z => ∃ ρ M ev, Rel G ρ H M ∧ RepE X G ρ M.length H σ ev ∧ PostR G W σ ρ M.length H (fun ρ M H p => RgOk p.1 p.2 → Rel G ρ H M → Z p.1 p.2 H) (f ev M)
/-- the range itself -/
theorem rg1 (hg : Gl X "range") (hm : X.mg "range" = none) (ha : PE X a (tI X G W fa)) (na : starEach [a] X.env = (false, eval a X.env) :: starEach [] X.env) :
    PRg X (.Call (.Name "range" p) [a] [] pos) (tRgD X G W (rgD (dCons fa dNil))) := fun pins s σ H Z I ⟨ρ, M, ev, r, er, p⟩ => by
  refine prg_1 hg hm ha na pins s σ H Z I ⟨ρ, M, ev, r, er, ?_⟩
  unfold rgD dCons dNil at p
  cases e : fa ev M with
  | st => rw [e] at p; exact p.elim
  | ex c fs M1 => rw [e] at p; exact p
  | ok d M1 =>
    rw [e] at p
    cases d with
    | int j =>
      simp only [R.bind] at p
      intro ρ1 H1 g1 r1 v rv
      split at p
      · rename_i h
        exact ⟨j, rv.int', p ρ1 H1 g1 r1 (rgOk_of0 h) r1⟩
      · exact p.elim
    | _ => exact p.elim
theorem rg2 (hg : Gl X "range") (hm : X.mg "range" = none) (ha : PE X a (tI X G W fa)) (hb : PE X b (tI X G W fb)) (na : starEach [a, b] X.env = (false, eval a X.env) :: starEach [b] X.env) (nb : starEach [b] X.env = (false, eval b X.env) :: starEach [] X.env) (hp : (backTo pos (starEach [b] X.env)).any (·.1) = false) :
    PRg X (.Call (.Name "range" p) [a, b] [] pos) (tRgD X G W (rgD (dCons fa (dCons fb dNil)))) := fun pins s σ H Z I ⟨ρ, M, ev, r, er, p⟩ => by
  refine prg_2 hg hm ha hb na nb hp pins s σ H Z I ⟨ρ, M, ev, r, er, ?_⟩
  unfold rgD dCons dNil at p
  cases e : fa ev M with
  | st => rw [e] at p; exact p.elim
  | ex c fs M1 => rw [e] at p; exact p
  | ok d M1 =>
    rw [e] at p
    simp only [R.bind] at p
    intro ρ1 H1 g1 r1 v rv
    refine ⟨ρ1, M1, ev, r1, er.grow g1, ?_⟩
    cases e2 : fb ev M1 with
    | st => rw [e2] at p; exact p.elim
    | ex c fs M2 => rw [e2] at p; exact p.trans g1
    | ok d2 M2 =>
      rw [e2] at p
      simp only [R.bind] at p
      intro ρ2 H2 g2 r2 w rw'
      cases d with
      | int i =>
        cases d2 with
        | int j =>
          simp only at p
          split at p
          · rename_i h
            exact ⟨i, j, (rv.grow g2).int', rw'.int', p ρ2 H2 (g1.trans g2) r2 (rgOk_of h) r2⟩
          · exact p.elim
        | _ => exact p.elim
      | _ => exact p.elim
theorem i_lrg (hc : X.calm = true) (hg : Gl X "list") (hm : X.mg "list" = none) (he : PRg X e (tRgD X G W (rgD fl))) (na : starEach [e] X.env = (false, eval e X.env) :: starEach [] X.env) : PE X (.Call (.Name "list" p) [e] [] pos) (tI X G W (dLstRg fl)) := by
  refine PE.imp (pe_listRg hc hg hm he na) fun σ H Q ⟨ρ, M, ev, r, er, p⟩ => ⟨ρ, M, ev, r, er, p.step fun pr M1 ρ1 H1 _ g1 r1 p1 ok _ => ⟨ok, ?_⟩⟩
  have p2 : PostO G ρ1 M1.length H1 Q (some (.ref M1.length, M1 ++ [.lst (rangeD pr.1 (pr.2 - pr.1).toNat)])) := fun ρ' v H' g r' q => p1 ρ' H' g r' v q
  exact p2.lst r1 (rgV_rep _ _)
theorem i_trg (hc : X.calm = true) (hg : Gl X "tuple") (hm : X.mg "tuple" = none) (he : PRg X e (tRgD X G W (rgD fl))) (na : starEach [e] X.env = (false, eval e X.env) :: starEach [] X.env) : PE X (.Call (.Name "tuple" p) [e] [] pos) (tI X G W (dTupRg fl)) := by
  refine PE.imp (pe_tupRgF hc hg hm he na) fun σ H Q ⟨ρ, M, ev, r, er, p⟩ => ⟨ρ, M, ev, r, er, p.step fun pr M1 ρ1 H1 _ g1 r1 p1 ok _ => ⟨ok, fun a o ha ho => ?_⟩⟩
  exact p1 ρ1 _ (grow_fresh ha) (r1.fresh ha) _ (rep_new ha ho (rgV_rep _ _))
theorem lrg1 (hl : X.mg "list" = none) (hm : X.mg "range" = none) (ha : PE X a (tI X G W fa)) (hc : X.calm = true := by rfl) (hg : Gl X "list" := by rfl) (hg2 : Gl X "range" := by rfl)
    (na : starEach [a] X.env = (false, eval a X.env) :: starEach [] X.env := by rfl) (n1 : starEach [.Call (.Name "range" p2) [a] [] pos2] X.env = (false, eval (.Call (.Name "range" p2) [a] [] pos2) X.env) :: starEach [] X.env := by rfl) :
    PE X (.Call (.Name "list" p) [.Call (.Name "range" p2) [a] [] pos2] [] pos) (tI X G W (dLstRg (dCons fa dNil))) := i_lrg hc hg hl (rg1 hg2 hm ha na) n1
theorem lrg2 (hl : X.mg "list" = none) (hm : X.mg "range" = none) (ha : PE X a (tI X G W fa)) (hb : PE X b (tI X G W fb)) (hc : X.calm = true := by rfl) (hg : Gl X "list" := by rfl) (hg2 : Gl X "range" := by rfl)
    (na : starEach [a, b] X.env = (false, eval a X.env) :: starEach [b] X.env := by rfl) (nb : starEach [b] X.env = (false, eval b X.env) :: starEach [] X.env := by rfl) (hp : (backTo pos2 (starEach [b] X.env)).any (·.1) = false := by rfl) (n1 : starEach [.Call (.Name "range" p2) [a, b] [] pos2] X.env = (false, eval (.Call (.Name "range" p2) [a, b] [] pos2) X.env) :: starEach [] X.env := by rfl) :
    PE X (.Call (.Name "list" p) [.Call (.Name "range" p2) [a, b] [] pos2] [] pos) (tI X G W (dLstRg (dCons fa (dCons fb dNil)))) := i_lrg hc hg hl (rg2 hg2 hm ha hb na nb hp) n1
theorem trg1 (hl : X.mg "tuple" = none) (hm : X.mg "range" = none) (ha : PE X a (tI X G W fa)) (hc : X.calm = true := by rfl) (hg : Gl X "tuple" := by rfl) (hg2 : Gl X "range" := by rfl)
    (na : starEach [a] X.env = (false, eval a X.env) :: starEach [] X.env := by rfl) (n1 : starEach [.Call (.Name "range" p2) [a] [] pos2] X.env = (false, eval (.Call (.Name "range" p2) [a] [] pos2) X.env) :: starEach [] X.env := by rfl) :
    PE X (.Call (.Name "tuple" p) [.Call (.Name "range" p2) [a] [] pos2] [] pos) (tI X G W (dTupRg (dCons fa dNil))) := i_trg hc hg hl (rg1 hg2 hm ha na) n1
theorem trg2 (hl : X.mg "tuple" = none) (hm : X.mg "range" = none) (ha : PE X a (tI X G W fa)) (hb : PE X b (tI X G W fb)) (hc : X.calm = true := by rfl) (hg : Gl X "tuple" := by rfl) (hg2 : Gl X "range" := by rfl)
    (na : starEach [a, b] X.env = (false, eval a X.env) :: starEach [b] X.env := by rfl) (nb : starEach [b] X.env = (false, eval b X.env) :: starEach [] X.env := by rfl) (hp : (backTo pos2 (starEach [b] X.env)).any (·.1) = false := by rfl) (n1 : starEach [.Call (.Name "range" p2) [a, b] [] pos2] X.env = (false, eval (.Call (.Name "range" p2) [a, b] [] pos2) X.env) :: starEach [] X.env := by rfl) :
    PE X (.Call (.Name "tuple" p) [.Call (.Name "range" p2) [a, b] [] pos2] [] pos) (tI X G W (dTupRg (dCons fa (dCons fb dNil)))) := i_trg hc hg hl (rg2 hg2 hm ha hb na nb hp) n1
end
end MI

set_option Elab.async false
set_option linter.all false
set_option maxRecDepth 100000
set_option maxHeartbeats 2000000
/-! reversed(range(..)) -/
namespace MI
open PySem PySem.Spec PyProof.Rows L2
def itRevRg (fl : DenL) : ItD := fun ev M => (rgD fl ev M).bind fun p M1 => .ok ((rangeD p.1 (p.2 - p.1).toNat).reverse, yes) M1
section
variable {X : Cx} {G : GC} {W : WX} {k : Nat} {a b e tg : Expr} {fa fb : Den} {fl : DenL} {pos p p2 pos2 : Pos}
theorem w_revRg (hg : Gl X "reversed") (hm : X.mg "reversed" = none) (he : PRg X e (tRgD X G W (rgD fl))) (hs : starEach [e] X.env = (false, eval e X.env) :: starEach [] X.env) :
    PI X tg (.Call (.Name "reversed" p) [e] [] pos) (tW false X G W (itRevRg fl)) := by
  refine PI.imp (pi_revR hg hm he hs) fun σ H R ⟨ρ, M, ev, r, er, p⟩ => ⟨ρ, M, ev, r, er, p.step fun pr M1 ρ1 H1 _ g1 r1 p1 ok _ => ?_⟩
  obtain ⟨b1, b2, b3, b4, b5⟩ := ok
  refine ⟨b1, b2, b3, b4, p1 ρ1 H1 .refl r1 _ ?_⟩
  have := walkD_down (G := G) (i₀ := pr.1 + (((pr.2 - pr.1).toNat : Nat) : Int) - 1) (n := (pr.2 - pr.1).toNat) (ρ0 := ρ1) (N0 := M1.length) (H0 := H1)
  have e : pr.1 + (((pr.2 - pr.1).toNat : Nat) : Int) - 1 - (((pr.2 - pr.1).toNat : Nat) : Int) + 1 = pr.1 := by omega
  rw [e] at this
  exact this
theorem rrg1 (hl : X.mg "reversed" = none) (hm : X.mg "range" = none) (ha : PE X a (tI X G W fa)) (hg : Gl X "reversed" := by rfl) (hg2 : Gl X "range" := by rfl)
    (na : starEach [a] X.env = (false, eval a X.env) :: starEach [] X.env := by rfl) (n1 : starEach [.Call (.Name "range" p2) [a] [] pos2] X.env = (false, eval (.Call (.Name "range" p2) [a] [] pos2) X.env) :: starEach [] X.env := by rfl) :
    PI X tg (.Call (.Name "reversed" p) [.Call (.Name "range" p2) [a] [] pos2] [] pos) (tW false X G W (itRevRg (dCons fa dNil))) := w_revRg hg hl (rg1 hg2 hm ha na) n1
theorem rrg2 (hl : X.mg "reversed" = none) (hm : X.mg "range" = none) (ha : PE X a (tI X G W fa)) (hb : PE X b (tI X G W fb)) (hg : Gl X "reversed" := by rfl) (hg2 : Gl X "range" := by rfl)
    (na : starEach [a, b] X.env = (false, eval a X.env) :: starEach [b] X.env := by rfl) (nb : starEach [b] X.env = (false, eval b X.env) :: starEach [] X.env := by rfl) (hp : (backTo pos2 (starEach [b] X.env)).any (·.1) = false := by rfl) (n1 : starEach [.Call (.Name "range" p2) [a, b] [] pos2] X.env = (false, eval (.Call (.Name "range" p2) [a, b] [] pos2) X.env) :: starEach [] X.env := by rfl) :
    PI X tg (.Call (.Name "reversed" p) [.Call (.Name "range" p2) [a, b] [] pos2] [] pos) (tW false X G W (itRevRg (dCons fa (dCons fb dNil)))) := w_revRg hg hl (rg2 hg2 hm ha hb na nb hp) n1
end
end MI

set_option Elab.async false
set_option linter.all false
set_option maxRecDepth 100000
set_option maxHeartbeats 2000000
/-! a logic for the plain side: what a denotation comes to -/
namespace MI
open PySem L2
abbrev XP := Str → List (Str × D) → Mem → Prop
def noX : XP := fun _ _ _ => False
/-- a sign that a thing stands as it is: simp leaves what it names -/
inductive Tag {β : Type} (x : β) : Type where
  | mk
def wE {α : Type} (r : R α) (P : α → Mem → Prop) (X : XP) (_ : Tag (P, X) := .mk) : Prop := match r with
  | .ok a M => P a M
  | .ex c fs M => X c fs M
  | .st => False
structure SP where
  nx : Env → Mem → Prop
  rt : D → Mem → Prop := fun _ _ => False
  bk : Env → Mem → Prop := fun _ _ => False
  ct : Env → Mem → Prop := fun _ _ => False
  ex : Str → List (Str × D) → Env → Mem → Prop := fun _ _ _ _ => False
def wS (o : O) (p : SP) (_ : Tag p := .mk) : Prop := match o with
  | .nx ev M => p.nx ev M
  | .rt d M => p.rt d M
  | .bk ev M => p.bk ev M
  | .ct ev M => p.ct ev M
  | .ex c fs ev M => p.ex c fs ev M
  | .st => False
section
variable {α β : Type} {r : R α} {P P' : α → Mem → Prop} {Q : β → Mem → Prop} {X : XP} {k : α → Mem → R β} {a : α} {M : Mem} {ev ev1 : Env} {p : SP} {o : O}
theorem wE_ok : wE (.ok a M) P X = P a M := rfl
theorem wE_bind : wE (r.bind k) Q X = wE r (fun a M => wE (k a M) Q X) X := by cases r <;> rfl
theorem wE_of {x : α} : wE (R.of (some (x, M))) P X = P x M := rfl
theorem wE_ofB {b : Bool} {P : Bool → Mem → Prop} : wE (R.ofB (some b) M) P X = P b M := rfl
theorem wS_bindO {k : α → Mem → O} : wS (r.bindO ev k) p = wE r (fun a M => wS (k a M) p) (fun c fs M => p.ex c fs ev M) := by cases r <;> rfl
theorem wS_bind {k : Env → Mem → O} : wS (o.bind k) p = wS o { p with nx := fun ev M => wS (k ev M) p } := by cases o <;> rfl
theorem wS_nx : wS (.nx ev M) p = p.nx ev M := rfl
theorem wS_rt {d : D} : wS (.rt d M) p = p.rt d M := rfl
theorem wS_ct : wS (.ct ev M) p = p.ct ev M := rfl
theorem wS_bk : wS (.bk ev M) p = p.bk ev M := rfl
theorem wE_ret {P : D → Mem → Prop} : wE o.ret P X = wS o { nx := fun _ M => P .non M, rt := P, ex := fun c fs _ M => X c fs M } := by cases o <;> rfl
theorem wE.mono (h : wE r P X) (f : ∀ a M, P a M → P' a M) : wE r P' X := by
  cases r with
  | ok a M => exact f a M h
  | ex c fs M => exact h
  | st => exact h
theorem wE.get (h : wE r P noX) : ∃ a M, r = .ok a M ∧ P a M := by
  cases r with
  | ok a M => exact ⟨a, M, rfl, h⟩
  | ex c fs M => exact h.elim
  | st => exact h.elim
theorem wE.ofGet {a : α} {M : Mem} (e : r = .ok a M) (h : P a M) : wE r P X := by rw [e]; exact h
theorem wS.mono {q : SP} (h : wS o p) (f : ∀ e M, p.nx e M → q.nx e M) (g : ∀ d M, p.rt d M → q.rt d M) (b : ∀ e M, p.bk e M → q.bk e M) (c : ∀ e M, p.ct e M → q.ct e M) (x : ∀ n fs e M, p.ex n fs e M → q.ex n fs e M) : wS o q := by
  cases o with
  | nx e M => exact f _ _ h
  | rt d M => exact g _ _ h
  | bk e M => exact b _ _ h
  | ct e M => exact c _ _ h
  | ex n fs e M => exact x _ _ _ _ h
  | st => exact h
theorem wS_if {t : Bool} {x y : O} : wS (if t = true then x else y) p = if t = true then wS x p else wS y p := by cases t <;> rfl
theorem wE_if {t : Bool} {x y : R α} : wE (if t = true then x else y) P X = if t = true then wE x P X else wE y P X := by cases t <;> rfl
end
/-- a loop over items: J is what holds ahead of the items that are left -/
theorem wS_forL {g : TgD} {b : DenS} {chk : Mem → Bool} {p : SP} (J : List D → Env → Mem → Prop) (hc : ∀ xs ev M, J xs ev M → chk M = true)
    (hs : ∀ x xs ev M, J (x :: xs) ev M → ∃ ev1, g x ev = some ev1 ∧ wS (b ev1 M) { nx := J xs, ct := J xs, bk := p.nx, rt := p.rt, ex := p.ex }) (hd : ∀ ev M, J [] ev M → p.nx ev M) :
    ∀ xs ev M, J xs ev M → wS (forL g b chk xs ev M) p
  | [], ev, M, h => by
    simp only [forL, hc _ _ _ h, if_true]
    exact hd _ _ h
  | x :: xs, ev, M, h => by
    obtain ⟨ev1, e, w⟩ := hs x xs ev M h
    simp only [forL, hc _ _ _ h, if_true, e]
    cases e2 : b ev1 M with
    | nx ev2 M2 => rw [e2] at w; exact wS_forL J hc hs hd xs ev2 M2 w
    | ct ev2 M2 => rw [e2] at w; exact wS_forL J hc hs hd xs ev2 M2 w
    | bk ev2 M2 => rw [e2] at w; exact w
    | rt d M2 => rw [e2] at w; exact w
    | ex c fs ev2 M2 => rw [e2] at w; exact w
    | st => rw [e2] at w; exact w
/-- a comprehension whose test and item leave the memory as it is -/
theorem comp_pure {it : ItD} {g : TgD} {t : DenT} {f : Den} {vs : List Nat} {ev : Env} {M : Mem} {xs : List D} {chk : Mem → Bool} (hit : it ev M = .ok (xs, chk) M) (hchk : ∀ c, chk (M ++ [c]) = true) (F : D → Option D)
    (hF : ∀ x ∈ xs, ∀ c, ∃ ev1, g x (wipeD ev vs) = some ev1 ∧ ((F x = none ∧ t (ev1.map dropE) (M ++ [c]) = .ok false (M ++ [c])) ∨ ∃ d, F x = some d ∧ t (ev1.map dropE) (M ++ [c]) = .ok true (M ++ [c]) ∧ f (ev1.map dropE) (M ++ [c]) = .ok d (M ++ [c]))) (hl : xs.length ≤ lim) :
    dComp it g t f vs ev M = .ok (.ref M.length) (M ++ [.lst (xs.filterMap F)]) := by
  have go : ∀ (ys : List D) (acc : List D), (∀ y ∈ ys, y ∈ xs) → acc.length + ys.length ≤ lim → compL g t f chk M.length (wipeD ev vs) ys (M ++ [.lst acc]) = some (M ++ [.lst (acc ++ ys.filterMap F)]) := by
    intro ys
    induction ys with
    | nil => intro acc _ _; simp [compL, hchk]
    | cons y ys ih =>
      intro acc hm hle
      obtain ⟨ev1, e1, h⟩ := hF y (hm y List.mem_cons_self) (.lst acc)
      simp only [List.length_cons] at hle
      simp only [compL, hchk, if_true, e1]
      rcases h with ⟨eF, et⟩ | ⟨d, eF, et, ef⟩
      · simp only [et, tsD, Bool.false_eq_true, if_false]
        rw [ih acc (fun z hz => hm z (List.mem_cons_of_mem _ hz)) (by omega)]
        simp [List.filterMap_cons, eF]
      · have hlt : acc.length < lim := by omega
        have eget : (M ++ [Cell.lst acc])[M.length]? = some (.lst acc) := get_push
        have eset : (M ++ [Cell.lst acc]).set M.length (.lst (acc ++ [d])) = M ++ [.lst (acc ++ [d])] := by simp
        simp only [et, tsD, if_true, ef, elD, accD, eget, hlt, eset]
        rw [ih (acc ++ [d]) (fun z hz => hm z (List.mem_cons_of_mem _ hz)) (by simp; omega)]
        simp [List.filterMap_cons, eF]
  have := go xs [] (fun y hy => hy) (by simpa using hl)
  simp only [dComp, hit, bnd, this, Option.map_some, ofS, List.nil_append]
end MI

set_option Elab.async false
set_option linter.all false
set_option maxRecDepth 100000
set_option maxHeartbeats 2000000
/-! conditions of a denotation, step by step: rules for simp -/
namespace MI
open PySem L2
/-- a thing that must be there -/
def wA {α : Type} (o : Option α) (k : α → Prop) (_ : Tag k := .mk) : Prop := match o with
  | some a => k a
  | none => False
def wO (o : Option (D × Mem)) (P : D → Mem → Prop) (_ : Tag P := .mk) : Prop := wA o fun p => P p.1 p.2
def wV (o : Option (Option D)) (k : D → Prop) (_ : Tag k := .mk) : Prop := match o with
  | some (some d) => d.isExc = false ∧ k d
  | _ => False
section
variable {α β : Type} {r r' : R α} {P P' : α → Mem → Prop} {X : XP} {o o' : O} {p : SP}
theorem wE_ext {P P' : α → Mem → Prop} (h : ∀ a M, P a M = P' a M) : wE r P X = wE r P' X := by
  have : P = P' := funext fun a => funext fun M => h a M
  subst this; rfl
theorem wA_ext {o : Option α} {k k' : α → Prop} (h : ∀ a, k a = k' a) : wA o k = wA o k' := by
  have : k = k' := funext h
  subst this; rfl
@[simp] theorem wA_some {a : α} {k : α → Prop} : wA (some a) k = k a := id rfl
@[simp] theorem wA_none {k : α → Prop} : wA (none : Option α) k = False := id rfl
@[simp] theorem wO_some {d : D} {M : Mem} {P : D → Mem → Prop} : wO (some (d, M)) P = P d M := id rfl
@[simp] theorem wO_none {P : D → Mem → Prop} : wO none P = False := id rfl
@[simp] theorem wO_map {α : Type} {o : Option α} {f : α → D} {g : α → Mem} {P : D → Mem → Prop} : wO (o.map fun a => (f a, g a)) P = wA o fun a => P (f a) (g a) := by cases o <;> rfl
@[simp] theorem wO_ite {c : Prop} [Decidable c] {a b : Option (D × Mem)} {P : D → Mem → Prop} : wO (if c then a else b) P = if c then wO a P else wO b P := by by_cases h : c <;> simp [h]
@[simp] theorem wA_ite {c : Prop} [Decidable c] {a b : Option α} {k : α → Prop} : wA (if c then a else b) k = if c then wA a k else wA b k := by by_cases h : c <;> simp [h]
@[simp] theorem wV_some {d : D} {k : D → Prop} : wV (some (some d)) k = (d.isExc = false ∧ k d) := id rfl
@[simp] theorem wV_none {k : D → Prop} : wV (some none) k = False := id rfl
@[simp] theorem xi_int {i : Int} : (D.int i).isExc = false := id rfl
@[simp] theorem xi_ref {i : Nat} : (D.ref i).isExc = false := id rfl
@[simp] theorem xi_bl {b : Bool} : (D.bl b).isExc = false := id rfl
@[simp] theorem xi_str {b : Str} : (D.str b).isExc = false := id rfl
@[simp] theorem xi_non : D.non.isExc = false := id rfl
@[simp] theorem xi_tup {xs : List D} : (D.tup xs).isExc = false := id rfl
@[simp] theorem w_ok {a : α} {M : Mem} : wE (.ok a M) P X = P a M := id rfl
@[simp] theorem w_ex {c : Str} {fs : List (Str × D)} {M : Mem} : wE (.ex c fs M : R α) P X = X c fs M := id rfl
end
section
variable {ev : Env} {M : Mem} {P : D → Mem → Prop} {X : XP} {p : SP} {a b c : Den} {l : DenL} {t u : DenT}
/-! expressions -/
@[simp] theorem w_var {i : Nat} : wE (dVar i ev M) P X = wV ev[i]? fun d => P d M := by
  unfold dVar
  cases h : ev[i]? with
  | none => rfl
  | some o =>
    cases o with
    | none => rfl
    | some d => cases d <;> simp [D.isExc, wE, wV]
@[simp] theorem w_c {d : D} : wE (dC d ev M) P X = P d M := id rfl
@[simp] theorem w_op1 {f : Op1} : wE (dOp1 f a ev M) P X = wE (a ev M) (fun x M1 => wO (f x M1) P) X := by
  unfold dOp1; rw [wE_bind]; refine wE_ext fun x M1 => ?_; cases f x M1 with | none => rfl | some q => rfl
@[simp] theorem w_op2 {f : Op2} : wE (dOp2 f a b ev M) P X = wE (a ev M) (fun x M1 => wE (b ev M1) (fun y M2 => wO (f x y M2) P) X) X := by
  unfold dOp2; rw [wE_bind]; refine wE_ext fun x M1 => ?_; rw [wE_bind]; refine wE_ext fun y M2 => ?_; cases f x y M2 with | none => rfl | some q => rfl
@[simp] theorem w_nil {P : List D → Mem → Prop} : wE (dNil ev M) P X = P [] M := id rfl
@[simp] theorem w_cons {P : List D → Mem → Prop} : wE (dCons a l ev M) P X = wE (a ev M) (fun x M1 => wE (l ev M1) (fun xs M2 => P (x :: xs) M2) X) X := by
  unfold dCons; rw [wE_bind]; refine wE_ext fun x M1 => ?_; rw [wE_bind]; rfl
@[simp] theorem w_opn {f : OpN} : wE (dOpN f l ev M) P X = wE (l ev M) (fun xs M1 => wO (f xs M1) P) X := by
  unfold dOpN; rw [wE_bind]; refine wE_ext fun x M1 => ?_; cases f x M1 with | none => rfl | some q => rfl
@[simp] theorem w_opm {f : D → OpN} : wE (dOpM f a l ev M) P X = wE (a ev M) (fun x M1 => wE (l ev M1) (fun xs M2 => wO (f x xs M2) P) X) X := by
  unfold dOpM; rw [wE_bind]; refine wE_ext fun x M1 => ?_; rw [wE_bind]; refine wE_ext fun y M2 => ?_; cases f x y M2 with | none => rfl | some q => rfl
@[simp] theorem w_cal {f : Fun} : wE (dCal f l ev M) P X = wE (l ev M) (fun xs M1 => wE (f xs M1) P X) X := by
  unfold dCal; rw [wE_bind]
@[simp] theorem w_calK {f : Fun} {n m : Nat} {S : List (Nat ⊕ D)} {k : DenL} : wE (dCalK f n m S l k ev M) P X = wE (l ev M) (fun xs M1 => wE (k ev M1) (fun ys M2 => (xs.length = n ∧ ys.length = m) ∧ wA (pickD S (xs ++ ys)) fun zs => wE (f zs M2) P X) X) X := by
  unfold dCalK; rw [wE_bind]; refine wE_ext fun x M1 => ?_; rw [wE_bind]; refine wE_ext fun y M2 => ?_
  by_cases h : x.length = n ∧ y.length = m
  · simp only [h, and_self, if_true, true_and]; cases pickD S (x ++ y) <;> rfl
  · simp only [h, if_false, false_and]; rfl
@[simp] theorem w_ofB {o : Option Bool} {P : Bool → Mem → Prop} : wE (R.ofB o M) P X = wA o fun b => P b M := by cases o <;> rfl
@[simp] theorem w_tru {P : Bool → Mem → Prop} : wE (dTru a ev M) P X = wE (a ev M) (fun x M1 => wA (truB x M1) fun b => P b M1) X := by
  unfold dTru; rw [wE_bind]; refine wE_ext fun x M1 => ?_; rw [w_ofB]
@[simp] theorem w_not {P : Bool → Mem → Prop} : wE (tNotD t ev M) P X = wE (t ev M) (fun b M1 => P (!b) M1) X := by
  unfold tNotD; rw [wE_bind]; rfl
@[simp] theorem qt_and {P : Bool → Mem → Prop} : wE (tAndD t u ev M) P X = wE (t ev M) (fun b M1 => if b = true then wE (u ev M1) P X else P false M1) X := by
  unfold tAndD; rw [wE_bind]; refine wE_ext fun b M1 => ?_; cases b <;> rfl
@[simp] theorem qt_or {P : Bool → Mem → Prop} : wE (tOrD t u ev M) P X = wE (t ev M) (fun b M1 => if b = true then P true M1 else wE (u ev M1) P X) X := by
  unfold tOrD; rw [wE_bind]; refine wE_ext fun b M1 => ?_; cases b <;> rfl
@[simp] theorem w_yes {P : Bool → Mem → Prop} : wE (tYesD ev M) P X = P true M := id rfl
@[simp] theorem w_dand : wE (dAnd a b ev M) P X = wE (a ev M) (fun x M1 => wA (truB x M1) fun k => if k = true then wE (b ev M1) P X else P x M1) X := by
  unfold dAnd; rw [wE_bind]; refine wE_ext fun x M1 => ?_; cases truB x M1 with | none => rfl | some k => cases k <;> rfl
@[simp] theorem w_dor : wE (dOr a b ev M) P X = wE (a ev M) (fun x M1 => wA (truB x M1) fun k => if k = true then P x M1 else wE (b ev M1) P X) X := by
  unfold dOr; rw [wE_bind]; refine wE_ext fun x M1 => ?_; cases truB x M1 with | none => rfl | some k => cases k <;> rfl
@[simp] theorem w_dnot : wE (dNot a ev M) P X = wE (a ev M) (fun x M1 => wA (truB x M1) fun k => P (.bl (!k)) M1) X := by
  unfold dNot; rw [wE_bind]; refine wE_ext fun x M1 => ?_; cases truB x M1 with | none => rfl | some k => rfl
@[simp] theorem w_dif : wE (dIf t a b ev M) P X = wE (t ev M) (fun k M1 => if k = true then wE (a ev M1) P X else wE (b ev M1) P X) X := by
  unfold dIf; rw [wE_bind]; refine wE_ext fun k M1 => ?_; cases k <;> rfl
@[simp] theorem w_chain {f g : D → D → Mem → Option Bool} : wE (dChain f g a b c ev M) P X = wE (a ev M) (fun x M1 => wE (b ev M1) (fun y M2 => wA (f x y M2) fun k => if k = true then wE (c ev M2) (fun z M3 => wO (opB g y z M3) P) X else P (.bl false) M2) X) X := by
  unfold dChain; rw [wE_bind]; refine wE_ext fun x M1 => ?_; rw [wE_bind]; refine wE_ext fun y M2 => ?_
  cases f x y M2 with
  | none => rfl
  | some k =>
    cases k with
    | false => rfl
    | true =>
      show wE ((c ev M2).bind _) P X = _
      rw [wE_bind]
      show _ = wE (c ev M2) (fun z M3 => wO (opB g y z M3) P) X
      refine wE_ext fun z M3 => ?_; cases opB g y z M3 with | none => rfl | some q => rfl
@[simp] theorem w_tup : wE (dTup l ev M) P X = wE (l ev M) (fun xs M1 => xs.length ≤ lim ∧ P (.tup xs) M1) X := by
  unfold dTup; rw [wE_bind]; refine wE_ext fun xs M1 => ?_; by_cases h : xs.length ≤ lim <;> simp [h, wE]
@[simp] theorem w_lst : wE (dLst l ev M) P X = wE (l ev M) (fun xs M1 => xs.length ≤ lim ∧ P (.ref M1.length) (M1 ++ [.lst xs])) X := by
  unfold dLst; rw [wE_bind]; refine wE_ext fun xs M1 => ?_; by_cases h : xs.length ≤ lim <;> simp [h, wE]
@[simp] theorem w_met {m : MetD} : wE (dMet m a l ev M) P X = wE (a ev M) (fun d M1 => wA (m d M1) fun g => wE (l ev M1) (fun xs M2 => wE (g xs M2) P X) X) X := by
  unfold dMet; rw [wE_bind]; refine wE_ext fun x M1 => ?_; cases m x M1 with | none => rfl | some g => show wE ((l ev M1).bind g) P X = _; rw [wE_bind]; rfl
@[simp] theorem w_of {o : Option (D × Mem)} : wE (R.of o) P X = wO o P := by cases o <;> rfl
@[simp] theorem w_isi {tb : Tg → Bool} {own : List (Str × Bool)} : wE (dIsi tb own a ev M) P X = wE (a ev M) (fun d M1 => wA ((tag d M1).bind (ansT tb own)) fun b => P (.bl b) M1) X := by
  unfold dIsi; rw [wE_bind]; refine wE_ext fun x M1 => ?_; cases (tag x M1).bind (ansT tb own) <;> rfl
theorem w_xf_ {i : Nat} {cs : List Str} {f : Str} {c : Str} {fs : List (Str × D)} {k : Nat} (h : ev[i]? = some (some (.exc c fs k))) : wE (dXf i cs f ev M) P X = (c ∈ cs ∧ wA (fs.lookup f) fun d => P d M) := by
  unfold dXf; rw [h]; by_cases hc : c ∈ cs
  · simp only [hc, if_true, true_and]; cases fs.lookup f <;> rfl
  · simp only [hc, if_false, false_and]; rfl
theorem w_ise_ {i : Nat} {own : List (Str × Bool)} {c : Str} {fs : List (Str × D)} {k : Nat} (h : ev[i]? = some (some (.exc c fs k))) : wE (dIsE i own ev M) P X = wA (own.lookup c) fun b => P (.bl b) M := by
  unfold dIsE; rw [h]; show wE (match own.lookup c with | some b => .ok (.bl b) M | none => .st) P X = _; cases own.lookup c <;> rfl
@[simp] theorem w_make {c : Str} {f : Fun} : wE (dMake c f l ev M) P X = wE (l ev M) (fun ds M1 => wE (f (.ref M1.length :: ds) (M1 ++ [.ins c []])) (fun d M2 => d = .non ∧ P (.ref M1.length) M2) X) X := by
  unfold dMake; rw [wE_bind]; refine wE_ext fun ds M1 => ?_; rw [wE_bind]; refine wE_ext fun d M2 => ?_; cases d <;> simp [wE]
@[simp] theorem w_sl {lo hi : Env → Mem → R (Option Int)} : wE (dSl a lo hi ev M) P X = wE (a ev M) (fun x M1 => wE (lo ev M1) (fun i M2 => wE (hi ev M2) (fun j M3 => wO (opSl x i j M3) P) X) X) X := by
  unfold dSl; rw [wE_bind]; refine wE_ext fun x M1 => ?_; rw [wE_bind]; refine wE_ext fun i M2 => ?_; rw [wE_bind]; refine wE_ext fun j M3 => ?_; cases opSl x i j M3 with | none => rfl | some q => rfl
@[simp] theorem w_ono {P : Option Int → Mem → Prop} : wE (oNo ev M) P X = P none M := id rfl
/-- the number in a value -/
def intD : D → Option Int
  | .int i => some i
  | _ => none
@[simp] theorem intD_int {i : Int} : intD (.int i) = some i := id rfl
@[simp] theorem w_osome {P : Option Int → Mem → Prop} : wE (oSome a ev M) P X = wE (a ev M) (fun d M1 => wA (intD d) fun i => P (some i) M1) X := by
  unfold oSome; rw [wE_bind]; refine wE_ext fun d M1 => ?_; cases d <;> rfl
/-! statements -/
variable {A B : DenS}
@[simp] theorem q_skip : wS (sSkip ev M) p = p.nx ev M := id rfl
@[simp] theorem q_brk : wS (sBrk ev M) p = p.bk ev M := id rfl
@[simp] theorem q_cnt : wS (sCnt ev M) p = p.ct ev M := id rfl
@[simp] theorem q_retN : wS (sRetN ev M) p = p.rt .non M := id rfl
@[simp] theorem q_ret : wS (sRet a ev M) p = wE (a ev M) (fun d M1 => p.rt d M1) (fun c fs M1 => p.ex c fs ev M1) := by unfold sRet; rw [wS_bindO]; rfl
@[simp] theorem q_drop : wS (sDrop a ev M) p = wE (a ev M) (fun _ M1 => p.nx ev M1) (fun c fs M1 => p.ex c fs ev M1) := by unfold sDrop; rw [wS_bindO]; rfl
@[simp] theorem q_set {i : Nat} : wS (sSet i a ev M) p = wE (a ev M) (fun d M1 => p.nx (ev.set i (some d)) M1) (fun c fs M1 => p.ex c fs ev M1) := by unfold sSet; rw [wS_bindO]; rfl
@[simp] theorem q_asg {g : TgD} : wS (sAsg a g ev M) p = wE (a ev M) (fun d M1 => wA (g d ev) fun ev1 => p.nx ev1 M1) (fun c fs M1 => p.ex c fs ev M1) := by
  unfold sAsg; rw [wS_bindO]; refine wE_ext fun d M1 => ?_; cases g d ev <;> rfl
@[simp] theorem q_seq : wS (sSeq A B ev M) p = wS (A ev M) { nx := fun ev M => wS (B ev M) p, rt := p.rt, bk := p.bk, ct := p.ct, ex := p.ex } := by unfold sSeq; rw [wS_bind]
@[simp] theorem q_if : wS (sIf t A B ev M) p = wE (t ev M) (fun k M1 => if k = true then wS (A ev M1) p else wS (B ev M1) p) (fun c fs M1 => p.ex c fs ev M1) := by
  unfold sIf; rw [wS_bindO]; refine wE_ext fun k M1 => ?_; cases k <;> rfl
@[simp] theorem q_setIx {fs : D → D → D → Mem → Option Mem} : wS (sSetIx fs a b c ev M) p = wE (c ev M) (fun y M1 => wE (a ev M1) (fun d M2 => wE (b ev M2) (fun i M3 => wA (fs d i y M3) fun M4 => p.nx ev M4) (fun c fs M1 => p.ex c fs ev M1)) (fun c fs M1 => p.ex c fs ev M1)) (fun c fs M1 => p.ex c fs ev M1) := by
  unfold sSetIx; rw [wS_bindO]; refine wE_ext fun y M1 => ?_; rw [wS_bindO]; refine wE_ext fun d M2 => ?_; rw [wS_bindO]; refine wE_ext fun i M3 => ?_; cases fs d i y M3 <;> rfl
@[simp] theorem q_setF {cs : List Str} {f : Str} : wS (sSetF cs f a b ev M) p = wE (b ev M) (fun y M1 => wE (a ev M1) (fun d M2 => wA (nSetF cs f d y M2) fun M4 => p.nx ev M4) (fun c fs M1 => p.ex c fs ev M1)) (fun c fs M1 => p.ex c fs ev M1) := by
  unfold sSetF; rw [wS_bindO]; refine wE_ext fun y M1 => ?_; rw [wS_bindO]; refine wE_ext fun d M2 => ?_; cases nSetF cs f d y M2 <;> rfl
@[simp] theorem q_raise {c : Str} {n : Nat} {fl : List (Str × Nat)} : wS (sRaise c n fl l ev M) p = wE (l ev M) (fun ds M1 => ds.length = n ∧ p.ex c (mkF .non ds fl []) ev M1) (fun c fs M1 => p.ex c fs ev M1) := by
  unfold sRaise; rw [wS_bindO]; refine wE_ext fun ds M1 => ?_; by_cases h : ds.length = n <;> simp [h, wS]
@[simp] theorem q_for {it : ItD} {g : TgD} : wS (sFor it g A ev M) p = wE (it ev M) (fun q M1 => wS (forL g A q.2 q.1 ev M1) p) (fun c fs M1 => p.ex c fs ev M1) := by unfold sFor; rw [wS_bindO]
theorem q_drO {f : Env → Env} {o : O} : wS (dropO f o) p = wS o { nx := fun ev M => p.nx (f ev) M, rt := p.rt, bk := fun ev M => p.bk (f ev) M, ct := fun ev M => p.ct (f ev) M, ex := fun c fs ev M => p.ex c fs (f ev) M } := by cases o <;> rfl
theorem q_noE {o : O} : wS (noEx o) p = wS o { nx := p.nx, rt := p.rt, bk := p.bk, ct := p.ct } := by cases o <;> rfl
@[simp] theorem q_tryAs {i : Nat} {cm : Str → Option Bool} : wS (sTryAs i cm A B ev M) p = wS (A (ev.map dropE) M) { nx := fun ev M => p.nx (ev.map dropE) M, rt := p.rt, bk := fun ev M => p.bk (ev.map dropE) M, ct := fun ev M => p.ct (ev.map dropE) M, ex := fun c xs ev1 M1 => wA (cm c) fun k => if k = true then wS (B ((ev1.map dropE).set i (some (.exc c xs 0))) M1) { nx := fun ev M => p.nx (offE i ev) M, rt := p.rt, bk := fun ev M => p.bk (offE i ev) M, ct := fun ev M => p.ct (offE i ev) M } else p.ex c xs (ev1.map dropE) M1 } := by
  unfold sTryAs
  cases h : A (ev.map dropE) M with
  | ex c xs ev1 M1 =>
    show wS (match cm c with | some true => _ | some false => _ | none => _) p = wA (cm c) _
    cases cm c with
    | none => rfl
    | some k =>
      cases k with
      | false => rfl
      | true =>
        show wS (dropO (offE i) (noEx _)) p = wS _ _
        rw [q_drO, q_noE]
  | nx ev1 M1 => rfl
  | rt d M1 => rfl
  | bk ev1 M1 => rfl
  | ct ev1 M1 => rfl
  | st => rfl
@[simp] theorem w_run {n : Nat} {ds : List D} : wE (runB n A ds M) P X = wS (A (ds.map some ++ List.replicate (n - ds.length) none) M) { nx := fun _ M => P .non M, rt := P, ex := fun c fs _ M => X c fs M } := by unfold runB; rw [wE_ret]
end
/-- a cut between two statements -/
theorem wS_cut {A B : DenS} {ev : Env} {M : Mem} {p : SP} (Q : Env → Mem → Prop) (h : wS (A ev M) { nx := Q, rt := p.rt, bk := p.bk, ct := p.ct, ex := p.ex }) (k : ∀ ev M, Q ev M → wS (B ev M) p) : wS (sSeq A B ev M) p := by
  rw [q_seq]
  exact wS.mono h k (fun _ _ h => h) (fun _ _ h => h) (fun _ _ h => h) (fun _ _ _ _ h => h)
theorem wS_as {A B C : DenS} {ev : Env} {M : Mem} {p : SP} : wS (sSeq A (sSeq B C) ev M) p = wS (sSeq (sSeq A B) C ev M) p := by
  rw [q_seq, q_seq, q_seq]
  have h : (fun (ev : Env) (M : Mem) => wS (sSeq B C ev M) p) = fun ev M => wS (B ev M) { nx := fun ev M => wS (C ev M) p, rt := p.rt, bk := p.bk, ct := p.ct, ex := p.ex } := funext fun ev => funext fun M => q_seq
  rw [h]
theorem wS_cut0 {A B : DenS} {ev : Env} {M : Mem} {p : SP} (Q : Env → Mem → Prop) (h : wS (A ev M) { nx := Q }) (k : ∀ ev M, Q ev M → wS (B ev M) p) : wS (sSeq A B ev M) p :=
  wS_cut Q (wS.mono h (fun _ _ h => h) (fun _ _ h => h.elim) (fun _ _ h => h.elim) (fun _ _ h => h.elim) (fun _ _ _ _ h => h.elim)) k
theorem sSeq_as {A B C : DenS} : sSeq (sSeq A B) C = sSeq A (sSeq B C) := by
  funext ev M
  unfold sSeq
  cases A ev M <;> rfl
end MI

set_option Elab.async false
set_option linter.all false
set_option maxRecDepth 100000
set_option maxHeartbeats 2000000
/-! values in the conditions; loops and comprehensions -/
namespace MI
open PySem L2
def cLst : Option Cell → Option (List D)
  | some (.lst xs) => some xs
  | _ => none
def cSeq : Option Cell → Option (List D)
  | some (.lst xs) => some xs
  | some (.rls xs) => some xs
  | _ => none
def cIns : Option Cell → Option (Str × List (Str × D))
  | some (.ins c fs) => some (c, fs)
  | _ => none
section
variable {M : Mem} {P : D → Mem → Prop} {X : XP} {p : SP}
@[simp] theorem cLst_l {xs : List D} : cLst (some (.lst xs)) = some xs := id rfl
@[simp] theorem cSeq_l {xs : List D} : cSeq (some (.lst xs)) = some xs := id rfl
@[simp] theorem cSeq_r {xs : List D} : cSeq (some (.rls xs)) = some xs := id rfl
@[simp] theorem cIns_i {c : Str} {fs : List (Str × D)} : cIns (some (.ins c fs)) = some (c, fs) := id rfl
@[simp] theorem getL_def {n : Nat} : getL M n = cSeq M[n]? := by unfold getL cSeq; rfl
@[simp] theorem o_add_i {i j : Int} : opAdd (.int i) (.int j) M = some (.int (i + j), M) := id rfl
@[simp] theorem o_add_t {a b : List D} : opAdd (.tup a) (.tup b) M = if a.length + b.length ≤ lim then some (.tup (a ++ b), M) else none := id rfl
@[simp] theorem o_add_s {a b : Str} : opAdd (.str a) (.str b) M = if a.length + b.length ≤ lim then some (.str (a ++ b), M) else none := id rfl
@[simp] theorem o_add_r {a b : Nat} : wO (opAdd (.ref a) (.ref b) M) P = wA (cLst M[a]?) fun xs => wA (cLst M[b]?) fun ys => xs.length + ys.length ≤ lim ∧ P (.ref M.length) (M ++ [.lst (xs ++ ys)]) := by
  show wO (match M[a]?, M[b]? with | some (.lst xs), some (.lst ys) => if xs.length + ys.length ≤ lim then some (.ref M.length, M ++ [.lst (xs ++ ys)]) else none | _, _ => none) P = _
  cases ha : M[a]? with
  | none => rfl
  | some c =>
    cases c with
    | lst xs =>
      cases hb : M[b]? with
      | none => rfl
      | some c =>
        cases c with
        | lst ys => show wO (if _ then _ else _) P = (_ ∧ _); rw [wO_ite]; by_cases h : xs.length + ys.length ≤ lim <;> simp [h]
        | rls ys => rfl
        | ins c fs => rfl
        | dct kv => rfl
    | rls xs => rfl
    | ins c fs => rfl
    | dct kv => rfl
@[simp] theorem o_i {C : Int → Int → Bool} {g : Int → Int → Int} {i j : Int} : opI C g (.int i) (.int j) M = if C i j then some (.int (g i j), M) else none := id rfl
@[simp] theorem o_sub {i j : Int} : opSub (.int i) (.int j) M = some (.int (i - j), M) := id rfl
@[simp] theorem o_mul {i j : Int} : opMul (.int i) (.int j) M = if mulOk i j then some (.int (i * j), M) else none := id rfl
@[simp] theorem o_mul_r {n : Nat} {k : Int} : wO (opMul (.ref n) (.int k) M) P = wA (cLst M[n]?) fun xs => (-(2 ^ 63) ≤ k ∧ k < 2 ^ 63 ∧ xs.length * k.toNat ≤ lim) ∧ P (.ref M.length) (M ++ [.lst (List.replicate k.toNat xs).flatten]) := by
  show wO (match M[n]? with | some (.lst xs) => if decide (-(2 ^ 63) ≤ k) && decide (k < 2 ^ 63) && decide (xs.length * k.toNat ≤ lim) then some (.ref M.length, M ++ [.lst (List.replicate k.toNat xs).flatten]) else none | _ => none) P = _
  cases hb : M[n]? with
  | none => rfl
  | some c =>
    cases c with
    | lst ys =>
      show wO (if _ then _ else _) P = (_ ∧ _); rw [wO_ite]
      simp only [Bool.and_eq_true, decide_eq_true_eq, wO_some, wO_none, and_assoc]
      by_cases h : -(2 ^ 63) ≤ k ∧ k < 2 ^ 63 ∧ ys.length * k.toNat ≤ lim
      · rw [if_pos h]; exact propext ⟨fun q => ⟨h.1, h.2.1, h.2.2, q⟩, fun q => q.2.2.2⟩
      · rw [if_neg h]; exact propext ⟨fun q => q.elim, fun q => h ⟨q.1, q.2.1, q.2.2.1⟩⟩
    | rls ys => rfl
    | ins c fs => rfl
    | dct kv => rfl
@[simp] theorem o_div {i j : Int} : opDiv (.int i) (.int j) M = if divOk i j then some (.int (i.fdiv j), M) else none := id rfl
@[simp] theorem o_mod {i j : Int} : opMod (.int i) (.int j) M = if j ≠ 0 then some (.int (i.fmod j), M) else none := by
  show (if decide (j ≠ 0) = true then _ else _) = _; simp only [decide_eq_true_eq]
@[simp] theorem o_pow {i j : Int} : opPow (.int i) (.int j) M = if powOk i j then some (.int (i ^ j.toNat), M) else none := id rfl
@[simp] theorem o_shl {i j : Int} : opShl (.int i) (.int j) M = if 0 ≤ j ∧ j ≤ 1000000 ∧ i.natAbs < 2 ^ 64 then some (.int (i * 2 ^ j.toNat), M) else none := by
  show (if decide _ = true then _ else _) = _; simp only [decide_eq_true_eq]
@[simp] theorem o_shr {i j : Int} : opShr (.int i) (.int j) M = if 0 ≤ j then some (.int (i / 2 ^ j.toNat), M) else none := by
  show (if decide _ = true then _ else _) = _; simp only [decide_eq_true_eq]
@[simp] theorem o_and {i j : Int} : opAnd (.int i) (.int j) M = some (.int (Builtin.bitAnd i j), M) := id rfl
@[simp] theorem o_or {i j : Int} : opOr (.int i) (.int j) M = some (.int (Builtin.bitOr i j), M) := id rfl
@[simp] theorem o_xor {i j : Int} : opXor (.int i) (.int j) M = some (.int (Builtin.bitXor i j), M) := id rfl
@[simp] theorem o_neg {i : Int} : opNeg (.int i) M = some (.int (-i), M) := id rfl
@[simp] theorem o_b {f : D → D → Mem → Option Bool} {x y : D} : wO (opB f x y M) P = wA (f x y M) fun b => P (.bl b) M := by unfold opB; cases f x y M <;> rfl
@[simp] theorem b_eq_i {i j : Int} : eqB (.int i) (.int j) M = some (decide (i = j)) := id rfl
@[simp] theorem b_eq_s {i j : Str} : eqB (.str i) (.str j) M = some (decide (i = j)) := id rfl
@[simp] theorem b_eq_b {i j : Bool} : eqB (.bl i) (.bl j) M = some (decide (i = j)) := id rfl
@[simp] theorem b_ne {x y : D} : neB x y M = (eqB x y M).map not := id rfl
@[simp] theorem b_lt_i {i j : Int} : ltB (.int i) (.int j) M = some (decide (i < j)) := id rfl
@[simp] theorem b_le_i {i j : Int} : leB (.int i) (.int j) M = some (decide (i ≤ j)) := id rfl
@[simp] theorem b_gt_i {i j : Int} : gtB (.int i) (.int j) M = some (decide (j < i)) := id rfl
@[simp] theorem b_ge_i {i j : Int} : geB (.int i) (.int j) M = some (decide (j ≤ i)) := id rfl
@[simp] theorem b_is_n {x : D} : isB x .non M = some x.isNon := id rfl
@[simp] theorem b_is_b {x y : Bool} : isB (.bl x) (.bl y) M = some (decide (x = y)) := id rfl
@[simp] theorem b_nis_n {x : D} : nisB x .non M = some (!x.isNon) := id rfl
@[simp] theorem n_non : D.non.isNon = true := id rfl
@[simp] theorem n_int {i : Int} : (D.int i).isNon = false := id rfl
@[simp] theorem n_ref {i : Nat} : (D.ref i).isNon = false := id rfl
@[simp] theorem n_bl {i : Bool} : (D.bl i).isNon = false := id rfl
@[simp] theorem n_str {i : Str} : (D.str i).isNon = false := id rfl
@[simp] theorem n_tup {i : List D} : (D.tup i).isNon = false := id rfl
@[simp] theorem t_non : truB .non M = some false := id rfl
@[simp] theorem t_bl {b : Bool} : truB (.bl b) M = some b := id rfl
@[simp] theorem t_int {b : Int} : truB (.int b) M = some (b != 0) := id rfl
@[simp] theorem t_tup {b : List D} : truB (.tup b) M = some (!b.isEmpty) := id rfl
theorem t_ref {n : Nat} {xs : List D} (h : M[n]? = some (.lst xs)) : truB (.ref n) M = some (!xs.isEmpty) := by simp only [truB, h]
@[simp] theorem x_tup {xs : List D} {i : Int} : opIx (.tup xs) (.int i) M = (atI xs i).map (·, M) := id rfl
@[simp] theorem x_ref {n : Nat} {i : Int} : wO (opIx (.ref n) (.int i) M) P = wA (cSeq M[n]?) fun xs => wA (atI xs i) fun d => P d M := by
  show wO (match getL M n with | some xs => (atI xs i).map (·, M) | none => none) P = _
  rw [getL_def]
  cases cSeq M[n]? with
  | none => rfl
  | some xs => show wO ((atI xs i).map fun d => (d, M)) P = wA (atI xs i) _; rw [wO_map]
@[simp] theorem x_0 {a : D} {r : List D} : atI (a :: r) 0 = some a := atI_0
@[simp] theorem x_1 {a b : D} {r : List D} : atI (a :: b :: r) 1 = some b := by
  rw [show (1 : Int) = ((1 : Nat) : Int) from rfl]; exact atI_nat rfl
@[simp] theorem x_2 {a b c : D} {r : List D} : atI (a :: b :: c :: r) 2 = some c := by
  rw [show (2 : Int) = ((2 : Nat) : Int) from rfl]; exact atI_nat rfl
@[simp] theorem x_3 {a b c d : D} {r : List D} : atI (a :: b :: c :: d :: r) 3 = some d := by
  rw [show (3 : Int) = ((3 : Nat) : Int) from rfl]; exact atI_nat rfl
@[simp] theorem f_len_s {s : Str} : nLen [.str s] M = if s.length ≤ lim then some (.int s.length, M) else none := id rfl
@[simp] theorem f_len_t {xs : List D} : nLen [.tup xs] M = some (.int xs.length, M) := id rfl
@[simp] theorem f_len_r {n : Nat} : wO (nLen [.ref n] M) P = wA (cSeq M[n]?) fun xs => P (.int xs.length) M := by
  show wO (match getL M n with | some xs => some (.int xs.length, M) | none => none) P = _
  rw [getL_def]; cases cSeq M[n]? <;> rfl
@[simp] theorem f_list_t {xs : List D} : nList [.tup xs] M = some (.ref M.length, M ++ [.lst xs]) := id rfl
@[simp] theorem f_list_r {n : Nat} : wO (nList [.ref n] M) P = wA (cSeq M[n]?) fun xs => P (.ref M.length) (M ++ [.lst xs]) := by
  show wO (match getL M n with | some xs => some (.ref M.length, M ++ [.lst xs]) | none => none) P = _
  rw [getL_def]; cases cSeq M[n]? <;> rfl
@[simp] theorem f_tuple_t {xs : List D} : nTuple [.tup xs] M = some (.tup xs, M) := id rfl
@[simp] theorem f_tuple_r {n : Nat} : wO (nTuple [.ref n] M) P = wA (cSeq M[n]?) fun xs => P (.tup xs) M := by
  show wO (match getL M n with | some xs => some (.tup xs, M) | none => none) P = _
  rw [getL_def]; cases cSeq M[n]? <;> rfl
@[simp] theorem f_int_i {i : Int} : nInt [.int i] M = some (.int i, M) := id rfl
@[simp] theorem f_int_b {i : Bool} : nInt [.bl i] M = some (.int (if i then 1 else 0), M) := id rfl
@[simp] theorem f_abs {i : Int} : nAbs [.int i] M = some (.int (if i < 0 then -i else i), M) := id rfl
@[simp] theorem f_bool_i {i : Int} : nBool [.int i] M = some (.bl (i != 0), M) := id rfl
@[simp] theorem f_bool_b {i : Bool} : nBool [.bl i] M = some (.bl i, M) := id rfl
@[simp] theorem f_max2 {i j : Int} : nMax [.int i, .int j] M = some (.int (if j > i then j else i), M) := id rfl
@[simp] theorem f_min2 {i j : Int} : nMin [.int i, .int j] M = some (.int (if j < i then j else i), M) := id rfl
@[simp] theorem f_ints {f : List Int → Option D} {n : Nat} : wO (onInts f [.ref n] M) P = wA (cSeq M[n]?) fun xs => wA (tupInts xs) fun ns => wA (f ns) fun d => P d M := by
  show wO (match getL M n with | some xs => (match intsOf xs with | some ns => (f ns).map (·, M) | none => none) | none => none) P = _
  rw [getL_def]
  cases cSeq M[n]? with
  | none => rfl
  | some xs =>
    show wO (match tupInts xs with | some ns => (f ns).map (·, M) | none => none) P = wA (tupInts xs) _
    cases tupInts xs with
    | none => rfl
    | some ns => show wO ((f ns).map fun d => (d, M)) P = wA (f ns) _; rw [wO_map]
@[simp] theorem f_sum {n : Nat} : wO (nSum [.ref n] M) P = wA (cSeq M[n]?) fun xs => wA (tupInts xs) fun ns => P (.int ns.sum) M := f_ints
@[simp] theorem f_max {n : Nat} : wO (nMax [.ref n] M) P = wA (cSeq M[n]?) fun xs => wA (tupInts xs) fun ns => wA (maxI ns) fun i => P (.int i) M := by
  refine Eq.trans (f_ints (f := fun ns => (maxI ns).map .int)) ?_
  refine wA_ext fun xs => ?_; refine wA_ext fun ns => ?_; cases maxI ns <;> rfl
@[simp] theorem f_min {n : Nat} : wO (nMin [.ref n] M) P = wA (cSeq M[n]?) fun xs => wA (tupInts xs) fun ns => wA (minI ns) fun i => P (.int i) M := by
  refine Eq.trans (f_ints (f := fun ns => (minI ns).map .int)) ?_
  refine wA_ext fun xs => ?_; refine wA_ext fun ns => ?_; cases minI ns <;> rfl
@[simp] theorem f_bls {f : List Bool → Bool} {n : Nat} : wO (onBls f [.ref n] M) P = wA (cSeq M[n]?) fun xs => wA (blsOf xs) fun ns => P (.bl (f ns)) M := by
  show wO (match getL M n with | some xs => (match blsOf xs with | some ns => some (.bl (f ns), M) | none => none) | none => none) P = _
  rw [getL_def]
  cases cSeq M[n]? with
  | none => rfl
  | some xs =>
    show wO (match blsOf xs with | some ns => some (.bl (f ns), M) | none => none) P = wA (blsOf xs) _
    cases blsOf xs <;> rfl
@[simp] theorem f_all {n : Nat} : wO (nAll [.ref n] M) P = wA (cSeq M[n]?) fun xs => wA (blsOf xs) fun ns => P (.bl (ns.all id)) M := f_bls
@[simp] theorem f_any {n : Nat} : wO (nAny [.ref n] M) P = wA (cSeq M[n]?) fun xs => wA (blsOf xs) fun ns => P (.bl (ns.any id)) M := f_bls
@[simp] theorem f_sorted {n : Nat} : wO (nSorted [.ref n] M) P = wA (cSeq M[n]?) fun xs => wA (tupInts xs) fun ns => P (.ref M.length) (M ++ [.lst ((sortI ns).map .int)]) := by
  show wO (match getL M n with | some xs => (match tupInts xs with | some ns => some (.ref M.length, M ++ [.lst ((sortI ns).map .int)]) | none => none) | none => none) P = _
  rw [getL_def]
  cases cSeq M[n]? with
  | none => rfl
  | some xs =>
    show wO (match tupInts xs with | some ns => some (.ref M.length, M ++ [.lst ((sortI ns).map .int)]) | none => none) P = wA (tupInts xs) _
    cases tupInts xs <;> rfl
@[simp] theorem f_rev {n : Nat} : wO (opRev (.ref n) M) P = wA (cSeq M[n]?) fun xs => P (.ref M.length) (M ++ [.lst xs.reverse]) := by
  show wO (match getL M n with | some xs => some (.ref M.length, M ++ [.lst xs.reverse]) | none => none) P = _
  rw [getL_def]; cases cSeq M[n]? <;> rfl
@[simp] theorem f_repr {d : D} : wO (nRepr [d] M) P = wA (toPs M d) fun q => (q.showable = true ∧ q.shown.length ≤ lim) ∧ P (.str q.shown) M := by
  show wO (match toPs M d with | some p => if p.showable && decide (p.shown.length ≤ lim) then some (.str p.shown, M) else none | none => none) P = _
  cases toPs M d with
  | none => rfl
  | some q => show wO (if _ then _ else _) P = (_ ∧ _); rw [wO_ite]; simp only [Bool.and_eq_true, decide_eq_true_eq, wO_some, wO_none]; by_cases h : q.showable = true ∧ q.shown.length ≤ lim <;> simp [h]
@[simp] theorem f_sl_t {xs : List D} {lo hi : Option Int} : opSl (.tup xs) lo hi M = some (.tup (cutD xs lo hi), M) := id rfl
@[simp] theorem f_sl_r {n : Nat} {lo hi : Option Int} : wO (opSl (.ref n) lo hi M) P = wA (cSeq M[n]?) fun xs => P (.ref M.length) (M ++ [.lst (cutD xs lo hi)]) := by
  show wO (match getL M n with | some xs => some (.ref M.length, M ++ [.lst (cutD xs lo hi)]) | none => none) P = _
  rw [getL_def]; cases cSeq M[n]? <;> rfl
@[simp] theorem m_app2 {n : Nat} {k : (List D → Mem → R D) → Prop} : wA (mL nAppend (.ref n) M) k = wA (cSeq M[n]?) fun _ => k fun ds M2 => R.of (nAppend (.ref n) ds M2) := by
  simp only [mL]
  cases M[n]? with
  | none => rfl
  | some c => cases c <;> rfl
@[simp] theorem f_append {n : Nat} {y : D} : wO (nAppend (.ref n) [y] M) P = wA (cLst M[n]?) fun xs => xs.length < lim ∧ P .non (M.set n (.lst (xs ++ [y]))) := by
  show wO (match M[n]? with | some (.lst xs) => if xs.length < lim then some (.non, wrL n (xs ++ [y]) M) else none | _ => none) P = _
  cases M[n]? with
  | none => rfl
  | some c =>
    cases c with
    | lst xs => show wO (if _ then _ else _) P = (_ ∧ _); rw [wO_ite]; by_cases h : xs.length < lim <;> simp [h, wrL]
    | rls xs => rfl
    | ins c fs => rfl
    | dct kv => rfl
@[simp] theorem f_setIx {n : Nat} {i : Int} {y : D} {k : Mem → Prop} : wA (nSetIx (.ref n) (.int i) y M) k = wA (cLst M[n]?) fun xs => wA (ixN xs.length i) fun j => k (M.set n (.lst (xs.set j y))) := by
  show wA (match M[n]? with | some (.lst xs) => (ixN xs.length i).map fun j => wrL n (xs.set j y) M | _ => none) k = _
  cases M[n]? with
  | none => rfl
  | some c =>
    cases c with
    | lst xs => show wA ((ixN xs.length i).map _) k = wA (ixN xs.length i) _; cases ixN xs.length i <;> rfl
    | rls xs => rfl
    | ins c fs => rfl
    | dct kv => rfl
theorem ixN_of {n j : Nat} (h : j < n) : ixN n (j : Int) = some j := by unfold ixN; simp; omega
@[simp] theorem f_fld {cs : List Str} {f : Str} {n : Nat} : wO (opFld cs f (.ref n) M) P = wA (cIns M[n]?) fun q => q.1 ∈ cs ∧ wA (q.2.lookup f) fun d => P d M := by
  show wO (match M[n]? with | some (.ins c fs) => if c ∈ cs then (fs.lookup f).map (·, M) else none | _ => none) P = _
  cases M[n]? with
  | none => rfl
  | some c =>
    cases c with
    | lst xs => rfl
    | rls xs => rfl
    | ins c fs =>
      show wO (if _ then _ else _) P = (_ ∧ _); rw [wO_ite]
      by_cases h : c ∈ cs
      · simp only [h, if_true, true_and]; show wO ((fs.lookup f).map fun d => (d, M)) P = _; rw [wO_map]
      · simp [h]
    | dct kv => rfl
/-- no field of this name -/
def noName (name : Str) (fs : List (Str × D)) : Prop := (fs.lookup name).isSome = false
@[simp] theorem m_own {name : Str} {tbl : List MEnt} {n : Nat} {k : (List D → Mem → R D) → Prop} : wA (mO name tbl (.ref n) M) k = wA (cIns M[n]?) fun q => noName name q.2 ∧ wA (tbl.find? fun m => m.c == q.1) fun m => k fun ds M2 => if ds.length = m.n then m.f (.ref n :: ds) M2 else .st := by
  simp only [mO]
  cases M[n]? with
  | none => rfl
  | some c =>
    cases c with
    | lst xs => rfl
    | rls xs => rfl
    | ins c fs =>
      show wA (if (fs.lookup name).isSome = true then none else (tbl.find? fun m => m.c == c).map _) k = ((fs.lookup name).isSome = false ∧ wA (tbl.find? fun m => m.c == c) _)
      cases h : (fs.lookup name).isSome with
      | true => simp
      | false => simp only [Bool.false_eq_true, if_false, true_and]; cases tbl.find? fun m => m.c == c <;> rfl
    | dct kv => rfl
theorem pk_n {xs : List D} : pickD [] xs = some [] := rfl
@[simp] theorem pk_0 {xs : List D} {k : List D → Prop} : wA (pickD [] xs) k = k [] := id rfl
@[simp] theorem pk_l {i : Nat} {r : List (Nat ⊕ D)} {xs : List D} {k : List D → Prop} : wA (pickD (.inl i :: r) xs) k = wA xs[i]? fun d => wA (pickD r xs) fun ds => k (d :: ds) := by
  show wA (match xs[i]?, pickD r xs with | some d, some ds => some (d :: ds) | _, _ => none) k = _
  cases xs[i]? with
  | none => rfl
  | some d => cases pickD r xs <;> rfl
@[simp] theorem pk_r {d : D} {r : List (Nat ⊕ D)} {xs : List D} {k : List D → Prop} : wA (pickD (.inr d :: r) xs) k = wA (pickD r xs) fun ds => k (d :: ds) := by
  show wA (match pickD r xs with | some ds => some (d :: ds) | none => none) k = _
  cases pickD r xs <;> rfl
@[simp] theorem fk_ref {name : Str} {tbl : List MEntK} {n : Nat} {k : MEntK → Prop} : wA (findK name tbl (.ref n) M) k = wA (cIns M[n]?) fun q => noName name q.2 ∧ wA (tbl.find? fun m => m.c == q.1) k := by
  simp only [findK]
  cases M[n]? with
  | none => rfl
  | some c =>
    cases c with
    | lst xs => rfl
    | rls xs => rfl
    | ins c fs =>
      show wA (if (fs.lookup name).isSome = true then none else tbl.find? fun m => m.c == c) k = ((fs.lookup name).isSome = false ∧ wA (tbl.find? fun m => m.c == c) k)
      cases h : (fs.lookup name).isSome with
      | true => simp
      | false => simp only [Bool.false_eq_true, if_false, true_and]
    | dct kv => rfl
@[simp] theorem q_metK {name : Str} {tbl : List MEntK} {l : Nat} {a : Den} {u v : DenL} {ev : Env} : wE (dMetK name tbl l a u v ev M) P X = wE (a ev M) (fun d M1 => wA (findK name tbl d M1) fun m => wE (u ev M1) (fun xs M2 => wE (v ev M2) (fun ys M3 => (xs.length = m.n ∧ ys.length = l) ∧ wA (pickD m.S (xs ++ ys)) fun zs => wE (m.f (d :: zs) M3) P X) X) X) X := by
  unfold dMetK; rw [wE_bind]; refine wE_ext fun d M1 => ?_
  cases findK name tbl d M1 with
  | none => rfl
  | some m =>
    show wE ((u ev M1).bind _) P X = wE (u ev M1) _ X
    rw [wE_bind]; refine wE_ext fun xs M2 => ?_; rw [wE_bind]; refine wE_ext fun ys M3 => ?_
    by_cases h : xs.length = m.n ∧ ys.length = l
    · simp only [h, and_self, if_true, true_and]; cases pickD m.S (xs ++ ys) <;> rfl
    · simp only [h, if_false, false_and]; rfl
@[simp] theorem q_makeK {c : Str} {f : Fun} {n m : Nat} {S : List (Nat ⊕ D)} {u v : DenL} {ev : Env} : wE (dMakeK c f n m S u v ev M) P X = wE (u ev M) (fun xs M1 => wE (v ev M1) (fun ys M2 => (xs.length = n ∧ ys.length = m) ∧ wA (pickD S (xs ++ ys)) fun zs => wE (f (.ref M2.length :: zs) (M2 ++ [.ins c []])) (fun d M3 => d = .non ∧ P (.ref M2.length) M3) X) X) X := by
  unfold dMakeK; rw [wE_bind]; refine wE_ext fun xs M1 => ?_; rw [wE_bind]; refine wE_ext fun ys M2 => ?_
  by_cases h : xs.length = n ∧ ys.length = m
  · simp only [h, and_self, if_true, true_and]
    cases pickD S (xs ++ ys) with
    | none => rfl
    | some zs => show wE ((f _ _).bind _) P X = wE (f _ _) _ X; rw [wE_bind]; refine wE_ext fun d M3 => ?_; cases d <;> simp [wE]
  · simp only [h, if_false, false_and]; rfl
/-- a caught exception -/
def wX (o : Option (Option D)) (k : Str → List (Str × D) → Prop) (_ : Tag k := .mk) : Prop := match o with
  | some (some (.exc c fs _)) => k c fs
  | _ => False
@[simp] theorem wX_e {c : Str} {fs : List (Str × D)} {i : Nat} {k : Str → List (Str × D) → Prop} : wX (some (some (.exc c fs i))) k = k c fs := id rfl
@[simp] theorem q_ise {i : Nat} {own : List (Str × Bool)} {ev : Env} : wE (dIsE i own ev M) P X = wX ev[i]? fun c _ => wA (own.lookup c) fun b => P (.bl b) M := by
  unfold dIsE
  cases h : ev[i]? with
  | none => rfl
  | some o =>
    cases o with
    | none => rfl
    | some d =>
      cases d with
      | exc c fs k => show wE (match own.lookup c with | some b => .ok (.bl b) M | none => .st) P X = wA _ _; cases own.lookup c <;> rfl
      | _ => rfl
@[simp] theorem q_xf {i : Nat} {cs : List Str} {f : Str} {ev : Env} : wE (dXf i cs f ev M) P X = wX ev[i]? fun c fs => c ∈ cs ∧ wA (fs.lookup f) fun d => P d M := by
  unfold dXf
  cases h : ev[i]? with
  | none => rfl
  | some o =>
    cases o with
    | none => rfl
    | some d =>
      cases d with
      | exc c fs k =>
        by_cases hc : c ∈ cs
        · simp only [hc, if_true, true_and, wX_e]; cases fs.lookup f <;> rfl
        · simp only [hc, if_false, false_and, wX_e]; rfl
      | _ => rfl
@[simp] theorem tg_int {i : Int} : tag (.int i) M = some (.inl .int) := id rfl
@[simp] theorem tg_bl {i : Bool} : tag (.bl i) M = some (.inl .bl) := id rfl
@[simp] theorem tg_str {i : Str} : tag (.str i) M = some (.inl .str) := id rfl
@[simp] theorem tg_tup {i : List D} : tag (.tup i) M = some (.inl .tup) := id rfl
@[simp] theorem tg_non : tag .non M = some (.inl .non) := id rfl
theorem tg_lst {n : Nat} {xs : List D} (h : M[n]? = some (.lst xs)) : tag (.ref n) M = some (.inl .lst) := by simp only [tag, h]
theorem tg_ins {n : Nat} {c : Str} {fs : List (Str × D)} (h : M[n]? = some (.ins c fs)) : tag (.ref n) M = some (.inr c) := by simp only [tag, h]
@[simp] theorem an_l {tb : Tg → Bool} {own : List (Str × Bool)} {t : Tg} : ansT tb own (.inl t) = some (tb t) := id rfl
@[simp] theorem an_r {tb : Tg → Bool} {own : List (Str × Bool)} {c : Str} : ansT tb own (.inr c) = own.lookup c := id rfl
@[simp] theorem tb_def {l : List Tg} {t : Tg} : tbOf l t = l.contains t := id rfl
/-! items -/
variable {ev : Env} {l : DenL} {a : Den} {P2 : List D × (Mem → Bool) → Mem → Prop}
def anyOf (d : D) (M : Mem) : Option (List D × (Mem → Bool)) := match d with
  | .tup xs => some (xs, yes)
  | .ref n => (cSeq M[n]?).map fun xs => (xs, cellIs n xs)
  | .str z => some (strItems z, yes)
  | _ => none
@[simp] theorem an_tup {xs : List D} : anyOf (.tup xs) M = some (xs, yes) := id rfl
@[simp] theorem an_str {z : Str} : anyOf (.str z) M = some (strItems z, yes) := id rfl
@[simp] theorem an_ref {n : Nat} : anyOf (.ref n) M = (cSeq M[n]?).map fun xs => (xs, cellIs n xs) := id rfl
@[simp] theorem i_any : wE (itAny a ev M) P2 X = wE (a ev M) (fun d M1 => wA (anyOf d M1) fun q => P2 q M1) X := by
  unfold itAny; rw [wE_bind]; refine wE_ext fun d M1 => ?_
  cases d with
  | ref n =>
    show wE (match getL M1 n with | some xs => .ok (xs, cellIs n xs) M1 | none => .st) P2 X = wA ((cSeq M1[n]?).map _) _
    rw [getL_def]; cases cSeq M1[n]? <;> rfl
  | _ => rfl
def rgOf (ds : List D) : Option (List D) := match ds with
  | [.int j] => if big j then some (rangeD 0 j.toNat) else none
  | [.int i, .int j] => if big i && big j then some (rangeD i (j - i).toNat) else none
  | [.int i, .int j, .int c] => if big i && big j && decide (c = -1) then some ((rangeD (j + 1) (i - j).toNat).reverse) else none
  | _ => none
theorem big_of {i : Int} (h : -(2 ^ 62) ≤ i ∧ i < 2 ^ 62) : big i = true := by unfold big; rw [decide_eq_true h.1, decide_eq_true h.2]; rfl
@[simp] theorem rg_1 {j : Int} : rgOf [.int j] = if big j then some (rangeD 0 j.toNat) else none := id rfl
@[simp] theorem rg_2 {i j : Int} : rgOf [.int i, .int j] = if big i && big j then some (rangeD i (j - i).toNat) else none := id rfl
@[simp] theorem rg_3 {i j c : Int} : rgOf [.int i, .int j, .int c] = if big i && big j && decide (c = -1) then some ((rangeD (j + 1) (i - j).toNat).reverse) else none := id rfl
@[simp] theorem i_range : wE (itRange l ev M) P2 X = wE (l ev M) (fun ds M1 => wA (rgOf ds) fun xs => P2 (xs, yes) M1) X := by
  unfold itRange; rw [wE_bind]; refine wE_ext fun ds M1 => ?_
  unfold rgOf
  split
  · rename_i j; show wE (if big j = true then _ else _) P2 X = wA (if big j = true then _ else _) _; cases big j <;> rfl
  · rename_i i j; show wE (if (big i && big j) = true then _ else _) P2 X = wA (if (big i && big j) = true then _ else _) _; cases big i && big j <;> rfl
  · rename_i i j c; show wE (if (big i && big j && decide (c = -1)) = true then _ else _) P2 X = wA (if (big i && big j && decide (c = -1)) = true then _ else _) _; cases big i && big j && decide (c = -1) <;> rfl
  · rename_i h1 h2 h3
    first
      | rfl
      | (split
         · exact (h1 _ rfl).elim
         · exact (h2 _ _ rfl).elim
         · exact (h3 _ _ _ rfl).elim
         · rfl)
def rgP (ds : List D) : Option (Int × Int) := match ds with
  | [.int j] => if big j && decide (j ≤ 2 ^ 24) then some (0, j) else none
  | [.int i, .int j] => if big i && big j && decide (j - i ≤ 2 ^ 24) then some (i, j) else none
  | _ => none
@[simp] theorem rp_1 {j : Int} : rgP [.int j] = if big j && decide (j ≤ 2 ^ 24) then some (0, j) else none := id rfl
@[simp] theorem rp_2 {i j : Int} : rgP [.int i, .int j] = if big i && big j && decide (j - i ≤ 2 ^ 24) then some (i, j) else none := id rfl
@[simp] theorem i_rgD {P : Int × Int → Mem → Prop} : wE (rgD l ev M) P X = wE (l ev M) (fun ds M1 => wA (rgP ds) fun q => P q M1) X := by
  unfold rgD; rw [wE_bind]; refine wE_ext fun ds M1 => ?_
  unfold rgP
  split
  · rename_i j; show wE (if (big j && decide (j ≤ 2 ^ 24)) = true then _ else _) P X = wA (if (big j && decide (j ≤ 2 ^ 24)) = true then _ else _) _; cases big j && decide (j ≤ 2 ^ 24) <;> rfl
  · rename_i i j; show wE (if (big i && big j && decide (j - i ≤ 2 ^ 24)) = true then _ else _) P X = wA (if (big i && big j && decide (j - i ≤ 2 ^ 24)) = true then _ else _) _; cases big i && big j && decide (j - i ≤ 2 ^ 24) <;> rfl
  · rename_i h1 h2
    first
      | rfl
      | (split
         · exact (h1 _ rfl).elim
         · exact (h2 _ _ rfl).elim
         · rfl)
@[simp] theorem q_lstRg : wE (dLstRg l ev M) P X = wE (l ev M) (fun ds M1 => wA (rgP ds) fun q => P (.ref M1.length) (M1 ++ [.lst (rangeD q.1 (q.2 - q.1).toNat)])) X := by
  unfold dLstRg; rw [wE_bind, i_rgD]; rfl
@[simp] theorem q_tupRg : wE (dTupRg l ev M) P X = wE (l ev M) (fun ds M1 => wA (rgP ds) fun q => P (.tup (rangeD q.1 (q.2 - q.1).toNat)) M1) X := by
  unfold dTupRg; rw [wE_bind, i_rgD]; rfl
@[simp] theorem i_revRg : wE (itRevRg l ev M) P2 X = wE (l ev M) (fun ds M1 => wA (rgP ds) fun q => P2 ((rangeD q.1 (q.2 - q.1).toNat).reverse, yes) M1) X := by
  unfold itRevRg; rw [wE_bind, i_rgD]; rfl
def enumOf (ds : List D) (M : Mem) : Option (List D × (Mem → Bool)) := match ds with
  | [.tup xs] => some (pairsD 0 xs, yes)
  | [.ref n] => (cSeq M[n]?).map fun xs => (pairsD 0 xs, cellIs n xs)
  | _ => none
@[simp] theorem en_tup {xs : List D} : enumOf [.tup xs] M = some (pairsD 0 xs, yes) := id rfl
@[simp] theorem en_ref {n : Nat} : enumOf [.ref n] M = (cSeq M[n]?).map fun xs => (pairsD 0 xs, cellIs n xs) := id rfl
@[simp] theorem i_enumA : wE (itEnumA l ev M) P2 X = wE (l ev M) (fun ds M1 => wA (enumOf ds M1) fun q => P2 q M1) X := by
  unfold itEnumA; rw [wE_bind]; refine wE_ext fun ds M1 => ?_
  unfold enumOf
  split
  · rename_i n; simp only [getL_def]; cases cSeq M1[n]? <;> rfl
  · rfl
  · rename_i h1 h2
    first
      | rfl
      | (split
         · rename_i xs; exact absurd rfl (h2 xs)
         · rename_i n; exact absurd rfl (h1 n)
         · rfl)
def zipOf (ds : List D) (M : Mem) : Option (List D × (Mem → Bool)) := match ds with
  | [.ref n, .ref m] => match cSeq M[n]?, cSeq M[m]? with
    | some xs, some ys => some (zipD xs ys, fun M => cellIs n xs M && cellIs m ys M)
    | _, _ => none
  | [.tup xs, .tup ys] => some (zipD xs ys, yes)
  | _ => none
@[simp] theorem zp_tup {xs ys : List D} : zipOf [.tup xs, .tup ys] M = some (zipD xs ys, yes) := id rfl
@[simp] theorem zp_ref {n m : Nat} {k : List D × (Mem → Bool) → Prop} : wA (zipOf [.ref n, .ref m] M) k = wA (cSeq M[n]?) fun xs => wA (cSeq M[m]?) fun ys => k (zipD xs ys, fun M => cellIs n xs M && cellIs m ys M) := by
  simp only [zipOf]
  cases cSeq M[n]? with
  | none => rfl
  | some xs => cases cSeq M[m]? <;> rfl
@[simp] theorem i_zipA : wE (itZipA l ev M) P2 X = wE (l ev M) (fun ds M1 => wA (zipOf ds M1) fun q => P2 q M1) X := by
  unfold itZipA; rw [wE_bind]; refine wE_ext fun ds M1 => ?_
  unfold zipOf
  split
  · rename_i n m; simp only [getL_def]; cases cSeq M1[n]? with
    | none => rfl
    | some xs => cases cSeq M1[m]? <;> rfl
  · rfl
  · rename_i h1 h2
    first
      | rfl
      | (split
         · rename_i n m; exact absurd rfl (h1 n m)
         · rename_i xs ys; exact absurd rfl (h2 xs ys)
         · rfl)
@[simp] theorem q_compL {it : ItD} {g : TgD} {t : DenT} {f : Den} {vs : List Nat} : wE (dComp it g t f vs ev M) P X = wE (it ev M) (fun q M1 => wA (compL g t f q.2 M1.length (wipeD ev vs) q.1 (M1 ++ [.lst []])) fun M2 => P (.ref M1.length) M2) X := by
  unfold dComp; rw [wE_bind]; refine wE_ext fun q M1 => ?_
  cases compL g t f q.2 M1.length (wipeD ev vs) q.1 (M1 ++ [.lst []]) <;> rfl
end
end MI

set_option Elab.async false
set_option linter.all false
set_option maxRecDepth 100000
set_option maxHeartbeats 2000000
/-! loops and comprehensions by a number -/
namespace MI
open PySem L2
@[simp] theorem rangeD_len : ∀ {n : Nat} {lo : Int}, (rangeD lo n).length = n
  | 0, _ => rfl
  | n + 1, lo => by simp [rangeD, rangeD_len (n := n)]
@[simp] theorem rangeD_at : ∀ {n : Nat} {lo : Int} {i : Nat} (h : i < (rangeD lo n).length), (rangeD lo n)[i] = .int (lo + i)
  | 0, _, i, h => by simp [rangeD] at h
  | n + 1, lo, 0, h => by simp [rangeD]
  | n + 1, lo, i + 1, h => by
    have h' : i < (rangeD (lo + 1) n).length := by simpa [rangeD] using h
    have := rangeD_at (n := n) (lo := lo + 1) (i := i) h'
    simp only [rangeD, List.getElem_cons_succ, this]
    congr 1; push_cast; omega
@[simp] theorem pairsD_len : ∀ {xs : List D} {n : Nat}, (pairsD n xs).length = xs.length
  | [], _ => rfl
  | x :: xs, n => by simp [pairsD, pairsD_len (xs := xs)]
@[simp] theorem pairsD_at : ∀ {xs : List D} {n i : Nat} (h : i < (pairsD n xs).length), (pairsD n xs)[i] = .tup [.int ((n + i : Nat) : Int), xs[i]'(by simpa using h)]
  | [], n, i, h => by simp [pairsD] at h
  | x :: xs, n, 0, h => by simp [pairsD]
  | x :: xs, n, i + 1, h => by
    have h' : i < (pairsD (n + 1) xs).length := by simpa [pairsD] using h
    have := pairsD_at (xs := xs) (n := n + 1) (i := i) h'
    simp only [pairsD, List.getElem_cons_succ, this]
    rw [show n + 1 + i = n + (i + 1) by omega]
@[simp] theorem yes_t {M : Mem} : yes M = true := id rfl
@[simp] theorem iL_len {xs : List Int} : (iL xs).length = xs.length := iL_length xs
@[simp] theorem iL_at {xs : List Int} {i : Nat} (h : i < (iL xs).length) : (iL xs)[i] = .int (xs[i]'(by simpa using h)) := by simp [iL]
@[simp] theorem iL_nil : iL [] = [] := id rfl
@[simp] theorem ints_i (xs : List Int) : tupInts (iL xs) = some xs := ints_iL xs
section
variable {g : TgD} {b : DenS} {chk : Mem → Bool} {p : SP} {xs : List D} {ev : Env} {M : Mem}
/-- a loop over items, by their number -/
theorem q_forI (J : Nat → Env → Mem → Prop) (hc : ∀ i ev M, J i ev M → chk M = true) (h0 : J 0 ev M)
    (hs : ∀ i ev M (h : i < xs.length), J i ev M → wA (g xs[i] ev) fun ev1 => wS (b ev1 M) { nx := J (i + 1), ct := J (i + 1), bk := p.nx, rt := p.rt, ex := p.ex })
    (hd : ∀ ev M, J xs.length ev M → p.nx ev M) : wS (forL g b chk xs ev M) p := by
  refine wS_forL (fun rest ev M => ∃ i, rest = xs.drop i ∧ i ≤ xs.length ∧ J i ev M) ?_ ?_ ?_ xs ev M ⟨0, rfl, Nat.zero_le _, h0⟩
  · rintro _ ev M ⟨i, _, _, h⟩; exact hc i ev M h
  · rintro x rest ev M ⟨i, e, hi, h⟩
    have hlt : i < xs.length := by
      by_cases z : i < xs.length
      · exact z
      · rw [List.drop_of_length_le (by omega)] at e; cases e
    rw [List.drop_eq_getElem_cons hlt] at e
    rw [List.cons.injEq] at e
    obtain ⟨rfl, rfl⟩ := e
    have := hs i ev M hlt h
    cases eg : g xs[i] ev with
    | none => rw [eg] at this; exact this.elim
    | some ev1 =>
      rw [eg] at this
      refine ⟨ev1, rfl, wS.mono this ?_ ?_ ?_ ?_ ?_⟩
      · intro e M h; exact ⟨i + 1, rfl, hlt, h⟩
      · intro d M h; exact h
      · intro e M h; exact h
      · intro e M h; exact ⟨i + 1, rfl, hlt, h⟩
      · intro n fs e M h; exact h
  · rintro ev M ⟨i, e, hi, h⟩
    have : i = xs.length := by
      have := congrArg List.length e
      simp at this; omega
    subst this
    exact hd ev M h
/-- a loop over a range -/
theorem q_forR {lo : Int} {n : Nat} (J : Nat → Env → Mem → Prop) (h0 : J 0 ev M)
    (hs : ∀ i ev M, i < n → J i ev M → wA (g (.int (lo + i)) ev) fun ev1 => wS (b ev1 M) { nx := J (i + 1), ct := J (i + 1), bk := p.nx, rt := p.rt, ex := p.ex })
    (hd : ∀ ev M, J n ev M → p.nx ev M) : wS (forL g b yes (rangeD lo n) ev M) p := by
  refine q_forI J (fun _ _ _ _ => rfl) h0 (fun i ev M h j => ?_) (fun ev M j => hd ev M (by simpa using j))
  rw [rangeD_at]
  exact hs i ev M (by simpa using h) j
/-- a loop over a range from behind: J i holds when the numbers below i are left -/
theorem q_forRR {lo : Int} {n : Nat} (J : Nat → Env → Mem → Prop) (h0 : J n ev M)
    (hs : ∀ i ev M, i < n → J (i + 1) ev M → wA (g (.int (lo + i)) ev) fun ev1 => wS (b ev1 M) { nx := J i, ct := J i, bk := p.nx, rt := p.rt, ex := p.ex })
    (hd : ∀ ev M, J 0 ev M → p.nx ev M) : wS (forL g b yes (rangeD lo n).reverse ev M) p := by
  refine q_forI (fun i ev M => i ≤ n ∧ J (n - i) ev M) (fun _ _ _ _ => rfl) ⟨Nat.zero_le _, h0⟩ (fun i ev M h j => ?_) (fun ev M j => hd ev M (by have := j.2; simpa using this))
  have h' : i < n := by simpa using h
  rw [List.getElem_reverse, rangeD_at]
  have := hs (n - 1 - i) ev M (by omega) (by rw [show n - 1 - i + 1 = n - i by omega]; exact j.2)
  rw [rangeD_len]
  cases eg : g (.int (lo + (n - 1 - i : Nat))) ev with
  | none => rw [eg] at this; exact this.elim
  | some ev1 =>
    rw [eg] at this
    have f : ∀ e M, J (n - 1 - i) e M → i + 1 ≤ n ∧ J (n - (i + 1)) e M := fun e M h => ⟨h', by rw [show n - (i + 1) = n - 1 - i by omega]; exact h⟩
    exact wS.mono this f (fun _ _ h => h) (fun _ _ h => h) f (fun _ _ _ _ h => h)
theorem q_forC {x : D} : wS (forL g b chk (x :: xs) ev M) p = (chk M = true ∧ wA (g x ev) fun ev1 => wS (b ev1 M) { nx := fun ev M => wS (forL g b chk xs ev M) p, rt := p.rt, bk := p.nx, ct := fun ev M => wS (forL g b chk xs ev M) p, ex := p.ex }) := by
  show wS (if chk M = true then _ else _) p = _
  cases chk M with
  | false => simp [wS]
  | true =>
    simp only [if_true, true_and]
    cases g x ev with
    | none => rfl
    | some ev1 =>
      show wS (match b ev1 M with | .nx ev2 M2 => forL g b chk xs ev2 M2 | .ct ev2 M2 => forL g b chk xs ev2 M2 | .bk ev2 M2 => .nx ev2 M2 | r => r) p = wS (b ev1 M) _
      cases b ev1 M <;> rfl
theorem q_forN : wS (forL g b chk [] ev M) p = (chk M = true ∧ p.nx ev M) := by
  show wS (if chk M = true then _ else _) p = _
  cases chk M <;> simp [wS]
@[simp] theorem g_n {i : Nat} {d : D} : gN i d ev = some (ev.set i (some d)) := id rfl
@[simp] theorem g_t {u : TgDs} {ds : List D} : gT u (.tup ds) ev = u ds ev := id rfl
@[simp] theorem g_nil : gNil [] ev = some ev := id rfl
@[simp] theorem g_cons {t : TgD} {u : TgDs} {d : D} {ds : List D} {k : Env → Prop} : wA (gCons t u (d :: ds) ev) k = wA (t d ev) fun ev1 => wA (u ds ev1) k := by
  show wA (match t d ev with | some ev1 => u ds ev1 | none => none) k = _
  cases t d ev <;> rfl
@[simp] theorem dropE_n : dropE none = none := id rfl
@[simp] theorem dropE_int {i : Int} : dropE (some (.int i)) = some (.int i) := id rfl
@[simp] theorem dropE_bl {i : Bool} : dropE (some (.bl i)) = some (.bl i) := id rfl
@[simp] theorem dropE_str {i : Str} : dropE (some (.str i)) = some (.str i) := id rfl
@[simp] theorem dropE_tup {i : List D} : dropE (some (.tup i)) = some (.tup i) := id rfl
@[simp] theorem dropE_ref {i : Nat} : dropE (some (.ref i)) = some (.ref i) := id rfl
@[simp] theorem dropE_non : dropE (some .non) = some .non := id rfl
@[simp] theorem dropE_exc {c : Str} {fs : List (Str × D)} {i : Nat} : dropE (some (.exc c fs i)) = none := id rfl
theorem dropE_x {d : D} (h : d.isExc = false) : dropE (some d) = some d := by cases d <;> first | rfl | (simp [D.isExc] at h)
@[simp] theorem wipe_n : wipeD ev [] = ev.map dropE := id rfl
@[simp] theorem wipe_c {v : Nat} {vs : List Nat} : wipeD ev (v :: vs) = (wipeD ev vs).set v none := id rfl
variable {t : DenT} {f : Den} {n : Nat} {k : Mem → Prop}
/-- a comprehension with all that it does -/
theorem c_inv (J : Nat → List D → Mem → Prop) (hl : xs.length ≤ lim) (hc : ∀ i acc M, J i acc M → chk M = true ∧ M[n]? = some (.lst acc)) (h0 : J 0 [] M)
    (hs : ∀ i acc M (h : i < xs.length), J i acc M → wA (g xs[i] ev) fun ev1 => wE (t (ev1.map dropE) M) (fun b M1 => if b = true then wE (f (ev1.map dropE) M1) (fun d M2 => M2[n]? = some (.lst acc) ∧ J (i + 1) (acc ++ [d]) (M2.set n (.lst (acc ++ [d])))) noX else J (i + 1) acc M1) noX)
    (hd : ∀ acc M, J xs.length acc M → k M) : wA (compL g t f chk n ev xs M) k := by
  obtain ⟨acc', M', e, i, h1, h2, h3⟩ := compL_ok (g := g) (t := t) (f := f) (chk := chk) (n := n) (ev := ev) (fun rest acc M => ∃ i, rest = xs.drop i ∧ i ≤ xs.length ∧ J i acc M ∧ acc.length ≤ i)
    (fun rest acc M ⟨i, e, hi, h, ha⟩ => ⟨(hc i acc M h).1, (hc i acc M h).2, by rw [e, List.length_drop]; omega⟩)
    (fun x rest acc M ⟨i, e, hi, h, ha⟩ => by
      have hlt : i < xs.length := by
        by_cases z : i < xs.length
        · exact z
        · rw [List.drop_of_length_le (by omega)] at e; cases e
      rw [List.drop_eq_getElem_cons hlt] at e
      rw [List.cons.injEq] at e
      obtain ⟨rfl, rfl⟩ := e
      have := hs i acc M hlt h
      cases eg : g xs[i] ev with
      | none => rw [eg] at this; exact this.elim
      | some ev1 =>
        rw [eg] at this
        obtain ⟨b, M1, e1, h1⟩ := wE.get this
        refine ⟨ev1, b, M1, rfl, e1, fun hb => ?_, fun hb => ?_⟩
        · subst hb; exact ⟨i + 1, rfl, hlt, h1, by omega⟩
        · subst hb
          obtain ⟨d, M2, e2, h2, h3⟩ := wE.get h1
          exact ⟨d, M2, e2, h2, i + 1, rfl, hlt, h3, by simp; omega⟩) xs [] M ⟨0, rfl, Nat.zero_le _, h0, Nat.le_refl _⟩
  rw [e]
  have : i = xs.length := by
    have := congrArg List.length h1
    simp at this; omega
  subst this
  exact hd acc' M' h3.1
/-- a comprehension whose test and item leave the memory as it is -/
theorem c_pure {n : Nat} (hn : n = M.length) (F : D → Option D) (hchk : ∀ c, chk (M ++ [c]) = true)
    (hF : ∀ x ∈ xs, ∀ c, wA (g x ev) fun ev1 => wE (t (ev1.map dropE) (M ++ [c])) (fun b M1 => M1 = M ++ [c] ∧ if b = true then wE (f (ev1.map dropE) (M ++ [c])) (fun d M2 => M2 = M ++ [c] ∧ F x = some d) noX else F x = none) noX)
    (hl : xs.length ≤ lim) (hk : k (M ++ [.lst (xs.filterMap F)])) : wA (compL g t f chk n ev xs (M ++ [.lst []])) k := by
  subst hn
  refine c_inv (fun i acc M1 => M1 = M ++ [.lst acc] ∧ acc = (xs.take i).filterMap F) hl ?_ ⟨rfl, by simp⟩ ?_ ?_
  · rintro i acc _ ⟨rfl, _⟩; exact ⟨hchk _, get_push⟩
  · rintro i acc _ h ⟨rfl, ea⟩
    have := hF xs[i] (List.getElem_mem h) (.lst acc)
    cases eg : g xs[i] ev with
    | none => rw [eg] at this; exact this.elim
    | some ev1 =>
      rw [eg] at this
      refine wE.mono this fun b M1 => ?_
      rintro ⟨rfl, h1⟩
      have et : xs.take (i + 1) = xs.take i ++ [xs[i]] := by rw [List.take_succ, List.getElem?_eq_getElem h]; rfl
      cases b with
      | false => exact ⟨rfl, by rw [et, List.filterMap_append, ea]; simp only [Bool.false_eq_true, if_false] at h1; simp [h1]⟩
      | true =>
        refine wE.mono h1 fun d M2 => ?_
        rintro ⟨rfl, h2⟩
        exact ⟨get_push, by simp, by rw [et, List.filterMap_append, ea]; simp [h2]⟩
  · rintro acc _ ⟨rfl, rfl⟩
    rw [List.take_length]; exact hk
end
end MI

set_option Elab.async false
set_option linter.all false
set_option maxRecDepth 100000
set_option maxHeartbeats 2000000
/-! the parts that all laws share -/
namespace MI
open PySem L2
def d__law_stock : DenS := (sSeq (sSet 1 (dComp (itAny (dSl (dVar 0) oNo (oSome (dC (.int 63))))) (gN 3) tYesD (dOp2 opMod (dOpN nInt (dCons (dVar 3) dNil)) (dOp2 opPow (dOp2 opPow (dC (.int 10)) (dC (.int 60))) (dC (.int 9)))) [3]))
    (sSeq (sSet 2 (dC (.int 0)))
    (sSeq (sFor (itAny (dVar 1)) (gN 3) (sSet 2 (dOp2 opMod (dOpN nInt (dCons (dOp2 opAdd (dOp2 opAdd (dOp2 opMul (dVar 2) (dC (.int 31))) (dVar 3)) (dC (.int 1))) dNil)) (dC (.int 1000003)))))
    (sRet (dOp2 opAdd (dComp (itAny (dVar 1)) (gN 3) (dTru (dOp2 (opB gtB) (dVar 3) (dC (.int 0)))) (dVar 3) [3]) (dLst (dCons (dOp2 opMul (dOp2 opAdd (dVar 2) (dC (.int 1))) (dOp2 opPow (dC (.int 10007)) (dC (.int 61)))) dNil)))))))
def f__law_stock : Fun := runB 4 d__law_stock
def d__law_draw : DenS := (sSeq (sSet 2 (dOpN nInt (dCons (dOp2 opIx (dVar 0) (dC (.int 0))) dNil)))
    (sSeq (sIf (tAndD (dTru (dOp2 (opB ltB) (dVar 2) (dVar 1))) (dTru (dOp2 (opB gtB) (dOpN nLen (dCons (dVar 0) dNil)) (dC (.int 1))))) (sDrop (dMet (mL nPop) (dVar 0) (dCons (dC (.int 0)) dNil))) (sSetIx nSetIx (dVar 0) (dC (.int 0)) (dOp2 opDiv (dVar 2) (dVar 1))))
    (sRet (dOp2 opMod (dOpN nInt (dCons (dVar 2) dNil)) (dVar 1)))))
def f__law_draw : Fun := runB 3 d__law_draw
def d__law_same : DenS := (sRet (dAnd (dOp2 (opB eqB) (dVar 0) (dVar 1)) (dOp2 (opB eqB) (dOpN nRepr (dCons (dVar 0) dNil)) (dOpN nRepr (dCons (dVar 1) dNil)))))
def f__law_same : Fun := runB 2 d__law_same
theorem draw_ok {M : Mem} {n : Nat} {many : Int} (hp : PoolAt n M) (h1 : 0 < many) (h2 : many < 2 ^ 62) :
    ∃ (x : Int) (M' : Mem), f__law_draw [.ref n, .int many] M = .ok (.int x) M' ∧ 0 ≤ x ∧ x < many ∧ PoolAt n M' ∧ Keep n M M' ∧ M'.length = M.length := by
  obtain ⟨ps, hne, hnn, hps⟩ := hp
  cases ps with
  | nil => exact absurd rfl hne
  | cons p r =>
    have hn := lt_of_get hps
    have p0 : 0 ≤ p := hnn p List.mem_cons_self
    have hg : getL M n = some (.int p :: iL r) := by unfold getL; rw [hps]; rfl
    have hps' : M[n]? = some (.lst (.int p :: iL r)) := hps
    have e0 : atI (D.int p :: iL r) 0 = some (.int p) := atI_0
    have hmod : 0 ≤ p.fmod many ∧ p.fmod many < many := ⟨Int.fmod_nonneg_of_pos p h1, Int.fmod_lt_of_pos p h1⟩
    have hm0 : (decide (many ≠ 0)) = true := decide_eq_true (by omega)
    have hdo : divOk p many = true := by
      unfold divOk
      simp only [hm0, Bool.true_and, Bool.or_eq_true, decide_eq_true_eq]
      left
      omega
    have hr : (-2 ^ 63 ≤ (0 : Int) ∧ (0 : Int) < 2 ^ 63) := by decide
    have ek : seqIndex? 0 ((iL r).length + 1) = some 0 := by simp [seqIndex?]
    have ei : ixN ((iL r).length + 1) 0 = some 0 := by simp [ixN]
    by_cases hc : p < many ∧ r ≠ []
    · obtain ⟨hc1, hc2⟩ := hc
      have hl : (1 : Int) < (((iL r).length + 1 : Nat) : Int) := by
        cases r with
        | nil => exact absurd rfl hc2
        | cons a b => simp only [iL, List.map_cons, List.length_cons]; omega
      refine ⟨p.fmod many, M.set n (.lst (iL r)), ?_, hmod.1, hmod.2, ⟨r, hc2, fun q hq => hnn q (List.mem_cons_of_mem _ hq), by rw [List.getElem?_set_self hn]⟩, .set, by simp⟩
      simp only [f__law_draw, runB, d__law_draw, sSeq, sSet, sIf, sRet, sDrop, dOp2, dVar, dC, dOpN, dCons, dNil, dTru, tAndD, bnd, bndO, onx, ort, retN, retR, ofS, ofBS, Bool.false_eq_true, reduceIte, dMet, mL, hps', nPop, List.map_cons, List.map_nil, List.length_cons, List.length_nil,
        List.replicate, List.append_eq, List.cons_append, List.nil_append, List.getElem?_cons_zero, List.getElem?_cons_succ, List.set_cons_zero, List.set_cons_succ, D.isExc, opIx, hg, e0, Option.map_some, nInt, one, opB, ltB, gtB, cmpI, truB, hc1, ek, decide_true, nLen, seqOf, hl, hr, and_self, wrL, List.eraseIdx_zero, List.tail_cons, opMod, MI.opI, hm0]
    · have hcond : (if decide (p < many) = true then R.ok (decide ((1 : Int) < (((iL r).length + 1 : Nat) : Int))) M else R.ok false M) = R.ok false M := by
        by_cases q : p < many
        · have : r = [] := Classical.byContradiction fun z => hc ⟨q, z⟩
          subst this
          simp [q, iL]
        · simp [q]
      have hmem : ∀ q ∈ p.fdiv many :: r, 0 ≤ q := fun q hq => by
        rcases List.mem_cons.mp hq with rfl | hq
        · exact Int.fdiv_nonneg p0 (by omega)
        · exact hnn q (List.mem_cons_of_mem _ hq)
      refine ⟨p.fmod many, M.set n (.lst (iL (p.fdiv many :: r))), ?_, hmod.1, hmod.2, ⟨p.fdiv many :: r, by simp, hmem, by rw [List.getElem?_set_self hn]⟩, .set, by simp⟩
      simp only [f__law_draw, runB, d__law_draw, sSeq, sSet, sIf, sRet, sDrop, dOp2, dVar, dC, dOpN, dCons, dNil, dTru, tAndD, bnd, bndO, onx, ort, retN, retR, ofS, ofBS, Bool.false_eq_true, if_false, if_true, dMet, mL, hps', nPop, List.map_cons, List.map_nil, List.length_cons, List.length_nil,
        List.replicate, List.append_eq, List.cons_append, List.nil_append, List.getElem?_cons_zero, List.getElem?_cons_succ, List.set_cons_zero, List.set_cons_succ, D.isExc, opIx, hg, e0, Option.map_some, nInt, one, opB, ltB, gtB, cmpI, truB, ek, nLen, seqOf, hcond, wrL, opMod, MI.opI, hm0, sSetIx, nSetIx, opDiv, hdo, ei]
      rfl
theorem cut_ints (ns : List Int) (lo hi : Option Int) : ∃ zs : List Int, cutD (iL ns) lo hi = iL zs ∧ zs.length ≤ ns.length := by
  refine ⟨(ns.drop (HT.sIx ns.length 0 lo)).take (HT.sIx ns.length ns.length hi - HT.sIx ns.length 0 lo), ?_, ?_⟩
  · simp [cutD, iL]
  · simp only [List.length_take, List.length_drop]; omega
theorem big1 : ∃ B : Int, 0 < B ∧ ∀ ev M, (dOp2 opPow (dOp2 opPow (dC (.int 10)) (dC (.int 60))) (dC (.int 9))) ev M = .ok (.int B) M :=
  ⟨(10 ^ 60) ^ 9, by decide, fun ev M => by
    have h1 : powOk 10 60 = true := by decide +kernel
    have h2 : powOk (10 ^ 60) 9 = true := by decide +kernel
    have e1 : (60 : Int).toNat = 60 := rfl
    have e2 : (9 : Int).toNat = 9 := rfl
    simp only [dOp2, dC, bnd, opPow, MI.opI, h1, h2, if_true, ofS, e1, e2]⟩
theorem big2 : ∃ B : Int, 0 < B ∧ ∀ ev M, (dOp2 opPow (dC (.int 10007)) (dC (.int 61))) ev M = .ok (.int B) M :=
  ⟨10007 ^ 61, by decide, fun ev M => by
    have h1 : powOk 10007 61 = true := by decide +kernel
    have e1 : (61 : Int).toNat = 61 := rfl
    simp only [dOp2, dC, bnd, opPow, MI.opI, h1, if_true, ofS, e1]⟩
theorem stock_ok (ns : List Int) (hl : ns.length ≤ 63) : ∃ (k : Nat) (M' : Mem), f__law_stock [.ref 0] [.rls (iL ns)] = .ok (.ref k) M' ∧ PoolAt k M' := by
  obtain ⟨B, hB, eB⟩ := big1
  obtain ⟨B2, hB2, eB2⟩ := big2
  obtain ⟨zs, ez, lz⟩ := cut_ints ns none (some 63)
  have hB0 : decide (B ≠ 0) = true := decide_eq_true (by omega)
  have lim9 : lim = 16777216 := rfl
  -- cells
  obtain ⟨as, M1, c1, ys, rs, e1, rfl, h0, hr, rfl⟩ := compL_ok (g := gN 3) (t := tYesD) (f := dOp2 opMod (dOpN nInt (dCons (dVar 3) dNil)) (dOp2 opPow (dOp2 opPow (dC (.int 10)) (dC (.int 60))) (dC (.int 9)))) (chk := cellIs 1 (iL zs)) (n := 2) (ev := wipeD [some (.ref 0), none, none, none] [3])
    (fun xs acc M => ∃ ys rs : List Int, xs = iL ys ∧ acc = iL rs ∧ (∀ r ∈ rs, 0 ≤ r) ∧ rs.length + ys.length ≤ 63 ∧ M = [.rls (iL ns), .lst (iL zs), .lst acc])
    (fun xs acc M ⟨ys, rs, e1, e2, e3, e4, e5⟩ => by
      subst e1 e2 e5
      exact ⟨cellIs_at rfl (plainL_iL _), rfl, by rw [iL_length, iL_length, lim9]; omega⟩)
    (fun x xs acc M ⟨ys, rs, e1, e2, e3, e4, e5⟩ => by
      subst e2 e5
      cases ys with
      | nil => cases e1
      | cons y ys =>
        cases e1
        refine ⟨_, true, [.rls (iL ns), .lst (iL zs), .lst (iL rs)], rfl, rfl, (fun h => by cases h), fun _ => ⟨.int (y.fmod B), [.rls (iL ns), .lst (iL zs), .lst (iL rs)], ?_, rfl, ys, rs ++ [y.fmod B], rfl, by rw [← iL_append]; rfl, fun r hr => ?_, by simp only [List.length_append, List.length_cons, List.length_nil] at e4 ⊢; omega, rfl⟩⟩
        · rw [dOp2]
          rw [show (dOpN nInt (dCons (dVar 3) dNil)) (List.map dropE ((wipeD [some (.ref 0), none, none, none] [3]).set 3 (some (.int y)))) [.rls (iL ns), .lst (iL zs), .lst (iL rs)] = .ok (.int y) [.rls (iL ns), .lst (iL zs), .lst (iL rs)] from rfl]
          rw [bnd, eB, bnd]
          simp only [opMod, MI.opI, hB0, if_true, ofS]
        · rcases List.mem_append.mp hr with hr | hr
          · exact e3 r hr
          · rw [List.mem_singleton.mp hr]
            exact Int.fmod_nonneg_of_pos y hB)
    (iL zs) [] [.rls (iL ns), .lst (iL zs), .lst []] ⟨zs, [], rfl, rfl, by simp, by simp; omega, rfl⟩
  -- mark
  obtain ⟨ev2, M2, c2, m, hm0, hm1, ⟨_, y2, _, rfl⟩, rfl⟩ := forL_ok (g := gN 3) (b := sSet 2 (dOp2 opMod (dOpN nInt (dCons (dOp2 opAdd (dOp2 opAdd (dOp2 opMul (dVar 2) (dC (.int 31))) (dVar 3)) (dC (.int 1))) dNil)) (dC (.int 1000003)))) (chk := cellIs 2 (iL rs))
    (fun xs ev M => ∃ (m : Int), 0 ≤ m ∧ m < 1000003 ∧ (∃ ys : List Int, ∃ y : Option D, xs = iL ys ∧ ev = [some (.ref 0), some (.ref 2), some (.int m), y]) ∧ M = [.rls (iL ns), .lst (iL zs), .lst (iL rs)])
    (fun xs ev M ⟨m, h1, h2, ⟨ys, y, e1, e2⟩, e3⟩ => by subst e3; exact cellIs_at rfl (plainL_iL _))
    (fun x xs ev M ⟨m, h1, h2, ⟨ys, y, e1, e2⟩, e3⟩ => by
      subst e2 e3
      cases ys with
      | nil => cases e1
      | cons z ys =>
        cases e1
        refine ⟨_, [some (.ref 0), some (.ref 2), some (.int ((m * 31 + z + 1).fmod 1000003)), some (.int z)], [.rls (iL ns), .lst (iL zs), .lst (iL rs)], rfl, .inl ?_, _, Int.fmod_nonneg_of_pos _ (by decide), Int.fmod_lt_of_pos _ (by decide), ⟨ys, _, rfl, rfl⟩, rfl⟩
        have hmul : mulOk m 31 = true := by simp [mulOk]
        simp only [sSet, dOp2, dVar, dC, dOpN, dCons, dNil, bnd, bndO, List.set_cons_succ, List.set_cons_zero, List.getElem?_cons_succ, List.getElem?_cons_zero, D.isExc, Bool.false_eq_true, if_false, opMul, opAdd, opMod, MI.opI, hmul, if_true, ofS, nInt, one, ne_eq, decide_true, decide_not, show decide ((1000003 : Int) = 0) = false from rfl, Bool.not_false])
    (iL rs) [some (.ref 0), some (.ref 2), some (.int 0), none] [.rls (iL ns), .lst (iL zs), .lst (iL rs)] ⟨0, by decide, by decide, ⟨rs, none, rfl, rfl⟩, rfl⟩
  -- those above 0
  obtain ⟨as3, M3, c3, ys3, qs, _, rfl, q0, hq, rfl⟩ := compL_ok (g := gN 3) (t := dTru (dOp2 (opB gtB) (dVar 3) (dC (.int 0)))) (f := dVar 3) (chk := cellIs 2 (iL rs)) (n := 3) (ev := wipeD [some (.ref 0), some (.ref 2), some (.int m), y2] [3])
    (fun xs acc M => ∃ ys qs : List Int, xs = iL ys ∧ acc = iL qs ∧ (∀ r ∈ qs, 0 ≤ r) ∧ qs.length + ys.length ≤ 63 ∧ M = [.rls (iL ns), .lst (iL zs), .lst (iL rs), .lst acc])
    (fun xs acc M ⟨ys, rs, e1, e2, e3, e4, e5⟩ => by
      subst e1 e2 e5
      exact ⟨cellIs_at rfl (plainL_iL _), rfl, by rw [iL_length, iL_length, lim9]; omega⟩)
    (fun x xs acc M ⟨ys, qs, e1, e2, e3, e4, e5⟩ => by
      subst e2 e5
      cases ys with
      | nil => cases e1
      | cons y ys =>
        cases e1
        refine ⟨_, decide (0 < y), [.rls (iL ns), .lst (iL zs), .lst (iL rs), .lst (iL qs)], rfl, ?_, (fun h => ⟨ys, qs, rfl, rfl, e3, by simp only [List.length_cons] at e4; omega, rfl⟩), fun h => ⟨.int y, [.rls (iL ns), .lst (iL zs), .lst (iL rs), .lst (iL qs)], rfl, rfl, ys, qs ++ [y], rfl, by rw [← iL_append]; rfl, fun r hr => ?_, by simp only [List.length_append, List.length_cons, List.length_nil] at e4 ⊢; omega, rfl⟩⟩
        · simp only [dTru, dOp2, dVar, dC, wipeD, List.map, dropE, List.set_cons_succ, List.set_cons_zero, List.getElem?_cons_succ, List.getElem?_cons_zero, D.isExc, Bool.false_eq_true, if_false, bnd, opB, gtB, cmpI, Option.map_some, ofS, truB, ofBS]
        · rcases List.mem_append.mp hr with hr | hr
          · exact e3 r hr
          · rw [List.mem_singleton.mp hr]
            exact Int.le_of_lt (of_decide_eq_true h))
    (iL rs) [] [.rls (iL ns), .lst (iL zs), .lst (iL rs), .lst []] ⟨rs, [], rfl, rfl, by simp, by simp; omega, rfl⟩
  refine ⟨5, [.rls (iL ns), .lst (iL zs), .lst (iL rs), .lst (iL qs), .lst [.int ((m + 1) * B2)], .lst (iL (qs ++ [(m + 1) * B2]))], ?_, qs ++ [(m + 1) * B2], by simp, fun p hp => ?_, rfl⟩
  · have hmul : mulOk (m + 1) B2 = true := by
      unfold mulOk
      have : decide ((m + 1).natAbs < 2 ^ 64) = true := decide_eq_true (by omega)
      rw [this]; rfl
    have hlen : (iL qs).length + 1 ≤ lim := by rw [iL_length, lim9]; omega
    have hsl : (dSl (dVar 0) oNo (oSome (dC (.int 63)))) [some (.ref 0), none, none, none] [.rls (iL ns)] = .ok (.ref 1) [.rls (iL ns), .lst (iL zs)] := by
      simp only [dSl, dVar, dC, oNo, oSome, bnd, List.getElem?_cons_zero, D.isExc, Bool.false_eq_true, if_false, opSl, getL, ez, ofS]
      rfl
    have g1 : getL [.rls (iL ns), .lst (iL zs)] 1 = some (iL zs) := rfl
    have g2 : getL [.rls (iL ns), .lst (iL zs), .lst (iL rs)] 2 = some (iL rs) := rfl
    have one_le : 1 ≤ lim := by rw [lim9]; decide
    simp only [f__law_stock, runB, d__law_stock, sSeq, sSet, sFor, sRet, dComp, itAny, hsl, bnd, g1, List.map_cons, List.map_nil, List.length_cons, List.length_nil, List.replicate, List.append_eq, List.cons_append, List.nil_append, Nat.reduceAdd, Nat.reduceSub, c1, Option.map_some, ofS, bndO, onx,
      List.set_cons_succ, List.set_cons_zero, dC, dVar, List.getElem?_cons_succ, List.getElem?_cons_zero, D.isExc, Bool.false_eq_true, if_false, g2]
    have s1 : (dComp (itAny (dVar 1)) (gN 3) (dTru (dOp2 (opB gtB) (dVar 3) (dC (D.int 0)))) (dVar 3) [3]) [some (D.ref 0), some (D.ref 2), some (D.int m), y2] [Cell.rls (iL ns), Cell.lst (iL zs), Cell.lst (iL rs)] =
        .ok (.ref 3) [Cell.rls (iL ns), Cell.lst (iL zs), Cell.lst (iL rs), Cell.lst (iL qs)] := by
      rw [dComp, itAny, show (dVar 1) [some (D.ref 0), some (D.ref 2), some (D.int m), y2] [Cell.rls (iL ns), Cell.lst (iL zs), Cell.lst (iL rs)] = .ok (.ref 2) [Cell.rls (iL ns), Cell.lst (iL zs), Cell.lst (iL rs)] from rfl, bnd]
      simp only [g2, bnd]
      rw [show ([Cell.rls (iL ns), Cell.lst (iL zs), Cell.lst (iL rs)] : Mem).length = 3 from rfl, show ([Cell.rls (iL ns), Cell.lst (iL zs), Cell.lst (iL rs)] ++ [Cell.lst []] : Mem) = [Cell.rls (iL ns), Cell.lst (iL zs), Cell.lst (iL rs), Cell.lst []] from rfl, c3]
      rfl
    have s2 : (dLst (dCons (dOp2 opMul (dOp2 opAdd (dVar 2) (dC (D.int 1))) (dOp2 opPow (dC (D.int 10007)) (dC (D.int 61)))) dNil)) [some (D.ref 0), some (D.ref 2), some (D.int m), y2] [Cell.rls (iL ns), Cell.lst (iL zs), Cell.lst (iL rs), Cell.lst (iL qs)] =
        .ok (.ref 4) [Cell.rls (iL ns), Cell.lst (iL zs), Cell.lst (iL rs), Cell.lst (iL qs), Cell.lst [D.int ((m + 1) * B2)]] := by
      have p1 : (dOp2 opMul (dOp2 opAdd (dVar 2) (dC (D.int 1))) (dOp2 opPow (dC (D.int 10007)) (dC (D.int 61)))) [some (D.ref 0), some (D.ref 2), some (D.int m), y2] [Cell.rls (iL ns), Cell.lst (iL zs), Cell.lst (iL rs), Cell.lst (iL qs)] =
          .ok (.int ((m + 1) * B2)) [Cell.rls (iL ns), Cell.lst (iL zs), Cell.lst (iL rs), Cell.lst (iL qs)] := by
        rw [dOp2, show (dOp2 opAdd (dVar 2) (dC (D.int 1))) [some (D.ref 0), some (D.ref 2), some (D.int m), y2] [Cell.rls (iL ns), Cell.lst (iL zs), Cell.lst (iL rs), Cell.lst (iL qs)] = .ok (.int (m + 1)) [Cell.rls (iL ns), Cell.lst (iL zs), Cell.lst (iL rs), Cell.lst (iL qs)] from rfl, bnd, eB2, bnd]
        simp only [opMul, hmul, if_true, ofS]
      simp only [dLst, dCons, dNil, p1, bnd, List.length_cons, List.length_nil, Nat.reduceAdd, one_le, if_true, List.cons_append, List.nil_append]
    rw [c2, onx, sRet, dOp2, s1, bnd, s2, bnd]
    simp only [opAdd, List.getElem?_cons_succ, List.getElem?_cons_zero, List.length_cons, List.length_nil, Nat.reduceAdd, hlen, if_true, ofS, bndO, retR, List.cons_append, List.nil_append]
    rw [← iL_append]
    rfl
  · rcases List.mem_append.mp hp with hp | hp
    · exact q0 p hp
    · rw [List.mem_singleton.mp hp]
      exact Int.mul_nonneg (by omega) (by omega)

/-- the same thing twice -/
theorem same_of {M : Mem} {a b : D} {p : PyData} (ha : toPs M a = some p) (hb : toPs M b = some p) (he : eqB a b M = some true) (hs : p.showable = true) (hl : p.shown.length ≤ lim) : f__law_same [a, b] M = .ok (.bl true) M := by
  have xa : a.isExc = false := by cases a <;> first | rfl | (simp [toPs, toP] at ha)
  have xb : b.isExc = false := by cases b <;> first | rfl | (simp [toPs, toP] at hb)
  have hlt : (decide (p.shown.length ≤ lim)) = true := decide_eq_true hl
  have es : eqB (.str p.shown) (.str p.shown) M = some true := by show some (decide (p.shown = p.shown)) = _; simp
  simp only [f__law_same, runB, d__law_same, sRet, dAnd, dOp2, dOpN, dCons, dNil, dVar, List.map_cons, List.map_nil, List.length_cons, List.length_nil, List.replicate, List.append_eq, List.cons_append, List.nil_append, List.getElem?_cons_zero, List.getElem?_cons_succ,
    xa, xb, Bool.false_eq_true, if_false, bnd, opB, he, Option.map_some, ofS, truB, nRepr, one, ha, hb, hs, hlt, Bool.and_self, if_true, es, bndO, retR]


theorem draw_wp {n : Nat} {many : Int} {M : Mem} {P : D → Mem → Prop} {X : XP} (hp : PoolAt n M) (h1 : 0 < many) (h2 : many < 2 ^ 62)
    (k : ∀ (x : Int) (M' : Mem), 0 ≤ x → x < many → PoolAt n M' → Keep n M M' → M'.length = M.length → P (.int x) M') : wE (f__law_draw [.ref n, .int many] M) P X := by
  obtain ⟨x, M', e, a, b, c, d, f⟩ := draw_ok hp h1 h2
  exact wE.ofGet e (k x M' a b c d f)
theorem same_wp {M : Mem} {a b : D} {p : PyData} {P : D → Mem → Prop} {X : XP} (ha : toPs M a = some p) (hb : toPs M b = some p) (he : eqB a b M = some true) (hs : p.showable = true) (hl : p.shown.length ≤ lim) (k : P (.bl true) M) : wE (f__law_same [a, b] M) P X :=
  wE.ofGet (same_of ha hb he hs hl) k
/-- draws in a row -/
theorem c_draws {v q n m : Nat} {lo many : Int} {a : DenL} {ev : Env} {M : Mem} {k : Mem → Prop} (hn : n = M.length) (hp : PoolAt q M) (h1 : 0 < m → 0 < many) (h2 : many < 2 ^ 62) (hm : m ≤ lim)
    (ha : ∀ x M', wE (a (List.map dropE (ev.set v (some (.int x)))) M') (fun ds M2 => ds = [.ref q, .int many] ∧ M2 = M') noX)
    (hk : ∀ M' xs, PoolAt q M' → Keep q M M' → M'.length = M.length + 1 → M'[M.length]? = some (.lst (iL xs)) → xs.length = m → (∀ x ∈ xs, 0 ≤ x ∧ x < many) → k M') :
    wA (compL (gN v) tYesD (dCal f__law_draw a) yes n ev (rangeD lo m) (M ++ [.lst []])) k := by
  subst hn
  have hq := hp.lt
  refine c_inv (fun i acc M1 => ∃ xs : List Int, acc = iL xs ∧ xs.length = i ∧ (∀ x ∈ xs, 0 ≤ x ∧ x < many) ∧ PoolAt q M1 ∧ Keep q M M1 ∧ M1.length = M.length + 1 ∧ M1[M.length]? = some (.lst acc)) (by simpa using hm) ?_ ⟨[], rfl, rfl, by simp, hp.push _, .push, by simp, get_push⟩ ?_ ?_
  · rintro i acc M1 ⟨xs, _, _, _, _, _, _, h⟩; exact ⟨rfl, h⟩
  · rintro i acc M1 h ⟨xs, rfl, e, hb, hp1, hk1, hl1, hg⟩
    rw [rangeD_at]
    simp only [g_n, wA_some, w_yes, if_true, w_cal]
    refine wE.mono (ha _ _) fun ds M2 => ?_
    rintro ⟨rfl, rfl⟩
    refine draw_wp hp1 (h1 (by have : i < m := by simpa using h
                               omega)) h2 fun x M2 x0 x1 hp2 hk2 hl2 => ?_
    have hne : M.length ≠ q := by omega
    have hg2 : M2[M.length]? = some (.lst (iL xs)) := by rw [hk2.at_ _ (by omega) hne]; exact hg
    refine ⟨hg2, xs ++ [x], by rw [← iL_append]; rfl, by simp [e], ?_, hp2.keep (.set (n := M.length)) (Ne.symm hne), ⟨by simp; omega, fun j hj hjq => ?_⟩, by simp; omega, by rw [List.getElem?_set_self (by omega)]⟩
    · intro z hz
      rcases List.mem_append.mp hz with hz | hz
      · exact hb z hz
      · rw [List.mem_singleton.mp hz]; exact ⟨x0, x1⟩
    · rw [List.getElem?_set_ne (by omega), hk2.at_ j (by omega) hjq, hk1.at_ j hj hjq]
  · rintro acc M1 ⟨xs, rfl, e, hb, hp1, hk1, hl1, hg⟩
    exact hk M1 xs hp1 hk1 hl1 hg (by simpa using e) hb
end MI

set_option Elab.async false
set_option linter.all false
set_option maxRecDepth 100000
set_option maxHeartbeats 2000000
/-! things that are shown: what _law_same needs -/
namespace MI
open PySem L2
theorem Ext.of_get {M M' : Mem} (h : ∀ j, j < M.length → M'[j]? = M[j]?) : Ext M M' := by
  refine ⟨M'.drop M.length, ?_⟩
  refine List.ext_getElem? fun j => ?_
  by_cases hj : j < M.length
  · rw [List.getElem?_append_left hj, h j hj]
  · rw [List.getElem?_append_right (by omega), List.getElem?_drop]; congr 1; omega
theorem Ext.keep {q : Nat} {M M' : Mem} (x : Ext M M') : Keep q M M' := by
  obtain ⟨cs, rfl⟩ := x
  exact ⟨by simp, fun j hj _ => List.getElem?_append_left hj⟩
theorem PoolAt.ext {q : Nat} {M M' : Mem} (h : PoolAt q M) (x : Ext M M') : PoolAt q M' := by
  obtain ⟨ps, a, b, c⟩ := h
  exact ⟨ps, a, b, x.get c⟩
theorem atI_mem {xs : List D} {x : Int} (h0 : 0 ≤ x) (h1 : x < xs.length) : ∃ y ∈ xs, atI xs x = some y := by
  obtain ⟨j, rfl⟩ : ∃ j : Nat, x = (j : Int) := ⟨x.toNat, by omega⟩
  have hj : j < xs.length := by omega
  exact ⟨xs[j], List.getElem_mem hj, atI_nat (List.getElem?_eq_getElem hj)⟩
theorem atI_last {xs : List D} (h : xs ≠ []) : ∃ y ∈ xs, atI xs (-1) = some y := by
  have hl : 0 < xs.length := List.length_pos_iff.mpr h
  refine ⟨xs[xs.length - 1], List.getElem_mem (by omega), ?_⟩
  have e : ixN xs.length (-1) = some (xs.length - 1) := by
    unfold ixN
    simp
    omega
  unfold atI
  rw [e]
  simp [List.getElem?_eq_getElem (show xs.length - 1 < xs.length by omega)]
theorem mul1 {x y : Int} (h : x.natAbs < 2 ^ 64) : mulOk x y = true := by
  unfold mulOk; rw [decide_eq_true h]; rfl
/-- d lies in M as the thing p, of depth at most n, shown with at most W signs -/
structure Pd (M : Mem) (n W : Nat) (d : D) (p : PyData) : Prop where
  to : ∀ m, n ≤ m → toP M m d = some p
  can : p.canLay0 = true
  dep : p.depth ≤ n
  sho : p.showable = true
  len : p.shown.length ≤ W
structure PdL (M : Mem) (n W : Nat) (ds : List D) (ps : List PyData) : Prop where
  to : ∀ m, n ≤ m → optMap (toP M m) ds = some ps
  can : PyData.canLayAll0 ps = true
  dep : PyData.depthAll ps ≤ n
  sho : PyData.showableAll ps = true
  len : ((PyData.shownAll ps).map (·.length)).sum ≤ W
  cnt : (PyData.shownAll ps).length = ds.length
section
variable {M : Mem} {n W V : Nat} {d : D} {p : PyData} {ds : List D} {ps : List PyData}
theorem Pd.int {i : Int} (k : Nat) (hk : 0 < k) (h : i.natAbs < 10 ^ k) (h2 : i.natAbs < 2 ^ 1920) : Pd M n (k + 1) (.int i) (.int i) where
  to := fun m _ => by cases m <;> rfl
  can := by simp [PyData.canLay0]
  dep := by simp [PyData.depth]
  sho := by
    have : i.natAbs.log2 < 1920 := by
      by_cases z : i.natAbs = 0
      · rw [z]; decide
      · exact (Nat.log2_lt z).mpr h2
    simp [PyData.showable, this]
  len := by
    have e := int_text_length_le10 (k := k) hk h
    show (Str.ofString (toString i)).length ≤ k + 1
    rw [ofString_length]; exact e
theorem lt20 {x : Nat} (h : x < 10 ^ 20) : x < 2 ^ 1920 := Nat.lt_of_lt_of_le h (by decide +kernel)
theorem Pd.i9 {i : Int} (h : i.natAbs < 10 ^ 9) : Pd M n 10 (.int i) (.int i) := .int 9 (by decide) h (lt20 (Nat.lt_trans h (by decide +kernel)))
theorem Pd.bl {b : Bool} : Pd M n 5 (.bl b) (.bool b) where
  to := fun m _ => by cases m <;> rfl
  can := by simp [PyData.canLay0]
  dep := by simp [PyData.depth]
  sho := by simp [PyData.showable]
  len := by cases b <;> decide
theorem Pd.non : Pd M n 4 .non .none where
  to := fun m _ => by cases m <;> rfl
  can := by simp [PyData.canLay0]
  dep := by simp [PyData.depth]
  sho := by simp [PyData.showable]
  len := by decide
theorem Pd.str {s : Str} (h1 : PyData.strOk s = true) (h : (reprText s).length ≤ W) : Pd M n W (.str s) (.str s) where
  to := fun m _ => by cases m <;> rfl
  can := by simp [PyData.canLay0, h1]
  dep := by simp [PyData.depth]
  sho := by simp [PyData.showable]
  len := by simpa [PyData.shown] using h
theorem PdL.nil : PdL M n 0 [] [] := ⟨fun _ _ => rfl, by simp [PyData.canLayAll0], by simp [PyData.depthAll], by simp [PyData.showableAll], by simp [PyData.shownAll], by simp [PyData.shownAll]⟩
theorem PdL.cons (h : Pd M n W d p) (t : PdL M n V ds ps) : PdL M n (W + V) (d :: ds) (p :: ps) where
  to := fun m hm => by simp only [optMap, h.to m hm, t.to m hm]
  can := by simp [PyData.canLayAll0, h.can, t.can]
  dep := by simp only [PyData.depthAll]; exact Nat.max_le.mpr ⟨h.dep, t.dep⟩
  sho := by simp [PyData.showableAll, h.sho, t.sho]
  len := by simp only [PyData.shownAll, List.map_cons, List.sum_cons]; have := h.len; have := t.len; omega
  cnt := by simp only [PyData.shownAll, List.length_cons, t.cnt]
theorem PdL.mono (t : PdL M n W ds ps) (h : W ≤ V) : PdL M n V ds ps := { t with len := Nat.le_trans t.len h }
theorem Pd.mono (t : Pd M n W d p) (h : W ≤ V) : Pd M n V d p := { t with len := Nat.le_trans t.len h }
theorem Pd.up {m : Nat} (t : Pd M n W d p) (h : n ≤ m) : Pd M m W d p := { t with to := fun k hk => t.to k (Nat.le_trans h hk), dep := Nat.le_trans t.dep h }
theorem PdL.up {m : Nat} (t : PdL M n W ds ps) (h : n ≤ m) : PdL M m W ds ps := { t with to := fun k hk => t.to k (Nat.le_trans h hk), dep := Nat.le_trans t.dep h }
theorem PdL.map {α : Type} {f : α → D} {g : α → PyData} : ∀ {xs : List α}, (∀ x ∈ xs, Pd M n W (f x) (g x)) → PdL M n (W * xs.length) (xs.map f) (xs.map g)
  | [], _ => by simpa using PdL.nil
  | x :: xs, h => by
    have := PdL.cons (h x List.mem_cons_self) (PdL.map fun y hy => h y (List.mem_cons_of_mem _ hy))
    simp only [List.length_cons]
    rw [Nat.mul_succ, Nat.add_comm]
    exact this
theorem PdL.ints {xs : List Int} (h : ∀ x ∈ xs, x.natAbs < 10 ^ 9) : PdL M n (10 * xs.length) (iL xs) (xs.map .int) := .map fun x hx => .i9 (h x hx)
theorem Pd.tup (t : PdL M n W ds ps) : Pd M (n + 1) (W + 2 * ds.length + 3) (.tup ds) (.tuple ps) where
  to := fun m hm => by
    obtain ⟨k, rfl⟩ : ∃ k, m = k + 1 := ⟨m - 1, by omega⟩
    show (optMap (toP M k) ds).map PyData.tuple = _
    rw [t.to k (by omega)]; rfl
  can := by simp [PyData.canLay0, t.can]
  dep := by simp only [PyData.depth]; exact Nat.succ_le_succ t.dep
  sho := by simp [PyData.showable, t.sho]
  len := by
    have h3 := tupleText_len_le (PyData.shownAll ps)
    have := t.len
    have := t.cnt
    simp only [PyData.shown]; omega
theorem Pd.lst {k : Nat} (hk : M[k]? = some (.lst ds)) (t : PdL M n W ds ps) : Pd M (n + 1) (W + 2 * ds.length + 3) (.ref k) (.list ps) where
  to := fun m hm => by
    obtain ⟨j, rfl⟩ : ∃ k, m = k + 1 := ⟨m - 1, by omega⟩
    simp only [toP, hk]
    rw [t.to j (by omega)]; rfl
  can := by simp [PyData.canLay0, t.can]
  dep := by simp only [PyData.depth]; exact Nat.succ_le_succ t.dep
  sho := by simp [PyData.showable, t.sho]
  len := by
    have h3 := listText_len_le (PyData.shownAll ps)
    have := t.len
    have := t.cnt
    simp only [PyData.shown]; omega
theorem Pd.toPs (t : Pd M n W d p) (h : n ≤ 64) : toPs M d = some p := by
  have hs : SeqAt.shaped p = true := by
    unfold SeqAt.shaped
    simp [t.can, Nat.le_trans t.dep h]
  unfold MI.toPs
  rw [t.to 66 (by omega)]
  simp only [hs, if_true]
theorem toPs_i {i : Int} (h : toPs M (.int i) = some p) : p = .int i := by
  unfold toPs at h
  rw [show toP M 66 (.int i) = some (.int i) from rfl] at h
  dsimp only at h
  split at h
  · exact (Option.some.inj h).symm
  · cases h
theorem toPs_s {i : Str} (h : toPs M (.str i) = some p) : p = .str i := by
  unfold toPs at h
  rw [show toP M 66 (.str i) = some (.str i) from rfl] at h
  dsimp only at h
  split at h
  · exact (Option.some.inj h).symm
  · cases h
theorem toPs_b {i : Bool} (h : toPs M (.bl i) = some p) : p = .bool i := by
  unfold toPs at h
  rw [show toP M 66 (.bl i) = some (.bool i) from rfl] at h
  dsimp only at h
  split at h
  · exact (Option.some.inj h).symm
  · cases h
theorem eqB_same {a b : D} (ha : toPs M a = some p) (hb : toPs M b = some p) (he : PyData.eqv p p = true) : eqB a b M = some true := by
  unfold eqB
  split
  · have := toPs_i ha; subst this; have := toPs_i hb; cases this; simp
  · have := toPs_s ha; subst this; have := toPs_s hb; cases this; simp
  · have := toPs_b ha; subst this; have := toPs_b hb; cases this; simp
  · simp only [ha, hb, he]
theorem same_pd {a b : D} {m V : Nat} {P : D → Mem → Prop} {X : XP} (ha : Pd M n W a p) (hb : Pd M m V b p) (h1 : n ≤ 64) (h2 : m ≤ 64) (h3 : W ≤ lim) (k : P (.bl true) M) : wE (f__law_same [a, b] M) P X := by
  have ea := ha.toPs h1
  have eb := hb.toPs h2
  exact same_wp ea eb (eqB_same ea eb (SeqAt.eqv_refl _ ha.can)) ha.sho (Nat.le_trans ha.len h3) k
end
end MI

set_option Elab.async false
set_option linter.all false
set_option maxRecDepth 100000
set_option maxHeartbeats 4000000
namespace K32
open PySem PySem.Spec PyProof.Rows L2 MI
/-! the text -/
def topS (i : Nat) : Stmt := PySem.Challenge.pw_rangeasks_k32_tape_needed.main.body.getD i (.Pass ⟨0, 0, 0, 0⟩)
/-! what the defs compute -/
def k_MOST_LETTERS : D := (.int 200)
def cm_NoCell_AskError (c : Str) : Option Bool := List.lookup c [(Str.ofString "NoCell", true)]
def d_is_whole : DenS := (sRet (dAnd (dIsi (tbOf [.int, .bl]) [(Str.ofString "Tape", false)] (dVar 0)) (dNot (dIsi (tbOf [.bl]) [(Str.ofString "Tape", false)] (dVar 0)))))
def f_is_whole : Fun := runB 1 d_is_whole
def d__is_within : DenS := (sRet (dAnd (dCal f_is_whole (dCons (dVar 0) dNil)) (dChain leB leB (dVar 1) (dVar 0) (dVar 2))))
def f__is_within : Fun := runB 3 d__is_within
def d_check_size : DenS := (sIf (tNotD (dTru (dCal f__is_within (dCons (dVar 0) (dCons (dVar 1) (dCons (dVar 2) dNil)))))) (sRaise (Str.ofString "BadSize") 1 [(Str.ofString "value", 0)] (dCons (dVar 0) dNil)) sSkip)
def f_check_size : Fun := runB 3 d_check_size
def d__is_below : DenS := (sRet (dAnd (dCal f_is_whole (dCons (dVar 0) dNil)) (dChain leB ltB (dC (.int 0)) (dVar 0) (dVar 1))))
def f__is_below : Fun := runB 2 d__is_below
def d_is_change_word : DenS := (sSeq (sIf (tNotD (dTru (dIsi (tbOf [.tup]) [(Str.ofString "Tape", false)] (dVar 0)))) (sRet (dC (.bl false))) sSkip)
    (sRet (dOpN nAll (dCons (dComp (itAny (dVar 0)) (gN 1) tYesD (dAnd (dCal f_is_whole (dCons (dVar 1) dNil)) (dChain leB leB (dC (.int 0)) (dVar 1) (dC (.int 99)))) [1]) dNil))))
def f_is_change_word : Fun := runB 2 d_is_change_word
def d_is_step : DenS := (sSeq (sIf (tOrD (tNotD (dTru (dIsi (tbOf [.tup]) [(Str.ofString "Tape", false)] (dVar 0)))) (dTru (dOp2 (opB eqB) (dOpN nLen (dCons (dVar 0) dNil)) (dC (.int 0))))) (sRet (dC (.bl false))) sSkip)
    (sSeq (sSet 3 (dOp2 opIx (dVar 0) (dC (.int 0))))
    (sSeq (sIf (dTru (dOp2 (opB eqB) (dVar 3) (dC (.str (Str.ofString "one"))))) (sRet (dOp2 (opB eqB) (dOpN nLen (dCons (dVar 0) dNil)) (dC (.int 1)))) sSkip)
    (sSeq (sIf (dTru (dOp2 (opB eqB) (dVar 3) (dC (.str (Str.ofString "place"))))) (sRet (dAnd (dOp2 (opB eqB) (dOpN nLen (dCons (dVar 0) dNil)) (dC (.int 2))) (dCal f__is_below (dCons (dOp2 opIx (dVar 0) (dC (.int 1))) (dCons (dVar 1) dNil))))) sSkip)
    (sSeq (sIf (dTru (dOp2 (opB eqB) (dVar 3) (dC (.str (Str.ofString "join"))))) (sRet (dAnd (dOp2 (opB eqB) (dOpN nLen (dCons (dVar 0) dNil)) (dC (.int 3))) (dAnd (dCal f__is_below (dCons (dOp2 opIx (dVar 0) (dC (.int 1))) (dCons (dVar 2) dNil))) (dCal f__is_below (dCons (dOp2 opIx (dVar 0) (dC (.int 2))) (dCons (dVar 2) dNil)))))) sSkip)
    (sSeq (sIf (dTru (dOp2 (opB eqB) (dVar 3) (dC (.str (Str.ofString "turn"))))) (sRet (dAnd (dOp2 (opB eqB) (dOpN nLen (dCons (dVar 0) dNil)) (dC (.int 2))) (dCal f__is_below (dCons (dOp2 opIx (dVar 0) (dC (.int 1))) (dCons (dVar 2) dNil))))) sSkip)
    (sSeq (sIf (dTru (dOp2 (opB eqB) (dVar 3) (dC (.str (Str.ofString "act"))))) (sRet (dAnd (dOp2 (opB eqB) (dOpN nLen (dCons (dVar 0) dNil)) (dC (.int 3))) (dAnd (dCal f__is_below (dCons (dOp2 opIx (dVar 0) (dC (.int 1))) (dCons (dVar 2) dNil))) (dCal f_is_change_word (dCons (dOp2 opIx (dVar 0) (dC (.int 2))) dNil))))) sSkip)
    (sRet (dC (.bl false))))))))))
def f_is_step : Fun := runB 4 d_is_step
def d_Tape___init__ : DenS := (sSeq (sDrop (dCal f_check_size (dCons (dVar 1) (dCons (dC (.int 1)) (dCons (dC k_MOST_LETTERS) dNil)))))
    (sSeq (sFor (itEnumA (dCons (dVar 2) dNil)) (gT (gCons (gN 3) (gCons (gN 4) gNil))) (sIf (tNotD (dTru (dCal f_is_step (dCons (dVar 4) (dCons (dVar 1) (dCons (dVar 3) dNil)))))) (sRaise (Str.ofString "BadStep") 1 [(Str.ofString "index", 0)] (dCons (dVar 3) dNil)) sSkip))
    (sSeq (sSetF [Str.ofString "Tape"] (Str.ofString "size") (dVar 0) (dVar 1))
    (sSetF [Str.ofString "Tape"] (Str.ofString "_steps") (dVar 0) (dOpN nList (dCons (dVar 2) dNil))))))
def f_Tape___init__ : Fun := runB 5 d_Tape___init__
def d__law_stock : DenS := (sSeq (sSet 1 (dComp (itAny (dSl (dVar 0) oNo (oSome (dC (.int 63))))) (gN 3) tYesD (dOp2 opMod (dOpN nInt (dCons (dVar 3) dNil)) (dOp2 opPow (dOp2 opPow (dC (.int 10)) (dC (.int 60))) (dC (.int 9)))) [3]))
    (sSeq (sSet 2 (dC (.int 0)))
    (sSeq (sFor (itAny (dVar 1)) (gN 3) (sSet 2 (dOp2 opMod (dOpN nInt (dCons (dOp2 opAdd (dOp2 opAdd (dOp2 opMul (dVar 2) (dC (.int 31))) (dVar 3)) (dC (.int 1))) dNil)) (dC (.int 1000003)))))
    (sRet (dOp2 opAdd (dComp (itAny (dVar 1)) (gN 3) (dTru (dOp2 (opB gtB) (dVar 3) (dC (.int 0)))) (dVar 3) [3]) (dLst (dCons (dOp2 opMul (dOp2 opAdd (dVar 2) (dC (.int 1))) (dOp2 opPow (dC (.int 10007)) (dC (.int 61)))) dNil)))))))
def f__law_stock : Fun := runB 4 d__law_stock
def d__law_draw : DenS := (sSeq (sSet 2 (dOpN nInt (dCons (dOp2 opIx (dVar 0) (dC (.int 0))) dNil)))
    (sSeq (sIf (tAndD (dTru (dOp2 (opB ltB) (dVar 2) (dVar 1))) (dTru (dOp2 (opB gtB) (dOpN nLen (dCons (dVar 0) dNil)) (dC (.int 1))))) (sDrop (dMet (mL nPop) (dVar 0) (dCons (dC (.int 0)) dNil))) (sSetIx nSetIx (dVar 0) (dC (.int 0)) (dOp2 opDiv (dVar 2) (dVar 1))))
    (sRet (dOp2 opMod (dOpN nInt (dCons (dVar 2) dNil)) (dVar 1)))))
def f__law_draw : Fun := runB 3 d__law_draw
def d__law_step : DenS := (sSeq (sSet 5 (dCal f__law_draw (dCons (dVar 0) (dCons (dC (.int 8)) dNil))))
    (sSeq (sIf (dTru (dOp2 (opB eqB) (dVar 2) (dC (.int 0)))) (sSet 5 (dOp2 opMod (dOpN nInt (dCons (dVar 5) dNil)) (dC (.int 2)))) sSkip)
    (sSeq (sIf (dTru (dOp2 (opB eqB) (dVar 5) (dC (.int 0)))) (sRet (dTup (dCons (dC (.str (Str.ofString "place"))) (dCons (dCal f__law_draw (dCons (dVar 0) (dCons (dVar 1) dNil))) dNil)))) sSkip)
    (sSeq (sIf (dTru (dOp2 (opB eqB) (dVar 5) (dC (.int 1)))) (sRet (dTup (dCons (dC (.str (Str.ofString "one"))) dNil))) sSkip)
    (sSeq (sIf (dTru (dOp2 (opB eqB) (dVar 5) (dC (.int 2)))) (sRet (dTup (dCons (dC (.str (Str.ofString "turn"))) (dCons (dCal f__law_draw (dCons (dVar 0) (dCons (dVar 2) dNil))) dNil)))) sSkip)
    (sSeq (sIf (dTru (dOp2 (opB gtB) (dVar 5) (dC (.int 4)))) (sRet (dTup (dCons (dC (.str (Str.ofString "join"))) (dCons (dCal f__law_draw (dCons (dVar 0) (dCons (dVar 2) dNil))) (dCons (dCal f__law_draw (dCons (dVar 0) (dCons (dVar 2) dNil))) dNil))))) sSkip)
    (sSeq (sSet 6 (dCal f__law_draw (dCons (dVar 0) (dCons (dVar 2) dNil))))
    (sSeq (sSet 7 (dOp2 opMul (dCal f__law_draw (dCons (dVar 0) (dCons (dVar 4) dNil))) (dOpN nMin (dCons (dC (.int 1)) (dCons (dVar 3) dNil)))))
    (sRet (dTup (dCons (dC (.str (Str.ofString "act"))) (dCons (dVar 6) (dCons (dOpN nTuple (dCons (dComp (itRange (dCons (dVar 7) dNil)) (gN 8) tYesD (dCal f__law_draw (dCons (dVar 0) (dCons (dVar 3) dNil))) [8]) dNil)) dNil)))))))))))))
def f__law_step : Fun := runB 9 d__law_step
def d__law_tape : DenS := (sSeq (sSet 2 (dCal f__law_draw (dCons (dVar 0) (dCons (dC (.int 8)) dNil))))
    (sSeq (sSet 3 (dCal f__law_draw (dCons (dVar 0) (dCons (dC (.int 21)) dNil))))
    (sSeq (sSet 4 (dC (.int 4)))
    (sSeq (sIf (dTru (dOp2 (opB eqB) (dVar 2) (dC (.int 5)))) (sSeq (sSet 3 (dC (.int 150)))
    (sSet 4 (dC (.int 2)))) sSkip)
    (sSeq (sSet 5 (dLst dNil))
    (sSeq (sIf (dTru (dOp2 (opB eqB) (dVar 2) (dC (.int 6)))) (sSeq (sSet 5 (dLst (dCons (dTup (dCons (dC (.str (Str.ofString "place"))) (dCons (dCal f__law_draw (dCons (dVar 0) (dCons (dVar 1) dNil))) dNil))) dNil)))
    (sSet 5 (dOp2 opAdd (dVar 5) (dComp (itRange (dCons (dC (.int 40)) dNil)) (gN 6) tYesD (dTup (dCons (dC (.str (Str.ofString "join"))) (dCons (dVar 6) (dCons (dVar 6) dNil)))) [6])))) sSkip)
    (sSeq (sIf (dTru (dOp2 (opB eqB) (dVar 2) (dC (.int 7)))) (sSet 5 (dComp (itRange (dCons (dC (.int 3)) dNil)) (gN 6) tYesD (dTup (dCons (dC (.str (Str.ofString "place"))) (dCons (dCal f__law_draw (dCons (dVar 0) (dCons (dVar 1) dNil))) dNil))) [6])) sSkip)
    (sSeq (sFor (itRange (dCons (dVar 3) dNil)) (gN 6) (sDrop (dMet (mL nAppend) (dVar 5) (dCons (dCal f__law_step (dCons (dVar 0) (dCons (dVar 1) (dCons (dOpN nLen (dCons (dVar 5) dNil)) (dCons (dC (.int 3)) (dCons (dVar 4) dNil)))))) dNil))))
    (sRet (dVar 5))))))))))
def f__law_tape : Fun := runB 7 d__law_tape
def d__law_named : DenS := (sSeq (sIf (dTru (dOp2 (opB eqB) (dOp2 opIx (dVar 0) (dC (.int 0))) (dC (.str (Str.ofString "join"))))) (sRet (dLst (dCons (dOp2 opIx (dVar 0) (dC (.int 1))) (dCons (dOp2 opIx (dVar 0) (dC (.int 2))) dNil)))) sSkip)
    (sSeq (sIf (tOrD (dTru (dOp2 (opB eqB) (dOp2 opIx (dVar 0) (dC (.int 0))) (dC (.str (Str.ofString "turn"))))) (dTru (dOp2 (opB eqB) (dOp2 opIx (dVar 0) (dC (.int 0))) (dC (.str (Str.ofString "act")))))) (sRet (dLst (dCons (dOp2 opIx (dVar 0) (dC (.int 1))) dNil))) sSkip)
    (sRet (dLst dNil))))
def f__law_named : Fun := runB 1 d__law_named
def d__law_masks : DenS := (sSeq (sSet 1 (dLst dNil))
    (sSeq (sFor (itRange (dCons (dOpN nLen (dCons (dVar 0) dNil)) dNil)) (gN 2) (sSeq (sSet 3 (dOp2 opShl (dC (.int 1)) (dVar 2)))
    (sSeq (sFor (itAny (dCal f__law_named (dCons (dOp2 opIx (dVar 0) (dVar 2)) dNil))) (gN 4) (sSet 3 (dOp2 opOr (dVar 3) (dOp2 opIx (dVar 1) (dVar 4)))))
    (sDrop (dMet (mL nAppend) (dVar 1) (dCons (dVar 3) dNil))))))
    (sRet (dVar 1))))
def f__law_masks : Fun := runB 5 d__law_masks
def d_Tape__check_cell : DenS := (sIf (tNotD (dTru (dCal f__is_below (dCons (dVar 1) (dCons (dOpN nLen (dCons (dOp1 (opFld [Str.ofString "Tape"] (Str.ofString "_steps")) (dVar 0)) dNil)) dNil))))) (sRaise (Str.ofString "NoCell") 1 [(Str.ofString "cell", 0)] (dCons (dVar 1) dNil)) sSkip)
def f_Tape__check_cell : Fun := runB 2 d_Tape__check_cell
def d_step_cells : DenS := (sSeq (sIf (dTru (dOp2 (opB eqB) (dOp2 opIx (dVar 0) (dC (.int 0))) (dC (.str (Str.ofString "join"))))) (sRet (dTup (dCons (dOp2 opIx (dVar 0) (dC (.int 1))) (dCons (dOp2 opIx (dVar 0) (dC (.int 2))) dNil)))) sSkip)
    (sSeq (sIf (tOrD (dTru (dOp2 (opB eqB) (dOp2 opIx (dVar 0) (dC (.int 0))) (dC (.str (Str.ofString "turn"))))) (dTru (dOp2 (opB eqB) (dOp2 opIx (dVar 0) (dC (.int 0))) (dC (.str (Str.ofString "act")))))) (sRet (dTup (dCons (dOp2 opIx (dVar 0) (dC (.int 1))) dNil))) sSkip)
    (sRet (dTup dNil))))
def f_step_cells : Fun := runB 1 d_step_cells
def d_Tape_needed : DenS := (sSeq (sFor (itAny (dVar 1)) (gN 2) (sDrop (dMet (mO (Str.ofString "_check_cell") [⟨Str.ofString "Tape", 1, f_Tape__check_cell⟩]) (dVar 0) (dCons (dVar 2) dNil))))
    (sSeq (sSet 3 (dOp2 opMul (dLst (dCons (dC (.bl false)) dNil)) (dOpN nLen (dCons (dOp1 (opFld [Str.ofString "Tape"] (Str.ofString "_steps")) (dVar 0)) dNil))))
    (sSeq (sFor (itAny (dVar 1)) (gN 2) (sSetIx nSetIx (dVar 3) (dVar 2) (dC (.bl true))))
    (sSeq (sFor (itRevRg (dCons (dOpN nLen (dCons (dVar 3) dNil)) dNil)) (gN 4) (sIf (dTru (dOp2 opIx (dVar 3) (dVar 4))) (sFor (itAny (dCal f_step_cells (dCons (dOp2 opIx (dOp1 (opFld [Str.ofString "Tape"] (Str.ofString "_steps")) (dVar 0)) (dVar 4)) dNil))) (gN 2) (sSetIx nSetIx (dVar 3) (dVar 2) (dC (.bl true)))) sSkip))
    (sRet (dComp (itRange (dCons (dOpN nLen (dCons (dVar 3) dNil)) dNil)) (gN 4) (dTru (dOp2 opIx (dVar 3) (dVar 4))) (dVar 4) [4]))))))
def f_Tape_needed : Fun := runB 5 d_Tape_needed
def d_Tape_joins : DenS := (sRet (dOpN nLen (dCons (dComp (itAny (dMet (mO (Str.ofString "needed") [⟨Str.ofString "Tape", 1, f_Tape_needed⟩]) (dVar 0) (dCons (dVar 1) dNil))) (gN 2) (dTru (dOp2 (opB eqB) (dOp2 opIx (dOp2 opIx (dOp1 (opFld [Str.ofString "Tape"] (Str.ofString "_steps")) (dVar 0)) (dVar 2)) (dC (.int 0))) (dC (.str (Str.ofString "join"))))) (dVar 2) [2]) dNil)))
def f_Tape_joins : Fun := runB 3 d_Tape_joins
def d__law_same : DenS := (sRet (dAnd (dOp2 (opB eqB) (dVar 0) (dVar 1)) (dOp2 (opB eqB) (dOpN nRepr (dCons (dVar 0) dNil)) (dOpN nRepr (dCons (dVar 1) dNil)))))
def f__law_same : Fun := runB 2 d__law_same
def d__law_refused : DenS := (sSeq (sTryAs 3 cm_NoCell_AskError (sIf (dTru (dVar 2)) (sDrop (dMet (mO (Str.ofString "joins") [⟨Str.ofString "Tape", 1, f_Tape_joins⟩]) (dVar 0) (dCons (dVar 1) dNil))) (sDrop (dMet (mO (Str.ofString "needed") [⟨Str.ofString "Tape", 1, f_Tape_needed⟩]) (dVar 0) (dCons (dVar 1) dNil)))) (sIf (tAndD (dTru (dIsE 3 [(Str.ofString "NoCell", true)])) (tAndD (dTru (dIsE 3 [(Str.ofString "NoCell", true)])) (tNotD (dTru (dIsE 3 [(Str.ofString "NoCell", false)]))))) (sRet (dTup (dCons (dC (.str (Str.ofString "cell"))) (dCons (dXf 3 [Str.ofString "NoCell"] (Str.ofString "cell")) dNil)))) sSkip))
    (sRet (dC .non)))
def f__law_refused : Fun := runB 4 d__law_refused
def d__law_refuses : DenS := (sSeq (sSet 3 (dOp2 opMul (dCal f__law_draw (dCons (dVar 0) (dCons (dC (.int 3)) dNil))) (dOpN nMin (dCons (dC (.int 1)) (dCons (dVar 2) dNil)))))
    (sSeq (sSet 4 (dComp (itRange (dCons (dVar 3) dNil)) (gN 10) tYesD (dCal f__law_draw (dCons (dVar 0) (dCons (dVar 2) dNil))) [10]))
    (sSeq (sSet 5 (dOp2 opIx (dLst (dCons (dVar 2) (dCons (dOp1 opNeg (dC (.int 1))) (dCons (dOp2 opPow (dC (.int 10)) (dC (.int 30))) (dCons (dOp2 opAdd (dVar 2) (dC (.int 1))) dNil))))) (dCal f__law_draw (dCons (dVar 0) (dCons (dC (.int 4)) dNil)))))
    (sSeq (sSet 6 (dOp2 opIx (dLst (dCons (dVar 2) (dCons (dOp1 opNeg (dC (.int 1))) (dCons (dOp2 opPow (dC (.int 10)) (dC (.int 30))) dNil)))) (dCal f__law_draw (dCons (dVar 0) (dCons (dC (.int 3)) dNil)))))
    (sSeq (sFor (itAny (dLst (dCons (dLst (dCons (dVar 5) dNil)) (dCons (dOp2 opAdd (dLst (dCons (dVar 5) dNil)) (dVar 4)) (dCons (dLst (dCons (dVar 5) (dCons (dVar 6) dNil))) dNil))))) (gN 7) (sSeq (sSet 8 (dOp2 opAdd (dVar 4) (dVar 7)))
    (sFor (itAny (dLst (dCons (dC (.bl false)) (dCons (dC (.bl true)) dNil)))) (gN 9) (sIf (tNotD (dTru (dCal f__law_same (dCons (dCal f__law_refused (dCons (dVar 1) (dCons (dOpN nList (dCons (dVar 8) dNil)) (dCons (dVar 9) dNil)))) (dCons (dTup (dCons (dC (.str (Str.ofString "cell"))) (dCons (dVar 5) dNil))) dNil))))) (sRet (dC (.bl false))) sSkip))))
    (sRet (dC (.bl true))))))))
def f__law_refuses : Fun := runB 11 d__law_refuses
def d_Tape_steps : DenS := (sRet (dOpN nList (dCons (dOp1 (opFld [Str.ofString "Tape"] (Str.ofString "_steps")) (dVar 0)) dNil)))
def f_Tape_steps : Fun := runB 1 d_Tape_steps
def d__law_due : DenS := (sSeq (sSet 3 (dC (.int 0)))
    (sSeq (sFor (itAny (dVar 2)) (gN 4) (sSet 3 (dOp2 opOr (dVar 3) (dOp2 opIx (dVar 1) (dVar 4)))))
    (sSeq (sSet 5 (dComp (itRange (dCons (dOpN nLen (dCons (dVar 0) dNil)) dNil)) (gN 6) (dTru (dOp2 (opB eqB) (dOp2 opAnd (dOp2 opShr (dVar 3) (dVar 6)) (dC (.int 1))) (dC (.int 1)))) (dVar 6) [6]))
    (sRet (dLst (dCons (dVar 5) (dCons (dOpN nLen (dCons (dComp (itAny (dVar 5)) (gN 6) (dTru (dOp2 (opB eqB) (dOp2 opIx (dOp2 opIx (dVar 0) (dVar 6)) (dC (.int 0))) (dC (.str (Str.ofString "join"))))) (dVar 6) [6]) dNil)) dNil)))))))
def f__law_due : Fun := runB 7 d__law_due
def d__law_told : DenS := (sSeq (sSet 2 (dOpN nList (dCons (dVar 1) dNil)))
    (sSeq (sSet 3 (dMet (mO (Str.ofString "needed") [⟨Str.ofString "Tape", 1, f_Tape_needed⟩]) (dVar 0) (dCons (dVar 2) dNil)))
    (sSeq (sSet 4 (dLst (dCons (dOpN nList (dCons (dVar 3) dNil)) (dCons (dMet (mO (Str.ofString "joins") [⟨Str.ofString "Tape", 1, f_Tape_joins⟩]) (dVar 0) (dCons (dVar 2) dNil)) dNil))))
    (sSeq (sIf (tOrD (tNotD (dTru (dIsi (tbOf [.lst]) [(Str.ofString "Tape", false)] (dVar 3)))) (tNotD (dTru (dCal f__law_same (dCons (dVar 2) (dCons (dVar 1) dNil)))))) (sRet (dC .non)) sSkip)
    (sSeq (sDrop (dMet (mL nAppend) (dVar 3) (dCons (dC (.int 0)) dNil)))
    (sSeq (sDrop (dMet (mL nAppend) (dVar 2) (dCons (dC (.int 0)) dNil)))
    (sSeq (sIf (tNotD (dTru (dCal f__law_same (dCons (dMet (mO (Str.ofString "needed") [⟨Str.ofString "Tape", 1, f_Tape_needed⟩]) (dVar 0) (dCons (dOpN nList (dCons (dVar 1) dNil)) dNil)) (dCons (dOp2 opIx (dVar 4) (dC (.int 0))) dNil))))) (sRet (dC .non)) sSkip)
    (sRet (dVar 4)))))))))
def f__law_told : Fun := runB 5 d__law_told
def d_law : DenS := (sSeq (sSet 1 (dCal f__law_stock (dCons (dVar 0) dNil)))
    (sSeq (sSet 2 (dOp2 opAdd (dC (.int 1)) (dCal f__law_draw (dCons (dVar 1) (dCons (dC (.int 6)) dNil)))))
    (sSeq (sSet 3 (dCal f__law_tape (dCons (dVar 1) (dCons (dVar 2) dNil))))
    (sSeq (sSet 4 (dOpN nLen (dCons (dVar 3) dNil)))
    (sSeq (sSet 5 (dMake (Str.ofString "Tape") f_Tape___init__ (dCons (dVar 2) (dCons (dOpN nList (dCons (dVar 3) dNil)) dNil))))
    (sSeq (sSet 6 (dCal f__law_masks (dCons (dVar 3) dNil)))
    (sSeq (sSet 7 (dLst (dCons (dLst dNil) (dCons (dLstRg (dCons (dVar 4) dNil)) (dCons (dOp1 opRev (dLstRg (dCons (dVar 4) dNil))) dNil)))))
    (sSeq (sIf (dTru (dOp2 (opB ltB) (dVar 4) (dC (.int 45)))) (sSet 7 (dOp2 opAdd (dVar 7) (dComp (itRange (dCons (dVar 4) dNil)) (gN 8) tYesD (dLst (dCons (dVar 8) dNil)) [8]))) sSkip)
    (sSeq (sFor (itRange (dCons (dOp2 opMul (dC (.int 6)) (dOpN nMin (dCons (dC (.int 1)) (dCons (dVar 4) dNil)))) dNil)) (gN 8) (sSeq (sSet 9 (dOp2 opAdd (dC (.int 1)) (dCal f__law_draw (dCons (dVar 1) (dCons (dC (.int 4)) dNil)))))
    (sDrop (dMet (mL nAppend) (dVar 7) (dCons (dComp (itRange (dCons (dVar 9) dNil)) (gN 13) tYesD (dCal f__law_draw (dCons (dVar 1) (dCons (dVar 4) dNil))) [13]) dNil)))))
    (sSeq (sFor (itAny (dVar 7)) (gN 10) (sIf (tNotD (dTru (dCal f__law_same (dCons (dCal f__law_told (dCons (dVar 5) (dCons (dVar 10) dNil))) (dCons (dCal f__law_due (dCons (dVar 3) (dCons (dVar 6) (dCons (dVar 10) dNil)))) dNil))))) (sRet (dC (.bl false))) sSkip))
    (sSeq (sSet 11 (dOp2 opIx (dVar 7) (dOp1 opNeg (dC (.int 1)))))
    (sSeq (sSet 12 (dLst (dCons (dMetK (Str.ofString "needed") [⟨Str.ofString "Tape", 0, [.inl 0], f_Tape_needed⟩] 1 (dVar 5) dNil (dCons (dOpN nList (dCons (dVar 11) dNil)) dNil)) (dCons (dMetK (Str.ofString "joins") [⟨Str.ofString "Tape", 0, [.inl 0], f_Tape_joins⟩] 1 (dVar 5) dNil (dCons (dOpN nList (dCons (dVar 11) dNil)) dNil)) dNil))))
    (sSeq (sIf (tNotD (dTru (dCal f__law_same (dCons (dVar 12) (dCons (dCal f__law_due (dCons (dVar 3) (dCons (dVar 6) (dCons (dVar 11) dNil)))) dNil))))) (sRet (dC (.bl false))) sSkip)
    (sRet (dAnd (dCal f__law_refuses (dCons (dVar 1) (dCons (dVar 5) (dCons (dVar 4) dNil)))) (dCal f__law_same (dCons (dMet (mO (Str.ofString "steps") [⟨Str.ofString "Tape", 0, f_Tape_steps⟩]) (dVar 5) dNil) (dCons (dVar 3) dNil))))))))))))))))))
def f_law : Fun := runB 14 d_law
/-! what the module holds -/
structure Tx (P : Program) (w : World) (K : PySem.W.Frag) (mg : Str → Option Value) where
  a_is_whole : Addr
  fd_is_whole : FuncData
  e_is_whole : FnE K mg "is_whole" "is_whole" (topS 9) a_is_whole fd_is_whole
  a__is_within : Addr
  fd__is_within : FuncData
  e__is_within : FnE K mg "_is_within" "_is_within" (topS 10) a__is_within fd__is_within
  a_check_size : Addr
  fd_check_size : FuncData
  e_check_size : FnE K mg "check_size" "check_size" (topS 11) a_check_size fd_check_size
  a__is_below : Addr
  fd__is_below : FuncData
  e__is_below : FnE K mg "_is_below" "_is_below" (topS 19) a__is_below fd__is_below
  a_is_change_word : Addr
  fd_is_change_word : FuncData
  e_is_change_word : FnE K mg "is_change_word" "is_change_word" (topS 13) a_is_change_word fd_is_change_word
  a_is_step : Addr
  fd_is_step : FuncData
  e_is_step : FnE K mg "is_step" "is_step" (topS 20) a_is_step fd_is_step
  a_Tape___init__ : Addr
  fd_Tape___init__ : FuncData
  e_Tape___init__ : L2.Fun K "__init__" "Tape.__init__" (mthS (topS 24) 0) a_Tape___init__ fd_Tape___init__
  a__law_stock : Addr
  fd__law_stock : FuncData
  e__law_stock : FnE K mg "_law_stock" "_law_stock" (topS 26) a__law_stock fd__law_stock
  a__law_draw : Addr
  fd__law_draw : FuncData
  e__law_draw : FnE K mg "_law_draw" "_law_draw" (topS 27) a__law_draw fd__law_draw
  a__law_step : Addr
  fd__law_step : FuncData
  e__law_step : FnE K mg "_law_step" "_law_step" (topS 29) a__law_step fd__law_step
  a__law_tape : Addr
  fd__law_tape : FuncData
  e__law_tape : FnE K mg "_law_tape" "_law_tape" (topS 36) a__law_tape fd__law_tape
  a__law_named : Addr
  fd__law_named : FuncData
  e__law_named : FnE K mg "_law_named" "_law_named" (topS 30) a__law_named fd__law_named
  a__law_masks : Addr
  fd__law_masks : FuncData
  e__law_masks : FnE K mg "_law_masks" "_law_masks" (topS 31) a__law_masks fd__law_masks
  a_Tape__check_cell : Addr
  fd_Tape__check_cell : FuncData
  e_Tape__check_cell : L2.Fun K "_check_cell" "Tape._check_cell" (mthS (topS 24) 4) a_Tape__check_cell fd_Tape__check_cell
  a_step_cells : Addr
  fd_step_cells : FuncData
  e_step_cells : FnE K mg "step_cells" "step_cells" (topS 21) a_step_cells fd_step_cells
  a_Tape_needed : Addr
  fd_Tape_needed : FuncData
  e_Tape_needed : L2.Fun K "needed" "Tape.needed" (mthS (topS 24) 6) a_Tape_needed fd_Tape_needed
  a_Tape_joins : Addr
  fd_Tape_joins : FuncData
  e_Tape_joins : L2.Fun K "joins" "Tape.joins" (mthS (topS 24) 7) a_Tape_joins fd_Tape_joins
  a__law_same : Addr
  fd__law_same : FuncData
  e__law_same : FnE K mg "_law_same" "_law_same" (topS 28) a__law_same fd__law_same
  a__law_refused : Addr
  fd__law_refused : FuncData
  e__law_refused : FnE K mg "_law_refused" "_law_refused" (topS 34) a__law_refused fd__law_refused
  a__law_refuses : Addr
  fd__law_refuses : FuncData
  e__law_refuses : FnE K mg "_law_refuses" "_law_refuses" (topS 35) a__law_refuses fd__law_refuses
  a_Tape_steps : Addr
  fd_Tape_steps : FuncData
  e_Tape_steps : L2.Fun K "steps" "Tape.steps" (mthS (topS 24) 3) a_Tape_steps fd_Tape_steps
  a__law_due : Addr
  fd__law_due : FuncData
  e__law_due : FnE K mg "_law_due" "_law_due" (topS 32) a__law_due fd__law_due
  a__law_told : Addr
  fd__law_told : FuncData
  e__law_told : FnE K mg "_law_told" "_law_told" (topS 33) a__law_told fd__law_told
  a_law : Addr
  fd_law : FuncData
  e_law : FnE K mg "law" "law" (topS 37) a_law fd_law
  C_AskError : Addr
  g_AskError : mg "AskError" = some (.ref C_AskError)
  C_BadSize : Addr
  g_BadSize : mg "BadSize" = some (.ref C_BadSize)
  C_BadStep : Addr
  g_BadStep : mg "BadStep" = some (.ref C_BadStep)
  C_NoCell : Addr
  g_NoCell : mg "NoCell" = some (.ref C_NoCell)
  C_NoPlace : Addr
  g_NoPlace : mg "NoPlace" = some (.ref C_NoPlace)
  C_Tape : Addr
  g_Tape : mg "Tape" = some (.ref C_Tape)
  x_BadSize : ExE P w K mg "BadSize" C_BadSize ["self", "value"] [(Str.ofString "value", 0)]
  x_BadStep : ExE P w K mg "BadStep" C_BadStep ["self", "index"] [(Str.ofString "index", 0)]
  x_NoCell : ExE P w K mg "NoCell" C_NoCell ["self", "cell"] [(Str.ofString "cell", 0)]
  m_NoCell_AskError : PySem.W.exmOne K (.ref C_NoCell) (.ref C_AskError) = some true
  i_NoCell_NoCell : PySem.W.kitOne K (.ref C_NoCell) (.ref C_NoCell) = some true
  i_NoCell_NoPlace : PySem.W.kitOne K (.ref C_NoCell) (.ref C_NoPlace) = some false
  i_NoCell_ValueError : PySem.W.kitOne K (.ref C_NoCell) (.type "ValueError") = some true
  i_Tape_bool : PySem.W.kitOne K (.ref C_Tape) (.type "bool") = some false
  i_Tape_int : PySem.W.kitOne K (.ref C_Tape) (.type "int") = some false
  i_Tape_list : PySem.W.kitOne K (.ref C_Tape) (.type "list") = some false
  i_Tape_tuple : PySem.W.kitOne K (.ref C_Tape) (.type "tuple") = some false
  n_NoCell_cell : PySem.W.findIn K (.ref C_NoCell) "cell" = some none
  cl_Tape : Cls K C_Tape
  in_Tape : InsIs K C_Tape
  mk_Tape : MkE K mg "Tape" C_Tape a_Tape___init__
  mt_Tape__check_cell : Meth K C_Tape "_check_cell" a_Tape__check_cell
  mt_Tape_joins : Meth K C_Tape "joins" a_Tape_joins
  mt_Tape_needed : Meth K C_Tape "needed" a_Tape_needed
  mt_Tape_steps : Meth K C_Tape "steps" a_Tape_steps
  na_Tape__steps : NoAttr K C_Tape "_steps"
  na_Tape_size : NoAttr K C_Tape "size"
  u_MOST_LETTERS : Value
  mu_MOST_LETTERS : mg "MOST_LETTERS" = some u_MOST_LETTERS
  ku_MOST_LETTERS : kD K 3 u_MOST_LETTERS = some k_MOST_LETTERS
  z_ValueError : mg "ValueError" = none
  z_all : mg "all" = none
  z_bool : mg "bool" = none
  z_enumerate : mg "enumerate" = none
  z_int : mg "int" = none
  z_isinstance : mg "isinstance" = none
  z_len : mg "len" = none
  z_list : mg "list" = none
  z_min : mg "min" = none
  z_range : mg "range" = none
  z_repr : mg "repr" = none
  z_reversed : mg "reversed" = none
  z_tuple : mg "tuple" = none
section
variable {P : Program} {w : World} {K : PySem.W.Frag} {mg : Str → Option Value}
def Tx.G (t : Tx P w K mg) : GC := ⟨K, fun c => (if c = Str.ofString "AskError" then t.C_AskError else (if c = Str.ofString "BadSize" then t.C_BadSize else (if c = Str.ofString "BadStep" then t.C_BadStep else (if c = Str.ofString "NoCell" then t.C_NoCell else (if c = Str.ofString "NoPlace" then t.C_NoPlace else (if c = Str.ofString "Tape" then t.C_Tape else 0))))))⟩
theorem ca_AskError (t : Tx P w K mg) : t.G.ca (Str.ofString "AskError") = t.C_AskError := by
  show (if Str.ofString "AskError" = Str.ofString "AskError" then t.C_AskError else (if Str.ofString "AskError" = Str.ofString "BadSize" then t.C_BadSize else (if Str.ofString "AskError" = Str.ofString "BadStep" then t.C_BadStep else (if Str.ofString "AskError" = Str.ofString "NoCell" then t.C_NoCell else (if Str.ofString "AskError" = Str.ofString "NoPlace" then t.C_NoPlace else (if Str.ofString "AskError" = Str.ofString "Tape" then t.C_Tape else 0)))))) = _
  rw [if_pos rfl]
theorem ca_BadSize (t : Tx P w K mg) : t.G.ca (Str.ofString "BadSize") = t.C_BadSize := by
  show (if Str.ofString "BadSize" = Str.ofString "AskError" then t.C_AskError else (if Str.ofString "BadSize" = Str.ofString "BadSize" then t.C_BadSize else (if Str.ofString "BadSize" = Str.ofString "BadStep" then t.C_BadStep else (if Str.ofString "BadSize" = Str.ofString "NoCell" then t.C_NoCell else (if Str.ofString "BadSize" = Str.ofString "NoPlace" then t.C_NoPlace else (if Str.ofString "BadSize" = Str.ofString "Tape" then t.C_Tape else 0)))))) = _
  rw [if_neg (by decide +kernel), if_pos rfl]
theorem ca_BadStep (t : Tx P w K mg) : t.G.ca (Str.ofString "BadStep") = t.C_BadStep := by
  show (if Str.ofString "BadStep" = Str.ofString "AskError" then t.C_AskError else (if Str.ofString "BadStep" = Str.ofString "BadSize" then t.C_BadSize else (if Str.ofString "BadStep" = Str.ofString "BadStep" then t.C_BadStep else (if Str.ofString "BadStep" = Str.ofString "NoCell" then t.C_NoCell else (if Str.ofString "BadStep" = Str.ofString "NoPlace" then t.C_NoPlace else (if Str.ofString "BadStep" = Str.ofString "Tape" then t.C_Tape else 0)))))) = _
  rw [if_neg (by decide +kernel), if_neg (by decide +kernel), if_pos rfl]
theorem ca_NoCell (t : Tx P w K mg) : t.G.ca (Str.ofString "NoCell") = t.C_NoCell := by
  show (if Str.ofString "NoCell" = Str.ofString "AskError" then t.C_AskError else (if Str.ofString "NoCell" = Str.ofString "BadSize" then t.C_BadSize else (if Str.ofString "NoCell" = Str.ofString "BadStep" then t.C_BadStep else (if Str.ofString "NoCell" = Str.ofString "NoCell" then t.C_NoCell else (if Str.ofString "NoCell" = Str.ofString "NoPlace" then t.C_NoPlace else (if Str.ofString "NoCell" = Str.ofString "Tape" then t.C_Tape else 0)))))) = _
  rw [if_neg (by decide +kernel), if_neg (by decide +kernel), if_neg (by decide +kernel), if_pos rfl]
theorem ca_NoPlace (t : Tx P w K mg) : t.G.ca (Str.ofString "NoPlace") = t.C_NoPlace := by
  show (if Str.ofString "NoPlace" = Str.ofString "AskError" then t.C_AskError else (if Str.ofString "NoPlace" = Str.ofString "BadSize" then t.C_BadSize else (if Str.ofString "NoPlace" = Str.ofString "BadStep" then t.C_BadStep else (if Str.ofString "NoPlace" = Str.ofString "NoCell" then t.C_NoCell else (if Str.ofString "NoPlace" = Str.ofString "NoPlace" then t.C_NoPlace else (if Str.ofString "NoPlace" = Str.ofString "Tape" then t.C_Tape else 0)))))) = _
  rw [if_neg (by decide +kernel), if_neg (by decide +kernel), if_neg (by decide +kernel), if_neg (by decide +kernel), if_pos rfl]
theorem ca_Tape (t : Tx P w K mg) : t.G.ca (Str.ofString "Tape") = t.C_Tape := by
  show (if Str.ofString "Tape" = Str.ofString "AskError" then t.C_AskError else (if Str.ofString "Tape" = Str.ofString "BadSize" then t.C_BadSize else (if Str.ofString "Tape" = Str.ofString "BadStep" then t.C_BadStep else (if Str.ofString "Tape" = Str.ofString "NoCell" then t.C_NoCell else (if Str.ofString "Tape" = Str.ofString "NoPlace" then t.C_NoPlace else (if Str.ofString "Tape" = Str.ofString "Tape" then t.C_Tape else 0)))))) = _
  rw [if_neg (by decide +kernel), if_neg (by decide +kernel), if_neg (by decide +kernel), if_neg (by decide +kernel), if_neg (by decide +kernel), if_pos rfl]
theorem cm_NoCell_AskError_ok (t : Tx P w K mg) : ∀ c b, cm_NoCell_AskError c = some b → PySem.W.exmOne K (.ref (t.G.ca c)) (.ref t.C_AskError) = some b := fun c b h => by
  unfold cm_NoCell_AskError at h
  rcases look_cons h with ⟨rfl, rfl⟩ | h
  · rw [ca_NoCell t]; exact t.m_NoCell_AskError
  cases h
theorem is_NoCell_NoPlace (t : Tx P w K mg) : ∀ c b, List.lookup c [(Str.ofString "NoCell", false)] = some b → ExcIs' K (t.G.ca c) ∧ PySem.W.kitOne K (.ref (t.G.ca c)) (.ref t.C_NoPlace) = some b := fun c b h => by
  rcases look_cons h with ⟨rfl, rfl⟩ | h
  · rw [ca_NoCell t]; exact ⟨t.x_NoCell.is_, t.i_NoCell_NoPlace⟩
  cases h
theorem is_NoCell_NoCell (t : Tx P w K mg) : ∀ c b, List.lookup c [(Str.ofString "NoCell", true)] = some b → ExcIs' K (t.G.ca c) ∧ PySem.W.kitOne K (.ref (t.G.ca c)) (.ref t.C_NoCell) = some b := fun c b h => by
  rcases look_cons h with ⟨rfl, rfl⟩ | h
  · rw [ca_NoCell t]; exact ⟨t.x_NoCell.is_, t.i_NoCell_NoCell⟩
  cases h
theorem is_NoCell_ValueError (t : Tx P w K mg) : ∀ c b, List.lookup c [(Str.ofString "NoCell", true)] = some b → ExcIs' K (t.G.ca c) ∧ PySem.W.kitOne K (.ref (t.G.ca c)) (.type "ValueError") = some b := fun c b h => by
  rcases look_cons h with ⟨rfl, rfl⟩ | h
  · rw [ca_NoCell t]; exact ⟨t.x_NoCell.is_, t.i_NoCell_ValueError⟩
  cases h
theorem b_is_whole (t : Tx P w K mg) : ∀ us : List Value, us.length = (["thing"] : List Str).length → bindArgs t.fd_is_whole ⟨us, []⟩ = pure ((["thing"] : List Str).zip us) := by
  obtain ⟨oc, od, kV, doc, pm, an, cdv, ct, osl, h, _⟩ := t.e_is_whole.fn.ex
  rw [h]
  exact fun us hl => match us, hl with | [_], _ => rfl
theorem b__is_within (t : Tx P w K mg) : ∀ us : List Value, us.length = (["thing", "low", "high"] : List Str).length → bindArgs t.fd__is_within ⟨us, []⟩ = pure ((["thing", "low", "high"] : List Str).zip us) := by
  obtain ⟨oc, od, kV, doc, pm, an, cdv, ct, osl, h, _⟩ := t.e__is_within.fn.ex
  rw [h]
  exact fun us hl => match us, hl with | [_, _, _], _ => rfl
theorem b_check_size (t : Tx P w K mg) : ∀ us : List Value, us.length = (["value", "low", "high"] : List Str).length → bindArgs t.fd_check_size ⟨us, []⟩ = pure ((["value", "low", "high"] : List Str).zip us) := by
  obtain ⟨oc, od, kV, doc, pm, an, cdv, ct, osl, h, _⟩ := t.e_check_size.fn.ex
  rw [h]
  exact fun us hl => match us, hl with | [_, _, _], _ => rfl
theorem b__is_below (t : Tx P w K mg) : ∀ us : List Value, us.length = (["thing", "bound"] : List Str).length → bindArgs t.fd__is_below ⟨us, []⟩ = pure ((["thing", "bound"] : List Str).zip us) := by
  obtain ⟨oc, od, kV, doc, pm, an, cdv, ct, osl, h, _⟩ := t.e__is_below.fn.ex
  rw [h]
  exact fun us hl => match us, hl with | [_, _], _ => rfl
theorem b_is_change_word (t : Tx P w K mg) : ∀ us : List Value, us.length = (["thing"] : List Str).length → bindArgs t.fd_is_change_word ⟨us, []⟩ = pure ((["thing"] : List Str).zip us) := by
  obtain ⟨oc, od, kV, doc, pm, an, cdv, ct, osl, h, _⟩ := t.e_is_change_word.fn.ex
  rw [h]
  exact fun us hl => match us, hl with | [_], _ => rfl
theorem b_is_step (t : Tx P w K mg) : ∀ us : List Value, us.length = (["step", "size", "index"] : List Str).length → bindArgs t.fd_is_step ⟨us, []⟩ = pure ((["step", "size", "index"] : List Str).zip us) := by
  obtain ⟨oc, od, kV, doc, pm, an, cdv, ct, osl, h, _⟩ := t.e_is_step.fn.ex
  rw [h]
  exact fun us hl => match us, hl with | [_, _, _], _ => rfl
theorem b_Tape___init__ (t : Tx P w K mg) : ∀ us : List Value, us.length = (["self", "size", "steps"] : List Str).length → bindArgs t.fd_Tape___init__ ⟨us, []⟩ = pure ((["self", "size", "steps"] : List Str).zip us) := by
  obtain ⟨oc, od, kV, doc, pm, an, cdv, ct, osl, h, _⟩ := t.e_Tape___init__.ex
  rw [h]
  exact fun us hl => match us, hl with | [_, _, _], _ => rfl
theorem b__law_stock (t : Tx P w K mg) : ∀ us : List Value, us.length = (["script"] : List Str).length → bindArgs t.fd__law_stock ⟨us, []⟩ = pure ((["script"] : List Str).zip us) := by
  obtain ⟨oc, od, kV, doc, pm, an, cdv, ct, osl, h, _⟩ := t.e__law_stock.fn.ex
  rw [h]
  exact fun us hl => match us, hl with | [_], _ => rfl
theorem b__law_draw (t : Tx P w K mg) : ∀ us : List Value, us.length = (["pool", "many"] : List Str).length → bindArgs t.fd__law_draw ⟨us, []⟩ = pure ((["pool", "many"] : List Str).zip us) := by
  obtain ⟨oc, od, kV, doc, pm, an, cdv, ct, osl, h, _⟩ := t.e__law_draw.fn.ex
  rw [h]
  exact fun us hl => match us, hl with | [_, _], _ => rfl
theorem b__law_step (t : Tx P w K mg) : ∀ us : List Value, us.length = (["pool", "size", "index", "top", "most"] : List Str).length → bindArgs t.fd__law_step ⟨us, []⟩ = pure ((["pool", "size", "index", "top", "most"] : List Str).zip us) := by
  obtain ⟨oc, od, kV, doc, pm, an, cdv, ct, osl, h, _⟩ := t.e__law_step.fn.ex
  rw [h]
  exact fun us hl => match us, hl with | [_, _, _, _, _], _ => rfl
theorem b__law_tape (t : Tx P w K mg) : ∀ us : List Value, us.length = (["pool", "wide"] : List Str).length → bindArgs t.fd__law_tape ⟨us, []⟩ = pure ((["pool", "wide"] : List Str).zip us) := by
  obtain ⟨oc, od, kV, doc, pm, an, cdv, ct, osl, h, _⟩ := t.e__law_tape.fn.ex
  rw [h]
  exact fun us hl => match us, hl with | [_, _], _ => rfl
theorem b__law_named (t : Tx P w K mg) : ∀ us : List Value, us.length = (["step"] : List Str).length → bindArgs t.fd__law_named ⟨us, []⟩ = pure ((["step"] : List Str).zip us) := by
  obtain ⟨oc, od, kV, doc, pm, an, cdv, ct, osl, h, _⟩ := t.e__law_named.fn.ex
  rw [h]
  exact fun us hl => match us, hl with | [_], _ => rfl
theorem b__law_masks (t : Tx P w K mg) : ∀ us : List Value, us.length = (["steps"] : List Str).length → bindArgs t.fd__law_masks ⟨us, []⟩ = pure ((["steps"] : List Str).zip us) := by
  obtain ⟨oc, od, kV, doc, pm, an, cdv, ct, osl, h, _⟩ := t.e__law_masks.fn.ex
  rw [h]
  exact fun us hl => match us, hl with | [_], _ => rfl
theorem b_Tape__check_cell (t : Tx P w K mg) : ∀ us : List Value, us.length = (["self", "cell"] : List Str).length → bindArgs t.fd_Tape__check_cell ⟨us, []⟩ = pure ((["self", "cell"] : List Str).zip us) := by
  obtain ⟨oc, od, kV, doc, pm, an, cdv, ct, osl, h, _⟩ := t.e_Tape__check_cell.ex
  rw [h]
  exact fun us hl => match us, hl with | [_, _], _ => rfl
theorem b_step_cells (t : Tx P w K mg) : ∀ us : List Value, us.length = (["step"] : List Str).length → bindArgs t.fd_step_cells ⟨us, []⟩ = pure ((["step"] : List Str).zip us) := by
  obtain ⟨oc, od, kV, doc, pm, an, cdv, ct, osl, h, _⟩ := t.e_step_cells.fn.ex
  rw [h]
  exact fun us hl => match us, hl with | [_], _ => rfl
theorem b_Tape_needed (t : Tx P w K mg) : ∀ us : List Value, us.length = (["self", "cells"] : List Str).length → bindArgs t.fd_Tape_needed ⟨us, []⟩ = pure ((["self", "cells"] : List Str).zip us) := by
  obtain ⟨oc, od, kV, doc, pm, an, cdv, ct, osl, h, _⟩ := t.e_Tape_needed.ex
  rw [h]
  exact fun us hl => match us, hl with | [_, _], _ => rfl
theorem b_Tape_joins (t : Tx P w K mg) : ∀ us : List Value, us.length = (["self", "cells"] : List Str).length → bindArgs t.fd_Tape_joins ⟨us, []⟩ = pure ((["self", "cells"] : List Str).zip us) := by
  obtain ⟨oc, od, kV, doc, pm, an, cdv, ct, osl, h, _⟩ := t.e_Tape_joins.ex
  rw [h]
  exact fun us hl => match us, hl with | [_, _], _ => rfl
theorem b__law_same (t : Tx P w K mg) : ∀ us : List Value, us.length = (["told", "due"] : List Str).length → bindArgs t.fd__law_same ⟨us, []⟩ = pure ((["told", "due"] : List Str).zip us) := by
  obtain ⟨oc, od, kV, doc, pm, an, cdv, ct, osl, h, _⟩ := t.e__law_same.fn.ex
  rw [h]
  exact fun us hl => match us, hl with | [_, _], _ => rfl
theorem b__law_refused (t : Tx P w K mg) : ∀ us : List Value, us.length = (["tape", "cells", "joins"] : List Str).length → bindArgs t.fd__law_refused ⟨us, []⟩ = pure ((["tape", "cells", "joins"] : List Str).zip us) := by
  obtain ⟨oc, od, kV, doc, pm, an, cdv, ct, osl, h, _⟩ := t.e__law_refused.fn.ex
  rw [h]
  exact fun us hl => match us, hl with | [_, _, _], _ => rfl
theorem b__law_refuses (t : Tx P w K mg) : ∀ us : List Value, us.length = (["pool", "tape", "many"] : List Str).length → bindArgs t.fd__law_refuses ⟨us, []⟩ = pure ((["pool", "tape", "many"] : List Str).zip us) := by
  obtain ⟨oc, od, kV, doc, pm, an, cdv, ct, osl, h, _⟩ := t.e__law_refuses.fn.ex
  rw [h]
  exact fun us hl => match us, hl with | [_, _, _], _ => rfl
theorem b_Tape_steps (t : Tx P w K mg) : ∀ us : List Value, us.length = (["self"] : List Str).length → bindArgs t.fd_Tape_steps ⟨us, []⟩ = pure ((["self"] : List Str).zip us) := by
  obtain ⟨oc, od, kV, doc, pm, an, cdv, ct, osl, h, _⟩ := t.e_Tape_steps.ex
  rw [h]
  exact fun us hl => match us, hl with | [_], _ => rfl
theorem b__law_due (t : Tx P w K mg) : ∀ us : List Value, us.length = (["steps", "masks", "cells"] : List Str).length → bindArgs t.fd__law_due ⟨us, []⟩ = pure ((["steps", "masks", "cells"] : List Str).zip us) := by
  obtain ⟨oc, od, kV, doc, pm, an, cdv, ct, osl, h, _⟩ := t.e__law_due.fn.ex
  rw [h]
  exact fun us hl => match us, hl with | [_, _, _], _ => rfl
theorem b__law_told (t : Tx P w K mg) : ∀ us : List Value, us.length = (["tape", "cells"] : List Str).length → bindArgs t.fd__law_told ⟨us, []⟩ = pure ((["tape", "cells"] : List Str).zip us) := by
  obtain ⟨oc, od, kV, doc, pm, an, cdv, ct, osl, h, _⟩ := t.e__law_told.fn.ex
  rw [h]
  exact fun us hl => match us, hl with | [_, _], _ => rfl
theorem b_law (t : Tx P w K mg) : ∀ us : List Value, us.length = (["script"] : List Str).length → bindArgs t.fd_law ⟨us, []⟩ = pure ((["script"] : List Str).zip us) := by
  obtain ⟨oc, od, kV, doc, pm, an, cdv, ct, osl, h, _⟩ := t.e_law.fn.ex
  rw [h]
  exact fun us hl => match us, hl with | [_], _ => rfl
theorem kbs_Tape_joins_0_cells (t : Tx P w K mg) : CBindS K t.fd_Tape_joins ["self", "cells"] 0 ["cells"] [.inl 0] := by
  obtain ⟨oc, od, kV, doc, pm, an, cdv, ct, osl, h, _⟩ := t.e_Tape_joins.ex
  rw [h]
  exact ⟨⟨[.inl 0], ⟨rfl, trivial⟩, rfl, fun s a us ws _ h1 h2 => match us, ws, h1, h2 with | [], [_], _, _ => .of_eq rfl⟩⟩
theorem kbs_Tape_needed_0_cells (t : Tx P w K mg) : CBindS K t.fd_Tape_needed ["self", "cells"] 0 ["cells"] [.inl 0] := by
  obtain ⟨oc, od, kV, doc, pm, an, cdv, ct, osl, h, _⟩ := t.e_Tape_needed.ex
  rw [h]
  exact ⟨⟨[.inl 0], ⟨rfl, trivial⟩, rfl, fun s a us ws _ h1 h2 => match us, ws, h1, h2 with | [], [_], _, _ => .of_eq rfl⟩⟩
def N_is_whole : List Str := ["thing"]
theorem sc_is_whole : FnScope N_is_whole ["thing"] (defScope (topS 9)) := ⟨rfl, rfl, rfl, by decide +kernel, rfl, by decide +kernel, by decide +kernel⟩
def N__is_within : List Str := ["thing", "low", "high"]
theorem sc__is_within : FnScope N__is_within ["thing", "low", "high"] (defScope (topS 10)) := ⟨rfl, rfl, rfl, by decide +kernel, rfl, by decide +kernel, by decide +kernel⟩
def N_check_size : List Str := ["value", "low", "high"]
theorem sc_check_size : FnScope N_check_size ["value", "low", "high"] (defScope (topS 11)) := ⟨rfl, rfl, rfl, by decide +kernel, rfl, by decide +kernel, by decide +kernel⟩
def N__is_below : List Str := ["thing", "bound"]
theorem sc__is_below : FnScope N__is_below ["thing", "bound"] (defScope (topS 19)) := ⟨rfl, rfl, rfl, by decide +kernel, rfl, by decide +kernel, by decide +kernel⟩
def N_is_change_word : List Str := ["thing", "number"]
theorem sc_is_change_word : FnScope N_is_change_word ["thing"] (defScope (topS 13)) := ⟨rfl, rfl, rfl, by decide +kernel, rfl, by decide +kernel, by decide +kernel⟩
def N_is_step : List Str := ["step", "size", "index", "head"]
theorem sc_is_step : FnScope N_is_step ["step", "size", "index"] (defScope (topS 20)) := ⟨rfl, rfl, rfl, by decide +kernel, rfl, by decide +kernel, by decide +kernel⟩
def N_Tape___init__ : List Str := ["self", "size", "steps", "index", "step"]
theorem sc_Tape___init__ : FnScope N_Tape___init__ ["self", "size", "steps"] (defScope (mthS (topS 24) 0)) := ⟨rfl, rfl, rfl, by decide +kernel, rfl, by decide +kernel, by decide +kernel⟩
def N__law_stock : List Str := ["script", "cells", "mark", "cell"]
theorem sc__law_stock : FnScope N__law_stock ["script"] (defScope (topS 26)) := ⟨rfl, rfl, rfl, by decide +kernel, rfl, by decide +kernel, by decide +kernel⟩
def N__law_draw : List Str := ["pool", "many", "number"]
theorem sc__law_draw : FnScope N__law_draw ["pool", "many"] (defScope (topS 27)) := ⟨rfl, rfl, rfl, by decide +kernel, rfl, by decide +kernel, by decide +kernel⟩
def N__law_step : List Str := ["pool", "size", "index", "top", "most", "what", "cell", "count", "k"]
theorem sc__law_step : FnScope N__law_step ["pool", "size", "index", "top", "most"] (defScope (topS 29)) := ⟨rfl, rfl, rfl, by decide +kernel, rfl, by decide +kernel, by decide +kernel⟩
def N__law_tape : List Str := ["pool", "wide", "shape", "count", "most", "steps", "k"]
theorem sc__law_tape : FnScope N__law_tape ["pool", "wide"] (defScope (topS 36)) := ⟨rfl, rfl, rfl, by decide +kernel, rfl, by decide +kernel, by decide +kernel⟩
def N__law_named : List Str := ["step"]
theorem sc__law_named : FnScope N__law_named ["step"] (defScope (topS 30)) := ⟨rfl, rfl, rfl, by decide +kernel, rfl, by decide +kernel, by decide +kernel⟩
def N__law_masks : List Str := ["steps", "masks", "k", "mask", "cell"]
theorem sc__law_masks : FnScope N__law_masks ["steps"] (defScope (topS 31)) := ⟨rfl, rfl, rfl, by decide +kernel, rfl, by decide +kernel, by decide +kernel⟩
def N_Tape__check_cell : List Str := ["self", "cell"]
theorem sc_Tape__check_cell : FnScope N_Tape__check_cell ["self", "cell"] (defScope (mthS (topS 24) 4)) := ⟨rfl, rfl, rfl, by decide +kernel, rfl, by decide +kernel, by decide +kernel⟩
def N_step_cells : List Str := ["step"]
theorem sc_step_cells : FnScope N_step_cells ["step"] (defScope (topS 21)) := ⟨rfl, rfl, rfl, by decide +kernel, rfl, by decide +kernel, by decide +kernel⟩
def N_Tape_needed : List Str := ["self", "cells", "cell", "marks", "index"]
theorem sc_Tape_needed : FnScope N_Tape_needed ["self", "cells"] (defScope (mthS (topS 24) 6)) := ⟨rfl, rfl, rfl, by decide +kernel, rfl, by decide +kernel, by decide +kernel⟩
def N_Tape_joins : List Str := ["self", "cells", "cell"]
theorem sc_Tape_joins : FnScope N_Tape_joins ["self", "cells"] (defScope (mthS (topS 24) 7)) := ⟨rfl, rfl, rfl, by decide +kernel, rfl, by decide +kernel, by decide +kernel⟩
def N__law_same : List Str := ["told", "due"]
theorem sc__law_same : FnScope N__law_same ["told", "due"] (defScope (topS 28)) := ⟨rfl, rfl, rfl, by decide +kernel, rfl, by decide +kernel, by decide +kernel⟩
def N__law_refused : List Str := ["tape", "cells", "joins", "e"]
theorem sc__law_refused : FnScope N__law_refused ["tape", "cells", "joins"] (defScope (topS 34)) := ⟨rfl, rfl, rfl, by decide +kernel, rfl, by decide +kernel, by decide +kernel⟩
def N__law_refuses : List Str := ["pool", "tape", "many", "size", "good", "odd", "last", "tail", "cells", "joins", "k"]
theorem sc__law_refuses : FnScope N__law_refuses ["pool", "tape", "many"] (defScope (topS 35)) := ⟨rfl, rfl, rfl, by decide +kernel, rfl, by decide +kernel, by decide +kernel⟩
def N_Tape_steps : List Str := ["self"]
theorem sc_Tape_steps : FnScope N_Tape_steps ["self"] (defScope (mthS (topS 24) 3)) := ⟨rfl, rfl, rfl, by decide +kernel, rfl, by decide +kernel, by decide +kernel⟩
def N__law_due : List Str := ["steps", "masks", "cells", "whole", "cell", "needs", "k"]
theorem sc__law_due : FnScope N__law_due ["steps", "masks", "cells"] (defScope (topS 32)) := ⟨rfl, rfl, rfl, by decide +kernel, rfl, by decide +kernel, by decide +kernel⟩
def N__law_told : List Str := ["tape", "cells", "given", "needs", "told"]
theorem sc__law_told : FnScope N__law_told ["tape", "cells"] (defScope (topS 33)) := ⟨rfl, rfl, rfl, by decide +kernel, rfl, by decide +kernel, by decide +kernel⟩
def N_law : List Str := ["script", "pool", "wide", "steps", "many", "tape", "masks", "lists", "k", "size", "cells", "last", "told", "j"]
theorem sc_law : FnScope N_law ["script"] (defScope (topS 37)) := ⟨rfl, rfl, rfl, by decide +kernel, rfl, by decide +kernel, by decide +kernel⟩
theorem ok_is_whole (calm : Bool) (t : Tx P w K mg) (base : Heap) : FnG calm P w K mg base 1 t.a_is_whole t.fd_is_whole ["thing"] (spI t.G 1 f_is_whole) :=
  have S := sc_is_whole
  fnE_den (b := d_is_whole) (N := N_is_whole) (k := 0) t.e_is_whole rfl S fun cdv A outer s H E C po => by
  exact (s1 (s_ret (and_ C (isi C [.int, .bl] [(Str.ofString "Tape", false)] t.z_isinstance (v 0) (clsT PyProof.Rows.Boot.«int» t.z_int) (.ty _) (fun t => by cases t <;> rfl) (io1 (ca_Tape t) t.in_Tape t.i_Tape_int io0)) (one_ (not_ C (isi C [.bl] [(Str.ofString "Tape", false)] t.z_isinstance (v 0) (clsT PyProof.Rows.Boot.«bool» t.z_bool) (.ty _) (fun t => by cases t <;> rfl) (io1 (ca_Tape t) t.in_Tape t.i_Tape_bool io0)))))))
theorem ok__is_within (calm : Bool) (t : Tx P w K mg) (base : Heap) : FnG calm P w K mg base 2 t.a__is_within t.fd__is_within ["thing", "low", "high"] (spI t.G 3 f__is_within) :=
  have S := sc__is_within
  fnE_den (b := d__is_within) (N := N__is_within) (k := 1) t.e__is_within rfl S fun cdv A outer s H E C po => by
  exact (s1 (s_ret (and_ C (call_ C (cal C (ok_is_whole _ t base) t.e_is_whole.gl t.e_is_whole.fn.kp) (b_is_whole t) (ac (v 0) an) (len_cons len_nil)) (one_ (chain (qLtE C) (qLtE C) (v 1) (v 0) (v 2))))))
theorem ok_check_size (t : Tx P w K mg) (base : Heap) : FnG true P w K mg base 3 t.a_check_size t.fd_check_size ["value", "low", "high"] (spI t.G 3 f_check_size) :=
  have S := sc_check_size
  fnE_den (b := d_check_size) (N := N_check_size) (k := 2) t.e_check_size rfl S fun cdv A outer s H E C po => by
  exact (s1 (s_if (tnot (tru C (call_ C (cal C (ok__is_within _ t base) t.e__is_within.gl t.e__is_within.fn.kp) (b__is_within t) (ac (v 0) (ac (v 1) (ac (v 2) an))) (len_cons (len_cons (len_cons len_nil)))))) (s1 (raise_ C t.x_BadSize (ac (v 0) an) (Str.ofString "BadSize") (ca_BadSize t))) s0))
theorem ok__is_below (calm : Bool) (t : Tx P w K mg) (base : Heap) : FnG calm P w K mg base 2 t.a__is_below t.fd__is_below ["thing", "bound"] (spI t.G 2 f__is_below) :=
  have S := sc__is_below
  fnE_den (b := d__is_below) (N := N__is_below) (k := 1) t.e__is_below rfl S fun cdv A outer s H E C po => by
  exact (s1 (s_ret (and_ C (call_ C (cal C (ok_is_whole _ t base) t.e_is_whole.gl t.e_is_whole.fn.kp) (b_is_whole t) (ac (v 0) an) (len_cons len_nil)) (one_ (chain (qLtE C) (qLt C) i_int (v 0) (v 1))))))
theorem ok_is_change_word (t : Tx P w K mg) (base : Heap) : FnG true P w K mg base 2 t.a_is_change_word t.fd_is_change_word ["thing"] (spI t.G 1 f_is_change_word) :=
  have S := sc_is_change_word
  fnE_den (b := d_is_change_word) (N := N_is_change_word) (k := 1) t.e_is_change_word rfl S fun cdv A outer s H E C po => by
  exact (sc (s_if (tnot (tru C (isi C [.tup] [(Str.ofString "Tape", false)] t.z_isinstance (v 0) (clsT PyProof.Rows.Boot.«tuple» t.z_tuple) (.ty _) (fun t => by cases t <;> rfl) (io1 (ca_Tape t) t.in_Tape t.i_Tape_tuple io0)))) (s1 (s_ret i_bl)) s0)
    (s1 (s_ret (cB (c_all C.hK rfl) PyProof.Rows.Boot.«all» t.z_all (ac (cmpr C N_is_change_word (defScope (topS 13)) [(Str.ofString "number", 1)] S.nd (iAny C (v 0)) (fun _ _ _ _ _ => (gn 1 S.nd)) (fun _ _ _ _ _ C => (and_ C (call_ C (cal C (ok_is_whole _ t base) t.e_is_whole.gl t.e_is_whole.fn.kp) (b_is_whole t) (ac (v 1) an) (len_cons len_nil)) (one_ (chain (qLtE C) (qLtE C) i_int (v 1) i_int))))) an)))))
theorem ok_is_step (t : Tx P w K mg) (base : Heap) : FnG true P w K mg base 3 t.a_is_step t.fd_is_step ["step", "size", "index"] (spI t.G 3 f_is_step) :=
  have S := sc_is_step
  fnE_den (b := d_is_step) (N := N_is_step) (k := 2) t.e_is_step rfl S fun cdv A outer s H E C po => by
  exact (sc (s_if (wor (tnot (tru C (isi C [.tup] [(Str.ofString "Tape", false)] t.z_isinstance (v 0) (clsT PyProof.Rows.Boot.«tuple» t.z_tuple) (.ty _) (fun t => by cases t <;> rfl) (io1 (ca_Tape t) t.in_Tape t.i_Tape_tuple io0)))) (w1 (tcmp (qEq C) (cB (c_len C.hK) PyProof.Rows.Boot.«len» t.z_len (ac (v 0) an)) i_int))).pt (s1 (s_ret i_bl)) s0)
    (sc (set_ 3 S.nd (ix C (v 0) i_int))
    (sc (s_if (tcmp (qEq C) (v 3) i_str) (s1 (s_ret (cmp (qEq C) (cB (c_len C.hK) PyProof.Rows.Boot.«len» t.z_len (ac (v 0) an)) i_int))) s0)
    (sc (s_if (tcmp (qEq C) (v 3) i_str) (s1 (s_ret (and_ C (cmp (qEq C) (cB (c_len C.hK) PyProof.Rows.Boot.«len» t.z_len (ac (v 0) an)) i_int) (one_ (call_ C (cal C (ok__is_below _ t base) t.e__is_below.gl t.e__is_below.fn.kp) (b__is_below t) (ac (ix C (v 0) i_int) (ac (v 1) an)) (len_cons (len_cons len_nil))))))) s0)
    (sc (s_if (tcmp (qEq C) (v 3) i_str) (s1 (s_ret (and_ C (cmp (qEq C) (cB (c_len C.hK) PyProof.Rows.Boot.«len» t.z_len (ac (v 0) an)) i_int) (and_ C (call_ C (cal C (ok__is_below _ t base) t.e__is_below.gl t.e__is_below.fn.kp) (b__is_below t) (ac (ix C (v 0) i_int) (ac (v 2) an)) (len_cons (len_cons len_nil))) (one_ (call_ C (cal C (ok__is_below _ t base) t.e__is_below.gl t.e__is_below.fn.kp) (b__is_below t) (ac (ix C (v 0) i_int) (ac (v 2) an)) (len_cons (len_cons len_nil)))))))) s0)
    (sc (s_if (tcmp (qEq C) (v 3) i_str) (s1 (s_ret (and_ C (cmp (qEq C) (cB (c_len C.hK) PyProof.Rows.Boot.«len» t.z_len (ac (v 0) an)) i_int) (one_ (call_ C (cal C (ok__is_below _ t base) t.e__is_below.gl t.e__is_below.fn.kp) (b__is_below t) (ac (ix C (v 0) i_int) (ac (v 2) an)) (len_cons (len_cons len_nil))))))) s0)
    (sc (s_if (tcmp (qEq C) (v 3) i_str) (s1 (s_ret (and_ C (cmp (qEq C) (cB (c_len C.hK) PyProof.Rows.Boot.«len» t.z_len (ac (v 0) an)) i_int) (and_ C (call_ C (cal C (ok__is_below _ t base) t.e__is_below.gl t.e__is_below.fn.kp) (b__is_below t) (ac (ix C (v 0) i_int) (ac (v 2) an)) (len_cons (len_cons len_nil))) (one_ (call_ C (cal C (ok_is_change_word t base) t.e_is_change_word.gl t.e_is_change_word.fn.kp) (b_is_change_word t) (ac (ix C (v 0) i_int) an) (len_cons len_nil))))))) s0)
    (s1 (s_ret i_bl)))))))))
theorem ok_Tape___init__ (t : Tx P w K mg) (base : Heap) : FnG true P w K mg base 4 t.a_Tape___init__ t.fd_Tape___init__ ["self", "size", "steps"] (spI t.G 3 f_Tape___init__) :=
  have S := sc_Tape___init__
  fnM_den (b := d_Tape___init__) (N := N_Tape___init__) (k := 3) t.e_Tape___init__ rfl S fun cdv A outer s H E C po => by
  exact (sc (drop (call_ C (cal C (ok_check_size t base) t.e_check_size.gl t.e_check_size.fn.kp) (b_check_size t) (ac (v 1) (ac i_int (ac (gl C t.mu_MOST_LETTERS t.ku_MOST_LETTERS) an))) (len_cons (len_cons (len_cons len_nil)))))
    (sc (for_ po (iEn C t.z_enumerate (ac (v 2) an)) (gtp C.hK (g1 (gn 3 S.nd) (g1 (gn 4 S.nd) g0)) (gLen_cons (gLen_cons gLen_nil))) (s1 (s_if (tnot (tru C (call_ C (cal C (ok_is_step t base) t.e_is_step.gl t.e_is_step.fn.kp) (b_is_step t) (ac (v 4) (ac (v 1) (ac (v 3) an))) (len_cons (len_cons (len_cons len_nil)))))) (s1 (raise_ C t.x_BadStep (ac (v 3) an) (Str.ofString "BadStep") (ca_BadStep t))) s0)))
    (sc (setF [Str.ofString "Tape"] (cs1 (ca_Tape t) t.cl_Tape t.na_Tape_size cs0) (v 1) (v 0))
    (s1 (setF [Str.ofString "Tape"] (cs1 (ca_Tape t) t.cl_Tape t.na_Tape__steps cs0) (cT (c_list C.hK) PyProof.Rows.Boot.«list» t.z_list (ac (v 2) an)) (v 0))))))
theorem ok__law_stock (t : Tx P w K mg) (base : Heap) : FnG true P w K mg base 1 t.a__law_stock t.fd__law_stock ["script"] (spI t.G 1 f__law_stock) :=
  have S := sc__law_stock
  fnE_den (b := d__law_stock) (N := N__law_stock) (k := 0) t.e__law_stock rfl S fun cdv A outer s H E C po => by
  exact (sc (setC C 1 N__law_stock (defScope (topS 26)) [(Str.ofString "cell", 3)] S.nd (iAny C (sl C (v 0) o_no (o_some i_int))) (fun _ _ _ _ _ => (gn 3 S.nd)) (fun _ _ _ _ _ C => (bMod C (cT c_int PyProof.Rows.Boot.«int» t.z_int (ac (v 3) an)) (bPow C (bPow C i_int i_int) i_int))))
    (sc (set_ 2 S.nd i_int)
    (sc (for_ po (iAny C (v 1)) (gn 3 S.nd) (s1 (set_ 2 S.nd (bMod C (cT c_int PyProof.Rows.Boot.«int» t.z_int (ac (bAdd C (bAdd C (bMult C (v 2) i_int) (v 3)) i_int) an)) i_int))))
    (s1 (s_ret (bAdd C (cmprIf C N__law_stock (defScope (topS 26)) [(Str.ofString "cell", 3)] S.nd (iAny C (v 1)) (fun _ _ _ _ _ => (gn 3 S.nd)) (fun _ _ _ _ _ C => (tcmp (qGt C) (v 3) i_int)) (fun _ _ _ _ _ C => (v 3))) (i_lst (ac (bMult C (bAdd C (v 2) i_int) (bPow C i_int i_int)) an))))))))
theorem ok__law_draw (calm : Bool) (t : Tx P w K mg) (base : Heap) : FnG calm P w K mg base 1 t.a__law_draw t.fd__law_draw ["pool", "many"] (spI t.G 2 f__law_draw) :=
  have S := sc__law_draw
  fnE_den (b := d__law_draw) (N := N__law_draw) (k := 0) t.e__law_draw rfl S fun cdv A outer s H E C po => by
  exact (sc (set_ 2 S.nd (cT c_int PyProof.Rows.Boot.«int» t.z_int (ac (ix C (v 0) i_int) an)))
    (sc (s_if (wand (tcmp (qLt C) (v 2) (v 1)) (w1 (tcmp (qGt C) (cB (c_len C.hK) PyProof.Rows.Boot.«len» t.z_len (ac (v 0) an)) i_int))).pt (s1 (drop (met (mPop C) (v 0) (ac i_int an)))) (s1 (setIx (bFloorDiv C (v 2) (v 1)) (v 0) i_int)))
    (s1 (s_ret (bMod C (cT c_int PyProof.Rows.Boot.«int» t.z_int (ac (v 2) an)) (v 1))))))
theorem ok__law_step (t : Tx P w K mg) (base : Heap) : FnG true P w K mg base 2 t.a__law_step t.fd__law_step ["pool", "size", "index", "top", "most"] (spI t.G 5 f__law_step) :=
  have S := sc__law_step
  fnE_den (b := d__law_step) (N := N__law_step) (k := 1) t.e__law_step rfl S fun cdv A outer s H E C po => by
  exact (sc (set_ 5 S.nd (call_ C (cal C (ok__law_draw _ t base) t.e__law_draw.gl t.e__law_draw.fn.kp) (b__law_draw t) (ac (v 0) (ac i_int an)) (len_cons (len_cons len_nil))))
    (sc (s_if (tcmp (qEq C) (v 2) i_int) (s1 (set_ 5 S.nd (bMod C (cT c_int PyProof.Rows.Boot.«int» t.z_int (ac (v 5) an)) i_int))) s0)
    (sc (s_if (tcmp (qEq C) (v 5) i_int) (s1 (s_ret (i_tup (ac i_str (ac (call_ C (cal C (ok__law_draw _ t base) t.e__law_draw.gl t.e__law_draw.fn.kp) (b__law_draw t) (ac (v 0) (ac (v 1) an)) (len_cons (len_cons len_nil))) an))))) s0)
    (sc (s_if (tcmp (qEq C) (v 5) i_int) (s1 (s_ret (i_tup (ac i_str an)))) s0)
    (sc (s_if (tcmp (qEq C) (v 5) i_int) (s1 (s_ret (i_tup (ac i_str (ac (call_ C (cal C (ok__law_draw _ t base) t.e__law_draw.gl t.e__law_draw.fn.kp) (b__law_draw t) (ac (v 0) (ac (v 2) an)) (len_cons (len_cons len_nil))) an))))) s0)
    (sc (s_if (tcmp (qGt C) (v 5) i_int) (s1 (s_ret (i_tup (ac i_str (ac (call_ C (cal C (ok__law_draw _ t base) t.e__law_draw.gl t.e__law_draw.fn.kp) (b__law_draw t) (ac (v 0) (ac (v 2) an)) (len_cons (len_cons len_nil))) (ac (call_ C (cal C (ok__law_draw _ t base) t.e__law_draw.gl t.e__law_draw.fn.kp) (b__law_draw t) (ac (v 0) (ac (v 2) an)) (len_cons (len_cons len_nil))) an)))))) s0)
    (sc (set_ 6 S.nd (call_ C (cal C (ok__law_draw _ t base) t.e__law_draw.gl t.e__law_draw.fn.kp) (b__law_draw t) (ac (v 0) (ac (v 2) an)) (len_cons (len_cons len_nil))))
    (sc (set_ 7 S.nd (bMult C (call_ C (cal C (ok__law_draw _ t base) t.e__law_draw.gl t.e__law_draw.fn.kp) (b__law_draw t) (ac (v 0) (ac (v 4) an)) (len_cons (len_cons len_nil))) (cB (c_min C.hK rfl) PyProof.Rows.Boot.«min» t.z_min (ac i_int (ac (v 3) an)))))
    (s1 (s_ret (i_tup (ac i_str (ac (v 6) (ac (cT (c_tuple C.hK) PyProof.Rows.Boot.«tuple» t.z_tuple (ac (cmpr C N__law_step (defScope (topS 29)) [(Str.ofString "k", 8)] S.nd (iR1 t.z_range (ac (v 7) an) (len_cons len_nil)) (fun _ _ _ _ _ => (gn 8 S.nd)) (fun _ _ _ _ _ C => (call_ C (cal C (ok__law_draw _ t base) t.e__law_draw.gl t.e__law_draw.fn.kp) (b__law_draw t) (ac (v 0) (ac (v 3) an)) (len_cons (len_cons len_nil))))) an)) an))))))))))))))
theorem ok__law_tape (t : Tx P w K mg) (base : Heap) : FnG true P w K mg base 3 t.a__law_tape t.fd__law_tape ["pool", "wide"] (spI t.G 2 f__law_tape) :=
  have S := sc__law_tape
  fnE_den (b := d__law_tape) (N := N__law_tape) (k := 2) t.e__law_tape rfl S fun cdv A outer s H E C po => by
  exact (sc (set_ 2 S.nd (call_ C (cal C (ok__law_draw _ t base) t.e__law_draw.gl t.e__law_draw.fn.kp) (b__law_draw t) (ac (v 0) (ac i_int an)) (len_cons (len_cons len_nil))))
    (sc (set_ 3 S.nd (call_ C (cal C (ok__law_draw _ t base) t.e__law_draw.gl t.e__law_draw.fn.kp) (b__law_draw t) (ac (v 0) (ac i_int an)) (len_cons (len_cons len_nil))))
    (sc (set_ 4 S.nd i_int)
    (sc (s_if (tcmp (qEq C) (v 2) i_int) (sc (set_ 3 S.nd i_int)
    (s1 (set_ 4 S.nd i_int))) s0)
    (sc (set_ 5 S.nd (i_lst an))
    (sc (s_if (tcmp (qEq C) (v 2) i_int) (sc (set_ 5 S.nd (i_lst (ac (i_tup (ac i_str (ac (call_ C (cal C (ok__law_draw _ t base) t.e__law_draw.gl t.e__law_draw.fn.kp) (b__law_draw t) (ac (v 0) (ac (v 1) an)) (len_cons (len_cons len_nil))) an))) an)))
    (s1 (set_ 5 S.nd (bAdd C (v 5) (cmpr C N__law_tape (defScope (topS 36)) [(Str.ofString "k", 6)] S.nd (iR1 t.z_range (ac i_int an) (len_cons len_nil)) (fun _ _ _ _ _ => (gn 6 S.nd)) (fun _ _ _ _ _ C => (i_tup (ac i_str (ac (v 6) (ac (v 6) an)))))))))) s0)
    (sc (s_if (tcmp (qEq C) (v 2) i_int) (s1 (setC C 5 N__law_tape (defScope (topS 36)) [(Str.ofString "k", 6)] S.nd (iR1 t.z_range (ac i_int an) (len_cons len_nil)) (fun _ _ _ _ _ => (gn 6 S.nd)) (fun _ _ _ _ _ C => (i_tup (ac i_str (ac (call_ C (cal C (ok__law_draw _ t base) t.e__law_draw.gl t.e__law_draw.fn.kp) (b__law_draw t) (ac (v 0) (ac (v 1) an)) (len_cons (len_cons len_nil))) an)))))) s0)
    (sc (for_ po (iR1 t.z_range (ac (v 3) an) (len_cons len_nil)) (gn 6 S.nd) (s1 (drop (met (mAppend C) (v 5) (ac (call_ C (cal C (ok__law_step t base) t.e__law_step.gl t.e__law_step.fn.kp) (b__law_step t) (ac (v 0) (ac (v 1) (ac (cB (c_len C.hK) PyProof.Rows.Boot.«len» t.z_len (ac (v 5) an)) (ac i_int (ac (v 4) an))))) (len_cons (len_cons (len_cons (len_cons (len_cons len_nil)))))) an)))))
    (s1 (s_ret (v 5)))))))))))
theorem ok__law_named (calm : Bool) (t : Tx P w K mg) (base : Heap) : FnG calm P w K mg base 1 t.a__law_named t.fd__law_named ["step"] (spI t.G 1 f__law_named) :=
  have S := sc__law_named
  fnE_den (b := d__law_named) (N := N__law_named) (k := 0) t.e__law_named rfl S fun cdv A outer s H E C po => by
  exact (sc (s_if (tcmp (qEq C) (ix C (v 0) i_int) i_str) (s1 (s_ret (i_lst (ac (ix C (v 0) i_int) (ac (ix C (v 0) i_int) an))))) s0)
    (sc (s_if (wor (tcmp (qEq C) (ix C (v 0) i_int) i_str) (w1 (tcmp (qEq C) (ix C (v 0) i_int) i_str))).pt (s1 (s_ret (i_lst (ac (ix C (v 0) i_int) an)))) s0)
    (s1 (s_ret (i_lst an)))))
theorem ok__law_masks (t : Tx P w K mg) (base : Heap) : FnG true P w K mg base 2 t.a__law_masks t.fd__law_masks ["steps"] (spI t.G 1 f__law_masks) :=
  have S := sc__law_masks
  fnE_den (b := d__law_masks) (N := N__law_masks) (k := 1) t.e__law_masks rfl S fun cdv A outer s H E C po => by
  exact (sc (set_ 1 S.nd (i_lst an))
    (sc (for_ po (iR1 t.z_range (ac (cB (c_len C.hK) PyProof.Rows.Boot.«len» t.z_len (ac (v 0) an)) an) (len_cons len_nil)) (gn 2 S.nd) (sc (set_ 3 S.nd (bLShift C i_int (v 2)))
    (sc (for_ po (iAny C (call_ C (cal C (ok__law_named _ t base) t.e__law_named.gl t.e__law_named.fn.kp) (b__law_named t) (ac (ix C (v 0) (v 2)) an) (len_cons len_nil))) (gn 4 S.nd) (s1 (set_ 3 S.nd (bBitOr C (v 3) (ix C (v 1) (v 4))))))
    (s1 (drop (met (mAppend C) (v 1) (ac (v 3) an)))))))
    (s1 (s_ret (v 1)))))
theorem ok_Tape__check_cell (t : Tx P w K mg) (base : Heap) : FnG true P w K mg base 3 t.a_Tape__check_cell t.fd_Tape__check_cell ["self", "cell"] (spI t.G 2 f_Tape__check_cell) :=
  have S := sc_Tape__check_cell
  fnM_den (b := d_Tape__check_cell) (N := N_Tape__check_cell) (k := 2) t.e_Tape__check_cell rfl S fun cdv A outer s H E C po => by
  exact (s1 (s_if (tnot (tru C (call_ C (cal C (ok__is_below _ t base) t.e__is_below.gl t.e__is_below.fn.kp) (b__is_below t) (ac (v 1) (ac (cB (c_len C.hK) PyProof.Rows.Boot.«len» t.z_len (ac (fld [Str.ofString "Tape"] (cs1 (ca_Tape t) t.cl_Tape t.na_Tape__steps cs0) (v 0)) an)) an)) (len_cons (len_cons len_nil))))) (s1 (raise_ C t.x_NoCell (ac (v 1) an) (Str.ofString "NoCell") (ca_NoCell t))) s0))
theorem ok_step_cells (calm : Bool) (t : Tx P w K mg) (base : Heap) : FnG calm P w K mg base 1 t.a_step_cells t.fd_step_cells ["step"] (spI t.G 1 f_step_cells) :=
  have S := sc_step_cells
  fnE_den (b := d_step_cells) (N := N_step_cells) (k := 0) t.e_step_cells rfl S fun cdv A outer s H E C po => by
  exact (sc (s_if (tcmp (qEq C) (ix C (v 0) i_int) i_str) (s1 (s_ret (i_tup (ac (ix C (v 0) i_int) (ac (ix C (v 0) i_int) an))))) s0)
    (sc (s_if (wor (tcmp (qEq C) (ix C (v 0) i_int) i_str) (w1 (tcmp (qEq C) (ix C (v 0) i_int) i_str))).pt (s1 (s_ret (i_tup (ac (ix C (v 0) i_int) an)))) s0)
    (s1 (s_ret (i_tup an)))))
theorem ok_Tape_needed (t : Tx P w K mg) (base : Heap) : FnG true P w K mg base 4 t.a_Tape_needed t.fd_Tape_needed ["self", "cells"] (spI t.G 2 f_Tape_needed) :=
  have S := sc_Tape_needed
  fnM_den (b := d_Tape_needed) (N := N_Tape_needed) (k := 3) t.e_Tape_needed rfl S fun cdv A outer s H E C po => by
  exact (sc (for_ po (iAny C (v 1)) (gn 2 S.nd) (s1 (drop (met (mOwn (tbl := [⟨Str.ofString "Tape", 1, f_Tape__check_cell⟩]) C (me1 C (ca_Tape t) t.cl_Tape t.mt_Tape__check_cell (ok_Tape__check_cell t base) (b_Tape__check_cell t) rfl me0)) (v 0) (ac (v 2) an)))))
    (sc (set_ 3 S.nd (bMult C (i_lst (ac i_bl an)) (cB (c_len C.hK) PyProof.Rows.Boot.«len» t.z_len (ac (fld [Str.ofString "Tape"] (cs1 (ca_Tape t) t.cl_Tape t.na_Tape__steps cs0) (v 0)) an))))
    (sc (for_ po (iAny C (v 1)) (gn 2 S.nd) (s1 (setIx i_bl (v 3) (v 2))))
    (sc (for_ po (rrg1 t.z_reversed t.z_range (cB (c_len C.hK) PyProof.Rows.Boot.«len» t.z_len (ac (v 3) an))) (gn 4 S.nd) (s1 (s_if (tru C (ix C (v 3) (v 4))) (s1 (for_ po (iAny C (call_ C (cal C (ok_step_cells _ t base) t.e_step_cells.gl t.e_step_cells.fn.kp) (b_step_cells t) (ac (ix C (fld [Str.ofString "Tape"] (cs1 (ca_Tape t) t.cl_Tape t.na_Tape__steps cs0) (v 0)) (v 4)) an) (len_cons len_nil))) (gn 2 S.nd) (s1 (setIx i_bl (v 3) (v 2))))) s0)))
    (s1 (s_ret (cmprIf C N_Tape_needed (defScope (mthS (topS 24) 6)) [(Str.ofString "index", 4)] S.nd (iR1 t.z_range (ac (cB (c_len C.hK) PyProof.Rows.Boot.«len» t.z_len (ac (v 3) an)) an) (len_cons len_nil)) (fun _ _ _ _ _ => (gn 4 S.nd)) (fun _ _ _ _ _ C => (tru C (ix C (v 3) (v 4)))) (fun _ _ _ _ _ C => (v 4)))))))))
theorem ok_Tape_joins (t : Tx P w K mg) (base : Heap) : FnG true P w K mg base 5 t.a_Tape_joins t.fd_Tape_joins ["self", "cells"] (spI t.G 2 f_Tape_joins) :=
  have S := sc_Tape_joins
  fnM_den (b := d_Tape_joins) (N := N_Tape_joins) (k := 4) t.e_Tape_joins rfl S fun cdv A outer s H E C po => by
  exact (s1 (s_ret (cB (c_len C.hK) PyProof.Rows.Boot.«len» t.z_len (ac (cmprIf C N_Tape_joins (defScope (mthS (topS 24) 7)) [(Str.ofString "cell", 2)] S.nd (iAny C (met (mOwn (tbl := [⟨Str.ofString "Tape", 1, f_Tape_needed⟩]) C (me1 C (ca_Tape t) t.cl_Tape t.mt_Tape_needed (ok_Tape_needed t base) (b_Tape_needed t) rfl me0)) (v 0) (ac (v 1) an))) (fun _ _ _ _ _ => (gn 2 S.nd)) (fun _ _ _ _ _ C => (tcmp (qEq C) (ix C (ix C (fld [Str.ofString "Tape"] (cs1 (ca_Tape t) t.cl_Tape t.na_Tape__steps cs0) (v 0)) (v 2)) i_int) i_str)) (fun _ _ _ _ _ C => (v 2))) an))))
theorem ok__law_same (calm : Bool) (t : Tx P w K mg) (base : Heap) : FnG calm P w K mg base 1 t.a__law_same t.fd__law_same ["told", "due"] (spI t.G 2 f__law_same) :=
  have S := sc__law_same
  fnE_den (b := d__law_same) (N := N__law_same) (k := 0) t.e__law_same rfl S fun cdv A outer s H E C po => by
  exact (s1 (s_ret (and_ C (cmp (qEq C) (v 0) (v 1)) (one_ (cmp (qEq C) (cB (c_repr' C) PyProof.Rows.Boot.«repr» t.z_repr (ac (v 0) an)) (cB (c_repr' C) PyProof.Rows.Boot.«repr» t.z_repr (ac (v 1) an)))))))
theorem ok__law_refused (t : Tx P w K mg) (base : Heap) : FnG true P w K mg base 6 t.a__law_refused t.fd__law_refused ["tape", "cells", "joins"] (spI t.G 3 f__law_refused) :=
  have S := sc__law_refused
  fnE_den (b := d__law_refused) (N := N__law_refused) (k := 5) t.e__law_refused rfl S fun cdv A outer s H E C po => by
  exact (sc (tryAs C 3 cm_NoCell_AskError S.nd t.g_AskError (cm_NoCell_AskError_ok t) (fun _ _ _ C po => (s1 (s_if (tru C (v 2)) (s1 (drop (met (mOwn (tbl := [⟨Str.ofString "Tape", 1, f_Tape_joins⟩]) C (me1 C (ca_Tape t) t.cl_Tape t.mt_Tape_joins (ok_Tape_joins t base) (b_Tape_joins t) rfl me0)) (v 0) (ac (v 1) an)))) (s1 (drop (met (mOwn (tbl := [⟨Str.ofString "Tape", 1, f_Tape_needed⟩]) C (me1 C (ca_Tape t) t.cl_Tape t.mt_Tape_needed (ok_Tape_needed t base) (b_Tape_needed t) rfl me0)) (v 0) (ac (v 1) an))))))) (fun _ _ _ C => (s1 (s_if (wand (tru C (isE 3 [(Str.ofString "NoCell", true)] t.z_isinstance (clsO t.g_NoCell) (.own _) (is_NoCell_NoCell t))) (wand (tru C (isE 3 [(Str.ofString "NoCell", true)] t.z_isinstance (clsT PyProof.Rows.Boot.«ValueError» t.z_ValueError) (.ty _) (is_NoCell_ValueError t))) (w1 (tnot (tru C (isE 3 [(Str.ofString "NoCell", false)] t.z_isinstance (clsO t.g_NoPlace) (.own _) (is_NoCell_NoPlace t))))))).pt (s1 (s_ret (i_tup (ac i_str (ac (xf 3 [Str.ofString "NoCell"] (fun c hc => by have e := List.mem_singleton.mp hc; subst e; rw [ca_NoCell t]; exact ⟨t.x_NoCell.is_, t.n_NoCell_cell⟩)) an))))) s0))))
    (s1 (s_ret i_non)))
theorem ok__law_refuses (t : Tx P w K mg) (base : Heap) : FnG true P w K mg base 7 t.a__law_refuses t.fd__law_refuses ["pool", "tape", "many"] (spI t.G 3 f__law_refuses) :=
  have S := sc__law_refuses
  fnE_den (b := d__law_refuses) (N := N__law_refuses) (k := 6) t.e__law_refuses rfl S fun cdv A outer s H E C po => by
  exact (sc (set_ 3 S.nd (bMult C (call_ C (cal C (ok__law_draw _ t base) t.e__law_draw.gl t.e__law_draw.fn.kp) (b__law_draw t) (ac (v 0) (ac i_int an)) (len_cons (len_cons len_nil))) (cB (c_min C.hK rfl) PyProof.Rows.Boot.«min» t.z_min (ac i_int (ac (v 2) an)))))
    (sc (setC C 4 N__law_refuses (defScope (topS 35)) [(Str.ofString "k", 10)] S.nd (iR1 t.z_range (ac (v 3) an) (len_cons len_nil)) (fun _ _ _ _ _ => (gn 10 S.nd)) (fun _ _ _ _ _ C => (call_ C (cal C (ok__law_draw _ t base) t.e__law_draw.gl t.e__law_draw.fn.kp) (b__law_draw t) (ac (v 0) (ac (v 2) an)) (len_cons (len_cons len_nil)))))
    (sc (set_ 5 S.nd (ix C (i_lst (ac (v 2) (ac (uUSub C i_int) (ac (bPow C i_int i_int) (ac (bAdd C (v 2) i_int) an))))) (call_ C (cal C (ok__law_draw _ t base) t.e__law_draw.gl t.e__law_draw.fn.kp) (b__law_draw t) (ac (v 0) (ac i_int an)) (len_cons (len_cons len_nil)))))
    (sc (set_ 6 S.nd (ix C (i_lst (ac (v 2) (ac (uUSub C i_int) (ac (bPow C i_int i_int) an)))) (call_ C (cal C (ok__law_draw _ t base) t.e__law_draw.gl t.e__law_draw.fn.kp) (b__law_draw t) (ac (v 0) (ac i_int an)) (len_cons (len_cons len_nil)))))
    (sc (for_ po (iAny C (i_lst (ac (i_lst (ac (v 5) an)) (ac (bAdd C (i_lst (ac (v 5) an)) (v 4)) (ac (i_lst (ac (v 5) (ac (v 6) an))) an))))) (gn 7 S.nd) (sc (set_ 8 S.nd (bAdd C (v 4) (v 7)))
    (s1 (for_ po (iAny C (i_lst (ac i_bl (ac i_bl an)))) (gn 9 S.nd) (s1 (s_if (tnot (tru C (call_ C (cal C (ok__law_same _ t base) t.e__law_same.gl t.e__law_same.fn.kp) (b__law_same t) (ac (call_ C (cal C (ok__law_refused t base) t.e__law_refused.gl t.e__law_refused.fn.kp) (b__law_refused t) (ac (v 1) (ac (cT (c_list C.hK) PyProof.Rows.Boot.«list» t.z_list (ac (v 8) an)) (ac (v 9) an))) (len_cons (len_cons (len_cons len_nil)))) (ac (i_tup (ac i_str (ac (v 5) an))) an)) (len_cons (len_cons len_nil))))) (s1 (s_ret i_bl)) s0))))))
    (s1 (s_ret i_bl)))))))
theorem ok_Tape_steps (calm : Bool) (t : Tx P w K mg) (base : Heap) : FnG calm P w K mg base 1 t.a_Tape_steps t.fd_Tape_steps ["self"] (spI t.G 1 f_Tape_steps) :=
  have S := sc_Tape_steps
  fnM_den (b := d_Tape_steps) (N := N_Tape_steps) (k := 0) t.e_Tape_steps rfl S fun cdv A outer s H E C po => by
  exact (s1 (s_ret (cT (c_list C.hK) PyProof.Rows.Boot.«list» t.z_list (ac (fld [Str.ofString "Tape"] (cs1 (ca_Tape t) t.cl_Tape t.na_Tape__steps cs0) (v 0)) an))))
theorem ok__law_due (t : Tx P w K mg) (base : Heap) : FnG true P w K mg base 1 t.a__law_due t.fd__law_due ["steps", "masks", "cells"] (spI t.G 3 f__law_due) :=
  have S := sc__law_due
  fnE_den (b := d__law_due) (N := N__law_due) (k := 0) t.e__law_due rfl S fun cdv A outer s H E C po => by
  exact (sc (set_ 3 S.nd i_int)
    (sc (for_ po (iAny C (v 2)) (gn 4 S.nd) (s1 (set_ 3 S.nd (bBitOr C (v 3) (ix C (v 1) (v 4))))))
    (sc (setCIf C 5 N__law_due (defScope (topS 32)) [(Str.ofString "k", 6)] S.nd (iR1 t.z_range (ac (cB (c_len C.hK) PyProof.Rows.Boot.«len» t.z_len (ac (v 0) an)) an) (len_cons len_nil)) (fun _ _ _ _ _ => (gn 6 S.nd)) (fun _ _ _ _ _ C => (tcmp (qEq C) (bBitAnd C (bRShift C (v 3) (v 6)) i_int) i_int)) (fun _ _ _ _ _ C => (v 6)))
    (s1 (s_ret (i_lst (ac (v 5) (ac (cB (c_len C.hK) PyProof.Rows.Boot.«len» t.z_len (ac (cmprIf C N__law_due (defScope (topS 32)) [(Str.ofString "k", 6)] S.nd (iAny C (v 5)) (fun _ _ _ _ _ => (gn 6 S.nd)) (fun _ _ _ _ _ C => (tcmp (qEq C) (ix C (ix C (v 0) (v 6)) i_int) i_str)) (fun _ _ _ _ _ C => (v 6))) an)) an))))))))
theorem ok__law_told (t : Tx P w K mg) (base : Heap) : FnG true P w K mg base 6 t.a__law_told t.fd__law_told ["tape", "cells"] (spI t.G 2 f__law_told) :=
  have S := sc__law_told
  fnE_den (b := d__law_told) (N := N__law_told) (k := 5) t.e__law_told rfl S fun cdv A outer s H E C po => by
  exact (sc (set_ 2 S.nd (cT (c_list C.hK) PyProof.Rows.Boot.«list» t.z_list (ac (v 1) an)))
    (sc (set_ 3 S.nd (met (mOwn (tbl := [⟨Str.ofString "Tape", 1, f_Tape_needed⟩]) C (me1 C (ca_Tape t) t.cl_Tape t.mt_Tape_needed (ok_Tape_needed t base) (b_Tape_needed t) rfl me0)) (v 0) (ac (v 2) an)))
    (sc (set_ 4 S.nd (i_lst (ac (cT (c_list C.hK) PyProof.Rows.Boot.«list» t.z_list (ac (v 3) an)) (ac (met (mOwn (tbl := [⟨Str.ofString "Tape", 1, f_Tape_joins⟩]) C (me1 C (ca_Tape t) t.cl_Tape t.mt_Tape_joins (ok_Tape_joins t base) (b_Tape_joins t) rfl me0)) (v 0) (ac (v 2) an)) an))))
    (sc (s_if (wor (tnot (tru C (isi C [.lst] [(Str.ofString "Tape", false)] t.z_isinstance (v 3) (clsT PyProof.Rows.Boot.«list» t.z_list) (.ty _) (fun t => by cases t <;> rfl) (io1 (ca_Tape t) t.in_Tape t.i_Tape_list io0)))) (w1 (tnot (tru C (call_ C (cal C (ok__law_same _ t base) t.e__law_same.gl t.e__law_same.fn.kp) (b__law_same t) (ac (v 2) (ac (v 1) an)) (len_cons (len_cons len_nil))))))).pt (s1 (s_ret i_non)) s0)
    (sc (drop (met (mAppend C) (v 3) (ac i_int an)))
    (sc (drop (met (mAppend C) (v 2) (ac i_int an)))
    (sc (s_if (tnot (tru C (call_ C (cal C (ok__law_same _ t base) t.e__law_same.gl t.e__law_same.fn.kp) (b__law_same t) (ac (met (mOwn (tbl := [⟨Str.ofString "Tape", 1, f_Tape_needed⟩]) C (me1 C (ca_Tape t) t.cl_Tape t.mt_Tape_needed (ok_Tape_needed t base) (b_Tape_needed t) rfl me0)) (v 0) (ac (cT (c_list C.hK) PyProof.Rows.Boot.«list» t.z_list (ac (v 1) an)) an)) (ac (ix C (v 4) i_int) an)) (len_cons (len_cons len_nil))))) (s1 (s_ret i_non)) s0)
    (s1 (s_ret (v 4))))))))))
theorem ok_law (t : Tx P w K mg) (base : Heap) : FnG true P w K mg base 8 t.a_law t.fd_law ["script"] (spI t.G 1 f_law) :=
  have S := sc_law
  fnE_den (b := d_law) (N := N_law) (k := 7) t.e_law rfl S fun cdv A outer s H E C po => by
  exact (sc (set_ 1 S.nd (call_ C (cal C (ok__law_stock t base) t.e__law_stock.gl t.e__law_stock.fn.kp) (b__law_stock t) (ac (v 0) an) (len_cons len_nil)))
    (sc (set_ 2 S.nd (bAdd C i_int (call_ C (cal C (ok__law_draw _ t base) t.e__law_draw.gl t.e__law_draw.fn.kp) (b__law_draw t) (ac (v 1) (ac i_int an)) (len_cons (len_cons len_nil)))))
    (sc (set_ 3 S.nd (call_ C (cal C (ok__law_tape t base) t.e__law_tape.gl t.e__law_tape.fn.kp) (b__law_tape t) (ac (v 1) (ac (v 2) an)) (len_cons (len_cons len_nil))))
    (sc (set_ 4 S.nd (cB (c_len C.hK) PyProof.Rows.Boot.«len» t.z_len (ac (v 3) an)))
    (sc (set_ 5 S.nd (make_ C t.mk_Tape (ok_Tape___init__ t base) (b_Tape___init__ t) (ca_Tape t) (ac (v 2) (ac (cT (c_list C.hK) PyProof.Rows.Boot.«list» t.z_list (ac (v 3) an)) an)) (fun ev M ds M1 h => congrArg Nat.succ ((len_cons (len_cons len_nil)) ev M ds M1 h))))
    (sc (set_ 6 S.nd (call_ C (cal C (ok__law_masks t base) t.e__law_masks.gl t.e__law_masks.fn.kp) (b__law_masks t) (ac (v 3) an) (len_cons len_nil)))
    (sc (set_ 7 S.nd (i_lst (ac (i_lst an) (ac (lrg1 t.z_list t.z_range (v 4)) (ac (rev C (lrg1 t.z_list t.z_range (v 4))) an)))))
    (sc (s_if (tcmp (qLt C) (v 4) i_int) (s1 (set_ 7 S.nd (bAdd C (v 7) (cmpr C N_law (defScope (topS 37)) [(Str.ofString "k", 8)] S.nd (iR1 t.z_range (ac (v 4) an) (len_cons len_nil)) (fun _ _ _ _ _ => (gn 8 S.nd)) (fun _ _ _ _ _ C => (i_lst (ac (v 8) an))))))) s0)
    (sc (for_ po (iR1 t.z_range (ac (bMult C i_int (cB (c_min C.hK rfl) PyProof.Rows.Boot.«min» t.z_min (ac i_int (ac (v 4) an)))) an) (len_cons len_nil)) (gn 8 S.nd) (sc (set_ 9 S.nd (bAdd C i_int (call_ C (cal C (ok__law_draw _ t base) t.e__law_draw.gl t.e__law_draw.fn.kp) (b__law_draw t) (ac (v 1) (ac i_int an)) (len_cons (len_cons len_nil)))))
    (s1 (drop (met (mAppend C) (v 7) (ac (cmpr C N_law (defScope (topS 37)) [(Str.ofString "j", 13)] S.nd (iR1 t.z_range (ac (v 9) an) (len_cons len_nil)) (fun _ _ _ _ _ => (gn 13 S.nd)) (fun _ _ _ _ _ C => (call_ C (cal C (ok__law_draw _ t base) t.e__law_draw.gl t.e__law_draw.fn.kp) (b__law_draw t) (ac (v 1) (ac (v 4) an)) (len_cons (len_cons len_nil))))) an))))))
    (sc (for_ po (iAny C (v 7)) (gn 10 S.nd) (s1 (s_if (tnot (tru C (call_ C (cal C (ok__law_same _ t base) t.e__law_same.gl t.e__law_same.fn.kp) (b__law_same t) (ac (call_ C (cal C (ok__law_told t base) t.e__law_told.gl t.e__law_told.fn.kp) (b__law_told t) (ac (v 5) (ac (v 10) an)) (len_cons (len_cons len_nil))) (ac (call_ C (cal C (ok__law_due t base) t.e__law_due.gl t.e__law_due.fn.kp) (b__law_due t) (ac (v 3) (ac (v 6) (ac (v 10) an))) (len_cons (len_cons (len_cons len_nil)))) an)) (len_cons (len_cons len_nil))))) (s1 (s_ret i_bl)) s0)))
    (sc (set_ 11 S.nd (ix C (v 7) (uUSub C i_int)))
    (sc (set_ 12 S.nd (i_lst (ac (metK0 (tbl := [⟨Str.ofString "Tape", 0, [.inl 0], f_Tape_needed⟩]) C (mk1 C (ca_Tape t) t.cl_Tape t.mt_Tape_needed (ok_Tape_needed t base) (kbs_Tape_needed_0_cells t) mk0) (v 5) (kc (cT (c_list C.hK) PyProof.Rows.Boot.«list» t.z_list (ac (v 11) an)) kn)) (ac (metK0 (tbl := [⟨Str.ofString "Tape", 0, [.inl 0], f_Tape_joins⟩]) C (mk1 C (ca_Tape t) t.cl_Tape t.mt_Tape_joins (ok_Tape_joins t base) (kbs_Tape_joins_0_cells t) mk0) (v 5) (kc (cT (c_list C.hK) PyProof.Rows.Boot.«list» t.z_list (ac (v 11) an)) kn)) an))))
    (sc (s_if (tnot (tru C (call_ C (cal C (ok__law_same _ t base) t.e__law_same.gl t.e__law_same.fn.kp) (b__law_same t) (ac (v 12) (ac (call_ C (cal C (ok__law_due t base) t.e__law_due.gl t.e__law_due.fn.kp) (b__law_due t) (ac (v 3) (ac (v 6) (ac (v 11) an))) (len_cons (len_cons (len_cons len_nil)))) an)) (len_cons (len_cons len_nil))))) (s1 (s_ret i_bl)) s0)
    (s1 (s_ret (and_ C (call_ C (cal C (ok__law_refuses t base) t.e__law_refuses.gl t.e__law_refuses.fn.kp) (b__law_refuses t) (ac (v 1) (ac (v 5) (ac (v 4) an))) (len_cons (len_cons (len_cons len_nil)))) (one_ (call_ C (cal C (ok__law_same _ t base) t.e__law_same.gl t.e__law_same.fn.kp) (b__law_same t) (ac (met0 (mOwn (tbl := [⟨Str.ofString "Tape", 0, f_Tape_steps⟩]) C (me1 C (ca_Tape t) t.cl_Tape t.mt_Tape_steps (ok_Tape_steps _ t base) (b_Tape_steps t) rfl me0)) (v 5)) (ac (v 3) an)) (len_cons (len_cons len_nil))))))))))))))))))))
end
end K32

set_option Elab.async false
set_option linter.all false
set_option maxRecDepth 100000
set_option maxHeartbeats 2000000
namespace K32
open PySem L2 MI
theorem draw_ok {M : Mem} {n : Nat} {many : Int} (hp : PoolAt n M) (h1 : 0 < many) (h2 : many < 2 ^ 62) :
    ∃ (x : Int) (M' : Mem), f__law_draw [.ref n, .int many] M = .ok (.int x) M' ∧ 0 ≤ x ∧ x < many ∧ PoolAt n M' ∧ Keep n M M' ∧ M'.length = M.length := by
  obtain ⟨ps, hne, hnn, hps⟩ := hp
  cases ps with
  | nil => exact absurd rfl hne
  | cons p r =>
    have hn := lt_of_get hps
    have p0 : 0 ≤ p := hnn p List.mem_cons_self
    have hg : getL M n = some (.int p :: iL r) := by unfold getL; rw [hps]; rfl
    have hps' : M[n]? = some (.lst (.int p :: iL r)) := hps
    have e0 : atI (D.int p :: iL r) 0 = some (.int p) := atI_0
    have hmod : 0 ≤ p.fmod many ∧ p.fmod many < many := ⟨Int.fmod_nonneg_of_pos p h1, Int.fmod_lt_of_pos p h1⟩
    have hm0 : (decide (many ≠ 0)) = true := decide_eq_true (by omega)
    have hdo : divOk p many = true := by
      unfold divOk
      simp only [hm0, Bool.true_and, Bool.or_eq_true, decide_eq_true_eq]
      left
      omega
    have hr : (-2 ^ 63 ≤ (0 : Int) ∧ (0 : Int) < 2 ^ 63) := by decide
    have ek : seqIndex? 0 ((iL r).length + 1) = some 0 := by simp [seqIndex?]
    have ei : ixN ((iL r).length + 1) 0 = some 0 := by simp [ixN]
    by_cases hc : p < many ∧ r ≠ []
    · obtain ⟨hc1, hc2⟩ := hc
      have hl : (1 : Int) < (((iL r).length + 1 : Nat) : Int) := by
        cases r with
        | nil => exact absurd rfl hc2
        | cons a b => simp only [iL, List.map_cons, List.length_cons]; omega
      refine ⟨p.fmod many, M.set n (.lst (iL r)), ?_, hmod.1, hmod.2, ⟨r, hc2, fun q hq => hnn q (List.mem_cons_of_mem _ hq), by rw [List.getElem?_set_self hn]⟩, .set, by simp⟩
      simp only [f__law_draw, runB, d__law_draw, sSeq, sSet, sIf, sRet, sDrop, dOp2, dVar, dC, dOpN, dCons, dNil, dTru, tAndD, bnd, bndO, onx, ort, retN, retR, ofS, ofBS, Bool.false_eq_true, reduceIte, dMet, mL, hps', nPop, List.map_cons, List.map_nil, List.length_cons, List.length_nil,
        List.replicate, List.append_eq, List.cons_append, List.nil_append, List.getElem?_cons_zero, List.getElem?_cons_succ, List.set_cons_zero, List.set_cons_succ, D.isExc, opIx, hg, e0, Option.map_some, nInt, one, opB, ltB, gtB, cmpI, truB, hc1, ek, decide_true, nLen, seqOf, hl, hr, and_self, wrL, List.eraseIdx_zero, List.tail_cons, opMod, MI.opI, hm0]
    · have hcond : (if decide (p < many) = true then R.ok (decide ((1 : Int) < (((iL r).length + 1 : Nat) : Int))) M else R.ok false M) = R.ok false M := by
        by_cases q : p < many
        · have : r = [] := Classical.byContradiction fun z => hc ⟨q, z⟩
          subst this
          simp [q, iL]
        · simp [q]
      have hmem : ∀ q ∈ p.fdiv many :: r, 0 ≤ q := fun q hq => by
        rcases List.mem_cons.mp hq with rfl | hq
        · exact Int.fdiv_nonneg p0 (by omega)
        · exact hnn q (List.mem_cons_of_mem _ hq)
      refine ⟨p.fmod many, M.set n (.lst (iL (p.fdiv many :: r))), ?_, hmod.1, hmod.2, ⟨p.fdiv many :: r, by simp, hmem, by rw [List.getElem?_set_self hn]⟩, .set, by simp⟩
      simp only [f__law_draw, runB, d__law_draw, sSeq, sSet, sIf, sRet, sDrop, dOp2, dVar, dC, dOpN, dCons, dNil, dTru, tAndD, bnd, bndO, onx, ort, retN, retR, ofS, ofBS, Bool.false_eq_true, if_false, if_true, dMet, mL, hps', nPop, List.map_cons, List.map_nil, List.length_cons, List.length_nil,
        List.replicate, List.append_eq, List.cons_append, List.nil_append, List.getElem?_cons_zero, List.getElem?_cons_succ, List.set_cons_zero, List.set_cons_succ, D.isExc, opIx, hg, e0, Option.map_some, nInt, one, opB, ltB, gtB, cmpI, truB, ek, nLen, seqOf, hcond, wrL, opMod, MI.opI, hm0, sSetIx, nSetIx, opDiv, hdo, ei]
      rfl
theorem cut_ints (ns : List Int) (lo hi : Option Int) : ∃ zs : List Int, cutD (iL ns) lo hi = iL zs ∧ zs.length ≤ ns.length := by
  refine ⟨(ns.drop (HT.sIx ns.length 0 lo)).take (HT.sIx ns.length ns.length hi - HT.sIx ns.length 0 lo), ?_, ?_⟩
  · simp [cutD, iL]
  · simp only [List.length_take, List.length_drop]; omega
theorem big1 : ∃ B : Int, 0 < B ∧ ∀ ev M, (dOp2 opPow (dOp2 opPow (dC (.int 10)) (dC (.int 60))) (dC (.int 9))) ev M = .ok (.int B) M :=
  ⟨(10 ^ 60) ^ 9, by decide, fun ev M => by
    have h1 : powOk 10 60 = true := by decide +kernel
    have h2 : powOk (10 ^ 60) 9 = true := by decide +kernel
    have e1 : (60 : Int).toNat = 60 := rfl
    have e2 : (9 : Int).toNat = 9 := rfl
    simp only [dOp2, dC, bnd, opPow, MI.opI, h1, h2, if_true, ofS, e1, e2]⟩
theorem big2 : ∃ B : Int, 0 < B ∧ ∀ ev M, (dOp2 opPow (dC (.int 10007)) (dC (.int 61))) ev M = .ok (.int B) M :=
  ⟨10007 ^ 61, by decide, fun ev M => by
    have h1 : powOk 10007 61 = true := by decide +kernel
    have e1 : (61 : Int).toNat = 61 := rfl
    simp only [dOp2, dC, bnd, opPow, MI.opI, h1, if_true, ofS, e1]⟩
theorem stock_ok (ns : List Int) (hl : ns.length ≤ 63) : ∃ (k : Nat) (M' : Mem), f__law_stock [.ref 0] [.rls (iL ns)] = .ok (.ref k) M' ∧ PoolAt k M' := by
  obtain ⟨B, hB, eB⟩ := big1
  obtain ⟨B2, hB2, eB2⟩ := big2
  obtain ⟨zs, ez, lz⟩ := cut_ints ns none (some 63)
  have hB0 : decide (B ≠ 0) = true := decide_eq_true (by omega)
  have lim9 : lim = 16777216 := rfl
  -- cells
  obtain ⟨as, M1, c1, ys, rs, e1, rfl, h0, hr, rfl⟩ := compL_ok (g := gN 3) (t := tYesD) (f := dOp2 opMod (dOpN nInt (dCons (dVar 3) dNil)) (dOp2 opPow (dOp2 opPow (dC (.int 10)) (dC (.int 60))) (dC (.int 9)))) (chk := cellIs 1 (iL zs)) (n := 2) (ev := wipeD [some (.ref 0), none, none, none] [3])
    (fun xs acc M => ∃ ys rs : List Int, xs = iL ys ∧ acc = iL rs ∧ (∀ r ∈ rs, 0 ≤ r) ∧ rs.length + ys.length ≤ 63 ∧ M = [.rls (iL ns), .lst (iL zs), .lst acc])
    (fun xs acc M ⟨ys, rs, e1, e2, e3, e4, e5⟩ => by
      subst e1 e2 e5
      exact ⟨cellIs_at rfl (plainL_iL _), rfl, by rw [iL_length, iL_length, lim9]; omega⟩)
    (fun x xs acc M ⟨ys, rs, e1, e2, e3, e4, e5⟩ => by
      subst e2 e5
      cases ys with
      | nil => cases e1
      | cons y ys =>
        cases e1
        refine ⟨_, true, [.rls (iL ns), .lst (iL zs), .lst (iL rs)], rfl, rfl, (fun h => by cases h), fun _ => ⟨.int (y.fmod B), [.rls (iL ns), .lst (iL zs), .lst (iL rs)], ?_, rfl, ys, rs ++ [y.fmod B], rfl, by rw [← iL_append]; rfl, fun r hr => ?_, by simp only [List.length_append, List.length_cons, List.length_nil] at e4 ⊢; omega, rfl⟩⟩
        · rw [dOp2]
          rw [show (dOpN nInt (dCons (dVar 3) dNil)) (List.map dropE ((wipeD [some (.ref 0), none, none, none] [3]).set 3 (some (.int y)))) [.rls (iL ns), .lst (iL zs), .lst (iL rs)] = .ok (.int y) [.rls (iL ns), .lst (iL zs), .lst (iL rs)] from rfl]
          rw [bnd, eB, bnd]
          simp only [opMod, MI.opI, hB0, if_true, ofS]
        · rcases List.mem_append.mp hr with hr | hr
          · exact e3 r hr
          · rw [List.mem_singleton.mp hr]
            exact Int.fmod_nonneg_of_pos y hB)
    (iL zs) [] [.rls (iL ns), .lst (iL zs), .lst []] ⟨zs, [], rfl, rfl, by simp, by simp; omega, rfl⟩
  -- mark
  obtain ⟨ev2, M2, c2, m, hm0, hm1, ⟨_, y2, _, rfl⟩, rfl⟩ := forL_ok (g := gN 3) (b := sSet 2 (dOp2 opMod (dOpN nInt (dCons (dOp2 opAdd (dOp2 opAdd (dOp2 opMul (dVar 2) (dC (.int 31))) (dVar 3)) (dC (.int 1))) dNil)) (dC (.int 1000003)))) (chk := cellIs 2 (iL rs))
    (fun xs ev M => ∃ (m : Int), 0 ≤ m ∧ m < 1000003 ∧ (∃ ys : List Int, ∃ y : Option D, xs = iL ys ∧ ev = [some (.ref 0), some (.ref 2), some (.int m), y]) ∧ M = [.rls (iL ns), .lst (iL zs), .lst (iL rs)])
    (fun xs ev M ⟨m, h1, h2, ⟨ys, y, e1, e2⟩, e3⟩ => by subst e3; exact cellIs_at rfl (plainL_iL _))
    (fun x xs ev M ⟨m, h1, h2, ⟨ys, y, e1, e2⟩, e3⟩ => by
      subst e2 e3
      cases ys with
      | nil => cases e1
      | cons z ys =>
        cases e1
        refine ⟨_, [some (.ref 0), some (.ref 2), some (.int ((m * 31 + z + 1).fmod 1000003)), some (.int z)], [.rls (iL ns), .lst (iL zs), .lst (iL rs)], rfl, .inl ?_, _, Int.fmod_nonneg_of_pos _ (by decide), Int.fmod_lt_of_pos _ (by decide), ⟨ys, _, rfl, rfl⟩, rfl⟩
        have hmul : mulOk m 31 = true := by simp [mulOk]
        simp only [sSet, dOp2, dVar, dC, dOpN, dCons, dNil, bnd, bndO, List.set_cons_succ, List.set_cons_zero, List.getElem?_cons_succ, List.getElem?_cons_zero, D.isExc, Bool.false_eq_true, if_false, opMul, opAdd, opMod, MI.opI, hmul, if_true, ofS, nInt, one, ne_eq, decide_true, decide_not, show decide ((1000003 : Int) = 0) = false from rfl, Bool.not_false])
    (iL rs) [some (.ref 0), some (.ref 2), some (.int 0), none] [.rls (iL ns), .lst (iL zs), .lst (iL rs)] ⟨0, by decide, by decide, ⟨rs, none, rfl, rfl⟩, rfl⟩
  -- those above 0
  obtain ⟨as3, M3, c3, ys3, qs, _, rfl, q0, hq, rfl⟩ := compL_ok (g := gN 3) (t := dTru (dOp2 (opB gtB) (dVar 3) (dC (.int 0)))) (f := dVar 3) (chk := cellIs 2 (iL rs)) (n := 3) (ev := wipeD [some (.ref 0), some (.ref 2), some (.int m), y2] [3])
    (fun xs acc M => ∃ ys qs : List Int, xs = iL ys ∧ acc = iL qs ∧ (∀ r ∈ qs, 0 ≤ r) ∧ qs.length + ys.length ≤ 63 ∧ M = [.rls (iL ns), .lst (iL zs), .lst (iL rs), .lst acc])
    (fun xs acc M ⟨ys, rs, e1, e2, e3, e4, e5⟩ => by
      subst e1 e2 e5
      exact ⟨cellIs_at rfl (plainL_iL _), rfl, by rw [iL_length, iL_length, lim9]; omega⟩)
    (fun x xs acc M ⟨ys, qs, e1, e2, e3, e4, e5⟩ => by
      subst e2 e5
      cases ys with
      | nil => cases e1
      | cons y ys =>
        cases e1
        refine ⟨_, decide (0 < y), [.rls (iL ns), .lst (iL zs), .lst (iL rs), .lst (iL qs)], rfl, ?_, (fun h => ⟨ys, qs, rfl, rfl, e3, by simp only [List.length_cons] at e4; omega, rfl⟩), fun h => ⟨.int y, [.rls (iL ns), .lst (iL zs), .lst (iL rs), .lst (iL qs)], rfl, rfl, ys, qs ++ [y], rfl, by rw [← iL_append]; rfl, fun r hr => ?_, by simp only [List.length_append, List.length_cons, List.length_nil] at e4 ⊢; omega, rfl⟩⟩
        · simp only [dTru, dOp2, dVar, dC, wipeD, List.map, dropE, List.set_cons_succ, List.set_cons_zero, List.getElem?_cons_succ, List.getElem?_cons_zero, D.isExc, Bool.false_eq_true, if_false, bnd, opB, gtB, cmpI, Option.map_some, ofS, truB, ofBS]
        · rcases List.mem_append.mp hr with hr | hr
          · exact e3 r hr
          · rw [List.mem_singleton.mp hr]
            exact Int.le_of_lt (of_decide_eq_true h))
    (iL rs) [] [.rls (iL ns), .lst (iL zs), .lst (iL rs), .lst []] ⟨rs, [], rfl, rfl, by simp, by simp; omega, rfl⟩
  refine ⟨5, [.rls (iL ns), .lst (iL zs), .lst (iL rs), .lst (iL qs), .lst [.int ((m + 1) * B2)], .lst (iL (qs ++ [(m + 1) * B2]))], ?_, qs ++ [(m + 1) * B2], by simp, fun p hp => ?_, rfl⟩
  · have hmul : mulOk (m + 1) B2 = true := by
      unfold mulOk
      have : decide ((m + 1).natAbs < 2 ^ 64) = true := decide_eq_true (by omega)
      rw [this]; rfl
    have hlen : (iL qs).length + 1 ≤ lim := by rw [iL_length, lim9]; omega
    have hsl : (dSl (dVar 0) oNo (oSome (dC (.int 63)))) [some (.ref 0), none, none, none] [.rls (iL ns)] = .ok (.ref 1) [.rls (iL ns), .lst (iL zs)] := by
      simp only [dSl, dVar, dC, oNo, oSome, bnd, List.getElem?_cons_zero, D.isExc, Bool.false_eq_true, if_false, opSl, getL, ez, ofS]
      rfl
    have g1 : getL [.rls (iL ns), .lst (iL zs)] 1 = some (iL zs) := rfl
    have g2 : getL [.rls (iL ns), .lst (iL zs), .lst (iL rs)] 2 = some (iL rs) := rfl
    have one_le : 1 ≤ lim := by rw [lim9]; decide
    simp only [f__law_stock, runB, d__law_stock, sSeq, sSet, sFor, sRet, dComp, itAny, hsl, bnd, g1, List.map_cons, List.map_nil, List.length_cons, List.length_nil, List.replicate, List.append_eq, List.cons_append, List.nil_append, Nat.reduceAdd, Nat.reduceSub, c1, Option.map_some, ofS, bndO, onx,
      List.set_cons_succ, List.set_cons_zero, dC, dVar, List.getElem?_cons_succ, List.getElem?_cons_zero, D.isExc, Bool.false_eq_true, if_false, g2]
    have s1 : (dComp (itAny (dVar 1)) (gN 3) (dTru (dOp2 (opB gtB) (dVar 3) (dC (D.int 0)))) (dVar 3) [3]) [some (D.ref 0), some (D.ref 2), some (D.int m), y2] [Cell.rls (iL ns), Cell.lst (iL zs), Cell.lst (iL rs)] =
        .ok (.ref 3) [Cell.rls (iL ns), Cell.lst (iL zs), Cell.lst (iL rs), Cell.lst (iL qs)] := by
      rw [dComp, itAny, show (dVar 1) [some (D.ref 0), some (D.ref 2), some (D.int m), y2] [Cell.rls (iL ns), Cell.lst (iL zs), Cell.lst (iL rs)] = .ok (.ref 2) [Cell.rls (iL ns), Cell.lst (iL zs), Cell.lst (iL rs)] from rfl, bnd]
      simp only [g2, bnd]
      rw [show ([Cell.rls (iL ns), Cell.lst (iL zs), Cell.lst (iL rs)] : Mem).length = 3 from rfl, show ([Cell.rls (iL ns), Cell.lst (iL zs), Cell.lst (iL rs)] ++ [Cell.lst []] : Mem) = [Cell.rls (iL ns), Cell.lst (iL zs), Cell.lst (iL rs), Cell.lst []] from rfl, c3]
      rfl
    have s2 : (dLst (dCons (dOp2 opMul (dOp2 opAdd (dVar 2) (dC (D.int 1))) (dOp2 opPow (dC (D.int 10007)) (dC (D.int 61)))) dNil)) [some (D.ref 0), some (D.ref 2), some (D.int m), y2] [Cell.rls (iL ns), Cell.lst (iL zs), Cell.lst (iL rs), Cell.lst (iL qs)] =
        .ok (.ref 4) [Cell.rls (iL ns), Cell.lst (iL zs), Cell.lst (iL rs), Cell.lst (iL qs), Cell.lst [D.int ((m + 1) * B2)]] := by
      have p1 : (dOp2 opMul (dOp2 opAdd (dVar 2) (dC (D.int 1))) (dOp2 opPow (dC (D.int 10007)) (dC (D.int 61)))) [some (D.ref 0), some (D.ref 2), some (D.int m), y2] [Cell.rls (iL ns), Cell.lst (iL zs), Cell.lst (iL rs), Cell.lst (iL qs)] =
          .ok (.int ((m + 1) * B2)) [Cell.rls (iL ns), Cell.lst (iL zs), Cell.lst (iL rs), Cell.lst (iL qs)] := by
        rw [dOp2, show (dOp2 opAdd (dVar 2) (dC (D.int 1))) [some (D.ref 0), some (D.ref 2), some (D.int m), y2] [Cell.rls (iL ns), Cell.lst (iL zs), Cell.lst (iL rs), Cell.lst (iL qs)] = .ok (.int (m + 1)) [Cell.rls (iL ns), Cell.lst (iL zs), Cell.lst (iL rs), Cell.lst (iL qs)] from rfl, bnd, eB2, bnd]
        simp only [opMul, hmul, if_true, ofS]
      simp only [dLst, dCons, dNil, p1, bnd, List.length_cons, List.length_nil, Nat.reduceAdd, one_le, if_true, List.cons_append, List.nil_append]
    rw [c2, onx, sRet, dOp2, s1, bnd, s2, bnd]
    simp only [opAdd, List.getElem?_cons_succ, List.getElem?_cons_zero, List.length_cons, List.length_nil, Nat.reduceAdd, hlen, if_true, ofS, bndO, retR, List.cons_append, List.nil_append]
    rw [← iL_append]
    rfl
  · rcases List.mem_append.mp hp with hp | hp
    · exact q0 p hp
    · rw [List.mem_singleton.mp hp]
      exact Int.mul_nonneg (by omega) (by omega)
end K32

set_option Elab.async false
set_option linter.all false
set_option maxRecDepth 100000
set_option maxHeartbeats 2000000
namespace K32
open PySem L2 MI
/-- a draw within an expression -/
theorem dDraw_ok {M : Mem} {n : Nat} {ev : MI.Env} {f : Den} {many : Int} (h0 : ev[0]? = some (some (.ref n))) (hf : f ev M = .ok (.int many) M) (hp : PoolAt n M) (h1 : 0 < many) (h2 : many < 2 ^ 62) :
    ∃ (x : Int) (M' : Mem), dCal f__law_draw (dCons (dVar 0) (dCons f dNil)) ev M = .ok (.int x) M' ∧ 0 ≤ x ∧ x < many ∧ PoolAt n M' ∧ Keep n M M' ∧ M'.length = M.length := by
  obtain ⟨x, M', e, h⟩ := draw_ok hp h1 h2
  refine ⟨x, M', ?_, h⟩
  have e0 : dVar 0 ev M = .ok (.ref n) M := by unfold dVar; rw [h0]; rfl
  simp only [dCal, dCons, dNil, e0, bnd, hf, e]
/-- the same thing twice -/
theorem same_of {M : Mem} {a b : D} {p : PyData} (ha : toPs M a = some p) (hb : toPs M b = some p) (he : eqB a b M = some true) (hs : p.showable = true) (hl : p.shown.length ≤ lim) : f__law_same [a, b] M = .ok (.bl true) M := by
  have xa : a.isExc = false := by cases a <;> first | rfl | (simp [toPs, toP] at ha)
  have xb : b.isExc = false := by cases b <;> first | rfl | (simp [toPs, toP] at hb)
  have hlt : (decide (p.shown.length ≤ lim)) = true := decide_eq_true hl
  have es : eqB (.str p.shown) (.str p.shown) M = some true := by show some (decide (p.shown = p.shown)) = _; simp
  simp only [f__law_same, runB, d__law_same, sRet, dAnd, dOp2, dOpN, dCons, dNil, dVar, List.map_cons, List.map_nil, List.length_cons, List.length_nil, List.replicate, List.append_eq, List.cons_append, List.nil_append, List.getElem?_cons_zero, List.getElem?_cons_succ,
    xa, xb, Bool.false_eq_true, if_false, bnd, opB, he, Option.map_some, ofS, truB, nRepr, one, ha, hb, hs, hlt, Bool.and_self, if_true, es, bndO, retR]
end K32

set_option Elab.async false
set_option linter.all false
set_option maxRecDepth 100000
set_option maxHeartbeats 2000000
namespace K32
open PySem L2 MI
theorem whole_ok {x : Int} {M : Mem} : f_is_whole [.int x] M = .ok (.bl true) M := rfl
theorem below_ok {x b : Int} {M : Mem} : f__is_below [.int x, .int b] M = .ok (.bl (decide (0 ≤ x) && decide (x < b))) M := by
  by_cases h : 0 ≤ x
  · simp [f__is_below, runB, d__is_below, sRet, dAnd, dCal, dCons, dNil, dVar, bnd, D.isExc, whole_ok, truB, dChain, dC, leB, ltB, cmpI, h, opB, ofS, bndO, retR]
  · simp [f__is_below, runB, d__is_below, sRet, dAnd, dCal, dCons, dNil, dVar, bnd, D.isExc, whole_ok, truB, dChain, dC, leB, ltB, cmpI, h, opB, ofS, bndO, retR]
theorem size_ok {x : Int} {M : Mem} (h : 1 ≤ x ∧ x ≤ 200) : f_check_size [.int x, .int 1, .int 200] M = .ok .non M := by
  have e : f__is_within [.int x, .int 1, .int 200] M = .ok (.bl true) M := by
    simp [f__is_within, runB, d__is_within, sRet, dAnd, dCal, dCons, dNil, dVar, bnd, D.isExc, whole_ok, truB, dChain, leB, cmpI, h.1, h.2, opB, ofS, bndO, retR]
  simp [f_check_size, runB, d_check_size, sIf, tNotD, dTru, dCal, dCons, dNil, dVar, bnd, D.isExc, e, truB, ofBS, bndO, sSkip, retN]
end K32

set_option Elab.async false
set_option linter.all false
set_option maxRecDepth 100000
set_option maxHeartbeats 2000000
namespace K32
open PySem L2 MI
inductive Stp where
  | place (w : Int) | one | turn (c : Nat) | join (a b : Nat) | act (c : Nat) (xs : List Int)
abbrev sPlace : Str := Str.ofString "place"
abbrev sOne : Str := Str.ofString "one"
abbrev sTurn : Str := Str.ofString "turn"
abbrev sJoin : Str := Str.ofString "join"
abbrev sAct : Str := Str.ofString "act"
def Stp.d : Stp → D
  | .place w => .tup [.str sPlace, .int w]
  | .one => .tup [.str sOne]
  | .turn c => .tup [.str sTurn, .int c]
  | .join a b => .tup [.str sJoin, .int a, .int b]
  | .act c xs => .tup [.str sAct, .int c, .tup (iL xs)]
def Stp.named : Stp → List Nat
  | .turn c => [c]
  | .join a b => [a, b]
  | .act c _ => [c]
  | _ => []
def Stp.isJ : Stp → Bool
  | .join _ _ => true
  | _ => false
/-- a step at place i of a tape over w letters -/
def Stp.Ok (w : Int) (i : Nat) : Stp → Prop
  | .place x => 0 ≤ x ∧ x < w
  | .one => True
  | .turn c => c < i
  | .join a b => a < i ∧ b < i
  | .act c xs => c < i ∧ xs.length ≤ 3 ∧ ∀ x ∈ xs, 0 ≤ x ∧ x < 3
theorem Stp.named_lt {w : Int} {i : Nat} {s : Stp} (h : s.Ok w i) : ∀ c ∈ s.named, c < i := by
  cases s with
  | place x => intro c hc; cases hc
  | one => intro c hc; cases hc
  | turn c => intro x hx; obtain rfl := List.mem_singleton.mp hx; exact h
  | join a b =>
    intro x hx
    rcases List.mem_cons.mp hx with rfl | hx
    · exact h.1
    · obtain rfl := List.mem_singleton.mp hx; exact h.2
  | act c xs => intro x hx; obtain rfl := List.mem_singleton.mp hx; exact h.1
theorem eqs (a b : Str) (M : Mem) : eqB (.str a) (.str b) M = some (decide (a = b)) := rfl
theorem n1 : decide (sPlace = sOne) = false := by decide +kernel
theorem n2 : decide (sTurn = sOne) = false := by decide +kernel
theorem n3 : decide (sTurn = sPlace) = false := by decide +kernel
theorem n4 : decide (sTurn = sJoin) = false := by decide +kernel
theorem n5 : decide (sJoin = sOne) = false := by decide +kernel
theorem n6 : decide (sJoin = sPlace) = false := by decide +kernel
theorem n7 : decide (sAct = sOne) = false := by decide +kernel
theorem n8 : decide (sAct = sPlace) = false := by decide +kernel
theorem n9 : decide (sAct = sJoin) = false := by decide +kernel
theorem n10 : decide (sAct = sTurn) = false := by decide +kernel
theorem n11 : decide (sPlace = sJoin) = false := by decide +kernel
theorem n12 : decide (sPlace = sTurn) = false := by decide +kernel
theorem n13 : decide (sPlace = sAct) = false := by decide +kernel
theorem n14 : decide (sOne = sJoin) = false := by decide +kernel
theorem n15 : decide (sOne = sTurn) = false := by decide +kernel
theorem n16 : decide (sOne = sAct) = false := by decide +kernel
theorem at1 {a b : D} {r : List D} : atI (a :: b :: r) 1 = some b := by
  rw [show (1 : Int) = ((1 : Nat) : Int) from rfl]; exact atI_nat rfl
theorem at2 {a b c : D} {r : List D} : atI (a :: b :: c :: r) 2 = some c := by
  rw [show (2 : Int) = ((2 : Nat) : Int) from rfl]; exact atI_nat rfl
end K32

set_option Elab.async false
set_option linter.all false
set_option maxRecDepth 100000
set_option maxHeartbeats 2000000
namespace K32
open PySem L2 MI
theorem lim9 : lim = 16777216 := rfl
theorem cword_ok {M : Mem} {xs : List Int} (h : ∀ x ∈ xs, 0 ≤ x ∧ x < 3) (hl : xs.length ≤ 3) : ∃ c, f_is_change_word [.tup (iL xs)] M = .ok (.bl true) (M ++ [c]) := by
  have e := comp_pure (it := itAny (dVar 0)) (g := gN 1) (t := tYesD) (f := dAnd (dCal f_is_whole (dCons (dVar 1) dNil)) (dChain leB leB (dC (.int 0)) (dVar 1) (dC (.int 99)))) (vs := [1]) (ev := [some (.tup (iL xs)), none]) (M := M) (xs := iL xs) (chk := yes) rfl (fun _ => rfl) (fun _ => some (.bl true)) (fun x hx c => by
    obtain ⟨z, hz, rfl⟩ := List.mem_map.mp hx
    have := h z hz
    refine ⟨_, rfl, .inr ⟨_, rfl, rfl, ?_⟩⟩
    have h99 : z ≤ 99 := by omega
    simp [dAnd, dCal, dCons, dNil, dVar, wipeD, gN, dropE, D.isExc, bnd, whole_ok, truB, dChain, dC, leB, cmpI, this.1, h99, opB, ofS]) (by rw [iL_length, lim9]; omega)
  refine ⟨.lst ((iL xs).filterMap fun _ => some (D.bl true)), ?_⟩
  have eall : blsOf ((iL xs).filterMap fun _ => some (D.bl true)) = some (xs.map fun _ => true) := by
    clear e
    induction xs with
    | nil => rfl
    | cons a r ih =>
      have ih' := ih (fun x hx => h x (List.mem_cons_of_mem _ hx)) (by simp at hl; omega)
      show (blsOf ((iL r).filterMap fun _ => some (D.bl true))).map (true :: ·) = _
      rw [ih']; rfl
  have ea : (xs.map fun _ => true).all id = true := by simp
  have eg : getL (M ++ [.lst ((iL xs).filterMap fun _ => some (D.bl true))]) M.length = some ((iL xs).filterMap fun _ => some (D.bl true)) := getL_at get_push
  simp only [f_is_change_word, runB, d_is_change_word, sSeq, sIf, sRet, tNotD, dTru, dIsi, dVar, List.map_cons, List.map_nil, List.length_cons, List.length_nil, List.replicate, List.append_eq, List.cons_append, List.nil_append, List.getElem?_cons_zero, D.isExc, Bool.false_eq_true, if_false, bnd, tag, Option.bind_some, ansT, tbOf,
    truB, ofBS, bndO, sSkip, onx, dOpN, dCons, dNil, e, nAll, onBls, one, eg, eall, ea, ofS, retR, show (List.contains [Tg.tup] Tg.tup) = true from rfl, Bool.not_true]
end K32

set_option Elab.async false
set_option linter.all false
set_option maxRecDepth 100000
set_option maxHeartbeats 2000000
namespace K32
open PySem L2 MI
theorem Ext.one {M : Mem} {c : Cell} : Ext M (M ++ [c]) := ⟨[c], rfl⟩
theorem step_ok {M : Mem} {w : Int} {i : Nat} {s : Stp} (h : s.Ok w i) : ∃ M', f_is_step [s.d, .int w, .int i] M = .ok (.bl true) M' ∧ Ext M M' := by
  cases s with
  | one =>
    refine ⟨M, ?_, .refl⟩
    simp [f_is_step, runB, d_is_step, Stp.d, sSeq, sIf, sSet, sRet, sSkip, tOrD, tNotD, dTru, dIsi, dVar, dC, dOp2, opB, dOpN, dCons, dNil, D.isExc, bnd, bndO, onx, ort, ofS, ofBS, retR, tag, ansT, tbOf, truB, nLen, one, seqOf, eqB, opIx, atI_0, eqs]
  | place x =>
    refine ⟨M, ?_, .refl⟩
    simp [f_is_step, runB, d_is_step, Stp.d, sSeq, sIf, sSet, sRet, sSkip, tOrD, tNotD, dTru, dIsi, dVar, dC, dOp2, opB, dOpN, dCons, dNil, D.isExc, bnd, bndO, onx, ort, ofS, ofBS, retR, tag, ansT, tbOf, truB, nLen, one, seqOf, eqB, opIx, atI_0, at1, dAnd, dCal, below_ok, of_decide_eq_false n1, h.1, h.2]
  | turn c =>
    refine ⟨M, ?_, .refl⟩
    have h' : c < i := h
    simp [f_is_step, runB, d_is_step, Stp.d, sSeq, sIf, sSet, sRet, sSkip, tOrD, tNotD, dTru, dIsi, dVar, dC, dOp2, opB, dOpN, dCons, dNil, D.isExc, bnd, bndO, onx, ort, ofS, ofBS, retR, tag, ansT, tbOf, truB, nLen, one, seqOf, eqB, opIx, atI_0, at1, dAnd, dCal, below_ok, of_decide_eq_false n2, of_decide_eq_false n3, of_decide_eq_false n4, h']
  | join a b =>
    refine ⟨M, ?_, .refl⟩
    simp [f_is_step, runB, d_is_step, Stp.d, sSeq, sIf, sSet, sRet, sSkip, tOrD, tNotD, dTru, dIsi, dVar, dC, dOp2, opB, dOpN, dCons, dNil, D.isExc, bnd, bndO, onx, ort, ofS, ofBS, retR, tag, ansT, tbOf, truB, nLen, one, seqOf, eqB, opIx, atI_0, at1, at2, dAnd, dCal, below_ok, of_decide_eq_false n5, of_decide_eq_false n6, h.1, h.2]
  | act c xs =>
    obtain ⟨h1, h2, h3⟩ := h
    obtain ⟨cl, e⟩ := cword_ok (M := M) h3 h2
    refine ⟨M ++ [cl], ?_, .push⟩
    simp [f_is_step, runB, d_is_step, Stp.d, sSeq, sIf, sSet, sRet, sSkip, tOrD, tNotD, dTru, dIsi, dVar, dC, dOp2, opB, dOpN, dCons, dNil, D.isExc, bnd, bndO, onx, ort, ofS, ofBS, retR, tag, ansT, tbOf, truB, nLen, one, seqOf, eqB, opIx, atI_0, at1, at2, dAnd, dCal, below_ok, of_decide_eq_false n7, of_decide_eq_false n8, of_decide_eq_false n9, of_decide_eq_false n10, h1, e]
end K32

set_option Elab.async false
set_option linter.all false
set_option maxRecDepth 100000
set_option maxHeartbeats 2000000
namespace K32
open PySem L2 MI
abbrev sd (S : List Stp) : List D := S.map Stp.d
theorem plain_d : ∀ s : Stp, D.plain s.d = true
  | .place w => rfl
  | .one => rfl
  | .turn c => rfl
  | .join a b => rfl
  | .act c xs => by
    show (D.plain (.str sAct) && (D.plain (.int c) && (D.plainL (iL xs) && true))) = true
    rw [plainL_iL]; rfl
theorem plain_sd : ∀ S : List Stp, D.plainL (sd S) = true
  | [] => rfl
  | s :: S => by
    show (D.plain s.d && D.plainL (sd S)) = true
    rw [plain_d, plain_sd S]; rfl
def Good (w : Int) (S : List Stp) : Prop := S.length ≤ 1000 ∧ ∀ (i : Nat) (s : Stp), S[i]? = some s → s.Ok w i
end K32

set_option Elab.async false
set_option linter.all false
set_option maxRecDepth 100000
set_option maxHeartbeats 2000000
namespace K32
open PySem L2 MI
abbrev cT : Str := Str.ofString "Tape"
abbrev fSz : Str := Str.ofString "size"
abbrev fSt : Str := Str.ofString "_steps"
theorem xI {i : Int} : (D.int i).isExc = false := rfl
theorem xR {i : Nat} : (D.ref i).isExc = false := rfl
theorem pairs_cons {x : D} {xs : List D} {i : Nat} : pairsD i (x :: xs) = .tup [.int i, x] :: pairsD (i + 1) xs := rfl
theorem loop_ok {w : Int} {S : List Stp} (hS : Good w S) {n k : Nat} {M : Mem} (hk : M[k]? = some (.lst (sd S))) (a b : Option D) :
    ∃ ev' M', forL (gT (gCons (gN 3) (gCons (gN 4) gNil))) (sIf (tNotD (dTru (dCal f_is_step (dCons (dVar 4) (dCons (dVar 1) (dCons (dVar 3) dNil)))))) (sRaise (Str.ofString "BadStep") 1 [(Str.ofString "index", 0)] (dCons (dVar 3) dNil)) sSkip)
      (cellIs k (sd S)) (pairsD 0 (sd S)) [some (.ref n), some (.int w), some (.ref k), a, b] M = .nx ev' M' ∧ Ext M M' ∧ ∃ a' b', ev' = [some (.ref n), some (.int w), some (.ref k), a', b'] := by
  obtain ⟨ev', M', e, h1, h2, h3⟩ := forL_ok (g := gT (gCons (gN 3) (gCons (gN 4) gNil))) (b := sIf (tNotD (dTru (dCal f_is_step (dCons (dVar 4) (dCons (dVar 1) (dCons (dVar 3) dNil)))))) (sRaise (Str.ofString "BadStep") 1 [(Str.ofString "index", 0)] (dCons (dVar 3) dNil)) sSkip) (chk := cellIs k (sd S))
    (fun xs ev M1 => Ext M M1 ∧ (∃ a' b', ev = [some (.ref n), some (.int w), some (.ref k), a', b']) ∧ ∃ i, xs = pairsD i (sd (S.drop i)))
    (fun xs ev M1 h => cellIs_at (h.1.get hk) (plain_sd S))
    (fun x xs ev M1 ⟨h1, ⟨a', b', h2⟩, i, h3⟩ => by
      subst h2
      cases e : S.drop i with
      | nil => rw [e] at h3; cases h3
      | cons s r =>
        rw [e] at h3
        have h3' : x :: xs = .tup [.int i, s.d] :: pairsD (i + 1) (sd r) := h3
        rw [List.cons.injEq] at h3'
        obtain ⟨rfl, rfl⟩ := h3'
        have hs : S[i]? = some s := by rw [← List.head?_drop, e]; rfl
        obtain ⟨M2, e2, x2⟩ := step_ok (M := M1) (hS.2 i s hs)
        have xs' : s.d.isExc = false := by cases s <;> rfl
        refine ⟨_, _, M2, rfl, .inl (by simp only [sIf, tNotD, dTru, dCal, dCons, dNil, dVar, List.set_cons_succ, List.set_cons_zero, List.getElem?_cons_succ, List.getElem?_cons_zero, bnd, bndO, xI, xR, xs', e2, truB, ofBS, sSkip, Bool.false_eq_true, if_false, Bool.not_true]; rfl), h1.trans x2, ⟨_, _, rfl⟩, i + 1, ?_⟩
        rw [show S.drop (i + 1) = r by rw [← List.drop_drop, e]; rfl])
    (pairsD 0 (sd S)) _ M ⟨.refl, ⟨a, b, rfl⟩, 0, rfl⟩
  exact ⟨ev', M', e, h1, h2⟩
end K32

set_option Elab.async false
set_option linter.all false
set_option maxRecDepth 100000
set_option maxHeartbeats 2000000
namespace K32
open PySem L2 MI
/-- a tape stands at n -/
def TapeAt (w : Int) (S : List Stp) (n : Nat) (M : Mem) : Prop := ∃ k, M[n]? = some (.ins cT [(fSz, .int w), (fSt, .ref k)]) ∧ M[k]? = some (.lst (sd S))
theorem put1 {x : D} : putD fSz x [] = [(fSz, x)] := rfl
theorem put2 {x y : D} : putD fSt y [(fSz, x)] = [(fSz, x), (fSt, y)] := by
  have : ¬ fSz = fSt := by decide +kernel
  simp [putD, this]
theorem init_ok {w : Int} {S : List Stp} (hS : Good w S) (hw : 1 ≤ w ∧ w ≤ 200) {n k : Nat} {M : Mem} (hn : M[n]? = some (.ins cT [])) (hk : M[k]? = some (.lst (sd S))) :
    ∃ M', f_Tape___init__ [.ref n, .int w, .ref k] M = .ok .non M' ∧ TapeAt w S n M' ∧ Keep n M M' := by
  obtain ⟨ev', M1, e1, x1, a', b', rfl⟩ := loop_ok hS (n := n) hk none none
  have hn1 := x1.get hn
  have hk1 := x1.get hk
  have e2 : nSetF [cT] fSz (.ref n) (.int w) M1 = some (M1.set n (Cell.ins cT [(fSz, .int w)])) := by
    simp [nSetF, hn1, put1]
  have l1 : n < M1.length := lt_of_get hn1
  have nk : n ≠ k := fun z => by subst z; rw [hn] at hk; cases hk
  have hk2 : (M1.set n (Cell.ins cT [(fSz, .int w)]))[k]? = some (.lst (sd S)) := by rw [List.getElem?_set_ne nk]; exact hk1
  have hn2 : (M1.set n (Cell.ins cT [(fSz, .int w)]) ++ [Cell.lst (sd S)])[n]? = some (.ins cT [(fSz, .int w)]) := by
    rw [List.getElem?_append_left (by simpa using l1), List.getElem?_set_self l1]
  have e3 : nSetF [cT] fSt (.ref n) (.ref M1.length) (M1.set n (Cell.ins cT [(fSz, .int w)]) ++ [Cell.lst (sd S)]) = some ((M1.set n (Cell.ins cT [(fSz, .int w)]) ++ [Cell.lst (sd S)]).set n (Cell.ins cT [(fSz, .int w), (fSt, .ref M1.length)])) := by
    simp only [nSetF, hn2, put2]; rfl
  refine ⟨(M1.set n (Cell.ins cT [(fSz, .int w)]) ++ [Cell.lst (sd S)]).set n (Cell.ins cT [(fSz, .int w), (fSt, .ref M1.length)]), ?_, ⟨M1.length, ?_, ?_⟩, ?_⟩
  · have lk : getL (M1.set n (Cell.ins cT [(fSz, .int w)])) k = some (sd S) := getL_at hk2
    simp only [f_Tape___init__, runB, d_Tape___init__, sSeq, sDrop, sFor, itEnumA, dCal, dCons, dNil, dVar, dC, k_MOST_LETTERS, List.map_cons, List.map_nil, List.length_cons, List.length_nil, List.replicate, List.append_eq, List.cons_append, List.nil_append, List.getElem?_cons_zero, List.getElem?_cons_succ, xI, xR, Bool.false_eq_true, if_false,
      bnd, bndO, onx, size_ok hw, getL_at hk, e1, sSetF, e2, dOpN, nList, one, seqOf, lk, ofS, List.length_set, e3, retN]
  · rw [List.getElem?_set_self (by simp; omega)]
  · rw [List.getElem?_set_ne (by omega), show M1.length = (M1.set n (Cell.ins cT [(fSz, .int w)])).length by simp]; exact get_push
  · obtain ⟨cs, rfl⟩ := x1
    refine ⟨by simp; omega, fun j hj hne => ?_⟩
    rw [List.getElem?_set_ne (Ne.symm hne), List.getElem?_append_left (by simp; omega), List.getElem?_set_ne (Ne.symm hne), List.getElem?_append_left hj]
end K32

set_option Elab.async false
set_option linter.all false
set_option maxRecDepth 100000
set_option maxHeartbeats 2000000
namespace K32
open PySem L2 MI
abbrev nI (xs : List Nat) : List Int := xs.map Int.ofNat
theorem named_ok {M : Mem} (s : Stp) : f__law_named [s.d] M = .ok (.ref M.length) (M ++ [.lst (iL (nI s.named))]) := by
  cases s <;> simp [f__law_named, runB, d__law_named, Stp.d, Stp.named, sSeq, sIf, sRet, sSkip, tOrD, dTru, dVar, dC, dOp2, opB, dLst, dCons, dNil, D.isExc, bnd, bndO, onx, ort, ofS, ofBS, retR, truB, opIx, atI_0, at1, at2, eqs, of_decide_eq_false n4, of_decide_eq_false n9, of_decide_eq_false n10, of_decide_eq_false n11, of_decide_eq_false n12, of_decide_eq_false n13, of_decide_eq_false n14, of_decide_eq_false n15, of_decide_eq_false n16, iL, lim9]
theorem cells_ok {M : Mem} (s : Stp) : f_step_cells [s.d] M = .ok (.tup (iL (nI s.named))) M := by
  cases s <;> simp [f_step_cells, runB, d_step_cells, Stp.d, Stp.named, sSeq, sIf, sRet, sSkip, tOrD, dTru, dVar, dC, dOp2, opB, dTup, dCons, dNil, D.isExc, bnd, bndO, onx, ort, ofS, ofBS, retR, truB, opIx, atI_0, at1, at2, eqs, of_decide_eq_false n4, of_decide_eq_false n9, of_decide_eq_false n10, of_decide_eq_false n11, of_decide_eq_false n12, of_decide_eq_false n13, of_decide_eq_false n14, of_decide_eq_false n15, of_decide_eq_false n16, iL, lim9]
end K32

set_option Elab.async false
set_option linter.all false
set_option maxRecDepth 100000
set_option maxHeartbeats 2000000
namespace K32
open PySem L2 MI
/-- what a cell needs -/
inductive Reach (S : List Stp) : Nat → Nat → Prop where
  | refl (i : Nat) : Reach S i i
  | step {i c j : Nat} {s : Stp} (h : S[i]? = some s) (hc : c ∈ s.named) (r : Reach S c j) : Reach S i j
theorem Reach.trans {S : List Stp} {i j k : Nat} (a : Reach S i j) (b : Reach S j k) : Reach S i k := by
  induction a with
  | refl => exact b
  | step h hc _ ih => exact .step h hc (ih b)
/-- a closed set holds all that its cells need -/
theorem Reach.closed {S : List Stp} {P : Nat → Prop} (hP : ∀ i s, S[i]? = some s → P i → ∀ c ∈ s.named, P c) {i j : Nat} (r : Reach S i j) (h : P i) : P j := by
  induction r with
  | refl => exact h
  | step e hc _ ih => exact ih (hP _ _ e h _ hc)
end K32

set_option Elab.async false
set_option linter.all false
set_option maxRecDepth 100000
set_option maxHeartbeats 2000000
namespace K32
open PySem L2 MI
theorem band_nat (a b : Nat) : Builtin.bitAnd (a : Int) (b : Int) = ((a &&& b : Nat) : Int) := by
  simp [Builtin.bitAnd]
theorem bnn (a : Int) : Builtin.bitNot (Builtin.bitNot a) = a := by unfold Builtin.bitNot; omega
theorem bneg (a : Nat) : decide (0 ≤ Builtin.bitNot (a : Int)) = false := by
  apply decide_eq_false
  unfold Builtin.bitNot
  omega
theorem bor_nat (a b : Nat) : Builtin.bitOr (a : Int) (b : Int) = ((a ||| b : Nat) : Int) := by
  unfold Builtin.bitOr Builtin.bitAnd
  rw [bneg, bneg]
  simp only [bnn]
  simp
end K32

set_option Elab.async false
set_option linter.all false
set_option maxRecDepth 100000
set_option maxHeartbeats 2000000
namespace K32
open PySem L2 MI
theorem nI_get (ms : List Nat) (c : Nat) (h : c < ms.length) : atI (iL (nI ms)) (c : Int) = some (.int ((ms.getD c 0 : Nat) : Int)) := by
  refine atI_nat ?_
  simp [iL, nI, h]
def orAll (ms : List Nat) (l : List Nat) (a : Nat) : Nat := l.foldl (fun a c => a ||| ms.getD c 0) a
theorem orAll_bit (ms : List Nat) : ∀ (l : List Nat) (a j : Nat), (orAll ms l a).testBit j = true ↔ a.testBit j = true ∨ ∃ c ∈ l, (ms.getD c 0).testBit j = true
  | [], a, j => by simp [orAll]
  | c :: l, a, j => by
    show (orAll ms l (a ||| ms.getD c 0)).testBit j = true ↔ _
    rw [orAll_bit ms l, Nat.testBit_or, Bool.or_eq_true, or_assoc]
    simp only [List.mem_cons, exists_eq_or_imp]
theorem or_loop {ms l : List Nat} {q m v : Nat} (iv ia : Nat) {M : Mem} {body : DenS} {chk : Mem → Bool} (hchk : chk M = true) {P : MI.Env → Nat → Prop}
    (hb : ∀ ev a c, P ev a → c < ms.length → ∃ ev', body (ev.set iv (some (.int (c : Int)))) M = .nx ev' M ∧ P ev' (a ||| ms.getD c 0)) (hl : ∀ c ∈ l, c < ms.length) :
    ∀ ev a, P ev a → ∃ ev', forL (gN iv) body chk (iL (nI l)) ev M = .nx ev' M ∧ P ev' (orAll ms l a) := by
  induction l with
  | nil => intro ev a h; exact ⟨ev, by simp [forL, hchk, iL, nI], h⟩
  | cons c l ih =>
    intro ev a h
    obtain ⟨e1, h1, h2⟩ := hb ev a c h (hl c List.mem_cons_self)
    obtain ⟨e2, h3, h4⟩ := ih (fun c hc => hl c (List.mem_cons_of_mem _ hc)) e1 _ h2
    refine ⟨e2, ?_, h4⟩
    have : iL (nI (c :: l)) = .int (c : Int) :: iL (nI l) := rfl
    rw [this]
    simp only [forL, hchk, if_true, gN, h1, h3]
end K32

set_option Elab.async false
set_option linter.all false
set_option maxRecDepth 100000
set_option maxHeartbeats 2000000
namespace K32
open PySem L2 MI
/-- the masks of a tape -/
def masksOf (S : List Stp) : Nat → List Nat
  | 0 => []
  | i + 1 => masksOf S i ++ [orAll (masksOf S i) ((S.getD i .one).named) (2 ^ i)]
theorem masks_len (S : List Stp) : ∀ i, (masksOf S i).length = i
  | 0 => rfl
  | i + 1 => by simp [masksOf, masks_len S i]
theorem masks_get (S : List Stp) {i j : Nat} (h : j < i) : (masksOf S i).getD j 0 = orAll (masksOf S j) ((S.getD j .one).named) (2 ^ j) := by
  induction i with
  | zero => omega
  | succ i ih =>
    by_cases e : j < i
    · rw [← ih e]
      simp [masksOf, List.getD_eq_getElem?_getD, List.getElem?_append_left (show j < (masksOf S i).length by rw [masks_len]; exact e)]
    · obtain rfl : j = i := by omega
      simp [masksOf, List.getD_eq_getElem?_getD, masks_len]
theorem masks_bit {w : Int} {S : List Stp} (hS : Good w S) : ∀ (i n : Nat), i < n → i < S.length → ∀ j, ((masksOf S n).getD i 0).testBit j = true ↔ Reach S i j := by
  intro i
  induction i using Nat.strongRecOn with
  | ind i ih =>
    intro n hn hi j
    have hs : S[i]? = some S[i] := List.getElem?_eq_getElem hi
    have hd : S.getD i .one = S[i] := by simp [List.getD_eq_getElem?_getD, hs]
    have hlt := Stp.named_lt (hS.2 i _ hs)
    rw [masks_get S hn, hd, orAll_bit, Nat.testBit_two_pow]
    constructor
    · rintro (h | ⟨c, hc, h⟩)
      · rw [of_decide_eq_true h]; exact .refl _
      · exact .step hs hc ((ih c (hlt c hc) i (hlt c hc) (Nat.lt_trans (hlt c hc) hi) j).mp h)
    · intro r
      cases r with
      | refl => exact .inl (by simp)
      | step h hc r =>
        rw [hs] at h
        cases h
        exact .inr ⟨_, hc, (ih _ (hlt _ hc) i (hlt _ hc) (Nat.lt_trans (hlt _ hc) hi) j).mpr r⟩
end K32

set_option Elab.async false
set_option linter.all false
set_option maxRecDepth 100000
set_option maxHeartbeats 2000000
namespace K32
open PySem L2 MI
theorem named_wp {M : Mem} {P : D → Mem → Prop} {X : XP} (s : Stp) : wE (f__law_named [s.d] M) P X = P (.ref M.length) (M ++ [.lst (iL (nI s.named))]) := by rw [named_ok, w_ok]
theorem cells_wp {M : Mem} {P : D → Mem → Prop} {X : XP} (s : Stp) : wE (f_step_cells [s.d] M) P X = P (.tup (iL (nI s.named))) M := by rw [cells_ok, w_ok]
theorem sd_at {S : List Stp} {i : Nat} (h : i < S.length) : atI (sd S) (i : Int) = some S[i].d := atI_nat (by simp [sd, h])
theorem nI_len {l : List Nat} : (iL (nI l)).length = l.length := by simp [iL, nI]
theorem masks_wp {M : Mem} {k : Nat} {S : List Stp} {w : Int} {P : D → Mem → Prop} {X : XP} (hk : M[k]? = some (.lst (sd S))) (hS : Good w S)
    (K : ∀ M' m, Ext M M' → M.length ≤ m → M'[m]? = some (.lst (iL (nI (masksOf S S.length)))) → P (.ref m) M') : wE (f__law_masks [.ref k] M) P X := by
  have hb : big (S.length : Int) = true := big_of ⟨by omega, by have := hS.1; omega⟩
  have hk1 : k < M.length := lt_of_get hk
  simp [f__law_masks, d__law_masks, List.getElem?_append_left hk1, hk, hb]
  refine q_forR (fun i ev M1 => Ext M M1 ∧ M1[M.length]? = some (.lst (iL (nI (masksOf S i)))) ∧ ∃ a b c, ev = [some (.ref k), some (.ref M.length), a, b, c]) ⟨.push, by simp [masksOf], _, _, _, rfl⟩ ?_ ?_
  · rintro i ev M1 hi ⟨x1, g1, a, b, c, rfl⟩
    have hk2 := x1.get hk
    have hs := hS.2 i _ (List.getElem?_eq_getElem hi)
    have hlt := Stp.named_lt hs
    have hi6 : (i : Int) ≤ 1000000 := by have := hS.1; omega
    have l1 : M.length < M1.length := lt_of_get g1
    simp [hi6, hk2, sd_at hi, named_wp]
    have e0 : (2 : Int) ^ i = ((2 ^ i : Nat) : Int) := by simp
    rw [e0]
    refine wS.mono (p := { nx := fun ev M2 => M2 = M1 ++ [.lst (iL (nI S[i].named))] ∧ ∃ c, ev = [some (.ref k), some (.ref M.length), some (.int i), some (.int ((orAll (masksOf S i) S[i].named (2 ^ i) : Nat) : Int)), c] }) ?_ ?_ (fun _ _ h => h.elim) (fun _ _ h => h.elim) (fun _ _ h => h.elim) (fun _ _ _ _ h => h.elim)
    · obtain ⟨ev', e, c', rfl⟩ := or_loop (q := 0) (m := 0) (v := 0) (ms := masksOf S i) (l := S[i].named) 4 3 (M := M1 ++ [.lst (iL (nI S[i].named))]) (body := sSet 3 (dOp2 opOr (dVar 3) (dOp2 opIx (dVar 1) (dVar 4)))) (chk := cellIs M1.length (iL (nI S[i].named))) (cellIs_at get_push (plainL_iL _))
        (P := fun ev a => ∃ c, ev = [some (.ref k), some (.ref M.length), some (.int i), some (.int (a : Int)), c])
        (fun ev a c ⟨c', e⟩ hc => by
          subst e
          refine ⟨_, ?_, some (.int (c : Int)), rfl⟩
          have := nI_get (masksOf S i) c hc
          have h2 : (M1 ++ [Cell.lst (iL (nI S[i].named))])[M.length]? = some (.lst (iL (nI (masksOf S i)))) := get_old g1
          simp [sSet, dOp2, dVar, bnd, bndO, D.isExc, opIx, h2, this, ofS, bor_nat])
        (fun c hc => by rw [masks_len]; exact hlt c hc) [some (.ref k), some (.ref M.length), some (.int i), some (.int ((2 ^ i : Nat) : Int)), c] (2 ^ i) ⟨c, rfl⟩
      rw [e, wS_nx]
      exact ⟨rfl, c', rfl⟩
    · rintro ev M2 ⟨rfl, c', rfl⟩
      have h2 : (M1 ++ [Cell.lst (iL (nI S[i].named))])[M.length]? = some (.lst (iL (nI (masksOf S i)))) := get_old g1
      have hl : (masksOf S i).length < lim := by rw [masks_len, lim9]; have := hS.1; omega
      simp [h2, nI_len, hl]
      refine ⟨Ext.of_get fun j hj => ?_, ?_⟩
      · rw [List.getElem?_set_ne (by omega), List.getElem?_append_left (by omega)]; exact (x1.get (List.getElem?_eq_getElem hj)).trans (List.getElem?_eq_getElem hj).symm
      · rw [List.getElem?_set_self (by simp; omega)]
        simp [masksOf, iL, List.getD_eq_getElem?_getD, List.getElem?_eq_getElem hi]
  · rintro ev M1 ⟨x1, g1, a, b, c, rfl⟩
    simp
    exact K _ _ x1 (Nat.le_refl _) g1
end K32

set_option Elab.async false
set_option linter.all false
set_option maxRecDepth 100000
set_option maxHeartbeats 2000000
namespace K32
open PySem L2 MI
theorem range_nI : ∀ (n lo : Nat), rangeD (lo : Int) n = iL (nI (List.range' lo n))
  | 0, _ => rfl
  | n + 1, lo => by
    rw [List.range'_succ]
    show D.int lo :: rangeD ((lo : Int) + 1) n = D.int (lo : Int) :: iL (nI (List.range' (lo + 1) n))
    rw [← range_nI n (lo + 1)]; rfl
theorem range_0 (n : Nat) : rangeD 0 n = iL (nI (List.range n)) := by rw [List.range_eq_range']; exact range_nI n 0
/-- the numbers of a kind -/
def keepD (f : Nat → Bool) : D → Option D
  | .int j => if f j.toNat then some (.int j) else none
  | _ => none
theorem keep_fm (f : Nat → Bool) : ∀ l : List Nat, (iL (nI l)).filterMap (keepD f) = iL (nI (l.filter f))
  | [] => rfl
  | j :: l => by
    have e : iL (nI (j :: l)) = .int (j : Int) :: iL (nI l) := rfl
    rw [e, List.filterMap_cons, List.filter_cons]
    have e2 : keepD f (.int (j : Int)) = if f j then some (.int (j : Int)) else none := by simp [keepD]
    rw [e2]
    have ih := keep_fm f l
    cases h : f j
    · simpa using ih
    · simp [ih]; rfl
theorem mem_nI {l : List Nat} {x : D} (h : x ∈ iL (nI l)) : ∃ j ∈ l, x = .int (j : Int) := by
  obtain ⟨i, hi, rfl⟩ := List.mem_map.mp h
  obtain ⟨j, hj, rfl⟩ := List.mem_map.mp hi
  exact ⟨j, hj, rfl⟩
theorem bit_one (W j : Nat) : decide (Builtin.bitAnd ((W : Int) / 2 ^ j) 1 = 1) = W.testBit j := by
  have e : ((W : Int) / 2 ^ j) = ((W / 2 ^ j : Nat) : Int) := by simp
  have e1 : (1 : Int) = ((1 : Nat) : Int) := rfl
  rw [e, e1, band_nat, Nat.testBit_eq_decide_div_mod_eq, Nat.and_one_is_mod]
  simp only [Int.ofNat_inj]
def needsOf (S : List Stp) (l : List Nat) : List Nat := (List.range S.length).filter fun j => (orAll (masksOf S S.length) l 0).testBit j
def joinsOf (S : List Stp) (l : List Nat) : Nat := ((needsOf S l).filter fun j => (S.getD j .one).isJ).length
theorem isJ_d (s : Stp) (M : Mem) : ∃ h r, s.d = .tup (h :: r) ∧ eqB h (.str sJoin) M = some s.isJ := by
  cases s with
  | place w => exact ⟨_, _, rfl, by rw [eqs, n11]; rfl⟩
  | one => exact ⟨_, _, rfl, by rw [eqs, n14]; rfl⟩
  | turn c => exact ⟨_, _, rfl, by rw [eqs, n4]; rfl⟩
  | join a b => exact ⟨_, _, rfl, by rw [eqs]; simp [Stp.isJ]⟩
  | act c xs => exact ⟨_, _, rfl, by rw [eqs, n9]; rfl⟩
theorem needs_lt {S : List Stp} {l : List Nat} : ∀ j ∈ needsOf S l, j < S.length := fun j hj => List.mem_range.mp (List.mem_filter.mp hj).1
theorem due_wp {M : Mem} {k m c : Nat} {S : List Stp} {w : Int} {l : List Nat} {P : D → Mem → Prop} {X : XP} (hk : M[k]? = some (.lst (sd S))) (hS : Good w S)
    (hm : M[m]? = some (.lst (iL (nI (masksOf S S.length))))) (hc : M[c]? = some (.lst (iL (nI l)))) (hl : ∀ j ∈ l, j < S.length)
    (K : ∀ M' r n, Ext M M' → M'[n]? = some (.lst (iL (nI (needsOf S l)))) → M'[r]? = some (.lst [.ref n, .int (joinsOf S l : Nat)]) → P (.ref r) M') : wE (f__law_due [.ref k, .ref m, .ref c] M) P X := by
  have h1000 := hS.1
  have hb : big (S.length : Int) = true := big_of ⟨by omega, by omega⟩
  simp [f__law_due, d__law_due, hc]
  refine wS.mono (p := { nx := fun ev M2 => M2 = M ∧ ∃ c', ev = [some (.ref k), some (.ref m), some (.ref c), some (.int ((orAll (masksOf S S.length) l 0 : Nat) : Int)), c', none, none] }) ?_ ?_ (fun _ _ h => h.elim) (fun _ _ h => h.elim) (fun _ _ h => h.elim) (fun _ _ _ _ h => h.elim)
  · obtain ⟨ev', e, c', rfl⟩ := or_loop (q := 0) (m := 0) (v := 0) (ms := masksOf S S.length) (l := l) 4 3 (M := M) (body := sSet 3 (dOp2 opOr (dVar 3) (dOp2 opIx (dVar 1) (dVar 4)))) (chk := cellIs c (iL (nI l))) (cellIs_at hc (plainL_iL _))
        (P := fun ev a => ∃ c', ev = [some (.ref k), some (.ref m), some (.ref c), some (.int (a : Int)), c', none, none])
        (fun ev a c1 ⟨c', e⟩ hc1 => by
          subst e
          refine ⟨_, ?_, some (.int (c1 : Int)), rfl⟩
          have := nI_get (masksOf S S.length) c1 hc1
          simp [sSet, dOp2, dVar, bnd, bndO, D.isExc, opIx, hm, this, ofS, bor_nat])
        (fun c hc => by rw [masks_len]; exact hl c hc) [some (.ref k), some (.ref m), some (.ref c), some (.int ((0 : Nat) : Int)), none, none, none] 0 ⟨none, rfl⟩
    rw [show (some (D.int 0)) = (some (.int ((0 : Nat) : Int))) from rfl, e, wS_nx]
    exact ⟨rfl, c', rfl⟩
  · rintro ev M2 ⟨rfl, c', rfl⟩
    simp [hk, hb]
    refine c_pure (F := keepD fun j => (orAll (masksOf S S.length) l 0).testBit j) rfl (fun _ => rfl) ?_ (by simp [lim9]; omega) ?_
    · intro x hx c1
      rw [range_0] at hx
      obtain ⟨j, hj, rfl⟩ := mem_nI hx
      have hb1 := bit_one (orAll (masksOf S S.length) l 0) j
      cases hbit : (orAll (masksOf S S.length) l 0).testBit j
      · rw [hbit] at hb1
        have hb2 := of_decide_eq_false hb1
        simp [keepD, hbit, hb2]
      · rw [hbit] at hb1
        have hb2 := of_decide_eq_true hb1
        simp [keepD, hbit, hb2]
    · rw [range_0, keep_fm]
      have eN : (List.range S.length).filter (fun j => (orAll (masksOf S S.length) l 0).testBit j) = needsOf S l := rfl
      rw [eN]
      have hn : (M2 ++ [Cell.lst (iL (nI (needsOf S l)))])[M2.length]? = some (.lst (iL (nI (needsOf S l)))) := get_push
      have hk1 : k < M2.length := lt_of_get hk
      simp [hn]
      rw [show M2 ++ [Cell.lst (iL (nI (needsOf S l))), Cell.lst []] = (M2 ++ [Cell.lst (iL (nI (needsOf S l)))]) ++ [Cell.lst []] by simp]
      refine c_pure (M := M2 ++ [Cell.lst (iL (nI (needsOf S l)))]) (F := keepD fun j => (S.getD j .one).isJ) ?_ (fun _ => cellIs_at (get_old hn) (plainL_iL _)) ?_ ?_ ?_
      · simp
      · intro x hx c1
        obtain ⟨j, hj, rfl⟩ := mem_nI hx
        have hj' := needs_lt j hj
        have hk2 : (M2 ++ [Cell.lst (iL (nI (needsOf S l)))] ++ [c1])[k]? = some (.lst (sd S)) := get_old (get_old hk)
        obtain ⟨h, r, ed, eb⟩ := isJ_d S[j] (M2 ++ [Cell.lst (iL (nI (needsOf S l)))] ++ [c1])
        have hg : S.getD j .one = S[j] := by simp [List.getD_eq_getElem?_getD, List.getElem?_eq_getElem hj']
        simp only [List.append_assoc, List.cons_append, List.nil_append] at hk2 eb
        cases hbit : S[j].isJ <;> simp [keepD, List.getElem?_eq_getElem hj', hk2, sd_at hj', ed, eb, hbit]
      · rw [nI_len, lim9]; have : (needsOf S l).length ≤ (List.range S.length).length := List.length_filter_le _ _
        simp at this; omega
      · rw [keep_fm]
        have e3 : (iL (nI ((needsOf S l).filter fun j => (S.getD j .one).isJ))).length = joinsOf S l := nI_len
        have h2 : 2 ≤ lim := by rw [lim9]; decide
        have hr := get_push (M := M2 ++ [Cell.lst (iL (nI (needsOf S l)))]) (c := Cell.lst (iL (nI ((needsOf S l).filter fun j => (S.getD j .one).isJ))))
        simp only [w_nil, f_len_r, hr, cSeq_l, wA_some, e3, List.length_nil, Nat.zero_add]
        refine ⟨h2, K _ _ M2.length ?_ (get_old (get_old hn)) get_push⟩
        exact (Ext.push.trans .push).trans .push
end K32

set_option Elab.async false
set_option linter.all false
set_option maxRecDepth 100000
set_option maxHeartbeats 2000000
namespace K32
open PySem L2 MI
@[simp] theorem lkSt {a b : D} : List.lookup (Str.ofString "_steps") [(fSz, a), (fSt, b)] = some b := by
  have : (Str.ofString "_steps" == fSz) = false := by decide +kernel
  have e : (Str.ofString "_steps" == fSt) = true := by decide +kernel
  simp only [List.lookup, this, e]
@[simp] theorem lkM {a b : D} : noName (Str.ofString "_check_cell") [(fSz, a), (fSt, b)] := by
  have : (Str.ofString "_check_cell" == fSz) = false := by decide +kernel
  have e : (Str.ofString "_check_cell" == fSt) = false := by decide +kernel
  simp only [noName, List.lookup, this, e, Option.isSome_none]
@[simp] theorem lkN {a b : D} : noName (Str.ofString "needed") [(fSz, a), (fSt, b)] := by
  have : (Str.ofString "needed" == fSz) = false := by decide +kernel
  have e : (Str.ofString "needed" == fSt) = false := by decide +kernel
  simp only [noName, List.lookup, this, e, Option.isSome_none]
@[simp] theorem lkJ {a b : D} : noName (Str.ofString "joins") [(fSz, a), (fSt, b)] := by
  have : (Str.ofString "joins" == fSz) = false := by decide +kernel
  have e : (Str.ofString "joins" == fSt) = false := by decide +kernel
  simp only [noName, List.lookup, this, e, Option.isSome_none]
@[simp] theorem lkS {a b : D} : noName (Str.ofString "steps") [(fSz, a), (fSt, b)] := by
  have : (Str.ofString "steps" == fSz) = false := by decide +kernel
  have e : (Str.ofString "steps" == fSt) = false := by decide +kernel
  simp only [noName, List.lookup, this, e, Option.isSome_none]
theorem below_wp {x b : Int} {M : Mem} {P : D → Mem → Prop} {X : XP} : wE (f__is_below [.int x, .int b] M) P X = P (.bl (decide (0 ≤ x) && decide (x < b))) M := by rw [below_ok, w_ok]
abbrev nNC : Str := Str.ofString "NoCell"
abbrev nCe : Str := Str.ofString "cell"
theorem check_wp {w : Int} {S : List Stp} {t : Nat} {z : Int} {M : Mem} {P : D → Mem → Prop} {X : XP} (ht : TapeAt w S t M) (h1 : 0 ≤ z ∧ z < S.length → P .non M) (h2 : ¬ (0 ≤ z ∧ z < S.length) → X nNC [(nCe, .int z)] M) : wE (f_Tape__check_cell [.ref t, .int z] M) P X := by
  obtain ⟨k, ht, hk⟩ := ht
  simp [f_Tape__check_cell, d_Tape__check_cell, ht, hk, below_wp, mkF]
  by_cases h : 0 ≤ z ∧ z < S.length
  · rw [if_neg (by omega)]; exact h1 h
  · rw [if_pos (by omega)]; exact h2 h
/-- marks -/
abbrev mks (n : Nat) (f : Nat → Bool) : List D := (List.range n).map fun j => .bl (f j)
theorem mks_set {n c : Nat} {f : Nat → Bool} : (mks n f).set c (.bl true) = mks n fun j => j == c || f j := by
  refine List.ext_getElem (by simp) fun i h1 h2 => ?_
  simp only [List.length_set, List.length_map, List.length_range] at h1
  rw [List.getElem_set]
  by_cases e : c = i
  · subst e; simp
  · have : (i == c) = false := by simpa using Ne.symm e
    simp [e, this]
theorem mks_f (n : Nat) : List.replicate n (D.bl false) = mks n fun _ => false := by
  refine List.ext_getElem (by simp) fun i h1 h2 => by simp
theorem set2 {M : Mem} {a b c : Cell} : (M ++ [a, b]).set (M.length + 1) c = M ++ [a, c] := by
  rw [List.set_append_right _ _ (by omega)]; simp
theorem get2 {M : Mem} {a b : Cell} : (M ++ [a, b])[M.length + 1]? = some b := by
  rw [List.getElem?_append_right (by omega)]; simp
theorem flat_rep (n : Nat) : (List.replicate n [D.bl false]).flatten = List.replicate n (D.bl false) := by
  induction n with
  | zero => rfl
  | succ n ih => rw [List.replicate_succ, List.flatten_cons, ih]; rfl
theorem reach_bit {w : Int} {S : List Stp} (hS : Good w S) {l : List Nat} (hl : ∀ j ∈ l, j < S.length) (j : Nat) : (orAll (masksOf S S.length) l 0).testBit j = true ↔ ∃ c ∈ l, Reach S c j := by
  rw [orAll_bit]
  simp only [Nat.zero_testBit, Bool.false_eq_true, false_or]
  exact ⟨fun ⟨c, hc, h⟩ => ⟨c, hc, (masks_bit hS c _ (hl c hc) (hl c hc) j).mp h⟩, fun ⟨c, hc, h⟩ => ⟨c, hc, (masks_bit hS c _ (hl c hc) (hl c hc) j).mpr h⟩⟩
theorem mem_take1 {l : List Nat} {i j : Nat} (h : i < l.length) : j ∈ l.take (i + 1) ↔ j = l[i] ∨ j ∈ l.take i := by
  rw [List.take_succ, List.getElem?_eq_getElem h]
  simp only [Option.toList_some, List.mem_append, List.mem_singleton]
  exact Or.comm
theorem needed_wp {M : Mem} {t c : Nat} {S : List Stp} {w : Int} {l : List Nat} {P : D → Mem → Prop} {X : XP} (hS : Good w S) (ht : TapeAt w S t M) (hc : M[c]? = some (.lst (iL (nI l)))) (hl : ∀ j ∈ l, j < S.length)
    (K : ∀ M' r, Ext M M' → M.length ≤ r → M'[r]? = some (.lst (iL (nI (needsOf S l)))) → P (.ref r) M') : wE (f_Tape_needed [.ref t, .ref c] M) P X := by
  have h1000 := hS.1
  have hb : big (S.length : Int) = true := big_of ⟨by omega, by omega⟩
  have h24 : (S.length : Int) ≤ 16777216 := by omega
  have ht0 := ht
  obtain ⟨k, ht, hk⟩ := ht
  have t1 : t < M.length := lt_of_get ht
  have k1 : k < M.length := lt_of_get hk
  have c1 : c < M.length := lt_of_get hc
  have hch : ∀ cs, cellIs c (iL (nI l)) (M ++ cs) = true := fun cs => cellIs_at (Ext.get ⟨cs, rfl⟩ hc) (plainL_iL _)
  simp [f_Tape_needed, d_Tape_needed, hc]
  refine q_forI (fun i ev M1 => M = M1 ∧ ∃ a, ev = [some (.ref t), some (.ref c), a, none, none]) ?_ ⟨rfl, _, rfl⟩ ?_ ?_
  · rintro i ev _ ⟨rfl, _⟩; exact cellIs_at hc (plainL_iL _)
  · rintro i ev _ h ⟨rfl, a, rfl⟩
    have h' : i < l.length := by simpa using h
    have hz := hl l[i] (List.getElem_mem h')
    simp [ht]
    refine check_wp ht0 (fun _ => ⟨rfl, _, rfl⟩) (fun hn => absurd ⟨Int.natCast_nonneg _, Int.ofNat_lt.mpr hz⟩ hn)
  · rintro ev _ ⟨rfl, a, rfl⟩
    have hk3 : S.length ≤ lim := by rw [lim9]; omega
    have h63 : (S.length : Int) < 9223372036854775808 := by omega
    have h630 : -(2 ^ 63) ≤ (S.length : Int) := by omega
    simp [List.getElem?_append_left t1, List.getElem?_append_left k1, List.getElem?_append_left c1, ht, hk, hc, flat_rep, mks_f]
    refine ⟨by rw [lim9]; decide, ⟨h63, hk3⟩, ?_⟩
    refine q_forI (fun i ev M1 => M1 = M ++ [.lst [.bl false], .lst (mks S.length fun j => decide (j ∈ l.take i))] ∧ ∃ a, ev = [some (.ref t), some (.ref c), a, some (.ref (M.length + 1)), none]) ?_ ?_ ?_ ?_
    · rintro i ev _ ⟨rfl, _⟩; exact hch _
    · refine ⟨?_, _, rfl⟩
      simp
    · rintro i ev _ h ⟨rfl, a, rfl⟩
      have h' : i < l.length := by simpa using h
      have hz := hl l[i] (List.getElem_mem h')
      simp [get2, ixN_of, hz, mks_set, set2]
      intro j _
      rw [Bool.eq_iff_iff]
      simp only [Bool.or_eq_true, beq_iff_eq, decide_eq_true_eq, mem_take1 h']
    · rintro ev _ ⟨rfl, a, rfl⟩
      simp [get2, hb, h24]
      refine q_forRR (fun i ev M1 => ∃ f : Nat → Bool, M1 = M ++ [.lst [.bl false], .lst (mks S.length f)] ∧ (∃ a b, ev = [some (.ref t), some (.ref c), a, some (.ref (M.length + 1)), b]) ∧ (∀ c ∈ l, f c = true) ∧ (∀ j, f j = true → ∃ c ∈ l, Reach S c j) ∧ ∀ j s, i ≤ j → S[j]? = some s → f j = true → ∀ c ∈ s.named, f c = true) ?_ ?_ ?_
      · exact ⟨_, rfl, ⟨_, _, rfl⟩, fun c hc => by simpa using hc, fun j hj => ⟨j, by simpa using hj, .refl _⟩, fun j s hj hs => by rw [List.getElem?_eq_none hj] at hs; cases hs⟩
      · rintro i ev _ hi ⟨f, rfl, ⟨a, b, rfl⟩, h1, h2, h3⟩
        have eg : atI (mks S.length f) (i : Int) = some (.bl (f i)) := atI_nat (by simp [hi])
        simp [get2, eg]
        by_cases hf : f i = true
        · simp [hf, List.getElem?_append_left t1, List.getElem?_append_left k1, ht, hk, sd_at hi, cells_wp]
          refine q_forI (fun q ev M1 => M1 = M ++ [.lst [.bl false], .lst (mks S.length fun j => decide (j ∈ S[i].named.take q) || f j)] ∧ ∃ a, ev = [some (.ref t), some (.ref c), a, some (.ref (M.length + 1)), some (.int i)]) (fun _ _ _ _ => rfl) ?_ ?_ ?_
          · exact ⟨by simp, _, rfl⟩
          · rintro q ev _ h ⟨rfl, a, rfl⟩
            have h' : q < S[i].named.length := by simpa using h
            have hz : S[i].named[q] < S.length := Nat.lt_trans (Stp.named_lt (hS.2 i _ (List.getElem?_eq_getElem hi)) _ (List.getElem_mem h')) hi
            simp [get2, ixN_of, hz, mks_set, set2]
            intro j _
            rw [Bool.eq_iff_iff]
            simp only [Bool.or_eq_true, beq_iff_eq, decide_eq_true_eq, mem_take1 h', or_assoc]
          · rintro ev _ ⟨rfl, a, rfl⟩
            refine ⟨_, rfl, ⟨_, _, rfl⟩, fun c hc => by simp [h1 c hc], fun j hj => ?_, fun j s hj hs hj2 c hc => ?_⟩
            · simp at hj
              rcases hj with hj | hj
              · obtain ⟨c, hc, hr⟩ := h2 i hf
                exact ⟨c, hc, hr.trans (.step (List.getElem?_eq_getElem hi) hj (.refl _))⟩
              · exact h2 j hj
            · simp at hj2 ⊢
              by_cases e : j = i
              · subst e
                rw [List.getElem?_eq_getElem hi] at hs
                cases hs
                exact .inl hc
              · have hlt := Stp.named_lt (hS.2 i _ (List.getElem?_eq_getElem hi))
                rcases hj2 with hj2 | hj2
                · have := hlt j hj2; omega
                · exact .inr (h3 j s (by omega) hs hj2 c hc)
        · rw [if_neg hf]
          refine ⟨f, fun _ _ => rfl, h1, h2, fun j s hj hs hj2 => ?_⟩
          by_cases e : j = i
          · subst e; exact absurd hj2 hf
          · exact h3 j s (by omega) hs hj2
      · rintro ev _ ⟨f, rfl, ⟨a, b, rfl⟩, h1, h2, h3⟩
        have ef : ∀ j, f j = (orAll (masksOf S S.length) l 0).testBit j := fun j => by
          rw [Bool.eq_iff_iff, reach_bit hS hl]
          refine ⟨h2 j, fun ⟨c, hc, hr⟩ => ?_⟩
          exact hr.closed (P := fun j => f j = true) (fun i s hs hi c hc => h3 i s (Nat.zero_le _) hs hi c hc) (h1 c hc)
        have eN : (List.range S.length).filter f = needsOf S l := by
          exact congrArg (fun g => (List.range S.length).filter g) (funext ef)
        simp [get2, hb]
        rw [show M ++ [Cell.lst [D.bl false], Cell.lst (mks S.length f), Cell.lst []] = (M ++ [Cell.lst [D.bl false], Cell.lst (mks S.length f)]) ++ [Cell.lst []] by simp]
        refine c_pure (F := keepD f) (by simp) (fun _ => rfl) ?_ (by simpa using hk3) ?_
        · intro x hx c'
          rw [range_0] at hx
          obtain ⟨j, hj, rfl⟩ := mem_nI hx
          have hj' : j < S.length := by simpa using hj
          have eg : atI (mks S.length f) (j : Int) = some (.bl (f j)) := atI_nat (by simp [hj'])
          have g2 : (M ++ [Cell.lst [D.bl false], Cell.lst (mks S.length f), c'])[M.length + 1]? = some (.lst (mks S.length f)) := by
            rw [List.getElem?_append_right (by omega)]; simp
          cases hf : f j <;> simp [g2, eg, hf, keepD]
        · rw [range_0, keep_fm, eN]
          refine K _ _ ⟨[Cell.lst [D.bl false], Cell.lst (mks S.length f), .lst (iL (nI (needsOf S l)))], by simp⟩ (by simp) ?_
          exact get_push
end K32

set_option Elab.async false
set_option linter.all false
set_option maxRecDepth 100000
set_option maxHeartbeats 2000000
namespace K32
open PySem L2 MI
theorem needed_ex {M : Mem} {t c : Nat} {S : List Stp} {w : Int} {l : List Nat} {z : Int} {r : List Int} {P : D → Mem → Prop} {X : XP} (hS : Good w S) (ht : TapeAt w S t M) (hc : M[c]? = some (.lst (iL (nI l ++ z :: r)))) (hl : ∀ j ∈ l, j < S.length) (hz : ¬ (0 ≤ z ∧ z < S.length))
    (K : X nNC [(nCe, .int z)] M) : wE (f_Tape_needed [.ref t, .ref c] M) P X := by
  have ht0 := ht
  obtain ⟨k, ht, hk⟩ := ht
  simp [f_Tape_needed, d_Tape_needed, hc]
  refine q_forI (fun i ev M1 => M = M1 ∧ (∃ a, ev = [some (.ref t), some (.ref c), a, none, none]) ∧ i ≤ l.length) ?_ ⟨rfl, ⟨_, rfl⟩, Nat.zero_le _⟩ ?_ ?_
  · rintro i ev _ ⟨rfl, _⟩; exact cellIs_at hc (plainL_iL _)
  · rintro i ev _ h ⟨rfl, ⟨a, rfl⟩, hi⟩
    simp [ht]
    by_cases h' : i < l.length
    · have hz := hl l[i] (List.getElem_mem h')
      have e : (nI l ++ z :: r)[i]'(by simpa using h) = (l[i] : Int) := by
        rw [List.getElem_append_left (by simpa using h')]; simp
      rw [e]
      refine check_wp ht0 (fun _ => ⟨rfl, ⟨_, rfl⟩, h'⟩) (fun hn => absurd ⟨Int.natCast_nonneg _, Int.ofNat_lt.mpr hz⟩ hn)
    · have ei : i = l.length := by omega
      have e : (nI l ++ z :: r)[i]'(by simpa using h) = z := by
        subst ei
        rw [List.getElem_append_right (by simp)]; simp
      rw [e]
      refine check_wp ht0 (fun hn => absurd hn hz) (fun _ => K)
  · rintro ev _ ⟨rfl, ⟨a, rfl⟩, hi⟩
    simp at hi
    omega
theorem joins_wp {M : Mem} {t c : Nat} {S : List Stp} {w : Int} {l : List Nat} {P : D → Mem → Prop} {X : XP} (hS : Good w S) (ht : TapeAt w S t M) (hc : M[c]? = some (.lst (iL (nI l)))) (hl : ∀ j ∈ l, j < S.length)
    (K : ∀ M', Ext M M' → P (.int (joinsOf S l : Nat)) M') : wE (f_Tape_joins [.ref t, .ref c] M) P X := by
  have ht0 := ht
  obtain ⟨k, ht, hk⟩ := ht
  simp [f_Tape_joins, d_Tape_joins, ht]
  refine needed_wp hS ht0 hc hl fun M1 n x1 _ hn => ?_
  simp [hn]
  refine c_pure (F := keepD fun j => (S.getD j .one).isJ) rfl (fun _ => cellIs_at (get_old hn) (plainL_iL _)) ?_ ?_ ?_
  · intro x hx c1
    obtain ⟨j, hj, rfl⟩ := mem_nI hx
    have hj' := needs_lt j hj
    have ht2 := get_old (c := c1) (x1.get ht)
    have hk2 := get_old (c := c1) (x1.get hk)
    obtain ⟨h, r, ed, eb⟩ := isJ_d S[j] (M1 ++ [c1])
    cases hbit : S[j].isJ <;> simp [keepD, List.getElem?_eq_getElem hj', ht2, hk2, sd_at hj', ed, eb, hbit]
  · rw [nI_len, lim9]; have : (needsOf S l).length ≤ (List.range S.length).length := List.length_filter_le _ _
    have := hS.1
    simp at *; omega
  · rw [keep_fm]
    have hr := get_push (M := M1) (c := Cell.lst (iL (nI ((needsOf S l).filter fun j => (S.getD j .one).isJ))))
    have e3 : (iL (nI ((needsOf S l).filter fun j => (S.getD j .one).isJ))).length = joinsOf S l := nI_len
    simp only [w_nil, f_len_r, hr, cSeq_l, wA_some, e3]
    exact K _ (x1.trans .push)
theorem joins_ex {M : Mem} {t c : Nat} {S : List Stp} {w : Int} {l : List Nat} {z : Int} {r : List Int} {P : D → Mem → Prop} {X : XP} (hS : Good w S) (ht : TapeAt w S t M) (hc : M[c]? = some (.lst (iL (nI l ++ z :: r)))) (hl : ∀ j ∈ l, j < S.length) (hz : ¬ (0 ≤ z ∧ z < S.length))
    (K : X nNC [(nCe, .int z)] M) : wE (f_Tape_joins [.ref t, .ref c] M) P X := by
  have ht0 := ht
  obtain ⟨k, ht, hk⟩ := ht
  simp [f_Tape_joins, d_Tape_joins, ht]
  exact needed_ex hS ht0 hc hl hz K
theorem steps_wp {M : Mem} {t : Nat} {S : List Stp} {w : Int} {P : D → Mem → Prop} {X : XP} (ht : TapeAt w S t M) (K : P (.ref M.length) (M ++ [.lst (sd S)])) : wE (f_Tape_steps [.ref t] M) P X := by
  obtain ⟨k, ht, hk⟩ := ht
  simpa [f_Tape_steps, d_Tape_steps, ht, hk] using K
end K32

set_option Elab.async false
set_option linter.all false
set_option maxRecDepth 100000
set_option maxHeartbeats 2000000
namespace K32
open PySem L2 MI
theorem eSame : f__law_same = MI.f__law_same := rfl
theorem eDraw : f__law_draw = MI.f__law_draw := rfl
theorem nat9 {l : List Nat} {S : List Stp} {w : Int} (hS : Good w S) (hl : ∀ j ∈ l, j < S.length) : ∀ x ∈ nI l, x.natAbs < 10 ^ 9 := fun x hx => by
  obtain ⟨j, hj, rfl⟩ := List.mem_map.mp hx
  have := hl j hj
  have := hS.1
  simp; omega
theorem pd_nI {M : Mem} {c : Nat} {l : List Nat} {S : List Stp} {w : Int} (hS : Good w S) (hl : ∀ j ∈ l, j < S.length) (hc : M[c]? = some (.lst (iL (nI l)))) : Pd M 1 (12 * l.length + 3) (.ref c) (.list ((nI l).map .int)) := by
  have := Pd.lst (n := 0) hc (PdL.ints (nat9 hS hl))
  refine this.mono ?_
  simp; omega
theorem TapeAt.ext {w : Int} {S : List Stp} {t : Nat} {M M' : Mem} (h : TapeAt w S t M) (x : Ext M M') : TapeAt w S t M' := by
  obtain ⟨k, h1, h2⟩ := h
  exact ⟨k, x.get h1, x.get h2⟩
theorem needs_len {S : List Stp} {l : List Nat} : (needsOf S l).length ≤ S.length := by
  have : (needsOf S l).length ≤ (List.range S.length).length := List.length_filter_le _ _
  simpa using this
theorem told_wp {M : Mem} {t c : Nat} {S : List Stp} {w : Int} {l : List Nat} {P : D → Mem → Prop} {X : XP} (hS : Good w S) (ht : TapeAt w S t M) (hc : M[c]? = some (.lst (iL (nI l)))) (hl : ∀ j ∈ l, j < S.length) (hln : l.length ≤ 1000)
    (K : ∀ M' r n, Ext M M' → M'[n]? = some (.lst (iL (nI (needsOf S l)))) → M'[r]? = some (.lst [.ref n, .int (joinsOf S l : Nat)]) → P (.ref r) M') : wE (f__law_told [.ref t, .ref c] M) P X := by
  have hlim : 12 * l.length + 3 ≤ lim := by rw [lim9]; omega
  have h2 : 2 ≤ lim := by rw [lim9]; decide
  have hnl := needs_len (S := S) (l := l)
  have h1000 := hS.1
  have ht0 := ht
  obtain ⟨k, ht, hk⟩ := ht
  have c1 : c < M.length := lt_of_get hc
  have x1 : Ext M (M ++ [.lst (iL (nI l))]) := .push
  simp [f__law_told, d__law_told, hc, x1.get ht]
  refine needed_wp hS (ht0.ext x1) get_push hl fun M2 n x2 hfr hn => ?_
  have xg := x1.trans x2
  have hg : M2[M.length]? = some (.lst (iL (nI l))) := x2.get get_push
  have x3 : Ext M (M2 ++ [.lst (iL (nI (needsOf S l)))]) := xg.trans .push
  simp [hn, x3.get ht]
  refine joins_wp hS (ht0.ext x3) (Ext.push.get hg) hl fun M3 x4 => ?_
  have x5 := x3.trans x4
  have hn3 : M3[n]? = some (.lst (iL (nI (needsOf S l)))) := x4.get (Ext.push.get hn)
  have hw3 : M3[M2.length]? = some (.lst (iL (nI (needsOf S l)))) := x4.get get_push
  have hg3 : M3[M.length]? = some (.lst (iL (nI l))) := x4.get (Ext.push.get hg)
  have hc3 := x5.get hc
  have l3 : M2.length < M3.length := lt_of_get hw3
  have ln3 : n < M2.length := lt_of_get hn
  have lnM : M.length < n := by simp at hfr; omega
  simp [h2, tg_lst (get_old hn3), eSame]
  refine same_pd (pd_nI hS hl (get_old hg3)) (pd_nI hS hl (get_old hc3)) (by decide) (by decide) hlim ?_
  have lim1 : (needsOf S l).length < lim := by rw [lim9]; omega
  have lim2 : l.length < lim := by rw [lim9]; omega
  have hn4 := get_old (c := Cell.lst [D.ref M2.length, D.int (joinsOf S l : Nat)]) hn3
  have hg4 := get_old (c := Cell.lst [D.ref M2.length, D.int (joinsOf S l : Nat)]) hg3
  have hw4 := get_old (c := Cell.lst [D.ref M2.length, D.int (joinsOf S l : Nat)]) hw3
  have hr4 := get_push (M := M3) (c := Cell.lst [D.ref M2.length, D.int (joinsOf S l : Nat)])
  have lw4 := lt_of_get hw4
  have ln4 := lt_of_get hn4
  have lM : M.length < M2.length := lt_of_get hg
  have x6 : Ext M (M3 ++ [Cell.lst [D.ref M2.length, D.int (joinsOf S l : Nat)]]) := x5.trans .push
  generalize M3 ++ [Cell.lst [D.ref M2.length, D.int (joinsOf S l : Nat)]] = M4 at hn4 hg4 hw4 hr4 lw4 ln4 x6
  have hg5 : (M4.set n (.lst (iL (nI (needsOf S l)) ++ [.int 0])))[M.length]? = some (.lst (iL (nI l))) := by rw [List.getElem?_set_ne (by omega)]; exact hg4
  have x7 : Ext M ((M4.set n (.lst (iL (nI (needsOf S l)) ++ [.int 0]))).set M.length (.lst (iL (nI l) ++ [.int 0]))) := Ext.of_get fun j hj => by
    rw [List.getElem?_set_ne (by omega), List.getElem?_set_ne (by omega)]
    exact (x6.get (List.getElem?_eq_getElem hj)).trans (List.getElem?_eq_getElem hj).symm
  have hw7 : ((M4.set n (.lst (iL (nI (needsOf S l)) ++ [.int 0]))).set M.length (.lst (iL (nI l) ++ [.int 0])))[M2.length]? = some (.lst (iL (nI (needsOf S l)))) := by
    rw [List.getElem?_set_ne (by omega), List.getElem?_set_ne (by omega)]; exact hw4
  have hr7 : ((M4.set n (.lst (iL (nI (needsOf S l)) ++ [.int 0]))).set M.length (.lst (iL (nI l) ++ [.int 0])))[M3.length]? = some (.lst [D.ref M2.length, D.int (joinsOf S l : Nat)]) := by
    rw [List.getElem?_set_ne (by omega), List.getElem?_set_ne (by omega)]; exact hr4
  have l7 : ((M4.set n (.lst (iL (nI (needsOf S l)) ++ [.int 0]))).set M.length (.lst (iL (nI l) ++ [.int 0]))).length = M4.length := by simp
  generalize hM7 : (M4.set n (.lst (iL (nI (needsOf S l)) ++ [.int 0]))).set M.length (.lst (iL (nI l) ++ [.int 0])) = M7 at x7 hw7 hr7 l7
  simp [hn4, nI_len, lim1, hg5, lim2, hM7, x7.get ht, x7.get hc]
  have gp : (M7 ++ [Cell.lst (iL (nI l))])[M4.length]? = some (.lst (iL (nI l))) := by rw [← l7]; exact get_push
  refine needed_wp hS (ht0.ext (x7.trans .push)) get_push hl fun M8 q x8 _ hq => ?_
  have x9 : Ext M7 M8 := Ext.push.trans x8
  simp [x9.get hr7]
  refine same_pd (pd_nI hS needs_lt hq) (pd_nI hS needs_lt (x9.get hw7)) (by decide) (by decide) (by rw [lim9]; omega) ?_
  simp
  exact K _ _ _ (x7.trans x9) (x9.get hw7) (x9.get hr7)
end K32

set_option Elab.async false
set_option linter.all false
set_option maxRecDepth 100000
set_option maxHeartbeats 2000000
namespace K32
open PySem L2 MI
theorem refused_wp {M : Mem} {t c : Nat} {S : List Stp} {w : Int} {l : List Nat} {z : Int} {r : List Int} {b : Bool} {P : D → Mem → Prop} {X : XP} (hS : Good w S) (ht : TapeAt w S t M) (hc : M[c]? = some (.lst (iL (nI l ++ z :: r)))) (hl : ∀ j ∈ l, j < S.length) (hz : ¬ (0 ≤ z ∧ z < S.length))
    (K : P (.tup [.str nCe, .int z]) M) : wE (f__law_refused [.ref t, .ref c, .bl b] M) P X := by
  have ht0 := ht
  obtain ⟨k, ht, hk⟩ := ht
  have h2 : 2 ≤ lim := by rw [lim9]; decide
  have e0 : cm_NoCell_AskError nNC = some true := rfl
  have e1 : List.lookup nNC [(Str.ofString "NoCell", true)] = some true := rfl
  have e2 : List.lookup nNC [(Str.ofString "NoCell", false)] = some false := rfl
  have e3 : ∀ d : D, List.lookup (Str.ofString "cell") [(nCe, d)] = some d := fun _ => rfl
  cases b <;> simp [f__law_refused, d__law_refused, ht]
  · refine needed_ex hS ht0 hc hl hz ?_
    simp [e0, e1, e2, e3, h2]
    exact K
  · refine joins_ex hS ht0 hc hl hz ?_
    simp [e0, e1, e2, e3, h2]
    exact K
theorem TapeAt.keep {w : Int} {S : List Stp} {t q : Nat} {M M' : Mem} (h : TapeAt w S t M) (p : PoolAt q M) (x : Keep q M M') : TapeAt w S t M' := by
  obtain ⟨k, h1, h2⟩ := h
  obtain ⟨ps, hne, hnn, hps⟩ := p
  have t1 : t ≠ q := fun e => by subst e; rw [h1] at hps; cases hps
  have k1 : k ≠ q := fun e => by
    subst e; rw [h2] at hps
    cases ps with
    | nil => exact hne rfl
    | cons a r =>
      cases S with
      | nil => cases hps
      | cons s S =>
        have : s.d = .int a := by injection hps with e; injection e with e; injection e
        cases s <;> cases this
  exact ⟨k, (x.at_ t (lt_of_get h1) t1).trans h1, (x.at_ k (lt_of_get h2) k1).trans h2⟩
theorem pd_cell {M : Mem} {z : Int} (hz : z.natAbs < 10 ^ 31) : Pd M 1 100 (.tup [.str nCe, .int z]) (.tuple [.str nCe, .int z]) := by
  have h1 : Pd M 0 50 (.str nCe) (.str nCe) := .str (by decide +kernel) (by decide +kernel)
  have h2 : Pd M 0 32 (.int z) (.int z) := .int 31 (by decide) hz (Nat.lt_of_lt_of_le hz (by decide +kernel))
  have := Pd.tup (.cons h1 (.cons h2 .nil))
  exact this.mono (by simp)
theorem pk30 : powOk 10 30 = true := by decide +kernel
theorem nI_of {xs : List Int} {n : Nat} (h : ∀ x ∈ xs, 0 ≤ x ∧ x < n) : ∃ l : List Nat, xs = nI l ∧ ∀ j ∈ l, j < n := by
  refine ⟨xs.map Int.toNat, ?_, fun j hj => ?_⟩
  · show xs = (xs.map Int.toNat).map Int.ofNat
    rw [List.map_map]
    conv => lhs; rw [← List.map_id xs]
    refine List.map_congr_left fun x hx => ?_
    have := h x hx
    show x = Int.ofNat x.toNat
    simp; omega
  · obtain ⟨x, hx, rfl⟩ := List.mem_map.mp hj
    have := h x hx
    omega
theorem size_of (x : Int) (S : List Stp) (x0 : 0 ≤ x) (x1 : x < 3) : ∃ m : Nat, (x * if (S.length : Int) < 1 then (S.length : Int) else 1) = (m : Int) ∧ m ≤ 2 ∧ (0 < m → 0 < S.length) := by
  by_cases h : (S.length : Int) < 1
  · have : S.length = 0 := by omega
    exact ⟨0, by simp [this], by omega, by omega⟩
  · exact ⟨x.toNat, by simp [h]; omega, by omega, by omega⟩
/-- the bad things -/
def Odd (S : List Stp) (d : D) : Prop := ∃ z : Int, d = .int z ∧ ¬ (0 ≤ z ∧ z < S.length) ∧ z.natAbs < 10 ^ 31
theorem odd_of {S : List Stp} (h : S.length ≤ 1000) {d : D} (hd : d ∈ [D.int S.length, D.int (-1), D.int 1000000000000000000000000000000, D.int (S.length + 1)]) : Odd S d := by
  simp at hd
  rcases hd with rfl | rfl | rfl | rfl
  · exact ⟨_, rfl, by omega, by omega⟩
  · exact ⟨_, rfl, by omega, by omega⟩
  · exact ⟨_, rfl, by omega, by omega⟩
  · exact ⟨_, rfl, by omega, by omega⟩
theorem refuses_loop {M4 : Mem} {q t g : Nat} {S : List Stp} {w z z' : Int} {l : List Nat} {m : Int} {P : D → Mem → Prop} {X : XP} (hS : Good w S) (hlim : ∀ n : Nat, n ≤ 1000 → n ≤ lim) (hll : l.length ≤ 2) (hl : ∀ j ∈ l, j < S.length) (hz : ¬ (0 ≤ z ∧ z < S.length)) (hz31 : z.natAbs < 10 ^ 31)
    (hg4 : M4[g]? = some (.lst (iL (nI l)))) (ht4 : TapeAt w S t M4) (hp4 : PoolAt q M4) (K : ∀ M', Ext M4 M' → P (.bl true) M') :
    wS (forL (gN 7)
        (sSeq (sSet 8 (dOp2 opAdd (dVar 4) (dVar 7)))
          (sFor (itAny (dLst (dCons (dC (D.bl false)) (dCons (dC (D.bl true)) dNil)))) (gN 9)
            (sIf (tNotD (dTru (dCal f__law_same (dCons (dCal f__law_refused (dCons (dVar 1) (dCons (dOpN nList (dCons (dVar 8) dNil)) (dCons (dVar 9) dNil)))) (dCons (dTup (dCons (dC (D.str (Str.ofString "cell"))) (dCons (dVar 5) dNil))) dNil))))) (sRet (dC (D.bl false))) sSkip)))
        (cellIs (M4.length + 3 + 1) [D.ref M4.length, D.ref (M4.length + 2), D.ref (M4.length + 3)])
        [D.ref M4.length, D.ref (M4.length + 2), D.ref (M4.length + 3)]
        [some (D.ref q), some (D.ref t), some (D.int S.length), some (D.int m), some (D.ref g), some (D.int z), some (D.int z'), none, none, none, none]
        (M4 ++ [Cell.lst [D.int z], Cell.lst [D.int z], Cell.lst (D.int z :: iL (nI l)), Cell.lst [D.int z, D.int z'], Cell.lst [D.ref M4.length, D.ref (M4.length + 2), D.ref (M4.length + 3)]]))
      { nx := fun ev M => wS (sRet (dC (D.bl true)) ev M) { nx := fun x M => P D.non M, rt := P, ex := fun c fs x M => X c fs M }, rt := P, ex := fun c fs x M => X c fs M } := by
  have x5 : Ext M4 (M4 ++ [Cell.lst [D.int z], Cell.lst [D.int z], Cell.lst (D.int z :: iL (nI l)), Cell.lst [D.int z, D.int z'], Cell.lst [D.ref M4.length, D.ref (M4.length + 2), D.ref (M4.length + 3)]]) := ⟨_, rfl⟩
  have hx : ∀ i (h : i < [D.ref M4.length, D.ref (M4.length + 2), D.ref (M4.length + 3)].length), ∃ a r, [D.ref M4.length, D.ref (M4.length + 2), D.ref (M4.length + 3)][i] = .ref a ∧ (M4 ++ [Cell.lst [D.int z], Cell.lst [D.int z], Cell.lst (D.int z :: iL (nI l)), Cell.lst [D.int z, D.int z'], Cell.lst [D.ref M4.length, D.ref (M4.length + 2), D.ref (M4.length + 3)]])[a]? = some (.lst (iL (z :: r))) ∧ r.length ≤ 2 := by
    intro i h
    match i, h with
    | 0, _ => exact ⟨_, [], rfl, by rw [List.getElem?_append_right (by omega)]; simp [iL], by simp⟩
    | 1, _ =>
      refine ⟨M4.length + 2, nI l, rfl, ?_, ?_⟩
      · rw [List.getElem?_append_right (by omega)]; simp [iL]
      · rw [List.length_map]; exact hll
    | 2, _ => exact ⟨_, [z'], rfl, by rw [List.getElem?_append_right (by omega)]; simp [iL], by simp⟩
  have hr : (M4 ++ [Cell.lst [D.int z], Cell.lst [D.int z], Cell.lst (D.int z :: iL (nI l)), Cell.lst [D.int z, D.int z'], Cell.lst [D.ref M4.length, D.ref (M4.length + 2), D.ref (M4.length + 3)]])[M4.length + 3 + 1]? = some (.lst [D.ref M4.length, D.ref (M4.length + 2), D.ref (M4.length + 3)]) := by
    rw [List.getElem?_append_right (by omega), show M4.length + 3 + 1 - M4.length = 4 by omega]; rfl
  have hp5 := hp4.ext x5
  have ht5 := ht4.ext x5
  have hg5 := x5.get hg4
  generalize M4 ++ [Cell.lst [D.int z], Cell.lst [D.int z], Cell.lst (D.int z :: iL (nI l)), Cell.lst [D.int z, D.int z'], Cell.lst [D.ref M4.length, D.ref (M4.length + 2), D.ref (M4.length + 3)]] = M5 at *
  generalize hxs : [D.ref M4.length, D.ref (M4.length + 2), D.ref (M4.length + 3)] = xs at *
  refine q_forI (fun i ev M1 => Ext M5 M1 ∧ ∃ a b c d, ev = [some (D.ref q), some (D.ref t), some (D.int S.length), some (D.int m), some (D.ref g), some (D.int z), some (D.int z'), a, b, c, d]) ?_ ⟨.refl, _, _, _, _, rfl⟩ ?_ ?_
  · rintro i ev M1 ⟨x1, _⟩
    exact cellIs_at (x1.get hr) (by subst hxs; rfl)
  · rintro i ev M1 h ⟨x1, a, b, c, d, rfl⟩
    obtain ⟨e, r, he, hre, hrl⟩ := hx i h
    have hl1 : l.length + (r.length + 1) ≤ lim := hlim _ (by omega)
    have hc := get_push (M := M1) (c := Cell.lst (iL (nI l ++ z :: r)))
    have ea : iL (nI l) ++ iL (z :: r) = iL (nI l ++ z :: r) := iL_append _ _
    have h2 : 2 ≤ lim := hlim _ (by omega)
    simp [he, x1.get hg5, x1.get hre, hl1, ea, h2]
    refine q_forI (fun i ev M2 => Ext (M1 ++ [Cell.lst (iL (nI l ++ z :: r)), Cell.lst [D.bl false, D.bl true]]) M2 ∧ ∃ a b, ev = [some (D.ref q), some (D.ref t), some (D.int S.length), some (D.int m), some (D.ref g), some (D.int z), some (D.int z'), a, some (D.ref M1.length), b, d]) ?_ ⟨.refl, _, _, rfl⟩ ?_ ?_
    · rintro i ev M2 ⟨x2, _⟩
      refine cellIs_at (x2.get ?_) rfl
      rw [List.getElem?_append_right (by omega)]; simp
    · rintro i ev M2 h ⟨x2, a, b, rfl⟩
      have hb : ∃ b, [D.bl false, D.bl true][i] = .bl b := by
        match i, h with
        | 0, _ => exact ⟨_, rfl⟩
        | 1, _ => exact ⟨_, rfl⟩
      obtain ⟨b, hb⟩ := hb
      have hc2 : M2[M1.length]? = some (.lst (iL (nI l ++ z :: r))) := x2.get (by rw [List.getElem?_append_right (by omega)]; simp)
      have xx : Ext M5 M2 := (x1.trans ⟨_, rfl⟩).trans x2
      simp [hb, hc2]
      refine refused_wp hS (ht5.ext (xx.trans .push)) get_push hl hz ?_
      simp [h2, eSame]
      refine same_pd (pd_cell hz31) (pd_cell hz31) (by decide) (by decide) (hlim _ (by omega)) ?_
      simp
      exact x2.trans .push
    · rintro ev M2 ⟨x2, a, b, rfl⟩
      exact ⟨(x1.trans ⟨_, rfl⟩).trans x2, _, _, _, _, rfl⟩
  · rintro ev M1 ⟨x1, _⟩
    simp
    exact K _ (x5.trans x1)
theorem refuses_wp {M : Mem} {q t : Nat} {S : List Stp} {w : Int} {P : D → Mem → Prop} {X : XP} (hS : Good w S) (ht : TapeAt w S t M) (hp : PoolAt q M)
    (K : ∀ M', Keep q M M' → PoolAt q M' → P (.bl true) M') : wE (f__law_refuses [.ref q, .ref t, .int (S.length : Nat)] M) P X := by
  have h1000 := hS.1
  have hlim : ∀ n : Nat, n ≤ 1000 → n ≤ lim := fun n h => by rw [lim9]; omega
  simp [f__law_refuses, d__law_refuses, eDraw]
  refine draw_wp hp (by decide) (by decide) fun x M1 x0 x1 hp1 k1 l1 => ?_
  obtain ⟨m, em, hm2, hm0⟩ := size_of x S x0 x1
  simp [mul1 (x := x) (by omega), em, big_of (i := (m : Int)) ⟨by omega, by omega⟩]
  refine c_draws (many := (S.length : Int)) rfl hp1 (fun h => by have := hm0 h; omega) (by omega) (hlim _ (by omega)) (fun x M' => by simp) fun M2 gs hp2 k2 l2 hg hgl hgb => ?_
  obtain ⟨l, rfl, hl⟩ := nI_of hgb
  have hgl' : l.length = m := by simpa using hgl
  simp [pk30, hlim]
  refine draw_wp (hp2.push _) (by decide) (by decide) fun y M3 y0 y1 hp3 k3 l3 => ?_
  have q2 := hp2.lt
  have hv3 : M3[M2.length]? = some (.lst [D.int S.length, D.int (-1), D.int 1000000000000000000000000000000, D.int (S.length + 1)]) := (k3.at_ _ (by simp) (by omega)).trans get_push
  obtain ⟨od, hod, eod⟩ := atI_mem (xs := [D.int S.length, D.int (-1), D.int 1000000000000000000000000000000, D.int (S.length + 1)]) y0 (by simpa using y1)
  obtain ⟨z, rfl, hz, hz31⟩ := odd_of h1000 hod
  simp [hv3, eod, pk30, hlim]
  refine draw_wp (hp3.push _) (by decide) (by decide) fun y' M4 y0' y1' hp4 k4 l4 => ?_
  have q3 := hp3.lt
  have hv4 : M4[M3.length]? = some (.lst [D.int S.length, D.int (-1), D.int 1000000000000000000000000000000]) := (k4.at_ _ (by simp) (by omega)).trans get_push
  obtain ⟨od', hod', eod'⟩ := atI_mem (xs := [D.int S.length, D.int (-1), D.int 1000000000000000000000000000000]) y0' (by simpa using y1')
  obtain ⟨z', rfl, hz', hz31'⟩ := odd_of h1000 (d := od') (by simp at hod' ⊢; rcases hod' with h | h | h <;> simp [h])
  have q1 := hp1.lt
  have q0 := hp.lt
  have hg3 : M3[M1.length]? = some (.lst (iL (nI l))) := by
    rw [k3.at_ _ (by simp; omega) (by omega)]; exact get_old hg
  have hg4 : M4[M1.length]? = some (.lst (iL (nI l))) := by
    rw [k4.at_ _ (by simp; simp at l3; omega) (by omega)]; exact get_old hg3
  have lg4 := lt_of_get hg4
  simp [hv4, eod', List.getElem?_append_left lg4, hg4, hlim]
  refine ⟨hlim _ (by omega), ?_⟩
  have ht1 := ht.keep hp k1
  have ht2 := ht1.keep hp1 k2
  have ht3 := (ht2.ext .push).keep (hp2.push _) k3
  have ht4 := (ht3.ext .push).keep (hp3.push _) k4
  have kk : Keep q M M4 := (((k1.trans k2).trans .push).trans k3).trans (Keep.push.trans k4)
  refine refuses_loop hS hlim (by omega) hl hz hz31 hg4 ht4 hp4 fun M' x => K M' (kk.trans x.keep) (hp4.ext x)
end K32

set_option Elab.async false
set_option linter.all false
set_option maxRecDepth 100000
set_option maxHeartbeats 2000000
namespace K32
open PySem L2 MI
theorem step_wp' {M : Mem} {q i : Nat} {w most : Int} {P : D → Mem → Prop} {X : XP} (hp : PoolAt q M) (hw : 1 ≤ w ∧ w ≤ 200) (hi : i ≤ 1000) (hm : 1 ≤ most ∧ most ≤ 4)
    (K : ∀ s M', Stp.Ok w i s → PoolAt q M' → Keep q M M' → P s.d M') : wE (f__law_step [.ref q, .int w, .int (i : Nat), .int 3, .int most]  M) P X := by
  have hlim : ∀ n : Nat, n ≤ 1000 → n ≤ lim := fun n h => by rw [lim9]; omega
  simp [f__law_step, d__law_step, eDraw]
  refine draw_wp hp (by decide) (by decide) fun x M1 x0 x1 hp1 k1 l1 => ?_
  by_cases h0 : i = 0
  · subst h0
    have hx : x.fmod 2 = 0 ∨ x.fmod 2 = 1 := by have := Int.fmod_nonneg_of_pos x (b := 2) (by decide); have := Int.fmod_lt_of_pos x (b := 2) (by decide); omega
    rcases hx with hx | hx
    · simp [hx, hlim]
      refine draw_wp hp1 (by omega) (by omega) fun y M2 y0 y1 hp2 k2 l2 => ?_
      try simp [hlim]
      exact K (.place y) M2 ⟨y0, y1⟩ hp2 (k1.trans k2)
    · simp [hx, hlim]
      exact K .one M1 trivial hp1 k1
  · simp [h0, hlim]
    have hx : x = 0 ∨ x = 1 ∨ x = 2 ∨ (x = 3 ∨ x = 4) ∨ 4 < x := by omega
    rcases hx with rfl | rfl | rfl | h | h
    · simp [hlim]
      refine draw_wp hp1 (by omega) (by omega) fun y M2 y0 y1 hp2 k2 l2 => ?_
      try simp [hlim]
      exact K (.place y) M2 ⟨y0, y1⟩ hp2 (k1.trans k2)
    · simp [hlim]
      exact K .one M1 trivial hp1 k1
    · simp [hlim]
      refine draw_wp hp1 (by omega) (by omega) fun y M2 y0 y1 hp2 k2 l2 => ?_
      try simp [hlim]
      obtain ⟨c, rfl⟩ : ∃ c : Nat, y = (c : Int) := ⟨y.toNat, by omega⟩
      exact K (.turn c) M2 (by show c < i; omega) hp2 (k1.trans k2)
    · have e0 : ¬ x = 0 := by omega
      have e1 : ¬ x = 1 := by omega
      have e2 : ¬ x = 2 := by omega
      have e4 : ¬ 4 < x := by omega
      simp [e0, e1, e2, e4, hlim]
      refine draw_wp hp1 (by omega) (by omega) fun y M2 y0 y1 hp2 k2 l2 => ?_
      obtain ⟨c, rfl⟩ : ∃ c : Nat, y = (c : Int) := ⟨y.toNat, by omega⟩
      try simp
      refine draw_wp hp2 (by omega) (by omega) fun n M3 n0 n1 hp3 k3 l3 => ?_
      have hn : big n = true := big_of ⟨by omega, by omega⟩
      have hmul : mulOk n 1 = true := mul1 (by omega)
      simp [hmul, hn]
      refine c_draws (many := 3) rfl hp3 (fun _ => by decide) (by decide) (hlim _ (by omega)) (fun x M' => by simp) fun M4 gs hp4 k4 l4 hg hgl hgb => ?_
      simp [hg, hlim]
      exact K (.act c gs) M4 ⟨by omega, by omega, hgb⟩ hp4 (((k1.trans k2).trans k3).trans k4)
    · have e0 : ¬ x = 0 := by omega
      have e1 : ¬ x = 1 := by omega
      have e2 : ¬ x = 2 := by omega
      simp [e0, e1, e2, h, hlim]
      refine draw_wp hp1 (by omega) (by omega) fun y M2 y0 y1 hp2 k2 l2 => ?_
      obtain ⟨a, rfl⟩ : ∃ c : Nat, y = (c : Int) := ⟨y.toNat, by omega⟩
      try simp
      refine draw_wp hp2 (by omega) (by omega) fun n M3 n0 n1 hp3 k3 l3 => ?_
      obtain ⟨b, rfl⟩ : ∃ c : Nat, n = (c : Int) := ⟨n.toNat, by omega⟩
      try simp [hlim]
      exact K (.join a b) M3 ⟨by omega, by omega⟩ hp3 ((k1.trans k2).trans k3)
end K32

set_option Elab.async false
set_option linter.all false
set_option maxRecDepth 100000
set_option maxHeartbeats 2000000
namespace K32
open PySem L2 MI
theorem Good.snoc {w : Int} {S : List Stp} {s : Stp} (h : Good w S) (hs : s.Ok w S.length) (hl : S.length + 1 ≤ 1000) : Good w (S ++ [s]) := by
  refine ⟨by simpa using hl, fun i x hx => ?_⟩
  rcases Nat.lt_trichotomy i S.length with h1 | h1 | h1
  · rw [List.getElem?_append_left h1] at hx; exact h.2 i x hx
  · subst h1
    rw [List.getElem?_append_right (Nat.le_refl _)] at hx
    simp at hx; subst hx; exact hs
  · rw [List.getElem?_append_right (by omega), List.getElem?_eq_none (by simp; omega)] at hx; cases hx
theorem tail_wp {M : Mem} {q s n : Nat} {S0 : List Stp} {w most : Int} {a b c : Option D} {p : SP} (hp : PoolAt q M) (hs : M[s]? = some (.lst (sd S0))) (hS : Good w S0) (hn : S0.length + n ≤ 1000) (hq : s ≠ q) (hw : 1 ≤ w ∧ w ≤ 200) (hm : 1 ≤ most ∧ most ≤ 4)
    (K : ∀ S M' ev', Good w S → M'[s]? = some (.lst (sd S)) → PoolAt q M' → (∀ j, j < M.length → j ≠ s → j ≠ q → M'[j]? = M[j]?) → M.length ≤ M'.length → (∃ b, ev' = [some (.ref q), some (.int w), a, c, some (.int most), some (.ref s), b]) → p.nx ev' M') :
    wS (forL (gN 6) (sDrop (dMet (mL nAppend) (dVar 5) (dCons (dCal f__law_step (dCons (dVar 0) (dCons (dVar 1) (dCons (dOpN nLen (dCons (dVar 5) dNil)) (dCons (dC (.int 3)) (dCons (dVar 4) dNil)))))) dNil)))
      yes (rangeD 0 n) [some (.ref q), some (.int w), a, c, some (.int most), some (.ref s), b] M) p := by
  refine q_forR (fun i ev M1 => ∃ S, Good w S ∧ S.length = S0.length + i ∧ M1[s]? = some (.lst (sd S)) ∧ PoolAt q M1 ∧ (∀ j, j < M.length → j ≠ s → j ≠ q → M1[j]? = M[j]?) ∧ M.length ≤ M1.length ∧ ∃ b, ev = [some (.ref q), some (.int w), a, c, some (.int most), some (.ref s), b]) ⟨S0, hS, rfl, hs, hp, fun _ _ _ _ => rfl, Nat.le_refl _, b, rfl⟩ ?_ ?_
  · rintro i ev M1 hi ⟨S, g, hl, h1, hp1, hk, hlen, b, rfl⟩
    simp [h1]
    refine step_wp' hp1 hw (by omega) hm fun x M2 ok hp2 k2 => ?_
    have h2 : M2[s]? = some (.lst (sd S)) := (k2.at_ s (lt_of_get h1) hq).trans h1
    have hlt : S.length < lim := by rw [lim9]; omega
    have l2 := lt_of_get h2
    have k2l := k2.le
    simp [h2, hlt]
    refine ⟨S ++ [x], g.snoc ok (by omega), by simp; omega, by rw [List.getElem?_set_self l2]; simp, hp2.keep (.set (n := s)) (Ne.symm hq), fun j hj hjs hjq => ?_, by omega⟩
    rw [List.getElem?_set_ne (Ne.symm hjs), k2.at_ j (by omega) hjq, hk j hj hjs hjq]
  · rintro ev M1 ⟨S, g, hl, h1, hp1, hk, hlen, b, rfl⟩
    exact K S M1 _ g h1 hp1 hk hlen ⟨b, rfl⟩
theorem good_6 {w y : Int} (h : 0 ≤ y ∧ y < w) : Good w (.place y :: (List.range 40).map fun k => .join k k) := by
  refine ⟨by simp, fun i s hs => ?_⟩
  cases i with
  | zero => simp at hs; subst hs; exact h
  | succ i =>
    rw [List.getElem?_cons_succ, List.getElem?_map] at hs
    cases e : (List.range 40)[i]? with
    | none => rw [e] at hs; cases hs
    | some k =>
      rw [e] at hs
      have := List.getElem?_eq_some_iff.mp e
      obtain ⟨hi, hk⟩ := this
      simp at hk hi
      simp at hs
      subst hs
      subst hk
      exact ⟨by omega, by omega⟩
theorem good_7 {w : Int} {xs : List Int} (h : ∀ x ∈ xs, 0 ≤ x ∧ x < w) (hl : xs.length ≤ 3) : Good w (xs.map .place) := by
  refine ⟨by simp; omega, fun i s hs => ?_⟩
  rw [List.getElem?_map] at hs
  cases e : xs[i]? with
  | none => rw [e] at hs; cases hs
  | some k =>
    rw [e] at hs
    simp at hs; subst hs
    exact h k (List.mem_of_getElem? e)
end K32

set_option Elab.async false
set_option linter.all false
set_option maxRecDepth 100000
set_option maxHeartbeats 2000000
namespace K32
open PySem L2 MI
theorem joins_fm : ∀ l : List Nat, (iL (nI l)).filterMap (fun d => some (.tup [.str sJoin, d, d])) = sd (l.map fun k => .join k k)
  | [] => rfl
  | j :: l => by
    have e : iL (nI (j :: l)) = .int (j : Int) :: iL (nI l) := rfl
    rw [e, List.filterMap_cons]
    show _ :: (iL (nI l)).filterMap _ = _
    rw [joins_fm l]; rfl
def J7 (w : Int) (q : Nat) (M3 : Mem) (i : Nat) (acc : List D) (M4 : Mem) : Prop := ∃ xs : List Int, acc = sd (xs.map .place) ∧ xs.length = i ∧ (∀ x ∈ xs, 0 ≤ x ∧ x < w) ∧ PoolAt q M4 ∧ Keep q M3 M4 ∧ M4.length = M3.length + 1 ∧ M4[M3.length]? = some (.lst acc)
theorem tape_wp {M : Mem} {q : Nat} {w : Int} {P : D → Mem → Prop} {X : XP} (hp : PoolAt q M) (hw : 1 ≤ w ∧ w ≤ 200)
    (K : ∀ S s M', Good w S → M'[s]? = some (.lst (sd S)) → PoolAt q M' → Keep q M M' → P (.ref s) M') : wE (f__law_tape [.ref q, .int w] M) P X := by
  have hlim : ∀ n : Nat, n ≤ 1000 → n ≤ lim := fun n h => by rw [lim9]; omega
  have q0 := hp.lt
  simp [f__law_tape, d__law_tape, eDraw]
  refine draw_wp hp (by decide) (by decide) fun sh M1 s0 s1 hp1 k1 l1 => ?_
  simp
  refine draw_wp hp1 (by decide) (by decide) fun n M2 n0 n1 hp2 k2 l2 => ?_
  have fin : ∀ (S0 : List Stp) (s : Nat) (M3 : Mem) (n : Nat) (most : Int) (a c b : Option D), PoolAt q M3 → M3[s]? = some (.lst (sd S0)) → Good w S0 → S0.length + n ≤ 1000 → M.length ≤ s → (1 ≤ most ∧ most ≤ 4) → Keep q M M3 →
      wS (forL (gN 6) (sDrop (dMet (mL nAppend) (dVar 5) (dCons (dCal f__law_step (dCons (dVar 0) (dCons (dVar 1) (dCons (dOpN nLen (dCons (dVar 5) dNil)) (dCons (dC (.int 3)) (dCons (dVar 4) dNil)))))) dNil))) yes (rangeD 0 n) [some (.ref q), some (.int w), a, c, some (.int most), some (.ref s), b] M3)
        { nx := fun ev M => wS (sRet (dVar 5) ev M) { nx := fun x M => P D.non M, rt := P, ex := fun c fs x M => X c fs M }, rt := P, ex := fun c fs x M => X c fs M } := by
    intro S0 s M3 n most a c b hp3 hs hS hn hsl hm k3
    refine tail_wp hp3 hs hS hn (by omega) hw hm fun S M' ev' g h hp' hk hle => ?_
    rintro ⟨b, rfl⟩
    simp
    refine K S s M' g h hp' ⟨Nat.le_trans k3.le hle, fun j hj hne => ?_⟩
    have := k3.le
    rw [hk j (by omega) (by omega) hne, k3.at_ j hj hne]
  have kk := k1.trans k2
  have kl := kk.le
  obtain ⟨n, rfl⟩ : ∃ c : Nat, n = (c : Int) := ⟨n.toNat, by omega⟩
  have hb : big (n : Int) = true := big_of ⟨by omega, by omega⟩
  have hb150 : big 150 = true := by decide
  have hb40 : big 40 = true := by decide
  have hb3 : big 3 = true := by decide
  by_cases h5 : sh = 5
  · subst h5
    simp [hb150]
    exact fin [] M2.length _ _ _ _ _ _ (hp2.push _) get_push ⟨by simp, by simp⟩ (by simp) (by omega) (by decide) (kk.trans .push)
  by_cases h6 : sh = 6
  · subst h6
    simp [hlim]
    refine draw_wp (hp2.push _) (by omega) (by omega) fun y M3 y0 y1 hp3 k3 l3 => ?_
    have q3 := hp3.lt
    simp at l3
    simp [hlim, hb40]
    rw [show M3 ++ [Cell.lst [D.tup [D.str (Str.ofString "place"), D.int y]], Cell.lst []] = (M3 ++ [Cell.lst [D.tup [D.str (Str.ofString "place"), D.int y]]]) ++ [Cell.lst []] by simp]
    refine c_pure (F := fun d => some (.tup [.str sJoin, d, d])) (by simp) (fun _ => rfl) ?_ (by simpa using hlim _ (by omega)) ?_
    · intro x hx c
      rw [range_0] at hx
      obtain ⟨j, hj, rfl⟩ := mem_nI hx
      simp [hlim]
    · rw [range_0, joins_fm]
      have g1 : (M3 ++ [Cell.lst [D.tup [D.str (Str.ofString "place"), D.int y]]] ++ [Cell.lst (sd ((List.range 40).map fun k => .join k k))])[M3.length]? = some (.lst (sd [.place y])) := get_old get_push
      have g2 : (M3 ++ [Cell.lst [D.tup [D.str (Str.ofString "place"), D.int y]]] ++ [Cell.lst (sd ((List.range 40).map fun k => .join k k))])[M3.length + 1]? = some (.lst (sd ((List.range 40).map fun k => .join k k))) := by
        rw [show M3.length + 1 = (M3 ++ [Cell.lst [D.tup [D.str (Str.ofString "place"), D.int y]]]).length by simp]; exact get_push
      have hk4 : Keep q M (M3 ++ [Cell.lst [D.tup [D.str (Str.ofString "place"), D.int y]]] ++ [Cell.lst (sd ((List.range 40).map fun k => .join k k))]) := (((kk.trans .push).trans k3).trans .push).trans .push
      have hp4 : PoolAt q (M3 ++ [Cell.lst [D.tup [D.str (Str.ofString "place"), D.int y]]] ++ [Cell.lst (sd ((List.range 40).map fun k => .join k k))]) := (hp3.push _).push _
      generalize M3 ++ [Cell.lst [D.tup [D.str (Str.ofString "place"), D.int y]]] ++ [Cell.lst (sd ((List.range 40).map fun k => .join k k))] = M4 at *
      simp [g1, g2, hb, hlim]
      exact fin (.place y :: (List.range 40).map fun k => .join k k) M4.length _ _ _ _ _ _ (hp4.push _) get_push (good_6 ⟨y0, y1⟩) (by simp; omega) hk4.le (by decide) (hk4.trans .push)
  by_cases h7 : sh = 7
  · subst h7
    simp [hlim, hb3]
    rw [show M2 ++ [Cell.lst [], Cell.lst []] = (M2 ++ [Cell.lst []]) ++ [Cell.lst []] by simp]
    have hp3 : PoolAt q (M2 ++ [Cell.lst []]) := hp2.push _
    have k3 : Keep q M (M2 ++ [Cell.lst []]) := kk.trans .push
    have l3 : (M2 ++ [Cell.lst []]).length = M2.length + 1 := by simp
    rw [← l3]
    generalize M2 ++ [Cell.lst []] = M3 at *
    have q3 := hp3.lt
    refine c_inv (J7 w q M3) (by simpa using hlim _ (by omega)) ?_ ⟨[], rfl, rfl, by simp, hp3.push _, .push, by simp, get_push⟩ ?_ ?_
    · rintro i acc M4 ⟨xs, _, _, _, _, _, _, h⟩; exact ⟨rfl, h⟩
    · rintro i acc M4 h ⟨xs, rfl, e, hb, hp4, hk4, hl4, hg⟩
      simp
      refine draw_wp hp4 (by omega) (by omega) fun x M5 x0 x1 hp5 hk5 hl5 => ?_
      have hne : M3.length ≠ q := by omega
      have hg5 : M5[M3.length]? = some (.lst (sd (xs.map .place))) := by rw [hk5.at_ _ (by omega) hne]; exact hg
      simp [hlim]
      refine ⟨by simpa [sd] using hg5, xs ++ [x], ?_, ?_, ?_, hp5.keep (.set (n := M3.length)) (Ne.symm hne), ⟨?_, fun j hj hjq => ?_⟩, ?_, ?_⟩
      · simp [Stp.d]
      · simp [e]
      · intro z hz
        rcases List.mem_append.mp hz with hz | hz
        · exact hb z hz
        · rw [List.mem_singleton.mp hz]; exact ⟨x0, x1⟩
      · simp; omega
      · rw [List.getElem?_set_ne (by omega), hk5.at_ j (by omega) hjq, hk4.at_ j hj hjq]
      · simp; omega
      · rw [List.getElem?_set_self (by omega)]
    · intro acc M4 hJ
      have hs := Exists.choose_spec hJ
      generalize Exists.choose hJ = xs at hs
      have hg := hs.2.2.2.2.2.2
      have hx := hs.2.2.1
      have hp4 := hs.2.2.2.1
      have hk4 := hs.2.2.2.2.1
      have e := hs.2.1
      rw [hs.1] at hg
      have e3 : xs.length = 3 := by simpa using e
      have k3l := k3.le
      simp [hb]
      exact fin (xs.map .place) M3.length _ _ _ _ _ _ hp4 hg (good_7 hx (by omega)) (by simp; omega) k3l (by decide) (k3.trans hk4)
  · simp [h5, h6, h7, hb]
    exact fin [] M2.length _ _ _ _ _ _ (hp2.push _) get_push ⟨by simp, by simp⟩ (by simp; omega) (by omega) (by decide) (kk.trans .push)
end K32

set_option Elab.async false
set_option linter.all false
set_option maxRecDepth 100000
set_option maxHeartbeats 2000000
namespace K32
open PySem L2 MI
/-- a list of cells -/
def CL (S : List Stp) (q : Nat) (M : Mem) (d : D) : Prop := ∃ a l, d = .ref a ∧ a ≠ q ∧ M[a]? = some (.lst (iL (nI l))) ∧ (∀ j ∈ l, j < S.length) ∧ l.length ≤ 1000
theorem CL.ext {S : List Stp} {q : Nat} {M M' : Mem} {d : D} (h : CL S q M d) (x : Keep q M M') : CL S q M' d := by
  obtain ⟨a, l, e, ne, h1, h2⟩ := h
  exact ⟨a, l, e, ne, (x.at_ a (lt_of_get h1) ne).trans h1, h2⟩
theorem CL.plain {S : List Stp} {q : Nat} {M : Mem} : ∀ {xs : List D}, (∀ d ∈ xs, CL S q M d) → D.plainL xs = true
  | [], _ => rfl
  | d :: xs, h => by
    obtain ⟨a, l, rfl, _⟩ := h d List.mem_cons_self
    show (true && D.plainL xs) = true
    rw [CL.plain fun d hd => h d (List.mem_cons_of_mem _ hd)]; rfl
/-- what stands before the questions -/
structure Sta (S : List Stp) (w : Int) (q s t m : Nat) (M : Mem) : Prop where
  pool : PoolAt q M
  st : M[s]? = some (.lst (sd S))
  tp : TapeAt w S t M
  mk_ : M[m]? = some (.lst (iL (nI (masksOf S S.length))))
  sq : s ≠ q
  mq : m ≠ q
theorem Sta.keep {S : List Stp} {w : Int} {q s t m : Nat} {M M' : Mem} (h : Sta S w q s t m M) (k : Keep q M M') (p : PoolAt q M') : Sta S w q s t m M' :=
  ⟨p, (k.at_ s (lt_of_get h.st) h.sq).trans h.st, h.tp.keep h.pool k, (k.at_ m (lt_of_get h.mk_) h.mq).trans h.mk_, h.sq, h.mq⟩
theorem Sta.ext {S : List Stp} {w : Int} {q s t m : Nat} {M M' : Mem} (h : Sta S w q s t m M) (x : Ext M M') : Sta S w q s t m M' := h.keep x.keep (h.pool.ext x)
theorem stock_wp {ns : List Int} (hl : ns.length ≤ 63) {P : D → Mem → Prop} {X : XP} (K : ∀ k M', PoolAt k M' → P (.ref k) M') : wE (f__law_stock [.ref 0] [.rls (iL ns)]) P X := by
  obtain ⟨k, M', e, h⟩ := MI.stock_ok ns hl
  exact wE.ofGet e (K k M' h)
theorem make_wp {w : Int} {S : List Stp} (hS : Good w S) (hw : 1 ≤ w ∧ w ≤ 200) {n k : Nat} {M : Mem} (hn : M[n]? = some (.ins cT [])) (hk : M[k]? = some (.lst (sd S))) {P : D → Mem → Prop} {X : XP} (K : ∀ M', TapeAt w S n M' → Keep n M M' → P .non M') : wE (f_Tape___init__ [.ref n, .int w, .ref k] M) P X := by
  obtain ⟨M', e, h1, h2⟩ := init_ok hS hw hn hk
  exact wE.ofGet e (K M' h1 h2)
/-- the lists stand at c -/
structure Lis (S : List Stp) (q c : Nat) (xs : List D) (M : Mem) : Prop where
  at_ : M[c]? = some (.lst xs)
  cl : ∀ d ∈ xs, CL S q M d
  ne : xs ≠ []
  cq : c ≠ q
abbrev ev0 (S : List Stp) (w : Int) (q s t m : Nat) (c a b d e : Option D) : MI.Env := [some (.ref 0), some (.ref q), some (.int w), some (.ref s), some (.int (S.length : Nat)), some (.ref t), some (.ref m), c, a, b, e, none, none, d]
def Q1 (ev : MI.Env) (M : Mem) : Prop := ∃ S w q s t m, Good w S ∧ w ≤ 200 ∧ Sta S w q s t m M ∧ ev = ev0 S w q s t m none none none none none
def Q2 (S : List Stp) (w : Int) (q s t m : Nat) (ev : MI.Env) (M : Mem) : Prop := ∃ c xs, Lis S q c xs M ∧ xs.length ≤ 100 ∧ Sta S w q s t m M ∧ ev = ev0 S w q s t m (some (.ref c)) none none none none
def Q3 (S : List Stp) (w : Int) (q s t m c : Nat) (ev : MI.Env) (M : Mem) : Prop := ∃ a b d xs, Lis S q c xs M ∧ xs.length ≤ 200 ∧ Sta S w q s t m M ∧ ev = ev0 S w q s t m (some (.ref c)) a b d none
def Q4 (S : List Stp) (w : Int) (q s t m c : Nat) (a b d : Option D) (xs : List D) (ev : MI.Env) (M : Mem) : Prop := ∃ e, Lis S q c xs M ∧ Sta S w q s t m M ∧ ev = ev0 S w q s t m (some (.ref c)) a b d e
def la0 : DenS := (sSeq (sSet 1 (dCal f__law_stock (dCons (dVar 0) dNil))) (sSeq (sSet 2 (dOp2 opAdd (dC (.int 1)) (dCal f__law_draw (dCons (dVar 1) (dCons (dC (.int 6)) dNil))))) (sSeq (sSet 3 (dCal f__law_tape (dCons (dVar 1) (dCons (dVar 2) dNil)))) (sSeq (sSet 4 (dOpN nLen (dCons (dVar 3) dNil))) (sSeq (sSet 5 (dMake (Str.ofString "Tape") f_Tape___init__ (dCons (dVar 2) (dCons (dOpN nList (dCons (dVar 3) dNil)) dNil)))) (sSet 6 (dCal f__law_masks (dCons (dVar 3) dNil))))))))
def la1 : DenS := (sSeq (sSet 7 (dLst (dCons (dLst dNil) (dCons (dLstRg (dCons (dVar 4) dNil)) (dCons (dOp1 opRev (dLstRg (dCons (dVar 4) dNil))) dNil))))) (sIf (dTru (dOp2 (opB ltB) (dVar 4) (dC (.int 45)))) (sSet 7 (dOp2 opAdd (dVar 7) (dComp (itRange (dCons (dVar 4) dNil)) (gN 8) tYesD (dLst (dCons (dVar 8) dNil)) [8]))) sSkip))
def la2 : DenS := (sFor (itRange (dCons (dOp2 opMul (dC (.int 6)) (dOpN nMin (dCons (dC (.int 1)) (dCons (dVar 4) dNil)))) dNil)) (gN 8) (sSeq (sSet 9 (dOp2 opAdd (dC (.int 1)) (dCal f__law_draw (dCons (dVar 1) (dCons (dC (.int 4)) dNil))))) (sDrop (dMet (mL nAppend) (dVar 7) (dCons (dComp (itRange (dCons (dVar 9) dNil)) (gN 13) tYesD (dCal f__law_draw (dCons (dVar 1) (dCons (dVar 4) dNil))) [13]) dNil)))))
def la3 : DenS := (sFor (itAny (dVar 7)) (gN 10) (sIf (tNotD (dTru (dCal f__law_same (dCons (dCal f__law_told (dCons (dVar 5) (dCons (dVar 10) dNil))) (dCons (dCal f__law_due (dCons (dVar 3) (dCons (dVar 6) (dCons (dVar 10) dNil)))) dNil))))) (sRet (dC (.bl false))) sSkip))
def la4 : DenS := (sSeq (sSet 11 (dOp2 opIx (dVar 7) (dOp1 opNeg (dC (.int 1))))) (sSeq (sSet 12 (dLst (dCons (dMetK (Str.ofString "needed") [⟨Str.ofString "Tape", 0, [.inl 0], f_Tape_needed⟩] 1 (dVar 5) dNil (dCons (dOpN nList (dCons (dVar 11) dNil)) dNil)) (dCons (dMetK (Str.ofString "joins") [⟨Str.ofString "Tape", 0, [.inl 0], f_Tape_joins⟩] 1 (dVar 5) dNil (dCons (dOpN nList (dCons (dVar 11) dNil)) dNil)) dNil)))) (sSeq (sIf (tNotD (dTru (dCal f__law_same (dCons (dVar 12) (dCons (dCal f__law_due (dCons (dVar 3) (dCons (dVar 6) (dCons (dVar 11) dNil)))) dNil))))) (sRet (dC (.bl false))) sSkip) (sRet (dAnd (dCal f__law_refuses (dCons (dVar 1) (dCons (dVar 5) (dCons (dVar 4) dNil)))) (dCal f__law_same (dCons (dMet (mO (Str.ofString "steps") [⟨Str.ofString "Tape", 0, f_Tape_steps⟩]) (dVar 5) dNil) (dCons (dVar 3) dNil))))))))
theorem la_eq : d_law = (sSeq la0 (sSeq la1 (sSeq la2 (sSeq la3 la4)))) := by
  simp only [d_law, la0, la1, la2, la3, la4, sSeq_as]
theorem la0_wp (ns : List Int) (hl : ns.length ≤ 63) : wS (la0 ([some (.ref 0)] ++ List.replicate 13 none) [.rls (iL ns)]) { nx := Q1 } := by
  simp [la0, eDraw]
  refine stock_wp hl fun q M1 hp1 => ?_
  simp
  refine draw_wp hp1 (by decide) (by decide) fun x M2 x0 x1 hp2 k2 l2 => ?_
  simp
  have hw : 1 ≤ 1 + x ∧ 1 + x ≤ 200 := by omega
  generalize 1 + x = w at hw
  refine tape_wp hp2 hw fun S s M3 hS hs hp3 k3 => ?_
  have s3 := lt_of_get hs
  have q3 := hp3.lt
  simp [hs]
  refine make_wp hS hw (by rw [List.getElem?_append_right (by omega)]; simp) (by rw [List.getElem?_append_right (by omega)]; simp) fun M4 ht4 k4 => ?_
  have hs4 : M4[s]? = some (.lst (sd S)) := (k4.at_ s (by simp; omega) (by omega)).trans (Ext.get ⟨_, rfl⟩ hs)
  have hp4 : PoolAt q M4 := (hp3.ext ⟨_, rfl⟩).keep k4 (by omega)
  have q4 := hp4.lt
  have sq : s ≠ q := fun e => by
    subst e
    obtain ⟨ps, hne, _, hps⟩ := hp3
    rw [hs] at hps
    cases ps with
    | nil => exact hne rfl
    | cons a r =>
      cases S with
      | nil => cases hps
      | cons s S =>
        have : s.d = .int a := by injection hps with e; injection e with e; injection e
        cases s <;> cases this
  simp
  refine masks_wp hs4 hS fun M5 m x5 hml hm5 => ?_
  have := ht4.ext x5
  have := x5.get hs4
  have := hp4.ext x5
  exact ⟨S, w, q, s, M3.length + 1, m, hS, hw.2, ⟨by assumption, by assumption, by assumption, hm5, sq, by omega⟩, rfl⟩
section
variable {S : List Stp} {w : Int} {q s t m : Nat} {M : Mem}
theorem lim30 : ∀ n : Nat, n ≤ 3000 → n ≤ lim := fun n h => by rw [lim9]; omega
/-- a list of cells made behind n -/
def Fr (S : List Stp) (n : Nat) (M : Mem) (d : D) : Prop := ∃ a l, d = .ref a ∧ n < a ∧ M[a]? = some (.lst (iL (nI l))) ∧ (∀ j ∈ l, j < S.length) ∧ l.length ≤ 1000
theorem la1_wp {x : MI.Env} (hS : Good w S) (h0 : Sta S w q s t m M) (hx : x = ev0 S w q s t m none none none none none) : wS (la1 x M) { nx := Q2 S w q s t m } := by
  rw [hx]
  have h1000 := hS.1
  have hb : big (S.length : Int) = true := big_of ⟨by omega, by omega⟩
  have hb24 : (S.length : Int) ≤ 16777216 := by omega
  have q0 := h0.pool.lt
  simp [la1, lim30, hb, hb24]
  have x1 : Ext M (M ++ [Cell.lst [], Cell.lst (rangeD 0 S.length), Cell.lst (rangeD 0 S.length), Cell.lst (rangeD 0 S.length).reverse, Cell.lst [D.ref M.length, D.ref (M.length + 1), D.ref (M.length + 1 + 1 + 1)]]) := ⟨_, rfl⟩
  have g0 : (M ++ [Cell.lst [], Cell.lst (rangeD 0 S.length), Cell.lst (rangeD 0 S.length), Cell.lst (rangeD 0 S.length).reverse, Cell.lst [D.ref M.length, D.ref (M.length + 1), D.ref (M.length + 1 + 1 + 1)]])[M.length]? = some (.lst (iL (nI []))) := by
    rw [List.getElem?_append_right (by omega)]; simp
  have g1 : (M ++ [Cell.lst [], Cell.lst (rangeD 0 S.length), Cell.lst (rangeD 0 S.length), Cell.lst (rangeD 0 S.length).reverse, Cell.lst [D.ref M.length, D.ref (M.length + 1), D.ref (M.length + 1 + 1 + 1)]])[M.length + 1]? = some (.lst (iL (nI (List.range S.length)))) := by
    rw [List.getElem?_append_right (by omega), ← range_0]; simp
  have g3 : (M ++ [Cell.lst [], Cell.lst (rangeD 0 S.length), Cell.lst (rangeD 0 S.length), Cell.lst (rangeD 0 S.length).reverse, Cell.lst [D.ref M.length, D.ref (M.length + 1), D.ref (M.length + 1 + 1 + 1)]])[M.length + 1 + 1 + 1]? = some (.lst (iL (nI (List.range S.length).reverse))) := by
    rw [List.getElem?_append_right (by omega), show M.length + 1 + 1 + 1 - M.length = 3 by omega, range_0]; simp [iL, nI]
  have g4 : (M ++ [Cell.lst [], Cell.lst (rangeD 0 S.length), Cell.lst (rangeD 0 S.length), Cell.lst (rangeD 0 S.length).reverse, Cell.lst [D.ref M.length, D.ref (M.length + 1), D.ref (M.length + 1 + 1 + 1)]])[M.length + 1 + 1 + 2]? = some (.lst [D.ref M.length, D.ref (M.length + 1), D.ref (M.length + 1 + 1 + 1)]) := by
    rw [List.getElem?_append_right (by omega), show M.length + 1 + 1 + 2 - M.length = 4 by omega]; rfl
  have el : (M ++ [Cell.lst [], Cell.lst (rangeD 0 S.length), Cell.lst (rangeD 0 S.length), Cell.lst (rangeD 0 S.length).reverse, Cell.lst [D.ref M.length, D.ref (M.length + 1), D.ref (M.length + 1 + 1 + 1)]]).length = M.length + 1 + 1 + 2 + 1 := by simp
  have ec : M ++ [Cell.lst [], Cell.lst (rangeD 0 S.length), Cell.lst (rangeD 0 S.length), Cell.lst (rangeD 0 S.length).reverse, Cell.lst [D.ref M.length, D.ref (M.length + 1), D.ref (M.length + 1 + 1 + 1)], Cell.lst []] = (M ++ [Cell.lst [], Cell.lst (rangeD 0 S.length), Cell.lst (rangeD 0 S.length), Cell.lst (rangeD 0 S.length).reverse, Cell.lst [D.ref M.length, D.ref (M.length + 1), D.ref (M.length + 1 + 1 + 1)]]) ++ [Cell.lst []] := by simp
  rw [ec]
  have h1 := h0.ext x1
  generalize M ++ [Cell.lst [], Cell.lst (rangeD 0 S.length), Cell.lst (rangeD 0 S.length), Cell.lst (rangeD 0 S.length).reverse, Cell.lst [D.ref M.length, D.ref (M.length + 1), D.ref (M.length + 1 + 1 + 1)]] = M1 at *
  have hcl : ∀ d ∈ [D.ref M.length, D.ref (M.length + 1), D.ref (M.length + 1 + 1 + 1)], CL S q M1 d ∧ ∀ a, d = .ref a → a < M1.length := by
    intro d hd
    simp at hd
    rcases hd with rfl | rfl | rfl
    · exact ⟨⟨_, [], rfl, by omega, g0, by simp, by simp⟩, fun a e => by cases e; omega⟩
    · exact ⟨⟨_, List.range S.length, rfl, by omega, g1, fun j hj => by simpa using hj, by simpa using h1000⟩, fun a e => by cases e; omega⟩
    · exact ⟨⟨_, (List.range S.length).reverse, rfl, by omega, g3, fun j hj => by simpa using hj, by simpa using h1000⟩, fun a e => by cases e; omega⟩
  by_cases h45 : (S.length : Int) < 45
  · rw [if_pos h45, ← el]
    refine c_inv (fun i acc M2 => acc.length = i ∧ (∀ j, j < M1.length → M2[j]? = M1[j]?) ∧ M2[M1.length]? = some (.lst acc) ∧ ∀ d ∈ acc, Fr S M1.length M2 d) (by simpa using lim30 _ (by omega)) ?_ ⟨rfl, fun j hj => List.getElem?_append_left hj, get_push, by simp⟩ ?_ ?_
    · rintro i acc M2 ⟨_, _, h, _⟩; exact ⟨rfl, h⟩
    · rintro i acc M2 hi ⟨e, hk, hg, ha⟩
      have hi' : i < S.length := by simpa using hi
      have l2 := lt_of_get hg
      simp [lim30]
      refine ⟨get_old hg, e, fun j hj => ?_, ?_, ?_⟩
      · rw [List.getElem?_set_ne (by omega), List.getElem?_append_left (by omega)]; exact hk j hj
      · rw [List.getElem?_set_self (by simp; omega)]
      · rintro d (hd | rfl)
        · obtain ⟨a, l, e, h1, h2, h3⟩ := ha d hd
          exact ⟨a, l, e, h1, by rw [List.getElem?_set_ne (by omega)]; exact get_old h2, h3⟩
        · exact ⟨M2.length, [i], rfl, by omega, by rw [List.getElem?_set_ne (by omega)]; exact get_push, by simpa using hi', by simp⟩
    · rintro acc M2 ⟨e, hk, hg, ha⟩
      have e' : acc.length = S.length := by simpa using e
      have hg4 : M2[M.length + 1 + 1 + 2]? = some (.lst [D.ref M.length, D.ref (M.length + 1), D.ref (M.length + 1 + 1 + 1)]) := (hk _ (by omega)).trans g4
      simp [hg4, hg]
      have x2 : Ext M1 M2 := Ext.of_get hk
      have l2 := lt_of_get hg
      refine ⟨lim30 _ (by omega), M2.length, _, ⟨get_push, ?_, by simp, by omega⟩, by simp; omega, (h1.ext x2).ext .push, rfl⟩
      intro d hd
      rcases List.mem_append.mp (show d ∈ [D.ref M.length, D.ref (M.length + 1), D.ref (M.length + 1 + 1 + 1)] ++ acc from hd) with hd | hd
      · exact ((hcl d hd).1.ext x2.keep).ext Keep.push
      · obtain ⟨a, l, e, h1, h2, h3⟩ := ha d hd
        exact ⟨a, l, e, by omega, get_old h2, h3⟩
  · rw [if_neg h45]
    exact ⟨_, _, ⟨g4, fun d hd => (hcl d hd).1, by simp, by omega⟩, by simp, h1, rfl⟩
theorem ref_ne {c k : Nat} {ys zs : List D} (hc : M[c]? = some (.lst ys)) (hn : ys ≠ []) (hr : ∀ d ∈ ys, ∃ a, d = .ref a) (hk : M[k]? = some (.lst zs)) (hz : ∀ d ∈ zs, ∀ a, d ≠ .ref a) : c ≠ k := fun e => by
  subst e
  rw [hc] at hk
  have e : ys = zs := by injection hk with e; injection e
  subst e
  cases ys with
  | nil => exact hn rfl
  | cons y ys =>
    obtain ⟨a, h⟩ := hr y List.mem_cons_self
    exact hz y List.mem_cons_self a h
theorem iL_nref {l : List Int} : ∀ d ∈ iL l, ∀ a, d ≠ .ref a := fun d hd a e => by
  obtain ⟨i, hi, rfl⟩ := List.mem_map.mp hd
  cases e
theorem sd_nref {S : List Stp} : ∀ d ∈ sd S, ∀ a, d ≠ .ref a := fun d hd a e => by
  obtain ⟨s, hs, rfl⟩ := List.mem_map.mp hd
  cases s <;> cases e
theorem CL.set {c : Nat} {ys zs : List D} {d : D} (h : CL S q M d) (hc : M[c]? = some (.lst ys)) (hn : ys ≠ []) (hr : ∀ d ∈ ys, ∃ a, d = .ref a) : CL S q (M.set c (.lst zs)) d := by
  obtain ⟨a, l, e, ne, h1, h2⟩ := h
  exact ⟨a, l, e, ne, by rw [List.getElem?_set_ne (ref_ne hc hn hr h1 iL_nref)]; exact h1, h2⟩
theorem Lis.write {c : Nat} {ys : List D} {d : D} (hL : Lis S q c ys M) (h : Sta S w q s t m M) (hd : CL S q M d) : Lis S q c (ys ++ [d]) (M.set c (.lst (ys ++ [d]))) ∧ Sta S w q s t m (M.set c (.lst (ys ++ [d]))) := by
  have hr : ∀ d ∈ ys, ∃ a, d = .ref a := fun d hd => by obtain ⟨a, l, e, _⟩ := hL.cl d hd; exact ⟨a, e⟩
  have lc := lt_of_get hL.at_
  refine ⟨⟨by rw [List.getElem?_set_self lc], fun x hx => ?_, by simp, hL.cq⟩, ⟨h.pool.keep (.set (n := c)) (Ne.symm hL.cq), ?_, ?_, ?_, h.sq, h.mq⟩⟩
  · rcases List.mem_append.mp hx with hx | hx
    · exact (hL.cl x hx).set hL.at_ hL.ne hr
    · rw [List.mem_singleton.mp hx]; exact hd.set hL.at_ hL.ne hr
  · rw [List.getElem?_set_ne (ref_ne hL.at_ hL.ne hr h.st sd_nref)]; exact h.st
  · obtain ⟨k, h1, h2⟩ := h.tp
    refine ⟨k, ?_, ?_⟩
    · have : c ≠ t := fun e => by subst e; have := hL.at_; rw [h1] at this; cases this
      rw [List.getElem?_set_ne this]; exact h1
    · rw [List.getElem?_set_ne (ref_ne hL.at_ hL.ne hr h2 sd_nref)]; exact h2
  · rw [List.getElem?_set_ne (ref_ne hL.at_ hL.ne hr h.mk_ iL_nref)]; exact h.mk_
def J2 (S : List Stp) (w : Int) (q s t m c i : Nat) (ev : MI.Env) (M : Mem) : Prop := ∃ a b d ys, Lis S q c ys M ∧ ys.length ≤ 100 + i ∧ Sta S w q s t m M ∧ ev = ev0 S w q s t m (some (.ref c)) a b d none
theorem six_of (S : List Stp) : ∃ n : Nat, (if (S.length : Int) < 1 then (S.length : Int) else 1) = (n : Int) ∧ n ≤ 1 ∧ (0 < n → 0 < S.length) := by
  by_cases h : (S.length : Int) < 1
  · exact ⟨0, by rw [if_pos h]; omega, by omega, by omega⟩
  · exact ⟨1, by rw [if_neg h]; rfl, by omega, by omega⟩
theorem la2_wp {c : Nat} {xs : List D} (hS : Good w S) (hL : Lis S q c xs M) (hx : xs.length ≤ 100) (h0 : Sta S w q s t m M) : wS (la2 (ev0 S w q s t m (some (.ref c)) none none none none) M) { nx := Q3 S w q s t m c } := by
  have h1000 := hS.1
  obtain ⟨n, en, hn1, hn0⟩ := six_of S
  have hm6 : mulOk 6 (n : Int) = true := mul1 (by decide)
  have hb6 : big (6 * (n : Int)) = true := big_of ⟨by omega, by omega⟩
  simp [la2, en, hm6, hb6]
  refine q_forR (J2 S w q s t m c) ⟨_, _, _, _, hL, hx, h0, rfl⟩ ?_ ?_
  · rintro i ev M1 hi ⟨a, b, d, ys, hL, hy, h1, rfl⟩
    simp [eDraw]
    refine draw_wp h1.pool (by decide) (by decide) fun x M2 x0 x1 hp2 k2 l2 => ?_
    have h2 := h1.keep k2 hp2
    have hc2 : M2[c]? = some (.lst ys) := (k2.at_ c (lt_of_get hL.at_) hL.cq).trans hL.at_
    obtain ⟨z, ez⟩ : ∃ z : Nat, 1 + x = (z : Int) := ⟨(1 + x).toNat, by omega⟩
    simp [ez]
    have hbz : big (z : Int) = true := big_of ⟨by omega, by omega⟩
    simp [hc2, hbz]
    refine c_draws (many := (S.length : Int)) rfl hp2 (fun _ => by omega) (by omega) (lim30 _ (by omega)) (fun x M' => by simp) fun M3 gs hp3 k3 l3 hg hgl hgb => ?_
    obtain ⟨l, rfl, hl⟩ := nI_of hgb
    have hgl' : l.length = z := by simpa using hgl
    have h3 := h2.keep k3 hp3
    have hc3 : M3[c]? = some (.lst ys) := (k3.at_ c (lt_of_get hc2) hL.cq).trans hc2
    have lc := lt_of_get hc3
    have q2 := hp2.lt
    have hyl : ys.length < lim := Nat.lt_of_lt_of_le (show ys.length < 3000 by omega) (lim30 _ (Nat.le_refl _))
    have hL3 : Lis S q c ys M3 := ⟨hc3, fun d hd => ((hL.cl d hd).ext k2).ext k3, hL.ne, hL.cq⟩
    have hnew : CL S q M3 (.ref M2.length) := ⟨_, l, rfl, by omega, hg, hl, by omega⟩
    obtain ⟨hL4, h4⟩ := hL3.write h3 hnew
    simp [hc3, hyl]
    exact ⟨_, _, _, _, hL4, by simp; omega, h4, rfl⟩
  · rintro ev M1 ⟨a, b, d, ys, hL, hy, h1, rfl⟩
    exact ⟨a, b, d, ys, hL, by omega, h1, rfl⟩
theorem pd_told {n r : Nat} {l : List Nat} {M : Mem} (hS : Good w S) (hn : M[n]? = some (.lst (iL (nI (needsOf S l))))) (hr : M[r]? = some (.lst [.ref n, .int (joinsOf S l : Nat)])) : Pd M 2 13000 (.ref r) (.list [.list ((nI (needsOf S l)).map .int), .int (joinsOf S l : Nat)]) := by
  have h1 := pd_nI hS needs_lt hn
  have hl := needs_len (S := S) (l := l)
  have hj : joinsOf S l ≤ 1000 := Nat.le_trans (List.length_filter_le _ _) (Nat.le_trans hl hS.1)
  have h2 : Pd M 1 10 (.int (joinsOf S l : Nat)) (.int (joinsOf S l : Nat)) := .i9 (by simp; omega)
  have := hS.1
  exact (Pd.lst hr (.cons h1 (.cons h2 .nil))).mono (by simp; omega)
theorem la3_wp {c : Nat} {xs : List D} {a b d : Option D} (hS : Good w S) (hL : Lis S q c xs M) (h0 : Sta S w q s t m M) : wS (la3 (ev0 S w q s t m (some (.ref c)) a b d none) M) { nx := Q4 S w q s t m c a b d xs } := by
  simp [la3, hL.at_, eSame]
  refine q_forI (fun i ev M1 => Ext M M1 ∧ ∃ e, ev = ev0 S w q s t m (some (.ref c)) a b d e) ?_ ⟨.refl, _, rfl⟩ ?_ ?_
  · rintro i ev M1 ⟨x, _⟩
    exact cellIs_at (x.get hL.at_) (CL.plain hL.cl)
  · rintro i ev M1 hi ⟨x, e, rfl⟩
    obtain ⟨a, l, e1, ne, hg, hl, hll⟩ := hL.cl _ (List.getElem_mem hi)
    have h1 := h0.ext x
    simp [e1]
    refine told_wp hS h1.tp (x.get hg) hl hll fun M2 r n x2 hn hr => ?_
    have h2 := h1.ext x2
    try simp
    refine due_wp h2.st hS h2.mk_ (x2.get (x.get hg)) hl fun M3 r' n' x3 hn' hr' => ?_
    try simp
    refine same_pd (pd_told hS (x3.get hn) (x3.get hr)) (pd_told hS hn' hr') (by decide) (by decide) (by rw [lim9]; decide) ?_
    simp
    exact (x.trans x2).trans x3
  · rintro ev M1 ⟨x, e, rfl⟩
    exact ⟨e, ⟨x.get hL.at_, fun d hd => (hL.cl d hd).ext x.keep, hL.ne, hL.cq⟩, h0.ext x, rfl⟩
def Stp.p : Stp → PyData
  | .place w => .tuple [.str sPlace, .int w]
  | .one => .tuple [.str sOne]
  | .turn c => .tuple [.str sTurn, .int (c : Nat)]
  | .join a b => .tuple [.str sJoin, .int (a : Nat), .int (b : Nat)]
  | .act c xs => .tuple [.str sAct, .int (c : Nat), .tuple (xs.map .int)]
theorem pd_stp {x : Stp} {i : Nat} (hx : x.Ok w i) (hw : w ≤ 200) (hi : i ≤ 1000) : Pd M 2 200 x.d x.p := by
  have s1 : ∀ n, Pd M n 10 (.str sPlace) (.str sPlace) := fun n => .str (by decide +kernel) (by decide +kernel)
  have s2 : ∀ n, Pd M n 10 (.str sOne) (.str sOne) := fun n => .str (by decide +kernel) (by decide +kernel)
  have s3 : ∀ n, Pd M n 10 (.str sTurn) (.str sTurn) := fun n => .str (by decide +kernel) (by decide +kernel)
  have s4 : ∀ n, Pd M n 10 (.str sJoin) (.str sJoin) := fun n => .str (by decide +kernel) (by decide +kernel)
  have s5 : ∀ n, Pd M n 10 (.str sAct) (.str sAct) := fun n => .str (by decide +kernel) (by decide +kernel)
  cases x with
  | place y => exact (Pd.tup (.cons (s1 1) (.cons (.i9 (by have := hx.1; have := hx.2; omega)) .nil))).mono (by simp)
  | one => exact (Pd.tup (.cons (s2 1) .nil)).mono (by simp)
  | turn c => exact (Pd.tup (.cons (s3 1) (.cons (.i9 (by have : c < i := hx; simp; omega)) .nil))).mono (by simp)
  | join a b => exact (Pd.tup (.cons (s4 1) (.cons (.i9 (by have := hx.1; simp; omega)) (.cons (.i9 (by have := hx.2; simp; omega)) .nil)))).mono (by simp)
  | act c xs =>
    obtain ⟨h1, h2, h3⟩ := hx
    have hxs : Pd M 1 50 (.tup (iL xs)) (.tuple (xs.map .int)) := (Pd.tup (n := 0) (PdL.ints fun x hx => by have := h3 x hx; omega)).mono (by simp; omega)
    exact (Pd.tup (.cons (s5 1) (.cons (.i9 (by simp; omega)) (.cons hxs .nil)))).mono (by simp)
theorem pd_sd {k : Nat} (hS : Good w S) (hw : w ≤ 200) (hk : M[k]? = some (.lst (sd S))) : Pd M 3 210000 (.ref k) (.list (S.map Stp.p)) := by
  have : PdL M 2 (200 * S.length) (sd S) (S.map Stp.p) := .map fun x hx => by
    obtain ⟨i, hi, e⟩ := List.getElem_of_mem hx
    exact pd_stp (hS.2 i x (by rw [List.getElem?_eq_getElem hi, e])) hw (by have := hS.1; omega)
  have h1 := hS.1
  exact (Pd.lst hk this).mono (by simp; omega)
theorem la4_wp {c : Nat} {xs : List D} {a b d e : Option D} {p : SP} (hS : Good w S) (hw : w ≤ 200) (hL : Lis S q c xs M) (h0 : Sta S w q s t m M) (hp : ∀ M, p.rt (.bl true) M) : wS (la4 (ev0 S w q s t m (some (.ref c)) a b d e) M) p := by
  obtain ⟨y, hy, ey⟩ := atI_last hL.ne
  obtain ⟨k, l, e1, ne, hg, hl, hll⟩ := hL.cl _ hy
  subst e1
  obtain ⟨kt, ht, hkt⟩ := h0.tp
  simp [la4, hL.at_, ey, hg, ht, eSame, lim30]
  refine needed_wp hS (h0.tp.ext .push) get_push hl fun M2 n x2 _ hn => ?_
  have xx : Ext M M2 := Ext.push.trans x2
  have h2 := h0.ext xx
  simp [xx.get ht, xx.get hg, lim30]
  refine joins_wp hS (h2.tp.ext .push) get_push hl fun M3 x3 => ?_
  have xy : Ext M2 M3 := Ext.push.trans x3
  have h3 := h2.ext xy
  have h4 := h3.ext (.push (c := Cell.lst [D.ref n, D.int (joinsOf S l : Nat)]))
  try simp [lim30]
  refine due_wp h4.st hS h4.mk_ (get_old (xy.get (xx.get hg))) hl fun M5 r' n' x5 hn' hr' => ?_
  have h5 := h4.ext x5
  try simp
  refine same_pd (pd_told hS (x5.get (get_old (xy.get hn))) (x5.get get_push)) (pd_told hS hn' hr') (by decide) (by decide) (by rw [lim9]; decide) ?_
  simp
  refine refuses_wp hS h5.tp h5.pool fun M6 k6 p6 => ?_
  have h6 := h5.keep k6 p6
  try simp
  obtain ⟨kt', ht', hkt'⟩ := h6.tp
  simp [ht']
  refine steps_wp h6.tp ?_
  try simp [eSame]
  refine same_pd (pd_sd hS hw get_push) (pd_sd hS hw (get_old h6.st)) (by decide) (by decide) (by rw [lim9]; decide) ?_
  try simp
  exact hp _
theorem lb3 {c : Nat} {xs : List D} {a b d : Option D} {p : SP} (hS : Good w S) (hw : w ≤ 200) (hL : Lis S q c xs M) (h0 : Sta S w q s t m M) (hp : ∀ M, p.rt (.bl true) M) : wS (sSeq la3 la4 (ev0 S w q s t m (some (.ref c)) a b d none) M) p := by
  refine wS_cut0 (Q4 S w q s t m c a b d xs) (la3_wp hS hL h0) ?_
  rintro _ M1 ⟨e, hL, h0, rfl⟩
  exact la4_wp hS hw hL h0 hp
theorem lb2 {c : Nat} {xs : List D} {p : SP} (hS : Good w S) (hw : w ≤ 200) (hL : Lis S q c xs M) (hx : xs.length ≤ 100) (h0 : Sta S w q s t m M) (hp : ∀ M, p.rt (.bl true) M) : wS (sSeq la2 (sSeq la3 la4) (ev0 S w q s t m (some (.ref c)) none none none none) M) p := by
  refine wS_cut0 (Q3 S w q s t m c) (la2_wp hS hL hx h0) ?_
  rintro _ M1 ⟨a, b, d, xs, hL, hx, h0, rfl⟩
  exact lb3 hS hw hL h0 hp
theorem lb1 {x : MI.Env} {p : SP} (hS : Good w S) (hw : w ≤ 200) (h0 : Sta S w q s t m M) (hp : ∀ M, p.rt (.bl true) M) (hx : x = ev0 S w q s t m none none none none none) : wS (sSeq la1 (sSeq la2 (sSeq la3 la4)) x M) p := by
  refine wS_cut0 (Q2 S w q s t m) (la1_wp hS h0 hx) ?_
  rintro _ M1 ⟨c, xs, hL, hx, h0, rfl⟩
  exact lb2 hS hw hL hx h0 hp
end
theorem lb0 {x : MI.Env} {M : Mem} {p : SP} (h : wS (la0 x M) { nx := Q1 }) (hp : ∀ M, p.rt (.bl true) M) : wS (sSeq la0 (sSeq la1 (sSeq la2 (sSeq la3 la4))) x M) p := by
  refine wS_cut0 Q1 h ?_
  intro ev M1 h
  obtain ⟨S, w, q, s, t, m, hS, hw, h0, e⟩ := h
  exact lb1 hS hw h0 hp e
theorem law_true (ns : List Int) (hl : ns.length ≤ 63) : ∃ M, f_law [.ref 0] [.rls (ns.map .int)] = .ok (.bl true) M := by
  suffices h : wE (f_law [.ref 0] [.rls (iL ns)]) (fun d _ => d = .bl true) noX by
    obtain ⟨d, M, e, rfl⟩ := wE.get h
    exact ⟨M, e⟩
  unfold f_law
  rw [w_run, la_eq]
  exact lb0 (la0_wp ns hl) fun _ => rfl
end K32

set_option Elab.async false
set_option linter.all false
set_option maxRecDepth 100000
set_option maxHeartbeats 8000000
namespace K32
open PySem PySem.Spec PyProof.Rows L2 MI
theorem fin_mk {P : Program} {w : World} {K : PySem.W.Frag} {h : Heap} {mg : Str → Option Value} {fa : Addr} (X : K.In h) (Gr : h.Ns mainGlobals mg) (hfa : mg "law" = some (.ref fa))
    {a_is_whole : Addr} {od_is_whole an_is_whole : Option Addr} {sl_is_whole : Array (Option Value)} {oc_is_whole kV_is_whole dc_is_whole pm_is_whole cd_is_whole ct_is_whole : Value}
    {a__is_within : Addr} {od__is_within an__is_within : Option Addr} {sl__is_within : Array (Option Value)} {oc__is_within kV__is_within dc__is_within pm__is_within cd__is_within ct__is_within : Value}
    {a_check_size : Addr} {od_check_size an_check_size : Option Addr} {sl_check_size : Array (Option Value)} {oc_check_size kV_check_size dc_check_size pm_check_size cd_check_size ct_check_size : Value}
    {a__is_below : Addr} {od__is_below an__is_below : Option Addr} {sl__is_below : Array (Option Value)} {oc__is_below kV__is_below dc__is_below pm__is_below cd__is_below ct__is_below : Value}
    {a_is_change_word : Addr} {od_is_change_word an_is_change_word : Option Addr} {sl_is_change_word : Array (Option Value)} {oc_is_change_word kV_is_change_word dc_is_change_word pm_is_change_word cd_is_change_word ct_is_change_word : Value}
    {a_is_step : Addr} {od_is_step an_is_step : Option Addr} {sl_is_step : Array (Option Value)} {oc_is_step kV_is_step dc_is_step pm_is_step cd_is_step ct_is_step : Value}
    {a_Tape___init__ : Addr} {od_Tape___init__ an_Tape___init__ : Option Addr} {sl_Tape___init__ : Array (Option Value)} {oc_Tape___init__ kV_Tape___init__ dc_Tape___init__ pm_Tape___init__ cd_Tape___init__ ct_Tape___init__ : Value}
    {a__law_stock : Addr} {od__law_stock an__law_stock : Option Addr} {sl__law_stock : Array (Option Value)} {oc__law_stock kV__law_stock dc__law_stock pm__law_stock cd__law_stock ct__law_stock : Value}
    {a__law_draw : Addr} {od__law_draw an__law_draw : Option Addr} {sl__law_draw : Array (Option Value)} {oc__law_draw kV__law_draw dc__law_draw pm__law_draw cd__law_draw ct__law_draw : Value}
    {a__law_step : Addr} {od__law_step an__law_step : Option Addr} {sl__law_step : Array (Option Value)} {oc__law_step kV__law_step dc__law_step pm__law_step cd__law_step ct__law_step : Value}
    {a__law_tape : Addr} {od__law_tape an__law_tape : Option Addr} {sl__law_tape : Array (Option Value)} {oc__law_tape kV__law_tape dc__law_tape pm__law_tape cd__law_tape ct__law_tape : Value}
    {a__law_named : Addr} {od__law_named an__law_named : Option Addr} {sl__law_named : Array (Option Value)} {oc__law_named kV__law_named dc__law_named pm__law_named cd__law_named ct__law_named : Value}
    {a__law_masks : Addr} {od__law_masks an__law_masks : Option Addr} {sl__law_masks : Array (Option Value)} {oc__law_masks kV__law_masks dc__law_masks pm__law_masks cd__law_masks ct__law_masks : Value}
    {a_Tape__check_cell : Addr} {od_Tape__check_cell an_Tape__check_cell : Option Addr} {sl_Tape__check_cell : Array (Option Value)} {oc_Tape__check_cell kV_Tape__check_cell dc_Tape__check_cell pm_Tape__check_cell cd_Tape__check_cell ct_Tape__check_cell : Value}
    {a_step_cells : Addr} {od_step_cells an_step_cells : Option Addr} {sl_step_cells : Array (Option Value)} {oc_step_cells kV_step_cells dc_step_cells pm_step_cells cd_step_cells ct_step_cells : Value}
    {a_Tape_needed : Addr} {od_Tape_needed an_Tape_needed : Option Addr} {sl_Tape_needed : Array (Option Value)} {oc_Tape_needed kV_Tape_needed dc_Tape_needed pm_Tape_needed cd_Tape_needed ct_Tape_needed : Value}
    {a_Tape_joins : Addr} {od_Tape_joins an_Tape_joins : Option Addr} {sl_Tape_joins : Array (Option Value)} {oc_Tape_joins kV_Tape_joins dc_Tape_joins pm_Tape_joins cd_Tape_joins ct_Tape_joins : Value}
    {a__law_same : Addr} {od__law_same an__law_same : Option Addr} {sl__law_same : Array (Option Value)} {oc__law_same kV__law_same dc__law_same pm__law_same cd__law_same ct__law_same : Value}
    {a__law_refused : Addr} {od__law_refused an__law_refused : Option Addr} {sl__law_refused : Array (Option Value)} {oc__law_refused kV__law_refused dc__law_refused pm__law_refused cd__law_refused ct__law_refused : Value}
    {a__law_refuses : Addr} {od__law_refuses an__law_refuses : Option Addr} {sl__law_refuses : Array (Option Value)} {oc__law_refuses kV__law_refuses dc__law_refuses pm__law_refuses cd__law_refuses ct__law_refuses : Value}
    {a_Tape_steps : Addr} {od_Tape_steps an_Tape_steps : Option Addr} {sl_Tape_steps : Array (Option Value)} {oc_Tape_steps kV_Tape_steps dc_Tape_steps pm_Tape_steps cd_Tape_steps ct_Tape_steps : Value}
    {a__law_due : Addr} {od__law_due an__law_due : Option Addr} {sl__law_due : Array (Option Value)} {oc__law_due kV__law_due dc__law_due pm__law_due cd__law_due ct__law_due : Value}
    {a__law_told : Addr} {od__law_told an__law_told : Option Addr} {sl__law_told : Array (Option Value)} {oc__law_told kV__law_told dc__law_told pm__law_told cd__law_told ct__law_told : Value}
    {a_law : Addr} {od_law an_law : Option Addr} {sl_law : Array (Option Value)} {oc_law kV_law dc_law pm_law cd_law ct_law : Value}
    {C_AskError : Addr}
    {C_BadSize : Addr}
    {C_BadStep : Addr}
    {C_NoCell : Addr}
    {C_NoPlace : Addr}
    {C_Tape : Addr}
    {N_BadSize : Addr} {nm_BadSize q_BadSize : Str} {bs_BadSize bm_BadSize sub_BadSize : List Value} {sn_BadSize : List Str} {ab_BadSize : Bool} {col_BadSize : Option Bool} {dd_BadSize : Option Addr} {m0_BadSize m1_BadSize m2_BadSize m3_BadSize m5_BadSize : Option Value}
    {f_BadSize cc_BadSize D_BadSize cda_BadSize : Addr} {qual_BadSize self_BadSize text_BadSize file_BadSize : Str} {scope_BadSize : Scope} {st_BadSize : List Stmt} {params_BadSize : Arguments} {dV_BadSize kV_BadSize doc_BadSize pm_BadSize ct_BadSize oc_BadSize : Value} {an_BadSize od_BadSize : Option Addr} {osl_BadSize : Array (Option Value)} {p0_BadSize p1_BadSize p2_BadSize p3_BadSize p4_BadSize p5_BadSize : Pos} {kk_BadSize : Nat} {ar_BadSize : Arg} {tf_BadSize : Tok} {vs0_BadSize : Array Value} {ocl_BadSize ccl_BadSize : Value} {ocd_BadSize ccd_BadSize : Option Addr} {csl_BadSize ccs_BadSize : Array (Option Value)} {cdD_BadSize : ClassData} {pl_BadSize : Addr → Sem Bool}
    {N_BadStep : Addr} {nm_BadStep q_BadStep : Str} {bs_BadStep bm_BadStep sub_BadStep : List Value} {sn_BadStep : List Str} {ab_BadStep : Bool} {col_BadStep : Option Bool} {dd_BadStep : Option Addr} {m0_BadStep m1_BadStep m2_BadStep m3_BadStep m5_BadStep : Option Value}
    {f_BadStep cc_BadStep D_BadStep cda_BadStep : Addr} {qual_BadStep self_BadStep text_BadStep file_BadStep : Str} {scope_BadStep : Scope} {st_BadStep : List Stmt} {params_BadStep : Arguments} {dV_BadStep kV_BadStep doc_BadStep pm_BadStep ct_BadStep oc_BadStep : Value} {an_BadStep od_BadStep : Option Addr} {osl_BadStep : Array (Option Value)} {p0_BadStep p1_BadStep p2_BadStep p3_BadStep p4_BadStep p5_BadStep : Pos} {kk_BadStep : Nat} {ar_BadStep : Arg} {tf_BadStep : Tok} {vs0_BadStep : Array Value} {ocl_BadStep ccl_BadStep : Value} {ocd_BadStep ccd_BadStep : Option Addr} {csl_BadStep ccs_BadStep : Array (Option Value)} {cdD_BadStep : ClassData} {pl_BadStep : Addr → Sem Bool}
    {N_NoCell : Addr} {nm_NoCell q_NoCell : Str} {bs_NoCell bm_NoCell sub_NoCell : List Value} {sn_NoCell : List Str} {ab_NoCell : Bool} {col_NoCell : Option Bool} {dd_NoCell : Option Addr} {m0_NoCell m1_NoCell m2_NoCell m3_NoCell m5_NoCell : Option Value}
    {f_NoCell cc_NoCell D_NoCell cda_NoCell : Addr} {qual_NoCell self_NoCell text_NoCell file_NoCell : Str} {scope_NoCell : Scope} {st_NoCell : List Stmt} {params_NoCell : Arguments} {dV_NoCell kV_NoCell doc_NoCell pm_NoCell ct_NoCell oc_NoCell : Value} {an_NoCell od_NoCell : Option Addr} {osl_NoCell : Array (Option Value)} {p0_NoCell p1_NoCell p2_NoCell p3_NoCell p4_NoCell p5_NoCell : Pos} {kk_NoCell : Nat} {ar_NoCell : Arg} {tf_NoCell : Tok} {vs0_NoCell : Array Value} {ocl_NoCell ccl_NoCell : Value} {ocd_NoCell ccd_NoCell : Option Addr} {csl_NoCell ccs_NoCell : Array (Option Value)} {cdD_NoCell : ClassData} {pl_NoCell : Addr → Sem Bool}
    {u_MOST_LETTERS : Value}
    (h1_is_whole : PySem.W.nsIn K mainGlobals "is_whole" = some (some (.ref a_is_whole)))
    (h2_is_whole : K.lookup a_is_whole = some ⟨oc_is_whole, od_is_whole, .func (PySem.W.fnOf "is_whole" "is_whole" (defArgs (topS 9)) (defBody (topS 9)) (defScope (topS 9)) .none kV_is_whole dc_is_whole pm_is_whole an_is_whole cd_is_whole ct_is_whole), sl_is_whole⟩)
    (h3_is_whole : PySem.W.codeIn K cd_is_whole "is_whole" = true)
    (h4_is_whole : PySem.W.keepIn K (.ref a_is_whole) = true)
    (h1__is_within : PySem.W.nsIn K mainGlobals "_is_within" = some (some (.ref a__is_within)))
    (h2__is_within : K.lookup a__is_within = some ⟨oc__is_within, od__is_within, .func (PySem.W.fnOf "_is_within" "_is_within" (defArgs (topS 10)) (defBody (topS 10)) (defScope (topS 10)) .none kV__is_within dc__is_within pm__is_within an__is_within cd__is_within ct__is_within), sl__is_within⟩)
    (h3__is_within : PySem.W.codeIn K cd__is_within "_is_within" = true)
    (h4__is_within : PySem.W.keepIn K (.ref a__is_within) = true)
    (h1_check_size : PySem.W.nsIn K mainGlobals "check_size" = some (some (.ref a_check_size)))
    (h2_check_size : K.lookup a_check_size = some ⟨oc_check_size, od_check_size, .func (PySem.W.fnOf "check_size" "check_size" (defArgs (topS 11)) (defBody (topS 11)) (defScope (topS 11)) .none kV_check_size dc_check_size pm_check_size an_check_size cd_check_size ct_check_size), sl_check_size⟩)
    (h3_check_size : PySem.W.codeIn K cd_check_size "check_size" = true)
    (h4_check_size : PySem.W.keepIn K (.ref a_check_size) = true)
    (h1__is_below : PySem.W.nsIn K mainGlobals "_is_below" = some (some (.ref a__is_below)))
    (h2__is_below : K.lookup a__is_below = some ⟨oc__is_below, od__is_below, .func (PySem.W.fnOf "_is_below" "_is_below" (defArgs (topS 19)) (defBody (topS 19)) (defScope (topS 19)) .none kV__is_below dc__is_below pm__is_below an__is_below cd__is_below ct__is_below), sl__is_below⟩)
    (h3__is_below : PySem.W.codeIn K cd__is_below "_is_below" = true)
    (h4__is_below : PySem.W.keepIn K (.ref a__is_below) = true)
    (h1_is_change_word : PySem.W.nsIn K mainGlobals "is_change_word" = some (some (.ref a_is_change_word)))
    (h2_is_change_word : K.lookup a_is_change_word = some ⟨oc_is_change_word, od_is_change_word, .func (PySem.W.fnOf "is_change_word" "is_change_word" (defArgs (topS 13)) (defBody (topS 13)) (defScope (topS 13)) .none kV_is_change_word dc_is_change_word pm_is_change_word an_is_change_word cd_is_change_word ct_is_change_word), sl_is_change_word⟩)
    (h3_is_change_word : PySem.W.codeIn K cd_is_change_word "is_change_word" = true)
    (h4_is_change_word : PySem.W.keepIn K (.ref a_is_change_word) = true)
    (h1_is_step : PySem.W.nsIn K mainGlobals "is_step" = some (some (.ref a_is_step)))
    (h2_is_step : K.lookup a_is_step = some ⟨oc_is_step, od_is_step, .func (PySem.W.fnOf "is_step" "is_step" (defArgs (topS 20)) (defBody (topS 20)) (defScope (topS 20)) .none kV_is_step dc_is_step pm_is_step an_is_step cd_is_step ct_is_step), sl_is_step⟩)
    (h3_is_step : PySem.W.codeIn K cd_is_step "is_step" = true)
    (h4_is_step : PySem.W.keepIn K (.ref a_is_step) = true)
    (h1__law_stock : PySem.W.nsIn K mainGlobals "_law_stock" = some (some (.ref a__law_stock)))
    (h2__law_stock : K.lookup a__law_stock = some ⟨oc__law_stock, od__law_stock, .func (PySem.W.fnOf "_law_stock" "_law_stock" (defArgs (topS 26)) (defBody (topS 26)) (defScope (topS 26)) .none kV__law_stock dc__law_stock pm__law_stock an__law_stock cd__law_stock ct__law_stock), sl__law_stock⟩)
    (h3__law_stock : PySem.W.codeIn K cd__law_stock "_law_stock" = true)
    (h4__law_stock : PySem.W.keepIn K (.ref a__law_stock) = true)
    (h1__law_draw : PySem.W.nsIn K mainGlobals "_law_draw" = some (some (.ref a__law_draw)))
    (h2__law_draw : K.lookup a__law_draw = some ⟨oc__law_draw, od__law_draw, .func (PySem.W.fnOf "_law_draw" "_law_draw" (defArgs (topS 27)) (defBody (topS 27)) (defScope (topS 27)) .none kV__law_draw dc__law_draw pm__law_draw an__law_draw cd__law_draw ct__law_draw), sl__law_draw⟩)
    (h3__law_draw : PySem.W.codeIn K cd__law_draw "_law_draw" = true)
    (h4__law_draw : PySem.W.keepIn K (.ref a__law_draw) = true)
    (h1__law_step : PySem.W.nsIn K mainGlobals "_law_step" = some (some (.ref a__law_step)))
    (h2__law_step : K.lookup a__law_step = some ⟨oc__law_step, od__law_step, .func (PySem.W.fnOf "_law_step" "_law_step" (defArgs (topS 29)) (defBody (topS 29)) (defScope (topS 29)) .none kV__law_step dc__law_step pm__law_step an__law_step cd__law_step ct__law_step), sl__law_step⟩)
    (h3__law_step : PySem.W.codeIn K cd__law_step "_law_step" = true)
    (h4__law_step : PySem.W.keepIn K (.ref a__law_step) = true)
    (h1__law_tape : PySem.W.nsIn K mainGlobals "_law_tape" = some (some (.ref a__law_tape)))
    (h2__law_tape : K.lookup a__law_tape = some ⟨oc__law_tape, od__law_tape, .func (PySem.W.fnOf "_law_tape" "_law_tape" (defArgs (topS 36)) (defBody (topS 36)) (defScope (topS 36)) .none kV__law_tape dc__law_tape pm__law_tape an__law_tape cd__law_tape ct__law_tape), sl__law_tape⟩)
    (h3__law_tape : PySem.W.codeIn K cd__law_tape "_law_tape" = true)
    (h4__law_tape : PySem.W.keepIn K (.ref a__law_tape) = true)
    (h1__law_named : PySem.W.nsIn K mainGlobals "_law_named" = some (some (.ref a__law_named)))
    (h2__law_named : K.lookup a__law_named = some ⟨oc__law_named, od__law_named, .func (PySem.W.fnOf "_law_named" "_law_named" (defArgs (topS 30)) (defBody (topS 30)) (defScope (topS 30)) .none kV__law_named dc__law_named pm__law_named an__law_named cd__law_named ct__law_named), sl__law_named⟩)
    (h3__law_named : PySem.W.codeIn K cd__law_named "_law_named" = true)
    (h4__law_named : PySem.W.keepIn K (.ref a__law_named) = true)
    (h1__law_masks : PySem.W.nsIn K mainGlobals "_law_masks" = some (some (.ref a__law_masks)))
    (h2__law_masks : K.lookup a__law_masks = some ⟨oc__law_masks, od__law_masks, .func (PySem.W.fnOf "_law_masks" "_law_masks" (defArgs (topS 31)) (defBody (topS 31)) (defScope (topS 31)) .none kV__law_masks dc__law_masks pm__law_masks an__law_masks cd__law_masks ct__law_masks), sl__law_masks⟩)
    (h3__law_masks : PySem.W.codeIn K cd__law_masks "_law_masks" = true)
    (h4__law_masks : PySem.W.keepIn K (.ref a__law_masks) = true)
    (h1_step_cells : PySem.W.nsIn K mainGlobals "step_cells" = some (some (.ref a_step_cells)))
    (h2_step_cells : K.lookup a_step_cells = some ⟨oc_step_cells, od_step_cells, .func (PySem.W.fnOf "step_cells" "step_cells" (defArgs (topS 21)) (defBody (topS 21)) (defScope (topS 21)) .none kV_step_cells dc_step_cells pm_step_cells an_step_cells cd_step_cells ct_step_cells), sl_step_cells⟩)
    (h3_step_cells : PySem.W.codeIn K cd_step_cells "step_cells" = true)
    (h4_step_cells : PySem.W.keepIn K (.ref a_step_cells) = true)
    (h1__law_same : PySem.W.nsIn K mainGlobals "_law_same" = some (some (.ref a__law_same)))
    (h2__law_same : K.lookup a__law_same = some ⟨oc__law_same, od__law_same, .func (PySem.W.fnOf "_law_same" "_law_same" (defArgs (topS 28)) (defBody (topS 28)) (defScope (topS 28)) .none kV__law_same dc__law_same pm__law_same an__law_same cd__law_same ct__law_same), sl__law_same⟩)
    (h3__law_same : PySem.W.codeIn K cd__law_same "_law_same" = true)
    (h4__law_same : PySem.W.keepIn K (.ref a__law_same) = true)
    (h1__law_refused : PySem.W.nsIn K mainGlobals "_law_refused" = some (some (.ref a__law_refused)))
    (h2__law_refused : K.lookup a__law_refused = some ⟨oc__law_refused, od__law_refused, .func (PySem.W.fnOf "_law_refused" "_law_refused" (defArgs (topS 34)) (defBody (topS 34)) (defScope (topS 34)) .none kV__law_refused dc__law_refused pm__law_refused an__law_refused cd__law_refused ct__law_refused), sl__law_refused⟩)
    (h3__law_refused : PySem.W.codeIn K cd__law_refused "_law_refused" = true)
    (h4__law_refused : PySem.W.keepIn K (.ref a__law_refused) = true)
    (h1__law_refuses : PySem.W.nsIn K mainGlobals "_law_refuses" = some (some (.ref a__law_refuses)))
    (h2__law_refuses : K.lookup a__law_refuses = some ⟨oc__law_refuses, od__law_refuses, .func (PySem.W.fnOf "_law_refuses" "_law_refuses" (defArgs (topS 35)) (defBody (topS 35)) (defScope (topS 35)) .none kV__law_refuses dc__law_refuses pm__law_refuses an__law_refuses cd__law_refuses ct__law_refuses), sl__law_refuses⟩)
    (h3__law_refuses : PySem.W.codeIn K cd__law_refuses "_law_refuses" = true)
    (h4__law_refuses : PySem.W.keepIn K (.ref a__law_refuses) = true)
    (h1__law_due : PySem.W.nsIn K mainGlobals "_law_due" = some (some (.ref a__law_due)))
    (h2__law_due : K.lookup a__law_due = some ⟨oc__law_due, od__law_due, .func (PySem.W.fnOf "_law_due" "_law_due" (defArgs (topS 32)) (defBody (topS 32)) (defScope (topS 32)) .none kV__law_due dc__law_due pm__law_due an__law_due cd__law_due ct__law_due), sl__law_due⟩)
    (h3__law_due : PySem.W.codeIn K cd__law_due "_law_due" = true)
    (h4__law_due : PySem.W.keepIn K (.ref a__law_due) = true)
    (h1__law_told : PySem.W.nsIn K mainGlobals "_law_told" = some (some (.ref a__law_told)))
    (h2__law_told : K.lookup a__law_told = some ⟨oc__law_told, od__law_told, .func (PySem.W.fnOf "_law_told" "_law_told" (defArgs (topS 33)) (defBody (topS 33)) (defScope (topS 33)) .none kV__law_told dc__law_told pm__law_told an__law_told cd__law_told ct__law_told), sl__law_told⟩)
    (h3__law_told : PySem.W.codeIn K cd__law_told "_law_told" = true)
    (h4__law_told : PySem.W.keepIn K (.ref a__law_told) = true)
    (h1_law : PySem.W.nsIn K mainGlobals "law" = some (some (.ref a_law)))
    (h2_law : K.lookup a_law = some ⟨oc_law, od_law, .func (PySem.W.fnOf "law" "law" (defArgs (topS 37)) (defBody (topS 37)) (defScope (topS 37)) .none kV_law dc_law pm_law an_law cd_law ct_law), sl_law⟩)
    (h3_law : PySem.W.codeIn K cd_law "law" = true)
    (h4_law : PySem.W.keepIn K (.ref a_law) = true)
    (g1_AskError : PySem.W.nsIn K mainGlobals "AskError" = some (some (.ref C_AskError)))
    (g1_BadSize : PySem.W.nsIn K mainGlobals "BadSize" = some (some (.ref C_BadSize)))
    (g1_BadStep : PySem.W.nsIn K mainGlobals "BadStep" = some (some (.ref C_BadStep)))
    (g1_NoCell : PySem.W.nsIn K mainGlobals "NoCell" = some (some (.ref C_NoCell)))
    (g1_NoPlace : PySem.W.nsIn K mainGlobals "NoPlace" = some (some (.ref C_NoPlace)))
    (g1_Tape : PySem.W.nsIn K mainGlobals "Tape" = some (some (.ref C_Tape)))
    (mt1_Tape__check_cell : PySem.W.findIn K (.ref C_Tape) "_check_cell" = some (some (.ref a_Tape__check_cell)))
    (mf_Tape__check_cell : PySem.W.isFn K (.ref a_Tape__check_cell) = true)
    (h2_Tape__check_cell : K.lookup a_Tape__check_cell = some ⟨oc_Tape__check_cell, od_Tape__check_cell, .func (PySem.W.fnOf "_check_cell" "Tape._check_cell" (defArgs (mthS (topS 24) 4)) (defBody (mthS (topS 24) 4)) (defScope (mthS (topS 24) 4)) .none kV_Tape__check_cell dc_Tape__check_cell pm_Tape__check_cell an_Tape__check_cell cd_Tape__check_cell ct_Tape__check_cell), sl_Tape__check_cell⟩)
    (h3_Tape__check_cell : PySem.W.codeIn K cd_Tape__check_cell "Tape._check_cell" = true)
    (h4_Tape__check_cell : PySem.W.keepIn K (.ref a_Tape__check_cell) = true)
    (mt1_Tape_joins : PySem.W.findIn K (.ref C_Tape) "joins" = some (some (.ref a_Tape_joins)))
    (mf_Tape_joins : PySem.W.isFn K (.ref a_Tape_joins) = true)
    (h2_Tape_joins : K.lookup a_Tape_joins = some ⟨oc_Tape_joins, od_Tape_joins, .func (PySem.W.fnOf "joins" "Tape.joins" (defArgs (mthS (topS 24) 7)) (defBody (mthS (topS 24) 7)) (defScope (mthS (topS 24) 7)) .none kV_Tape_joins dc_Tape_joins pm_Tape_joins an_Tape_joins cd_Tape_joins ct_Tape_joins), sl_Tape_joins⟩)
    (h3_Tape_joins : PySem.W.codeIn K cd_Tape_joins "Tape.joins" = true)
    (h4_Tape_joins : PySem.W.keepIn K (.ref a_Tape_joins) = true)
    (mt1_Tape_needed : PySem.W.findIn K (.ref C_Tape) "needed" = some (some (.ref a_Tape_needed)))
    (mf_Tape_needed : PySem.W.isFn K (.ref a_Tape_needed) = true)
    (h2_Tape_needed : K.lookup a_Tape_needed = some ⟨oc_Tape_needed, od_Tape_needed, .func (PySem.W.fnOf "needed" "Tape.needed" (defArgs (mthS (topS 24) 6)) (defBody (mthS (topS 24) 6)) (defScope (mthS (topS 24) 6)) .none kV_Tape_needed dc_Tape_needed pm_Tape_needed an_Tape_needed cd_Tape_needed ct_Tape_needed), sl_Tape_needed⟩)
    (h3_Tape_needed : PySem.W.codeIn K cd_Tape_needed "Tape.needed" = true)
    (h4_Tape_needed : PySem.W.keepIn K (.ref a_Tape_needed) = true)
    (mt1_Tape_steps : PySem.W.findIn K (.ref C_Tape) "steps" = some (some (.ref a_Tape_steps)))
    (mf_Tape_steps : PySem.W.isFn K (.ref a_Tape_steps) = true)
    (h2_Tape_steps : K.lookup a_Tape_steps = some ⟨oc_Tape_steps, od_Tape_steps, .func (PySem.W.fnOf "steps" "Tape.steps" (defArgs (mthS (topS 24) 3)) (defBody (mthS (topS 24) 3)) (defScope (mthS (topS 24) 3)) .none kV_Tape_steps dc_Tape_steps pm_Tape_steps an_Tape_steps cd_Tape_steps ct_Tape_steps), sl_Tape_steps⟩)
    (h3_Tape_steps : PySem.W.codeIn K cd_Tape_steps "Tape.steps" = true)
    (h4_Tape_steps : PySem.W.keepIn K (.ref a_Tape_steps) = true)
    (mt1_Tape___init__ : PySem.W.findIn K (.ref C_Tape) "__init__" = some (some (.ref a_Tape___init__)))
    (mf_Tape___init__ : PySem.W.isFn K (.ref a_Tape___init__) = true)
    (h2_Tape___init__ : K.lookup a_Tape___init__ = some ⟨oc_Tape___init__, od_Tape___init__, .func (PySem.W.fnOf "__init__" "Tape.__init__" (defArgs (mthS (topS 24) 0)) (defBody (mthS (topS 24) 0)) (defScope (mthS (topS 24) 0)) .none kV_Tape___init__ dc_Tape___init__ pm_Tape___init__ an_Tape___init__ cd_Tape___init__ ct_Tape___init__), sl_Tape___init__⟩)
    (h3_Tape___init__ : PySem.W.codeIn K cd_Tape___init__ "Tape.__init__" = true)
    (h4_Tape___init__ : PySem.W.keepIn K (.ref a_Tape___init__) = true)
    (cn : PySem.W.specialIn K (.builtin "object.__class__") "__get__" = some (some (.builtin "getset_descriptor.__get__")))
    (ctk : PySem.W.takesIn K (.builtin "object.__class__") = some true)
    (pg_Tape : PySem.W.plainGet K C_Tape Str.empty = true)
    (hd_Tape : PySem.W.hasDictIn K C_Tape = true)
    (po_Tape : PySem.W.plainOver K C_Tape = true)
    (sa_Tape : PySem.W.findIn K (.ref C_Tape) "__setattr__" = some (some (.builtin "object.__setattr__")))
    (ca_Tape : PySem.W.findIn K (.ref C_Tape) "__class__" = some (some (.builtin "object.__class__")))
    (mo_Tape : PySem.W.mroIn K C_Tape (.type "object") = some true)
    (mk1_Tape : PySem.W.makesIn K C_Tape = true)
    (mk2_Tape : PySem.W.keepIn K (.ref C_Tape) = true)
    (nb_Tape__steps : PySem.W.findIn K (.ref C_Tape) "_steps" = some none)
    (nb_Tape_size : PySem.W.findIn K (.ref C_Tape) "size" = some none)
    (zsuper : PySem.W.nsIn K mainGlobals "super" = some none)
    (zany : PySem.W.nsIn K cStatics "thirdparty.any" = some none)
    (x0_BadSize : K.lookup C_BadSize = some (excClassObj nm_BadSize q_BadSize C_BadSize N_BadSize bs_BadSize bm_BadSize true sn_BadSize sub_BadSize ab_BadSize col_BadSize dd_BadSize m0_BadSize m1_BadSize m2_BadSize m3_BadSize m5_BadSize "ValueError.__new__"))
    (x1_BadSize : PySem.HandSPX.refsVE bm_BadSize = true)
    (sa_BadSize : PySem.W.findIn K (.ref C_BadSize) "__setattr__" = some (some (.builtin "object.__setattr__")))
    (kC_BadSize : PySem.W.keepIn K (.ref C_BadSize) = true)
    (ty_BadSize : PySem.W.typeIn K (.ref C_BadSize) = some (.type "type"))
    (cl_BadSize : PySem.W.isClsIn K C_BadSize = true)
    (ga_BadSize : PySem.W.findIn K (.ref C_BadSize) "__getattribute__" = some (some (.builtin "BaseException.__getattribute__")))
    (gt_BadSize : PySem.W.findIn K (.ref C_BadSize) "__getattr__" = some none)
    (be_BadSize : PySem.W.subIn K (.ref C_BadSize) (.type "BaseException") = some true)
    (hd_BadSize : PySem.W.hasDictIn K C_BadSize = true)
    (ca_BadSize : PySem.W.findIn K (.ref C_BadSize) "__class__" = some (some (.builtin "object.__class__")))
    (mo_BadSize : PySem.W.mroIn K C_BadSize (.type "object") = some true)
    (ve_BadSize : PySem.W.subIn K (.ref C_BadSize) (.type "ValueError") = some true)
    (ii_BadSize : PySem.W.findIn K (.ref C_BadSize) "__init__" = some (some (.ref f_BadSize)))
    (ti_BadSize : PySem.W.typeIn K (.ref f_BadSize) = some (.type "function"))
    (lk_BadSize : K.lookup f_BadSize = some ⟨oc_BadSize, od_BadSize, .func (PySem.W.ksFn "__init__" qual_BadSize params_BadSize (.Expr (.Call (.Attribute (.Call (.Name "super" p0_BadSize) [] [] p1_BadSize) "__init__" p2_BadSize) [.Constant (.str text_BadSize) kk_BadSize p3_BadSize] [] p4_BadSize) p5_BadSize :: st_BadSize) scope_BadSize dV_BadSize kV_BadSize doc_BadSize pm_BadSize an_BadSize (.ref cda_BadSize) ct_BadSize cc_BadSize), osl_BadSize⟩)
    (ci_BadSize : PySem.W.codeIn K (.ref cda_BadSize) qual_BadSize = true)
    (co_BadSize : K.lookup cda_BadSize = some ⟨ccl_BadSize, ccd_BadSize, .fields vs0_BadSize, ccs_BadSize⟩)
    (cc_BadSizeh : K.lookup cc_BadSize = some ⟨ocl_BadSize, ocd_BadSize, .cell (some (.ref D_BadSize)), csl_BadSize⟩)
    (hD_BadSize : PySem.W.clsIn K D_BadSize = some cdD_BadSize)
    (hs_BadSize : PySem.W.mroIn K C_BadSize (.ref D_BadSize) = some true)
    (hm_BadSize : PySem.W.ks_superIn K C_BadSize D_BadSize "__init__" = some (some (.builtin "ValueError.__init__")))
    (na_BadSize_value : PySem.W.findIn K (.ref C_BadSize) "value" = some none)
    (r1_BadSize : vs0_BadSize[2]? = some (.str file_BadSize tf_BadSize))
    (r2_BadSize : ((P.main.file : Str) == file_BadSize) = true)
    (r3_BadSize : (P.main.scope.names.lookup ("super" : Str)).isSome = false)
    (r4_BadSize : InScope ["self", "value"] scope_BadSize)
    (r5_BadSize : (["self", "value"] : List Str)[0]? = some self_BadSize)
    (r6_BadSize : (params_BadSize.posonlyargs ++ params_BadSize.args).head? = some ar_BadSize)
    (r7_BadSize : ar_BadSize.arg = self_BadSize)
    (r8_BadSize : ∀ L, FSt ["self", "value"] self_BadSize (PySem.W.ksEnv qual_BadSize scope_BadSize L f_BadSize (.ref cda_BadSize) cc_BadSize) st_BadSize [(Str.ofString "value", 0)])
    (r9_BadSize : (self_BadSize == ("__debug__" : Str)) = false)
    (ra_BadSize : (self_BadSize == ("__classdict__" : Str)) = false)
    (rb_BadSize : ∀ env : PySem.Env, swapsWith (.Call (.Attribute (.Call (.Name "super" p0_BadSize) [] [] p1_BadSize) "__init__" p2_BadSize) [.Constant (.str text_BadSize) kk_BadSize p3_BadSize] [] p4_BadSize) none p5_BadSize.line env = pure false)
    (rc_BadSize : ∀ L, eval (.Call (.Attribute (.Call (.Name "super" p0_BadSize) [] [] p1_BadSize) "__init__" p2_BadSize) [.Constant (.str text_BadSize) kk_BadSize p3_BadSize] [] p4_BadSize) (PySem.W.ksEnv qual_BadSize scope_BadSize L f_BadSize (.ref cda_BadSize) cc_BadSize) = (do
      let ov ← attributeBase (.Call (.Name "super" p0_BadSize) [] [] p1_BadSize) "__init__" (PySem.W.ksEnv qual_BadSize scope_BadSize L f_BadSize (.ref cda_BadSize) cc_BadSize) (eval (.Call (.Name "super" p0_BadSize) [] [] p1_BadSize) (PySem.W.ksEnv qual_BadSize scope_BadSize L f_BadSize (.ref cda_BadSize) cc_BadSize))
      standAt p2_BadSize.atName
      let (f', first) ← holding [ov] (getMethod ov "__init__" (pl_BadSize L))
      callWith p4_BadSize f' first (backTo p4_BadSize (starEach [.Constant (.str text_BadSize) kk_BadSize p3_BadSize] (PySem.W.ksEnv qual_BadSize scope_BadSize L f_BadSize (.ref cda_BadSize) cc_BadSize))) []))
    (rd_BadSize : ∀ us : List Value, us.length = (["self", "value"] : List Str).length → bindArgs (PySem.W.ksFn "__init__" qual_BadSize params_BadSize (.Expr (.Call (.Attribute (.Call (.Name "super" p0_BadSize) [] [] p1_BadSize) "__init__" p2_BadSize) [.Constant (.str text_BadSize) kk_BadSize p3_BadSize] [] p4_BadSize) p5_BadSize :: st_BadSize) scope_BadSize dV_BadSize kV_BadSize doc_BadSize pm_BadSize an_BadSize (.ref cda_BadSize) ct_BadSize cc_BadSize) ⟨us, []⟩ = pure ((["self", "value"] : List Str).zip us))
    (x0_BadStep : K.lookup C_BadStep = some (excClassObj nm_BadStep q_BadStep C_BadStep N_BadStep bs_BadStep bm_BadStep true sn_BadStep sub_BadStep ab_BadStep col_BadStep dd_BadStep m0_BadStep m1_BadStep m2_BadStep m3_BadStep m5_BadStep "ValueError.__new__"))
    (x1_BadStep : PySem.HandSPX.refsVE bm_BadStep = true)
    (sa_BadStep : PySem.W.findIn K (.ref C_BadStep) "__setattr__" = some (some (.builtin "object.__setattr__")))
    (kC_BadStep : PySem.W.keepIn K (.ref C_BadStep) = true)
    (ty_BadStep : PySem.W.typeIn K (.ref C_BadStep) = some (.type "type"))
    (cl_BadStep : PySem.W.isClsIn K C_BadStep = true)
    (ga_BadStep : PySem.W.findIn K (.ref C_BadStep) "__getattribute__" = some (some (.builtin "BaseException.__getattribute__")))
    (gt_BadStep : PySem.W.findIn K (.ref C_BadStep) "__getattr__" = some none)
    (be_BadStep : PySem.W.subIn K (.ref C_BadStep) (.type "BaseException") = some true)
    (hd_BadStep : PySem.W.hasDictIn K C_BadStep = true)
    (ca_BadStep : PySem.W.findIn K (.ref C_BadStep) "__class__" = some (some (.builtin "object.__class__")))
    (mo_BadStep : PySem.W.mroIn K C_BadStep (.type "object") = some true)
    (ve_BadStep : PySem.W.subIn K (.ref C_BadStep) (.type "ValueError") = some true)
    (ii_BadStep : PySem.W.findIn K (.ref C_BadStep) "__init__" = some (some (.ref f_BadStep)))
    (ti_BadStep : PySem.W.typeIn K (.ref f_BadStep) = some (.type "function"))
    (lk_BadStep : K.lookup f_BadStep = some ⟨oc_BadStep, od_BadStep, .func (PySem.W.ksFn "__init__" qual_BadStep params_BadStep (.Expr (.Call (.Attribute (.Call (.Name "super" p0_BadStep) [] [] p1_BadStep) "__init__" p2_BadStep) [.Constant (.str text_BadStep) kk_BadStep p3_BadStep] [] p4_BadStep) p5_BadStep :: st_BadStep) scope_BadStep dV_BadStep kV_BadStep doc_BadStep pm_BadStep an_BadStep (.ref cda_BadStep) ct_BadStep cc_BadStep), osl_BadStep⟩)
    (ci_BadStep : PySem.W.codeIn K (.ref cda_BadStep) qual_BadStep = true)
    (co_BadStep : K.lookup cda_BadStep = some ⟨ccl_BadStep, ccd_BadStep, .fields vs0_BadStep, ccs_BadStep⟩)
    (cc_BadSteph : K.lookup cc_BadStep = some ⟨ocl_BadStep, ocd_BadStep, .cell (some (.ref D_BadStep)), csl_BadStep⟩)
    (hD_BadStep : PySem.W.clsIn K D_BadStep = some cdD_BadStep)
    (hs_BadStep : PySem.W.mroIn K C_BadStep (.ref D_BadStep) = some true)
    (hm_BadStep : PySem.W.ks_superIn K C_BadStep D_BadStep "__init__" = some (some (.builtin "ValueError.__init__")))
    (na_BadStep_index : PySem.W.findIn K (.ref C_BadStep) "index" = some none)
    (r1_BadStep : vs0_BadStep[2]? = some (.str file_BadStep tf_BadStep))
    (r2_BadStep : ((P.main.file : Str) == file_BadStep) = true)
    (r3_BadStep : (P.main.scope.names.lookup ("super" : Str)).isSome = false)
    (r4_BadStep : InScope ["self", "index"] scope_BadStep)
    (r5_BadStep : (["self", "index"] : List Str)[0]? = some self_BadStep)
    (r6_BadStep : (params_BadStep.posonlyargs ++ params_BadStep.args).head? = some ar_BadStep)
    (r7_BadStep : ar_BadStep.arg = self_BadStep)
    (r8_BadStep : ∀ L, FSt ["self", "index"] self_BadStep (PySem.W.ksEnv qual_BadStep scope_BadStep L f_BadStep (.ref cda_BadStep) cc_BadStep) st_BadStep [(Str.ofString "index", 0)])
    (r9_BadStep : (self_BadStep == ("__debug__" : Str)) = false)
    (ra_BadStep : (self_BadStep == ("__classdict__" : Str)) = false)
    (rb_BadStep : ∀ env : PySem.Env, swapsWith (.Call (.Attribute (.Call (.Name "super" p0_BadStep) [] [] p1_BadStep) "__init__" p2_BadStep) [.Constant (.str text_BadStep) kk_BadStep p3_BadStep] [] p4_BadStep) none p5_BadStep.line env = pure false)
    (rc_BadStep : ∀ L, eval (.Call (.Attribute (.Call (.Name "super" p0_BadStep) [] [] p1_BadStep) "__init__" p2_BadStep) [.Constant (.str text_BadStep) kk_BadStep p3_BadStep] [] p4_BadStep) (PySem.W.ksEnv qual_BadStep scope_BadStep L f_BadStep (.ref cda_BadStep) cc_BadStep) = (do
      let ov ← attributeBase (.Call (.Name "super" p0_BadStep) [] [] p1_BadStep) "__init__" (PySem.W.ksEnv qual_BadStep scope_BadStep L f_BadStep (.ref cda_BadStep) cc_BadStep) (eval (.Call (.Name "super" p0_BadStep) [] [] p1_BadStep) (PySem.W.ksEnv qual_BadStep scope_BadStep L f_BadStep (.ref cda_BadStep) cc_BadStep))
      standAt p2_BadStep.atName
      let (f', first) ← holding [ov] (getMethod ov "__init__" (pl_BadStep L))
      callWith p4_BadStep f' first (backTo p4_BadStep (starEach [.Constant (.str text_BadStep) kk_BadStep p3_BadStep] (PySem.W.ksEnv qual_BadStep scope_BadStep L f_BadStep (.ref cda_BadStep) cc_BadStep))) []))
    (rd_BadStep : ∀ us : List Value, us.length = (["self", "index"] : List Str).length → bindArgs (PySem.W.ksFn "__init__" qual_BadStep params_BadStep (.Expr (.Call (.Attribute (.Call (.Name "super" p0_BadStep) [] [] p1_BadStep) "__init__" p2_BadStep) [.Constant (.str text_BadStep) kk_BadStep p3_BadStep] [] p4_BadStep) p5_BadStep :: st_BadStep) scope_BadStep dV_BadStep kV_BadStep doc_BadStep pm_BadStep an_BadStep (.ref cda_BadStep) ct_BadStep cc_BadStep) ⟨us, []⟩ = pure ((["self", "index"] : List Str).zip us))
    (x0_NoCell : K.lookup C_NoCell = some (excClassObj nm_NoCell q_NoCell C_NoCell N_NoCell bs_NoCell bm_NoCell true sn_NoCell sub_NoCell ab_NoCell col_NoCell dd_NoCell m0_NoCell m1_NoCell m2_NoCell m3_NoCell m5_NoCell "ValueError.__new__"))
    (x1_NoCell : PySem.HandSPX.refsVE bm_NoCell = true)
    (sa_NoCell : PySem.W.findIn K (.ref C_NoCell) "__setattr__" = some (some (.builtin "object.__setattr__")))
    (kC_NoCell : PySem.W.keepIn K (.ref C_NoCell) = true)
    (ty_NoCell : PySem.W.typeIn K (.ref C_NoCell) = some (.type "type"))
    (cl_NoCell : PySem.W.isClsIn K C_NoCell = true)
    (ga_NoCell : PySem.W.findIn K (.ref C_NoCell) "__getattribute__" = some (some (.builtin "BaseException.__getattribute__")))
    (gt_NoCell : PySem.W.findIn K (.ref C_NoCell) "__getattr__" = some none)
    (be_NoCell : PySem.W.subIn K (.ref C_NoCell) (.type "BaseException") = some true)
    (hd_NoCell : PySem.W.hasDictIn K C_NoCell = true)
    (ca_NoCell : PySem.W.findIn K (.ref C_NoCell) "__class__" = some (some (.builtin "object.__class__")))
    (mo_NoCell : PySem.W.mroIn K C_NoCell (.type "object") = some true)
    (ve_NoCell : PySem.W.subIn K (.ref C_NoCell) (.type "ValueError") = some true)
    (ii_NoCell : PySem.W.findIn K (.ref C_NoCell) "__init__" = some (some (.ref f_NoCell)))
    (ti_NoCell : PySem.W.typeIn K (.ref f_NoCell) = some (.type "function"))
    (lk_NoCell : K.lookup f_NoCell = some ⟨oc_NoCell, od_NoCell, .func (PySem.W.ksFn "__init__" qual_NoCell params_NoCell (.Expr (.Call (.Attribute (.Call (.Name "super" p0_NoCell) [] [] p1_NoCell) "__init__" p2_NoCell) [.Constant (.str text_NoCell) kk_NoCell p3_NoCell] [] p4_NoCell) p5_NoCell :: st_NoCell) scope_NoCell dV_NoCell kV_NoCell doc_NoCell pm_NoCell an_NoCell (.ref cda_NoCell) ct_NoCell cc_NoCell), osl_NoCell⟩)
    (ci_NoCell : PySem.W.codeIn K (.ref cda_NoCell) qual_NoCell = true)
    (co_NoCell : K.lookup cda_NoCell = some ⟨ccl_NoCell, ccd_NoCell, .fields vs0_NoCell, ccs_NoCell⟩)
    (cc_NoCellh : K.lookup cc_NoCell = some ⟨ocl_NoCell, ocd_NoCell, .cell (some (.ref D_NoCell)), csl_NoCell⟩)
    (hD_NoCell : PySem.W.clsIn K D_NoCell = some cdD_NoCell)
    (hs_NoCell : PySem.W.mroIn K C_NoCell (.ref D_NoCell) = some true)
    (hm_NoCell : PySem.W.ks_superIn K C_NoCell D_NoCell "__init__" = some (some (.builtin "ValueError.__init__")))
    (na_NoCell_cell : PySem.W.findIn K (.ref C_NoCell) "cell" = some none)
    (r1_NoCell : vs0_NoCell[2]? = some (.str file_NoCell tf_NoCell))
    (r2_NoCell : ((P.main.file : Str) == file_NoCell) = true)
    (r3_NoCell : (P.main.scope.names.lookup ("super" : Str)).isSome = false)
    (r4_NoCell : InScope ["self", "cell"] scope_NoCell)
    (r5_NoCell : (["self", "cell"] : List Str)[0]? = some self_NoCell)
    (r6_NoCell : (params_NoCell.posonlyargs ++ params_NoCell.args).head? = some ar_NoCell)
    (r7_NoCell : ar_NoCell.arg = self_NoCell)
    (r8_NoCell : ∀ L, FSt ["self", "cell"] self_NoCell (PySem.W.ksEnv qual_NoCell scope_NoCell L f_NoCell (.ref cda_NoCell) cc_NoCell) st_NoCell [(Str.ofString "cell", 0)])
    (r9_NoCell : (self_NoCell == ("__debug__" : Str)) = false)
    (ra_NoCell : (self_NoCell == ("__classdict__" : Str)) = false)
    (rb_NoCell : ∀ env : PySem.Env, swapsWith (.Call (.Attribute (.Call (.Name "super" p0_NoCell) [] [] p1_NoCell) "__init__" p2_NoCell) [.Constant (.str text_NoCell) kk_NoCell p3_NoCell] [] p4_NoCell) none p5_NoCell.line env = pure false)
    (rc_NoCell : ∀ L, eval (.Call (.Attribute (.Call (.Name "super" p0_NoCell) [] [] p1_NoCell) "__init__" p2_NoCell) [.Constant (.str text_NoCell) kk_NoCell p3_NoCell] [] p4_NoCell) (PySem.W.ksEnv qual_NoCell scope_NoCell L f_NoCell (.ref cda_NoCell) cc_NoCell) = (do
      let ov ← attributeBase (.Call (.Name "super" p0_NoCell) [] [] p1_NoCell) "__init__" (PySem.W.ksEnv qual_NoCell scope_NoCell L f_NoCell (.ref cda_NoCell) cc_NoCell) (eval (.Call (.Name "super" p0_NoCell) [] [] p1_NoCell) (PySem.W.ksEnv qual_NoCell scope_NoCell L f_NoCell (.ref cda_NoCell) cc_NoCell))
      standAt p2_NoCell.atName
      let (f', first) ← holding [ov] (getMethod ov "__init__" (pl_NoCell L))
      callWith p4_NoCell f' first (backTo p4_NoCell (starEach [.Constant (.str text_NoCell) kk_NoCell p3_NoCell] (PySem.W.ksEnv qual_NoCell scope_NoCell L f_NoCell (.ref cda_NoCell) cc_NoCell))) []))
    (rd_NoCell : ∀ us : List Value, us.length = (["self", "cell"] : List Str).length → bindArgs (PySem.W.ksFn "__init__" qual_NoCell params_NoCell (.Expr (.Call (.Attribute (.Call (.Name "super" p0_NoCell) [] [] p1_NoCell) "__init__" p2_NoCell) [.Constant (.str text_NoCell) kk_NoCell p3_NoCell] [] p4_NoCell) p5_NoCell :: st_NoCell) scope_NoCell dV_NoCell kV_NoCell doc_NoCell pm_NoCell an_NoCell (.ref cda_NoCell) ct_NoCell cc_NoCell) ⟨us, []⟩ = pure ((["self", "cell"] : List Str).zip us))
    (m1_NoCell_AskError : PySem.W.exmOne K (.ref C_NoCell) (.ref C_AskError) = some true)
    (i1_NoCell_NoCell : PySem.W.kitOne K (.ref C_NoCell) (.ref C_NoCell) = some true)
    (i1_NoCell_NoPlace : PySem.W.kitOne K (.ref C_NoCell) (.ref C_NoPlace) = some false)
    (i1_NoCell_ValueError : PySem.W.kitOne K (.ref C_NoCell) (.type "ValueError") = some true)
    (i1_Tape_bool : PySem.W.kitOne K (.ref C_Tape) (.type "bool") = some false)
    (i1_Tape_int : PySem.W.kitOne K (.ref C_Tape) (.type "int") = some false)
    (i1_Tape_list : PySem.W.kitOne K (.ref C_Tape) (.type "list") = some false)
    (i1_Tape_tuple : PySem.W.kitOne K (.ref C_Tape) (.type "tuple") = some false)
    (u1_MOST_LETTERS : PySem.W.nsIn K mainGlobals "MOST_LETTERS" = some (some u_MOST_LETTERS))
    (u2_MOST_LETTERS : kD K 3 u_MOST_LETTERS = some k_MOST_LETTERS)
    (z1_ValueError : PySem.W.nsIn K mainGlobals "ValueError" = some none)
    (z1_all : PySem.W.nsIn K mainGlobals "all" = some none)
    (z1_bool : PySem.W.nsIn K mainGlobals "bool" = some none)
    (z1_enumerate : PySem.W.nsIn K mainGlobals "enumerate" = some none)
    (z1_int : PySem.W.nsIn K mainGlobals "int" = some none)
    (z1_isinstance : PySem.W.nsIn K mainGlobals "isinstance" = some none)
    (z1_len : PySem.W.nsIn K mainGlobals "len" = some none)
    (z1_list : PySem.W.nsIn K mainGlobals "list" = some none)
    (z1_min : PySem.W.nsIn K mainGlobals "min" = some none)
    (z1_range : PySem.W.nsIn K mainGlobals "range" = some none)
    (z1_repr : PySem.W.nsIn K mainGlobals "repr" = some none)
    (z1_reversed : PySem.W.nsIn K mainGlobals "reversed" = some none)
    (z1_tuple : PySem.W.nsIn K mainGlobals "tuple" = some none)
    : ∃ (fd : FuncData) (G : GC), (∀ (s : Shared) (u : Value), BindsTo s fd ⟨[u], []⟩ [("script", u)]) ∧ ∀ base : Heap, K.In base → base.Ns mainGlobals mg → FnG true P w K mg base 8 fa fd ["script"] (spI G 1 f_law) := by
  have t : Tx P w K mg := {
    a_is_whole := _
    fd_is_whole := _
    e_is_whole := fnE_mk X Gr h1_is_whole h2_is_whole h3_is_whole h4_is_whole
    a__is_within := _
    fd__is_within := _
    e__is_within := fnE_mk X Gr h1__is_within h2__is_within h3__is_within h4__is_within
    a_check_size := _
    fd_check_size := _
    e_check_size := fnE_mk X Gr h1_check_size h2_check_size h3_check_size h4_check_size
    a__is_below := _
    fd__is_below := _
    e__is_below := fnE_mk X Gr h1__is_below h2__is_below h3__is_below h4__is_below
    a_is_change_word := _
    fd_is_change_word := _
    e_is_change_word := fnE_mk X Gr h1_is_change_word h2_is_change_word h3_is_change_word h4_is_change_word
    a_is_step := _
    fd_is_step := _
    e_is_step := fnE_mk X Gr h1_is_step h2_is_step h3_is_step h4_is_step
    a__law_stock := _
    fd__law_stock := _
    e__law_stock := fnE_mk X Gr h1__law_stock h2__law_stock h3__law_stock h4__law_stock
    a__law_draw := _
    fd__law_draw := _
    e__law_draw := fnE_mk X Gr h1__law_draw h2__law_draw h3__law_draw h4__law_draw
    a__law_step := _
    fd__law_step := _
    e__law_step := fnE_mk X Gr h1__law_step h2__law_step h3__law_step h4__law_step
    a__law_tape := _
    fd__law_tape := _
    e__law_tape := fnE_mk X Gr h1__law_tape h2__law_tape h3__law_tape h4__law_tape
    a__law_named := _
    fd__law_named := _
    e__law_named := fnE_mk X Gr h1__law_named h2__law_named h3__law_named h4__law_named
    a__law_masks := _
    fd__law_masks := _
    e__law_masks := fnE_mk X Gr h1__law_masks h2__law_masks h3__law_masks h4__law_masks
    a_step_cells := _
    fd_step_cells := _
    e_step_cells := fnE_mk X Gr h1_step_cells h2_step_cells h3_step_cells h4_step_cells
    a__law_same := _
    fd__law_same := _
    e__law_same := fnE_mk X Gr h1__law_same h2__law_same h3__law_same h4__law_same
    a__law_refused := _
    fd__law_refused := _
    e__law_refused := fnE_mk X Gr h1__law_refused h2__law_refused h3__law_refused h4__law_refused
    a__law_refuses := _
    fd__law_refuses := _
    e__law_refuses := fnE_mk X Gr h1__law_refuses h2__law_refuses h3__law_refuses h4__law_refuses
    a__law_due := _
    fd__law_due := _
    e__law_due := fnE_mk X Gr h1__law_due h2__law_due h3__law_due h4__law_due
    a__law_told := _
    fd__law_told := _
    e__law_told := fnE_mk X Gr h1__law_told h2__law_told h3__law_told h4__law_told
    a_law := _
    fd_law := _
    e_law := fnE_mk X Gr h1_law h2_law h3_law h4_law
    C_AskError := C_AskError
    g_AskError := PySem.W.mg_of X Gr g1_AskError
    C_BadSize := C_BadSize
    g_BadSize := PySem.W.mg_of X Gr g1_BadSize
    C_BadStep := C_BadStep
    g_BadStep := PySem.W.mg_of X Gr g1_BadStep
    C_NoCell := C_NoCell
    g_NoCell := PySem.W.mg_of X Gr g1_NoCell
    C_NoPlace := C_NoPlace
    g_NoPlace := PySem.W.mg_of X Gr g1_NoPlace
    C_Tape := C_Tape
    g_Tape := PySem.W.mg_of X Gr g1_Tape
    a_Tape__check_cell := _
    fd_Tape__check_cell := _
    e_Tape__check_cell := funM_mk h2_Tape__check_cell h3_Tape__check_cell h4_Tape__check_cell
    a_Tape_joins := _
    fd_Tape_joins := _
    e_Tape_joins := funM_mk h2_Tape_joins h3_Tape_joins h4_Tape_joins
    a_Tape_needed := _
    fd_Tape_needed := _
    e_Tape_needed := funM_mk h2_Tape_needed h3_Tape_needed h4_Tape_needed
    a_Tape_steps := _
    fd_Tape_steps := _
    e_Tape_steps := funM_mk h2_Tape_steps h3_Tape_steps h4_Tape_steps
    a_Tape___init__ := _
    fd_Tape___init__ := _
    e_Tape___init__ := funM_mk h2_Tape___init__ h3_Tape___init__ h4_Tape___init__
    cl_Tape := ⟨pg_Tape, hd_Tape, po_Tape, sa_Tape⟩
    in_Tape := ⟨⟨pg_Tape, hd_Tape, po_Tape, sa_Tape⟩, ca_Tape, cn, ctk, mo_Tape⟩
    mk_Tape := ⟨PySem.W.mg_of X Gr g1_Tape, ⟨mk1_Tape, mt1_Tape___init__, mf_Tape___init__, mk2_Tape⟩⟩
    mt_Tape__check_cell := ⟨mt1_Tape__check_cell, mf_Tape__check_cell, h4_Tape__check_cell⟩
    mt_Tape_joins := ⟨mt1_Tape_joins, mf_Tape_joins, h4_Tape_joins⟩
    mt_Tape_needed := ⟨mt1_Tape_needed, mf_Tape_needed, h4_Tape_needed⟩
    mt_Tape_steps := ⟨mt1_Tape_steps, mf_Tape_steps, h4_Tape_steps⟩
    na_Tape__steps := nb_Tape__steps
    na_Tape_size := nb_Tape_size
    x_BadSize := by
      have Fx : ExFacts K C_BadSize := ⟨sa_BadSize, kC_BadSize, ty_BadSize, ⟨cl_BadSize, ga_BadSize, gt_BadSize, be_BadSize, hd_BadSize, ca_BadSize, cn, ctk, mo_BadSize⟩, ve_BadSize⟩
      exact exE_mk X Gr g1_BadSize Fx (oexC_mk Fx x0_BadSize x1_BadSize) ii_BadSize ti_BadSize lk_BadSize ci_BadSize co_BadSize cc_BadSizeh hD_BadSize hs_BadSize zsuper zany hm_BadSize (all_cons na_BadSize_value all_nil) r1_BadSize r2_BadSize r3_BadSize r4_BadSize r5_BadSize r6_BadSize r7_BadSize r8_BadSize (by decide) (by decide) (by decide) r9_BadSize ra_BadSize rb_BadSize rc_BadSize rd_BadSize
    x_BadStep := by
      have Fx : ExFacts K C_BadStep := ⟨sa_BadStep, kC_BadStep, ty_BadStep, ⟨cl_BadStep, ga_BadStep, gt_BadStep, be_BadStep, hd_BadStep, ca_BadStep, cn, ctk, mo_BadStep⟩, ve_BadStep⟩
      exact exE_mk X Gr g1_BadStep Fx (oexC_mk Fx x0_BadStep x1_BadStep) ii_BadStep ti_BadStep lk_BadStep ci_BadStep co_BadStep cc_BadSteph hD_BadStep hs_BadStep zsuper zany hm_BadStep (all_cons na_BadStep_index all_nil) r1_BadStep r2_BadStep r3_BadStep r4_BadStep r5_BadStep r6_BadStep r7_BadStep r8_BadStep (by decide) (by decide) (by decide) r9_BadStep ra_BadStep rb_BadStep rc_BadStep rd_BadStep
    x_NoCell := by
      have Fx : ExFacts K C_NoCell := ⟨sa_NoCell, kC_NoCell, ty_NoCell, ⟨cl_NoCell, ga_NoCell, gt_NoCell, be_NoCell, hd_NoCell, ca_NoCell, cn, ctk, mo_NoCell⟩, ve_NoCell⟩
      exact exE_mk X Gr g1_NoCell Fx (oexC_mk Fx x0_NoCell x1_NoCell) ii_NoCell ti_NoCell lk_NoCell ci_NoCell co_NoCell cc_NoCellh hD_NoCell hs_NoCell zsuper zany hm_NoCell (all_cons na_NoCell_cell all_nil) r1_NoCell r2_NoCell r3_NoCell r4_NoCell r5_NoCell r6_NoCell r7_NoCell r8_NoCell (by decide) (by decide) (by decide) r9_NoCell ra_NoCell rb_NoCell rc_NoCell rd_NoCell
    m_NoCell_AskError := m1_NoCell_AskError
    i_NoCell_NoCell := i1_NoCell_NoCell
    i_NoCell_NoPlace := i1_NoCell_NoPlace
    i_NoCell_ValueError := i1_NoCell_ValueError
    i_Tape_bool := i1_Tape_bool
    i_Tape_int := i1_Tape_int
    i_Tape_list := i1_Tape_list
    i_Tape_tuple := i1_Tape_tuple
    n_NoCell_cell := na_NoCell_cell
    u_MOST_LETTERS := u_MOST_LETTERS
    mu_MOST_LETTERS := PySem.W.mg_of X Gr u1_MOST_LETTERS
    ku_MOST_LETTERS := u2_MOST_LETTERS
    z_ValueError := PySem.W.mg_none_of X Gr z1_ValueError
    z_all := PySem.W.mg_none_of X Gr z1_all
    z_bool := PySem.W.mg_none_of X Gr z1_bool
    z_enumerate := PySem.W.mg_none_of X Gr z1_enumerate
    z_int := PySem.W.mg_none_of X Gr z1_int
    z_isinstance := PySem.W.mg_none_of X Gr z1_isinstance
    z_len := PySem.W.mg_none_of X Gr z1_len
    z_list := PySem.W.mg_none_of X Gr z1_list
    z_min := PySem.W.mg_none_of X Gr z1_min
    z_range := PySem.W.mg_none_of X Gr z1_range
    z_repr := PySem.W.mg_none_of X Gr z1_repr
    z_reversed := PySem.W.mg_none_of X Gr z1_reversed
    z_tuple := PySem.W.mg_none_of X Gr z1_tuple
  }
  have e := hfa.symm.trans t.e_law.gl
  cases e
  exact ⟨t.fd_law, t.G, fun s u => .of_eq (b_law t [u] rfl), fun base _ _ => ok_law t base⟩
end K32
open PySem PySem.W PyProof.Rows
set_option maxHeartbeats 0 in
theorem PySem.Challenge.cw_rangeasks_k32_tape_needed_holds : PySem.Challenge.rw_rangeasks_k32_tape_needed.Holds := by
  w_on; o_law; k_head; (case hw => w_witness2)
  k_fill
  refine MI.end_law (l := PySem.Challenge.rw_rangeasks_k32_tape_needed) (n := 63) (k := 8) (x := "script") (f := K32.f_law) rfl (by decide) rfl ⟨by decide, by decide, fun _ => rfl, rfl⟩ ?hno (fun w h Y => PySem.W.kIn_of Y) ?F K32.law_true
  case hno => intro p; first | rfl | kernel_rfl
  case F =>
    intro w mg fa h KX Gr hmg
    refine' K32.fin_mk KX Gr hmg ?h1_is_whole ?h2_is_whole ?h3_is_whole ?h4_is_whole ?h1__is_within ?h2__is_within ?h3__is_within ?h4__is_within ?h1_check_size ?h2_check_size ?h3_check_size ?h4_check_size ?h1__is_below ?h2__is_below ?h3__is_below ?h4__is_below ?h1_is_change_word ?h2_is_change_word ?h3_is_change_word ?h4_is_change_word ?h1_is_step ?h2_is_step ?h3_is_step ?h4_is_step ?h1__law_stock ?h2__law_stock ?h3__law_stock ?h4__law_stock ?h1__law_draw ?h2__law_draw ?h3__law_draw ?h4__law_draw ?h1__law_step ?h2__law_step ?h3__law_step ?h4__law_step ?h1__law_tape ?h2__law_tape ?h3__law_tape ?h4__law_tape ?h1__law_named ?h2__law_named ?h3__law_named ?h4__law_named ?h1__law_masks ?h2__law_masks ?h3__law_masks ?h4__law_masks ?h1_step_cells ?h2_step_cells ?h3_step_cells ?h4_step_cells ?h1__law_same ?h2__law_same ?h3__law_same ?h4__law_same ?h1__law_refused ?h2__law_refused ?h3__law_refused ?h4__law_refused ?h1__law_refuses ?h2__law_refuses ?h3__law_refuses ?h4__law_refuses ?h1__law_due ?h2__law_due ?h3__law_due ?h4__law_due ?h1__law_told ?h2__law_told ?h3__law_told ?h4__law_told ?h1_law ?h2_law ?h3_law ?h4_law ?g1_AskError ?g1_BadSize ?g1_BadStep ?g1_NoCell ?g1_NoPlace ?g1_Tape ?mt1_Tape__check_cell ?mf_Tape__check_cell ?h2_Tape__check_cell ?h3_Tape__check_cell ?h4_Tape__check_cell ?mt1_Tape_joins ?mf_Tape_joins ?h2_Tape_joins ?h3_Tape_joins ?h4_Tape_joins ?mt1_Tape_needed ?mf_Tape_needed ?h2_Tape_needed ?h3_Tape_needed ?h4_Tape_needed ?mt1_Tape_steps ?mf_Tape_steps ?h2_Tape_steps ?h3_Tape_steps ?h4_Tape_steps ?mt1_Tape___init__ ?mf_Tape___init__ ?h2_Tape___init__ ?h3_Tape___init__ ?h4_Tape___init__ ?cn ?ctk ?pg_Tape ?hd_Tape ?po_Tape ?sa_Tape ?ca_Tape ?mo_Tape ?mk1_Tape ?mk2_Tape ?nb_Tape__steps ?nb_Tape_size ?zsuper ?zany ?x0_BadSize ?x1_BadSize ?sa_BadSize ?kC_BadSize ?ty_BadSize ?cl_BadSize ?ga_BadSize ?gt_BadSize ?be_BadSize ?hd_BadSize ?ca_BadSize ?mo_BadSize ?ve_BadSize ?ii_BadSize ?ti_BadSize ?lk_BadSize ?ci_BadSize ?co_BadSize ?cc_BadSizeh ?hD_BadSize ?hs_BadSize ?hm_BadSize ?na_BadSize_value ?r1_BadSize ?r2_BadSize ?r3_BadSize ?r4_BadSize ?r5_BadSize ?r6_BadSize ?r7_BadSize ?r8_BadSize ?r9_BadSize ?ra_BadSize ?rb_BadSize ?rc_BadSize ?rd_BadSize ?x0_BadStep ?x1_BadStep ?sa_BadStep ?kC_BadStep ?ty_BadStep ?cl_BadStep ?ga_BadStep ?gt_BadStep ?be_BadStep ?hd_BadStep ?ca_BadStep ?mo_BadStep ?ve_BadStep ?ii_BadStep ?ti_BadStep ?lk_BadStep ?ci_BadStep ?co_BadStep ?cc_BadSteph ?hD_BadStep ?hs_BadStep ?hm_BadStep ?na_BadStep_index ?r1_BadStep ?r2_BadStep ?r3_BadStep ?r4_BadStep ?r5_BadStep ?r6_BadStep ?r7_BadStep ?r8_BadStep ?r9_BadStep ?ra_BadStep ?rb_BadStep ?rc_BadStep ?rd_BadStep ?x0_NoCell ?x1_NoCell ?sa_NoCell ?kC_NoCell ?ty_NoCell ?cl_NoCell ?ga_NoCell ?gt_NoCell ?be_NoCell ?hd_NoCell ?ca_NoCell ?mo_NoCell ?ve_NoCell ?ii_NoCell ?ti_NoCell ?lk_NoCell ?ci_NoCell ?co_NoCell ?cc_NoCellh ?hD_NoCell ?hs_NoCell ?hm_NoCell ?na_NoCell_cell ?r1_NoCell ?r2_NoCell ?r3_NoCell ?r4_NoCell ?r5_NoCell ?r6_NoCell ?r7_NoCell ?r8_NoCell ?r9_NoCell ?ra_NoCell ?rb_NoCell ?rc_NoCell ?rd_NoCell ?m1_NoCell_AskError ?i1_NoCell_NoCell ?i1_NoCell_NoPlace ?i1_NoCell_ValueError ?i1_Tape_bool ?i1_Tape_int ?i1_Tape_list ?i1_Tape_tuple ?u1_MOST_LETTERS ?u2_MOST_LETTERS ?z1_ValueError ?z1_all ?z1_bool ?z1_enumerate ?z1_int ?z1_isinstance ?z1_len ?z1_list ?z1_min ?z1_range ?z1_repr ?z1_reversed ?z1_tuple
    (case h1_is_whole => k_is)
    (case h2_is_whole => k_is)
    (case h3_is_whole => k_is)
    (case h4_is_whole => k_is)
    (case h1__is_within => k_is)
    (case h2__is_within => k_is)
    (case h3__is_within => k_is)
    (case h4__is_within => k_is)
    (case h1_check_size => k_is)
    (case h2_check_size => k_is)
    (case h3_check_size => k_is)
    (case h4_check_size => k_is)
    (case h1__is_below => k_is)
    (case h2__is_below => k_is)
    (case h3__is_below => k_is)
    (case h4__is_below => k_is)
    (case h1_is_change_word => k_is)
    (case h2_is_change_word => k_is)
    (case h3_is_change_word => k_is)
    (case h4_is_change_word => k_is)
    (case h1_is_step => k_is)
    (case h2_is_step => k_is)
    (case h3_is_step => k_is)
    (case h4_is_step => k_is)
    (case h1__law_stock => k_is)
    (case h2__law_stock => k_is)
    (case h3__law_stock => k_is)
    (case h4__law_stock => k_is)
    (case h1__law_draw => k_is)
    (case h2__law_draw => k_is)
    (case h3__law_draw => k_is)
    (case h4__law_draw => k_is)
    (case h1__law_step => k_is)
    (case h2__law_step => k_is)
    (case h3__law_step => k_is)
    (case h4__law_step => k_is)
    (case h1__law_tape => k_is)
    (case h2__law_tape => k_is)
    (case h3__law_tape => k_is)
    (case h4__law_tape => k_is)
    (case h1__law_named => k_is)
    (case h2__law_named => k_is)
    (case h3__law_named => k_is)
    (case h4__law_named => k_is)
    (case h1__law_masks => k_is)
    (case h2__law_masks => k_is)
    (case h3__law_masks => k_is)
    (case h4__law_masks => k_is)
    (case h1_step_cells => k_is)
    (case h2_step_cells => k_is)
    (case h3_step_cells => k_is)
    (case h4_step_cells => k_is)
    (case h1__law_same => k_is)
    (case h2__law_same => k_is)
    (case h3__law_same => k_is)
    (case h4__law_same => k_is)
    (case h1__law_refused => k_is)
    (case h2__law_refused => k_is)
    (case h3__law_refused => k_is)
    (case h4__law_refused => k_is)
    (case h1__law_refuses => k_is)
    (case h2__law_refuses => k_is)
    (case h3__law_refuses => k_is)
    (case h4__law_refuses => k_is)
    (case h1__law_due => k_is)
    (case h2__law_due => k_is)
    (case h3__law_due => k_is)
    (case h4__law_due => k_is)
    (case h1__law_told => k_is)
    (case h2__law_told => k_is)
    (case h3__law_told => k_is)
    (case h4__law_told => k_is)
    (case h1_law => k_is)
    (case h2_law => k_is)
    (case h3_law => k_is)
    (case h4_law => k_is)
    (case g1_AskError => k_is)
    (case g1_BadSize => k_is)
    (case g1_BadStep => k_is)
    (case g1_NoCell => k_is)
    (case g1_NoPlace => k_is)
    (case g1_Tape => k_is)
    (case mt1_Tape__check_cell => k_is)
    (case mf_Tape__check_cell => k_is)
    (case h2_Tape__check_cell => k_is)
    (case h3_Tape__check_cell => k_is)
    (case h4_Tape__check_cell => k_is)
    (case mt1_Tape_joins => k_is)
    (case mf_Tape_joins => k_is)
    (case h2_Tape_joins => k_is)
    (case h3_Tape_joins => k_is)
    (case h4_Tape_joins => k_is)
    (case mt1_Tape_needed => k_is)
    (case mf_Tape_needed => k_is)
    (case h2_Tape_needed => k_is)
    (case h3_Tape_needed => k_is)
    (case h4_Tape_needed => k_is)
    (case mt1_Tape_steps => k_is)
    (case mf_Tape_steps => k_is)
    (case h2_Tape_steps => k_is)
    (case h3_Tape_steps => k_is)
    (case h4_Tape_steps => k_is)
    (case mt1_Tape___init__ => k_is)
    (case mf_Tape___init__ => k_is)
    (case h2_Tape___init__ => k_is)
    (case h3_Tape___init__ => k_is)
    (case h4_Tape___init__ => k_is)
    (case cn => k_is)
    (case ctk => k_is)
    (case pg_Tape => k_is)
    (case hd_Tape => k_is)
    (case po_Tape => k_is)
    (case sa_Tape => k_is)
    (case ca_Tape => k_is)
    (case mo_Tape => k_is)
    (case mk1_Tape => k_is)
    (case mk2_Tape => k_is)
    (case nb_Tape__steps => k_is)
    (case nb_Tape_size => k_is)
    (case zsuper => k_is)
    (case zany => k_is)
    (case x0_BadSize => k_is)
    (case x1_BadSize => decide +kernel)
    (case sa_BadSize => k_is)
    (case kC_BadSize => k_is)
    (case ty_BadSize => k_is)
    (case cl_BadSize => k_is)
    (case ga_BadSize => k_is)
    (case gt_BadSize => k_is)
    (case be_BadSize => k_is)
    (case hd_BadSize => k_is)
    (case ca_BadSize => k_is)
    (case mo_BadSize => k_is)
    (case ve_BadSize => k_is)
    (case ii_BadSize => k_is)
    (case ti_BadSize => k_is)
    (case lk_BadSize => k_is)
    (case ci_BadSize => k_is)
    (case co_BadSize => k_is)
    (case cc_BadSizeh => k_is)
    (case hD_BadSize => k_is)
    (case hs_BadSize => k_is)
    (case hm_BadSize => first | ks_is | k_is)
    (case na_BadSize_value => k_is)
    (case r1_BadSize => rfl)
    (case r2_BadSize => decide +kernel)
    (case r3_BadSize => decide +kernel)
    (case r4_BadSize => exact ⟨rfl, rfl, rfl, by decide +kernel, by decide +kernel, by decide +kernel, MI.L2free (by decide +kernel), by decide +kernel, by decide +kernel⟩)
    (case r5_BadSize => rfl)
    (case r6_BadSize => rfl)
    (case r7_BadSize => rfl)
    (case r8_BadSize => exact fun L => .cons rfl rfl (by decide) (by decide) rfl (.nil))
    (case r9_BadSize => decide)
    (case ra_BadSize => decide)
    (case rb_BadSize => exact fun _ => rfl)
    (case rc_BadSize => exact fun _ => rfl)
    (case rd_BadSize => exact fun us hl => match us, hl with | [_, _], _ => rfl)
    (case x0_BadStep => k_is)
    (case x1_BadStep => decide +kernel)
    (case sa_BadStep => k_is)
    (case kC_BadStep => k_is)
    (case ty_BadStep => k_is)
    (case cl_BadStep => k_is)
    (case ga_BadStep => k_is)
    (case gt_BadStep => k_is)
    (case be_BadStep => k_is)
    (case hd_BadStep => k_is)
    (case ca_BadStep => k_is)
    (case mo_BadStep => k_is)
    (case ve_BadStep => k_is)
    (case ii_BadStep => k_is)
    (case ti_BadStep => k_is)
    (case lk_BadStep => k_is)
    (case ci_BadStep => k_is)
    (case co_BadStep => k_is)
    (case cc_BadSteph => k_is)
    (case hD_BadStep => k_is)
    (case hs_BadStep => k_is)
    (case hm_BadStep => first | ks_is | k_is)
    (case na_BadStep_index => k_is)
    (case r1_BadStep => rfl)
    (case r2_BadStep => decide +kernel)
    (case r3_BadStep => decide +kernel)
    (case r4_BadStep => exact ⟨rfl, rfl, rfl, by decide +kernel, by decide +kernel, by decide +kernel, MI.L2free (by decide +kernel), by decide +kernel, by decide +kernel⟩)
    (case r5_BadStep => rfl)
    (case r6_BadStep => rfl)
    (case r7_BadStep => rfl)
    (case r8_BadStep => exact fun L => .cons rfl rfl (by decide) (by decide) rfl (.nil))
    (case r9_BadStep => decide)
    (case ra_BadStep => decide)
    (case rb_BadStep => exact fun _ => rfl)
    (case rc_BadStep => exact fun _ => rfl)
    (case rd_BadStep => exact fun us hl => match us, hl with | [_, _], _ => rfl)
    (case x0_NoCell => k_is)
    (case x1_NoCell => decide +kernel)
    (case sa_NoCell => k_is)
    (case kC_NoCell => k_is)
    (case ty_NoCell => k_is)
    (case cl_NoCell => k_is)
    (case ga_NoCell => k_is)
    (case gt_NoCell => k_is)
    (case be_NoCell => k_is)
    (case hd_NoCell => k_is)
    (case ca_NoCell => k_is)
    (case mo_NoCell => k_is)
    (case ve_NoCell => k_is)
    (case ii_NoCell => k_is)
    (case ti_NoCell => k_is)
    (case lk_NoCell => k_is)
    (case ci_NoCell => k_is)
    (case co_NoCell => k_is)
    (case cc_NoCellh => k_is)
    (case hD_NoCell => k_is)
    (case hs_NoCell => k_is)
    (case hm_NoCell => first | ks_is | k_is)
    (case na_NoCell_cell => k_is)
    (case r1_NoCell => rfl)
    (case r2_NoCell => decide +kernel)
    (case r3_NoCell => decide +kernel)
    (case r4_NoCell => exact ⟨rfl, rfl, rfl, by decide +kernel, by decide +kernel, by decide +kernel, MI.L2free (by decide +kernel), by decide +kernel, by decide +kernel⟩)
    (case r5_NoCell => rfl)
    (case r6_NoCell => rfl)
    (case r7_NoCell => rfl)
    (case r8_NoCell => exact fun L => .cons rfl rfl (by decide) (by decide) rfl (.nil))
    (case r9_NoCell => decide)
    (case ra_NoCell => decide)
    (case rb_NoCell => exact fun _ => rfl)
    (case rc_NoCell => exact fun _ => rfl)
    (case rd_NoCell => exact fun us hl => match us, hl with | [_, _], _ => rfl)
    (case m1_NoCell_AskError => first | k_is | rfl)
    (case i1_NoCell_NoCell => first | kit_is | k_is | rfl)
    (case i1_NoCell_NoPlace => first | kit_is | k_is | rfl)
    (case i1_NoCell_ValueError => first | kit_is | k_is | rfl)
    (case i1_Tape_bool => first | kit_is | k_is | rfl)
    (case i1_Tape_int => first | kit_is | k_is | rfl)
    (case i1_Tape_list => first | kit_is | k_is | rfl)
    (case i1_Tape_tuple => first | kit_is | k_is | rfl)
    (case u1_MOST_LETTERS => k_is)
    (case u2_MOST_LETTERS => rfl)
    (case z1_ValueError => k_is)
    (case z1_all => k_is)
    (case z1_bool => k_is)
    (case z1_enumerate => k_is)
    (case z1_int => k_is)
    (case z1_isinstance => k_is)
    (case z1_len => k_is)
    (case z1_list => k_is)
    (case z1_min => k_is)
    (case z1_range => k_is)
    (case z1_repr => k_is)
    (case z1_reversed => k_is)
    (case z1_tuple => k_is)
