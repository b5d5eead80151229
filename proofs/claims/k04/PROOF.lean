import PyProof.Rows.All
import Wide.All
import OpenK.AllK
import Wide.FinOn
import HandS.ForMost
import HandS.Exc
import HandS.WordsExc
import HandS.TupAny
import HandS.Flow
import HandS.IsInst
import HandS.Style
import HandS.Defaults
import HandS.TupMul
import HandS.Deep
import HandS.More
import KE.GoesMore
import HandS.Ends
import HandS.Head0
import HandS.Head1
import HandS.Head2
import HandS.HeadEnd
import HandS.HeadHook1
import HandS.HeadHook2
import PySem.Challenge.RW_prefixgraft_k04_whole_written_forms_ther
set_option Elab.async false
set_option linter.all false
set_option maxRecDepth 100000
set_option maxHeartbeats 4000000
/-! Mi1: data, stores, and how the hand layer's heap bears them. -/
namespace Mi
open PySem PySem.Spec PyProof.Rows L2

/-- data without identity: texts are lists of ASCII codes -/
inductive P where
  | non | bl (b : Bool) | int (i : Int) | str (x : List Nat) | tup (xs : List P)
  /-- a tuple that the program's top has written -/
  | ktup (xs : List P)
  deriving Inhabited

/-- values: data, an object of the store, a tuple that holds objects -/
inductive D where
  | p (x : P) | ref (n : Nat) | tup (xs : List D)
  deriving Inhabited


mutual
def P.beq : P → P → Bool
  | .non, .non => true
  | .bl a, .bl b => a == b
  | .int a, .int b => decide (a = b)
  | .str a, .str b => decide (a = b)
  | .tup a, .tup b => P.beqs a b
  | .ktup a, .ktup b => P.beqs a b
  | _, _ => false
def P.beqs : List P → List P → Bool
  | [], [] => true
  | a :: r, b :: s => P.beq a b && P.beqs r s
  | _, _ => false
end
mutual
theorem P.beq_iff : ∀ a b : P, P.beq a b = true ↔ a = b
  | .non, b => by cases b <;> simp [P.beq]
  | .bl x, b => by cases b <;> simp [P.beq]
  | .int x, b => by cases b <;> simp [P.beq]
  | .str x, b => by cases b <;> simp [P.beq]
  | .tup x, b => by
    cases b with
    | tup y => simp only [P.beq, P.tup.injEq]; exact P.beqs_iff x y
    | _ => simp [P.beq]
  | .ktup x, b => by
    cases b with
    | ktup y => simp only [P.beq, P.ktup.injEq]; exact P.beqs_iff x y
    | _ => simp [P.beq]
theorem P.beqs_iff : ∀ a b : List P, P.beqs a b = true ↔ a = b
  | [], b => by cases b <;> simp [P.beqs]
  | x :: r, b => by
    cases b with
    | nil => simp [P.beqs]
    | cons y s => simp only [P.beqs, Bool.and_eq_true, List.cons.injEq]; rw [P.beq_iff x y, P.beqs_iff r s]
end
instance : DecidableEq P := fun a b => decidable_of_iff _ (P.beq_iff a b)

mutual
def D.beq : D → D → Bool
  | .p a, .p b => decide (a = b)
  | .ref a, .ref b => decide (a = b)
  | .tup a, .tup b => D.beqs a b
  | _, _ => false
def D.beqs : List D → List D → Bool
  | [], [] => true
  | a :: r, b :: s => D.beq a b && D.beqs r s
  | _, _ => false
end
mutual
theorem D.beq_iff : ∀ a b : D, D.beq a b = true ↔ a = b
  | .p x, b => by cases b <;> simp [D.beq]
  | .ref x, b => by cases b <;> simp [D.beq]
  | .tup x, b => by
    cases b with
    | tup y => simp only [D.beq, D.tup.injEq]; exact D.beqs_iff x y
    | _ => simp [D.beq]
theorem D.beqs_iff : ∀ a b : List D, D.beqs a b = true ↔ a = b
  | [], b => by cases b <;> simp [D.beqs]
  | x :: r, b => by
    cases b with
    | nil => simp [D.beqs]
    | cons y s => simp only [D.beqs, Bool.and_eq_true, List.cons.injEq]; rw [D.beq_iff x y, D.beqs_iff r s]
end
instance : DecidableEq D := fun a b => decidable_of_iff _ (D.beq_iff a b)
/-- objects of the store -/
inductive MO where
  | lst (xs : List D) | fzl (xs : List D) | dct (kvs : List (D × D)) | fzd (kvs : List (D × D))
  deriving Inhabited, DecidableEq

/-! ### references -/
mutual
/-- one above the greatest reference -/
def D.top : D → Nat
  | .p _ => 0
  | .ref n => n + 1
  | .tup xs => D.tops xs
def D.tops : List D → Nat
  | [] => 0
  | x :: r => max (D.top x) (D.tops r)
end
def topKV : List (D × D) → Nat
  | [] => 0
  | (k, v) :: r => max (max k.top v.top) (topKV r)
def MO.top : MO → Nat
  | .lst xs | .fzl xs => D.tops xs
  | .dct kvs | .fzd kvs => topKV kvs
theorem tops_map_p (xs : List P) : D.tops (xs.map D.p) = 0 := by
  induction xs with
  | nil => rfl
  | cons x r ih => simp [D.tops, D.top, ih]
theorem tops_append (a b : List D) : D.tops (a ++ b) = max (D.tops a) (D.tops b) := by
  induction a with
  | nil => simp [D.tops]
  | cons x r ih => simp only [List.cons_append, D.tops, ih]; omega
theorem top_le_of_mem {x : D} {xs : List D} (h : x ∈ xs) : x.top ≤ D.tops xs := by
  induction xs with
  | nil => cases h
  | cons y r ih =>
    simp only [D.tops]
    rcases List.mem_cons.mp h with e | h
    · subst e; omega
    · have := ih h; omega
theorem tops_le_of {xs : List D} {b : Nat} (h : ∀ x ∈ xs, x.top ≤ b) : D.tops xs ≤ b := by
  induction xs with
  | nil => simp [D.tops]
  | cons y r ih =>
    simp only [D.tops]
    have h1 := h y List.mem_cons_self
    have h2 := ih fun x hx => h x (List.mem_cons_of_mem _ hx)
    omega
def envTop : List (Option D) → Nat
  | [] => 0
  | none :: r => envTop r
  | some d :: r => max d.top (envTop r)
theorem envTop_le {st : List (Option D)} {b : Nat} : envTop st ≤ b ↔ ∀ (i : Nat) d, st[i]? = some (some d) → d.top ≤ b := by
  induction st with
  | nil => simp [envTop]
  | cons o r ih =>
    have key : (∀ (i : Nat) d, (o :: r)[i]? = some (some d) → d.top ≤ b) ↔ ((∀ d, o = some d → d.top ≤ b) ∧ ∀ (i : Nat) d, r[i]? = some (some d) → d.top ≤ b) := by
      constructor
      · intro h
        exact ⟨fun d e => h 0 d (by simp [e]), fun i d e => h (i + 1) d (by simpa using e)⟩
      · rintro ⟨h1, h2⟩ i d e
        cases i with
        | zero => exact h1 d (by simpa using e)
        | succ i => exact h2 i d (by simpa using e)
    rw [key, ← ih]
    cases o with
    | none => simp [envTop]
    | some d => simp [envTop, Nat.max_le]

/-! ### tuples -/
def D.toP : D → Option P
  | .p x => some x
  | _ => none
def allP : List D → Option (List P)
  | [] => some []
  | d :: r => match d.toP, allP r with
    | some x, some xs => some (x :: xs)
    | _, _ => none
def mkTup (ds : List D) : D := match allP ds with
  | some ps => .p (.tup ps)
  | none => .tup ds
theorem allP_map (xs : List P) : allP (xs.map D.p) = some xs := by
  induction xs with
  | nil => rfl
  | cons x r ih => simp [allP, D.toP, ih]
theorem allP_some : ∀ {ds : List D} {ps : List P}, allP ds = some ps → ds = ps.map D.p
  | [], ps, h => by simp [allP] at h; subst h; rfl
  | d :: r, ps, h => by
    unfold allP at h
    cases d with
    | p x =>
      simp only [D.toP] at h
      cases e : allP r with
      | none => rw [e] at h; cases h
      | some xs => rw [e] at h; cases h; simp [allP_some e]
    | ref n => simp [D.toP] at h
    | tup y => simp [D.toP] at h
@[simp] theorem mkTup_p (xs : List P) : mkTup (xs.map D.p) = .p (.tup xs) := by unfold mkTup; rw [allP_map]
/-- the items of a tuple -/
def D.items : D → Option (List D)
  | .p (.tup xs) => some (xs.map D.p)
  | .tup ds => some ds
  | _ => none
theorem top_mkTup (ds : List D) : (mkTup ds).top ≤ D.tops ds := by
  unfold mkTup
  cases e : allP ds with
  | some ps => simp [D.top]
  | none => exact Nat.le_refl _
theorem tops_items {d : D} {ds : List D} (h : d.items = some ds) : D.tops ds ≤ d.top := by
  cases d with
  | p x =>
    cases x with
    | tup xs => simp only [D.items, Option.some.injEq] at h; subst h; rw [tops_map_p]; exact Nat.zero_le _
    | _ => simp [D.items] at h
  | tup xs => simp only [D.items, Option.some.injEq] at h; subst h; exact Nat.le_refl _
  | ref n => simp [D.items] at h

/-! ### the store -/
structure Sto where
  objs : List MO
  /-- writes that made an object name a later one: the object, one above the greatest name -/
  wr : List (Nat × Nat) := []
abbrev Sto.len (S : Sto) : Nat := S.objs.length
abbrev Sto.get (S : Sto) (n : Nat) : Option MO := S.objs[n]?
def Sto.push (S : Sto) (o : MO) : Sto := { S with objs := S.objs ++ [o] }
def Sto.set (S : Sto) (n : Nat) (o : MO) : Sto := { objs := S.objs.set n o, wr := if o.top ≤ n then S.wr else (n, o.top) :: S.wr }
/-- may all from b on be forgotten, as far as older objects go? -/
def Sto.cutOk (S : Sto) (b : Nat) : Bool := S.wr.all fun q => decide (b ≤ q.1) || decide (q.2 ≤ b)
def Sto.cut (S : Sto) (b : Nat) : Sto := { objs := S.objs.take b, wr := S.wr.filter fun q => decide (q.1 < b) }

/-! ### how the heap bears data -/
mutual
inductive RepP (K : PySem.W.Frag) (H : Hp) : P → V → Prop
  | non : RepP K H .non .non
  | bl (b : Bool) : RepP K H (.bl b) (.bl b)
  | int (i : Int) : RepP K H (.int i) (.int i)
  | str {x : List Nat} : (∀ c ∈ x, c < 128) → RepP K H (.str x) (.str ⟨x.toArray⟩)
  | tup {a : Addr} {vs : List V} {xs : List P} : H a = some (.tup vs) → RepPs K H xs vs → RepP K H (.tup xs) (.ref a)
  | ktup {a : Addr} {vs : List V} {xs : List P} : (∀ H', SqT K H' a vs) → RepPs K H xs vs → RepP K H (.ktup xs) (.ref a)
inductive RepPs (K : PySem.W.Frag) (H : Hp) : List P → List V → Prop
  | nil : RepPs K H [] []
  | cons {x : P} {xs : List P} {v : V} {vs : List V} : RepP K H x v → RepPs K H xs vs → RepPs K H (x :: xs) (v :: vs)
end
mutual
inductive Rep (r : List Addr) (K : PySem.W.Frag) (H : Hp) : D → V → Prop
  | p {x : P} {v : V} : RepP K H x v → Rep r K H (.p x) v
  | ref {n : Nat} {a : Addr} : r[n]? = some a → Rep r K H (.ref n) (.ref a)
  | tup {a : Addr} {vs : List V} {ds : List D} : H a = some (.tup vs) → Reps r K H ds vs → Rep r K H (.tup ds) (.ref a)
inductive Reps (r : List Addr) (K : PySem.W.Frag) (H : Hp) : List D → List V → Prop
  | nil : Reps r K H [] []
  | cons {d : D} {ds : List D} {v : V} {vs : List V} : Rep r K H d v → Reps r K H ds vs → Reps r K H (d :: ds) (v :: vs)
end

/-- what never changes: tuples; what is frozen, while it is so -/
def Stay : HO → Prop
  | .tup _ => True
  | .frz _ _ => True
  | _ => False
/-- tuples and frozen things stay -/
def Kp (H H' : Hp) : Prop := ∀ b u, Stay u → H b = some u → H' b = some u
theorem Kp.tup {H H' : Hp} (k : Kp H H') {b : Addr} {xs : List V} (h : H b = some (.tup xs)) : H' b = some (.tup xs) := k b _ True.intro h
/-- tuples stay -/
def Kt (H H' : Hp) : Prop := ∀ b xs, H b = some (.tup xs) → H' b = some (.tup xs)
theorem Kp.kt {H H' : Hp} (k : Kp H H') : Kt H H' := fun _ _ h => k.tup h
theorem Kp.refl {H : Hp} : Kp H H := fun _ _ _ h => h
theorem Kp.trans {H H' H'' : Hp} (a : Kp H H') (b : Kp H' H'') : Kp H H'' := fun x u hu h => b x u hu (a x u hu h)
theorem Kp.upd {H : Hp} {a : Addr} {o : HO} (h : ∀ u, Stay u → H a ≠ some u) : Kp H (upd H a o) := fun b u hu q => by
  have hb : b ≠ a := fun e => h u hu (e ▸ q)
  rw [upd_ne hb]
  exact q
theorem Kp.new {H : Hp} {a : Addr} {o : HO} (h : H a = none) : Kp H (L2.upd H a o) := Kp.upd fun u hu q => by
  rw [h] at q
  cases q

section
variable {K : PySem.W.Frag} {H H' : Hp} {r r' : List Addr}
mutual
theorem RepP.monoT (k : Kt H H') : ∀ {x : P} {v : V}, RepP K H x v → RepP K H' x v
  | _, _, .non => .non
  | _, _, .bl b => .bl b
  | _, _, .int i => .int i
  | _, _, .str h => .str h
  | _, _, .tup h q => .tup (k _ _ h) (RepPs.monoT k q)
  | _, _, .ktup h q => .ktup h (RepPs.monoT k q)
theorem RepPs.monoT (k : Kt H H') : ∀ {x : List P} {v : List V}, RepPs K H x v → RepPs K H' x v
  | _, _, .nil => .nil
  | _, _, .cons h q => .cons (RepP.monoT k h) (RepPs.monoT k q)
end
mutual
theorem Rep.monoT (k : Kt H H') (e : r <+: r') : ∀ {d : D} {v : V}, Rep r K H d v → Rep r' K H' d v
  | _, _, .p h => .p (h.monoT k)
  | _, _, .ref h => .ref (by
      obtain ⟨t, rfl⟩ := e
      rw [List.getElem?_append_left (List.getElem?_eq_some_iff.mp h).1]; exact h)
  | _, _, .tup h q => .tup (k _ _ h) (Reps.monoT k e q)
theorem Reps.monoT (k : Kt H H') (e : r <+: r') : ∀ {d : List D} {v : List V}, Reps r K H d v → Reps r' K H' d v
  | _, _, .nil => .nil
  | _, _, .cons h q => .cons (Rep.monoT k e h) (Reps.monoT k e q)
end
theorem RepP.mono (k : Kp H H') {x : P} {v : V} (h : RepP K H x v) : RepP K H' x v := h.monoT k.kt
theorem RepPs.mono (k : Kp H H') {x : List P} {v : List V} (h : RepPs K H x v) : RepPs K H' x v := h.monoT k.kt
theorem Rep.mono (k : Kp H H') (e : r <+: r') {d : D} {v : V} (h : Rep r K H d v) : Rep r' K H' d v := h.monoT k.kt e
theorem Reps.mono (k : Kp H H') (e : r <+: r') {d : List D} {v : List V} (h : Reps r K H d v) : Reps r' K H' d v := h.monoT k.kt e
mutual
/-- a reference lies below the map's length -/
theorem Rep.top_le : ∀ {d : D} {v : V}, Rep r K H d v → d.top ≤ r.length
  | _, _, .p _ => by simp [D.top]
  | _, _, .ref h => by simp only [D.top]; exact (List.getElem?_eq_some_iff.mp h).1
  | _, _, .tup _ q => by simp only [D.top]; exact Reps.tops_le q
theorem Reps.tops_le : ∀ {d : List D} {v : List V}, Reps r K H d v → D.tops d ≤ r.length
  | _, _, .nil => by simp [D.tops]
  | _, _, .cons h q => by simp only [D.tops]; exact Nat.max_le.mpr ⟨Rep.top_le h, Reps.tops_le q⟩
end
mutual
theorem Rep.cut {b : Nat} : ∀ {d : D} {v : V}, Rep r K H d v → d.top ≤ b → Rep (r.take b) K H d v
  | _, _, .p h, _ => .p h
  | _, _, .ref (n := n) h, hb => .ref (by simp only [D.top] at hb; rw [List.getElem?_take_of_lt (by omega)]; exact h)
  | _, _, .tup h q, hb => .tup h (Reps.cut q (by simpa only [D.top] using hb))
theorem Reps.cut {b : Nat} : ∀ {d : List D} {v : List V}, Reps r K H d v → D.tops d ≤ b → Reps (r.take b) K H d v
  | _, _, .nil, _ => .nil
  | _, _, .cons h q, hb => by
    simp only [D.tops] at hb
    exact .cons (Rep.cut h (by omega)) (Reps.cut q (by omega))
end
theorem Reps.length : ∀ {ds : List D} {vs : List V}, Reps r K H ds vs → ds.length = vs.length
  | _, _, .nil => rfl
  | _, _, .cons _ q => by simp [Reps.length q]
theorem Reps.get : ∀ {ds : List D} {vs : List V} {i : Nat} {d : D}, Reps r K H ds vs → ds[i]? = some d → ∃ v, vs[i]? = some v ∧ Rep r K H d v
  | _, _, 0, _, .cons h _, e => by simp at e; subst e; exact ⟨_, by simp, h⟩
  | _, _, i + 1, _, .cons _ q, e => by
    obtain ⟨v, e', h⟩ := Reps.get (i := i) q (by simpa using e)
    exact ⟨v, by simpa using e', h⟩
  | _, _, _, _, .nil, e => by simp at e
theorem Reps.append : ∀ {ds es : List D} {vs ws : List V}, Reps r K H ds vs → Reps r K H es ws → Reps r K H (ds ++ es) (vs ++ ws)
  | _, _, _, _, .nil, s => s
  | _, _, _, _, .cons h q, s => .cons h (Reps.append q s)
theorem Reps.take : ∀ {ds : List D} {vs : List V} (n : Nat), Reps r K H ds vs → Reps r K H (ds.take n) (vs.take n)
  | _, _, 0, _ => by simpa using Reps.nil
  | _, _, _ + 1, .nil => by simpa using Reps.nil
  | _, _, n + 1, .cons h q => .cons h (Reps.take n q)
theorem Reps.drop : ∀ {ds : List D} {vs : List V} (n : Nat), Reps r K H ds vs → Reps r K H (ds.drop n) (vs.drop n)
  | _, _, 0, h => h
  | _, _, _ + 1, .nil => by simpa using Reps.nil
  | _, _, n + 1, .cons h q => Reps.drop n q
theorem Reps.set {d : D} {v : V} (hd : Rep r K H d v) : ∀ {ds : List D} {vs : List V} (n : Nat), Reps r K H ds vs → Reps r K H (ds.set n d) (vs.set n v)
  | _, _, _, .nil => .nil
  | _, _, 0, .cons _ q => .cons hd q
  | _, _, n + 1, .cons h q => .cons h (Reps.set hd n q)
theorem Reps.reverse {ds : List D} {vs : List V} (h : Reps r K H ds vs) : Reps r K H ds.reverse vs.reverse := by
  have : ∀ {ds : List D} {vs : List V} {es : List D} {ws : List V}, Reps r K H ds vs → Reps r K H es ws → Reps r K H (ds.reverseAux es) (vs.reverseAux ws) := by
    intro ds
    induction ds with
    | nil => intro vs es ws a b; cases a; exact b
    | cons x t ih => intro vs es ws a b; cases a with | cons h q => (have z := ih q (Reps.cons h b)); exact z
  exact this h .nil
theorem Reps.dropLast {ds : List D} {vs : List V} (h : Reps r K H ds vs) : Reps r K H ds.dropLast vs.dropLast := by
  rw [List.dropLast_eq_take, List.dropLast_eq_take, ← h.length]
  exact h.take _
theorem RepPs.toD : ∀ {xs : List P} {vs : List V}, RepPs K H xs vs → Reps r K H (xs.map D.p) vs
  | _, _, .nil => .nil
  | _, _, .cons h q => .cons (.p h) (RepPs.toD q)
theorem Reps.toP : ∀ {xs : List P} {vs : List V}, Reps r K H (xs.map D.p) vs → RepPs K H xs vs
  | [], _, h => by cases h; exact .nil
  | x :: xs, _, h => by
    cases h with
    | cons h q =>
      cases h with
      | p h => exact .cons h (Reps.toP q)
/-- a tuple, by its items -/
theorem Rep.items {d : D} {v : V} {ds : List D} (h : Rep r K H d v) (e : d.items = some ds) : ∃ a vs, v = .ref a ∧ H a = some (.tup vs) ∧ Reps r K H ds vs := by
  cases h with
  | p h =>
    cases h with
    | tup h q => simp only [D.items, Option.some.injEq] at e; subst e; exact ⟨_, _, rfl, h, q.toD⟩
    | _ => simp [D.items] at e
  | tup h q => simp only [D.items, Option.some.injEq] at e; subst e; exact ⟨_, _, rfl, h, q⟩
  | ref h => simp [D.items] at e
theorem Rep.mkTup {a : Addr} {vs : List V} {ds : List D} (h : H a = some (.tup vs)) (q : Reps r K H ds vs) : Rep r K H (mkTup ds) (.ref a) := by
  unfold Mi.mkTup
  cases e : allP ds with
  | some ps =>
    have := allP_some e
    subst this
    exact .p (.tup h q.toP)
  | none => exact .tup h q
end

/-! ### how the heap bears the store -/
def keyP : D → Option Key
  | .p (.int i) => some (.inl i)
  | .p (.str x) => some (.inr ⟨x.toArray⟩)
  | _ => none
def keyPs : List P → Option (List Key)
  | [] => some []
  | x :: r => match keyP (.p x), keyPs r with
    | some k, some ks => some (k :: ks)
    | _, _ => none
def keyT : D → Option (List Key)
  | .p (.tup xs) => keyPs xs
  | _ => none
def ascii (x : List Nat) : Prop := ∀ c ∈ x, c < 128
def okKey : D → Prop
  | .p (.str x) => ascii x
  | .p (.tup xs) => ∀ y, .str y ∈ xs → ascii y
  | _ => True
abbrev KVs (r : List Addr) (K : PySem.W.Frag) (H : Hp) (kvs : List (D × D)) (ks : List (Key × V)) : Prop := Paired (fun (a : D × D) (b : Key × V) => keyP a.1 = some b.1 ∧ okKey a.1 ∧ Rep r K H a.2 b.2) kvs ks
abbrev KVt (r : List Addr) (K : PySem.W.Frag) (H : Hp) (kvs : List (D × D)) (ks : List (List Key × V)) : Prop := Paired (fun (a : D × D) (b : List Key × V) => keyT a.1 = some b.1 ∧ okKey a.1 ∧ Rep r K H a.2 b.2) kvs ks
def DRep (r : List Addr) (K : PySem.W.Frag) (H : Hp) (kvs : List (D × D)) (u : HO) : Prop := (∃ ks, u = .dK ks ∧ KVs r K H kvs ks) ∨ ∃ ks, u = .dT ks ∧ KVt r K H kvs ks
def ORep (r : List Addr) (K : PySem.W.Frag) (H : Hp) (a : Addr) : MO → Prop
  | .lst xs => ∃ vs, H a = some (.lst vs) ∧ Reps r K H xs vs
  | .fzl xs => ∃ ob vs, H a = some (.frz ob (.lst vs)) ∧ Reps r K H xs vs
  | .dct kvs => ∃ u, H a = some u ∧ DRep r K H kvs u
  | .fzd kvs => ∃ ob u, H a = some (.frz ob u) ∧ DRep r K H kvs u
structure RelS (wr0 : List (Nat × Nat)) (r : List Addr) (K : PySem.W.Frag) (H : Hp) (S : Sto) : Prop where
  len : r.length = S.len
  nd : r.Nodup
  obj : ∀ n o, S.get n = some o → ∃ a, r[n]? = some a ∧ ORep r K H a o
  fwd : ∀ n o, S.get n = some o → o.top ≤ n ∨ ∃ q ∈ S.wr ++ wr0, q.1 = n ∧ o.top ≤ q.2
  wrb : ∀ q ∈ S.wr ++ wr0, q.2 ≤ S.len
structure RelE (r : List Addr) (K : PySem.W.Frag) (H : Hp) (sg : L2.St) (st : List (Option D)) : Prop where
  len : sg.length = st.length
  val : ∀ (i : Nat) d, st[i]? = some (some d) → ∃ v, sg[i]? = some (some v) ∧ Rep r K H d v
end Mi
set_option Elab.async false
set_option linter.all false
set_option maxRecDepth 100000
set_option maxHeartbeats 4000000
/-! Mi2: the store's steps; runs, and the readings that they make. -/
namespace Mi
open PySem PySem.Spec PyProof.Rows L2

section
variable {K : PySem.W.Frag} {H H' : Hp} {r r' : List Addr} {wr0 : List (Nat × Nat)} {S : Sto} {a : Addr} {o : MO}
theorem paired_mono {α β : Type} {F G : α → β → Prop} {l : List α} {m : List β} (h : Paired F l m) (f : ∀ a b, F a b → G a b) : Paired G l m := L2.Paired.mapP h f
theorem DRep.monoT (k : Kt H H') (e : r <+: r') {kvs : List (D × D)} {u : HO} (h : DRep r K H kvs u) : DRep r' K H' kvs u := by
  rcases h with ⟨ks, e1, h⟩ | ⟨ks, e1, h⟩
  · exact .inl ⟨ks, e1, paired_mono h fun _ _ q => ⟨q.1, q.2.1, q.2.2.monoT k e⟩⟩
  · exact .inr ⟨ks, e1, paired_mono h fun _ _ q => ⟨q.1, q.2.1, q.2.2.monoT k e⟩⟩
theorem ORep.monoT (k : Kt H H') (e : r <+: r') (ha : H' a = H a) (h : ORep r K H a o) : ORep r' K H' a o := by
  cases o with
  | lst xs => obtain ⟨vs, q, z⟩ := h; exact ⟨vs, ha.trans q, z.monoT k e⟩
  | fzl xs => obtain ⟨ob, vs, q, z⟩ := h; exact ⟨ob, vs, ha.trans q, z.monoT k e⟩
  | dct kvs => obtain ⟨u, q, z⟩ := h; exact ⟨u, ha.trans q, z.monoT k e⟩
  | fzd kvs => obtain ⟨ob, u, q, z⟩ := h; exact ⟨ob, u, ha.trans q, z.monoT k e⟩
theorem DRep.mono (k : Kp H H') (e : r <+: r') {kvs : List (D × D)} {u : HO} (h : DRep r K H kvs u) : DRep r' K H' kvs u := h.monoT k.kt e
theorem ORep.mono (k : Kp H H') (e : r <+: r') (ha : H' a = H a) (h : ORep r K H a o) : ORep r' K H' a o := h.monoT k.kt e ha
theorem ORep.ex_ (h : ORep r K H a o) : ∃ u, H a = some u := by
  cases o with
  | lst xs => obtain ⟨vs, q, z⟩ := h; exact ⟨_, q⟩
  | fzl xs => obtain ⟨ob, vs, q, z⟩ := h; exact ⟨_, q⟩
  | dct kvs => obtain ⟨u, q, z⟩ := h; exact ⟨_, q⟩
  | fzd kvs => obtain ⟨ob, u, q, z⟩ := h; exact ⟨_, q⟩
theorem DRep.notTup {kvs : List (D × D)} {u : HO} (h : DRep r K H kvs u) : ∀ xs, u ≠ .tup xs := by
  rcases h with ⟨ks, e1, h⟩ | ⟨ks, e1, h⟩ <;> subst e1 <;> intro xs e <;> cases e
theorem DRep.notFrz {kvs : List (D × D)} {u : HO} (h : DRep r K H kvs u) : ∀ ob xs, u ≠ .frz ob xs := by
  rcases h with ⟨ks, e1, h⟩ | ⟨ks, e1, h⟩ <;> subst e1 <;> intro ob xs e <;> cases e
def MO.fz : MO → Bool
  | .lst _ => false
  | .dct _ => false
  | _ => true
theorem DRep.noStay {kvs : List (D × D)} {u : HO} (h : DRep r K H kvs u) : ¬ Stay u := by
  rcases h with ⟨ks, e1, h⟩ | ⟨ks, e1, h⟩ <;> subst e1 <;> exact fun z => z
theorem ORep.noTup (h : ORep r K H a o) : ∀ xs, H a ≠ some (.tup xs) := by
  intro xs q
  cases o with
  | lst xs => obtain ⟨vs, e, z⟩ := h; rw [e] at q; cases q
  | fzl xs => obtain ⟨ob, vs, e, z⟩ := h; rw [e] at q; cases q
  | dct kvs => obtain ⟨u, e, z⟩ := h; rw [e] at q; cases q; exact z.notTup _ rfl
  | fzd kvs => obtain ⟨ob, u, e, z⟩ := h; rw [e] at q; cases q
theorem ORep.noStay (h : ORep r K H a o) (hf : o.fz = false) : ∀ u, Stay u → H a ≠ some u := by
  intro w hw q
  cases o with
  | lst xs => obtain ⟨vs, e, z⟩ := h; rw [e] at q; cases q; exact hw
  | fzl xs => cases hf
  | dct kvs => obtain ⟨u, e, z⟩ := h; rw [e] at q; cases q; exact z.noStay hw
  | fzd kvs => cases hf
theorem Kt.upd {H : Hp} {a : Addr} {o : HO} (h : ∀ xs, H a ≠ some (.tup xs)) : Kt H (upd H a o) := fun b xs q => by
  have hb : b ≠ a := fun e => h xs (e ▸ q)
  rw [upd_ne hb]
  exact q
theorem topKV_le {kvs : List (D × D)} {b : Nat} (h : ∀ p ∈ kvs, p.1.top ≤ b ∧ p.2.top ≤ b) : topKV kvs ≤ b := by
  induction kvs with
  | nil => simp [topKV]
  | cons p t ih =>
    obtain ⟨k, v⟩ := p
    simp only [topKV]
    have h1 := h (k, v) List.mem_cons_self
    have h2 := ih fun q hq => h q (List.mem_cons_of_mem _ hq)
    have h3 : k.top ≤ b := h1.1
    have h4 : v.top ≤ b := h1.2
    omega
theorem le_topKV {kvs : List (D × D)} {p : D × D} (h : p ∈ kvs) : p.1.top ≤ topKV kvs ∧ p.2.top ≤ topKV kvs := by
  induction kvs with
  | nil => cases h
  | cons q t ih =>
    obtain ⟨k, v⟩ := q
    simp only [topKV]
    rcases List.mem_cons.mp h with e | h
    · subst e; constructor <;> (dsimp only; omega)
    · have := ih h; omega
theorem keyP_top {d : D} {k : Key} (h : keyP d = some k) : d.top = 0 := by
  cases d with
  | p x => rfl
  | ref n => simp [keyP] at h
  | tup xs => simp [keyP] at h
theorem keyT_top {d : D} {k : List Key} (h : keyT d = some k) : d.top = 0 := by
  cases d with
  | p x => rfl
  | ref n => simp [keyT] at h
  | tup xs => simp [keyT] at h
theorem paired_mem {α β : Type} {F : α → β → Prop} : ∀ {l : List α} {m : List β}, Paired F l m → ∀ a ∈ l, ∃ b ∈ m, F a b
  | _, _, .nil, a, h => by cases h
  | _, _, .cons q t, a, h => by
    rcases List.mem_cons.mp h with e | h
    · subst e; exact ⟨_, List.mem_cons_self, q⟩
    · obtain ⟨b, hb, z⟩ := paired_mem t a h
      exact ⟨b, List.mem_cons_of_mem _ hb, z⟩
theorem DRep.top_le {kvs : List (D × D)} {u : HO} (h : DRep r K H kvs u) : topKV kvs ≤ r.length := by
  refine topKV_le fun p hp => ?_
  rcases h with ⟨ks, e1, h⟩ | ⟨ks, e1, h⟩
  · obtain ⟨b, _, h1, _, h2⟩ := paired_mem h p hp
    exact ⟨by rw [keyP_top h1]; exact Nat.zero_le _, h2.top_le⟩
  · obtain ⟨b, _, h1, _, h2⟩ := paired_mem h p hp
    exact ⟨by rw [keyT_top h1]; exact Nat.zero_le _, h2.top_le⟩
theorem ORep.top_le (h : ORep r K H a o) : o.top ≤ r.length := by
  cases o with
  | lst xs => obtain ⟨vs, e, z⟩ := h; exact z.tops_le
  | fzl xs => obtain ⟨ob, vs, e, z⟩ := h; exact z.tops_le
  | dct kvs => obtain ⟨u, e, z⟩ := h; exact z.top_le
  | fzd kvs => obtain ⟨ob, u, e, z⟩ := h; exact z.top_le
theorem paired_strong {α β : Type} {F G : α → β → Prop} : ∀ {l : List α} {m : List β}, Paired F l m → (∀ a ∈ l, ∀ b, F a b → G a b) → Paired G l m
  | _, _, .nil, _ => .nil
  | _, _, .cons q t, f => .cons (f _ List.mem_cons_self _ q) (paired_strong t fun a ha => f a (List.mem_cons_of_mem _ ha))
theorem DRep.cut {b : Nat} {kvs : List (D × D)} {u : HO} (h : DRep r K H kvs u) (hb : topKV kvs ≤ b) : DRep (r.take b) K H kvs u := by
  rcases h with ⟨ks, e1, h⟩ | ⟨ks, e1, h⟩
  · exact .inl ⟨ks, e1, paired_strong h fun p hp _ q => ⟨q.1, q.2.1, q.2.2.cut (Nat.le_trans (le_topKV hp).2 hb)⟩⟩
  · exact .inr ⟨ks, e1, paired_strong h fun p hp _ q => ⟨q.1, q.2.1, q.2.2.cut (Nat.le_trans (le_topKV hp).2 hb)⟩⟩
theorem ORep.cut {b : Nat} (h : ORep r K H a o) (hb : o.top ≤ b) : ORep (r.take b) K H a o := by
  cases o with
  | lst xs => obtain ⟨vs, e, z⟩ := h; exact ⟨vs, e, z.cut hb⟩
  | fzl xs => obtain ⟨ob, vs, e, z⟩ := h; exact ⟨ob, vs, e, z.cut hb⟩
  | dct kvs => obtain ⟨u, e, z⟩ := h; exact ⟨u, e, z.cut hb⟩
  | fzd kvs => obtain ⟨ob, u, e, z⟩ := h; exact ⟨ob, u, e, z.cut hb⟩

theorem nodup_at {l : List Addr} (h : l.Nodup) {i j : Nat} {x : Addr} (a : l[i]? = some x) (b : l[j]? = some x) : i = j := by
  obtain ⟨h1, e1⟩ := List.getElem?_eq_some_iff.mp a
  obtain ⟨h2, e2⟩ := List.getElem?_eq_some_iff.mp b
  exact (List.getElem_inj h).mp (e1.trans e2.symm)
theorem RelS.lt (s : RelS wr0 r K H S) {n : Nat} {o : MO} (h : S.get n = some o) : n < S.len := (List.getElem?_eq_some_iff.mp h).1
theorem RelS.at (s : RelS wr0 r K H S) {n : Nat} (h : r[n]? = some a) : ∃ o, S.get n = some o ∧ ORep r K H a o := by
  have hl : n < S.objs.length := by
    have h1 := (List.getElem?_eq_some_iff.mp h).1
    have h2 := s.len
    unfold Sto.len at h2
    omega
  have e : S.get n = some S.objs[n] := List.getElem?_eq_getElem hl
  obtain ⟨b, h1, h2⟩ := s.obj _ _ e
  rw [h] at h1
  cases h1
  exact ⟨_, e, h2⟩
theorem RelS.fresh (s : RelS wr0 r K H S) {p : Addr} (hp : H p = none) : p ∉ r := fun hm => by
  obtain ⟨n, hn⟩ := List.getElem?_of_mem hm
  obtain ⟨o, _, h⟩ := s.at hn
  obtain ⟨u, hu⟩ := h.ex_
  rw [hp] at hu
  cases hu
/-- the heap changes at no object of the store -/
theorem RelS.mono (s : RelS wr0 r K H S) (k : Kp H H') (h : ∀ a ∈ r, H' a = H a) : RelS wr0 r K H' S where
  len := s.len
  nd := s.nd
  obj := fun n o e => by
    obtain ⟨a, h1, h2⟩ := s.obj n o e
    exact ⟨a, h1, h2.mono k (List.prefix_refl _) (h a (List.mem_of_getElem? h1))⟩
  fwd := s.fwd
  wrb := s.wrb
/-- a new object that the store doesn't track -/
theorem RelS.other (s : RelS wr0 r K H S) {p : Addr} {u : HO} (hp : H p = none) : RelS wr0 r K (upd H p u) S :=
  s.mono (Kp.new hp) fun a ha => upd_ne fun e => s.fresh hp (e ▸ ha)
/-- a new object of the store -/
theorem RelS.push (s : RelS wr0 r K H S) {p : Addr} {u : HO} (hp : H p = none) (h : ORep (r ++ [p]) K (upd H p u) p o) (ht : o.top ≤ S.len) : RelS wr0 (r ++ [p]) K (upd H p u) (S.push o) where
  len := by simp [Sto.push, Sto.len, s.len]
  nd := by
    rw [List.nodup_append]
    exact ⟨s.nd, by simp, fun x hx y hy => by simp at hy; subst hy; exact fun e => s.fresh hp (e ▸ hx)⟩
  obj := fun n o' e => by
    have e' : (S.objs ++ [o])[n]? = some o' := e
    by_cases hn : n < S.objs.length
    · rw [List.getElem?_append_left hn] at e'
      obtain ⟨a, h1, h2⟩ := s.obj n o' e'
      refine ⟨a, by rw [List.getElem?_append_left (by have := s.len; unfold Sto.len at this; omega)]; exact h1, h2.mono (Kp.new hp) (List.prefix_append _ _) (upd_ne fun e => ?_)⟩
      exact s.fresh hp (e ▸ List.mem_of_getElem? h1)
    · have hn' : n = S.objs.length := by
        have := (List.getElem?_eq_some_iff.mp e').1
        simp at this
        omega
      subst hn'
      simp at e'
      subst e'
      exact ⟨p, by rw [← show r.length = S.objs.length from s.len]; simp, h⟩
  fwd := fun n o' e => by
    have e' : (S.objs ++ [o])[n]? = some o' := e
    by_cases hn : n < S.objs.length
    · rw [List.getElem?_append_left hn] at e'
      exact s.fwd n o' e'
    · have hn' : n = S.objs.length := by
        have := (List.getElem?_eq_some_iff.mp e').1
        simp at this
        omega
      subst hn'
      simp at e'
      subst e'
      exact .inl ht
  wrb := fun q hq => by
    have := s.wrb q hq
    simp only [Sto.push, Sto.len, List.length_append, List.length_cons, List.length_nil]
    unfold Sto.len at this
    omega
/-- an object is changed -/
theorem RelS.set (s : RelS wr0 r K H S) {n : Nat} {o o' : MO} {u : HO} (hn : S.get n = some o) (ha : r[n]? = some a) (h : ORep r K (upd H a u) a o') : RelS wr0 r K (upd H a u) (S.set n o') where
  len := by simp [Sto.set, Sto.len, s.len]
  nd := s.nd
  obj := fun m o2 e => by
    have e' : (S.objs.set n o')[m]? = some o2 := e
    by_cases hm : n = m
    · subst hm
      rw [List.getElem?_set_self (s.lt hn)] at e'
      cases e'
      exact ⟨a, ha, h⟩
    · rw [List.getElem?_set_ne hm] at e'
      obtain ⟨b, h1, h2⟩ := s.obj m o2 e'
      obtain ⟨o3, h3, h4⟩ := s.at ha
      refine ⟨b, h1, h2.monoT (Kt.upd h4.noTup) (List.prefix_refl _) (upd_ne fun e => ?_)⟩
      subst e
      exact hm (nodup_at s.nd ha h1)
  fwd := fun m o2 e => by
    have e' : (S.objs.set n o')[m]? = some o2 := e
    by_cases hm : n = m
    · subst hm
      rw [List.getElem?_set_self (s.lt hn)] at e'
      cases e'
      by_cases ht : o'.top ≤ n
      · exact .inl ht
      · refine .inr ⟨(n, o'.top), ?_, rfl, Nat.le_refl _⟩
        unfold Sto.set
        rw [if_neg ht]
        simp
    · rw [List.getElem?_set_ne hm] at e'
      rcases s.fwd m o2 e' with h | ⟨q, hq, h1, h2⟩
      · exact .inl h
      · refine .inr ⟨q, ?_, h1, h2⟩
        unfold Sto.set
        simp only
        split
        · exact hq
        · exact List.mem_cons_of_mem _ hq
  wrb := fun q hq => by
    have e : (S.set n o').len = S.len := by simp [Sto.set, Sto.len]
    rw [e]
    unfold Sto.set at hq
    simp only at hq
    split at hq
    · exact s.wrb q hq
    · rcases List.mem_cons.mp hq with e1 | hq
      · subst e1
        have := h.top_le
        rw [s.len] at this
        exact this
      · exact s.wrb q hq
/-- all from b on is forgotten -/
theorem RelS.cut (s : RelS wr0 r K H S) {b : Nat} (hb : b ≤ S.len) (hc : S.cutOk b = true) (h0 : ∀ q ∈ wr0, q.2 ≤ b) : RelS wr0 (r.take b) K H (S.cut b) := by
  have hw : ∀ q ∈ S.wr, q.1 < b → q.2 ≤ b := fun q hq hl => by
    have z := List.all_eq_true.mp hc q hq
    simp only [Bool.or_eq_true, decide_eq_true_eq] at z
    omega
  have hg : ∀ n o, (S.cut b).get n = some o → n < b ∧ S.get n = some o := fun n o e => by
    have e' : (S.objs.take b)[n]? = some o := e
    have hl := (List.getElem?_eq_some_iff.mp e').1
    rw [List.length_take] at hl
    rw [List.getElem?_take_of_lt (by omega)] at e'
    exact ⟨by omega, e'⟩
  have hlen : (S.cut b).len = b := by
    simp only [Sto.cut, Sto.len, List.length_take]
    unfold Sto.len at hb
    omega
  refine ⟨?_, s.nd.sublist (List.take_sublist _ _), fun n o e => ?_, fun n o e => ?_, fun q hq => ?_⟩
  · rw [hlen, List.length_take, s.len]
    omega
  · obtain ⟨hn, e⟩ := hg n o e
    obtain ⟨a, h1, h2⟩ := s.obj n o e
    refine ⟨a, by rw [List.getElem?_take_of_lt hn]; exact h1, h2.cut ?_⟩
    rcases s.fwd n o e with h | ⟨q, hq, h3, h4⟩
    · omega
    · rcases List.mem_append.mp hq with hq | hq
      · have := hw q hq (by omega)
        omega
      · have := h0 q hq
        omega
  · obtain ⟨hn, e⟩ := hg n o e
    rcases s.fwd n o e with h | ⟨q, hq, h3, h4⟩
    · exact .inl h
    · refine .inr ⟨q, ?_, h3, h4⟩
      rcases List.mem_append.mp hq with hq | hq
      · refine List.mem_append_left _ (List.mem_filter.mpr ⟨hq, ?_⟩)
        simp only [decide_eq_true_eq]
        omega
      · exact List.mem_append_right _ hq
  · rw [hlen]
    rcases List.mem_append.mp hq with hq | hq
    · obtain ⟨h1, h2⟩ := List.mem_filter.mp hq
      exact hw q h1 (by simpa using h2)
    · exact h0 q hq
theorem RelE.mono {sg : L2.St} {st : List (Option D)} (h : RelE r K H sg st) (k : Kp H H') (e : r <+: r') : RelE r' K H' sg st :=
  ⟨h.len, fun i d q => by
    obtain ⟨v, h1, h2⟩ := h.val i d q
    exact ⟨v, h1, h2.mono k e⟩⟩
theorem RelE.cut {sg : L2.St} {st : List (Option D)} {b : Nat} (h : RelE r K H sg st) (hb : envTop st ≤ b) : RelE (r.take b) K H sg st :=
  ⟨h.len, fun i d q => by
    obtain ⟨v, h1, h2⟩ := h.val i d q
    exact ⟨v, h1, h2.cut (envTop_le.mp hb i d q)⟩⟩
theorem RelE.set {sg : L2.St} {st : List (Option D)} {i : Nat} {d : D} {v : V} (h : RelE r K H sg st) (hd : Rep r K H d v) : RelE r K H (sg.set i (some v)) (st.set i (some d)) :=
  ⟨by simp [h.len], fun j e q => by
    by_cases hj : i = j
    · subst hj
      have hl : i < st.length := by
        have := (List.getElem?_eq_some_iff.mp q).1
        simpa using this
      rw [List.getElem?_set_self hl] at q
      cases q
      exact ⟨v, by rw [List.getElem?_set_self (by rw [h.len]; exact hl)], hd⟩
    · rw [List.getElem?_set_ne hj] at q
      obtain ⟨w, h1, h2⟩ := h.val j e q
      exact ⟨w, by rw [List.getElem?_set_ne hj]; exact h1, h2⟩⟩
/-- forgetting slots -/
theorem RelE.weak {sg : L2.St} {st st' : List (Option D)} (h : RelE r K H sg st) (hl : st'.length = st.length) (w : ∀ (i : Nat) d, st'[i]? = some (some d) → st[i]? = some (some d)) : RelE r K H sg st' :=
  ⟨h.len.trans hl.symm, fun i d q => h.val i d (w i d q)⟩
end

/-! ### runs -/
structure Exc where
  cls : Str
  fs : List (Str × D)
inductive Res (α : Type) where
  | ok (a : α) (S : Sto)
  | exc (x : Exc) (S : Sto)
  | stuck
abbrev Env := List (Option D)
abbrev EM (α : Type) := Env → Sto → Res α
def Res.bind {α β : Type} (m : Res α) (f : α → Sto → Res β) : Res β := match m with
  | .ok a S => f a S
  | .exc x S => .exc x S
  | .stuck => .stuck
@[simp] theorem Res.bind_ok {α β : Type} (a : α) (S : Sto) (f : α → Sto → Res β) : (Res.ok a S).bind f = f a S := rfl
@[simp] theorem Res.bind_exc {α β : Type} (x : Exc) (S : Sto) (f : α → Sto → Res β) : (Res.exc x S : Res α).bind f = .exc x S := rfl
@[simp] theorem Res.bind_stuck {α β : Type} (f : α → Sto → Res β) : (Res.stuck : Res α).bind f = .stuck := rfl
def ofOpt {α : Type} : Option (α × Sto) → Res α
  | some (a, S) => .ok a S
  | none => .stuck
@[simp] theorem ofOpt_some {α : Type} (a : α) (S : Sto) : ofOpt (some (a, S)) = .ok a S := rfl
@[simp] theorem ofOpt_none {α : Type} : ofOpt (none : Option (α × Sto)) = .stuck := rfl

/-- the program's side: the written part and the module's names -/
structure Pd where
  K : PySem.W.Frag
  mg : Str → Option Value
def ExcRep (r : List Addr) (G : Pd) (H : Hp) (x : Exc) (cls : Value) (da : Option Addr) : Prop :=
  ∃ C, G.mg x.cls = some (.ref C) ∧ cls = .ref C ∧ ((x.fs = [] ∧ da = none) ∨ ∃ d fvs, da = some d ∧ H d = some (.xd fvs) ∧ Paired (fun (p : Str × D) (q : Str × V) => p.1 = q.1 ∧ Rep r G.K H p.2 q.2) x.fs fvs)

section
variable (wr0 : List (Nat × Nat)) (G : Pd) (W : WX) {α β : Type}
/-- what a run's end must bring -/
def Run (R : List Addr → Hp → α → β → Prop) (r : List Addr) (sg : L2.St) (H : Hp) (m : Res α) (Q : β → Hp → Prop) : Prop := match m with
  | .ok a S' => ∀ r' H' b, r <+: r' → RelS wr0 r' G.K H' S' → Kp H H' → R r' H' a b → Q b H'
  | .exc x S' => ∀ r' H' cls da, r <+: r' → RelS wr0 r' G.K H' S' → Kp H H' → ExcRep r' G H' x cls da → W cls da sg H'
  | .stuck => False
/-- the reading that a run makes -/
def Tm (R : List Addr → Hp → α → β → Prop) (m : EM α) : L2.St → Hp → (β → Hp → Prop) → Prop := fun sg H Q =>
  ∃ r st S, RelE r G.K H sg st ∧ RelS wr0 r G.K H S ∧ Run wr0 G W R r sg H (m st S) Q
abbrev RD : List Addr → Hp → D → V → Prop := fun r H d v => Rep r G.K H d v
abbrev RDs : List Addr → Hp → List D → List V → Prop := fun r H d v => Reps r G.K H d v
abbrev RB : List Addr → Hp → Bool → Bool → Prop := fun _ _ a b => a = b
abbrev RI : List Addr → Hp → Option Int → Option Int → Prop := fun _ _ a b => a = b
abbrev TEm (m : EM D) : TE := Tm wr0 G W (RD G) m
abbrev TAm (m : EM (List D)) : TA := Tm wr0 G W (RDs G) m
abbrev TTm (m : EM Bool) : TT := Tm wr0 G W RB m
end
section
variable {wr0 : List (Nat × Nat)} {G : Pd} {W : WX} {α β γ δ : Type}
theorem Run.shift {R : List Addr → Hp → α → β → Prop} {r r1 : List Addr} {sg : L2.St} {H H1 : Hp} {m : Res α} {Q : β → Hp → Prop} (h : Run wr0 G W R r sg H m Q) (e : r <+: r1) (k : Kp H H1) : Run wr0 G W R r1 sg H1 m Q := by
  cases m with
  | ok a S => exact fun r' H' b e' s' k' q => h r' H' b (e.trans e') s' (k.trans k') q
  | exc x S => exact fun r' H' c d e' s' k' q => h r' H' c d (e.trans e') s' (k.trans k') q
  | stuck => exact h
theorem Run.imp {R : List Addr → Hp → α → β → Prop} {r : List Addr} {sg : L2.St} {H : Hp} {m : Res α} {Q Q' : β → Hp → Prop} (h : Run wr0 G W R r sg H m Q) (f : ∀ b H', Q b H' → Q' b H') : Run wr0 G W R r sg H m Q' := by
  cases m with
  | ok a S => exact fun r' H' b e' s' k' q => f _ _ (h r' H' b e' s' k' q)
  | exc x S => exact h
  | stuck => exact h
/-- a run in two parts -/
theorem Run.bind {R : List Addr → Hp → α → β → Prop} {R' : List Addr → Hp → γ → δ → Prop} {r : List Addr} {sg : L2.St} {st : Env} {H : Hp} {m : Res α} {f : α → Sto → Res γ} {Q : δ → Hp → Prop} (he : RelE r G.K H sg st)
    (h : Run wr0 G W R' r sg H (m.bind f) Q) :
    Run wr0 G W R r sg H m fun b H1 => ∃ r1 a S1, r <+: r1 ∧ Kp H H1 ∧ RelE r1 G.K H1 sg st ∧ RelS wr0 r1 G.K H1 S1 ∧ R r1 H1 a b ∧ Run wr0 G W R' r1 sg H1 (f a S1) Q := by
  cases m with
  | ok a S => exact fun r' H' b e' s' k' q => ⟨r', a, S, e', k', he.mono k' e', s', q, h.shift e' k'⟩
  | exc x S => exact h
  | stuck => exact h
theorem Tm.imp {R : List Addr → Hp → α → β → Prop} {m : EM α} {sg : L2.St} {H : Hp} {Q Q' : β → Hp → Prop} (h : Tm wr0 G W R m sg H Q) (f : ∀ b H', Q b H' → Q' b H') : Tm wr0 G W R m sg H Q' := by
  obtain ⟨r, st, S, he, hs, hr⟩ := h
  exact ⟨r, st, S, he, hs, hr.imp f⟩
end
/-- a weaker reading -/
theorem PE.wk {X : Cx} {e : Expr} {t t' : TE} (h : PE X e t) (f : ∀ sg H Q, t' sg H Q → t sg H Q) : PE X e t' := ⟨fun pins s σ H Q I q => h.run pins s σ H Q I (f σ H Q q)⟩
theorem PT.wk {X : Cx} {e : Expr} {t t' : TT} (h : PT X e t) (f : ∀ sg H Q, t' sg H Q → t sg H Q) : PT X e t' := ⟨fun pins s σ H Q I q => h.run pins s σ H Q I (f σ H Q q)⟩
theorem PW.wk {X : Cx} {e : Expr} {t t' : TT} (h : PW X e t) (f : ∀ sg H Q, t' sg H Q → t sg H Q) : PW X e t' := ⟨fun wh pins s σ H Q I q => h.run wh pins s σ H Q I (f σ H Q q)⟩
theorem PA.wk {X : Cx} {e : List Expr} {t t' : TA} (h : PA X e t) (f : ∀ sg H Q, t' sg H Q → t sg H Q) : PA X e t' := ⟨fun pos pins s σ H Q I q => h.run pos pins s σ H Q I (f σ H Q q)⟩
theorem PS.wk {X : Cx} {e : Stmt} {t t' : TS} (h : PS X e t) (f : ∀ D sg H, t' D sg H → t D sg H) : PS X e t' := ⟨fun pins s σ H D I q => h.run pins s σ H D I (f D σ H q)⟩
theorem PSs.wk {X : Cx} {e : List Stmt} {t t' : TS} (h : PSs X e t) (f : ∀ D sg H, t' D sg H → t D sg H) : PSs X e t' := ⟨fun pins s σ H D I q => h.run pins s σ H D I (f D σ H q)⟩
end Mi
set_option Elab.async false
set_option linter.all false
set_option maxRecDepth 100000
set_option maxHeartbeats 4000000
/-! Mi3: operations on values. -/
namespace Mi
open PySem PySem.Spec PyProof.Rows L2

/-! ### ends -/
def End (wr0 : List (Nat × Nat)) (G : Pd) (r : List Addr) (H : Hp) (d : D) (S' : Sto) (Q : VK) : Prop := ∀ r' H' v, r <+: r' → RelS wr0 r' G.K H' S' → Kp H H' → Rep r' G.K H' d v → Q v H'
section
variable {wr0 : List (Nat × Nat)} {G : Pd} {W : WX} {r : List Addr} {H : Hp} {S : Sto} {Q : VK} {sg : L2.St}
theorem run_opt {o : Option (D × Sto)} (h : Run wr0 G W (RD G) r sg H (ofOpt o) Q) : ∃ d S', o = some (d, S') ∧ End wr0 G r H d S' Q := by
  cases o with
  | none => exact h.elim
  | some p => exact ⟨p.1, p.2, rfl, h⟩
theorem End.here {d : D} {v : V} (h : End wr0 G r H d S Q) (s : RelS wr0 r G.K H S) (hd : Rep r G.K H d v) : Q v H := h r H v (List.prefix_refl _) s Kp.refl hd
theorem End.newTup {ds : List D} {vs : List V} (h : End wr0 G r H (mkTup ds) S Q) (s : RelS wr0 r G.K H S) (hd : Reps r G.K H ds vs) : ∀ p, H p = none → Q (.ref p) (upd H p (.tup vs)) := fun p hp =>
  h r _ _ (List.prefix_refl _) (s.other hp) (Kp.new hp) (Rep.mkTup upd_same (hd.mono (Kp.new hp) (List.prefix_refl _)))
theorem End.newLst {ds : List D} {vs : List V} (h : End wr0 G r H (.ref S.len) (S.push (.lst ds)) Q) (s : RelS wr0 r G.K H S) (hd : Reps r G.K H ds vs) : ∀ p, H p = none → Q (.ref p) (upd H p (.lst vs)) := fun p hp => by
  have hd' : Reps (r ++ [p]) G.K (upd H p (.lst vs)) ds vs := hd.mono (Kp.new hp) (List.prefix_append _ _)
  refine h (r ++ [p]) _ _ (List.prefix_append _ _) (s.push hp ⟨vs, upd_same, hd'⟩ ?_) (Kp.new hp) (.ref ?_)
  · have := hd.tops_le
    rw [s.len] at this
    exact this
  · rw [← s.len]; simp
theorem End.newDct {kvs : List (D × D)} {u : HO} (h : End wr0 G r H (.ref S.len) (S.push (.dct kvs)) Q) (s : RelS wr0 r G.K H S) (hd : DRep r G.K H kvs u) : ∀ p, H p = none → Q (.ref p) (upd H p u) := fun p hp => by
  have hd' : DRep (r ++ [p]) G.K (upd H p u) kvs u := hd.mono (Kp.new hp) (List.prefix_append _ _)
  refine h (r ++ [p]) _ _ (List.prefix_append _ _) (s.push hp ⟨u, upd_same, hd'⟩ ?_) (Kp.new hp) (.ref ?_)
  · have := hd.top_le
    rw [s.len] at this
    exact this
  · rw [← s.len]; simp
/-- an object is changed; d stands -/
theorem End.set {n : Nat} {a : Addr} {o o' : MO} {u : HO} {d : D} {v : V} (h : End wr0 G r H d (S.set n o') Q) (s : RelS wr0 r G.K H S) (hn : S.get n = some o) (ha : r[n]? = some a) (hu : ORep r G.K (upd H a u) a o') (hd : Rep r G.K H d v) (hf : o.fz = false := by rfl) : Q v (upd H a u) := by
  obtain ⟨o2, h1, h2⟩ := s.at ha
  rw [hn] at h1
  cases h1
  have k : Kp H (upd H a u) := Kp.upd (h2.noStay hf)
  exact h r _ _ (List.prefix_refl _) (s.set hn ha hu) k (hd.mono k (List.prefix_refl _))
end

/-! ### reading objects -/
/-- a list at a reference -/
def Sto.list (S : Sto) : D → Option (List D)
  | .ref n => match S.get n with
    | some (.lst xs) => some xs
    | some (.fzl xs) => some xs
    | _ => none
  | _ => none
/-- a list that may be changed -/
def Sto.mlist (S : Sto) : D → Option (Nat × List D)
  | .ref n => match S.get n with
    | some (.lst xs) => some (n, xs)
    | _ => none
  | _ => none
/-- a list or a tuple -/
def Sto.seq (S : Sto) (d : D) : Option (List D) := match d.items with
  | some xs => some xs
  | none => S.list d
def Sto.dict (S : Sto) : D → Option (List (D × D))
  | .ref n => match S.get n with
    | some (.dct xs) => some xs
    | some (.fzd xs) => some xs
    | _ => none
  | _ => none
section
variable {wr0 : List (Nat × Nat)} {K : PySem.W.Frag} {r : List Addr} {H : Hp} {S : Sto}
theorem RelS.list (s : RelS wr0 r K H S) {d : D} {v : V} {xs : List D} (hd : Rep r K H d v) (h : S.list d = some xs) : ∃ a vs, v = .ref a ∧ Rd H a (.lst vs) ∧ Reps r K H xs vs := by
  cases d with
  | p x => simp [Sto.list] at h
  | tup x => simp [Sto.list] at h
  | ref n =>
    cases hd with
    | ref ha =>
      obtain ⟨o, ho, hr⟩ := s.at ha
      simp only [Sto.list, ho] at h
      cases o with
      | lst ys => cases h; obtain ⟨vs, e, z⟩ := hr; exact ⟨_, vs, rfl, .inl e, z⟩
      | fzl ys => cases h; obtain ⟨ob, vs, e, z⟩ := hr; exact ⟨_, vs, rfl, .inr ⟨ob, e⟩, z⟩
      | dct ys => cases h
      | fzd ys => cases h
theorem RelS.mlist (s : RelS wr0 r K H S) {d : D} {v : V} {n : Nat} {xs : List D} (hd : Rep r K H d v) (h : S.mlist d = some (n, xs)) : ∃ a vs, v = .ref a ∧ r[n]? = some a ∧ S.get n = some (.lst xs) ∧ H a = some (.lst vs) ∧ Reps r K H xs vs := by
  cases d with
  | p x => simp [Sto.mlist] at h
  | tup x => simp [Sto.mlist] at h
  | ref m =>
    cases hd with
    | ref ha =>
      obtain ⟨o, ho, hr⟩ := s.at ha
      simp only [Sto.mlist, ho] at h
      cases o with
      | lst ys =>
        simp only [Option.some.injEq, Prod.mk.injEq] at h
        obtain ⟨rfl, rfl⟩ := h
        obtain ⟨vs, e, z⟩ := hr
        exact ⟨_, vs, rfl, ha, ho, e, z⟩
      | _ => cases h
theorem RelS.seq (s : RelS wr0 r K H S) {d : D} {v : V} {xs : List D} (hd : Rep r K H d v) (h : S.seq d = some xs) : ∃ a vs, v = .ref a ∧ (SqL K H a vs ∨ SqT K H a vs) ∧ Reps r K H xs vs := by
  unfold Sto.seq at h
  cases e : d.items with
  | some ys =>
    rw [e] at h
    cases h
    obtain ⟨a, vs, h1, h2, h3⟩ := hd.items e
    exact ⟨a, vs, h1, .inr (.inl (.inl h2)), h3⟩
  | none =>
    rw [e] at h
    obtain ⟨a, vs, h1, h2, h3⟩ := s.list hd h
    exact ⟨a, vs, h1, .inl (.inl h2), h3⟩
theorem RelS.dict (s : RelS wr0 r K H S) {d : D} {v : V} {kvs : List (D × D)} (hd : Rep r K H d v) (h : S.dict d = some kvs) : ∃ a u, v = .ref a ∧ Rd H a u ∧ DRep r K H kvs u := by
  cases d with
  | p x => simp [Sto.dict] at h
  | tup x => simp [Sto.dict] at h
  | ref n =>
    cases hd with
    | ref ha =>
      obtain ⟨o, ho, hr⟩ := s.at ha
      simp only [Sto.dict, ho] at h
      cases o with
      | dct ys => cases h; obtain ⟨u, e, z⟩ := hr; exact ⟨_, u, rfl, .inl e, z⟩
      | fzd ys => cases h; obtain ⟨ob, u, e, z⟩ := hr; exact ⟨_, u, rfl, .inr ⟨ob, e⟩, z⟩
      | lst ys => cases h
      | fzl ys => cases h
end

/-! ### two-place operations -/
abbrev F2 := D → D → Sto → Option (D × Sto)
def r2 (wr0 : List (Nat × Nat)) (G : Pd) (f : F2) : R2 := fun x y H Q => ∃ r S dx dy d S', RelS wr0 r G.K H S ∧ Rep r G.K H dx x ∧ Rep r G.K H dy y ∧ f dx dy S = some (d, S') ∧ End wr0 G r H d S' Q
theorem OpR.wk {X : Cx} {f : Value → Value → Sem Value} {t t' : R2} (h : OpR X f t) (w : ∀ x y H Q, t' x y H Q → t x y H Q) : OpR X f t' := fun pins s σ H x y v u Q I rx ry q => h pins s σ H x y v u Q I rx ry (w x y H Q q)
abbrev pint (i : Int) : D := .p (.int i)
abbrev pbl (b : Bool) : D := .p (.bl b)
abbrev pstr (x : List Nat) : D := .p (.str x)

section
variable {K : PySem.W.Frag} {r : List Addr} {H : Hp}
theorem Rep.int_inv {i : Int} {v : V} (h : Rep r K H (.p (.int i)) v) : v = .int i := by cases h with | p h => cases h; rfl
theorem Rep.bl_inv {b : Bool} {v : V} (h : Rep r K H (.p (.bl b)) v) : v = .bl b := by cases h with | p h => cases h; rfl
theorem Rep.non_inv {v : V} (h : Rep r K H (.p .non) v) : v = .non := by cases h with | p h => cases h; rfl
theorem Rep.str_inv {x : List Nat} {v : V} (h : Rep r K H (.p (.str x)) v) : v = .str ⟨x.toArray⟩ ∧ ascii x := by cases h with | p h => cases h with | str q => exact ⟨rfl, q⟩
theorem Rep.int (i : Int) : Rep r K H (.p (.int i)) (.int i) := .p (.int i)
theorem Rep.bl (b : Bool) : Rep r K H (.p (.bl b)) (.bl b) := .p (.bl b)
theorem Rep.str {x : List Nat} (h : ascii x) : Rep r K H (.p (.str x)) (.str ⟨x.toArray⟩) := .p (.str h)
end
theorem ascii_append {x y : List Nat} (hx : ascii x) (hy : ascii y) : ascii (x ++ y) := fun c h => (List.mem_append.mp h).elim (hx c) (hy c)
theorem str_append (x y : List Nat) : (⟨x.toArray⟩ : Str) ++ ⟨y.toArray⟩ = ⟨(x ++ y).toArray⟩ := by
  show Str.mk (x.toArray ++ y.toArray) = _
  simp

/-- a + b -/
def addF : F2
  | .p (.int i), .p (.int j), S => some (pint (i + j), S)
  | .p (.str x), .p (.str y), S => if x.length + y.length ≤ sizeLine then some (pstr (x ++ y), S) else none
  | a, b, S => match a.items, b.items with
    | some xs, some ys => if xs.length + ys.length ≤ sizeLine then some (mkTup (xs ++ ys), S) else none
    | _, _ => match S.mlist a, S.mlist b with
      | some (_, xs), some (_, ys) => if xs.length + ys.length ≤ sizeLine then some (.ref S.len, S.push (.lst (xs ++ ys))) else none
      | _, _ => none
section
variable {X : Cx} {wr0 : List (Nat × Nat)} {G : Pd}
theorem op_addF (hG : X.K = G.K) : OpR X (binaryOp .Add) (r2 wr0 G addF) := by
  refine OpR.wk (OpR.or (OpR.or op_add op_add_str) (OpR.or op_catA op_cat)) fun x y H Q h => ?_
  obtain ⟨r, S, dx, dy, d, S', s, hx, hy, hf, he⟩ := h
  unfold addF at hf
  split at hf
  · cases hf
    exact .inl (.inl ⟨_, _, hx.int_inv, hy.int_inv, he.here s (.int _)⟩)
  · split at hf
    · rename_i hz
      cases hf
      obtain ⟨e1, a1⟩ := hx.str_inv
      obtain ⟨e2, a2⟩ := hy.str_inv
      refine .inl (.inr ⟨_, _, e1, e2, ?_, ?_⟩)
      · simpa [Str.length] using hz
      · rw [str_append]
        exact he.here s (.str (ascii_append a1 a2))
    · cases hf
  · split at hf
    · rename_i xs ys e1 e2
      split at hf
      · cases hf
        rename_i hz
        obtain ⟨a, vs, rfl, ha, q1⟩ := hx.items e1
        obtain ⟨b, ws, rfl, hb, q2⟩ := hy.items e2
        refine .inr (.inl ⟨a, b, vs, ws, rfl, rfl, SqT.of ha, SqT.of hb, by rw [← q1.length, ← q2.length]; exact hz, fun e => ?_, fun _ e => ?_, fun _ _ => ?_⟩)
        · subst e
          cases q1
          exact he.here s (Rep.mkTup hb q2)
        · subst e
          cases q2
          rw [List.append_nil] at he
          exact he.here s (Rep.mkTup ha q1)
        · exact he.newTup s (q1.append q2)
      · cases hf
    · split at hf
      · rename_i n1 xs n2 ys e1 e2
        split at hf
        · cases hf
          rename_i hz
          obtain ⟨a, vs, rfl, ha, _, h1, q1⟩ := s.mlist hx e1
          obtain ⟨b, ws, rfl, hb, _, h2, q2⟩ := s.mlist hy e2
          exact .inr (.inr ⟨a, b, vs, ws, rfl, rfl, h1, h2, by rw [← q1.length, ← q2.length]; exact hz, he.newLst s (q1.append q2)⟩)
        · cases hf
      · cases hf
/-- a - b -/
def subF : F2
  | .p (.int i), .p (.int j), S => some (pint (i - j), S)
  | _, _, _ => none
theorem op_subF : OpR X (binaryOp .Sub) (r2 wr0 G subF) := by
  refine OpR.wk op_sub fun x y H Q h => ?_
  obtain ⟨r, S, dx, dy, d, S', s, hx, hy, hf, he⟩ := h
  unfold subF at hf
  split at hf
  · cases hf
    exact ⟨_, _, hx.int_inv, hy.int_inv, he.here s (.int _)⟩
  · cases hf
def small64I (i : Int) : Bool := decide (-(2 ^ 64) < i) && decide (i < 2 ^ 64)
theorem small64I_iff {i : Int} : small64I i = true ↔ (-(2 ^ 64) < i ∧ i < 2 ^ 64) := by simp [small64I]
/-- a text so many times -/
def repS (x : List Nat) (n : Nat) : List Nat := (List.replicate n x).flatten
theorem ascii_repS {x : List Nat} (h : ascii x) (n : Nat) : ascii (repS x n) := fun c hc => by
  obtain ⟨l, hl, hc⟩ := List.mem_flatten.mp hc
  rw [(List.mem_replicate.mp hl).2] at hc
  exact h c hc
theorem foldl_repS (x : List Nat) : ∀ (n : Nat) (acc : List Nat), (List.replicate n x.toArray).foldl (fun a b => a ++ b) acc.toArray = (acc ++ (List.replicate n x).flatten).toArray
  | 0, acc => by simp
  | n + 1, acc => by
    rw [List.replicate_succ, List.foldl_cons, List.append_toArray, foldl_repS x n (acc ++ x), List.replicate_succ, List.flatten_cons, List.append_assoc]
theorem op_mul_str : OpR X (binaryOp .Mult) (fun x y H Q => ∃ (z : List Nat) (j : Int), x = .str ⟨z.toArray⟩ ∧ y = .int j ∧ 1 < j ∧ j < 1000 ∧ 0 < z.length ∧ z.length < 1000 ∧ Q (.str ⟨(repS z j.toNat).toArray⟩) H) := by
  intro pins s σ H x y v u Q I rx ry h
  obtain ⟨z, j, rfl, rfl, h1, h2, h3, h4, q⟩ := h
  obtain ⟨t, rfl⟩ := rx
  obtain ⟨t', rfl⟩ := ry
  have hlen : (⟨z.toArray⟩ : Str).length = z.length := by simp [Str.length]
  have hm : z.length * j.toNat ≤ 1000 * 1000 := Nat.mul_le_mul (by omega) (by omega)
  refine PySem.P.mul_str (by rw [decide_eq_false (by omega), decide_eq_false (by omega)]; rfl) (fun _ _ => ?_) (fun _ _ => ?_) ?_
  · rw [hlen]
    have : (1000 : Int) ≤ (2 ^ 63 - 1) / j := Int.le_ediv_of_mul_le (by omega) (by omega)
    omega
  · rw [hlen]
    unfold Builtin.Str.tooLong
    rw [decide_eq_false]
    rw [sizeLine_eq]
    omega
  · rw [if_neg (by omega), if_neg (by
      have e1 : (j == 1) = false := beq_eq_false_iff_ne.mpr (by omega)
      have e2 : (z.length == 0) = false := beq_eq_false_iff_ne.mpr (by omega)
      rw [hlen, e1, e2]
      exact Bool.false_ne_true)]
    have e : (⟨(List.replicate j.toNat (⟨z.toArray⟩ : Str).cps).foldl (· ++ ·) #[]⟩ : Str) = ⟨(repS z j.toNat).toArray⟩ := by
      have := foldl_repS z j.toNat []
      simp only [List.nil_append] at this
      show Str.mk ((List.replicate j.toNat z.toArray).foldl (fun a b => a ++ b) (#[] : Array Nat)) = _
      exact congrArg Str.mk this
    rw [e]
    refine ⟨?_, ⟨.str _, H, I.tok _, ⟨_, rfl⟩, q⟩⟩
    have hr : (⟨(repS z j.toNat).toArray⟩ : Str).length = j.toNat * z.length := by simp [Str.length, repS]
    rw [hr, sizeLine_eq, Nat.mul_comm]
    omega
/-- a * b -/
def mulF : F2
  | .p (.int i), .p (.int j), S => if small64I i || small64I j then some (pint (i * j), S) else none
  | .p (.str x), .p (.int j), S => if 1 < j ∧ j < 1000 ∧ 0 < x.length ∧ x.length < 1000 then some (pstr (repS x j.toNat), S) else none
  | a, .p (.int j), S => match a.items with
    | some xs => if 2 ≤ j ∧ j ≤ 1000 ∧ xs.length ≤ 1000 ∧ xs ≠ [] then some (mkTup (List.replicate j.toNat xs).flatten, S) else none
    | none => match S.mlist a with
      | some (_, xs) => if 0 ≤ j ∧ j < 1000 ∧ xs.length < 1000 then some (.ref S.len, S.push (.lst (List.replicate j.toNat xs).flatten)) else none
      | none => none
  | _, _, _ => none
theorem Reps.rep {K : PySem.W.Frag} {r : List Addr} {H : Hp} {ds : List D} {vs : List V} (h : Reps r K H ds vs) : ∀ n, Reps r K H (List.replicate n ds).flatten (List.replicate n vs).flatten
  | 0 => by simpa using Reps.nil
  | n + 1 => by
    rw [List.replicate_succ, List.replicate_succ, List.flatten_cons, List.flatten_cons]
    exact h.append (Reps.rep h n)
theorem op_mulF (hG : X.K = G.K) : OpR X (binaryOp .Mult) (r2 wr0 G mulF) := by
  refine OpR.wk (OpR.or (OpR.or op_mul op_mul_str) (OpR.or op_repT op_rep)) fun x y H Q h => ?_
  obtain ⟨r, S, dx, dy, d, S', s, hx, hy, hf, he⟩ := h
  unfold mulF at hf
  split at hf
  · split at hf
    · rename_i hz
      cases hf
      refine .inl (.inl ⟨_, _, hx.int_inv, hy.int_inv, ?_, he.here s (.int _)⟩)
      rcases Bool.or_eq_true_iff.mp hz with z | z
      · exact .inl (small64I_iff.mp z)
      · exact .inr (small64I_iff.mp z)
    · cases hf
  · split at hf
    · rename_i hz
      cases hf
      obtain ⟨e1, a1⟩ := hx.str_inv
      exact .inl (.inr ⟨_, _, e1, hy.int_inv, hz.1, hz.2.1, hz.2.2.1, hz.2.2.2, he.here s (.str (ascii_repS a1 _))⟩)
    · cases hf
  · split at hf
    · rename_i xs e1
      split at hf
      · rename_i hz
        cases hf
        obtain ⟨a, vs, rfl, ha, q1⟩ := hx.items e1
        refine .inr (.inl ⟨a, _, vs, rfl, hy.int_inv, SqT.of ha, fun e => ?_, hz.1, hz.2.1, by rw [← q1.length]; exact hz.2.2.1, he.newTup s (q1.rep _)⟩)
        subst e
        cases q1
        exact hz.2.2.2 rfl
      · cases hf
    · split at hf
      · rename_i n xs e1
        split at hf
        · rename_i hz
          cases hf
          obtain ⟨a, vs, rfl, ha, _, h1, q1⟩ := s.mlist hx e1
          refine .inr (.inr ⟨a, _, vs, rfl, hy.int_inv, h1, by omega, by omega, ?_, he.newLst s (q1.rep _)⟩)
          rw [← q1.length, sizeLine_eq]
          refine Nat.le_trans (Nat.mul_le_mul (show xs.length ≤ 1000 by omega) (show Int.toNat _ ≤ 1000 by omega)) (by omega)
        · cases hf
      · cases hf
  · cases hf
/-- a % b, b positive -/
def modF : F2
  | .p (.int i), .p (.int j), S => if 0 < j then some (pint (i % j), S) else none
  | _, _, _ => none
theorem op_modF : OpR X (binaryOp .Mod) (r2 wr0 G modF) := by
  refine OpR.wk op_mod fun x y H Q h => ?_
  obtain ⟨r, S, dx, dy, d, S', s, hx, hy, hf, he⟩ := h
  unfold modF at hf
  split at hf
  · split at hf
    · rename_i hz
      cases hf
      exact ⟨_, _, hx.int_inv, hy.int_inv, hz, he.here s (.int _)⟩
    · cases hf
  · cases hf
/-- a // b, b positive, below 2 ^ 30 -/
def fdivF : F2
  | .p (.int i), .p (.int j), S => if 0 < j ∧ j < 1073741824 then some (pint (i / j), S) else none
  | _, _, _ => none
theorem op_fdivF : OpR X (binaryOp .FloorDiv) (r2 wr0 G fdivF) := by
  refine OpR.wk op_fdiv fun x y H Q h => ?_
  obtain ⟨r, S, dx, dy, d, S', s, hx, hy, hf, he⟩ := h
  unfold fdivF at hf
  split at hf
  · split at hf
    · rename_i hz
      cases hf
      exact ⟨_, _, hx.int_inv, hy.int_inv, hz, he.here s (.int _)⟩
    · cases hf
  · cases hf
/-- a ** b -/
def powF : F2
  | .p (.int i), .p (.int j), S => if 0 ≤ j ∧ j ≤ 1000 ∧ i.natAbs < 2 ^ 64 then some (pint (i ^ j.toNat), S) else none
  | _, _, _ => none
theorem op_powF : OpR X (binaryOp .Pow) (r2 wr0 G powF) := by
  refine OpR.wk op_pow fun x y H Q h => ?_
  obtain ⟨r, S, dx, dy, d, S', s, hx, hy, hf, he⟩ := h
  unfold powF at hf
  split at hf
  · split at hf
    · rename_i hz
      cases hf
      exact ⟨_, _, hx.int_inv, hy.int_inv, ⟨hz.1, by omega, hz.2.2⟩, he.here s (.int _)⟩
    · cases hf
  · cases hf

/-! ### comparisons -/
mutual
def P.py : P → PyData
  | .non => .none
  | .bl b => .bool b
  | .int i => .int i
  | .str x => .str ⟨x.toArray⟩
  | .tup xs => .tuple (P.pys xs)
  | .ktup xs => .tuple (P.pys xs)
def P.pys : List P → List PyData
  | [] => []
  | x :: r => P.py x :: P.pys r
end
theorem pys_map (xs : List P) : P.pys xs = xs.map P.py := by
  induction xs with
  | nil => rfl
  | cons x r ih => simp [P.pys, ih]
def optAll {α β : Type} (f : α → Option β) : List α → Option (List β)
  | [] => some []
  | d :: r => match f d, optAll f r with
    | some x, some xs => some (x :: xs)
    | _, _ => none
/-- a value as data of the library, to a depth -/
def D.py (S : Sto) : Nat → D → Option PyData
  | 0, .p x => some x.py
  | 0, _ => none
  | _ + 1, .p x => some x.py
  | n + 1, .tup ds => (optAll (D.py S n) ds).map .tuple
  | n + 1, .ref k => match S.get k with
    | some (.lst xs) => (optAll (D.py S n) xs).map .list
    | some (.fzl xs) => (optAll (D.py S n) xs).map .list
    | _ => none
theorem strOk_ascii {x : List Nat} (h : ascii x) : PyData.strOk ⟨x.toArray⟩ = true := by
  unfold PyData.strOk
  simp only [List.all_toArray, List.all_eq_true, decide_eq_true_eq]
  intro c hc
  have := h c hc
  omega
section
variable {K : PySem.W.Frag} {H : Hp} {r : List Addr} {wr0 : List (Nat × Nat)} {S : Sto}
mutual
theorem RepP.dp : ∀ {x : P} {v : V}, RepP K H x v → Dp K H v x.py
  | _, _, .non => .non
  | _, _, .bl b => .bl b
  | _, _, .int i => .int i
  | _, _, .str _ => .str _
  | _, _, .tup h q => .tup (.inl (.inl h)) (RepPs.dp q)
  | _, _, .ktup h q => .tup (h _) (RepPs.dp q)
theorem RepPs.dp : ∀ {x : List P} {v : List V}, RepPs K H x v → DpAll K H v (P.pys x)
  | _, _, .nil => .nil
  | _, _, .cons h q => .cons (RepP.dp h) (RepPs.dp q)
end
mutual
theorem RepP.lay : ∀ {x : P} {v : V}, RepP K H x v → PyData.canLay0 x.py = true
  | _, _, .non => rfl
  | _, _, .bl b => rfl
  | _, _, .int i => rfl
  | _, _, .str h => by
    simp only [P.py, PyData.canLay0]
    exact strOk_ascii h
  | _, _, .tup h q => by
    simp only [P.py, PyData.canLay0]
    exact RepPs.lay q
  | _, _, .ktup h q => by
    simp only [P.py, PyData.canLay0]
    exact RepPs.lay q
theorem RepPs.lay : ∀ {x : List P} {v : List V}, RepPs K H x v → PyData.canLayAll0 (P.pys x) = true
  | _, _, .nil => rfl
  | _, _, .cons h q => by simp only [P.pys, PyData.canLayAll0, RepP.lay h, RepPs.lay q, Bool.and_self]
end
theorem Reps.dpAll (f : D → Option PyData) (hf : ∀ d v u, Rep r K H d v → f d = some u → Dp K H v u ∧ PyData.canLay0 u = true) : ∀ {ds : List D} {vs : List V} {us : List PyData}, Reps r K H ds vs → optAll f ds = some us → DpAll K H vs us ∧ PyData.canLayAll0 us = true
  | _, _, _, .nil, e => by cases e; exact ⟨.nil, rfl⟩
  | _, _, us, .cons (d := d) (ds := ds) h q, e => by
    unfold optAll at e
    cases e1 : f d with
    | none => rw [e1] at e; cases e
    | some x =>
      cases e2 : optAll f ds with
      | none => rw [e1, e2] at e; cases e
      | some xs =>
        rw [e1, e2] at e
        cases e
        obtain ⟨a1, a2⟩ := hf d _ x h e1
        obtain ⟨b1, b2⟩ := Reps.dpAll f hf q e2
        exact ⟨.cons a1 b1, by simp only [PyData.canLayAll0, a2, b2, Bool.and_self]⟩
theorem RelS.dp (s : RelS wr0 r K H S) : ∀ (n : Nat) (d : D) (v : V) (u : PyData), Rep r K H d v → D.py S n d = some u → Dp K H v u ∧ PyData.canLay0 u = true
  | 0, .p x, v, u, h, e => by
    cases e
    cases h with
    | p h => exact ⟨h.dp, h.lay⟩
  | 0, .ref k, v, u, h, e => by cases e
  | 0, .tup k, v, u, h, e => by cases e
  | n + 1, .p x, v, u, h, e => by
    cases e
    cases h with
    | p h => exact ⟨h.dp, h.lay⟩
  | n + 1, .tup ds, v, u, h, e => by
    cases h with
    | tup h q =>
      unfold D.py at e
      cases e1 : optAll (D.py S n) ds with
      | none => rw [e1] at e; cases e
      | some xs =>
        rw [e1] at e
        cases e
        obtain ⟨a1, a2⟩ := q.dpAll _ (RelS.dp s n) e1
        exact ⟨.tup (.inl (.inl h)) a1, a2⟩
  | n + 1, .ref k, v, u, h, e => by
    cases h with
    | ref ha =>
      obtain ⟨o, ho, hr⟩ := s.at ha
      unfold D.py at e
      rw [ho] at e
      cases o with
      | lst ys =>
        simp only at e
        obtain ⟨vs, e0, z⟩ := hr
        cases e1 : optAll (D.py S n) ys with
        | none => rw [e1] at e; cases e
        | some xs =>
          rw [e1] at e
          cases e
          obtain ⟨a1, a2⟩ := z.dpAll _ (RelS.dp s n) e1
          exact ⟨.lst (.inl (.inl e0)) a1, a2⟩
      | fzl ys =>
        simp only at e
        obtain ⟨ob, vs, e0, z⟩ := hr
        cases e1 : optAll (D.py S n) ys with
        | none => rw [e1] at e; cases e
        | some xs =>
          rw [e1] at e
          cases e
          obtain ⟨a1, a2⟩ := z.dpAll _ (RelS.dp s n) e1
          exact ⟨.lst (.inl (.inr ⟨ob, e0⟩)) a1, a2⟩
      | dct ys => cases e
      | fzd ys => cases e
end
/-- == -/
def eqB (S : Sto) : D → D → Option Bool
  | .p (.str x), .p (.str y) => some (decide (x = y))
  | .p (.int x), .p (.int y) => some (decide (x = y))
  | .p .non, .p .non => some true
  | a, b => match D.py S 70 a, D.py S 70 b with
    | some u, some v => if min u.depth v.depth ≤ 64 then some (PyData.eqv u v) else none
    | _, _ => none
def eqF : F2 := fun a b S => (eqB S a b).map fun k => (pbl k, S)
def neF : F2 := fun a b S => (eqB S a b).map fun k => (pbl (!k), S)
/-- == of data, the shallower of which is not too deep -/
def rEqM (K : PySem.W.Frag) (g : Bool → Bool) : R2 := fun x y H Q => ∃ d e, Dp K H x d ∧ Dp K H y e ∧ PyData.canLay0 d = true ∧ PyData.canLay0 e = true ∧ min d.depth e.depth ≤ 64 ∧ Q (.bl (g (PyData.eqv d e))) H
theorem op_eqM (hu : X.A.units + 64 < cLine) : OpR X (compareOp .Eq) (rEqM X.K id) := by
  rintro pins s σ H x y v u Q I rx ry ⟨d, e, hd, he, sd, se, small, q⟩
  exact (Dp.reads I d x v hd rx).elim fun _ rd => (Dp.reads I e y u he ry).elim fun _ re => SeqAt.compareEq_reads rd re sd se (by omega) ⟨.bl _, H, I, rfl, q⟩
theorem op_neM (hu : X.A.units + 64 < cLine) : OpR X (compareOp .NotEq) (rEqM X.K not) := by
  rintro pins s σ H x y v u Q I rx ry ⟨d, e, hd, he, sd, se, small, q⟩
  exact (Dp.reads I d x v hd rx).elim fun _ rd => (Dp.reads I e y u he ry).elim fun _ re => SeqAt.compareNe_reads rd re sd se (by omega) ⟨.bl _, H, I, rfl, q⟩
theorem eqB_ok {r : List Addr} {H : Hp} {S : Sto} {a b : D} {x y : V} {k : Bool} (s : RelS wr0 r G.K H S) (ha : Rep r G.K H a x) (hb : Rep r G.K H b y) (h : eqB S a b = some k) :
    ∃ d e, Dp G.K H x d ∧ Dp G.K H y e ∧ PyData.canLay0 d = true ∧ PyData.canLay0 e = true ∧ min d.depth e.depth ≤ 64 ∧ k = PyData.eqv d e := by
  unfold eqB at h
  split at h
  · cases h
    obtain ⟨e1, a1⟩ := ha.str_inv
    obtain ⟨e2, a2⟩ := hb.str_inv
    subst e1 e2
    refine ⟨_, _, .str _, .str _, by simp only [PyData.canLay0]; exact strOk_ascii a1, by simp only [PyData.canLay0]; exact strOk_ascii a2, by simp [PyData.depth], ?_⟩
    simp only [PyData.eqv]
    rw [Bool.eq_iff_iff]
    simp
  · cases h
    have e1 := ha.int_inv
    have e2 := hb.int_inv
    subst e1 e2
    refine ⟨_, _, .int _, .int _, rfl, rfl, by simp [PyData.depth], ?_⟩
    simp only [PyData.eqv]
    rw [Bool.eq_iff_iff]
    simp
  · cases h
    have e1 := ha.non_inv
    have e2 := hb.non_inv
    subst e1 e2
    exact ⟨_, _, .non, .non, rfl, rfl, by simp [PyData.depth], rfl⟩
  · split at h
    · rename_i u v e1 e2
      split at h
      · rename_i hm
        cases h
        obtain ⟨a1, a2⟩ := s.dp _ _ _ _ ha e1
        obtain ⟨b1, b2⟩ := s.dp _ _ _ _ hb e2
        exact ⟨u, v, a1, b1, a2, b2, hm, rfl⟩
      · cases h
    · cases h
theorem op_eqF (hG : X.K = G.K) (hu : X.A.units + 64 < cLine) : OpR X (compareOp .Eq) (r2 wr0 G eqF) := by
  refine OpR.wk (op_eqM hu) fun x y H Q h => ?_
  obtain ⟨r, S, dx, dy, d, S', s, hx, hy, hf, he⟩ := h
  unfold eqF at hf
  cases e : eqB S dx dy with
  | none => rw [e] at hf; cases hf
  | some k =>
    rw [e] at hf
    cases hf
    obtain ⟨d, e, h1, h2, h3, h4, h5, h6⟩ := eqB_ok s hx hy e
    rw [hG]
    exact ⟨d, e, h1, h2, h3, h4, h5, by rw [← show k = id (PyData.eqv d e) from h6]; exact he.here s (.bl _)⟩
theorem op_neF (hG : X.K = G.K) (hu : X.A.units + 64 < cLine) : OpR X (compareOp .NotEq) (r2 wr0 G neF) := by
  refine OpR.wk (op_neM hu) fun x y H Q h => ?_
  obtain ⟨r, S, dx, dy, d, S', s, hx, hy, hf, he⟩ := h
  unfold neF at hf
  cases e : eqB S dx dy with
  | none => rw [e] at hf; cases hf
  | some k =>
    rw [e] at hf
    cases hf
    obtain ⟨d, e, h1, h2, h3, h4, h5, h6⟩ := eqB_ok s hx hy e
    rw [hG]
    exact ⟨d, e, h1, h2, h3, h4, h5, by rw [← h6]; exact he.here s (.bl _)⟩
end
end Mi
set_option Elab.async false
set_option linter.all false
set_option maxRecDepth 100000
set_option maxHeartbeats 4000000
/-! Mi4: dicts; order, in, is; subscripts, slices; truth. -/
namespace Mi
open PySem PySem.Spec PyProof.Rows L2

/-! ### dicts -/
def dFind (kvs : List (D × D)) (k : D) : Option D := (kvs.find? fun p => decide (p.1 = k)).map (·.2)
def dPut (kvs : List (D × D)) (k v : D) : List (D × D) :=
  if (kvs.any fun p => decide (p.1 = k)) = true then kvs.map (fun p => if p.1 = k then (p.1, v) else p) else kvs ++ [(k, v)]
def dKind (kvs : List (D × D)) (k : D) : Bool := ((keyP k).isSome && kvs.all fun p => (keyP p.1).isSome) || ((keyT k).isSome && kvs.all fun p => (keyT p.1).isSome)
theorem keyP_inj {a b : D} {k : Key} (ha : keyP a = some k) (hb : keyP b = some k) : a = b := by
  unfold keyP at ha hb
  split at ha
  · split at hb
    · cases ha; cases hb; rfl
    · cases ha; cases hb
    · cases hb
  · split at hb
    · cases ha; cases hb
    · cases ha
      simp only [Option.some.injEq, Sum.inr.injEq, Str.mk.injEq] at hb
      have := congrArg Array.toList hb
      simp at this
      rw [this]
    · cases hb
  · cases ha
theorem keyPs_inj : ∀ {a b : List P} {k : List Key}, keyPs a = some k → keyPs b = some k → a = b
  | [], b, k, ha, hb => by
    simp only [keyPs, Option.some.injEq] at ha
    subst ha
    cases b with
    | nil => rfl
    | cons y s =>
      unfold keyPs at hb
      split at hb <;> cases hb
  | x :: r, b, k, ha, hb => by
    unfold keyPs at ha
    split at ha
    · rename_i k1 ks e1 e2
      cases ha
      cases b with
      | nil => simp [keyPs] at hb
      | cons y s =>
        unfold keyPs at hb
        split at hb
        · rename_i k2 ks2 e3 e4
          simp only [Option.some.injEq, List.cons.injEq] at hb
          obtain ⟨rfl, rfl⟩ := hb
          have h1 := keyP_inj e1 e3
          rw [keyPs_inj e2 e4]
          cases h1
          rfl
        · cases hb
    · cases ha
theorem keyT_inj {a b : D} {k : List Key} (ha : keyT a = some k) (hb : keyT b = some k) : a = b := by
  unfold keyT at ha hb
  split at ha
  · split at hb
    · rw [keyPs_inj ha hb]
    · cases hb
  · cases ha
theorem keyP_keyT {a : D} {k : Key} (h : keyP a = some k) : keyT a = none := by
  unfold keyP at h
  split at h
  · rfl
  · rfl
  · cases h
section
variable {K : PySem.W.Frag} {r : List Addr} {H H' : Hp}
theorem Rep.keyP {d : D} {v : V} {k : Key} (h : Rep r K H d v) (e : Mi.keyP d = some k) : v = kV k ∧ okKey d := by
  unfold Mi.keyP at e
  split at e
  · cases e; exact ⟨h.int_inv, trivial⟩
  · cases e; exact h.str_inv
  · cases e
theorem RepPs.keys : ∀ {xs : List P} {vs : List V} {ks : List Key}, RepPs K H xs vs → Mi.keyPs xs = some ks → vs = ks.map kV ∧ ∀ y, P.str y ∈ xs → ascii y
  | _, _, ks, .nil, e => by
    simp only [Mi.keyPs, Option.some.injEq] at e
    subst e
    exact ⟨rfl, fun y hy => by cases hy⟩
  | _, _, ks, .cons (x := x) (xs := xs) h q, e => by
    unfold Mi.keyPs at e
    split at e
    · rename_i k1 ks1 e1 e2
      cases e
      obtain ⟨h1, h2⟩ := Rep.keyP (r := []) (.p h) e1
      obtain ⟨h3, h4⟩ := RepPs.keys q e2
      refine ⟨by rw [h1, h3]; rfl, fun y hy => ?_⟩
      rcases List.mem_cons.mp hy with e | hy
      · subst e; exact h2
      · exact h4 y hy
    · cases e
theorem Rep.keyT {d : D} {v : V} {ks : List Key} (h : Rep r K H d v) (e : Mi.keyT d = some ks) : ∃ b, v = .ref b ∧ H b = some (.tup (ks.map kV)) ∧ okKey d := by
  unfold Mi.keyT at e
  split at e
  · cases h with
    | p h =>
      cases h with
      | tup h q =>
        obtain ⟨h1, h2⟩ := q.keys e
        subst h1
        exact ⟨_, rfl, h, h2⟩
  · cases e
/-- two looks into a dict -/
def ORel (r : List Addr) (K : PySem.W.Frag) (H : Hp) (a : Option D) (b : Option V) : Prop := match a, b with
  | some d, some v => Rep r K H d v
  | none, none => True
  | _, _ => False
theorem kv_find {κ : Type} [DecidableEq κ] (key : D → Option κ) (inj : ∀ {a b k}, key a = some k → key b = some k → a = b) {k : D} {k' : κ} (hk : key k = some k') : ∀ {kvs : List (D × D)} {ks : List (κ × V)},
    Paired (fun (a : D × D) (b : κ × V) => key a.1 = some b.1 ∧ okKey a.1 ∧ Rep r K H a.2 b.2) kvs ks → ORel r K H (dFind kvs k) (valV ks k')
  | _, _, .nil => trivial
  | (a, d) :: kvs, (b, v) :: ks, .cons h t => by
    unfold dFind
    by_cases e : a = k
    · subst e
      have h1 : key a = some b := h.1
      rw [hk] at h1
      cases h1
      rw [valV_pos (p := (k', v)) rfl]
      simp only [List.find?_cons, decide_true, Option.map_some]
      exact h.2.2
    · have hb : ¬ b = k' := fun e' => e (inj (show key a = some k' from e' ▸ h.1) hk)
      rw [valV_neg (p := (b, v)) hb]
      have := kv_find key inj hk t
      unfold dFind at this
      simp only [List.find?_cons, decide_eq_false e]
      exact this
theorem kv_any {κ : Type} [DecidableEq κ] (key : D → Option κ) (inj : ∀ {a b k}, key a = some k → key b = some k → a = b) {k : D} {k' : κ} (hk : key k = some k') : ∀ {kvs : List (D × D)} {ks : List (κ × V)},
    Paired (fun (a : D × D) (b : κ × V) => key a.1 = some b.1 ∧ okKey a.1 ∧ Rep r K H a.2 b.2) kvs ks → (kvs.any fun p => decide (p.1 = k)) = ks.any fun p => decide (p.1 = k')
  | _, _, .nil => rfl
  | (a, d) :: kvs, (b, v) :: ks, .cons h t => by
    rw [List.any_cons, List.any_cons, kv_any key inj hk t]
    congr 1
    rw [decide_eq_decide]
    constructor
    · rintro rfl
      have h1 : key a = some b := h.1
      rw [hk] at h1
      cases h1; rfl
    · rintro rfl
      exact inj h.1 hk
theorem kv_put {κ : Type} [DecidableEq κ] (key : D → Option κ) (inj : ∀ {a b k}, key a = some k → key b = some k → a = b) {k d : D} {k' : κ} {v : V} (hk : key k = some k') (ok : okKey k) (hd : Rep r K H d v) {kvs : List (D × D)} {ks : List (κ × V)}
    (h : Paired (fun (a : D × D) (b : κ × V) => key a.1 = some b.1 ∧ okKey a.1 ∧ Rep r K H a.2 b.2) kvs ks) :
    Paired (fun (a : D × D) (b : κ × V) => key a.1 = some b.1 ∧ okKey a.1 ∧ Rep r K H a.2 b.2) (dPut kvs k d) (putK ks k' v) := by
  unfold dPut putK
  rw [kv_any key inj hk h]
  split
  · rename_i hx
    clear hx
    induction h with
    | nil => exact .nil
    | @cons a b kvs ks h t ih =>
      obtain ⟨a1, a2⟩ := a
      obtain ⟨b1, b2⟩ := b
      rw [List.map_cons, List.map_cons]
      refine .cons ?_ ih
      have h1 : key a1 = some b1 := h.1
      by_cases e : a1 = k
      · have e' : b1 = k' := by
          rw [e, hk] at h1
          cases h1; rfl
        simp only [if_pos e, if_pos e']
        exact ⟨h1, h.2.1, hd⟩
      · have e' : ¬ b1 = k' := fun z => e (inj (z ▸ h1) hk)
        simp only [if_neg e, if_neg e']
        exact h
  · rename_i hx
    clear hx
    induction h with
    | nil => exact .cons ⟨hk, ok, hd⟩ .nil
    | cons h t ih => exact .cons h ih
/-- an empty dict is of either kind -/
def Retag (H : Hp) (a : Addr) (H' : Hp) : Prop := H' = H ∨ (H a = some (.dK []) ∧ H' = upd H a (.dT [])) ∨ (H a = some (.dT []) ∧ H' = upd H a (.dK []))
theorem _root_.L2.Inv.retag {X : Cx} {pins : List (Addr × Obj)} {σ : L2.St} {s : Shared} {a : Addr} (I : L2.Inv X pins σ H s) (h : Retag H a H') : L2.Inv X pins σ H' s := by
  rcases h with rfl | ⟨h, rfl⟩ | ⟨h, rfl⟩
  · exact I
  · obtain ⟨z, y, vs, rel, ob, es, ep, e, c1, c2, c3, c4, c5⟩ : (0 : Nat) ≤ sizeLine ∧ (a == sysModules) = false ∧ ∃ vs, KV [] vs ∧ s.heap.DictOf (mixKind X.prog X.w) a vs := I.hok a _ h
    cases rel
    have e4 : es.toList = [] := by
      generalize es.toList = l at c4
      cases c4
      rfl
    have := I.write (x := a) (e := a) (o := .dT []) (h' := s.heap) (t' := s.toks) (by rw [h]; trivial) (.inl rfl) (fun _ _ _ q => q) ⟨_, e⟩ ⟨z, y, [], .nil, ob, es, ep, e, c1, c2, e4, List.nodup_nil⟩
    exact this
  · obtain ⟨z, y, xs, rel, ob, es, ep, e, c1, c2, c3, c4⟩ := (show ObjOk X.prog X.w H s.heap a (.dT []) from I.hok a _ h)
    cases rel
    have e4 : es.toList = [] := c3
    have e5 : es = #[] := by
      cases es
      simp at e4
      subst e4
      rfl
    have := I.write (x := a) (e := a) (o := .dK []) (h' := s.heap) (t' := s.toks) (by rw [h]; trivial) (.inl rfl) (fun _ _ _ q => q) ⟨_, e⟩ ⟨z, y, [], .nil, ob, es, ep, e, c1, c2, ?_, ?_, List.nodup_nil⟩
    · exact this
    · subst e5
      intro x hx
      simp at hx
    · rw [e4]
      exact .nil
theorem Retag.kp {a : Addr} (h : Retag H a H') : Kp H H' := by
  rcases h with rfl | ⟨h, rfl⟩ | ⟨h, rfl⟩
  · exact Kp.refl
  · exact Kp.upd fun xs hu q => by rw [h] at q; cases q; exact hu
  · exact Kp.upd fun xs hu q => by rw [h] at q; cases q; exact hu
theorem RelS.retag {wr0 : List (Nat × Nat)} {S : Sto} {a : Addr} {n : Nat} (s : RelS wr0 r K H S) (ha : r[n]? = some a) (hn : S.get n = some (.dct [])) (h : Retag H a H') : RelS wr0 r K H' S := by
  have key : ∀ u, DRep r K (upd H a u) [] u → RelS wr0 r K (upd H a u) S := fun u hu => by
    have z := s.set (o' := .dct []) (u := u) hn ha ⟨u, upd_same, hu⟩
    have e : S.set n (.dct []) = S := by
      unfold Sto.set
      have e1 : S.objs.set n (.dct []) = S.objs := by
        apply List.ext_getElem?
        intro i
        by_cases hi : n = i
        · subst hi
          rw [List.getElem?_set_self (s.lt hn)]
          exact hn.symm
        · rw [List.getElem?_set_ne hi]
      rw [e1, if_pos (show (MO.dct []).top ≤ n from Nat.zero_le _)]
    rw [e] at z
    exact z
  rcases h with rfl | ⟨h, rfl⟩ | ⟨h, rfl⟩
  · exact s
  · exact key _ (.inr ⟨[], rfl, .nil⟩)
  · exact key _ (.inl ⟨[], rfl, .nil⟩)
theorem all_both {kvs : List (D × D)} (h1 : (kvs.all fun p => (Mi.keyP p.1).isSome) = true) (h2 : ∀ p ∈ kvs, (Mi.keyT p.1).isSome = true) : kvs = [] := by
  cases kvs with
  | nil => rfl
  | cons p t =>
    have a := List.all_eq_true.mp h1 p List.mem_cons_self
    have b := h2 p List.mem_cons_self
    obtain ⟨k, hk⟩ := Option.isSome_iff_exists.mp a
    rw [keyP_keyT hk] at b
    cases b
theorem KVt.keys {kvs : List (D × D)} {ks : List (List Key × V)} (h : KVt r K H kvs ks) : ∀ p ∈ kvs, (Mi.keyT p.1).isSome = true := fun p hp => by
  obtain ⟨b, _, h1, _⟩ := paired_mem h p hp
  rw [h1]; rfl
theorem KVs.keys {kvs : List (D × D)} {ks : List (Key × V)} (h : KVs r K H kvs ks) : ∀ p ∈ kvs, (Mi.keyP p.1).isSome = true := fun p hp => by
  obtain ⟨b, _, h1, _⟩ := paired_mem h p hp
  rw [h1]; rfl
/-- a look into a dict that is not frozen -/
theorem dict_get {wr0 : List (Nat × Nat)} {S : Sto} {n : Nat} {kvs : List (D × D)} {a : Addr} {k : D} {y : V} (s : RelS wr0 r K H S) (ha : r[n]? = some a) (hn : S.get n = some (.dct kvs)) (hk : dKind kvs k = true) (hy : Rep r K H k y) :
    ∃ H' o, Retag H a H' ∧ RelS wr0 r K H' S ∧ DGet H' a y o ∧ ORel r K H' (dFind kvs k) o := by
  obtain ⟨o, ho, hr⟩ := s.at ha
  rw [hn] at ho
  cases ho
  obtain ⟨u, hu, hd⟩ := hr
  rcases Bool.or_eq_true_iff.mp hk with h | h
  · obtain ⟨h1, h2⟩ := Bool.and_eq_true_iff.mp h
    obtain ⟨k', e⟩ := Option.isSome_iff_exists.mp h1
    obtain ⟨ey, _⟩ := hy.keyP e
    subst ey
    rcases hd with ⟨ks, rfl, hd⟩ | ⟨ks, rfl, hd⟩
    · exact ⟨H, _, .inl rfl, s, .inl ⟨ks, k', .inl hu, rfl, rfl⟩, kv_find Mi.keyP keyP_inj e hd⟩
    · have := all_both h2 (KVt.keys hd)
      subst this
      cases hd
      have rt : Retag H a (upd H a (.dK [])) := .inr (.inr ⟨hu, rfl⟩)
      exact ⟨_, _, rt, s.retag ha hn rt, .inl ⟨[], k', .inl upd_same, rfl, rfl⟩, trivial⟩
  · obtain ⟨h1, h2⟩ := Bool.and_eq_true_iff.mp h
    obtain ⟨k', e⟩ := Option.isSome_iff_exists.mp h1
    obtain ⟨b, ey, eb, _⟩ := hy.keyT e
    subst ey
    rcases hd with ⟨ks, rfl, hd⟩ | ⟨ks, rfl, hd⟩
    · have : kvs = [] := by
        refine all_both (List.all_eq_true.mpr (KVs.keys hd)) fun p hp => List.all_eq_true.mp h2 p hp
      subst this
      cases hd
      have rt : Retag H a (upd H a (.dT [])) := .inr (.inl ⟨hu, rfl⟩)
      exact ⟨_, _, rt, s.retag ha hn rt, .inr ⟨[], k', b, .inl upd_same, rfl, rt.kp.tup eb, rfl⟩, trivial⟩
    · exact ⟨H, _, .inl rfl, s, .inr ⟨ks, k', b, .inl hu, rfl, eb, rfl⟩, kv_find Mi.keyT keyT_inj e hd⟩
/-- .. that may be frozen and is not empty -/
theorem dict_getR {wr0 : List (Nat × Nat)} {S : Sto} {kvs : List (D × D)} {d k : D} {x y : V} (s : RelS wr0 r K H S) (hx : Rep r K H d x) (hn : S.dict d = some kvs) (hk : dKind kvs k = true) (h0 : kvs ≠ []) (hy : Rep r K H k y) :
    ∃ a o, x = .ref a ∧ DGet H a y o ∧ ORel r K H (dFind kvs k) o := by
  obtain ⟨a, u, rfl, hu, hd⟩ := s.dict hx hn
  rcases Bool.or_eq_true_iff.mp hk with h | h
  · obtain ⟨h1, h2⟩ := Bool.and_eq_true_iff.mp h
    obtain ⟨k', e⟩ := Option.isSome_iff_exists.mp h1
    obtain ⟨ey, _⟩ := hy.keyP e
    subst ey
    rcases hd with ⟨ks, rfl, hd⟩ | ⟨ks, rfl, hd⟩
    · exact ⟨a, _, rfl, .inl ⟨ks, k', hu, rfl, rfl⟩, kv_find Mi.keyP keyP_inj e hd⟩
    · exact absurd (all_both h2 (KVt.keys hd)) h0
  · obtain ⟨h1, h2⟩ := Bool.and_eq_true_iff.mp h
    obtain ⟨k', e⟩ := Option.isSome_iff_exists.mp h1
    obtain ⟨b, ey, eb, _⟩ := hy.keyT e
    subst ey
    rcases hd with ⟨ks, rfl, hd⟩ | ⟨ks, rfl, hd⟩
    · exact absurd (all_both (List.all_eq_true.mpr (KVs.keys hd)) fun p hp => List.all_eq_true.mp h2 p hp) h0
    · exact ⟨a, _, rfl, .inr ⟨ks, k', b, hu, rfl, eb, rfl⟩, kv_find Mi.keyT keyT_inj e hd⟩
/-- a store into a dict -/
theorem dict_put {wr0 : List (Nat × Nat)} {S : Sto} {n : Nat} {kvs : List (D × D)} {a : Addr} {k d : D} {y v : V} (s : RelS wr0 r K H S) (ha : r[n]? = some a) (hn : S.get n = some (.dct kvs)) (hk : dKind kvs k = true) (hy : Rep r K H k y) (hd : Rep r K H d v) (hz : kvs.length < sizeLine) :
    ∃ H1 H2, Retag H a H1 ∧ DPut H1 a y v H2 ∧ Kp H H2 ∧ RelS wr0 r K H2 (S.set n (.dct (dPut kvs k d))) := by
  obtain ⟨H1, o, rt, s1, g, _⟩ := dict_get s ha hn hk hy
  obtain ⟨ob, ho, hr⟩ := s1.at ha
  rw [hn] at ho
  cases ho
  obtain ⟨u, hu, hdr⟩ := hr
  have hy1 := hy.mono rt.kp (List.prefix_refl _)
  have hd1 := hd.mono rt.kp (List.prefix_refl _)
  rcases g with ⟨ks, k', hg, ey, _⟩ | ⟨ks, k', b, hg, ey, eb, _⟩
  · have hg' : H1 a = some (.dK ks) := by
      rcases hg with q | ⟨ob, q⟩
      · exact q
      · rw [hu] at q
        cases q
        exact absurd rfl (hdr.notFrz _ _)
    rw [hg'] at hu
    cases hu
    rcases hdr with ⟨ks2, e2, hdr⟩ | ⟨ks2, e2, hdr⟩
    · cases e2
      have hkp : Mi.keyP k = some k' := by
        rcases Bool.or_eq_true_iff.mp hk with h | h
        · obtain ⟨k2, e⟩ := Option.isSome_iff_exists.mp (Bool.and_eq_true_iff.mp h).1
          obtain ⟨ey2, _⟩ := hy1.keyP e
          rw [ey] at ey2
          rw [e, kV_inj ey2]
        · obtain ⟨k2, e⟩ := Option.isSome_iff_exists.mp (Bool.and_eq_true_iff.mp h).1
          obtain ⟨b, ey2, _⟩ := hy1.keyT e
          rw [ey] at ey2
          cases k' <;> cases ey2
      have k2 : Kp H1 (upd H1 a (.dK (putK ks k' v))) := Kp.upd fun xs hu q => by rw [hg'] at q; cases q; exact hu
      have hl : kvs.length = ks.length := Paired.length hdr
      subst ey
      refine ⟨H1, _, rt, DPut.k hg' (by omega), rt.kp.trans k2, s1.set hn ha ⟨_, upd_same, .inl ⟨_, rfl, ?_⟩⟩⟩
      refine kv_put Mi.keyP keyP_inj hkp (hy1.keyP hkp).2 (hd1.mono k2 (List.prefix_refl _)) (paired_mono hdr fun _ _ q => ⟨q.1, q.2.1, q.2.2.mono k2 (List.prefix_refl _)⟩)
    · cases e2
  · have hg' : H1 a = some (.dT ks) := by
      rcases hg with q | ⟨ob, q⟩
      · exact q
      · rw [hu] at q
        cases q
        exact absurd rfl (hdr.notFrz _ _)
    rw [hg'] at hu
    cases hu
    rcases hdr with ⟨ks2, e2, hdr⟩ | ⟨ks2, e2, hdr⟩
    · cases e2
    · cases e2
      subst ey
      have hkt : Mi.keyT k = some k' := by
        rcases Bool.or_eq_true_iff.mp hk with h | h
        · obtain ⟨k2, e⟩ := Option.isSome_iff_exists.mp (Bool.and_eq_true_iff.mp h).1
          obtain ⟨ey2, _⟩ := hy1.keyP e
          cases k2 <;> cases ey2
        · obtain ⟨k2, e⟩ := Option.isSome_iff_exists.mp (Bool.and_eq_true_iff.mp h).1
          obtain ⟨b2, ey2, eb2, _⟩ := hy1.keyT e
          cases ey2
          rw [eb] at eb2
          simp only [Option.some.injEq, HO.tup.injEq] at eb2
          rw [e, kVs_inj eb2]
      have k2 : Kp H1 (upd H1 a (.dT (putK ks k' v))) := Kp.upd fun xs hu q => by rw [hg'] at q; cases q; exact hu
      have hl : kvs.length = ks.length := Paired.length hdr
      refine ⟨H1, _, rt, DPut.t hg' eb (by omega), rt.kp.trans k2, s1.set hn ha ⟨_, upd_same, .inr ⟨_, rfl, ?_⟩⟩⟩
      obtain ⟨_, _, _, okk⟩ := hy1.keyT hkt
      refine kv_put Mi.keyT keyT_inj hkt okk (hd1.mono k2 (List.prefix_refl _)) (paired_mono hdr fun _ _ q => ⟨q.1, q.2.1, q.2.2.mono k2 (List.prefix_refl _)⟩)
end
end Mi
set_option Elab.async false
set_option linter.all false
set_option maxRecDepth 100000
set_option maxHeartbeats 4000000
/-! Mi5: order, in, is; subscripts, slices; truth. -/
namespace Mi
open PySem PySem.Spec PyProof.Rows L2

section
variable {X : Cx} {wr0 : List (Nat × Nat)} {G : Pd}
/-- an order of ints and texts -/
def ordF (f : Int → Int → Bool) (g : List Nat → List Nat → Bool) : F2
  | .p (.int i), .p (.int j), S => some (pbl (f i j), S)
  | .p (.str x), .p (.str y), S => some (pbl (g x y), S)
  | _, _, _ => none
theorem ordF_ok {op : CmpOp} {f : Int → Int → Bool} {g : List Nat → List Nat → Bool} (h1 : OpR X (compareOp op) (rI0 fun i j => .bl (f i j))) (h2 : OpR X (compareOp op) (fun x y H Q => ∃ i j : Str, x = .str i ∧ y = .str j ∧ Q (.bl (g i.cps.toList j.cps.toList)) H)) :
    OpR X (compareOp op) (r2 wr0 G (ordF f g)) := by
  refine OpR.wk (OpR.or h1 h2) fun x y H Q h => ?_
  obtain ⟨r, S, dx, dy, d, S', s, hx, hy, hf, he⟩ := h
  unfold ordF at hf
  split at hf
  · cases hf
    exact .inl ⟨_, _, hx.int_inv, hy.int_inv, he.here s (.bl _)⟩
  · cases hf
    exact .inr ⟨_, _, hx.str_inv.1, hy.str_inv.1, he.here s (.bl _)⟩
  · cases hf
def ltF : F2 := ordF (fun i j => decide (i < j)) (fun x y => decide (x < y))
def leF : F2 := ordF (fun i j => decide (i ≤ j)) (fun x y => !decide (y < x))
def gtF : F2 := ordF (fun i j => decide (j < i)) (fun x y => decide (y < x))
def geF : F2 := ordF (fun i j => decide (j ≤ i)) (fun x y => !decide (x < y))
theorem op_ltF : OpR X (compareOp .Lt) (r2 wr0 G ltF) := ordF_ok op_lt op_lt_str
theorem op_leF : OpR X (compareOp .LtE) (r2 wr0 G leF) := ordF_ok op_le op_le_str
theorem op_gtF : OpR X (compareOp .Gt) (r2 wr0 G gtF) := ordF_ok op_gt op_gt_str
theorem op_geF : OpR X (compareOp .GtE) (r2 wr0 G geF) := ordF_ok op_ge op_ge_str
/-- is -/
def isB : D → D → Option Bool
  | a, .p .non => some (decide (a = .p .non))
  | .p (.bl a), .p (.bl b) => some (decide (a = b))
  | _, _ => none
def isF : F2 := fun a b S => (isB a b).map fun k => (pbl k, S)
def isNotF : F2 := fun a b S => (isB a b).map fun k => (pbl (!k), S)
theorem Rep.isNon {K : PySem.W.Frag} {r : List Addr} {H : Hp} {d : D} {v : V} (h : Rep r K H d v) : decide (v = .non) = decide (d = .p .non) := by
  cases h with
  | p h => cases h <;> simp
  | ref h => simp
  | tup h q => simp
theorem op_isF : OpR X (compareOp .Is) (r2 wr0 G isF) := by
  refine OpR.wk (OpR.or op_isN op_isBl) fun x y H Q h => ?_
  obtain ⟨r, S, dx, dy, d, S', s, hx, hy, hf, he⟩ := h
  unfold isF at hf
  unfold isB at hf
  split at hf
  · cases hf
    refine .inl ⟨hy.non_inv, ?_⟩
    rw [hx.isNon]
    exact he.here s (.bl _)
  · cases hf
    exact .inr ⟨_, _, hx.bl_inv, hy.bl_inv, he.here s (.bl _)⟩
  · cases hf
theorem op_isNotF : OpR X (compareOp .IsNot) (r2 wr0 G isNotF) := by
  refine OpR.wk (OpR.or op_notN op_notBl) fun x y H Q h => ?_
  obtain ⟨r, S, dx, dy, d, S', s, hx, hy, hf, he⟩ := h
  unfold isNotF at hf
  unfold isB at hf
  split at hf
  · cases hf
    refine .inl ⟨hy.non_inv, ?_⟩
    rw [hx.isNon]
    exact he.here s (.bl _)
  · cases hf
    exact .inr ⟨_, _, hx.bl_inv, hy.bl_inv, he.here s (.bl _)⟩
  · cases hf

/-! ### in -/
def flatD : D → Bool
  | .p .non | .p (.bl _) | .p (.int _) | .p (.str _) => true
  | _ => false
def eqvD : D → D → Bool
  | .p a, .p b => PyData.eqv a.py b.py
  | _, _ => false
def inB (S : Sto) (a : D) : D → Option Bool
  | .p (.str y) => match a with
    | .p (.str [c]) => some (decide (c ∈ y))
    | _ => none
  | .ref n => match S.get n with
    | some (.dct kvs) => if dKind kvs a then some (dFind kvs a).isSome else none
    | some (.fzd kvs) => if dKind kvs a && !kvs.isEmpty then some (dFind kvs a).isSome else none
    | some (.lst xs) => match D.py S 60 a, optAll (D.py S 60) xs with
      | some u, some us => if u.depth ≤ 64 ∧ PyData.depthAll us < 64 then some (us.any fun z => PyData.eqv z u) else none
      | _, _ => none
    | some (.fzl xs) => match D.py S 60 a, optAll (D.py S 60) xs with
      | some u, some us => if u.depth ≤ 64 ∧ PyData.depthAll us < 64 then some (us.any fun z => PyData.eqv z u) else none
      | _, _ => none
    | none => none
  | b => match b.items with
    | some xs => if flatD a && xs.all flatD then some (xs.any fun z => eqvD z a) else none
    | none => none
def inF : F2 := fun a b S => (inB S a b).map fun k => (pbl k, S)
def notInF : F2 := fun a b S => (inB S a b).map fun k => (pbl (!k), S)
/-- in a dict, an empty one of either kind -/
def rDIn (g : Bool → Bool) : R2 := fun x y H Q => ∃ a H' o, y = .ref a ∧ Retag H a H' ∧ DGet H' a x o ∧ Q (.bl (g o.isSome)) H'
theorem op_dIn (hu : X.A.units + 1 < cLine) : OpR X (compareOp .In) (rDIn id) := by
  intro pins s σ H x y v u Q I rx ry h
  obtain ⟨a, H', o, rfl, rt, g, q⟩ := h
  cases ry
  exact d_in hu (I.retag rt) g rx fun s3 I3 => ⟨.bl _, H', I3, rfl, q⟩
theorem op_dNotIn (hu : X.A.units + 1 < cLine) : OpR X (compareOp .NotIn) (rDIn not) := by
  intro pins s σ H x y v u Q I rx ry h
  obtain ⟨a, H', o, rfl, rt, g, q⟩ := h
  cases ry
  exact d_notIn hu (I.retag rt) g rx fun s3 I3 => ⟨.bl _, H', I3, rfl, q⟩
theorem ORel.isSome {K : PySem.W.Frag} {r : List Addr} {H : Hp} {a : Option D} {b : Option V} (h : ORel r K H a b) : a.isSome = b.isSome := by
  cases a <;> cases b <;> first | rfl | exact h.elim
/-- what in asks, by the heap -/
def rInM (K : PySem.W.Frag) (g : Bool → Bool) : R2 := fun x y H Q =>
  (∃ (c : Nat) (z : Str), x = .str ⟨#[c]⟩ ∧ y = .str z ∧ Q (.bl (g (decide (c ∈ z.cps.toList)))) H) ∨ rDIn g x y H Q ∨
  (∃ d ds, Dp K H x d ∧ Dp K H y (.list ds) ∧ SeqAt.shaped d = true ∧ SeqAt.shaped (.list ds) = true ∧ Q (.bl (g (ds.any fun z => PyData.eqv z d))) H) ∨
  ∃ p xs, y = .ref p ∧ SqT K H p xs ∧ flatV x = true ∧ xs.all flatV = true ∧ Q (.bl (g (inV x xs))) H
theorem flatD_V {K : PySem.W.Frag} {r : List Addr} {H : Hp} {d : D} {v : V} (h : Rep r K H d v) (f : flatD d = true) : flatV v = true := by
  unfold flatD at f
  split at f
  · rw [h.non_inv]; rfl
  · rw [h.bl_inv]; rfl
  · rw [h.int_inv]; rfl
  · rw [h.str_inv.1]; rfl
  · cases f
theorem eqvD_V {K : PySem.W.Frag} {r : List Addr} {H : Hp} {d e : D} {v w : V} (h : Rep r K H d v) (h' : Rep r K H e w) (f : flatD d = true) (f' : flatD e = true) : eqV v w = eqvD d e := by
  unfold flatD at f f'
  split at f
  · rw [h.non_inv]; split at f' <;> first | (rw [h'.non_inv]; rfl) | (rw [h'.bl_inv]; rfl) | (rw [h'.int_inv]; rfl) | (rw [h'.str_inv.1]; rfl) | cases f'
  · rw [h.bl_inv]; split at f' <;> first | (rw [h'.non_inv]; rfl) | (rw [h'.bl_inv]; rfl) | (rw [h'.int_inv]; rfl) | (rw [h'.str_inv.1]; rfl) | cases f'
  · rw [h.int_inv]; split at f' <;> first | (rw [h'.non_inv]; rfl) | (rw [h'.bl_inv]; rfl) | (rw [h'.int_inv]; rfl) | (rw [h'.str_inv.1]; rfl) | cases f'
  · rw [h.str_inv.1]; split at f' <;> first | (rw [h'.non_inv]; rfl) | (rw [h'.bl_inv]; rfl) | (rw [h'.int_inv]; rfl) | (rw [h'.str_inv.1]; rfl) | cases f'
  · cases f
theorem inV_D {K : PySem.W.Frag} {r : List Addr} {H : Hp} {a : D} {x : V} (ha : Rep r K H a x) (fa : flatD a = true) : ∀ {xs : List D} {vs : List V}, Reps r K H xs vs → xs.all flatD = true → vs.all flatV = true ∧ inV x vs = xs.any fun z => eqvD z a
  | _, _, .nil, _ => ⟨rfl, rfl⟩
  | _, _, .cons h q, f => by
    rw [List.all_cons, Bool.and_eq_true] at f
    obtain ⟨h1, h2⟩ := inV_D ha fa q f.2
    refine ⟨by rw [List.all_cons, flatD_V h f.1, h1]; rfl, ?_⟩
    unfold inV at h2 ⊢
    rw [List.any_cons, List.any_cons, h2, eqvD_V h ha f.1 fa]
theorem shaped_of {d : PyData} (h1 : d.canLay0 = true) (h2 : d.depth ≤ 64) : SeqAt.shaped d = true := by
  unfold SeqAt.shaped
  rw [h1, decide_eq_true h2]
  rfl
theorem rInM_of {x y : V} {H : Hp} {Q : VK} {g : Bool → Bool} {f : F2} (hfd : f = fun a b S => (inB S a b).map fun k => (pbl (g k), S)) (h : r2 wr0 G f x y H Q) : rInM G.K g x y H Q := by
  subst hfd
  obtain ⟨r, S, dx, dy, d, S', s, hx, hy, hf, he⟩ := h
  dsimp only at hf
  cases e : inB S dx dy with
  | none => rw [e] at hf; cases hf
  | some k =>
    rw [e] at hf
    cases hf
    have hlist : ∀ n xs, dy = .ref n → (S.get n = some (.lst xs) ∨ S.get n = some (.fzl xs)) → (match D.py S 60 dx, optAll (D.py S 60) xs with
      | some u, some us => if u.depth ≤ 64 ∧ PyData.depthAll us < 64 then some (us.any fun z => PyData.eqv z u) else none
      | _, _ => none) = some k → rInM G.K g x y H Q := fun n xs en hn e => by
      split at e
      · rename_i u us e1 e2
        split at e
        · rename_i hd
          cases e
          subst en
          obtain ⟨a1, a2⟩ := s.dp _ _ _ _ hx e1
          have hl : S.list (.ref n) = some xs := by
            rcases hn with hn | hn <;> simp only [Sto.list, hn]
          obtain ⟨a, vs, rfl, ha, q1⟩ := s.list hy hl
          obtain ⟨b1, b2⟩ := q1.dpAll _ (s.dp 60) e2
          refine .inr (.inr (.inl ⟨u, us, a1, .lst (.inl ha) b1, shaped_of a2 hd.1, shaped_of b2 ?_, he.here s (.bl _)⟩))
          simp only [PyData.depth]
          omega
        · cases e
      · cases e
    unfold inB at e
    split at e
    · split at e
      · cases e
        obtain ⟨e1, _⟩ := hx.str_inv
        obtain ⟨e2, _⟩ := hy.str_inv
        exact .inl ⟨_, _, e1, e2, he.here s (.bl _)⟩
      · cases e
    · rename_i n
      split at e
      · rename_i kvs hn
        split at e
        · rename_i hk
          cases e
          cases hy with
          | ref ha =>
            obtain ⟨H', o, rt, s1, gd, or⟩ := dict_get s ha hn hk hx
            refine .inr (.inl ⟨_, H', o, rfl, rt, gd, ?_⟩)
            rw [← or.isSome]
            exact he r H' _ (List.prefix_refl _) s1 rt.kp (.bl _)
        · cases e
      · rename_i kvs hn
        split at e
        · rename_i hk
          cases e
          rw [Bool.and_eq_true] at hk
          have hd : S.dict (.ref n) = some kvs := by
            simp only [Sto.dict, hn]
          obtain ⟨a, o, rfl, gd, or⟩ := dict_getR s hy hd hk.1 (fun z => by rw [z] at hk; cases hk.2) hx
          refine .inr (.inl ⟨_, H, o, rfl, .inl rfl, gd, ?_⟩)
          rw [← or.isSome]
          exact he.here s (.bl _)
        · cases e
      · rename_i xs hn
        exact hlist n xs rfl (.inl hn) e
      · rename_i xs hn
        exact hlist n xs rfl (.inr hn) e
      · cases e
    · split at e
      · rename_i xs e1
        split at e
        · rename_i hk
          cases e
          rw [Bool.and_eq_true] at hk
          obtain ⟨a, vs, rfl, ha, q1⟩ := hy.items e1
          obtain ⟨h1, h2⟩ := inV_D hx hk.1 q1 hk.2
          refine .inr (.inr (.inr ⟨a, vs, rfl, SqT.of ha, flatD_V hx hk.1, h1, ?_⟩))
          rw [h2]
          exact he.here s (.bl _)
        · cases e
      · cases e
theorem op_inF (hG : X.K = G.K) (hu : X.A.units + 65 < cLine) : OpR X (compareOp .In) (r2 wr0 G inF) := by
  refine OpR.wk (OpR.or op_in_sign (OpR.or (op_dIn (by omega)) (OpR.or (op_inD hu) op_in_seq))) fun x y H Q h => ?_
  have z := rInM_of (g := id) rfl h
  rw [← hG] at z
  rcases z with z | z | z | ⟨p, xs, h1, h2, h3, h4, h5⟩
  · exact .inl z
  · exact .inr (.inl z)
  · exact .inr (.inr (.inl z))
  · exact .inr (.inr (.inr ⟨p, xs, h1, .inr h2, h3, h4, h5⟩))
theorem op_notInF (hG : X.K = G.K) (hu : X.A.units + 65 < cLine) : OpR X (compareOp .NotIn) (r2 wr0 G notInF) := by
  refine OpR.wk (OpR.or op_notIn_sign (OpR.or (op_dNotIn (by omega)) (OpR.or (op_notInD hu) op_notIn_seq))) fun x y H Q h => ?_
  have z := rInM_of (g := not) rfl h
  rw [← hG] at z
  rcases z with z | z | z | ⟨p, xs, h1, h2, h3, h4, h5⟩
  · exact .inl z
  · exact .inr (.inl z)
  · exact .inr (.inr (.inl z))
  · exact .inr (.inr (.inr ⟨p, xs, h1, .inr h2, h3, h4, h5⟩))

/-! ### subscripts -/
/-- a tuple's items, to be read -/
def D.ritems : D → Option (List D)
  | .p (.tup xs) => some (xs.map D.p)
  | .p (.ktup xs) => some (xs.map D.p)
  | .tup ds => some ds
  | _ => none
theorem Rep.ritems {K : PySem.W.Frag} {r : List Addr} {H : Hp} {d : D} {v : V} {ds : List D} (h : Rep r K H d v) (e : d.ritems = some ds) : ∃ a vs, v = .ref a ∧ SqT K H a vs ∧ Reps r K H ds vs := by
  cases h with
  | p h =>
    cases h with
    | tup h q => simp only [D.ritems, Option.some.injEq] at e; subst e; exact ⟨_, _, rfl, SqT.of h, q.toD⟩
    | ktup h q => simp only [D.ritems, Option.some.injEq] at e; subst e; exact ⟨_, _, rfl, h _, q.toD⟩
    | _ => simp [D.ritems] at e
  | tup h q => simp only [D.ritems, Option.some.injEq] at e; subst e; exact ⟨_, _, rfl, SqT.of h, q⟩
  | ref h => simp [D.ritems] at e
/-- a[i] -/
def idxF : F2
  | .p (.str x), .p (.int i), S => if x.length ≤ sizeLine then (atI x i).map fun c => (pstr [c], S) else none
  | .ref n, i, S => match S.get n with
    | some (.lst xs) => match i with
      | .p (.int i) => (atI xs i).map fun d => (d, S)
      | _ => none
    | some (.fzl xs) => match i with
      | .p (.int i) => (atI xs i).map fun d => (d, S)
      | _ => none
    | some (.dct kvs) => if dKind kvs i && !kvs.isEmpty then (dFind kvs i).map fun d => (d, S) else none
    | some (.fzd kvs) => if dKind kvs i && !kvs.isEmpty then (dFind kvs i).map fun d => (d, S) else none
    | none => none
  | a, .p (.int i), S => match a.ritems with
    | some xs => (atI xs i).map fun d => (d, S)
    | none => none
  | _, _, _ => none
def rIxD : R2 := fun x y H Q => ∃ a v, x = .ref a ∧ DGet H a y (some v) ∧ Q v H
theorem ix_dict (hu : X.A.units + 1 < cLine) : IxR X rIxD := by
  intro value slice pins s σ H x y v u Q I rx ry h hs
  obtain ⟨a, w, rfl, g, q⟩ := h
  cases rx
  refine tail_any (dict_typeIs I g) PySem.F.slot_dict_getitem.lookup (d_getItem hu I g ry fun w' s3 I3 rw' => ⟨w, H, I3, rw', q⟩) hs
theorem IxR.wk {t t' : R2} (h : IxR X t) (w : ∀ x y H Q, t' x y H Q → t x y H Q) : IxR X t' := fun v1 v2 pins s σ H x y v u Q I rx ry q hs => h v1 v2 pins s σ H x y v u Q I rx ry (w x y H Q q) hs
theorem atI_rep {K : PySem.W.Frag} {r : List Addr} {H : Hp} {xs : List D} {vs : List V} {i : Int} {d : D} (q : Reps r K H xs vs) (e : atI xs i = some d) : ∃ v, atI vs i = some v ∧ Rep r K H d v := by
  unfold atI at e ⊢
  rw [← q.length]
  cases e1 : ixN xs.length i with
  | none => rw [e1] at e; cases e
  | some j =>
    rw [e1] at e
    exact q.get e
theorem ix_F (hG : X.K = G.K) (hu : X.A.units + 1 < cLine) : IxR X (r2 wr0 G idxF) := by
  refine IxR.wk (IxR.or ix_seq (ix_dict hu)) fun x y H Q h => ?_
  obtain ⟨r, S, dx, dy, d, S', s, hx, hy, hf, he⟩ := h
  unfold idxF at hf
  have hl : ∀ n xs i, dx = .ref n → dy = .p (.int i) → S.list (.ref n) = some xs → (atI xs i).map (fun d => (d, S)) = some (d, S') → rIx X.K x y H Q ∨ rIxD x y H Q := fun n xs i e1 e2 e3 e4 => by
    subst e1 e2
    obtain ⟨a, vs, rfl, ha, q1⟩ := s.list hx e3
    cases e5 : atI xs i with
    | none => rw [e5] at e4; cases e4
    | some d0 =>
      rw [e5] at e4
      cases e4
      obtain ⟨v, ev, rv⟩ := atI_rep q1 e5
      exact .inl (.inl ⟨a, vs, i, v, rfl, hy.int_inv, .inl ha, ev, he.here s rv⟩)
  have hd : ∀ n kvs, dx = .ref n → S.dict (.ref n) = some kvs → (if (dKind kvs dy && !kvs.isEmpty) = true then (dFind kvs dy).map fun d => (d, S) else none) = some (d, S') → rIx X.K x y H Q ∨ rIxD x y H Q := fun n kvs e1 e3 e4 => by
    subst e1
    split at e4
    · rename_i hk
      rw [Bool.and_eq_true] at hk
      obtain ⟨a, o, rfl, gd, or⟩ := dict_getR s hx e3 hk.1 (fun z => by rw [z] at hk; cases hk.2) hy
      cases e5 : dFind kvs dy with
      | none => rw [e5] at e4; cases e4
      | some d0 =>
        rw [e5] at e4 or
        cases e4
        cases o with
        | none => exact or.elim
        | some v => exact .inr ⟨a, v, rfl, gd, he.here s or⟩
    · cases e4
  split at hf
  · rename_i x0 i0
    split at hf
    · rename_i hz
      cases e5 : atI x0 i0 with
      | none => rw [e5] at hf; cases hf
      | some c =>
        rw [e5] at hf
        cases hf
        obtain ⟨e1, a1⟩ := hx.str_inv
        refine .inl (.inr (.inr ⟨_, i0, c, e1, hy.int_inv, by simpa [Str.length] using hz, e5, he.here s (.str fun c' hc => ?_)⟩))
        simp at hc
        subst hc
        obtain ⟨j, h1, h2, _⟩ := atI_get e5
        exact a1 _ (List.mem_of_getElem? h2)
    · cases hf
  · split at hf
    · rename_i xs hn
      split at hf
      · exact hl _ xs _ rfl rfl (by simp only [Sto.list, hn]) hf
      · cases hf
    · rename_i xs hn
      split at hf
      · exact hl _ xs _ rfl rfl (by simp only [Sto.list, hn]) hf
      · cases hf
    · rename_i kvs hn
      exact hd _ kvs rfl (by simp only [Sto.dict, hn]) hf
    · rename_i kvs hn
      exact hd _ kvs rfl (by simp only [Sto.dict, hn]) hf
    · cases hf
  · rename_i i0 _ _
    split at hf
    · rename_i xs e1
      obtain ⟨a, vs, rfl, ha, q1⟩ := hx.ritems e1
      cases e5 : atI xs i0 with
      | none => rw [e5] at hf; cases hf
      | some d0 =>
        rw [e5] at hf
        cases hf
        obtain ⟨v, ev, rv⟩ := atI_rep q1 e5
        exact .inl (.inr (.inl ⟨a, vs, i0, v, rfl, hy.int_inv, by rw [hG]; exact ha, ev, he.here s rv⟩))
    · cases hf
  · cases hf

/-! ### slices -/
def cutL {α : Type} (xs : List α) (lo hi : Option Int) : List α := (xs.drop (HT.sIx xs.length 0 lo)).take (HT.sIx xs.length xs.length hi - HT.sIx xs.length 0 lo)
theorem cutL_whole {α : Type} {xs : List α} {lo hi : Option Int} (h : HT.sIx xs.length 0 lo = 0 ∧ HT.sIx xs.length xs.length hi = xs.length) : cutL xs lo hi = xs := by
  unfold cutL
  rw [h.1, h.2]
  simp
theorem cutL_rep {K : PySem.W.Frag} {r : List Addr} {H : Hp} {xs : List D} {vs : List V} (q : Reps r K H xs vs) (lo hi : Option Int) : Reps r K H (cutL xs lo hi) (cutV vs lo hi) := by
  unfold cutL cutV
  rw [q.length]
  exact (q.drop _).take _
def slcF (a : D) (lo hi : Option Int) (S : Sto) : Option (D × Sto) := match a with
  | .p (.str x) => if x.length ≤ sizeLine then some (pstr (cutL x lo hi), S) else none
  | a => match a.items with
    | some xs => some (mkTup (cutL xs lo hi), S)
    | none => match S.list a with
      | some xs => some (.ref S.len, S.push (.lst (cutL xs lo hi)))
      | none => none
def r3 (wr0 : List (Nat × Nat)) (G : Pd) (f : D → Option Int → Option Int → Sto → Option (D × Sto)) : V → Option Int → Option Int → Hp → VK → Prop := fun x lo hi H Q =>
  ∃ r S dx d S', RelS wr0 r G.K H S ∧ Rep r G.K H dx x ∧ f dx lo hi S = some (d, S') ∧ End wr0 G r H d S' Q
theorem SlR.wk {t t' : V → Option Int → Option Int → Hp → VK → Prop} (h : SlR X t) (w : ∀ x lo hi H Q, t' x lo hi H Q → t x lo hi H Q) : SlR X t' := fun pins s σ H x v vl vu lo hi sl Q I rx hs pl pu q => h pins s σ H x v vl vu lo hi sl Q I rx hs pl pu (w x lo hi H Q q)
theorem sl_F : SlR X (r3 wr0 G slcF) := by
  refine SlR.wk (SlR.or sl_str (SlR.or sl_tupA sl_list)) fun x lo hi H Q h => ?_
  obtain ⟨r, S, dx, d, S', s, hx, hf, he⟩ := h
  unfold slcF at hf
  split at hf
  · rename_i x0
    split at hf
    · rename_i hz
      cases hf
      obtain ⟨e1, a1⟩ := hx.str_inv
      refine .inl ⟨_, e1, by simpa [Str.length] using hz, ?_⟩
      have e : cutS ⟨x0.toArray⟩ lo hi = ⟨(cutL x0 lo hi).toArray⟩ := by
        unfold cutS cutL
        simp [Str.length]
      rw [e]
      exact he.here s (.str fun c hc => a1 c (List.mem_of_mem_drop (List.mem_of_mem_take hc)))
    · cases hf
  · split at hf
    · rename_i xs e1
      cases hf
      obtain ⟨a, vs, rfl, ha, q1⟩ := hx.items e1
      refine .inr (.inl ⟨a, vs, rfl, SqT.of ha, fun hw => ?_, fun hw => he.newTup s (cutL_rep q1 lo hi)⟩)
      rw [cutL_whole (by rw [q1.length]; exact hw)] at he
      exact he.here s (Rep.mkTup ha q1)
    · split at hf
      · rename_i xs e1
        cases hf
        obtain ⟨a, vs, rfl, ha, q1⟩ := s.list hx e1
        exact .inr (.inr ⟨a, vs, rfl, .inl ha, he.newLst s (cutL_rep q1 lo hi)⟩)
      · cases hf
/-! ### truth -/
def truB (S : Sto) : D → Option Bool
  | .p .non => some false
  | .p (.bl b) => some b
  | .p (.int i) => some (i != 0)
  | .p (.str x) => if x.length ≤ sizeLine then some (!x.isEmpty) else none
  | a => match a.items with
    | some xs => some (!xs.isEmpty)
    | none => match S.list a with
      | some xs => some (!xs.isEmpty)
      | none => none
theorem Reps.isEmpty {K : PySem.W.Frag} {r : List Addr} {H : Hp} {xs : List D} {vs : List V} (q : Reps r K H xs vs) : (!xs.isEmpty) = !vs.isEmpty := by cases q <;> rfl
theorem truB_ok {r : List Addr} {H : Hp} {S : Sto} {d : D} {v : V} {k : Bool} (hG : X.K = G.K) (s : RelS wr0 r G.K H S) (hd : Rep r G.K H d v) (h : truB S d = some k) : TruV X.K v H k := by
  unfold truB at h
  split at h
  · cases h; rw [hd.non_inv]; rfl
  · cases h; rw [hd.bl_inv]; rfl
  · cases h; rw [hd.int_inv]; rfl
  · rename_i x
    split at h
    · rename_i hz
      cases h
      rw [hd.str_inv.1]
      refine ⟨by simpa [Str.length] using hz, ?_⟩
      have e : (⟨x.toArray⟩ : Str).length = x.length := by simp [Str.length]
      rw [e]
      cases x with
      | nil => rfl
      | cons c t => simp; omega
    · cases h
  · split at h
    · rename_i xs e1
      cases h
      obtain ⟨a, vs, rfl, ha, q1⟩ := hd.items e1
      exact .inr (.inl ⟨vs, SqT.of ha, q1.isEmpty⟩)
    · split at h
      · rename_i xs e1
        cases h
        obtain ⟨a, vs, rfl, ha, q1⟩ := s.list hd e1
        exact .inl ⟨vs, .inl ha, q1.isEmpty⟩
      · cases h
end
end Mi
set_option Elab.async false
set_option linter.all false
set_option maxRecDepth 100000
set_option maxHeartbeats 4000000
/-! Mi6: expressions: what they run as, and that their readings are kept. -/
namespace Mi
open PySem PySem.Spec PyProof.Rows L2

structure Fit (X : Cx) (G : Pd) (k : Nat) : Prop where
  hK : X.K = G.K
  hm : X.mg = G.mg
  calm : X.calm = true
  room : Room k X.A
  gd : X.A.guards = some []
  nd : X.N.Nodup

/-! ### the text -/
def noStar : Expr → Bool
  | .Starred .. => false
  | _ => true
theorem star_of {e : Expr} (h : noStar e = true) (es : List Expr) (env : PySem.Env) : starEach (e :: es) env = (false, eval e env) :: starEach es env := by
  cases e <;> first | rfl | cases h
theorem plain_star : ∀ {es : List Expr}, es.all noStar = true → ∀ (pos : Pos) (env : PySem.Env), (backTo pos (starEach es env)).any (·.1) = false
  | [], _, _, _ => rfl
  | e :: es, h, pos, env => by
    rw [List.all_cons, Bool.and_eq_true] at h
    rw [star_of h.1]
    exact plain_star h.2 pos env
theorem few_star : ∀ {es : List Expr}, es.all noStar = true → ∀ (pos : Pos) (env : PySem.Env), (backTo pos (starEach es env)).all (fun x => !x.1) = true
  | [], _, _, _ => rfl
  | e :: es, h, pos, env => by
    rw [List.all_cons, Bool.and_eq_true] at h
    rw [star_of h.1]
    exact few_star h.2 pos env
/-- an expression whose test is its value's truth -/
def plainT : Expr → Bool
  | .UnaryOp .Not _ _ => false
  | .BoolOp .. => false
  | .IfExp .. => false
  | .Compare .. => false
  | _ => true
theorem plainT_of {e : Expr} (h : plainT e = true) (env : PySem.Env) (whole : Sem Value) : isTrue e env whole = (do let v ← whole; standAt e.pos; holding [v] (truthy v)) := by
  cases e <;> first | rfl | (cases h; done) | skip
  rename_i op x pos
  cases op <;> first | rfl | cases h
def noSlice : Expr → Bool
  | .Slice .. => false
  | _ => true
theorem noSlice_of {e : Expr} (h : noSlice e = true) : PlainIx e := fun o i => by
  cases e <;> first | rfl | cases h
def noSet : Expr → Bool
  | .Set .. => false
  | _ => true
theorem noSet_marks {e : Expr} (h : noSet e = true) (op : CmpOp) : behindInMarks op e = false := by
  cases e <;> first | rfl | cases h
theorem noSet_fold {e : Expr} (h : noSet e = true) (env : PySem.Env) (x : Value) : foldedSetIterable e env x = pure x := by
  cases e <;> first | rfl | cases h
def noComp : Expr → Bool
  | .ListComp .. | .SetComp .. | .DictComp .. => false
  | _ => true
theorem noComp_swap {e : Expr} (h : noComp e = true) (t : Option Expr) (l : Nat) (env : PySem.Env) : swapsWith e t l env = pure false := by
  cases e <;> first | rfl | cases h
def plainBase : Expr → Bool
  | .Call (.Name _ _) [] [] _ => false
  | _ => true
theorem plainBase_of {o : Expr} (h : plainBase o = true) (m : Str) (env : PySem.Env) (w : Sem Value) : attributeBase o m env w = w := by
  unfold attributeBase
  split
  · cases h
  · rfl

section
variable {X : Cx} {wr0 : List (Nat × Nat)} {G : Pd} {W : WX} {k : Nat} {a b c e : Expr} {es : List Expr} {ma mb mc : EM D} {pos : Pos}

/-! ### names, constants -/
def mC (d : D) : EM D := fun _ S => .ok d S
theorem q_c {d : D} {v : V} (h : PE X e (tC v)) (hd : ∀ r H, Rep r G.K H d v) : PE X e (TEm wr0 G W (mC d)) := by
  refine PE.wk h fun sg H Q hq => ?_
  obtain ⟨r, st, S, he, hs, hr⟩ := hq
  exact hr r H v (List.prefix_refl _) hs Kp.refl (hd r H)
def mVar (i : Nat) : EM D := fun st S => match st[i]? with
  | some (some d) => .ok d S
  | _ => .stuck
theorem q_var {i : Nat} {x : Str} (hN : X.N[i]? = some x) (hv : Vis X.env.scope x) (hd : (x == ("__debug__" : Str)) = false) (hcd : (x == ("__classdict__" : Str)) = false) : PE X (.Name x pos) (TEm wr0 G W (mVar i)) := by
  refine PE.wk (pe_var hN hv hd hcd) fun sg H Q hq => ?_
  obtain ⟨r, st, S, he, hs, hr⟩ := hq
  unfold mVar at hr
  split at hr
  · rename_i d e1
    obtain ⟨v, h1, h2⟩ := he.val i d e1
    exact ⟨v, h1, hr r H v (List.prefix_refl _) hs Kp.refl h2⟩
  · exact hr.elim

/-! ### operations -/
def m2 (f : F2) (a b : EM D) : EM D := fun st S => (a st S).bind fun x S1 => (b st S1).bind fun y S2 => ofOpt (f x y S2)
theorem tm_m2 {f : F2} {sg : L2.St} {H : Hp} {Q : VK} (h : TEm wr0 G W (m2 f ma mb) sg H Q) : TEm wr0 G W ma sg H fun x H1 => TEm wr0 G W mb sg H1 fun y H2 => r2 wr0 G f x y H2 Q := by
  obtain ⟨r, st, S, he, hs, hr⟩ := h
  refine ⟨r, st, S, he, hs, (hr.bind (R := RD G) he).imp ?_⟩
  rintro x H1 ⟨r1, dx, S1, e1, k1, he1, hs1, hx, hr1⟩
  refine ⟨r1, st, S1, he1, hs1, (hr1.bind (R := RD G) he1).imp ?_⟩
  rintro y H2 ⟨r2, dy, S2, e2, k2, he2, hs2, hy, hr2⟩
  obtain ⟨d, S', h1, h2⟩ := run_opt hr2
  exact ⟨r2, S2, dx, dy, d, S', hs2, hx.mono k2 e2, hy, h1, h2⟩
theorem q_op {op : Operator} {f : F2} (ho : OpR X (binaryOp op) (r2 wr0 G f)) (ha : PE X a (TEm wr0 G W ma)) (hb : PE X b (TEm wr0 G W mb)) : PE X (.BinOp a op b pos) (TEm wr0 G W (m2 f ma mb)) :=
  PE.wk (pe_op ho ha hb) fun _ _ _ h => tm_m2 h
theorem q_cmp {op : CmpOp} {f : F2} (ho : OpR X (compareOp op) (r2 wr0 G f)) (ha : PE X a (TEm wr0 G W ma)) (hb : PE X b (TEm wr0 G W mb)) (hm : behindInMarks op b = false) : PE X (.Compare a [op] [b] pos) (TEm wr0 G W (m2 f ma mb)) :=
  PE.wk (pe_cmpR ho ha hb hm) fun _ _ _ h => tm_m2 h
def m1 (f : D → Sto → Option (D × Sto)) (a : EM D) : EM D := fun st S => (a st S).bind fun x S1 => ofOpt (f x S1)
def negF : D → Sto → Option (D × Sto)
  | .p (.int i), S => some (pint (-i), S)
  | _, _ => none
theorem q_neg (ha : PE X a (TEm wr0 G W ma)) : PE X (.UnaryOp .USub a pos) (TEm wr0 G W (m1 negF ma)) := by
  refine PE.wk (pe_un un_neg ha) fun sg H Q h => ?_
  obtain ⟨r, st, S, he, hs, hr⟩ := h
  refine ⟨r, st, S, he, hs, (hr.bind (R := RD G) he).imp ?_⟩
  rintro x H1 ⟨r1, dx, S1, e1, k1, he1, hs1, hx, hr1⟩
  obtain ⟨d, S', h1, h2⟩ := run_opt hr1
  unfold negF at h1
  split at h1
  · cases h1
    exact ⟨_, hx.int_inv, h2.here hs1 (.int _)⟩
  · cases h1
/-- a op b op' c -/
def mChain (f g : F2) (a b c : EM D) : EM D := fun st S => (a st S).bind fun x S1 => (b st S1).bind fun y S2 => (ofOpt (f x y S2)).bind fun z S3 => match z with
  | .p (.bl true) => (c st S3).bind fun w S4 => ofOpt (g y w S4)
  | .p (.bl false) => .ok (pbl false) S3
  | _ => .stuck
theorem tm_chain {f g : F2} {sg : L2.St} {H : Hp} {Q : VK} (h : TEm wr0 G W (mChain f g ma mb mc) sg H Q) : tChain (r2 wr0 G f) (r2 wr0 G g) (TEm wr0 G W ma) (TEm wr0 G W mb) (TEm wr0 G W mc) sg H Q := by
  obtain ⟨r, st, S, he, hs, hr⟩ := h
  refine ⟨r, st, S, he, hs, (hr.bind (R := RD G) he).imp ?_⟩
  rintro x H1 ⟨r1, dx, S1, e1, k1, he1, hs1, hx, hr1⟩
  refine ⟨r1, st, S1, he1, hs1, (hr1.bind (R := RD G) he1).imp ?_⟩
  rintro y H2 ⟨r2, dy, S2, e2, k2, he2, hs2, hy, hr2⟩
  have hr3 := hr2.bind (R := RD G) he2
  obtain ⟨d, S', h1, h2⟩ := run_opt hr3
  refine ⟨r2, S2, dx, dy, d, S', hs2, hx.mono k2 e2, hy, h1, fun r' H' v e' s' k' hv => ?_⟩
  obtain ⟨r3, d3, S3, e3, k3, he3, hs3, hd3, hr4⟩ := h2 r' H' v e' s' k' hv
  split at hr4
  · have := hd3.bl_inv
    subst this
    refine ⟨true, rfl, ?_⟩
    rw [if_pos rfl]
    refine ⟨r3, st, S3, he3, hs3, (hr4.bind (R := RD G) he3).imp ?_⟩
    rintro w H5 ⟨r5, dw, S5, e5, k5, he5, hs5, hw, hr5⟩
    obtain ⟨d6, S6, h61, h62⟩ := run_opt hr5
    exact ⟨r5, S5, dy, dw, d6, S6, hs5, hy.mono (k3.trans k5) (e3.trans e5), hw, h61, h62⟩
  · have := hd3.bl_inv
    subst this
    refine ⟨false, rfl, ?_⟩
    rw [if_neg Bool.false_ne_true]
    exact hr4 r3 H' _ (List.prefix_refl _) hs3 Kp.refl (.bl _)
  · exact hr4.elim
theorem q_chain {op op' : CmpOp} {f g : F2} (ho : OpR X (compareOp op) (r2 wr0 G f)) (ho' : OpR X (compareOp op') (r2 wr0 G g)) (ha : PE X a (TEm wr0 G W ma)) (hb : PE X b (TEm wr0 G W mb)) (hc : PE X c (TEm wr0 G W mc)) (hm : lastMarks [op, op'] [b, c] = false) :
    PE X (.Compare a [op, op'] [b, c] pos) (TEm wr0 G W (mChain f g ma mb mc)) := PE.wk (pe_chain ho ho' ha hb hc hm) fun _ _ _ h => tm_chain h

/-! ### tests -/
def mTru (a : EM D) : EM Bool := fun st S => (a st S).bind fun x S1 => match truB S1 x with
  | some k => .ok k S1
  | none => .stuck
theorem tm_tru (hK : X.K = G.K) {sg : L2.St} {H : Hp} {Q : Bool → Hp → Prop} (h : TTm wr0 G W (mTru ma) sg H Q) : TEm wr0 G W ma sg H fun x H1 => ∃ k, TruV X.K x H1 k ∧ Q k H1 := by
  obtain ⟨r, st, S, he, hs, hr⟩ := h
  refine ⟨r, st, S, he, hs, (hr.bind (R := RD G) he).imp ?_⟩
  rintro x H1 ⟨r1, dx, S1, e1, k1, he1, hs1, hx, hr1⟩
  split at hr1
  · rename_i k hk
    exact ⟨k, truB_ok hK hs1 hx hk, hr1 r1 H1 k (List.prefix_refl _) hs1 Kp.refl rfl⟩
  · exact hr1.elim
theorem qt_plain (hK : X.K = G.K) (ha : PE X a (TEm wr0 G W ma)) (hp : plainT a = true) : PT X a (TTm wr0 G W (mTru ma)) :=
  PT.wk (pt_truth ha (plainT_of hp X.env)) fun _ _ _ h => tm_tru hK h
/-- a comparison gives a bool -/
def mB (a : EM D) : EM Bool := fun st S => (a st S).bind fun x S1 => match x with
  | .p (.bl k) => .ok k S1
  | _ => .stuck
theorem tm_b {sg : L2.St} {H : Hp} {Q : Bool → Hp → Prop} (h : TTm wr0 G W (mB ma) sg H Q) : TEm wr0 G W ma sg H fun x H1 => ∃ k, x = .bl k ∧ Q k H1 := by
  obtain ⟨r, st, S, he, hs, hr⟩ := h
  refine ⟨r, st, S, he, hs, (hr.bind (R := RD G) he).imp ?_⟩
  rintro x H1 ⟨r1, dx, S1, e1, k1, he1, hs1, hx, hr1⟩
  split at hr1
  · exact ⟨_, hx.bl_inv, hr1 r1 H1 _ (List.prefix_refl _) hs1 Kp.refl rfl⟩
  · exact hr1.elim
theorem tm_m2' {f : F2} {sg : L2.St} {H : Hp} {Q : Bool → Hp → Prop} (h : TTm wr0 G W (mB (m2 f ma mb)) sg H Q) : TEm wr0 G W (m2 f ma mb) sg H fun x H1 => ∃ k, x = .bl k ∧ Q k H1 := tm_b h
theorem qt_cmp {op : CmpOp} {f : F2} (ho : OpR X (compareOp op) (r2 wr0 G f)) (ha : PE X a (TEm wr0 G W ma)) (hb : PE X b (TEm wr0 G W mb)) (hm : behindInMarks op b = false) : PT X (.Compare a [op] [b] pos) (TTm wr0 G W (mB (m2 f ma mb))) :=
  PT.wk (pt_cmpR ho ha hb hm) fun _ _ _ h => tm_m2 (tm_m2' h)
theorem qt_chain {op op' : CmpOp} {f g : F2} (ho : OpR X (compareOp op) (r2 wr0 G f)) (ho' : OpR X (compareOp op') (r2 wr0 G g)) (ha : PE X a (TEm wr0 G W ma)) (hb : PE X b (TEm wr0 G W mb)) (hc : PE X c (TEm wr0 G W mc)) (hm : lastMarks [op, op'] [b, c] = false) :
    PT X (.Compare a [op, op'] [b, c] pos) (TTm wr0 G W (mB (mChain f g ma mb mc))) := PT.wk (pt_chain ho ho' ha hb hc hm) fun _ _ _ h => tm_chain (tm_b h)
def mNotT (t : EM Bool) : EM Bool := fun st S => (t st S).bind fun k S1 => .ok (!k) S1
variable {ta tb tc : EM Bool} {rest : List Expr}
theorem qt_not (ha : PT X a (TTm wr0 G W ta)) : PT X (.UnaryOp .Not a pos) (TTm wr0 G W (mNotT ta)) := by
  refine PT.wk (pt_not ha) fun sg H Q h => ?_
  obtain ⟨r, st, S, he, hs, hr⟩ := h
  refine ⟨r, st, S, he, hs, (hr.bind (R := RB) he).imp ?_⟩
  rintro x H1 ⟨r1, dx, S1, e1, k1, he1, hs1, hx, hr1⟩
  cases hx
  exact hr1 r1 H1 _ (List.prefix_refl _) hs1 Kp.refl rfl
def mAndT (a b : EM Bool) : EM Bool := fun st S => (a st S).bind fun k S1 => if k = true then b st S1 else .ok false S1
def mOrT (a b : EM Bool) : EM Bool := fun st S => (a st S).bind fun k S1 => if k = true then .ok true S1 else b st S1
theorem qw_and1 (ha : PT X a (TTm wr0 G W ta)) : PW X (.BoolOp .And [a] pos) (TTm wr0 G W ta) := pw_and1 ha
theorem qw_or1 (ha : PT X a (TTm wr0 G W ta)) : PW X (.BoolOp .Or [a] pos) (TTm wr0 G W ta) := pw_or1 ha
theorem qw_and (ha : PT X a (TTm wr0 G W ta)) (hb : PW X (.BoolOp .And (b :: rest) pos) (TTm wr0 G W tb)) : PW X (.BoolOp .And (a :: b :: rest) pos) (TTm wr0 G W (mAndT ta tb)) := by
  refine PW.wk (pw_and ha hb) fun sg H Q h => ?_
  obtain ⟨r, st, S, he, hs, hr⟩ := h
  refine ⟨r, st, S, he, hs, (hr.bind (R := RB) he).imp ?_⟩
  rintro x H1 ⟨r1, dx, S1, e1, k1, he1, hs1, hx, hr1⟩
  cases hx
  cases x with
  | true => exact ⟨r1, st, S1, he1, hs1, hr1⟩
  | false => exact hr1 r1 H1 _ (List.prefix_refl _) hs1 Kp.refl rfl
theorem qw_or (ha : PT X a (TTm wr0 G W ta)) (hb : PW X (.BoolOp .Or (b :: rest) pos) (TTm wr0 G W tb)) : PW X (.BoolOp .Or (a :: b :: rest) pos) (TTm wr0 G W (mOrT ta tb)) := by
  refine PW.wk (pw_or ha hb) fun sg H Q h => ?_
  obtain ⟨r, st, S, he, hs, hr⟩ := h
  refine ⟨r, st, S, he, hs, (hr.bind (R := RB) he).imp ?_⟩
  rintro x H1 ⟨r1, dx, S1, e1, k1, he1, hs1, hx, hr1⟩
  cases hx
  cases x with
  | true => exact hr1 r1 H1 _ (List.prefix_refl _) hs1 Kp.refl rfl
  | false => exact ⟨r1, st, S1, he1, hs1, hr1⟩
/-! ### as values -/
def mAnd (a b : EM D) : EM D := fun st S => (a st S).bind fun x S1 => match truB S1 x with
  | some true => b st S1
  | some false => .ok x S1
  | none => .stuck
def mOr (a b : EM D) : EM D := fun st S => (a st S).bind fun x S1 => match truB S1 x with
  | some true => .ok x S1
  | some false => b st S1
  | none => .stuck
theorem q_one {op} (ha : PE X a (TEm wr0 G W ma)) : PE X (.BoolOp op [a] pos) (TEm wr0 G W ma) := pe_one ha
theorem q_and (hK : X.K = G.K) (ha : PE X a (TEm wr0 G W ma)) (hb : PE X (.BoolOp .And (b :: rest) pos) (TEm wr0 G W mb)) : PE X (.BoolOp .And (a :: b :: rest) pos) (TEm wr0 G W (mAnd ma mb)) := by
  refine PE.wk (pe_andT ha hb) fun sg H Q h => ?_
  obtain ⟨r, st, S, he, hs, hr⟩ := h
  refine ⟨r, st, S, he, hs, (hr.bind (R := RD G) he).imp ?_⟩
  rintro x H1 ⟨r1, dx, S1, e1, k1, he1, hs1, hx, hr1⟩
  split at hr1
  · rename_i hk
    exact ⟨true, truB_ok hK hs1 hx hk, by rw [if_pos rfl]; exact ⟨r1, st, S1, he1, hs1, hr1⟩⟩
  · rename_i hk
    exact ⟨false, truB_ok hK hs1 hx hk, by rw [if_neg Bool.false_ne_true]; exact hr1 r1 H1 _ (List.prefix_refl _) hs1 Kp.refl hx⟩
  · exact hr1.elim
theorem q_or (hK : X.K = G.K) (ha : PE X a (TEm wr0 G W ma)) (hb : PE X (.BoolOp .Or (b :: rest) pos) (TEm wr0 G W mb)) : PE X (.BoolOp .Or (a :: b :: rest) pos) (TEm wr0 G W (mOr ma mb)) := by
  refine PE.wk (pe_orT ha hb) fun sg H Q h => ?_
  obtain ⟨r, st, S, he, hs, hr⟩ := h
  refine ⟨r, st, S, he, hs, (hr.bind (R := RD G) he).imp ?_⟩
  rintro x H1 ⟨r1, dx, S1, e1, k1, he1, hs1, hx, hr1⟩
  split at hr1
  · rename_i hk
    exact ⟨true, truB_ok hK hs1 hx hk, by rw [if_pos rfl]; exact hr1 r1 H1 _ (List.prefix_refl _) hs1 Kp.refl hx⟩
  · rename_i hk
    exact ⟨false, truB_ok hK hs1 hx hk, by rw [if_neg Bool.false_ne_true]; exact ⟨r1, st, S1, he1, hs1, hr1⟩⟩
  · exact hr1.elim
def mNot (a : EM D) : EM D := fun st S => (a st S).bind fun x S1 => match truB S1 x with
  | some k => .ok (pbl (!k)) S1
  | none => .stuck
theorem q_not (hK : X.K = G.K) (ha : PE X a (TEm wr0 G W ma)) : PE X (.UnaryOp .Not a pos) (TEm wr0 G W (mNot ma)) := by
  refine PE.wk (pe_notT ha) fun sg H Q h => ?_
  obtain ⟨r, st, S, he, hs, hr⟩ := h
  refine ⟨r, st, S, he, hs, (hr.bind (R := RD G) he).imp ?_⟩
  rintro x H1 ⟨r1, dx, S1, e1, k1, he1, hs1, hx, hr1⟩
  split at hr1
  · rename_i k hk
    exact ⟨k, truB_ok hK hs1 hx hk, hr1 r1 H1 _ (List.prefix_refl _) hs1 Kp.refl (.bl _)⟩
  · exact hr1.elim
def mIte {α : Type} (t : EM Bool) (a b : EM α) : EM α := fun st S => (t st S).bind fun k S1 => if k = true then a st S1 else b st S1
theorem q_ite (hc : PT X c (TTm wr0 G W tc)) (ha : PE X a (TEm wr0 G W ma)) (hb : PE X b (TEm wr0 G W mb)) : PE X (.IfExp c a b pos) (TEm wr0 G W (mIte tc ma mb)) := by
  refine PE.wk (pe_ifExp hc ha hb) fun sg H Q h => ?_
  obtain ⟨r, st, S, he, hs, hr⟩ := h
  refine ⟨r, st, S, he, hs, (hr.bind (R := RB) he).imp ?_⟩
  rintro x H1 ⟨r1, dx, S1, e1, k1, he1, hs1, hx, hr1⟩
  cases hx
  cases x with
  | true => exact ⟨r1, st, S1, he1, hs1, hr1⟩
  | false => exact ⟨r1, st, S1, he1, hs1, hr1⟩
/-! ### argument lists, displays -/
def mNil : EM (List D) := fun _ S => .ok [] S
def mCons (a : EM D) (b : EM (List D)) : EM (List D) := fun st S => (a st S).bind fun x S1 => (b st S1).bind fun xs S2 => .ok (x :: xs) S2
variable {mas : EM (List D)}
theorem qa_nil : PA X [] (TAm wr0 G W mNil) := by
  refine PA.wk pa_nil fun sg H Q h => ?_
  obtain ⟨r, st, S, he, hs, hr⟩ := h
  exact hr r H [] (List.prefix_refl _) hs Kp.refl .nil
theorem qa_cons (ha : PE X e (TEm wr0 G W ma)) (hr : PA X es (TAm wr0 G W mas)) (hn : noStar e = true) : PA X (e :: es) (TAm wr0 G W (mCons ma mas)) := by
  refine PA.wk (pa_cons ha hr (star_of hn es X.env)) fun sg H Q h => ?_
  obtain ⟨r, st, S, he, hs, hr⟩ := h
  refine ⟨r, st, S, he, hs, (hr.bind (R := RD G) he).imp ?_⟩
  rintro x H1 ⟨r1, dx, S1, e1, k1, he1, hs1, hx, hr1⟩
  refine ⟨r1, st, S1, he1, hs1, (hr1.bind (R := RDs G) he1).imp ?_⟩
  rintro xs H2 ⟨r2, dxs, S2, e2, k2, he2, hs2, hxs, hr2⟩
  exact hr2 r2 H2 _ (List.prefix_refl _) hs2 Kp.refl (.cons (hx.mono k2 e2) hxs)
def mN (f : List D → Sto → Option (D × Sto)) (a : EM (List D)) : EM D := fun st S => (a st S).bind fun xs S1 => ofOpt (f xs S1)
def tupF (ds : List D) (S : Sto) : Option (D × Sto) := if ds.length ≤ 1000 then some (mkTup ds, S) else none
def lstF (ds : List D) (S : Sto) : Option (D × Sto) := if ds.length ≤ 1000 then some (.ref S.len, S.push (.lst ds)) else none
/-- what an operation on a list of values asks -/
def rN (wr0 : List (Nat × Nat)) (G : Pd) (f : List D → Sto → Option (D × Sto)) : List V → Hp → VK → Prop := fun xs H Q => ∃ r S ds d S', RelS wr0 r G.K H S ∧ Reps r G.K H ds xs ∧ f ds S = some (d, S') ∧ End wr0 G r H d S' Q
theorem tm_N {f : List D → Sto → Option (D × Sto)} {sg : L2.St} {H : Hp} {Q : VK} (h : TEm wr0 G W (mN f mas) sg H Q) : TAm wr0 G W mas sg H fun xs H1 => rN wr0 G f xs H1 Q := by
  obtain ⟨r, st, S, he, hs, hr⟩ := h
  refine ⟨r, st, S, he, hs, (hr.bind (R := RDs G) he).imp ?_⟩
  rintro xs H1 ⟨r1, dx, S1, e1, k1, he1, hs1, hx, hr1⟩
  obtain ⟨d, S', h1, h2⟩ := run_opt hr1
  exact ⟨r1, S1, dx, d, S', hs1, hx, h1, h2⟩
theorem Tm.imp' {α β : Type} {R : List Addr → Hp → α → β → Prop} {m : EM α} {sg : L2.St} {H : Hp} {Q Q' : β → Hp → Prop} (h : Tm wr0 G W R m sg H Q) (f : ∀ b H', Q b H' → Q' b H') : Tm wr0 G W R m sg H Q' := h.imp f
theorem q_tup {x1} (h : PA X es (TAm wr0 G W mas)) : PE X (.Tuple es x1 pos) (TEm wr0 G W (mN tupF mas)) := by
  refine PE.wk (pe_tup h) fun sg H Q hq => ?_
  refine (tm_N hq).imp fun xs H1 ⟨r, S, ds, d, S', s, hd, hf, he⟩ => ?_
  unfold tupF at hf
  split at hf
  · rename_i hz
    cases hf
    refine ⟨by rw [← hd.length, sizeLine_eq]; omega, he.newTup s hd⟩
  · cases hf
theorem q_lst (h : PA X es (TAm wr0 G W mas)) : PE X (.List es pos) (TEm wr0 G W (mN lstF mas)) := by
  refine PE.wk (pe_lst h) fun sg H Q hq => ?_
  refine (tm_N hq).imp fun xs H1 ⟨r, S, ds, d, S', s, hd, hf, he⟩ => ?_
  unfold lstF at hf
  split at hf
  · rename_i hz
    cases hf
    refine ⟨by rw [← hd.length, sizeLine_eq]; omega, he.newLst s hd⟩
  · cases hf
/-! ### subscripts -/
theorem q_idx (hK : X.K = G.K) (hu : X.A.units + 1 < cLine) (ha : PE X a (TEm wr0 G W ma)) (hb : PE X b (TEm wr0 G W mb)) (hs : noSlice b = true) : PE X (.Subscript a b pos) (TEm wr0 G W (m2 idxF ma mb)) :=
  PE.wk (pe_ix (ix_F hK hu) ha hb (noSlice_of hs)) fun _ _ _ h => tm_m2 h
/-- a slice's part -/
def mPart : Option (EM D) → EM (Option Int)
  | none => fun _ S => .ok none S
  | some m => fun st S => (m st S).bind fun x S1 => match x with
    | .p (.int i) => .ok (some i) S1
    | _ => .stuck
theorem qo_none : PO X none (Tm wr0 G W RI (mPart none)) := by
  refine ⟨fun pins s σ H Q I h => po_none.run pins s σ H Q I ?_⟩
  obtain ⟨r, st, S, he, hs, hr⟩ := h
  exact hr r H none (List.prefix_refl _) hs Kp.refl rfl
theorem qo_some (ha : PE X a (TEm wr0 G W ma)) : PO X (some a) (Tm wr0 G W RI (mPart (some ma))) := by
  refine ⟨fun pins s σ H Q I h => (po_some ha).run pins s σ H Q I ?_⟩
  obtain ⟨r, st, S, he, hs, hr⟩ := h
  refine ⟨r, st, S, he, hs, (Run.bind (R := RD G) he hr).imp ?_⟩
  rintro x H1 ⟨r1, dx, S1, e1, k1, he1, hs1, hx, hr1⟩
  split at hr1
  · exact ⟨_, hx.int_inv, hr1 r1 H1 _ (List.prefix_refl _) hs1 Kp.refl rfl⟩
  · exact hr1.elim
def mSlc (a : EM D) (lo hi : EM (Option Int)) : EM D := fun st S => (a st S).bind fun x S1 => (lo st S1).bind fun l S2 => (hi st S2).bind fun u S3 => ofOpt (slcF x l u S3)
theorem q_slc {lo hi : Option Expr} {ml mh : EM (Option Int)} {p2 : Pos} (ha : PE X a (TEm wr0 G W ma)) (hl : PO X lo (Tm wr0 G W RI ml)) (hh : PO X hi (Tm wr0 G W RI mh)) : PE X (.Subscript a (.Slice lo hi none p2) pos) (TEm wr0 G W (mSlc ma ml mh)) := by
  refine PE.wk (pe_slice (sl_F (wr0 := wr0) (G := G)) ha hl hh) fun sg H Q h => ?_
  obtain ⟨r, st, S, he, hs, hr⟩ := h
  refine ⟨r, st, S, he, hs, (Run.bind (R := RD G) he hr).imp ?_⟩
  rintro x H1 ⟨r1, dx, S1, e1, k1, he1, hs1, hx, hr1⟩
  refine ⟨r1, st, S1, he1, hs1, (Run.bind (R := RI) he1 hr1).imp ?_⟩
  rintro l H2 ⟨r2, dl, S2, e2, k2, he2, hs2, hl2, hr2⟩
  cases hl2
  refine ⟨r2, st, S2, he2, hs2, (Run.bind (R := RI) he2 hr2).imp ?_⟩
  rintro u H3 ⟨r3, du, S3, e3, k3, he3, hs3, hu3, hr3⟩
  cases hu3
  obtain ⟨d, S', h1, h2⟩ := run_opt hr3
  exact ⟨r3, S3, dx, d, S', hs3, hx.mono (k2.trans k3) (e2.trans e3), h1, h2⟩
def revF (a : D) (S : Sto) : Option (D × Sto) := match S.list a with
  | some xs => some (.ref S.len, S.push (.lst xs.reverse))
  | none => none
theorem q_rev {n : Nat} {p1 p2 p3 : Pos} (ha : PE X a (TEm wr0 G W ma)) : PE X (.Subscript a (.Slice none none (some (.UnaryOp .USub (.Constant (.int 1) n p1) p2)) p3) pos) (TEm wr0 G W (m1 revF ma)) := by
  refine PE.wk (pe_revL ha) fun sg H Q h => ?_
  obtain ⟨r, st, S, he, hs, hr⟩ := h
  refine ⟨r, st, S, he, hs, (hr.bind (R := RD G) he).imp ?_⟩
  rintro x H1 ⟨r1, dx, S1, e1, k1, he1, hs1, hx, hr1⟩
  obtain ⟨d, S', h1, h2⟩ := run_opt hr1
  unfold revF at h1
  split at h1
  · rename_i xs e2
    cases h1
    obtain ⟨p, vs, rfl, ha, q1⟩ := hs1.list hx e2
    exact ⟨p, vs, rfl, .inl ha, h2.newLst hs1 q1.reverse⟩
  · cases h1
end
end Mi
set_option Elab.async false
set_option linter.all false
set_option maxRecDepth 100000
set_option maxHeartbeats 4000000
/-! Mi7: calls of built-ins, methods. -/
namespace Mi
open PySem PySem.Spec PyProof.Rows L2

abbrev FN := List D → Sto → Option (D × Sto)
theorem CallR.wk {X : Cx} {f : Value} {t t' : List V → Hp → VK → Prop} (h : CallR X f t) (w : ∀ xs H Q, t' xs H Q → t xs H Q) : CallR X f t' := fun pins s σ H xs us Q I rx q => h pins s σ H xs us Q I rx (w xs H Q q)

section
variable {X : Cx} {wr0 : List (Nat × Nat)} {G : Pd} {W : WX} {k : Nat}
theorem Reps.one {K : PySem.W.Frag} {r : List Addr} {H : Hp} {d : D} {vs : List V} (h : Reps r K H [d] vs) : ∃ v, vs = [v] ∧ Rep r K H d v := by
  cases h with | cons h q => cases q; exact ⟨_, rfl, h⟩
theorem Reps.two {K : PySem.W.Frag} {r : List Addr} {H : Hp} {d e : D} {vs : List V} (h : Reps r K H [d, e] vs) : ∃ v w, vs = [v, w] ∧ Rep r K H d v ∧ Rep r K H e w := by
  cases h with | cons h q => cases q with | cons h2 q => cases q; exact ⟨_, _, rfl, h, h2⟩
/-- len -/
def lenF : FN
  | [.p (.str x)], S => if x.length ≤ sizeLine then some (pint x.length, S) else none
  | [d], S => match S.seq d with
    | some xs => some (pint xs.length, S)
    | none => none
  | _, _ => none
theorem cr_len (hK : X.K = G.K) : CallR X (.builtin "len") (rN wr0 G lenF) := by
  refine CallR.wk call_len fun xs H Q h => ?_
  obtain ⟨r, S, ds, d, S', s, hd, hf, he⟩ := h
  unfold lenF at hf
  split at hf
  · split at hf
    · rename_i hz
      cases hf
      obtain ⟨v, rfl, hv⟩ := hd.one
      obtain ⟨e1, _⟩ := hv.str_inv
      refine ⟨v, _, rfl, ?_, he.here s (.int _)⟩
      rw [e1]
      exact ⟨by simpa [Str.length] using hz, by simp [Str.length]⟩
    · cases hf
  · split at hf
    · rename_i xs e1
      cases hf
      obtain ⟨v, rfl, hv⟩ := hd.one
      obtain ⟨a, vs, rfl, ha, q⟩ := s.seq hv e1
      refine ⟨_, xs.length, rfl, ?_, he.here s (.int _)⟩
      rw [← hK] at ha
      rcases ha with ha | ha
      · exact .inl ⟨vs, ha, q.length⟩
      · exact .inr ⟨vs, ha, q.length⟩
    · cases hf
  · cases hf
/-- int -/
def intF : FN
  | [.p (.int i)], S => some (pint i, S)
  | [.p (.bl b)], S => some (pint (if b then 1 else 0), S)
  | _, _ => none
theorem cr_int : CallR X (.type "int") (rN wr0 G intF) := by
  refine CallR.wk call_int1 fun xs H Q h => ?_
  obtain ⟨r, S, ds, d, S', s, hd, hf, he⟩ := h
  unfold intF at hf
  split at hf
  · cases hf
    obtain ⟨v, rfl, hv⟩ := hd.one
    exact .inl ⟨_, by rw [hv.int_inv], he.here s (.int _)⟩
  · cases hf
    obtain ⟨v, rfl, hv⟩ := hd.one
    exact .inr ⟨_, by rw [hv.bl_inv], he.here s (.int _)⟩
  · cases hf
/-- tuple -/
def tupleF : FN
  | [d], S => match d.items with
    | some _ => some (d, S)
    | none => match S.list d with
      | some xs => some (mkTup xs, S)
      | none => none
  | _, _ => none
theorem cr_tuple (hK : X.K = G.K) : CallR X (.type "tuple") (rN wr0 G tupleF) := by
  refine CallR.wk call_tuple_of fun xs H Q h => ?_
  obtain ⟨r, S, ds, d, S', s, hd, hf, he⟩ := h
  unfold tupleF at hf
  split at hf
  · split at hf
    · rename_i xs e1
      cases hf
      obtain ⟨v, rfl, hv⟩ := hd.one
      obtain ⟨a, vs, rfl, ha, q⟩ := hv.items e1
      exact ⟨a, vs, rfl, .inr ⟨SqT.of ha, he.here s hv⟩⟩
    · split at hf
      · rename_i xs e1
        cases hf
        obtain ⟨v, rfl, hv⟩ := hd.one
        obtain ⟨a, vs, rfl, ha, q⟩ := s.list hv e1
        exact ⟨a, vs, rfl, .inl ⟨.inl ha, he.newTup s q⟩⟩
      · cases hf
  · cases hf
/-- list -/
def listF : FN
  | [d], S => match S.seq d with
    | some xs => some (.ref S.len, S.push (.lst xs))
    | none => none
  | _, _ => none
theorem cr_list (hK : X.K = G.K) : CallR X (.type "list") (rN wr0 G listF) := by
  refine CallR.wk call_list_of fun xs H Q h => ?_
  obtain ⟨r, S, ds, d, S', s, hd, hf, he⟩ := h
  unfold listF at hf
  split at hf
  · split at hf
    · rename_i xs e1
      cases hf
      obtain ⟨v, rfl, hv⟩ := hd.one
      obtain ⟨a, vs, rfl, ha, q⟩ := s.seq hv e1
      rw [← hK] at ha
      exact ⟨a, vs, rfl, ha, he.newLst s q⟩
    · cases hf
  · cases hf
/-- min, max -/
def intsOf : List D → Option (List Int)
  | [] => some []
  | .p (.int i) :: r => (intsOf r).map (i :: ·)
  | _ :: _ => none
theorem intsOf_rep {K : PySem.W.Frag} {r : List Addr} {H : Hp} : ∀ {xs : List D} {vs : List V} {ns : List Int}, Reps r K H xs vs → intsOf xs = some ns → vs = ns.map V.int
  | _, _, ns, .nil, e => by cases e; rfl
  | _, _, ns, .cons (d := d) (ds := ds) h q, e => by
    unfold intsOf at e
    split at e
    · rename_i heq
      cases heq
    · rename_i i r0 heq
      cases heq
      cases e1 : intsOf ds with
      | none => rw [e1] at e; cases e
      | some ms =>
        rw [e1] at e
        cases e
        rw [h.int_inv, intsOf_rep q e1]
        rfl
    · cases e
def maxI : List Int → Int
  | [] => 0
  | [a] => a
  | a :: b :: r => max a (maxI (b :: r))
def minI : List Int → Int
  | [] => 0
  | [a] => a
  | a :: b :: r => min a (minI (b :: r))
theorem maxI_mem : ∀ (ns : List Int), ns ≠ [] → maxI ns ∈ ns ∧ ∀ y ∈ ns, y ≤ maxI ns
  | [], h => absurd rfl h
  | [a], _ => by simp [maxI]
  | a :: b :: r, _ => by
    obtain ⟨h1, h2⟩ := maxI_mem (b :: r) (by simp)
    have e : maxI (a :: b :: r) = max a (maxI (b :: r)) := rfl
    rw [e]
    refine ⟨?_, fun y hy => ?_⟩
    · by_cases h : a ≤ maxI (b :: r)
      · rw [Int.max_eq_right h]; exact List.mem_cons_of_mem _ h1
      · rw [Int.max_eq_left (by omega)]; exact List.mem_cons_self
    · rcases List.mem_cons.mp hy with rfl | hy
      · omega
      · have := h2 y hy; omega
theorem minI_mem : ∀ (ns : List Int), ns ≠ [] → minI ns ∈ ns ∧ ∀ y ∈ ns, minI ns ≤ y
  | [], h => absurd rfl h
  | [a], _ => by simp [minI]
  | a :: b :: r, _ => by
    obtain ⟨h1, h2⟩ := minI_mem (b :: r) (by simp)
    have e : minI (a :: b :: r) = min a (minI (b :: r)) := rfl
    rw [e]
    refine ⟨?_, fun y hy => ?_⟩
    · by_cases h : a ≤ minI (b :: r)
      · rw [Int.min_eq_left h]; exact List.mem_cons_self
      · rw [Int.min_eq_right (by omega)]; exact List.mem_cons_of_mem _ h1
    · rcases List.mem_cons.mp hy with rfl | hy
      · omega
      · have := h2 y hy; omega
def maxF : FN
  | [.p (.int i), .p (.int j)], S => some (pint (if j > i then j else i), S)
  | [d], S => match S.list d with
    | some xs => match intsOf xs with
      | some ns => if ns ≠ [] then some (pint (maxI ns), S) else none
      | none => none
    | none => none
  | _, _ => none
def minF : FN
  | [.p (.int i), .p (.int j)], S => some (pint (if j < i then j else i), S)
  | [d], S => match S.list d with
    | some xs => match intsOf xs with
      | some ns => if ns ≠ [] then some (pint (minI ns), S) else none
      | none => none
    | none => none
  | _, _ => none
theorem cr_maxF (hK : X.K = G.K) (hc : X.calm = true) : CallR X (.builtin "max") (rN wr0 G maxF) := by
  refine CallR.wk (CallR.or (call_max2 hc) (cr_max hc)) fun xs H Q h => ?_
  obtain ⟨r, S, ds, d, S', s, hd, hf, he⟩ := h
  unfold maxF at hf
  split at hf
  · cases hf
    obtain ⟨v, w, rfl, h1, h2⟩ := hd.two
    exact .inl ⟨_, _, by rw [h1.int_inv, h2.int_inv], he.here s (.int _)⟩
  · split at hf
    · rename_i xs e1
      split at hf
      · rename_i ns e2
        split at hf
        · rename_i hn
          cases hf
          obtain ⟨v, rfl, hv⟩ := hd.one
          obtain ⟨a, vs, rfl, ha, q⟩ := s.list hv e1
          have := intsOf_rep q e2
          subst this
          obtain ⟨m1, m2⟩ := maxI_mem ns hn
          refine .inr ⟨a, ns, rfl, .inl ha, List.length_pos_iff.mpr hn, fun m h1 h2 => ?_⟩
          have e : m = maxI ns := Int.le_antisymm (m2 m h1) (h2 _ m1)
          rw [e]
          exact he.here s (.int _)
        · cases hf
      · cases hf
    · cases hf
  · cases hf
theorem cr_minF (hK : X.K = G.K) (hc : X.calm = true) : CallR X (.builtin "min") (rN wr0 G minF) := by
  refine CallR.wk (CallR.or (call_min2 hc) (cr_min hc)) fun xs H Q h => ?_
  obtain ⟨r, S, ds, d, S', s, hd, hf, he⟩ := h
  unfold minF at hf
  split at hf
  · cases hf
    obtain ⟨v, w, rfl, h1, h2⟩ := hd.two
    exact .inl ⟨_, _, by rw [h1.int_inv, h2.int_inv], he.here s (.int _)⟩
  · split at hf
    · rename_i xs e1
      split at hf
      · rename_i ns e2
        split at hf
        · rename_i hn
          cases hf
          obtain ⟨v, rfl, hv⟩ := hd.one
          obtain ⟨a, vs, rfl, ha, q⟩ := s.list hv e1
          have := intsOf_rep q e2
          subst this
          obtain ⟨m1, m2⟩ := minI_mem ns hn
          refine .inr ⟨a, ns, rfl, .inl ha, List.length_pos_iff.mpr hn, fun m h1 h2 => ?_⟩
          have e : m = minI ns := Int.le_antisymm (h2 _ m1) (m2 m h1)
          rw [e]
          exact he.here s (.int _)
        · cases hf
      · cases hf
    · cases hf
  · cases hf
/-- sum of ints -/
def sumF : FN
  | [d], S => match S.list d with
    | some xs => match intsOf xs with
      | some ns => some (pint ns.sum, S)
      | none => none
    | none => none
  | _, _ => none
theorem cr_sumF (hK : X.K = G.K) (hc : X.calm = true) : CallR X (.builtin "sum") (rN wr0 G sumF) := by
  refine CallR.wk (cr_sum hc) fun xs H Q h => ?_
  obtain ⟨r, S, ds, d, S', s, hd, hf, he⟩ := h
  unfold sumF at hf
  split at hf
  · split at hf
    · rename_i xs e1
      split at hf
      · rename_i ns e2
        cases hf
        obtain ⟨v, rfl, hv⟩ := hd.one
        obtain ⟨a, vs, rfl, ha, q⟩ := s.list hv e1
        have := intsOf_rep q e2
        subst this
        exact ⟨a, ns, rfl, .inl ha, he.here s (.int _)⟩
      · cases hf
    · cases hf
  · cases hf
/-- all, any of bools -/
def boolsOf : List D → Option (List Bool)
  | [] => some []
  | .p (.bl i) :: r => (boolsOf r).map (i :: ·)
  | _ :: _ => none
theorem boolsOf_rep {K : PySem.W.Frag} {r : List Addr} {H : Hp} : ∀ {xs : List D} {vs : List V} {ns : List Bool}, Reps r K H xs vs → boolsOf xs = some ns → vs = ns.map V.bl
  | _, _, ns, .nil, e => by cases e; rfl
  | _, _, ns, .cons (d := d) (ds := ds) h q, e => by
    unfold boolsOf at e
    split at e
    · rename_i heq
      cases heq
    · rename_i i r0 heq
      cases heq
      cases e1 : boolsOf ds with
      | none => rw [e1] at e; cases e
      | some ms =>
        rw [e1] at e
        cases e
        rw [h.bl_inv, boolsOf_rep q e1]
        rfl
    · cases e
def quanF (g : List Bool → Bool) : FN
  | [d], S => match S.list d with
    | some xs => match boolsOf xs with
      | some ns => some (pbl (g ns), S)
      | none => none
    | none => none
  | _, _ => none
def allF : FN := quanF fun bs => bs.all id
def anyF : FN := quanF fun bs => bs.any id
theorem quanF_of {g : List Bool → Bool} {xs : List V} {H : Hp} {Q : VK} (h : rN wr0 G (quanF g) xs H Q) : ∃ (a : Addr) (bs : List Bool), xs = [V.ref a] ∧ Rd H a (.lst (bs.map V.bl)) ∧ Q (.bl (g bs)) H := by
  obtain ⟨r, S, ds, d, S', s, hd, hf, he⟩ := h
  unfold quanF at hf
  split at hf
  · split at hf
    · rename_i xs e1
      split at hf
      · rename_i ns e2
        cases hf
        obtain ⟨v, rfl, hv⟩ := hd.one
        obtain ⟨a, vs, rfl, ha, q⟩ := s.list hv e1
        have := boolsOf_rep q e2
        subst this
        exact ⟨a, ns, rfl, ha, he.here s (.bl _)⟩
      · cases hf
    · cases hf
  · cases hf
theorem cr_allF (hc : X.calm = true) : CallR X (.builtin "all") (rN wr0 G allF) := CallR.wk (cr_all hc) fun xs H Q h => by
  obtain ⟨a, bs, h1, h2, h3⟩ := quanF_of h
  exact ⟨a, bs, h1, .inl h2, h3⟩
theorem cr_anyF (hc : X.calm = true) : CallR X (.builtin "any") (rN wr0 G anyF) := CallR.wk (cr_any hc) fun xs H Q h => by
  obtain ⟨a, bs, h1, h2, h3⟩ := quanF_of h
  exact ⟨a, bs, h1, .inl h2, h3⟩
/-- repr of a list or a tuple -/
def reprF : FN
  | [d], S => match S.seq d, D.py S 60 d with
    | some _, some u => if u.showable ∧ u.depth ≤ 60 ∧ u.shown.length ≤ sizeLine ∧ (u.shown.cps.toList.all fun c => decide (c < 128)) = true then some (pstr u.shown.cps.toList, S) else none
    | _, _ => none
  | _, _ => none
theorem cr_reprF (F : Fit X G k) : CallR X (.builtin "repr") (rN wr0 G reprF) := by
  intro pins s σ H xs us Q I rx h
  obtain ⟨r, S, ds, d, S', rs, hd, hf, he⟩ := h
  unfold reprF at hf
  split at hf
  · split at hf
    · rename_i ys u e1 e2
      split at hf
      · rename_i hz
        cases hf
        obtain ⟨v, rfl, hv⟩ := hd.one
        obtain ⟨a, vs, rfl, ha, q⟩ := rs.seq hv e1
        obtain ⟨w, rfl, rw'⟩ := vals1 rx
        cases rw'
        obtain ⟨d1, d2⟩ := rs.dp _ _ _ _ hv e2
        rw [← F.hK] at d1
        obtain ⟨as, hr⟩ := Dp.reads I u _ _ d1 rfl
        have hun := F.room.units
        refine repr_of_reads' hr hz.1 (PyData.noDict_hsm (PyData.hasDict_of_canLay u d2)) F.gd (by omega) (fun _ _ e => e) (fun h' t tk hk => ?_) hz.2.2.1
        refine ⟨.str _, H, I.kept hk, ⟨_, rfl⟩, ?_⟩
        have e : (⟨u.shown.cps.toList.toArray⟩ : Str) = u.shown := by simp
        have := he.here rs (v := .str ⟨u.shown.cps.toList.toArray⟩) (.str fun c hc => by simpa using List.all_eq_true.mp hz.2.2.2 c hc)
        rw [e] at this
        exact this
      · cases hf
    · cases hf
  · cases hf
/-! ### the rule of a built-in's call -/
theorem q_callB {x : Str} {id : String} {f : FN} {p pos : Pos} {e : Expr} {es : List Expr} {mas : EM (List D)} (hc : CallR X (.builtin id) (rN wr0 G f)) (hg : Gl X x) (hm : X.mg x = none) (hv : bootBuiltins x = some (.builtin id)) (ha : PA X (e :: es) (TAm wr0 G W mas)) (hn : x ≠ "__name__")
    (hdb : (x == ("__debug__" : Str)) = false) (hs : (e :: es).all noStar = true) : PE X (.Call (.Name x p) (e :: es) [] pos) (TEm wr0 G W (mN f mas)) := by
  have hs' := hs
  rw [List.all_cons, Bool.and_eq_true] at hs'
  exact PE.wk (pe_callB hc hg hm hv ha hn hdb (star_of hs'.1 _ _) (plain_star hs'.2 _ _)) fun _ _ _ h => tm_N h
theorem q_callT {x : Str} {T : String} {f : FN} {p pos : Pos} {e : Expr} {es : List Expr} {mas : EM (List D)} (hc : CallR X (.type T) (rN wr0 G f)) (hg : Gl X x) (hm : X.mg x = none) (hv : bootBuiltins x = some (.type T)) (ha : PA X (e :: es) (TAm wr0 G W mas)) (hn : x ≠ "__name__")
    (hdb : (x == ("__debug__" : Str)) = false) (hs : (e :: es).all noStar = true) : PE X (.Call (.Name x p) (e :: es) [] pos) (TEm wr0 G W (mN f mas)) := by
  have hs' := hs
  rw [List.all_cons, Bool.and_eq_true] at hs'
  exact PE.wk (pe_callTy hc hg hm hv ha hn hdb (star_of hs'.1 _ _) (plain_star hs'.2 _ _)) fun _ _ _ h => tm_N h

/-! ### isinstance -/
def kindD (S : Sto) : D → Option String
  | .p .non => some "NoneType"
  | .p (.bl _) => some "bool"
  | .p (.int _) => some "int"
  | .p (.str _) => some "str"
  | .p (.tup _) => some "tuple"
  | .p (.ktup _) => some "tuple"
  | .tup _ => some "tuple"
  | .ref n => match S.get n with
    | some (.lst _) => some "list"
    | some (.fzl _) => some "list"
    | some (.dct _) => some "dict"
    | some (.fzd _) => none
    | none => none
def isiB (k T : String) : Option Bool := kitB k T
theorem kindD_ty (hK : X.K = G.K) {r : List Addr} {H : Hp} {S : Sto} {d : D} {v : V} {t : String} (s : RelS wr0 r G.K H S) (h : Rep r G.K H d v) (e : kindD S d = some t) : TyX X.K H v (.type t) := by
  cases h with
  | p h =>
    cases h with
    | non => cases e; exact .base .non
    | bl b => cases e; exact .base (.bl b)
    | int i => cases e; exact .base (.int i)
    | str _ => cases e; exact .base (.str _)
    | tup h _ => cases e; exact .base (.tup h)
    | ktup h _ =>
      cases e
      rcases h (fun _ => none) with q | ⟨o, its, n, hk, hc, _⟩
      · rcases q with q | ⟨ob, q⟩ <;> cases q
      · rw [hK]; exact .kTuple hk hc
  | tup h _ => cases e; exact .base (.tup h)
  | ref ha =>
    obtain ⟨o, ho, hr⟩ := s.at ha
    simp only [kindD, ho] at e
    cases o with
    | lst ys => cases e; obtain ⟨vs, e0, z⟩ := hr; exact .base (.lst e0)
    | fzl ys => cases e; obtain ⟨ob, vs, e0, z⟩ := hr; exact .base (.frz e0)
    | dct ys =>
      cases e
      obtain ⟨u, e0, z⟩ := hr
      rcases z with ⟨ks, rfl, _⟩ | ⟨ks, rfl, _⟩
      · exact .base (.dK e0)
      · exact .base (.dT e0)
    | fzd ys => cases e
/-- isinstance(a, T), T a built-in type -/
def mIsi (T : String) (a : EM D) : EM D := fun st S => (a st S).bind fun x S1 => match kindD S1 x with
  | some t => match isiB t T with
    | some b => .ok (pbl b) S1
    | none => .stuck
  | none => .stuck
theorem q_isi (hK : X.K = G.K) {x : Str} {T : String} {p p2 pos : Pos} {a : Expr} {ma : EM D} (hg : Gl X "isinstance") (hm : X.mg "isinstance" = none) (hg2 : Gl X x) (hm2 : X.mg x = none) (hv : bootBuiltins x = some (.type T)) (ha : PE X a (TEm wr0 G W ma)) (hn : x ≠ "__name__")
    (hdb : (x == ("__debug__" : Str)) = false) (hs : noStar a = true) : PE X (.Call (.Name "isinstance" p) [a, .Name x p2] [] pos) (TEm wr0 G W (mIsi T ma)) := by
  have hT : PE X (.Name x p2) (tC (.ty T)) := pe_bltn (v := .ty T) hg2 hm2 hv rfl hn hdb
  refine PE.wk (pe_callB call_isi hg hm boot_isinstance (pa_cons ha (pa_cons hT pa_nil) (star_of hs _ _)) (by decide) (by decide) (star_of hs _ _)) fun sg H Q h => ?_
  obtain ⟨r, st, S, he, hs, hr⟩ := h
  refine ⟨r, st, S, he, hs, (hr.bind (R := RD G) he).imp ?_⟩
  rintro x H1 ⟨r1, dx, S1, e1, k1, he1, hs1, hx, hr1⟩
  split at hr1
  · rename_i t ht
    split at hr1
    · rename_i b hb
      exact ⟨x, .ty T, .type t, .type T, b, rfl, .ty T, kindD_ty hK hs1 hx ht, kit_ty hb, hr1 r1 H1 _ (List.prefix_refl _) hs1 Kp.refl (.bl _)⟩
    · exact hr1.elim
  · exact hr1.elim
@[simp] theorem isi_str_str : isiB "str" "str" = some true := by decide +kernel
@[simp] theorem isi_tuple_tuple : isiB "tuple" "tuple" = some true := by decide +kernel
@[simp] theorem isi_int_int : isiB "int" "int" = some true := by decide +kernel
@[simp] theorem isi_bool_int : isiB "bool" "int" = some true := by decide +kernel
@[simp] theorem isi_bool_bool : isiB "bool" "bool" = some true := by decide +kernel
@[simp] theorem isi_dict_dict : isiB "dict" "dict" = some true := by decide +kernel
@[simp] theorem isi_list_list : isiB "list" "list" = some true := by decide +kernel
@[simp] theorem isi_none_str : isiB "NoneType" "str" = some false := by decide +kernel
@[simp] theorem isi_none_tuple : isiB "NoneType" "tuple" = some false := by decide +kernel
@[simp] theorem isi_none_int : isiB "NoneType" "int" = some false := by decide +kernel
@[simp] theorem isi_none_bool : isiB "NoneType" "bool" = some false := by decide +kernel
@[simp] theorem isi_none_dict : isiB "NoneType" "dict" = some false := by decide +kernel
@[simp] theorem isi_bool_str : isiB "bool" "str" = some false := by decide +kernel
@[simp] theorem isi_bool_tuple : isiB "bool" "tuple" = some false := by decide +kernel
@[simp] theorem isi_bool_dict : isiB "bool" "dict" = some false := by decide +kernel
@[simp] theorem isi_int_str : isiB "int" "str" = some false := by decide +kernel
@[simp] theorem isi_int_tuple : isiB "int" "tuple" = some false := by decide +kernel
@[simp] theorem isi_int_bool : isiB "int" "bool" = some false := by decide +kernel
@[simp] theorem isi_int_dict : isiB "int" "dict" = some false := by decide +kernel
@[simp] theorem isi_str_tuple : isiB "str" "tuple" = some false := by decide +kernel
@[simp] theorem isi_str_int : isiB "str" "int" = some false := by decide +kernel
@[simp] theorem isi_str_bool : isiB "str" "bool" = some false := by decide +kernel
@[simp] theorem isi_str_dict : isiB "str" "dict" = some false := by decide +kernel
@[simp] theorem isi_tuple_str : isiB "tuple" "str" = some false := by decide +kernel
@[simp] theorem isi_tuple_int : isiB "tuple" "int" = some false := by decide +kernel
@[simp] theorem isi_tuple_bool : isiB "tuple" "bool" = some false := by decide +kernel
@[simp] theorem isi_tuple_dict : isiB "tuple" "dict" = some false := by decide +kernel
@[simp] theorem isi_list_str : isiB "list" "str" = some false := by decide +kernel
@[simp] theorem isi_list_tuple : isiB "list" "tuple" = some false := by decide +kernel
@[simp] theorem isi_list_int : isiB "list" "int" = some false := by decide +kernel
@[simp] theorem isi_list_bool : isiB "list" "bool" = some false := by decide +kernel
@[simp] theorem isi_list_dict : isiB "list" "dict" = some false := by decide +kernel
@[simp] theorem isi_dict_str : isiB "dict" "str" = some false := by decide +kernel
@[simp] theorem isi_dict_tuple : isiB "dict" "tuple" = some false := by decide +kernel
@[simp] theorem isi_dict_int : isiB "dict" "int" = some false := by decide +kernel
@[simp] theorem isi_dict_bool : isiB "dict" "bool" = some false := by decide +kernel

/-! ### methods of built-ins -/
/-- the type of a method's receiver -/
def recvD (S : Sto) : D → Option String
  | .p (.str _) => some "str"
  | .ref n => match S.get n with
    | some (.lst _) => some "list"
    | some (.fzl _) => some "list"
    | some (.dct _) => some "dict"
    | some (.fzd _) => some "dict"
    | none => none
  | _ => none
abbrev FM := String → D → List D → Sto → Option (D × Sto)
def rM (wr0 : List (Nat × Nat)) (G : Pd) (f : D → List D → Sto → Option (D × Sto)) : V → List V → Hp → VK → Prop := fun x xs H Q => ∃ r S dx ds d S', RelS wr0 r G.K H S ∧ Rep r G.K H dx x ∧ Reps r G.K H ds xs ∧ f dx ds S = some (d, S') ∧ End wr0 G r H d S' Q
/-- a method's rule -/
def MRule (X : Cx) (wr0 : List (Nat × Nat)) (G : Pd) (name : Str) (Ts : List String) (f : FM) : Prop := ∀ T ∈ Ts, ∃ id, PlainAttrs T ∧ Slot T name id ∧ typeOf (.builtin id) = pure (.type "method_descriptor") ∧ MtR X id (rM wr0 G (f T))
def mMeth (Ts : List String) (f : FM) (o : EM D) (a : EM (List D)) : EM D := fun st S => (o st S).bind fun x S1 => match recvD S1 x with
  | some T => if T ∈ Ts then (a st S1).bind fun ds S2 => ofOpt (f T x ds S2) else .stuck
  | none => .stuck
theorem recvD_is (hK : X.K = G.K) {pins : List (Addr × Obj)} {σ : L2.St} {sh : Shared} {r : List Addr} {H : Hp} {S : Sto} {d : D} {v : V} {u : Value} {T : String} (I : L2.Inv X pins σ H sh) (s : RelS wr0 r G.K H S) (h : Rep r G.K H d v) (ru : RelV v u) (e : recvD S d = some T) :
    sh.TypeIs u T ∧ ∀ a, u = .ref a → ∃ ob, sh.heap.get? a = some ob ∧ ob.dict = none := by
  cases h with
  | p h =>
    cases h with
    | str _ =>
      cases e
      exact tyV_is (T := "str") I ru rfl
    | _ => cases e
  | tup h _ => cases e
  | ref ha =>
    obtain ⟨o, ho, hr⟩ := s.at ha
    simp only [recvD, ho] at e
    cases ru
    cases o with
    | lst ys => cases e; obtain ⟨vs, e0, z⟩ := hr; exact tyV_is (T := "list") (x := .ref _) I rfl (.inl ⟨rfl, vs, SqL.of e0⟩)
    | fzl ys => cases e; obtain ⟨ob, vs, e0, z⟩ := hr; exact tyV_is (T := "list") (x := .ref _) I rfl (.inl ⟨rfl, vs, .inl (.inr ⟨ob, e0⟩)⟩)
    | dct ys =>
      cases e
      obtain ⟨u, e0, z⟩ := hr
      obtain ⟨t1, t2, _⟩ := isD_at (a := _) I (by
        rcases z with ⟨ks, rfl, _⟩ | ⟨ks, rfl, _⟩
        · exact .inl ⟨ks, .inl e0⟩
        · exact .inr ⟨ks, .inl e0⟩)
      exact ⟨t1, t2⟩
    | fzd ys =>
      cases e
      obtain ⟨ob, u, e0, z⟩ := hr
      obtain ⟨t1, t2, _⟩ := isD_at (a := _) I (by
        rcases z with ⟨ks, rfl, _⟩ | ⟨ks, rfl, _⟩
        · exact .inl ⟨ks, .inr ⟨ob, e0⟩⟩
        · exact .inr ⟨ks, .inr ⟨ob, e0⟩⟩)
      exact ⟨t1, t2⟩
theorem q_meth0 {o : Expr} {mo : EM D} {name : Str} {Ts : List String} {f : FM} {apos cpos : Pos} (hK : X.K = G.K) (hr : MRule X wr0 G name Ts f) (ho : PE X o (TEm wr0 G W mo)) (hb : plainBase o = true) (hl : (apos.endLine == cpos.line) = true) :
    PE X (.Call (.Attribute o name apos) [] [] cpos) (TEm wr0 G W (mMeth Ts f mo mNil)) := by
  refine ⟨fun pins s σ H Q I h => ?_⟩
  obtain ⟨r, st, S, he, hs0, hr0⟩ := h
  have hrun := ho.run pins s σ H _ I ⟨r, st, S, he, hs0, hr0.bind (R := RD G) he⟩
  refine wpAny_Call_method_late (plainBase_of hb name X.env _) rfl hl rfl (thn hrun fun u s1 hh => ?_)
  obtain ⟨x, H1, I1, rx, r1, dx, S1, e1, k1, he1, hs1, hx, hr1⟩ := hh
  split at hr1
  · rename_i T hT
    split at hr1
    · rename_i hTs
      obtain ⟨t1, t2⟩ := recvD_is hK I1 hs1 hx rx hT
      obtain ⟨id, pa, slot, hty, hm⟩ := hr T hTs
      refine ⟨T, id, pa, slot, hty, t1, t2, ?_⟩
      obtain ⟨d, S', h1, h2⟩ := run_opt hr1
      refine Calls.callWith_builtin rfl (PySem.evalArgs_none ?_)
      exact hm pins s1 σ H1 x [] u [] Q I1 rx .nil ⟨r1, S1, dx, [], d, S', hs1, hx, .nil, h1, h2⟩
    · exact hr1.elim
  · exact hr1.elim
theorem q_meth {o e : Expr} {es : List Expr} {mo : EM D} {mas : EM (List D)} {name : Str} {Ts : List String} {f : FM} {apos cpos : Pos} (hK : X.K = G.K) (hr : MRule X wr0 G name Ts f) (ho : PE X o (TEm wr0 G W mo)) (ha : PA X (e :: es) (TAm wr0 G W mas)) (hb : plainBase o = true) (hl : (apos.endLine == cpos.line) = true)
    (hs : (e :: es).all noStar = true) (hn : es.length < 28) : PE X (.Call (.Attribute o name apos) (e :: es) [] cpos) (TEm wr0 G W (mMeth Ts f mo mas)) := by
  refine ⟨fun pins s σ H Q I h => ?_⟩
  obtain ⟨r, st, S, he, hs0, hr0⟩ := h
  have hfew : ((backTo cpos (starEach (e :: es) X.env)).all (fun x => !x.1) && (backToKw cpos (keywordEach [] X.env)).all (fun x => x.1.isSome)
      && decide ((e :: es).length + ([] : List Keyword).length + (if ([] : List Keyword).isEmpty then 0 else 1) < 30)) = true := by
    rw [few_star hs cpos X.env]
    simp only [Bool.true_and, Bool.and_eq_true, decide_eq_true_eq]
    exact ⟨rfl, by simp; omega⟩
  have hrun := ho.run pins s σ H _ I ⟨r, st, S, he, hs0, hr0.bind (R := RD G) he⟩
  refine wpAny_Call_method_late (plainBase_of hb name X.env _) hfew hl rfl (thn hrun fun u s1 hh => ?_)
  obtain ⟨x, H1, I1, rx, r1, dx, S1, e1, k1, he1, hs1, hx, hr1⟩ := hh
  split at hr1
  · rename_i T hT
    split at hr1
    · rename_i hTs
      obtain ⟨t1, t2⟩ := recvD_is hK I1 hs1 hx rx hT
      have hr2 := Run.bind (R := RDs G) he1 hr1
      obtain ⟨id, pa, slot, hty, hm⟩ := hr T hTs
      refine ⟨T, id, pa, slot, hty, t1, t2, ?_⟩
      have hA := ha.run cpos pins s1 σ H1 _ I1 ⟨r1, st, S1, he1, hs1, hr2⟩
      have hs' := hs
      rw [List.all_cons, Bool.and_eq_true] at hs'
      rw [star_of hs'.1] at hA ⊢
      refine Calls.callWith_builtin (by show (false || (backTo cpos (starEach es X.env)).any (·.1)) = false; rw [plain_star hs'.2]; rfl) (Calls.evalArgs_plain ?_)
      refine thn hA fun us s2 hh2 => ?_
      obtain ⟨vs, H2, I2, r2', r3, ds, S2, e3, k3, he3, hs3, hds, hr3⟩ := hh2
      obtain ⟨d, S', h1, h2⟩ := run_opt hr3
      exact hm pins s2 σ H2 x vs u us Q I2 rx r2' ⟨r3, S2, dx, ds, d, S', hs3, hx.mono k3 e3, hds, h1, h2⟩
    · exact hr1.elim
  · exact hr1.elim
end
end Mi
set_option Elab.async false
set_option linter.all false
set_option maxRecDepth 100000
set_option maxHeartbeats 4000000
/-! Mi8: methods of lists, dicts, texts; dict displays. -/
namespace Mi
open PySem PySem.Spec PyProof.Rows L2
abbrev pnon : D := .p .non
section
variable {X : Cx} {wr0 : List (Nat × Nat)} {G : Pd} {W : WX}

def appendM : FM := fun T x ds S => match S.mlist x, ds with
  | some (n, xs), [y] => if xs.length < sizeLine then some (pnon, S.set n (.lst (xs ++ [y]))) else none
  | _, _ => none
theorem orep_lst {r : List Addr} {K : PySem.W.Frag} {H : Hp} {a : Addr} {xs : List D} {vs ws : List V} (h : Reps r K H xs vs) (ha : H a = some (.lst ws)) : ORep r K (upd H a (.lst vs)) a (.lst xs) :=
  ⟨vs, upd_same, h.mono (Kp.upd fun zs hu q => by rw [ha] at q; cases q; exact hu) (List.prefix_refl _)⟩
theorem mr_append : MRule X wr0 G "append" ["list"] appendM := by
  intro T hT
  cases List.mem_singleton.mp hT
  refine ⟨_, F.plainAttrs_list, F.slot_list_append, F.type_list_append, fun pins s σ H x vs v us Q I rx rv h => ?_⟩
  obtain ⟨r, S, dx, ds, d, S', hs, hx, hds, hf, he⟩ := h
  unfold appendM at hf
  split at hf
  · rename_i n xs y h1
    split at hf
    · rename_i hz
      cases hf
      obtain ⟨a, ws, rfl, ha, hn, hH, q1⟩ := hs.mlist hx h1
      cases hds with
      | cons hy q => cases q; exact mt_append pins s σ H _ _ v us Q I rx rv ⟨a, ws, _, rfl, rfl, hH, by rw [← q1.length]; exact hz, he.set hs hn ha (orep_lst (q1.append (.cons hy .nil)) hH) (.p .non)⟩
    · cases hf
  · cases hf
def extendM : FM := fun T x ds S => match S.mlist x, ds with
  | some (n, xs), [y] => match S.mlist y with
    | some (_, ys) => if xs.length + ys.length ≤ sizeLine then some (pnon, S.set n (.lst (xs ++ ys))) else none
    | none => none
  | _, _ => none
theorem mr_extend : MRule X wr0 G "extend" ["list"] extendM := by
  intro T hT
  cases List.mem_singleton.mp hT
  refine ⟨_, F.plainAttrs_list, F.slot_list_extend, F.type_list_extend, fun pins s σ H x vs v us Q I rx rv h => ?_⟩
  obtain ⟨r, S, dx, ds, d, S', hs, hx, hds, hf, he⟩ := h
  unfold extendM at hf
  split at hf
  · rename_i n xs y h1
    split at hf
    · rename_i m ys h2
      split at hf
      · rename_i hz
        cases hf
        obtain ⟨a, ws, rfl, ha, hn, hH, q1⟩ := hs.mlist hx h1
        cases hds with
        | cons hy q =>
          cases q
          obtain ⟨b, zs, rfl, hb, hn2, hH2, q2⟩ := hs.mlist hy h2
          exact mt_extend pins s σ H _ _ v us Q I rx rv ⟨a, b, ws, zs, rfl, rfl, hH, hH2, by rw [← q1.length, ← q2.length]; exact hz, he.set hs hn ha (orep_lst (q1.append q2) hH) (.p .non)⟩
      · cases hf
    · cases hf
  · cases hf
/-- l.pop(), l.pop(i) -/
def popM : FM := fun T x ds S => match S.mlist x, ds with
  | some (n, xs), [] => match xs[xs.length - 1]? with
    | some y => some (y, S.set n (.lst xs.dropLast))
    | none => none
  | some (n, xs), [.p (.int i)] => if -(2 ^ 63) ≤ i ∧ i < 2 ^ 63 then match seqIndex? i xs.length with
    | some k => match xs[k]? with
      | some y => some (y, S.set n (.lst (xs.eraseIdx k)))
      | none => none
    | none => none else none
  | _, _ => none
theorem Reps.eraseIdx {r : List Addr} {K : PySem.W.Frag} {H : Hp} : ∀ {ds : List D} {vs : List V} (i : Nat), Reps r K H ds vs → Reps r K H (ds.eraseIdx i) (vs.eraseIdx i)
  | _, _, _, .nil => .nil
  | _, _, 0, .cons _ t => t
  | _, _, i + 1, .cons r t => .cons r (Reps.eraseIdx i t)
theorem mr_pop : MRule X wr0 G "pop" ["list"] popM := by
  intro T hT
  cases List.mem_singleton.mp hT
  refine ⟨_, F.plainAttrs_list, F.slot_list_pop, F.type_list_pop, fun pins s σ H x vs v us Q I rx rv h => ?_⟩
  obtain ⟨r, S, dx, ds, d, S', hs, hx, hds, hf, he⟩ := h
  unfold popM at hf
  split at hf
  · rename_i n xs h1
    split at hf
    · rename_i y h2
      cases hf
      obtain ⟨a, ws, rfl, ha, hn, hH, q1⟩ := hs.mlist hx h1
      cases hds
      obtain ⟨z, hz, hr⟩ := q1.get h2
      exact mt_pop pins s σ H _ _ v us Q I rx rv ⟨a, ws, z, rfl, rfl, hH, by rw [← q1.length]; exact hz, he.set hs hn ha (orep_lst q1.dropLast hH) hr⟩
    · cases hf
  · rename_i n xs i h1
    split at hf
    · rename_i hb
      split at hf
      · rename_i k hk
        split at hf
        · rename_i y h2
          cases hf
          obtain ⟨a, ws, rfl, ha, hn, hH, q1⟩ := hs.mlist hx h1
          cases hds with
          | cons hi q =>
            cases q
            have := hi.int_inv
            subst this
            obtain ⟨z, hz, hr⟩ := q1.get h2
            exact mt_popAt pins s σ H _ _ v us Q I rx rv ⟨a, ws, i, k, z, rfl, rfl, hH, hb.1, hb.2, by rw [← q1.length]; exact hk, hz, he.set hs hn ha (orep_lst (q1.eraseIdx k) hH) hr⟩
        · cases hf
      · cases hf
    · cases hf
  · cases hf
def insertM : FM := fun T x ds S => match S.mlist x, ds with
  | some (n, xs), [.p (.int i), y] => if xs.length < sizeLine ∧ 0 ≤ i ∧ i < 2 ^ 63 then some (pnon, S.set n (.lst (xs.take i.toNat ++ y :: xs.drop i.toNat))) else none
  | _, _ => none
def reverseM : FM := fun T x ds S => match S.mlist x, ds with
  | some (n, xs), [] => some (pnon, S.set n (.lst xs.reverse))
  | _, _ => none
theorem mr_reverse : MRule X wr0 G "reverse" ["list"] reverseM := by
  intro T hT
  cases List.mem_singleton.mp hT
  refine ⟨_, F.plainAttrs_list, F.slot_list_reverse, F.type_list_reverse, fun pins s σ H x vs v us Q I rx rv h => ?_⟩
  obtain ⟨r, S, dx, ds, d, S', hs, hx, hds, hf, he⟩ := h
  unfold reverseM at hf
  split at hf
  · rename_i n xs h1
    cases hf
    obtain ⟨a, ws, rfl, ha, hn, hH, q1⟩ := hs.mlist hx h1
    cases hds
    exact mt_reverse pins s σ H _ _ v us Q I rx rv ⟨a, ws, rfl, rfl, hH, he.set hs hn ha (orep_lst q1.reverse hH) (.p .non)⟩
  · cases hf

/-! ### join -/
def dStrs : List D → Option (List (List Nat))
  | [] => some []
  | .p (.str x) :: r => match dStrs r with
    | some xs => some (x :: xs)
    | none => none
  | _ :: _ => none
def joinL (sep : List Nat) : List (List Nat) → List Nat
  | [] => []
  | [x] => x
  | x :: y :: r => x ++ sep ++ joinL sep (y :: r)
def sumLen : List (List Nat) → Nat
  | [] => 0
  | x :: r => x.length + sumLen r
theorem Reps.dStrs {r : List Addr} {K : PySem.W.Frag} {H : Hp} : ∀ {ds : List D} {vs : List V} {xs : List (List Nat)}, Reps r K H ds vs → Mi.dStrs ds = some xs → vs = (xs.map fun x => (⟨x.toArray⟩ : Str)).map V.str ∧ ∀ x ∈ xs, ascii x
  | _, _, xs, .nil, h => by cases h; exact ⟨rfl, by simp⟩
  | d :: ds, _, xs, .cons hd q, h => by
    unfold Mi.dStrs at h
    split at h
    · cases ‹_ :: _ = []›
    · rename_i x r0 e
      cases e
      split at h
      · rename_i ys e1
        cases h
        obtain ⟨e2, a2⟩ := q.dStrs e1
        obtain ⟨e3, a3⟩ := hd.str_inv
        subst e2 e3
        refine ⟨rfl, fun x hx => ?_⟩
        rcases List.mem_cons.mp hx with e | hx
        · subst e; exact a3
        · exact a2 x hx
      · cases h
    · cases h
theorem join_eqL (sep : List Nat) : ∀ xs : List (List Nat), Str.join ⟨sep.toArray⟩ (xs.map fun x => ⟨x.toArray⟩) = ⟨(joinL sep xs).toArray⟩
  | [] => rfl
  | [x] => by simp [joinL, Str.join]
  | x :: y :: r => by
    have ih := join_eqL sep (y :: r)
    simp only [List.map_cons] at ih ⊢
    simp only [Str.join, joinL]
    have e : Str.join ⟨sep.toArray⟩ (Str.mk y.toArray :: List.map (fun x => Str.mk x.toArray) r) = _ := ih
    rw [e, str_append, str_append]
theorem ascii_join {sep : List Nat} (hs : ascii sep) : ∀ {xs : List (List Nat)}, (∀ x ∈ xs, ascii x) → ascii (joinL sep xs)
  | [], _ => by intro c h; cases h
  | [x], h => h x (by simp)
  | x :: y :: r, h => ascii_append (ascii_append (h x (by simp)) hs) (ascii_join hs fun z hz => h z (List.mem_cons_of_mem _ hz))
theorem sum_sumLen : ∀ xs : List (List Nat), ((xs.map fun x => (⟨x.toArray⟩ : Str)).map (·.length)).sum = sumLen xs
  | [] => rfl
  | x :: r => by
    have := sum_sumLen r
    simp only [List.map_cons, List.sum_cons, sumLen, this]
    simp [Str.length]
def joinM : FM := fun T x ds S => match x, ds with
  | .p (.str sep), [y] => match S.seq y with
    | some ys => match dStrs ys with
      | some xs => if sumLen xs + xs.length * sep.length ≤ 16777216 then some (pstr (joinL sep xs), S) else none
      | none => none
    | none => none
  | _, _ => none
theorem mr_join (hK : X.K = G.K) : MRule X wr0 G "join" ["str"] joinM := by
  intro T hT
  cases List.mem_singleton.mp hT
  refine ⟨_, F.plainAttrs_str, F.slot_str_join, F.type_str_join, fun pins s σ H x vs v us Q I rx rv h => ?_⟩
  obtain ⟨r, S, dx, ds, d, S', hs, hx, hds, hf, he⟩ := h
  unfold joinM at hf
  split at hf
  · rename_i sep y
    split at hf
    · rename_i ys h1
      split at hf
      · rename_i xs h2
        split at hf
        · rename_i hz
          cases hf
          obtain ⟨e1, a1⟩ := hx.str_inv
          subst e1
          cases hds with
          | cons hy q =>
            cases q
            obtain ⟨a, ws, rfl, hsq, q1⟩ := hs.seq hy h1
            obtain ⟨e2, a2⟩ := q1.dStrs h2
            subst e2
            refine mt_join pins s σ H _ _ v us Q I rx rv ⟨_, a, _, rfl, rfl, by rw [hK]; exact hsq, ?_, ?_⟩
            · rw [sum_sumLen, List.length_map]
              simpa [Str.length] using hz
            · rw [TL.join_eq, join_eqL]
              exact he.here hs (.str (ascii_join a1 a2))
        · cases hf
      · cases hf
    · cases hf
  · cases hf

/-! ### dict.get -/
def dgetM : FM := fun T x ds S => match x, ds with
  | .ref n, [k] => match S.get n with
    | some (.dct kvs) => if dKind kvs k = true then some ((dFind kvs k).getD pnon, S) else none
    | some (.fzd kvs) => if dKind kvs k = true ∧ kvs ≠ [] then some ((dFind kvs k).getD pnon, S) else none
    | _ => none
  | .ref n, [k, z] => match S.get n with
    | some (.dct kvs) => if dKind kvs k = true then some ((dFind kvs k).getD z, S) else none
    | some (.fzd kvs) => if dKind kvs k = true ∧ kvs ≠ [] then some ((dFind kvs k).getD z, S) else none
    | _ => none
  | _, _ => none
theorem ORel.getD {r : List Addr} {K : PySem.W.Frag} {H : Hp} {a : Option D} {b : Option V} {d : D} {v : V} (h : ORel r K H a b) (hd : Rep r K H d v) : Rep r K H (a.getD d) (b.getD v) := by
  cases a with
  | none => cases b with
    | none => exact hd
    | some _ => exact h.elim
  | some x => cases b with
    | none => exact h.elim
    | some _ => exact h
theorem RelS.ref_at {r : List Addr} {K : PySem.W.Frag} {H : Hp} {n : Nat} {v : V} (h : Rep r K H (.ref n) v) : ∃ a, v = .ref a ∧ r[n]? = some a := by
  cases h with
  | ref h => exact ⟨_, rfl, h⟩
theorem sdict_fz {S : Sto} {n : Nat} {kvs : List (D × D)} (h : S.get n = some (.fzd kvs)) : S.dict (.ref n) = some kvs := by unfold Sto.dict; simp only [h]
theorem mr_dget (hu : X.A.units + 1 < cLine) : MRule X wr0 G "get" ["dict"] dgetM := by
  intro T hT
  cases List.mem_singleton.mp hT
  refine ⟨_, F.plainAttrs_dict, F.slot_dict_get, F.type_dict_get, fun pins s σ H x vs v us Q I rx rv h => ?_⟩
  obtain ⟨r, S, dx, ds, d, S', hs, hx, hds, hf, he⟩ := h
  unfold dgetM at hf
  split at hf
  · rename_i n k
    obtain ⟨a, rfl, ha⟩ := RelS.ref_at hx
    cases rx
    cases hds with
    | cons hk q =>
      cases q
      obtain ⟨u, rfl, ru⟩ := rv.one
      split at hf
      · rename_i kvs hg
        split at hf
        · rename_i hkd
          cases hf
          obtain ⟨H', o, rt, s1, g, ho⟩ := dict_get hs ha hg hkd hk
          exact d_get1 hu (I.retag rt) g ru fun w' s' I' rw' => ⟨_, H', I', rw', he r H' _ (List.prefix_refl _) s1 rt.kp (ho.getD (.p .non))⟩
        · cases hf
      · rename_i kvs hg
        split at hf
        · rename_i hkd
          cases hf
          obtain ⟨a', o, e, g, ho⟩ := dict_getR hs hx (sdict_fz hg) hkd.1 hkd.2 hk
          cases e
          exact d_get1 hu I g ru fun w' s' I' rw' => ⟨_, H, I', rw', he.here hs (ho.getD (.p .non))⟩
        · cases hf
      · cases hf
  · rename_i n k z
    obtain ⟨a, rfl, ha⟩ := RelS.ref_at hx
    cases rx
    cases hds with
    | cons hk q =>
      cases q with
      | cons hz q =>
        cases q
        obtain ⟨u, u2, rfl, ru, ru2⟩ := rv.two
        split at hf
        · rename_i kvs hg
          split at hf
          · rename_i hkd
            cases hf
            obtain ⟨H', o, rt, s1, g, ho⟩ := dict_get hs ha hg hkd hk
            exact d_get2 hu (I.retag rt) g ru ru2 fun w' s' I' rw' => ⟨_, H', I', rw', he r H' _ (List.prefix_refl _) s1 rt.kp (ho.getD (hz.mono rt.kp (List.prefix_refl _)))⟩
          · cases hf
        · rename_i kvs hg
          split at hf
          · rename_i hkd
            cases hf
            obtain ⟨a', o, e, g, ho⟩ := dict_getR hs hx (sdict_fz hg) hkd.1 hkd.2 hk
            cases e
            exact d_get2 hu I g ru ru2 fun w' s' I' rw' => ⟨_, H, I', rw', he.here hs (ho.getD hz)⟩
          · cases hf
        · cases hf
  · cases hf

/-! ### dict displays -/
def mDnew : EM D := fun _ S => .ok (.ref S.len) (S.push (.dct []))
theorem q_dnew {pos : Pos} : PE X (.Dict [] [] pos) (TEm wr0 G W mDnew) := by
  refine PE.wk pe_dnewK fun sg H Q h => ?_
  obtain ⟨r, st, S, he, hs, hr⟩ := h
  exact End.newDct (S := S) hr hs (kvs := []) (u := .dK []) (.inl ⟨[], rfl, .nil⟩)
def mPairs : List (EM D × EM D) → EM (List (D × D))
  | [] => fun _ S => .ok [] S
  | (k, v) :: r => fun st S => (k st S).bind fun x S1 => (v st S1).bind fun y S2 => (mPairs r st S2).bind fun l S3 => .ok ((x, y) :: l) S3
def dPuts (kvs : List (D × D)) (l : List (D × D)) : List (D × D) := l.foldl (fun acc p => dPut acc p.1 p.2) kvs
def mDisp (ps : List (EM D × EM D)) : EM D := fun st S => (mPairs ps st (S.push (.dct []))).bind fun l S1 => match S1.get S.len with
  | some (.dct []) => if (l.all fun p => (keyP p.1).isSome) = true ∧ l.length ≤ 15 then .ok (.ref S.len) (S1.set S.len (.dct (dPuts [] l))) else .stuck
  | _ => .stuck
def RPs (r : List Addr) (G : Pd) (H : Hp) (a : List (D × D)) (b : List (V × V)) : Prop := Paired (fun p q => Rep r G.K H p.1 q.1 ∧ Rep r G.K H p.2 q.2) a b
theorem tm_pairs : ∀ {ps : List (EM D × EM D)} {sg : L2.St} {H : Hp} {Q : List (V × V) → Hp → Prop}, Tm wr0 G W (fun r H a b => RPs r G H a b) (mPairs ps) sg H Q → tPairs (ps.map fun p => (TEm wr0 G W p.1, TEm wr0 G W p.2)) sg H Q
  | [], sg, H, Q, h => by
    obtain ⟨r, st, S, he, hs, hr⟩ := h
    exact hr r H [] (List.prefix_refl _) hs Kp.refl .nil
  | (k, v) :: ps, sg, H, Q, h => by
    obtain ⟨r, st, S, he, hs, hr⟩ := h
    refine ⟨r, st, S, he, hs, (Run.bind (R := RD G) he hr).imp ?_⟩
    rintro x H1 ⟨r1, dx, S1, e1, k1, he1, hs1, hx, hr1⟩
    refine ⟨r1, st, S1, he1, hs1, (Run.bind (R := RD G) he1 hr1).imp ?_⟩
    rintro y H2 ⟨r2, dy, S2, e2, k2, he2, hs2, hy, hr2⟩
    refine tm_pairs (ps := ps) ⟨r2, st, S2, he2, hs2, (Run.bind (R := fun r H a b => RPs r G H a b) he2 hr2).imp ?_⟩
    rintro l H3 ⟨r3, dl, S3, e3, k3, he3, hs3, hl, hr3⟩
    exact hr3 r3 H3 _ (List.prefix_refl _) hs3 Kp.refl (.cons ⟨hx.mono (k2.trans k3) (e2.trans e3), hy.mono k3 e3⟩ hl)
theorem mergeK_rep {r : List Addr} {K : PySem.W.Frag} {H : Hp} : ∀ {l : List (D × D)} {ps : List (V × V)} {kvs : List (D × D)} {ks : List (Key × V)}, Paired (fun (p : D × D) (q : V × V) => Rep r K H p.1 q.1 ∧ Rep r K H p.2 q.2) l ps → (l.all fun p => (keyP p.1).isSome) = true → KVs r K H kvs ks →
    ∃ more : List (Key × V), ps = more.map (fun kv => (kV kv.1, kv.2)) ∧ KVs r K H (dPuts kvs l) (mergeK ks more)
  | _, _, kvs, ks, .nil, _, hk => ⟨[], rfl, hk⟩
  | (d1, d2) :: l, (v1, v2) :: ps, kvs, ks, .cons h t, ha, hk => by
    rw [List.all_cons, Bool.and_eq_true] at ha
    obtain ⟨k', e⟩ := Option.isSome_iff_exists.mp ha.1
    obtain ⟨e1, ok⟩ := h.1.keyP e
    have hk' := kv_put keyP keyP_inj e ok h.2 hk
    obtain ⟨more, e2, z⟩ := mergeK_rep t ha.2 hk'
    refine ⟨(k', v2) :: more, ?_, z⟩
    simp only at e1
    rw [e1, e2]
    rfl
theorem q_disp {pos : Pos} {keys : List (Option Expr)} {values : List Expr} {ps : List (EM D × EM D)} (h : PPs X pos keys values (ps.map fun p => (TEm wr0 G W p.1, TEm wr0 G W p.2))) (hall : keys.all (·.isSome) = true) (hl : keys.length = values.length) (h0 : keys ≠ [])
    (h15 : keys.length ≤ 15) : PE X (.Dict keys values pos) (TEm wr0 G W (mDisp ps)) := by
  constructor
  rintro pins s σ H Q I ⟨r, st, S, he, hs, hr⟩
  have hp := I.hok.fresh (Nat.le_refl s.heap.objs.size)
  have new := dk_empty (P := X.prog) (w := X.w) (H := upd H s.heap.objs.size (.dK [])) s.heap I.big
  have I1 := I.laid (t' := s.toks) (fun b u q => Heap.get?_push_of_some _ q) (Nat.le_refl s.heap.objs.size) new
  generalize hpe : s.heap.objs.size = p at hp I1
  have k0 : Kp H (upd H p (.dK [])) := Kp.new hp
  have s1 : RelS wr0 (r ++ [p]) G.K (upd H p (.dK [])) (S.push (.dct [])) := hs.push (o := .dct []) hp ⟨_, upd_same, .inl ⟨[], rfl, .nil⟩⟩ (Nat.zero_le _)
  have he1 := he.mono k0 (List.prefix_append r [p])
  have hq1 := tm_pairs ⟨r ++ [p], st, _, he1, s1, Run.bind (R := fun r H a b => RPs r G H a b) he1 (hr.shift (List.prefix_append r [p]) k0)⟩
  refine wpAny_Dict_walk (knd := mixKind X.prog X.w) hall hl h0 h15 (thn (h.run pins _ σ _ _ I1 hq1) fun ws s2 hh => ?_)
  obtain ⟨vps, H2, I2, rel, r2, dl, S2, e2, k2, he2, hs2, hl2, hr2⟩ := hh
  have hpr : r2[S.len]? = some p := by
    obtain ⟨t, rfl⟩ := e2
    have := hs.len
    rw [List.append_assoc, List.getElem?_append_right (by omega), this]
    simp
  split at hr2
  · rename_i hg
    split at hr2
    · rename_i hc
      obtain ⟨H3, rt, hs3, hK⟩ : ∃ H3, Retag H2 p H3 ∧ RelS wr0 r2 G.K H3 S2 ∧ H3 p = some (.dK []) := by
        obtain ⟨o, ho, hrep⟩ := hs2.at hpr
        rw [hg] at ho
        cases ho
        obtain ⟨u, hu, hd⟩ := hrep
        rcases hd with ⟨ks, rfl, hd⟩ | ⟨ks, rfl, hd⟩
        · cases hd
          exact ⟨H2, .inl rfl, hs2, hu⟩
        · cases hd
          have rt : Retag H2 p (upd H2 p (.dK [])) := .inr (.inr ⟨hu, rfl⟩)
          exact ⟨_, rt, hs2.retag hpr hg rt, upd_same⟩
      have I3 := I2.retag rt
      have hl3 : Paired (fun (p : D × D) (q : V × V) => Rep r2 G.K H3 p.1 q.1 ∧ Rep r2 G.K H3 p.2 q.2) dl vps := paired_mono hl2 fun _ _ q => ⟨q.1.mono rt.kp (List.prefix_refl _), q.2.mono rt.kp (List.prefix_refl _)⟩
      obtain ⟨more, em, hm⟩ := mergeK_rep hl3 hc.1 (kvs := []) (ks := []) .nil
      subst em
      obtain ⟨rs, c, rk⟩ := carries_of rel
      obtain ⟨z, hd, vs0, r0, dd⟩ := dk_of I3.hok hK
      cases r0
      rw [hpe]
      refine ⟨rs, c, dd, fun h' dd' hs' => ⟨.ref p, upd H3 p (.dK (mergeK [] more)), ?_, rfl, ?_⟩⟩
      · have hz : (mergeK [] more).length ≤ sizeLine := by
          have h1 := length_mergeK more []
          have h2 := Paired.length hl3
          rw [List.length_nil] at h1
          rw [List.length_map] at h2
          rw [sizeLine_eq]; omega
        have he : ∃ q, h'.get? p = some q := let ⟨q, _, _, hq, _⟩ := dd'; ⟨q, hq⟩
        exact d_write I3 (by rw [hK]; exact True.intro) hs' he (dk_new hz hd (rk.merge .nil) dd')
      · have k3 : Kp H3 (upd H3 p (.dK (mergeK [] more))) := Kp.upd fun xs hu q => by rw [hK] at q; cases q; exact hu
        refine hr2 r2 _ _ (List.prefix_refl _) (hs3.set hg hpr ⟨_, upd_same, .inl ⟨_, rfl, ?_⟩⟩) (rt.kp.trans k3) (.ref hpr)
        exact paired_mono hm fun _ _ q => ⟨q.1, q.2.1, q.2.2.mono k3 (List.prefix_refl _)⟩
    · exact hr2.elim
  · exact hr2.elim
end
end Mi
set_option Elab.async false
set_option linter.all false
set_option maxRecDepth 100000
set_option maxHeartbeats 4000000
/-! Mi9: statements: what they run as. -/
namespace Mi
open PySem PySem.Spec PyProof.Rows L2

inductive Out where
  | nx (st : Env) (S : Sto) | rt (d : D) (S : Sto) | bk (st : Env) (S : Sto) | ct (st : Env) (S : Sto) | exc (x : Exc) (st : Env) (S : Sto) | stuck
abbrev SM := Env → Sto → Out
def sbind {α : Type} (r : Res α) (st : Env) (f : α → Sto → Out) : Out := match r with
  | .ok a S => f a S
  | .exc x S => .exc x st S
  | .stuck => .stuck
@[simp] theorem sbind_ok {α : Type} (a : α) (S : Sto) (st : Env) (f : α → Sto → Out) : sbind (.ok a S) st f = f a S := rfl
@[simp] theorem sbind_exc {α : Type} (x : Exc) (S : Sto) (st : Env) (f : α → Sto → Out) : sbind (.exc x S) st f = .exc x st S := rfl
@[simp] theorem sbind_stuck {α : Type} (st : Env) (f : α → Sto → Out) : sbind .stuck st f = .stuck := rfl

section
variable (wr0 : List (Nat × Nat)) (G : Pd) (W : WX) (r0 : List Addr) (H0 : Hp)
def NxOk (st : Env) (S : Sto) (Q : L2.St → Hp → Prop) : Prop := ∀ r' H' σ', r0 <+: r' → Kp H0 H' → RelE r' G.K H' σ' st → RelS wr0 r' G.K H' S → Q σ' H'
def ROut (o : Out) (D : Ends) : Prop := match o with
  | .nx st S => NxOk wr0 G r0 H0 st S D.nx
  | .bk st S => NxOk wr0 G r0 H0 st S D.bk
  | .ct st S => NxOk wr0 G r0 H0 st S D.ct
  | .rt d S => ∀ r' H' v, r0 <+: r' → Kp H0 H' → RelS wr0 r' G.K H' S → Rep r' G.K H' d v → D.rt v H'
  | .exc x st S => ∀ r' H' σ' cls da, r0 <+: r' → Kp H0 H' → RelE r' G.K H' σ' st → RelS wr0 r' G.K H' S → ExcRep r' G H' x cls da → W cls da σ' H'
  | .stuck => False
def TSm (m : SM) : TS := fun D σ H => ∃ r st S, r0 <+: r ∧ Kp H0 H ∧ RelE r G.K H σ st ∧ RelS wr0 r G.K H S ∧ ROut wr0 G W r0 H0 (m st S) D
end
def SOk (X : Cx) (wr0 : List (Nat × Nat)) (G : Pd) (W : WX) (s : Stmt) (m : SM) : Prop := ∀ r0 H0, PS X s (TSm wr0 G W r0 H0 m)
def BOk (X : Cx) (wr0 : List (Nat × Nat)) (G : Pd) (W : WX) (ss : List Stmt) (m : SM) : Prop := ∀ r0 H0, PSs X ss (TSm wr0 G W r0 H0 m)

section
variable {X : Cx} {wr0 : List (Nat × Nat)} {G : Pd} {W : WX} {k : Nat} {a b c e : Expr} {es : List Expr} {ma mb mc : EM D} {pos : Pos} {r0 r : List Addr} {H0 H : Hp} {st : Env} {S : Sto} {σ : L2.St}
/-- an expression at a statement's head -/
theorem ROut.bind {α β : Type} {R : List Addr → Hp → α → β → Prop} {m : Res α} {f : α → Sto → Out} {D : Ends} (e0 : r0 <+: r) (k0 : Kp H0 H) (he : RelE r G.K H σ st) (h : ROut wr0 G W r0 H0 (sbind m st f) D) :
    Run wr0 G W R r σ H m fun b H1 => ∃ r1 a S1, r <+: r1 ∧ r0 <+: r1 ∧ Kp H H1 ∧ Kp H0 H1 ∧ RelE r1 G.K H1 σ st ∧ RelS wr0 r1 G.K H1 S1 ∧ R r1 H1 a b ∧ ROut wr0 G W r0 H0 (f a S1) D := by
  cases m with
  | ok a S => exact fun r' H' b e' s' k' q => ⟨r', a, S, e', e0.trans e', k', k0.trans k', he.mono k' e', s', q, h⟩
  | exc x S => exact fun r' H' cls da e' s' k' q => h r' H' σ cls da (e0.trans e') (k0.trans k') (he.mono k' e') s' q
  | stuck => exact h
theorem ROut.mono {o : Out} {D : Ends} {r1 : List Addr} {H1 : Hp} (e : r0 <+: r1) (k : Kp H0 H1) (h : ROut wr0 G W r0 H0 o D) : ROut wr0 G W r1 H1 o D := by
  cases o with
  | nx st S => exact fun r' H' σ' e' k' => h r' H' σ' (e.trans e') (k.trans k')
  | bk st S => exact fun r' H' σ' e' k' => h r' H' σ' (e.trans e') (k.trans k')
  | ct st S => exact fun r' H' σ' e' k' => h r' H' σ' (e.trans e') (k.trans k')
  | rt d S => exact fun r' H' v e' k' => h r' H' v (e.trans e') (k.trans k')
  | exc x st S => exact fun r' H' σ' c d e' k' => h r' H' σ' c d (e.trans e') (k.trans k')
  | stuck => exact h

/-! ### blocks -/
def sNil : SM := fun st S => .nx st S
def sSeq (m n : SM) : SM := fun st S => match m st S with
  | .nx st1 S1 => n st1 S1
  | o => o
theorem k_nil : BOk X wr0 G W [] sNil := fun r0 H0 => PSs.wk pss_nil fun D σ H h => by
  obtain ⟨r, st, S, e0, k0, he, hs, hr⟩ := h
  exact hr r H σ e0 k0 he hs
theorem k_cons {s : Stmt} {ss : List Stmt} {m n : SM} (h1 : SOk X wr0 G W s m) (h2 : BOk X wr0 G W ss n) : BOk X wr0 G W (s :: ss) (sSeq m n) := fun r0 H0 => PSs.wk (pss_cons (h1 r0 H0) (h2 r0 H0)) fun D σ H h => by
  obtain ⟨r, st, S, e0, k0, he, hs, hr⟩ := h
  refine ⟨r, st, S, e0, k0, he, hs, ?_⟩
  unfold sSeq at hr
  cases hm : m st S with
  | nx st1 S1 =>
    rw [hm] at hr
    exact fun r' H' σ' e' k' he' hs' => ⟨r', st1, S1, e', k', he', hs', hr⟩
  | _ => rw [hm] at hr; exact hr
theorem s_pass : SOk X wr0 G W (.Pass pos) sNil := fun r0 H0 => PS.wk ps_pass fun D σ H h => by
  obtain ⟨r, st, S, e0, k0, he, hs, hr⟩ := h
  exact hr r H σ e0 k0 he hs
def sBreak : SM := fun st S => .bk st S
theorem s_break : SOk X wr0 G W (.Break pos) sBreak := fun r0 H0 => PS.wk ps_break fun D σ H h => by
  obtain ⟨r, st, S, e0, k0, he, hs, hr⟩ := h
  exact hr r H σ e0 k0 he hs
def sCont : SM := fun st S => .ct st S
theorem s_cont : SOk X wr0 G W (.Continue pos) sCont := fun r0 H0 => PS.wk ps_continue fun D σ H h => by
  obtain ⟨r, st, S, e0, k0, he, hs, hr⟩ := h
  exact hr r H σ e0 k0 he hs
def sExpr (a : EM D) : SM := fun st S => sbind (a st S) st fun _ S1 => .nx st S1
theorem s_expr (ha : PE X e (TEm wr0 G W ma)) (hn : noComp e = true) : SOk X wr0 G W (.Expr e pos) (sExpr ma) := fun r0 H0 => PS.wk (ps_expr ha (noComp_swap hn none _ X.env)) fun D σ H h => by
  obtain ⟨r, st, S, e0, k0, he, hs, hr⟩ := h
  refine ⟨r, st, S, he, hs, (ROut.bind (R := RD G) e0 k0 he hr).imp ?_⟩
  rintro x H1 ⟨r1, d, S1, e1, e2, k1, k2, he1, hs1, hx, hr1⟩
  exact hr1 r1 H1 σ e2 k2 he1 hs1
def sRet (a : EM D) : SM := fun st S => sbind (a st S) st fun d S1 => .rt d S1
theorem s_ret (ha : PE X e (TEm wr0 G W ma)) : SOk X wr0 G W (.Return (some e) pos) (sRet ma) := fun r0 H0 => PS.wk (ps_ret ha) fun D σ H h => by
  obtain ⟨r, st, S, e0, k0, he, hs, hr⟩ := h
  refine ⟨r, st, S, he, hs, (ROut.bind (R := RD G) e0 k0 he hr).imp ?_⟩
  rintro x H1 ⟨r1, d, S1, e1, e2, k1, k2, he1, hs1, hx, hr1⟩
  exact hr1 r1 H1 x e2 k2 hs1 hx
def sRetN : SM := fun _ S => .rt pnon S
theorem s_retN : SOk X wr0 G W (.Return none pos) sRetN := fun r0 H0 => PS.wk ps_retN fun D σ H h => by
  obtain ⟨r, st, S, e0, k0, he, hs, hr⟩ := h
  exact hr r H _ e0 k0 hs (.p .non)
def sIf (t : EM Bool) (m n : SM) : SM := fun st S => sbind (t st S) st fun k S1 => if k = true then m st S1 else n st S1
theorem s_if {t : EM Bool} {ps qs : List Stmt} {m n : SM} (hc : PT X c (TTm wr0 G W t)) (h1 : BOk X wr0 G W ps m) (h2 : BOk X wr0 G W qs n) : SOk X wr0 G W (.If c ps qs pos) (sIf t m n) := fun r0 H0 => PS.wk (ps_if hc (h1 r0 H0) (h2 r0 H0)) fun D σ H h => by
  obtain ⟨r, st, S, e0, k0, he, hs, hr⟩ := h
  refine ⟨r, st, S, he, hs, (ROut.bind (R := RB) e0 k0 he hr).imp ?_⟩
  rintro x H1 ⟨r1, d, S1, e1, e2, k1, k2, he1, hs1, hx, hr1⟩
  cases hx
  cases x with
  | true => exact ⟨r1, st, S1, e2, k2, he1, hs1, hr1⟩
  | false => exact ⟨r1, st, S1, e2, k2, he1, hs1, hr1⟩
def isLocal (sc : Scope) (x : Str) : Bool := match sc.names.lookup x with
  | some .local => true
  | _ => false
theorem isLocal_of {sc : Scope} {x : Str} (h : isLocal sc x = true) : sc.names.lookup x = some .local := by
  unfold isLocal at h
  split at h
  · assumption
  · cases h
/-- a name that may be stored here -/
abbrev StOk (X : Cx) (x : Str) : Prop := Loc X.env.scope x ∧ (X.fn x = true ∨ X.env.scope.names.lookup x = some .local)
def isSt (sc : Scope) (fn : Str → Bool) (x : Str) : Bool := match sc.names.lookup x with
  | some .local => true
  | some .cell => fn x
  | _ => false
theorem isSt_of {x : Str} (h : isSt X.env.scope X.fn x = true) : StOk X x := by
  unfold isSt at h
  split at h
  · rename_i e; exact ⟨.inl e, .inr e⟩
  · rename_i e; exact ⟨.inr e, .inl h⟩
  · cases h
def sSet (i : Nat) (a : EM D) : SM := fun st S => sbind (a st S) st fun d S1 => .nx (st.set i (some d)) S1
theorem tm_set {i : Nat} {r0 : List Addr} {H0 : Hp} {D : Ends} {σ : L2.St} {H : Hp} (h : TSm wr0 G W r0 H0 (sSet i ma) D σ H) : tAsg (TEm wr0 G W ma) (gName i) D σ H := by
  obtain ⟨r, st, S, e0, k0, he, hs, hr⟩ := h
  refine ⟨r, st, S, he, hs, (ROut.bind (R := RD G) e0 k0 he hr).imp ?_⟩
  rintro x H1 ⟨r1, d, S1, e1, e2, k1, k2, he1, hs1, hx, hr1⟩
  exact hr1 r1 H1 _ e2 k2 (he1.set hx) hs1
theorem s_set {i : Nat} {x : Str} {pos' : Pos} (hN : X.N.Nodup) (hi : X.N[i]? = some x) (hx : StOk X x) (ha : PE X e (TEm wr0 G W ma)) (hn : swapsWith e (some (.Name x pos')) pos.line X.env = pure false) : SOk X wr0 G W (.Assign [.Name x pos'] e pos) (sSet i ma) := fun r0 H0 =>
  PS.wk (ps_set hN hi hx.1 ha hn hx.2) fun D σ H h => tm_set h

/-! ### targets -/
abbrev GM := D → Env → Option Env
/-- a target that is a name or a tuple of targets -/
inductive Tg where
  | nm (i : Nat) | tup (ts : List Tg)
mutual
def Tg.put : Tg → D → Env → Option Env
  | .nm i, d, st => some (st.set i (some d))
  | .tup ts, d, st => match d.items with
    | some xs => if xs.length = ts.length then Tg.puts ts xs st else none
    | none => none
def Tg.puts : List Tg → List D → Env → Option Env
  | [], [], st => some st
  | t :: ts, x :: xs, st => match Tg.put t x st with
    | some st1 => Tg.puts ts xs st1
    | none => none
  | _, _, _ => none
end
mutual
def Tg.slots : Tg → List Nat
  | .nm i => [i]
  | .tup ts => Tg.slotsL ts
def Tg.slotsL : List Tg → List Nat
  | [] => []
  | t :: ts => Tg.slots t ++ Tg.slotsL ts
end
/-- the same but for some slots -/
def Same (sl : List Nat) (σ σ' : L2.St) : Prop := σ'.length = σ.length ∧ ∀ j, j ∉ sl → σ'[j]? = σ[j]?
theorem Same.refl {sl : List Nat} {σ : L2.St} : Same sl σ σ := ⟨rfl, fun _ _ => rfl⟩
theorem Same.trans {sl : List Nat} {a b c : L2.St} (x : Same sl a b) (y : Same sl b c) : Same sl a c := ⟨y.1.trans x.1, fun j h => (y.2 j h).trans (x.2 j h)⟩
theorem Same.mono {sl sm : List Nat} {a b : L2.St} (x : Same sl a b) (h : ∀ j ∈ sl, j ∈ sm) : Same sm a b := ⟨x.1, fun j hj => x.2 j fun z => hj (h j z)⟩
section
variable (wr0 : List (Nat × Nat)) (G : Pd)
/-- what a store into a target must bring -/
def TGm (t : Tg) : TG := fun v σ H Q => ∃ r d st S st', RelE r G.K H σ st ∧ RelS wr0 r G.K H S ∧ Rep r G.K H d v ∧ t.put d st = some st' ∧ ∀ σ', RelE r G.K H σ' st' → Same t.slots σ σ' → Q σ' H
def TGsm (ts : List Tg) : TGs := fun vs σ H Q => ∃ r ds st S st', RelE r G.K H σ st ∧ RelS wr0 r G.K H S ∧ Reps r G.K H ds vs ∧ Tg.puts ts ds st = some st' ∧ ∀ σ', RelE r G.K H σ' st' → Same (Tg.slotsL ts) σ σ' → Q σ' H
end
theorem PG.wk {X : Cx} {e : Expr} {t t' : TG} (h : PG X e t) (f : ∀ v σ H Q, t' v σ H Q → t v σ H Q) : PG X e t' := ⟨fun pins s σ H v u Q I r q => h.run pins s σ H v u Q I r (f v σ H Q q)⟩
theorem PGs.wk {X : Cx} {e : List Expr} {t t' : TGs} (h : PGs X e t) (f : ∀ v σ H Q, t' v σ H Q → t v σ H Q) : PGs X e t' := ⟨fun pins s σ H v u Q I r q => h.run pins s σ H v u Q I r (f v σ H Q q)⟩
theorem g_name {i : Nat} {x : Str} (hN : X.N.Nodup) (hi : X.N[i]? = some x) (hx : StOk X x) : PG X (.Name x pos) (TGm wr0 G (.nm i)) :=
  PG.wk (pg_name hN hi hx.1 hx.2) fun v σ H Q h => by
    obtain ⟨r, d, st, S, st', he, hs, hd, hp, q⟩ := h
    cases hp
    exact q _ (he.set hd) ⟨by simp, fun j hj => List.getElem?_set_ne fun e => hj (by simp [Tg.slots, e])⟩
theorem gs_nil : PGs X [] (TGsm wr0 G []) := PGs.wk pgs_nil fun vs σ H Q h => by
  obtain ⟨r, ds, st, S, st', he, hs, hd, hp, q⟩ := h
  cases hd with
  | nil => cases hp; exact ⟨rfl, q _ he .refl⟩
  | cons _ _ => cases hp
theorem noStar_assign {e : Expr} (h : noStar e = true) (es : List Expr) (env : PySem.Env) : assignEach (e :: es) env = (false, assign e env) :: assignEach es env := by
  cases e <;> first | rfl | cases h
theorem gs_cons {t : Tg} {ts : List Tg} (h1 : PG X e (TGm wr0 G t)) (h2 : PGs X es (TGsm wr0 G ts)) (hn : noStar e = true) : PGs X (e :: es) (TGsm wr0 G (t :: ts)) :=
  PGs.wk (pgs_cons h1 h2 (by rw [noStar_assign hn]; rfl)) fun vs σ H Q h => by
    obtain ⟨r, ds, st, S, st', he, hs, hd, hp, q⟩ := h
    cases hd with
    | nil => cases hp
    | @cons d ds v vs hd hq =>
      simp only [Tg.puts] at hp
      split at hp
      · rename_i st1 h1
        refine ⟨v, vs, rfl, r, d, st, S, st1, he, hs, hd, h1, fun σ' he' sm => ?_⟩
        refine ⟨r, ds, st1, S, st', he', hs, hq, hp, fun σ2 he2 sm2 => q σ2 he2 ?_⟩
        exact (sm.mono fun j hj => by simp [Tg.slotsL, hj]).trans (sm2.mono fun j hj => by simp [Tg.slotsL, hj])
      · cases hp
theorem assignEach_len : ∀ {es : List Expr}, es.all noStar = true → ∀ env : PySem.Env, (assignEach es env).length = es.length ∧ (assignEach es env).findIdx? (·.1) = none
  | [], _, _ => ⟨rfl, rfl⟩
  | e :: es, h, env => by
    rw [List.all_cons, Bool.and_eq_true] at h
    rw [noStar_assign h.1]
    obtain ⟨h1, h2⟩ := assignEach_len h.2 env
    refine ⟨by simp [h1], ?_⟩
    rw [List.findIdx?_cons]
    simp [h2]
theorem puts_length : ∀ {ts : List Tg} {ds : List D} {st st' : Env}, Tg.puts ts ds st = some st' → ds.length = ts.length
  | [], [], _, _, _ => rfl
  | [], _ :: _, _, _, h => by cases h
  | _ :: _, [], _, _, h => by cases h
  | t :: ts, d :: ds, st, st', h => by
    simp only [Tg.puts] at h
    split at h
    · simp [puts_length h]
    · cases h
theorem g_tup {ts : List Tg} {kk : Nat} (hc : X.calm = true) (h : PGs X es (TGsm wr0 G ts)) (hn : es.all noStar = true) (hl : es.length = ts.length) : PG X (.Tuple es kk pos) (TGm wr0 G (.tup ts)) :=
  PG.wk (pg_tup hc h (n := ts.length) (by rw [(assignEach_len hn X.env).1, hl]) (assignEach_len hn X.env).2) fun v σ H Q h => by
    obtain ⟨r, d, st, S, st', he, hs, hd, hp, q⟩ := h
    simp only [Tg.put] at hp
    split at hp
    · rename_i xs hx
      split at hp
      · rename_i hlen
        obtain ⟨a, vs, rfl, ha, hq⟩ := hd.items hx
        exact ⟨a, vs, rfl, SqT.of ha, by rw [← hq.length]; exact hlen, r, xs, st, S, st', he, hs, hq, hp, q⟩
      · cases hp
    · cases hp
/-- target = e -/
def sAsg (t : Tg) (a : EM D) : SM := fun st S => sbind (a st S) st fun d S1 => match t.put d st with
  | some st' => .nx st' S1
  | none => .stuck
theorem s_asg {t : Tg} {tg : Expr} (ha : PE X e (TEm wr0 G W ma)) (hg : PG X tg (TGm wr0 G t)) (h1 : swapsWithSole [tg] e pos.line X.env = pure false) (h2 : swappedStores [tg] e X.env = pure none) (h3 : noStar tg = true) : SOk X wr0 G W (.Assign [tg] e pos) (sAsg t ma) := fun r0 H0 =>
  PS.wk (ps_asg ha hg h1 h2 (by rw [noStar_assign h3]; rfl)) fun D σ H h => by
    obtain ⟨r, st, S, e0, k0, he, hs, hr⟩ := h
    refine ⟨r, st, S, he, hs, (ROut.bind (R := RD G) e0 k0 he hr).imp ?_⟩
    rintro x H1 ⟨r1, d, S1, e1, e2, k1, k2, he1, hs1, hx, hr1⟩
    split at hr1
    · rename_i st' hp
      exact ⟨r1, d, st, S1, st', he1, hs1, hx, hp, fun σ' he' _ => hr1 r1 H1 σ' e2 k2 he' hs1⟩
    · exact hr1.elim
/-- a, b = x, y -/
def sPar (i j : Nat) (as : EM (List D)) : SM := fun st S => sbind (as st S) st fun ds S1 => match ds with
  | [d1, d2] => .nx ((st.set i (some d1)).set j (some d2)) S1
  | _ => .stuck
theorem s_par {i j : Nat} {x y : Str} {mas : EM (List D)} {px py pt : Pos} {kt k2 pt2} (hc : X.calm = true) (hN : X.N.Nodup) (hi : X.N[i]? = some x) (hj : X.N[j]? = some y) (hij : i ≠ j)
    (hx : isLocal X.env.scope x = true) (hy : isLocal X.env.scope y = true) (ha : PA X [a, b] (TAm wr0 G W mas))
    (hw : swappedStores [.Tuple [.Name x px, .Name y py] kt pt] (.Tuple [a, b] k2 pt2) X.env = pure (some [x, y]))
    (hs : swapsWithSole [.Tuple [.Name x px, .Name y py] kt pt] (.Tuple [a, b] k2 pt2) pos.line X.env = pure false) :
    SOk X wr0 G W (.Assign [.Tuple [.Name x px, .Name y py] kt pt] (.Tuple [a, b] k2 pt2) pos) (sPar i j mas) := fun r0 H0 =>
  PS.wk (ps_par hc hN hi hj hij (isLocal_of hx) (isLocal_of hy) ha hw hs) fun D σ H h => by
    obtain ⟨r, st, S, e0, k0, he, hs, hr⟩ := h
    refine ⟨r, st, S, he, hs, (ROut.bind (R := RDs G) e0 k0 he hr).imp ?_⟩
    rintro vs H1 ⟨r1, ds, S1, e1, e2, k1, k2, he1, hs1, hx, hr1⟩
    split at hr1
    · cases hx with
      | cons h1 q =>
        cases q with
        | cons h2 q =>
          cases q
          exact ⟨_, _, rfl, hr1 r1 H1 _ e2 k2 ((he1.set h1).set h2) hs1⟩
    · exact hr1.elim

/-! ### forgetting -/
def Sto.trim (S : Sto) (b : Nat) (st : Env) : Sto := if envTop st ≤ b ∧ S.cutOk b = true then S.cut b else S
def Out.trimNx (b : Nat) : Out → Out
  | .nx st S => .nx st (S.trim b st)
  | o => o
theorem trim_rel {b : Nat} (e : r0 <+: r) (hl : r0.length = b) (hw : ∀ q ∈ wr0, q.2 ≤ b) (he : RelE r G.K H σ st) (hs : RelS wr0 r G.K H S) : ∃ r', r0 <+: r' ∧ RelE r' G.K H σ st ∧ RelS wr0 r' G.K H (S.trim b st) := by
  unfold Sto.trim
  split
  · rename_i hc
    have hlen : b ≤ S.len := by
      rw [← hs.len, ← hl]
      exact e.length_le
    refine ⟨r.take b, ?_, he.cut hc.1, hs.cut hlen hc.2 hw⟩
    obtain ⟨t, rfl⟩ := e
    rw [← hl, List.take_left]
    exact List.prefix_refl _
  · exact ⟨r, e, he, hs⟩
theorem ROut.untrim {o : Out} {D : Ends} {b : Nat} {r1 : List Addr} {H1 : Hp} (e : r0 <+: r1) (k : Kp H0 H1) (hl : r1.length = b) (hw : ∀ q ∈ wr0, q.2 ≤ b) (h : ROut wr0 G W r0 H0 (o.trimNx b) D) : ROut wr0 G W r1 H1 o D := by
  cases o with
  | nx st S =>
    intro r' H' σ' e' k' he hs
    obtain ⟨r2, e2, he2, hs2⟩ := trim_rel e' hl hw he hs
    exact h r2 H' σ' (e.trans e2) (k.trans k') he2 hs2
  | bk st S => exact ROut.mono (o := .bk st S) e k h
  | ct st S => exact ROut.mono (o := .ct st S) e k h
  | rt d S => exact ROut.mono (o := .rt d S) e k h
  | exc x st S => exact ROut.mono (o := .exc x st S) e k h
  | stuck => exact h

/-! ### while -/
def wN (b0 : Nat) (c : EM Bool) (body : SM) : Nat → SM
  | 0 => fun _ _ => .stuck
  | n + 1 => fun st S => sbind (c st S) st fun k S1 => if k = true then match body st S1 with
      | .nx st2 S2 => wN b0 c body n st2 (S2.trim b0 st2)
      | .ct st2 S2 => wN b0 c body n st2 (S2.trim b0 st2)
      | .bk st2 S2 => .nx st2 (S2.trim b0 st2)
      | o => o else .nx st (S1.trim b0 st)
open Classical in
noncomputable def sWhileB (b0 : Nat) (c : EM Bool) (body : SM) : SM := fun st S => if h : ∃ n, wN b0 c body n st S ≠ .stuck then wN b0 c body (Classical.choose h) st S else .stuck
noncomputable def sWhile (c : EM Bool) (body : SM) : SM := fun st S => sWhileB S.len c body st S
theorem wN_mono {b0 : Nat} {c : EM Bool} {body : SM} : ∀ {n : Nat} {st : Env} {S : Sto}, wN b0 c body n st S ≠ .stuck → ∀ m, n ≤ m → wN b0 c body m st S = wN b0 c body n st S
  | 0, st, S, h, m, _ => absurd rfl h
  | n + 1, st, S, h, 0, hm => by omega
  | n + 1, st, S, h, m + 1, hm => by
    simp only [wN] at h ⊢
    cases hc : c st S with
    | ok k S1 =>
      rw [hc] at h
      simp only [sbind_ok] at h ⊢
      cases k with
      | true =>
        simp only [if_true] at h ⊢
        cases hb : body st S1 with
        | nx st2 S2 => rw [hb] at h; exact wN_mono h m (by omega)
        | ct st2 S2 => rw [hb] at h; exact wN_mono h m (by omega)
        | _ => rfl
      | false => rfl
    | exc x S1 => rfl
    | stuck => rfl
theorem sWhileB_of {b0 : Nat} {c : EM Bool} {body : SM} {n : Nat} {st : Env} {S : Sto} (h : wN b0 c body n st S ≠ .stuck) : sWhileB b0 c body st S = wN b0 c body n st S := by
  have hx : ∃ n, wN b0 c body n st S ≠ .stuck := ⟨n, h⟩
  unfold sWhileB
  rw [dif_pos hx]
  have h2 := Classical.choose_spec hx
  rcases Nat.le_total n (Classical.choose hx) with q | q
  · exact wN_mono h _ q
  · exact (wN_mono h2 _ q).symm
/-- how a loop goes on -/
theorem sWhileB_eq (b0 : Nat) (c : EM Bool) (body : SM) (st : Env) (S : Sto) : sWhileB b0 c body st S = sbind (c st S) st fun k S1 => if k = true then match body st S1 with
      | .nx st2 S2 => sWhileB b0 c body st2 (S2.trim b0 st2)
      | .ct st2 S2 => sWhileB b0 c body st2 (S2.trim b0 st2)
      | .bk st2 S2 => .nx st2 (S2.trim b0 st2)
      | o => o else .nx st (S1.trim b0 st) := by
  have key : ∀ st2 S2 (n : Nat), wN b0 c body n st2 S2 ≠ .stuck → sWhileB b0 c body st2 S2 = wN b0 c body n st2 S2 := fun st2 S2 n h => sWhileB_of h
  have none : ∀ st2 S2, (∀ n, wN b0 c body n st2 S2 = .stuck) → sWhileB b0 c body st2 S2 = .stuck := fun st2 S2 h => by
    unfold sWhileB
    rw [dif_neg]
    rintro ⟨n, hn⟩
    exact hn (h n)
  by_cases hx : ∃ n, wN b0 c body n st S ≠ .stuck
  · obtain ⟨n, hn⟩ := hx
    rw [key st S n hn]
    cases n with
    | zero => exact absurd rfl hn
    | succ n =>
      simp only [wN] at hn ⊢
      cases hc : c st S with
      | ok k S1 =>
        rw [hc] at hn
        simp only [sbind_ok] at hn ⊢
        cases k with
        | true =>
          simp only [if_true] at hn ⊢
          cases hb : body st S1 with
          | nx st2 S2 => rw [hb] at hn; exact (key _ _ n hn).symm
          | ct st2 S2 => rw [hb] at hn; exact (key _ _ n hn).symm
          | _ => rfl
        | false => rfl
      | exc x S1 => rfl
      | stuck => rfl
  · have hall : ∀ n, wN b0 c body n st S = .stuck := fun n => Classical.byContradiction fun h => hx ⟨n, h⟩
    rw [none st S hall]
    have h1 : ∀ n, wN b0 c body (n + 1) st S = .stuck := fun n => hall (n + 1)
    simp only [wN] at h1
    cases hc : c st S with
    | ok k S1 =>
      rw [hc] at h1
      simp only [sbind_ok] at h1 ⊢
      cases k with
      | true =>
        simp only [if_true] at h1 ⊢
        cases hb : body st S1 with
        | nx st2 S2 => rw [hb] at h1; exact (none _ _ h1).symm
        | ct st2 S2 => rw [hb] at h1; exact (none _ _ h1).symm
        | bk st2 S2 => rw [hb] at h1; exact absurd (h1 0) (by simp)
        | rt d S2 => rw [hb] at h1; exact absurd (h1 0) (by simp)
        | exc x st2 S2 => rw [hb] at h1; exact absurd (h1 0) (by simp)
        | stuck => rfl
      | false => exact absurd (h1 0) (by simp)
    | exc x S1 => rw [hc] at h1; exact absurd (h1 0) (by simp)
    | stuck => rfl
theorem s_while {t : EM Bool} {body : List Stmt} {m : SM} (hp : PassesOwn (model X.prog X.w) X.A X.env X.xe) (hc : PT X c (TTm wr0 G W t)) (hb : BOk X wr0 G W body m) : SOk X wr0 G W (.While c body [] pos) (sWhile t m) := by
  intro r0 H0
  refine ⟨fun pins s σ H D I h => ?_⟩
  obtain ⟨r, st, S, e0, k0, he, hs, hr⟩ := h
  refine (ps_while hp hc (hb r H)).run pins s σ H D I ?_
  have hne : sWhile t m st S ≠ .stuck := fun z => by rw [z] at hr; exact hr
  have hex : ∃ n, wN S.len t m n st S ≠ .stuck := by
    refine Classical.byContradiction fun h => hne ?_
    unfold sWhile sWhileB
    rw [dif_neg h]
  obtain ⟨n, hn⟩ := hex
  have e1 : sWhile t m st S = wN S.len t m n st S := sWhileB_of hn
  rw [e1] at hr
  have hl : r.length = S.len := hs.len
  have hw : ∀ q ∈ wr0, q.2 ≤ S.len := fun q hq => hs.wrb q (List.mem_append_right _ hq)
  refine ⟨fun j σ H' => ∃ r1 st1 S1, r <+: r1 ∧ Kp H H' ∧ RelE r1 G.K H' σ st1 ∧ RelS wr0 r1 G.K H' S1 ∧ ROut wr0 G W r0 H0 (wN S.len t m j st1 S1) D, ⟨n, r, st, S, List.prefix_refl _, Kp.refl, he, hs, hr⟩, ?_⟩
  rintro j σ1 H1 ⟨r1, st1, S1, e1, k1, he1, hs1, hr1⟩
  cases j with
  | zero => exact hr1.elim
  | succ j =>
    simp only [wN] at hr1
    refine ⟨r1, st1, S1, he1, hs1, (ROut.bind (R := RB) (e0.trans e1) (k0.trans k1) he1 hr1).imp ?_⟩
    rintro x H2 ⟨r2, d, S2, e2, e3, k2, k3, he2, hs2, hx, hr2⟩
    cases hx
    cases x with
    | false =>
      simp only [Bool.false_eq_true, if_false] at hr2 ⊢
      obtain ⟨r3, e4, he3, hs3⟩ := trim_rel (e1.trans e2) hl hw he2 hs2
      exact hr2 r3 H2 σ1 (e0.trans e4) k3 he3 hs3
    | true =>
      simp only [if_true] at hr2 ⊢
      refine ⟨_, fun σ' H' z => ⟨j, Nat.lt_succ_self j, z⟩, r2, st1, S2, e1.trans e2, k1.trans k2, he2, hs2, ?_⟩
      cases hbo : m st1 S2 with
      | nx st2 S3 =>
        rw [hbo] at hr2
        intro r3 H3 σ3 e5 k5 he5 hs5
        obtain ⟨r4, e6, he6, hs6⟩ := trim_rel e5 hl hw he5 hs5
        exact ⟨r4, st2, _, e6, k5, he6, hs6, hr2⟩
      | ct st2 S3 =>
        rw [hbo] at hr2
        intro r3 H3 σ3 e5 k5 he5 hs5
        obtain ⟨r4, e6, he6, hs6⟩ := trim_rel e5 hl hw he5 hs5
        exact ⟨r4, st2, _, e6, k5, he6, hs6, hr2⟩
      | bk st2 S3 =>
        rw [hbo] at hr2
        intro r3 H3 σ3 e5 k5 he5 hs5
        obtain ⟨r4, e6, he6, hs6⟩ := trim_rel e5 hl hw he5 hs5
        exact hr2 r4 H3 σ3 (e0.trans e6) (k0.trans k5) he6 hs6
      | rt d S3 => rw [hbo] at hr2; exact ROut.mono (o := .rt d S3) e0 k0 hr2
      | exc x st2 S3 => rw [hbo] at hr2; exact ROut.mono (o := .exc x st2 S3) e0 k0 hr2
      | stuck => rw [hbo] at hr2; exact hr2.elim
end
end Mi
set_option Elab.async false
set_option linter.all false
set_option maxRecDepth 100000
set_option maxHeartbeats 4000000
/-! Mi10: what loops walk; for; locks. -/
namespace Mi
open PySem PySem.Spec PyProof.Rows L2

/-- what is walked: the items, and what must be true of the store at each turn -/
structure ItR where
  xs : List D
  chk : Sto → Bool
def RIt (wr0 : List (Nat × Nat)) (G : Pd) (r1 : List Addr) (H1 : Hp) (a : ItR) (J : It) : Prop :=
  ∀ r' H' S', r1 <+: r' → Kp H1 H' → RelS wr0 r' G.K H' S' → a.chk S' = true → ∀ i,
    (∀ d, a.xs[i]? = some d → J.go i H' ∧ ∀ x H'', J.yld i H' x H'' → Kp H' H'' ∧ RelS wr0 r' G.K H'' S' ∧ Rep r' G.K H'' d x) ∧ (a.xs.length = i → J.stop i H')

section
variable {X : Cx} {wr0 : List (Nat × Nat)} {G : Pd} {W : WX} {k : Nat} {a b c e tg : Expr} {es : List Expr} {ma mb mc : EM D} {pos : Pos} {r0 r : List Addr} {H0 H : Hp} {st : Env} {S : Sto} {σ : L2.St}
/-- what is walked by a value -/
def walkD (d : D) (S : Sto) : Option ItR := match S.list d with
  | some xs => some ⟨xs, fun S' => decide (S'.list d = some xs)⟩
  | none => match d with
    | .p (.str x) => some ⟨x.map fun c => pstr [c], fun _ => true⟩
    | .p (.ktup xs) => some ⟨xs.map D.p, fun _ => true⟩
    | d => match d.items with
      | some xs => some ⟨xs, fun _ => true⟩
      | none => none
theorem Rep.ktup_inv {K : PySem.W.Frag} {xs : List P} {v : V} (h : Rep r K H (.p (.ktup xs)) v) : ∃ l vs, v = .ref l ∧ (∀ H', SqT K H' l vs) ∧ RepPs K H xs vs := by
  cases h with
  | p h => cases h with | ktup h1 h2 => exact ⟨_, _, rfl, h1, h2⟩
theorem sqT_inj {K : PySem.W.Frag} {H' : Hp} {l : Addr} {vs ys : List V} (h : ∀ H', SqT K H' l vs) (hy : SqT K H' l ys) (hn : ∀ u, H' l ≠ some u) : ys = vs := by
  have h1 := h H'
  rcases h1 with h1 | ⟨o, its, n, e1, e2, e3, e4, e5⟩
  · rcases h1 with h1 | ⟨ob, h1⟩ <;> exact absurd h1 (hn _)
  · rcases hy with hy | ⟨o', its', n', f1, f2, f3, f4, f5⟩
    · rcases hy with hy | ⟨ob, hy⟩ <;> exact absurd hy (hn _)
    · rw [e1] at f1
      cases f1
      rw [e3] at f3
      cases f3
      exact f5.inj e5
/-- a list yields its items, as long as it stands -/
theorem rit_list {d : D} {l : Addr} {xs : List D} (hd : Rep r G.K H d (.ref l)) : RIt wr0 G r H ⟨xs, fun S' => decide (S'.list d = some xs)⟩ (Itl G.K l) := by
  intro r' H' S' e' k' hs' hc i
  obtain ⟨l', vs, el, hrd, hq⟩ := hs'.list (hd.mono k' e') (of_decide_eq_true hc)
  cases el
  refine ⟨fun d hd => ?_, fun hi => ⟨vs, .inl hrd, by rw [← hq.length]; exact Nat.le_of_eq hi⟩⟩
  obtain ⟨x, hx, hr⟩ := hq.get hd
  refine ⟨⟨vs, x, .inl hrd, hx⟩, ?_⟩
  rintro y H'' ⟨rfl, hy⟩
  have z := hy vs (.inl hrd)
  rw [hx] at z
  cases z
  exact ⟨Kp.refl, hs', hr⟩
/-- a tuple yields its items -/
theorem rit_tup {l : Addr} {xs : List D} {vs : List V} (hl : H l = some (.tup vs)) (hq : Reps r G.K H xs vs) : RIt wr0 G r H ⟨xs, fun _ => true⟩ (Itt G.K l) := by
  intro r' H' S' e' k' hs' hc i
  have hl' := k'.tup hl
  refine ⟨fun d hd => ?_, fun hi => ⟨vs, SqT.of hl', by rw [← hq.length]; exact Nat.le_of_eq hi⟩⟩
  obtain ⟨x, hx, hr⟩ := (hq.mono k' e').get hd
  refine ⟨⟨vs, x, SqT.of hl', hx⟩, ?_⟩
  rintro y H'' ⟨rfl, hy⟩
  have z := hy vs (SqT.of hl')
  rw [hx] at z
  cases z
  exact ⟨Kp.refl, hs', hr⟩
/-- a text yields its signs -/
theorem rit_str {x : List Nat} (ha : ascii x) : RIt wr0 G r H ⟨x.map fun c => pstr [c], fun _ => true⟩ (Its ⟨x.toArray⟩) := by
  intro r' H' S' e' k' hs' hc i
  refine ⟨fun d hd => ?_, fun hi => by show x.toArray.size ≤ i; simpa using Nat.le_of_eq hi⟩
  rw [List.getElem?_map] at hd
  cases hx : x[i]? with
  | none => rw [hx] at hd; cases hd
  | some c =>
    rw [hx] at hd
    cases hd
    refine ⟨by show i < x.toArray.size; simpa using (List.getElem?_eq_some_iff.mp hx).1, ?_⟩
    rintro y H'' ⟨rfl, c', hc', rfl⟩
    have z : x.toArray[i]? = some c' := hc'
    simp only [List.getElem?_toArray, hx] at z
    cases z
    exact ⟨Kp.refl, hs', .str (x := [c]) fun q hq => by
      cases List.mem_singleton.mp hq
      exact ha c (List.mem_of_getElem? hx)⟩
def noK : D → Bool
  | .p (.ktup _) => false
  | _ => true
def iSeq (m : EM D) : EM ItR := fun st S => (m st S).bind fun d S1 => match walkD d S1 with
  | some a => if noK d = true then .ok a S1 else .stuck
  | none => .stuck
/-- what is known where a run ends well -/
theorem tm_ok {α β : Type} {R : List Addr → Hp → α → β → Prop} {m : EM α} {x : α} {S1 : Sto} {Q : β → Hp → Prop} (he : RelE r G.K H σ st) (hs : RelS wr0 r G.K H S) (hm : m st S = .ok x S1) (h : ∀ r1 H1 b, r <+: r1 → RelS wr0 r1 G.K H1 S1 → Kp H H1 → R r1 H1 x b → Q b H1) : Tm wr0 G W R m σ H Q :=
  ⟨r, st, S, he, hs, by rw [hm]; exact h⟩
theorem i_seq (hK : X.K = G.K) (ha : PE X e (TEm wr0 G W ma)) : PI X tg e (Tm wr0 G W (RIt wr0 G) (iSeq ma)) := by
  constructor
  rintro pins s σ H R I ⟨r, st, S, he, hs, hr⟩
  unfold iSeq at hr
  cases hm : ma st S with
  | stuck => rw [hm] at hr; exact hr.elim
  | exc x S1 =>
    rw [hm] at hr
    exact (pi_list ha).run pins s σ H R I ⟨r, st, S, he, hs, by rw [hm]; exact hr⟩
  | ok d S1 =>
    rw [hm] at hr
    simp only [Res.bind_ok] at hr
    split at hr
    · rename_i a hw
      split at hr
      · rename_i hk
        unfold walkD at hw
        split at hw
        · rename_i xs hl
          cases hw
          refine (pi_list ha).run pins s σ H R I (tm_ok he hs hm fun r1 H1 v e1 hs1 k1 hv => ?_)
          obtain ⟨l, vs, rfl, hrd, _⟩ := hs1.list hv hl
          rw [hK]
          exact ⟨l, rfl, ⟨vs, .inl hrd⟩, hr r1 H1 _ e1 hs1 k1 (rit_list hv)⟩
        · split at hw
          · rename_i x _
            cases hw
            refine (pi_str ha).run pins s σ H R I (tm_ok he hs hm fun r1 H1 v e1 hs1 k1 hv => ?_)
            obtain ⟨rfl, hx⟩ := hv.str_inv
            exact ⟨_, rfl, hr r1 H1 _ e1 hs1 k1 (rit_str hx)⟩
          · cases hk
          · split at hw
            · rename_i xs hx
              cases hw
              refine (pi_tup ha).run pins s σ H R I (tm_ok he hs hm fun r1 H1 v e1 hs1 k1 hv => ?_)
              obtain ⟨l, vs, rfl, hl, hq⟩ := hv.items hx
              rw [hK]
              exact ⟨l, rfl, ⟨vs, SqT.of hl⟩, hr r1 H1 _ e1 hs1 k1 (rit_tup hl hq)⟩
            · cases hw
      · exact hr.elim
    · exact hr.elim

/-! ### range -/
def rangeL (lo : Int) (n : Nat) : List D := (List.range n).map fun (i : Nat) => pint (lo + (i : Int))
theorem it_range {lo : Int} {n : Nat} : RIt wr0 G r H ⟨rangeL lo n, fun _ => true⟩ (Itr lo n) := by
  intro r' H' S' e' k' hs' hc i
  refine ⟨fun d hd => ?_, fun hi => by show n ≤ i; simpa [rangeL] using Nat.le_of_eq hi⟩
  unfold rangeL at hd
  rw [List.getElem?_map] at hd
  cases hx : (List.range n)[i]? with
  | none => rw [hx] at hd; cases hd
  | some j =>
    rw [hx] at hd
    cases hd
    obtain ⟨h1, h2⟩ := List.getElem?_eq_some_iff.mp hx
    simp at h1 h2
    subst h2
    refine ⟨h1, ?_⟩
    rintro y H'' ⟨rfl, rfl⟩
    exact ⟨Kp.refl, hs', .int _⟩
def iRange1 (m : EM (List D)) : EM ItR := fun st S => (m st S).bind fun ds S1 => match ds with
  | [.p (.int j)] => if -(2 ^ 62) ≤ j ∧ j < 2 ^ 62 then .ok ⟨rangeL 0 j.toNat, fun _ => true⟩ S1 else .stuck
  | _ => .stuck
def iRange2 (m : EM (List D)) : EM ItR := fun st S => (m st S).bind fun ds S1 => match ds with
  | [.p (.int i), .p (.int j)] => if -(2 ^ 62) ≤ i ∧ i < 2 ^ 62 ∧ -(2 ^ 62) ≤ j ∧ j < 2 ^ 62 then .ok ⟨rangeL i (j - i).toNat, fun _ => true⟩ S1 else .stuck
  | _ => .stuck
theorem PI.wk {X : Cx} {tg e : Expr} {t t' : TI} (h : PI X tg e t) (f : ∀ sg H R, t' sg H R → t sg H R) : PI X tg e t' := ⟨fun pins s σ H R I q => h.run pins s σ H R I (f σ H R q)⟩
theorem i_range1 {mas : EM (List D)} {p : Pos} (hg : Gl X "range") (hm : X.mg "range" = none) (ha : PA X [a] (TAm wr0 G W mas)) (hs : noStar a = true) : PI X tg (.Call (.Name "range" p) [a] [] pos) (Tm wr0 G W (RIt wr0 G) (iRange1 mas)) :=
  PI.wk (pi_range1 hg hm ha (star_of hs [] X.env)) fun sg H R h => by
    obtain ⟨r, st, S, he, hs, hr⟩ := h
    refine ⟨r, st, S, he, hs, (Run.bind (R := RDs G) he hr).imp ?_⟩
    rintro vs H1 ⟨r1, ds, S1, e1, k1, he1, hs1, hx, hr1⟩
    split at hr1
    · cases hx with
      | cons h1 q =>
        cases q
        split at hr1
        · rename_i hb
          exact ⟨_, by rw [h1.int_inv], hb.1, hb.2, hr1 r1 H1 _ (List.prefix_refl _) hs1 Kp.refl it_range⟩
        · exact hr1.elim
    · exact hr1.elim
theorem i_range2 {mas : EM (List D)} {p : Pos} (hg : Gl X "range") (hm : X.mg "range" = none) (ha : PA X [a, b] (TAm wr0 G W mas)) (hs : noStar a = true) (hs2 : noStar b = true) : PI X tg (.Call (.Name "range" p) [a, b] [] pos) (Tm wr0 G W (RIt wr0 G) (iRange2 mas)) :=
  PI.wk (pi_range2 hg hm ha (by rw [star_of hs, star_of hs2]; rfl) (star_of hs2 [] X.env)) fun sg H R h => by
    obtain ⟨r, st, S, he, hs, hr⟩ := h
    refine ⟨r, st, S, he, hs, (Run.bind (R := RDs G) he hr).imp ?_⟩
    rintro vs H1 ⟨r1, ds, S1, e1, k1, he1, hs1, hx, hr1⟩
    split at hr1
    · cases hx with
      | cons h1 q =>
        cases q with
        | cons h2 q =>
          cases q
          split at hr1
          · rename_i hb
            exact ⟨_, _, by rw [h1.int_inv, h2.int_inv], hb, hr1 r1 H1 _ (List.prefix_refl _) hs1 Kp.refl it_range⟩
          · exact hr1.elim
    · exact hr1.elim

/-! ### for -/
def forItems (chk : Sto → Bool) (b0 : Nat) (t : Tg) (body : SM) : List D → SM
  | [] => fun st S => if chk S = true then .nx st S else .stuck
  | x :: xs => fun st S => if chk S = true then match t.put x st with
      | some st1 => match body st1 S with
        | .nx st2 S2 => forItems chk b0 t body xs st2 (S2.trim b0 st2)
        | .ct st2 S2 => forItems chk b0 t body xs st2 (S2.trim b0 st2)
        | .bk st2 S2 => .nx st2 S2
        | o => o
      | none => .stuck else .stuck
def sFor (im : EM ItR) (t : Tg) (body : SM) : SM := fun st S => sbind (im st S) st fun a S1 => (forItems a.chk S1.len t body a.xs st S1).trimNx S.len
theorem s_for {im : EM ItR} {t : Tg} {body : List Stmt} {m : SM} (hp : PassesOwn (model X.prog X.w) X.A X.env X.xe) (hc : X.calm = true) (hi : PI X tg e (Tm wr0 G W (RIt wr0 G) im)) (hg : PG X tg (TGm wr0 G t)) (hb : BOk X wr0 G W body m) (hn : noSet e = true) :
    SOk X wr0 G W (.For tg e body [] pos) (sFor im t m) := by
  intro r0 H0
  refine ⟨fun pins s σ H D I h => ?_⟩
  obtain ⟨r, st, S, e0, k0, he, hs, hr⟩ := h
  have hi' := hi.run pins s σ H
  -- the map behind the walk's beginning is chosen there: so the body is taken for each
  refine (ps_for (wi := Tm wr0 G W (RIt wr0 G) im) (g := TGm wr0 G t) (tb := fun D' σ' H' => ∃ rl Hl, TSm wr0 G W rl Hl m D' σ' H') hp hc hi hg ⟨fun pins s σ H D I h => ?_⟩ fun x => noSet_fold hn X.env x).run pins s σ H D I ?_
  · obtain ⟨rl, Hl, h⟩ := h
    exact (hb rl Hl).run pins s σ H D I h
  refine ⟨r, st, S, he, hs, (ROut.bind (R := RIt wr0 G) e0 k0 he hr).imp ?_⟩
  rintro J H1 ⟨r1, a, S1, e1, e2, k1, k2, he1, hs1, hJ, hr1⟩
  have hw0 : ∀ q ∈ wr0, q.2 ≤ S.len := fun q hq => hs.wrb q (List.mem_append_right _ hq)
  have hw1 : ∀ q ∈ wr0, q.2 ≤ S1.len := fun q hq => hs1.wrb q (List.mem_append_right _ hq)
  have hr2 : ROut wr0 G W r H (forItems a.chk S1.len t m a.xs st S1) D := ROut.untrim e0 k0 hs.len hw0 hr1
  refine ⟨fun i n σ' H' => n = a.xs.length - i ∧ i ≤ a.xs.length ∧ ∃ r2 st2 S2, r1 <+: r2 ∧ Kp H1 H' ∧ RelE r2 G.K H' σ' st2 ∧ RelS wr0 r2 G.K H' S2 ∧ ROut wr0 G W r H (forItems a.chk S1.len t m (a.xs.drop i) st2 S2) D,
    ⟨a.xs.length, by simp, Nat.zero_le _, r1, st, S1, List.prefix_refl _, Kp.refl, he1, hs1, by simpa using hr2⟩, ?_⟩
  rintro i n σ' H' ⟨rfl, hle, r2, st2, S2, e3, k3, he2, hs2, hr3⟩
  by_cases hlt : i < a.xs.length
  · have hd : a.xs.drop i = a.xs[i] :: a.xs.drop (i + 1) := List.drop_eq_getElem_cons hlt
    rw [hd] at hr3
    simp only [forItems] at hr3
    split at hr3
    · rename_i hck
      obtain ⟨h1, _⟩ := hJ r2 H' S2 e3 k3 hs2 hck i
      obtain ⟨go, hy⟩ := h1 a.xs[i] (by simp [hlt])
      refine .inr ⟨go, fun σ3 H3 => ∃ r4 st4 S4, r1 <+: r4 ∧ Kp H1 H3 ∧ RelE r4 G.K H3 σ3 st4 ∧ RelS wr0 r4 G.K H3 S4 ∧ ROut wr0 G W r H (forItems a.chk S1.len t m (a.xs.drop (i + 1)) st4 S4) D,
        fun σ3 H3 z => ⟨a.xs.length - (i + 1), by omega, rfl, hlt, z⟩, fun x H3 y => ?_⟩
      obtain ⟨k4, hs3, hx⟩ := hy x H3 y
      split at hr3
      · rename_i st3 hput
        refine ⟨r2, a.xs[i], st2, S2, st3, he2.mono k4 (List.prefix_refl _), hs3, hx, hput, fun σ4 he4 _ => ?_⟩
        refine ⟨r1, H1, r2, st3, S2, e3, k3.trans k4, he4, hs3, ?_⟩
        cases hbo : m st3 S2 with
        | nx st5 S5 =>
          rw [hbo] at hr3
          intro r6 H6 σ6 e6 k6 he6 hs6
          obtain ⟨r7, e7, he7, hs7⟩ := trim_rel e6 hs1.len hw1 he6 hs6
          exact ⟨r7, st5, _, e7, k6, he7, hs7, hr3⟩
        | ct st5 S5 =>
          rw [hbo] at hr3
          intro r6 H6 σ6 e6 k6 he6 hs6
          obtain ⟨r7, e7, he7, hs7⟩ := trim_rel e6 hs1.len hw1 he6 hs6
          exact ⟨r7, st5, _, e7, k6, he7, hs7, hr3⟩
        | bk st5 S5 =>
          rw [hbo] at hr3
          intro r6 H6 σ6 e6 k6 he6 hs6
          exact hr3 r6 H6 σ6 (e1.trans e6) (k1.trans k6) he6 hs6
        | rt d S5 => rw [hbo] at hr3; exact ROut.mono (o := .rt d S5) e1 k1 hr3
        | exc x st5 S5 => rw [hbo] at hr3; exact ROut.mono (o := .exc x st5 S5) e1 k1 hr3
        | stuck => rw [hbo] at hr3; exact hr3.elim
      · exact hr3.elim
    · exact hr3.elim
  · have ei : i = a.xs.length := by omega
    subst ei
    rw [List.drop_length] at hr3
    simp only [forItems] at hr3
    split at hr3
    · rename_i hck
      obtain ⟨_, h2⟩ := hJ r2 H' S2 e3 k3 hs2 hck a.xs.length
      exact .inl ⟨h2 rfl, hr3 r2 H' σ' (e1.trans e3) (k1.trans k3) he2 hs2⟩
    · exact hr3.elim
end
end Mi
set_option Elab.async false
set_option linter.all false
set_option maxRecDepth 100000
set_option maxHeartbeats 4000000
/-! Mi11: comprehensions; walks over dicts; stores into lists and dicts; n += e. -/
namespace Mi
open PySem PySem.Spec PyProof.Rows L2

section
variable {X : Cx} {wr0 : List (Nat × Nat)} {G : Pd} {W : WX} {k : Nat} {a b c e tg : Expr} {es : List Expr} {ma mb mc : EM D} {pos : Pos} {r0 r : List Addr} {H0 H : Hp} {st : Env} {S : Sto} {σ : L2.St}

/-! ### comprehensions -/
def wipeE (st : Env) : List Nat → Env
  | [] => st
  | v :: vs => (wipeE st vs).set v none
theorem RelE.wipe {K : PySem.W.Frag} (h : RelE r K H σ st) : ∀ vs : List Nat, RelE r K H (L2.wipe σ vs) (wipeE st vs)
  | [] => h
  | v :: vs => by
    have ih := RelE.wipe h vs
    refine ⟨by simp [L2.wipe, wipeE, ih.len], fun i d q => ?_⟩
    simp only [wipeE] at q
    by_cases hv : v = i
    · subst hv
      by_cases hl : v < (wipeE st vs).length
      · rw [List.getElem?_set_self hl] at q; cases q
      · rw [List.getElem?_eq_none (by simpa using hl)] at q; cases q
    · rw [List.getElem?_set_ne hv] at q
      obtain ⟨w, h1, h2⟩ := ih.val i d q
      exact ⟨w, by simp only [L2.wipe]; rw [List.getElem?_set_ne hv]; exact h1, h2⟩
theorem wipe_ext : ∀ {vs : List Nat} {a b : L2.St}, a.length = b.length → (∀ j, j ∉ vs → a[j]? = b[j]?) → L2.wipe a vs = L2.wipe b vs := by
  intro vs a b hl h
  refine List.ext_getElem? fun j => ?_
  by_cases hj : j ∈ vs
  · have key : ∀ {vs : List Nat} {a : L2.St}, j ∈ vs → j < a.length → (L2.wipe a vs)[j]? = some none := by
      intro vs a
      induction vs with
      | nil => intro h; cases h
      | cons v vs ih =>
        intro hm hlt
        simp only [L2.wipe]
        by_cases e : v = j
        · subst e
          rw [List.getElem?_set_self (by rw [wipe_length]; exact hlt)]
        · rw [List.getElem?_set_ne e]
          exact ih (by simpa [Ne.symm e] using hm) hlt
    by_cases hlt : j < a.length
    · rw [key hj hlt, key hj (by omega)]
    · rw [List.getElem?_eq_none (by rw [wipe_length]; omega), List.getElem?_eq_none (by rw [wipe_length]; omega)]
  · rw [wipe_out hj, wipe_out hj]
    exact h j hj
def W0 : WX := fun _ _ _ _ => False
def lcItems (chk : Sto → Bool) (n : Nat) (t : Tg) (c : EM Bool) (elt : EM D) (st : Env) : List D → Sto → Res D
  | [], S => if chk S = true then .ok (.ref n) S else .stuck
  | x :: xs, S => if chk S = true then match t.put x st with
      | some st1 => match c st1 S with
        | .ok k S1 => if k = true then match elt st1 S1 with
            | .ok y S2 => match S2.get n with
              | some (.lst acc) => if acc.length < sizeLine then lcItems chk n t c elt st xs ((S2.set n (.lst (acc ++ [y]))).trim (n + 1) st) else .stuck
              | _ => .stuck
            | _ => .stuck else lcItems chk n t c elt st xs (S1.trim (n + 1) st)
        | _ => .stuck
      | none => .stuck else .stuck
def mLc (im : EM ItR) (t : Tg) (c : EM Bool) (elt : EM D) (vs : List Nat) : EM D := fun st S => (im st S).bind fun a S1 => lcItems a.chk S1.len t c elt (wipeE st vs) a.xs (S1.push (.lst []))
theorem lcItems_exc {chk : Sto → Bool} {n : Nat} {t : Tg} {c : EM Bool} {elt : EM D} {st : Env} {x : Exc} {S' : Sto} : ∀ {xs : List D} {S : Sto}, lcItems chk n t c elt st xs S ≠ .exc x S'
  | [], S, h => by
    simp only [lcItems] at h
    split at h <;> cases h
  | y :: ys, S, h => by
    simp only [lcItems] at h
    split at h
    · split at h
      · split at h
        · split at h
          · split at h
            · split at h
              · split at h
                · exact lcItems_exc h
                · cases h
              · cases h
            · cases h
          · exact lcItems_exc h
        · cases h
      · cases h
    · cases h
theorem tm_lc {im : EM ItR} {t : Tg} {mc : EM Bool} {vs : List Nat} (hv : ∀ j ∈ t.slots, j ∈ vs) {Q : VK} (h : TEm wr0 G W (mLc im t mc ma vs) σ H Q) :
    tLc (Tm wr0 G W (RIt wr0 G) im) (TGm wr0 G t) (TTm wr0 G W0 mc) (TEm wr0 G W0 ma) vs σ H Q := by
  obtain ⟨r, st, S, he, hs, hr⟩ := h
  refine ⟨r, st, S, he, hs, (Run.bind (R := RIt wr0 G) he hr).imp ?_⟩
  rintro J H1 ⟨r1, a, S1, e1, k1, he1, hs1, hJ, hr1⟩ p hp
  have k2 : Kp H1 (upd H1 p (.lst [])) := Kp.new hp
  have hs2 : RelS wr0 (r1 ++ [p]) G.K (upd H1 p (.lst [])) (S1.push (.lst [])) := hs1.push (o := .lst []) hp ⟨[], upd_same, .nil⟩ (Nat.zero_le _)
  have hl2 : (r1 ++ [p]).length = S1.len + 1 := by rw [List.length_append, hs1.len]; rfl
  have hw2 : ∀ q ∈ wr0, q.2 ≤ S1.len + 1 := fun q hq => Nat.le_succ_of_le (hs1.wrb q (List.mem_append_right _ hq))
  have hpr : ∀ {r2 : List Addr}, r1 ++ [p] <+: r2 → r2[S1.len]? = some p := fun {r2} e => by
    obtain ⟨z, rfl⟩ := e
    have := hs1.len
    rw [List.append_assoc, List.getElem?_append_right (by omega), this]
    simp
  refine ⟨fun i n H' => n = a.xs.length - i ∧ i ≤ a.xs.length ∧ ∃ r2 S2, r1 ++ [p] <+: r2 ∧ Kp (upd H1 p (.lst [])) H' ∧ RelS wr0 r2 G.K H' S2 ∧ Run wr0 G W (RD G) r1 σ H1 (lcItems a.chk S1.len t mc ma (wipeE st vs) (a.xs.drop i) S2) Q,
    ⟨a.xs.length, by simp, Nat.zero_le _, r1 ++ [p], _, List.prefix_refl _, Kp.refl, hs2, by simpa using hr1⟩, ?_⟩
  rintro i n H' ⟨rfl, hle, r2, S2, e3, k3, hs3, hr3⟩
  have e12 : r1 <+: r2 := (List.prefix_append r1 [p]).trans e3
  have heW : RelE r2 G.K H' (L2.wipe σ vs) (wipeE st vs) := (he1.mono (k2.trans k3) e12).wipe vs
  by_cases hlt : i < a.xs.length
  · have hd : a.xs.drop i = a.xs[i] :: a.xs.drop (i + 1) := List.drop_eq_getElem_cons hlt
    rw [hd] at hr3
    simp only [lcItems] at hr3
    split at hr3
    · rename_i hck
      obtain ⟨h1, _⟩ := hJ r2 H' S2 e12 (k2.trans k3) hs3 hck i
      obtain ⟨go, hy⟩ := h1 a.xs[i] (by simp [hlt])
      refine .inr ⟨go, fun H3 => ∃ r4 S4, r1 ++ [p] <+: r4 ∧ Kp (upd H1 p (.lst [])) H3 ∧ RelS wr0 r4 G.K H3 S4 ∧ Run wr0 G W (RD G) r1 σ H1 (lcItems a.chk S1.len t mc ma (wipeE st vs) (a.xs.drop (i + 1)) S4) Q,
        fun H3 z => ⟨a.xs.length - (i + 1), by omega, rfl, hlt, z⟩, fun x H3 y => ?_⟩
      obtain ⟨k4, hs4, hx⟩ := hy x H3 y
      split at hr3
      · rename_i st1 hput
        refine ⟨r2, a.xs[i], wipeE st vs, S2, st1, heW.mono k4 (List.prefix_refl _), hs4, hx, hput, fun σ2 he2 sm => ?_⟩
        refine ⟨?_, ?_⟩
        · have z : L2.wipe σ2 vs = L2.wipe (L2.wipe σ vs) vs := wipe_ext sm.1 fun j hj => sm.2 j fun z => hj (hv j z)
          rw [z]
          exact wipe_ext (wipe_length σ vs) fun j hj => wipe_out hj
        · refine ⟨r2, st1, S2, he2, hs4, ?_⟩
          cases hc : mc st1 S2 with
          | ok kb S5 =>
            rw [hc] at hr3
            intro r5 H5 b e5 hs5 k5 hb
            cases hb
            cases kb with
            | true =>
              simp only [if_true] at hr3 ⊢
              have he5 := he2.mono k5 e5
              refine ⟨r5, st1, S5, he5, hs5, ?_⟩
              cases hm : ma st1 S5 with
              | ok d S6 =>
                rw [hm] at hr3
                intro r6 H6 y6 e6 hs6 k6 hy6
                simp only at hr3
                split at hr3
                · rename_i acc hg
                  split at hr3
                  · rename_i hz
                    have e36 : r1 ++ [p] <+: r6 := e3.trans (e5.trans e6)
                    have hp6 := hpr e36
                    obtain ⟨o, ho, hrep⟩ := hs6.at hp6
                    rw [hg] at ho
                    cases ho
                    obtain ⟨ws, hH6, hq6⟩ := hrep
                    have k7 : Kp H6 (upd H6 p (.lst (ws ++ [y6]))) := Kp.upd fun u hu q => by rw [hH6] at q; cases q; exact hu
                    have hs7 : RelS wr0 r6 G.K (upd H6 p (.lst (ws ++ [y6]))) (S6.set S1.len (.lst (acc ++ [d]))) := hs6.set hg hp6 (orep_lst (hq6.append (.cons hy6 .nil)) hH6)
                    have kk : Kp (upd H1 p (.lst [])) (upd H6 p (.lst (ws ++ [y6]))) := k3.trans (k4.trans (k5.trans (k6.trans k7)))
                    have heW7 : RelE r6 G.K (upd H6 p (.lst (ws ++ [y6]))) (L2.wipe σ vs) (wipeE st vs) := heW.mono (k4.trans (k5.trans (k6.trans k7))) (e5.trans e6)
                    obtain ⟨r8, e8, _, hs8⟩ := trim_rel e36 hl2 hw2 heW7 hs7
                    exact ⟨ws, hH6, by rw [← hq6.length]; exact hz, r8, _, e8, kk, hs8, hr3⟩
                  · exact hr3.elim
                · exact hr3.elim
              | exc x S6 => rw [hm] at hr3; exact hr3.elim
              | stuck => rw [hm] at hr3; exact hr3.elim
            | false =>
              simp only [Bool.false_eq_true, if_false] at hr3 ⊢
              have e35 : r1 ++ [p] <+: r5 := e3.trans e5
              obtain ⟨r8, e8, _, hs8⟩ := trim_rel e35 hl2 hw2 (heW.mono (k4.trans k5) e5) hs5
              exact ⟨r8, _, e8, k3.trans (k4.trans k5), hs8, hr3⟩
          | exc x S5 => rw [hc] at hr3; exact hr3.elim
          | stuck => rw [hc] at hr3; exact hr3.elim
      · exact hr3.elim
    · exact hr3.elim
  · have ei : i = a.xs.length := by omega
    subst ei
    rw [List.drop_length] at hr3
    simp only [lcItems] at hr3
    split at hr3
    · rename_i hck
      obtain ⟨_, h2⟩ := hJ r2 H' S2 e12 (k2.trans k3) hs3 hck a.xs.length
      exact .inl ⟨h2 rfl, hr3 r2 H' _ e12 hs3 (k2.trans k3) (.ref (hpr e3))⟩
    · exact hr3.elim
end
end Mi
set_option Elab.async false
set_option linter.all false
set_option maxRecDepth 100000
set_option maxHeartbeats 4000000
/-! Mi12: walks over dicts; comprehensions as values; stores into lists and dicts; n += e. -/
namespace Mi
open PySem PySem.Spec PyProof.Rows L2

section
variable {X : Cx} {wr0 : List (Nat × Nat)} {G : Pd} {W : WX} {k : Nat} {a b c e tg : Expr} {es : List Expr} {ma mb mc : EM D} {pos : Pos} {r0 r r' : List Addr} {H0 H H' : Hp} {st : Env} {S : Sto} {σ : L2.St} {K : PySem.W.Frag}

/-! ### keys as values -/
theorem kV_rep {d : D} {k : Key} (h : keyP d = some k) (ok : okKey d) : Rep r K H d (kV k) := by
  cases d with
  | p x =>
    cases x with
    | int i => cases h; exact .p (.int i)
    | str x => cases h; exact .p (.str ok)
    | _ => cases h
  | ref n => cases h
  | tup xs => cases h
theorem kVs_rep : ∀ {xs : List P} {ks : List Key}, keyPs xs = some ks → (∀ y, P.str y ∈ xs → ascii y) → RepPs K H xs (ks.map kV)
  | [], _, h, _ => by cases h; exact .nil
  | x :: xs, ks, h, ok => by
    unfold keyPs at h
    split at h
    · rename_i k ks' h1 h2
      cases h
      refine .cons ?_ (kVs_rep h2 fun y hy => ok y (List.mem_cons_of_mem _ hy))
      have z : Rep [] K H (.p x) (kV k) := kV_rep h1 (by
        cases x with
        | str y => exact ok y List.mem_cons_self
        | tup _ => cases h1
        | _ => exact True.intro)
      cases z with | p z => exact z
    · cases h
theorem kT_rep {d : D} {ks : List Key} {q : Addr} (h : keyT d = some ks) (ok : okKey d) (hq : H q = some (.tup (ks.map kV))) : Rep r K H d (.ref q) := by
  cases d with
  | p x =>
    cases x with
    | tup xs => exact .p (.tup hq (kVs_rep h ok))
    | _ => cases h
  | ref n => cases h
  | tup xs => cases h

/-! ### a dict that is walked is frozen -/
def iDict (m : EM D) : EM ItR := fun st S => (m st S).bind fun d S1 => match d with
  | .ref n => match S1.get n with
    | some (.fzd kvs) => .ok ⟨kvs.map (·.1), fun _ => true⟩ S1
    | _ => .stuck
  | _ => .stuck
theorem i_dict (ha : PE X e (TEm wr0 G W ma)) : PI X tg e (Tm wr0 G W (RIt wr0 G) (iDict ma)) :=
  PI.wk (pi_keys ha) fun sg H R h => by
    obtain ⟨r, st, S, he, hs, hr⟩ := h
    refine ⟨r, st, S, he, hs, (Run.bind (R := RD G) he hr).imp ?_⟩
    rintro x H1 ⟨r1, d, S1, e1, k1, he1, hs1, hx, hr1⟩
    split at hr1
    · rename_i n
      split at hr1
      · rename_i kvs hg
        obtain ⟨q, rfl, hq⟩ := RelS.ref_at hx
        obtain ⟨o, ho, hrep⟩ := hs1.at hq
        rw [hg] at ho
        cases ho
        obtain ⟨ob, u, hu, hd⟩ := hrep
        refine ⟨q, ob, rfl, ?_⟩
        rcases hd with ⟨ks, rfl, hd⟩ | ⟨ks, rfl, hd⟩
        · refine .inl ⟨ks, hu, hr1 r1 H1 _ (List.prefix_refl _) hs1 Kp.refl ?_⟩
          intro r' H' S' e' k' hs' _ i
          have hu' : H' q = some (.frz ob (.dK ks)) := k' q _ True.intro hu
          have hl : kvs.length = ks.length := Paired.length hd
          refine ⟨fun d hd0 => ?_, fun hi => ⟨hu', by simpa [hl] using Nat.le_of_eq hi⟩⟩
          rw [List.getElem?_map] at hd0
          cases hp : kvs[i]? with
          | none => rw [hp] at hd0; cases hd0
          | some p =>
            rw [hp] at hd0
            cases hd0
            obtain ⟨b, hb, h1, h2, _⟩ := paired_get hd hp
            refine ⟨⟨hu', (List.getElem?_eq_some_iff.mp hb).1⟩, ?_⟩
            rintro y H'' ⟨rfl, k2, v2, hk2, rfl⟩
            rw [hb] at hk2
            cases hk2
            exact ⟨Kp.refl, hs', kV_rep h1 h2⟩
        · refine .inr ⟨ks, hu, hr1 r1 H1 _ (List.prefix_refl _) hs1 Kp.refl ?_⟩
          intro r' H' S' e' k' hs' _ i
          have hu' : H' q = some (.frz ob (.dT ks)) := k' q _ True.intro hu
          have hl : kvs.length = ks.length := Paired.length hd
          refine ⟨fun d hd0 => ?_, fun hi => ⟨hu', by simpa [hl] using Nat.le_of_eq hi⟩⟩
          rw [List.getElem?_map] at hd0
          cases hp : kvs[i]? with
          | none => rw [hp] at hd0; cases hd0
          | some p =>
            rw [hp] at hd0
            cases hd0
            obtain ⟨b, hb, h1, h2, _⟩ := paired_get hd hp
            refine ⟨⟨hu', (List.getElem?_eq_some_iff.mp hb).1⟩, ?_⟩
            rintro y H'' ⟨rfl, k2, v2, q2, hk2, rfl, hq2⟩
            rw [hb] at hk2
            cases hk2
            exact ⟨Kp.refl, hs', kT_rep h1 h2 hq2⟩
      · exact hr1.elim
    · exact hr1.elim
/-- an object for one of the same references -/
def Sto.swap (S : Sto) (n : Nat) (o : MO) : Sto := { S with objs := S.objs.set n o }
theorem RelS.swap (s : RelS wr0 r K H S) {n : Nat} {l : Addr} {o o' : MO} {u : HO} (hn : S.get n = some o) (ha : r[n]? = some l) (h : ORep r K (upd H l u) l o') (ht : o'.top = o.top) : RelS wr0 r K (upd H l u) (S.swap n o') where
  len := by simp [Sto.swap, Sto.len, s.len]
  nd := s.nd
  obj := fun m o2 e => by
    have e' : (S.objs.set n o')[m]? = some o2 := e
    by_cases hm : n = m
    · subst hm
      rw [List.getElem?_set_self (s.lt hn)] at e'
      cases e'
      exact ⟨l, ha, h⟩
    · rw [List.getElem?_set_ne hm] at e'
      obtain ⟨b, h1, h2⟩ := s.obj m o2 e'
      obtain ⟨o3, h3, h4⟩ := s.at ha
      refine ⟨b, h1, h2.monoT (Kt.upd h4.noTup) (List.prefix_refl _) (upd_ne fun e => ?_)⟩
      subst e
      exact hm (nodup_at s.nd ha h1)
  fwd := fun m o2 e => by
    have e' : (S.objs.set n o')[m]? = some o2 := e
    by_cases hm : n = m
    · subst hm
      rw [List.getElem?_set_self (s.lt hn)] at e'
      cases e'
      rw [ht]
      exact s.fwd n o hn
    · rw [List.getElem?_set_ne hm] at e'
      exact s.fwd m o2 e'
  wrb := fun q hq => by
    have := s.wrb q hq
    simpa [Sto.swap, Sto.len] using this
theorem RelE.monoT (h : RelE r K H σ st) (k : Kt H H') (e : r <+: r') : RelE r' K H' σ st :=
  ⟨h.len, fun i d q => by
    obtain ⟨v, h1, h2⟩ := h.val i d q
    exact ⟨v, h1, h2.monoT k e⟩⟩
def Out.unlock (n : Nat) (kvs : List (D × D)) : Out → Out
  | .nx st S => if S.get n = some (.fzd kvs) then .nx st (S.swap n (.dct kvs)) else .stuck
  | .bk st S => if S.get n = some (.fzd kvs) then .bk st (S.swap n (.dct kvs)) else .stuck
  | .ct st S => if S.get n = some (.fzd kvs) then .ct st (S.swap n (.dct kvs)) else .stuck
  | .rt d S => if S.get n = some (.fzd kvs) then .rt d (S.swap n (.dct kvs)) else .stuck
  | .exc x st S => .exc x st S
  | .stuck => .stuck
def sForAny (mi : EM D) (t : Tg) (body : SM) : SM := fun st S => match mi st S with
  | .ok (.ref n) _ => match S.get n with
    | some (.dct kvs) => (sFor (iDict mi) t body st (S.swap n (.fzd kvs))).unlock n kvs
    | some (.fzd _) => sFor (iDict mi) t body st S
    | _ => sFor (iSeq mi) t body st S
  | _ => sFor (iSeq mi) t body st S
theorem DRep.mut {kvs : List (D × D)} {u : HO} (h : DRep r K H kvs u) : Mut (some u) := by
  rcases h with ⟨ks, rfl, _⟩ | ⟨ks, rfl, _⟩ <;> exact True.intro
/-- a lock is taken -/
theorem lock_rel {n : Nat} {kvs : List (D × D)} (he : RelE r G.K H σ st) (hs : RelS wr0 r G.K H S) (hg : S.get n = some (.dct kvs)) : ∃ l u, r[n]? = some l ∧ H l = some u ∧ DRep r G.K H kvs u ∧ ∀ od, Kp H (upd H l (.frz od u)) ∧ RelE r G.K (upd H l (.frz od u)) σ st ∧ RelS wr0 r G.K (upd H l (.frz od u)) (S.swap n (.fzd kvs)) := by
  obtain ⟨l, hl, hrep⟩ := hs.obj n _ hg
  have hns := hrep.noStay rfl
  obtain ⟨u, hu, hd⟩ := hrep
  refine ⟨l, u, hl, hu, hd, fun od => ?_⟩
  have k : Kp H (upd H l (.frz od u)) := Kp.upd hns
  exact ⟨k, he.mono k (List.prefix_refl _), hs.swap hg hl ⟨od, u, upd_same, hd.mono k (List.prefix_refl _)⟩ rfl⟩
/-- .. and given back -/
theorem unlock_rel {n : Nat} {l : Addr} {u : HO} {od : Obj} {kvs : List (D × D)} (hd : DRep r G.K H kvs u) (hu : H l = some u) (hn : r[n]? = some l) (e' : r <+: r') (k' : Kp (upd H l (.frz od u)) H') (hs' : RelS wr0 r' G.K H' S) (hg : S.get n = some (.fzd kvs)) (k0 : Kp H0 H) :
    H' l = some (.frz od u) ∧ Kp H0 (upd H' l u) ∧ Kt H' (upd H' l u) ∧ RelS wr0 r' G.K (upd H' l u) (S.swap n (.dct kvs)) := by
  have hl' : H' l = some (.frz od u) := k' l _ True.intro upd_same
  have kt : Kt H' (upd H' l u) := Kt.upd fun xs q => by rw [hl'] at q; cases q
  refine ⟨hl', fun b w hw q => ?_, kt, ?_⟩
  · have q1 := k0 b w hw q
    have hb : b ≠ l := fun e => by
      subst e
      rw [hu] at q1
      cases q1
      exact hd.noStay hw
    rw [upd_ne hb]
    exact k' b w hw (by rw [upd_ne hb]; exact q1)
  · have hn' : r'[n]? = some l := by
      obtain ⟨z, rfl⟩ := e'
      rw [List.getElem?_append_left (List.getElem?_eq_some_iff.mp hn).1]
      exact hn
    obtain ⟨o, ho, hrep⟩ := hs'.at hn'
    rw [hg] at ho
    cases ho
    obtain ⟨ob, u', hu', hd'⟩ := hrep
    rw [hl'] at hu'
    cases hu'
    exact hs'.swap hg hn' ⟨u, upd_same, hd'.monoT kt (List.prefix_refl _)⟩ rfl
theorem s_forAny {t : Tg} {body : List Stmt} {m : SM} (hK : X.K = G.K) (hp : PassesOwn (model X.prog X.w) X.A X.env X.xe) (hc : X.calm = true) (ha : PE X e (TEm wr0 G W ma)) (hg : PG X tg (TGm wr0 G t)) (hb : BOk X wr0 G W body m) (hn : noSet e = true) :
    SOk X wr0 G W (.For tg e body [] pos) (sForAny ma t m) := by
  intro r0 H0
  refine ⟨fun pins s σ H D I h => ?_⟩
  obtain ⟨r, st, S, e0, k0, he, hs, hr⟩ := h
  unfold sForAny at hr
  split at hr
  · rename_i n S1 hm
    split at hr
    · rename_i kvs hgn
      obtain ⟨l, u, hl, hu, hd, hall⟩ := lock_rel he hs hgn
      refine (ps_lock (t := fun D σ H => ∃ rl Hl, TSm wr0 G W rl Hl (sFor (iDict ma) t m) D σ H) ⟨fun pins s σ H D I h => ?_⟩).run pins s σ H D I ⟨l, u, hu, hd.mut, fun od => ?_⟩
      · obtain ⟨rl, Hl, h⟩ := h
        exact (s_for hp hc (i_dict ha) hg hb hn rl Hl).run pins s σ H D I h
      · obtain ⟨k1, he1, hs1⟩ := hall od
        refine ⟨r, upd H l (.frz od u), r, st, S.swap n (.fzd kvs), List.prefix_refl _, Kp.refl, he1, hs1, ?_⟩
        cases ho : sFor (iDict ma) t m st (S.swap n (.fzd kvs)) with
        | nx st2 S2 =>
          rw [ho] at hr
          simp only [Out.unlock] at hr
          split at hr
          · rename_i hg2
            intro r2 H2 σ2 e2 k2 he2 hs2
            obtain ⟨h1, h2, h3, h4⟩ := unlock_rel hd hu hl e2 k2 hs2 hg2 k0
            exact ⟨h1, hr r2 _ σ2 (e0.trans e2) h2 (he2.monoT h3 (List.prefix_refl _)) h4⟩
          · exact hr.elim
        | bk st2 S2 =>
          rw [ho] at hr
          simp only [Out.unlock] at hr
          split at hr
          · rename_i hg2
            intro r2 H2 σ2 e2 k2 he2 hs2
            obtain ⟨h1, h2, h3, h4⟩ := unlock_rel hd hu hl e2 k2 hs2 hg2 k0
            exact ⟨h1, hr r2 _ σ2 (e0.trans e2) h2 (he2.monoT h3 (List.prefix_refl _)) h4⟩
          · exact hr.elim
        | ct st2 S2 =>
          rw [ho] at hr
          simp only [Out.unlock] at hr
          split at hr
          · rename_i hg2
            intro r2 H2 σ2 e2 k2 he2 hs2
            obtain ⟨h1, h2, h3, h4⟩ := unlock_rel hd hu hl e2 k2 hs2 hg2 k0
            exact ⟨h1, hr r2 _ σ2 (e0.trans e2) h2 (he2.monoT h3 (List.prefix_refl _)) h4⟩
          · exact hr.elim
        | rt d S2 =>
          rw [ho] at hr
          simp only [Out.unlock] at hr
          split at hr
          · rename_i hg2
            intro r2 H2 v e2 k2 hs2 hv
            obtain ⟨h1, h2, h3, h4⟩ := unlock_rel hd hu hl e2 k2 hs2 hg2 k0
            exact ⟨h1, hr r2 _ v (e0.trans e2) h2 h4 (hv.monoT h3 (List.prefix_refl _))⟩
          · exact hr.elim
        | exc x st2 S2 =>
          rw [ho] at hr
          intro r2 H2 σ2 cls da e2 k2 he2 hs2 hx
          exact hr r2 H2 σ2 cls da (e0.trans e2) (k0.trans (k1.trans k2)) he2 hs2 hx
        | stuck => rw [ho] at hr; exact hr.elim
    · exact (s_for hp hc (i_dict ha) hg hb hn r0 H0).run pins s σ H D I ⟨r, st, S, e0, k0, he, hs, hr⟩
    · exact (s_for hp hc (i_seq hK ha) hg hb hn r0 H0).run pins s σ H D I ⟨r, st, S, e0, k0, he, hs, hr⟩
  · exact (s_for hp hc (i_seq hK ha) hg hb hn r0 H0).run pins s σ H D I ⟨r, st, S, e0, k0, he, hs, hr⟩

/-! ### comprehensions -/
theorem PTs.wk {X : Cx} {e : List Expr} {t t' : TT} (h : PTs X e t) (f : ∀ sg H Q, t' sg H Q → t sg H Q) : PTs X e t' := ⟨fun pins s σ H Q I q => h.run pins s σ H Q I (f σ H Q q)⟩
def mYes : EM Bool := fun _ S => .ok true S
theorem qts_nil : PTs X [] (TTm wr0 G W mYes) := PTs.wk pts_nil fun sg H Q h => by
  obtain ⟨r, st, S, he, hs, hr⟩ := h
  exact hr r H true (List.prefix_refl _) hs Kp.refl rfl
/-- the parts of a comprehension, in its block -/
structure LcP (X : Cx) (wr0 : List (Nat × Nat)) (G : Pd) (scope : Scope) (tg : Expr) (ifs : List Expr) (elt : Expr) (t : Tg) (mt : EM Bool) (me : EM D) (own : List (Str × Nat)) : Prop where
  ok : BlkOk X.N X.env.scope scope own
  g : ∀ (s : Shared) (H : Hp) (C : Addr) (cl : List (Str × Addr)) (fp : List Addr), PG (X.blk s H scope (compEnvC scope cl C X.env) fp) tg (TGm wr0 G t)
  tt : ∀ (s : Shared) (H : Hp) (C : Addr) (cl : List (Str × Addr)) (fp : List Addr), PTs (X.blk s H scope (compEnvC scope cl C X.env) fp) ifs (TTm wr0 G W0 mt)
  e : ∀ (s : Shared) (H : Hp) (C : Addr) (cl : List (Str × Addr)) (fp : List Addr), PE (X.blk s H scope (compEnvC scope cl C X.env) fp) elt (TEm wr0 G W0 me)
  v : ∀ j ∈ t.slots, j ∈ own.map (·.2)
theorem q_lc {im : EM ItR} {t : Tg} {mt : EM Bool} {me : EM D} {ifs : List Expr} {elt iter : Expr} {scope : Scope} {own : List (Str × Nat)} (hc : X.calm = true) (hN : X.N.Nodup) (hi : PI X tg iter (Tm wr0 G W (RIt wr0 G) im)) (P : LcP X wr0 G scope tg ifs elt t mt me own) (hn : noSet iter = true) :
    PE X (.ListComp elt [⟨tg, iter, ifs, 0⟩] scope pos) (TEm wr0 G W (mLc im t mt me (own.map (·.2)))) :=
  PE.wk (pe_lc hc hN hi P.ok P.g P.tt P.e fun x => noSet_fold hn X.env x) fun sg H Q h => tm_lc P.v h
def Res.unlock (n : Nat) (kvs : List (D × D)) : Res D → Res D
  | .ok d S => if S.get n = some (.fzd kvs) then .ok d (S.swap n (.dct kvs)) else .stuck
  | o => o
def mLcAny (mi : EM D) (t : Tg) (c : EM Bool) (elt : EM D) (vs : List Nat) : EM D := fun st S => match mi st S with
  | .ok (.ref n) _ => match S.get n with
    | some (.dct kvs) => (mLc (iDict mi) t c elt vs st (S.swap n (.fzd kvs))).unlock n kvs
    | some (.fzd _) => mLc (iDict mi) t c elt vs st S
    | _ => mLc (iSeq mi) t c elt vs st S
  | _ => mLc (iSeq mi) t c elt vs st S
theorem q_lcAny {t : Tg} {mt : EM Bool} {me : EM D} {ifs : List Expr} {elt iter : Expr} {scope : Scope} {own : List (Str × Nat)} (hK : X.K = G.K) (hc : X.calm = true) (hN : X.N.Nodup) (hi : PE X iter (TEm wr0 G W ma)) (P : LcP X wr0 G scope tg ifs elt t mt me own) (hn : noSet iter = true) :
    PE X (.ListComp elt [⟨tg, iter, ifs, 0⟩] scope pos) (TEm wr0 G W (mLcAny ma t mt me (own.map (·.2)))) := by
  refine ⟨fun pins s σ H Q I h => ?_⟩
  obtain ⟨r, st, S, he, hs, hr⟩ := h
  unfold mLcAny at hr
  split at hr
  · rename_i n S1 hm
    split at hr
    · rename_i kvs hgn
      obtain ⟨l, u, hl, hu, hd, hall⟩ := lock_rel he hs hgn
      refine (pe_lock (q_lc hc hN (i_dict hi) P hn)).run pins s σ H Q I ⟨l, u, hu, hd.mut, fun od => ?_⟩
      obtain ⟨k1, he1, hs1⟩ := hall od
      refine ⟨r, st, S.swap n (.fzd kvs), he1, hs1, ?_⟩
      cases ho : mLc (iDict ma) t mt me (own.map (·.2)) st (S.swap n (.fzd kvs)) with
      | ok d S2 =>
        rw [ho] at hr
        simp only [Res.unlock] at hr
        split at hr
        · rename_i hg2
          intro r2 H2 v e2 hs2 k2 hv
          obtain ⟨h1, h2, h3, h4⟩ := unlock_rel hd hu hl e2 k2 hs2 hg2 Kp.refl
          exact ⟨h1, hr r2 _ v e2 h4 h2 (hv.monoT h3 (List.prefix_refl _))⟩
        · exact hr.elim
      | exc x S2 =>
        rw [ho] at hr
        exact fun r2 H2 cls da e2 hs2 k2 hx => hr r2 H2 cls da e2 hs2 (k1.trans k2) hx
      | stuck => rw [ho] at hr; exact hr.elim
    · exact (q_lc hc hN (i_dict hi) P hn).run pins s σ H Q I ⟨r, st, S, he, hs, hr⟩
    · exact (q_lc hc hN (i_seq hK hi) P hn).run pins s σ H Q I ⟨r, st, S, he, hs, hr⟩
  · exact (q_lc hc hN (i_seq hK hi) P hn).run pins s σ H Q I ⟨r, st, S, he, hs, hr⟩
end
end Mi
set_option Elab.async false
set_option linter.all false
set_option maxRecDepth 100000
set_option maxHeartbeats 4000000
/-! Mi13: stores into lists and dicts; n += e; enumerate. -/
namespace Mi
open PySem PySem.Spec PyProof.Rows L2

section
variable {X : Cx} {wr0 : List (Nat × Nat)} {G : Pd} {W : WX} {k : Nat} {a b c e tg : Expr} {es : List Expr} {ma mb mc mv mo mi : EM D} {pos : Pos} {r0 r r' : List Addr} {H0 H H' : Hp} {st : Env} {S : Sto} {σ : L2.St} {K : PySem.W.Frag}

/-! ### o[i] = v -/
def setF (o i v : D) (S : Sto) : Option Sto := match o with
  | .ref n => match S.get n with
    | some (.lst xs) => match i with
      | .p (.int k) => match ixN xs.length k with
        | some j => some (S.set n (.lst (xs.set j v)))
        | none => none
      | _ => none
    | some (.dct kvs) => if dKind kvs i = true ∧ kvs.length < sizeLine then some (S.set n (.dct (dPut kvs i v))) else none
    | _ => none
  | _ => none
def rSet (wr0 : List (Nat × Nat)) (G : Pd) : TSet := fun o i v H Q => ∃ r S dO di dv S', RelS wr0 r G.K H S ∧ Rep r G.K H dO o ∧ Rep r G.K H di i ∧ Rep r G.K H dv v ∧ setF dO di dv S = some S' ∧ ∀ H', Kp H H' → RelS wr0 r G.K H' S' → Q H'
theorem set_F (hu : X.A.units + 1 < cLine) : PSet X (rSet wr0 G) := by
  intro pins s σ H o i v ov iv u Q I ro ri rv h
  obtain ⟨r, S, dO, di, dv, S', hs, hO, hi, hv, hf, q⟩ := h
  unfold setF at hf
  split at hf
  · rename_i n
    obtain ⟨l, rfl, hl⟩ := RelS.ref_at hO
    split at hf
    · rename_i xs hg
      split at hf
      · rename_i k
        split at hf
        · rename_i j hj
          cases hf
          obtain ⟨o2, ho2, hrep⟩ := hs.at hl
          rw [hg] at ho2
          cases ho2
          obtain ⟨vs, hH, hq⟩ := hrep
          have := hi.int_inv
          subst this
          have k1 : Kp H (upd H l (.lst (vs.set j v))) := Kp.upd fun u hu q => by rw [hH] at q; cases q; exact hu
          exact set_list pins s σ H _ _ v ov iv u Q I ro ri rv ⟨l, vs, k, j, rfl, rfl, hH, by rw [← hq.length]; exact hj, q _ k1 (hs.set hg hl (orep_lst (hq.set hv j) hH))⟩
        · cases hf
      · cases hf
    · rename_i kvs hg
      split at hf
      · rename_i hk
        cases hf
        obtain ⟨H1, H2, rt, g, k1, hs1⟩ := dict_put hs hl hg hk.1 hi hv hk.2
        cases ro
        exact d_setItem hu (I.retag rt) g ri rv fun s' I' => ⟨H2, I', q H2 k1 hs1⟩
      · cases hf
    · cases hf
  · cases hf
theorem g_sub {o i : Expr} {to ti : TE} {t : TSet} (ho : PE X o to) (hi : PE X i ti) (ht : PSet X t) (h : noSlice i = true) : PG X (.Subscript o i pos) (gSub to ti t) := by
  cases i <;> first | exact pg_sub ho hi ht | cases h
theorem swap_sub {o i : Expr} {p' : Pos} {l : Nat} (e : Expr) (env : PySem.Env) : swapsWithSole [.Subscript o i p'] e l env = pure false := by
  cases e <;> rfl
def sSub (mv mo mi : EM D) : SM := fun st S => sbind (mv st S) st fun v S1 => sbind (mo st S1) st fun o S2 => sbind (mi st S2) st fun i S3 => match setF o i v S3 with
  | some S4 => .nx st S4
  | none => .stuck
theorem s_sub {o i : Expr} {p' : Pos} (hu : X.A.units + 1 < cLine) (hv : PE X e (TEm wr0 G W mv)) (ho : PE X o (TEm wr0 G W mo)) (hi : PE X i (TEm wr0 G W mi)) (hs : noSlice i = true) :
    SOk X wr0 G W (.Assign [.Subscript o i p'] e pos) (sSub mv mo mi) := fun r0 H0 =>
  PS.wk (ps_asg hv (g_sub ho hi (set_F (wr0 := wr0) (G := G) hu) hs) (swap_sub e X.env) rfl rfl) fun D σ H h => by
    obtain ⟨r, st, S, e0, k0, he, hs, hr⟩ := h
    refine ⟨r, st, S, he, hs, (ROut.bind (R := RD G) e0 k0 he hr).imp ?_⟩
    rintro x H1 ⟨r1, d, S1, e1, e2, k1, k2, he1, hs1, hx, hr1⟩
    refine ⟨r1, st, S1, he1, hs1, (ROut.bind (R := RD G) e2 k2 he1 hr1).imp ?_⟩
    rintro y H2 ⟨r2, d2, S2, e3, e4, k3, k4, he2, hs2, hy, hr2⟩
    refine ⟨r2, st, S2, he2, hs2, (ROut.bind (R := RD G) e4 k4 he2 hr2).imp ?_⟩
    rintro z H3 ⟨r3, d3, S3, e5, e6, k5, k6, he3, hs3, hz, hr3⟩
    split at hr3
    · rename_i S4 hf
      exact ⟨r3, S3, d2, d3, d, S4, hs3, hy.mono k5 e5, hz, hx.mono (k3.trans k5) (e3.trans e5), hf, fun H' k' hs' => hr3 r3 H' σ e6 (k6.trans k') (he3.mono k' (List.prefix_refl _)) hs'⟩
    · exact hr3.elim

/-! ### n += e, ints -/
def sAug (i : Nat) (f : Int → Int → Int) (m : EM D) : SM := fun st S => match st[i]? with
  | some (some (.p (.int x))) => sbind (m st S) st fun d S1 => match d with
    | .p (.int y) => .nx (st.set i (some (pint (f x y)))) S1
    | _ => .stuck
  | _ => .stuck
theorem s_aug {i : Nat} {x : Str} {op : Operator} {f : Int → Int → Int} {p' : Pos} (hN : X.N.Nodup) (hi : X.N[i]? = some x) (hx : StOk X x) (ha : PE X e (TEm wr0 G W ma)) (ho : PIp X op (ipI f)) :
    SOk X wr0 G W (.AugAssign (.Name x p') op e pos) (sAug i f ma) := fun r0 H0 =>
  PS.wk (ps_aug hN hi hx.1 ha ho hx.2) fun D σ H h => by
    obtain ⟨r, st, S, e0, k0, he, hs, hr⟩ := h
    unfold sAug at hr
    split at hr
    · rename_i x0 hx0
      obtain ⟨v, h1, h2⟩ := he.val i _ hx0
      have := h2.int_inv
      subst this
      refine ⟨_, h1, r, st, S, he, hs, (ROut.bind (R := RD G) e0 k0 he hr).imp ?_⟩
      rintro y H1 ⟨r1, d, S1, e1, e2, k1, k2, he1, hs1, hy, hr1⟩
      split at hr1
      · exact ⟨_, _, rfl, hy.int_inv, hr1 r1 H1 _ e2 k2 (he1.set (.int _)) hs1⟩
      · exact hr1.elim
    · exact hr.elim

/-! ### enumerate: pairs of a number and what an inner iterator draws -/
/-- n pairs; Φ: the source is there; Px: what is drawn at each turn -/
def Itn (n : Nat) (Φ : Hp → Prop) (Px : Nat → V → Prop) : It where
  go i H := i < n ∧ Φ H
  yld i H v H' := ∃ T x, Px i x ∧ v = .ref T ∧ H T = none ∧ H' = upd H T (.tup [.int (i : Nat), x])
  stop i H := n = i ∧ Φ H
/-- an enumerate object over a drawing iterator, by the library's walk of it -/
theorem turn_pairs {P : Program} {w : World} {elts : List Expr} {kk n : Nat} {tpos : Pos} {en it : Addr} {Φ : Hp → Prop} {Px : Nat → V → Prop} {src : Nat → Heap → Prop} (hei : en ≠ it)
    (own : ∀ i h, src i h → ∃ o, h.get? it = some o ∧ ∀ v, o.data ≠ .cell v) (stay : ∀ i h h', src i h → (∀ o, h.get? it = some o → h'.get? it = some o) → src i h')
    (draw : ∀ (X : Cx) (i : Nat) (pins : List (Addr × Obj)) (s : Shared) (σ : L2.St) (H : Hp), X.prog = P → X.w = w → X.K = K → X.A.handled = none → L2.Inv X pins σ H s → Φ H → src i s.heap →
      ∃ fp Pv St, en ∉ fp ∧ it ∈ fp ∧ Draws P w X.A.in1 it fp n Pv St ∧ St i s.heap ∧ (∀ j h, St j h → src j h) ∧ ∀ j u, Pv j u → ∃ x, RelV x u ∧ Px j x) :
    Turn P w K (.Tuple elts kk tpos) (Itn n Φ Px) [en, it] en (fun i h => (∃ old, IsEnum h en it ((i : Nat) : Int) old) ∧ src i h) := by
  have two : ∀ {b : Addr}, b ∈ [en, it] → b = en ∨ b = it := fun h => by simpa using h
  have out : ∀ {b : Addr}, b ≠ en → b ≠ it → b ∉ [en, it] := fun h1 h2 h => (two h).elim h1 h2
  refine ⟨List.mem_cons_self, ?_, ?_, ?_, ?_, ?_⟩
  · rintro i h ⟨⟨old, he⟩, hs⟩ b hb
    rcases two hb with rfl | rfl
    · exact ⟨_, he, fun v z => nomatch z⟩
    · exact own i h hs
  · rintro i h h' ⟨⟨old, he⟩, hs⟩ hk
    exact ⟨⟨old, hk en List.mem_cons_self _ he⟩, stay i h h' hs fun o ho => hk it (by simp) o ho⟩
  · intro X eP ew eK hc i pins s σ H E I hf ⟨⟨old, he⟩, hsrc⟩ hgo
    obtain ⟨fp, Pv, St, h1, h2, D, hst, hback, hval⟩ := draw X i pins s σ H eP ew eK (I.ok.hd hc) I hgo.2 hsrc
    have Wk := WalksT.enumerateD D en hei h1 h2
    refine Wk.item i s _ E hgo.1 ⟨⟨old, he⟩, hst⟩ fun T vals h' tk hp hT htup hmid hkeep => ⟨_, rfl, ?_⟩
    obtain ⟨t, u, hu, rfl⟩ := hp
    obtain ⟨x, rx, hx⟩ := hval i u hu
    refine Wk.go elts kk tpos i T _ _ E hmid fun h'' hst'' hkeep' => ?_
    have hTn : T ∉ [en, it] := Wk.apart i T h' hmid
    obtain ⟨oT, hoT, hcT, nT, hdT⟩ := htup
    have new : ObjOk X.prog X.w (upd H T (.tup [.int (i : Nat), x])) h'' T (.tup [.int (i : Nat), x]) :=
      ⟨by rw [sizeLine_eq]; simp, [.int i t, u], .cons ⟨t, rfl⟩ (.cons rx .nil), oT, hkeep' T oT hTn hoT, hcT, nT, hdT⟩
    have I' := I.turnedNew (ch := [en, it]) (h' := h'') (t' := tk) (fun b o hb q => hkeep' b o hb (hkeep b o hb q)) hf hT new
    refine ⟨.ref T, _, I', rfl, ⟨T, x, hx, rfl, I.hok.fresh hT, rfl⟩, ⟨hst''.1, hback _ _ hst''.2⟩, fun b hb => ?_⟩
    have hlt : b < s.heap.objs.size := by
      rcases two hb with rfl | rfl
      · exact Heap.lt_size he
      · obtain ⟨o, ho, _⟩ := own i _ hsrc
        exact Heap.lt_size ho
    rw [upd_ne (Nat.ne_of_lt (Nat.lt_of_lt_of_le hlt hT))]
    exact (hf b hb).1
  · intro X eP ew eK hc i pins s σ H E I hf ⟨⟨old, he⟩, hsrc⟩ hend
    obtain ⟨hn, hΦ⟩ := hend
    subst hn
    obtain ⟨fp, Pv, St, h1, h2, D, hst, hback, hval⟩ := draw X n pins s σ H eP ew eK (I.ok.hd hc) I hΦ hsrc
    obtain ⟨f0, f1, f2, f3, f4, f5⟩ := hf it (by simp)
    refine wpAny_pyNext_enum_endD D he hst fun h' hx => ⟨rfl, ?_⟩
    exact I.turned (t' := s.toks) (fun b o hb q => hx b o hb q) f0 f1 f3 f4 f5
  · rintro A i s Q E ⟨⟨old, he⟩, _⟩ hq
    exact wpAny_pyIter_enum he hq
end
end Mi
set_option Elab.async false
set_option linter.all false
set_option maxRecDepth 100000
set_option maxHeartbeats 4000000
/-! Mi14: enumerate as a walk; which stores are swapped; name = [..]. -/
namespace Mi
open PySem PySem.Spec PyProof.Rows L2

section
variable {X : Cx} {wr0 : List (Nat × Nat)} {G : Pd} {W : WX} {k : Nat} {a b c e tg : Expr} {es : List Expr} {ma mb mc mv mo mi : EM D} {pos : Pos} {r0 r r' : List Addr} {H0 H H' : Hp} {st : Env} {S : Sto} {σ : L2.St} {K : PySem.W.Frag}
def enumL : Nat → List D → List D
  | _, [] => []
  | k, x :: r => mkTup [pint (k : Nat), x] :: enumL (k + 1) r
theorem enumL_length : ∀ (k : Nat) (xs : List D), (enumL k xs).length = xs.length
  | _, [] => rfl
  | k, x :: r => by simp [enumL, enumL_length (k + 1) r]
theorem enumL_get : ∀ {k : Nat} {xs : List D} {i : Nat} {d : D}, (enumL k xs)[i]? = some d → ∃ x, xs[i]? = some x ∧ d = mkTup [pint ((k + i : Nat) : Int), x]
  | _, [], i, d, h => by simp [enumL] at h
  | k, x :: r, 0, d, h => by simp [enumL] at h; exact ⟨x, by simp, h.symm⟩
  | k, x :: r, i + 1, d, h => by
    obtain ⟨y, h1, h2⟩ := enumL_get (k := k + 1) (xs := r) (i := i) (by simpa [enumL] using h)
    exact ⟨y, by simpa using h1, by rw [h2]; congr 3; omega⟩
def iEnum (m : EM D) : EM ItR := fun st S => (m st S).bind fun d S1 => match walkD d S1 with
  | some a => if noK d = true then .ok ⟨enumL 0 a.xs, a.chk⟩ S1 else .stuck
  | none => .stuck
theorem pair_rep {d : D} {x : V} {i : Nat} {T : Addr} (h : Rep r K H d x) (hT : H T = none) : Rep r K (upd H T (.tup [.int (i : Nat), x])) (mkTup [pint ((0 + i : Nat) : Int), d]) (.ref T) := by
  rw [Nat.zero_add]
  exact Rep.mkTup upd_same (.cons (.int _) (.cons (h.mono (Kp.new hT) (List.prefix_refl _)) .nil))
/-- enumerate(v) lays v's iterator and its own object -/
theorem enum_lays {v : Value} {o : Obj} {C : Heap → Prop} (B : Begins v o C) :
    Meets (Builtin.«enumerate.__new__» ⟨[.type "enumerate", v], []⟩) fun _ R s => C s.heap ∧ R (.ok (.ret (.ref (s.heap.objs.size + 1)))) { s with heap := (s.heap.push o).push { cls := .type "enumerate", data := .fields #[.none, .bool false, .ref s.heap.objs.size, rawInt 0, .none, .none] } } := by
  refine .of_wp fun prog w A R s h => ?_
  obtain ⟨hp, g, d, tk, os⟩ := s
  obtain ⟨hC, hR⟩ := h
  have it0 : ∀ {A' : Around} {E : Value → Shared → Prop} {Q : Value → Shared → Prop}, Q (.ref hp.objs.size) ⟨hp.push o, g, d, tk, os⟩ → wpAny (model prog w) A' (pyIter v) Q E ⟨hp, g, d, tk, os⟩ := fun q => B.iter prog w _ _ ⟨hp, g, d, tk, os⟩ _ hC q
  have sub0 := sub_enumerate
  have size0 : (hp.push o).objs.size = hp.objs.size + 1 := Heap.size_push ..
  have fin : ∀ {r : Result}, r = .ok (.ret (.ref (hp.push o).objs.size)) → R r ⟨(hp.push o).push { cls := .type "enumerate", data := .fields #[.none, .bool false, .ref hp.objs.size, rawInt 0, .none, .none] }, g, d, tk, os⟩ := fun e => by
    rw [e, size0]
    exact hR
  wp_walk using it0
  refine wpAny_stack_any fun _ => wpAny_pure ?_
  split
  · rename_i cl _ _ _ _ _
    cases (cl == Value.type "enumerate") <;> (wp_walk using it0; exact ⟨_, rfl, fin rfl⟩)
  · wp_walk using it0
    exact ⟨_, rfl, fin rfl⟩
theorem enum_made {prog : Program} {w : World} {A : Around} {E : Value → Shared → Prop} {s : Shared} {v : Value} {o : Obj} {C : Heap → Prop} (B : Begins v o C) (hC : C s.heap) {Q : Value → Shared → Prop}
    (h : ∀ h', IsEnum h' (s.heap.objs.size + 1) s.heap.objs.size 0 .none → h'.get? s.heap.objs.size = some o → (∀ b q, s.heap.get? b = some q → h'.get? b = some q) → Q (.ref (s.heap.objs.size + 1)) { s with heap := h' }) :
    wpAny (model prog w) A (call (.type "enumerate") [v]) Q E s := by
  have size0 : (s.heap.push o).objs.size = s.heap.objs.size + 1 := Heap.size_push ..
  have there : ∀ q : Obj, q.isFreed = false → ((s.heap.push o).push q).get? (s.heap.objs.size + 1) = some q := fun q hq => by
    rw [← size0]
    exact Heap.get?_push_size _ hq
  refine callType_new F.called_enumerate (by decide) (F.typeCall_enumerate_1 v) (F.newCall_enumerate_1 v) (fun x => F.args_object_init_2 x v) F.entry_enumerate_new (enum_lays B) ⟨hC, ⟨_, there _ rfl, rfl⟩, ?_⟩
  exact h _ (there _ rfl) (Heap.get?_push_of_some _ (Heap.get?_push_size _ B.free)) fun b q e => Heap.get?_push_of_some _ (Heap.get?_push_of_some _ e)
/-- pairs of numbers and items, from what a source yields -/
theorem rit_pairs {xs : List D} {Φ : Hp → Prop} {Px : Nat → V → Prop} (hΦ : ∀ H', Kp H H' → Φ H') (hp : ∀ r' H', r <+: r' → Kp H H' → ∀ i d x, xs[i]? = some d → Px i x → Rep r' G.K H' d x) : RIt wr0 G r H ⟨enumL 0 xs, fun _ => true⟩ (Itn xs.length Φ Px) := by
  intro r' H' S' e' k' hs' _ i
  refine ⟨fun d hd => ?_, fun hi => ⟨(enumL_length 0 xs).symm.trans hi, hΦ H' k'⟩⟩
  obtain ⟨y, hy, rfl⟩ := enumL_get hd
  refine ⟨⟨(List.getElem?_eq_some_iff.mp hy).1, hΦ H' k'⟩, ?_⟩
  rintro z H'' ⟨T, x, hx, rfl, hT, rfl⟩
  exact ⟨Kp.new hT, hs'.other hT, pair_rep (hp r' H' e' k' i y x hy hx) hT⟩
/-- enumerate(e), e no list: by what its iterator draws -/
theorem enum_walk {pins : List (Addr × Obj)} {s : Shared} {R : It → Hp → Prop} {elts : List Expr} {kk n : Nat} {tpos : Pos} {v : Value} {o : Obj} {C : Heap → Prop} {Φ : Hp → Prop} {Px : Nat → V → Prop} {src : Addr → Nat → Heap → Prop} (I : L2.Inv X pins σ H s) (B : Begins v o C) (hC : C s.heap)
    (h0 : ∀ h', h'.get? s.heap.objs.size = some o → src s.heap.objs.size 0 h')
    (T : Turn X.prog X.w X.K (.Tuple elts kk tpos) (Itn n Φ Px) [s.heap.objs.size + 1, s.heap.objs.size] (s.heap.objs.size + 1) (fun i h => (∃ old, IsEnum h (s.heap.objs.size + 1) s.heap.objs.size ((i : Nat) : Int) old) ∧ src s.heap.objs.size i h)) (q : R (Itn n Φ Px) H) :
    wpAny (model X.prog X.w) X.A (call (.type "enumerate") [v]) (fun u s1 => wpAny (model X.prog X.w) X.A (pyIter u) (PIE X pins σ (.Tuple elts kk tpos) R) X.xe s1) X.xe s := by
  refine enum_made B hC fun h' he hit hk => wpAny_pyIter_enum he ⟨_, _, _, _, H, rfl, I.kept (t' := s.toks) hk, T, ⟨⟨_, he⟩, h0 h' hit⟩, fun b hb => ?_, q⟩
  have hle : s.heap.objs.size ≤ b := by
    rcases List.mem_cons.mp hb with z | z
    · exact z ▸ Nat.le_succ _
    · exact Nat.le_of_eq (List.mem_singleton.mp z).symm
  exact I.fpOk hle (I.hok.fresh hle)
theorem i_enum {p tpos : Pos} {elts : List Expr} {kk : Nat} (hK : X.K = G.K) (hg : Gl X "enumerate") (hm : X.mg "enumerate" = none) (ha : PE X e (TEm wr0 G W ma)) (hs : noStar e = true) :
    PI X (.Tuple elts kk tpos) (.Call (.Name "enumerate" p) [e] [] pos) (Tm wr0 G W (RIt wr0 G) (Mi.iEnum ma)) := by
  have hA : PA X [e] (TAm wr0 G W (mCons ma mNil)) := qa_cons ha qa_nil hs
  have hst : starEach [e] X.env = [(false, eval e X.env)] := star_of hs [] X.env
  constructor
  rintro pins s σ H R I ⟨r, st, S, he, hs0, hr⟩
  unfold Mi.iEnum at hr
  have args : ∀ {d : D} {S1 : Sto}, ma st S = .ok d S1 → mCons ma mNil st S = .ok [d] S1 := fun h => by simp [mCons, mNil, h]
  cases hm1 : ma st S with
  | stuck => rw [hm1] at hr; exact hr.elim
  | exc x S1 =>
    rw [hm1] at hr
    exact (pi_enum hg hm hA hst).run pins s σ H R I ⟨r, st, S, he, hs0, by simp only [mCons, hm1, Res.bind_exc]; exact hr⟩
  | ok d S1 =>
    rw [hm1] at hr
    simp only [Res.bind_ok] at hr
    split at hr
    · rename_i aw hw
      split at hr
      · rename_i hk
        have other : (∀ r1 H1 x u s1, r <+: r1 → RelS wr0 r1 G.K H1 S1 → Kp H H1 → Rep r1 G.K H1 d x → L2.Inv X pins σ H1 s1 → RelV x u → wpAny (model X.prog X.w) X.A (call (.type "enumerate") [u]) (fun v s2 => wpAny (model X.prog X.w) X.A (pyIter v) (PIE X pins σ (.Tuple elts kk tpos) R) X.xe s2) X.xe s1) →
            wpAny (model X.prog X.w) X.A (eval (.Call (.Name "enumerate" p) [e] [] pos) X.env) (fun v s1 => wpAny (model X.prog X.w) X.A (pyIter v) (PIE X pins σ (.Tuple elts kk tpos) R) X.xe s1) X.xe s := fun go => by
          refine Call_ (ld_blt I hg hm boot_enumerate (PyProof.Rows.callWith_type1 (thn (hA.run pos pins s σ H (fun vs H1 => ∃ x r1, vs = [x] ∧ r <+: r1 ∧ RelS wr0 r1 G.K H1 S1 ∧ Kp H H1 ∧ Rep r1 G.K H1 d x) I (tm_ok he hs0 (args hm1) fun r1 H1 vs e1 hs1 k1 hv => ?_)) fun us s1 hh => ?_) hst rfl))
          · obtain ⟨x, rfl, hx⟩ := hv.one
            exact ⟨x, r1, rfl, e1, hs1, k1, hx⟩
          · obtain ⟨vs, H1, I1, rv, x, r1, rfl, e1, hs1, k1, hx⟩ := hh
            obtain ⟨u, rfl, ru⟩ := rv.one
            exact go r1 H1 x u s1 e1 hs1 k1 hx I1 ru
        unfold walkD at hw
        split at hw
        · rename_i xs hl
          cases hw
          refine (pi_enum hg hm hA hst).run pins s σ H R I (tm_ok he hs0 (args hm1) fun r1 H1 vs e1 hs1 k1 hv => ?_)
          obtain ⟨x, rfl, hx⟩ := hv.one
          obtain ⟨l, ws, rfl, hrd, _⟩ := hs1.list hx hl
          rw [hK]
          refine ⟨l, ws, rfl, .inl hrd, hr r1 H1 _ e1 hs1 k1 ?_⟩
          intro r' H' S' e' k' hs' hc i
          obtain ⟨l', ws', el, hrd', hq⟩ := hs'.list (hx.mono k' e') (of_decide_eq_true hc)
          cases el
          refine ⟨fun d' hd' => ?_, fun hi => ⟨ws', .inl hrd', by rw [← hq.length, ← enumL_length 0 xs]; exact Nat.le_of_eq hi⟩⟩
          obtain ⟨y, hy, rfl⟩ := enumL_get hd'
          obtain ⟨z, hz, hrz⟩ := hq.get hy
          refine ⟨⟨ws', z, .inl hrd', hz⟩, ?_⟩
          rintro q H'' ⟨T, y', rfl, hT, rfl, hall⟩
          have ez := hall ws' (.inl hrd')
          rw [hz] at ez
          cases ez
          exact ⟨Kp.new hT, hs'.other hT, pair_rep hrz hT⟩
        · split at hw
          · rename_i x0 _
            cases hw
            refine other fun r1 H1 x u s1 e1 hs1 k1 hx I1 ru => ?_
            obtain ⟨rfl, hasc⟩ := hx.str_inv
            obtain ⟨t, rfl⟩ := ru
            refine enum_walk (src := fun it i h => h.IsStrIter it (strIterType ⟨x0.toArray⟩) ⟨x0.toArray⟩ t i) (Φ := fun _ => True) (n := (x0.map fun c => pstr [c]).length) (Px := fun i v => ∃ c, x0[i]? = some c ∧ v = .str ⟨#[c]⟩) I1 (begins_text _ t) True.intro (fun h' hit => ⟨_, hit, rfl, rfl⟩) ?_ ?_
            · refine turn_pairs (Nat.succ_ne_self _) (fun i h ⟨o, ho, _, hd⟩ => ⟨o, ho, fun v z => by rw [hd] at z; cases z⟩) (fun i h h' ⟨o, ho, q⟩ hk => ⟨o, hk o ho, q⟩) fun X' i pins' s' σ' H' eP ew eK hh I' _ hsrc => ?_
              have D := Draws.text (prog := X'.prog) (w := X'.w) (A := X'.A.in1) hh s1.heap.objs.size ⟨x0.toArray⟩ t
              have en : (⟨x0.toArray⟩ : Str).cps.size = (x0.map fun c => pstr [c]).length := by simp
              rw [eP, ew, en] at D
              refine ⟨_, _, _, by simp, by simp, D, hsrc, fun _ _ q => q, ?_⟩
              rintro j u ⟨c, tt, hc, rfl⟩
              exact ⟨.str ⟨#[c]⟩, ⟨tt, rfl⟩, c, by simpa using hc, rfl⟩
            · refine hr r1 H1 _ e1 hs1 k1 (rit_pairs (fun _ _ => True.intro) fun r' H' e' k' i d' v hd' hv => ?_)
              obtain ⟨c, hc, rfl⟩ := hv
              rw [List.getElem?_map, hc] at hd'
              cases hd'
              exact .str (x := [c]) fun z hz => by
                cases List.mem_singleton.mp hz
                exact hasc c (List.mem_of_getElem? hc)
          · cases hk
          · split at hw
            · rename_i xs hx0
              cases hw
              refine other fun r1 H1 x u s1 e1 hs1 k1 hx I1 ru => ?_
              obtain ⟨l, ws, rfl, hl, hq⟩ := hx.items hx0
              cases ru
              obtain ⟨its, rv, ht, _⟩ := I1.tuple (SqT.of hl)
              have hlt : l < s1.heap.objs.size := by obtain ⟨_, q, _⟩ := ht; exact Heap.lt_size q
              refine enum_walk (src := fun it i h => h.IsTupleIter it l i) (Φ := fun H' => H' l = some (.tup ws)) (n := xs.length) (Px := fun i v => ws[i]? = some v) I1 (begins_tuple l its.toArray) ht (fun h' hit => ⟨_, hit, rfl, rfl⟩) ?_ ?_
              · refine turn_pairs (Nat.succ_ne_self _) (fun i h ⟨o, ho, _, hd⟩ => ⟨o, ho, fun v z => by rw [hd] at z; cases z⟩) (fun i h h' q hk => q.at hk) fun X' i pins' s' σ' H' eP ew eK hh I' hΦ hsrc => ?_
                obtain ⟨its', rv', ht', _⟩ := I'.tuple (SqT.of hΦ)
                have D := Draws.tuple (prog := X'.prog) (w := X'.w) (A := X'.A.in1) hh s1.heap.objs.size l (Nat.ne_of_lt hlt) its'.toArray
                have en : its'.toArray.size = xs.length := by rw [List.size_toArray, ← rv'.length, ← hq.length]
                rw [eP, ew, en] at D
                refine ⟨_, _, _, ?_, by simp, D, ⟨hsrc, ht'⟩, fun _ _ q => q.1, fun j v hv => ?_⟩
                · simp only [List.mem_cons, List.not_mem_nil, or_false, not_or]
                  exact ⟨Nat.succ_ne_self _, Nat.ne_of_gt (Nat.lt_succ_of_lt hlt)⟩
                · have hv' : its'[j]? = some v := by simpa using hv
                  have hj : j < ws.length := by rw [rv'.length]; exact (List.getElem?_eq_some_iff.mp hv').1
                  obtain ⟨v2, h2, rel⟩ := rv'.get (List.getElem?_eq_getElem hj)
                  rw [hv'] at h2
                  cases h2
                  exact ⟨ws[j], rel, List.getElem?_eq_getElem hj⟩
              · refine hr r1 H1 _ e1 hs1 k1 (rit_pairs (fun H' k' => k'.tup hl) fun r' H' e' k' i d' v hd' hv => ?_)
                obtain ⟨v2, h2, rep⟩ := (hq.mono k' e').get hd'
                rw [hv] at h2
                cases h2
                exact rep
            · cases hw
      · exact hr.elim
    · exact hr.elim

/-! ### which stores are swapped -/
def bkS (sc : Scope) : ScopeKind := if sc.kind.isAnnotationScope then .function else sc.kind
def compScope : Expr → Option Scope
  | .ListComp _ _ sc _ => some sc
  | .SetComp _ _ sc _ => some sc
  | .DictComp _ _ _ sc _ => some sc
  | _ => none
def swB (value : Expr) (target : Expr) (sc : Scope) : Bool := match compScope value with
  | none => false
  | some scope => match target with
    | .Name t pos => bkS sc == .function && sc.names.lookup t == some .local && pos.line == value.pos.line && !(scope.names.any fun (n, k) => n == t && (k == .local || k == .cell))
    | _ => false
theorem swB_of {value target : Expr} {line : Nat} {env : PySem.Env} : swapsWith value (some target) line env = pure (swB value target env.scope) := by
  cases value <;> first | rfl | (cases target <;> rfl)
def isStar : Expr → Bool
  | .Starred .. => true
  | _ => false
def stNames (ts : List Expr) (sc : Scope) : List Str := ts.filterMap fun
    | .Name id pos => if sc.names.lookup id == some .local && pos.line == (ts.head?.map (·.pos.line)).getD 0 then some id else none
    | _ => none
/-- none: not told by the model -/
def stB (ts vs : List Expr) (sc : Scope) : Option (Option (List Str)) :=
  if (!(ts.length == 2 || ts.length == 3) || vs.length != ts.length || bkS sc != .function) = true then some none else
  if (vs.any isStar) = true then some none else
  if ((stNames ts sc).length != ts.length || (stNames ts sc).eraseDups.length != (stNames ts sc).length) = true then some none else
  if (vs.all (foldedForSure 8)) = true then some none else
  if (vs.all (constantsAlone 8)) = true then none else some (some (stNames ts sc))
theorem any_isStar (vs : List Expr) : (vs.any fun | .Starred .. => true | _ => false) = vs.any isStar := by
  congr 1
theorem stB_of {ts vs : List Expr} {k1 k2 : Nat} {p1 p2 : Pos} {env : PySem.Env} {r : Option (List Str)} (h : stB ts vs env.scope = some r) : swappedStores [.Tuple ts k1 p1] (.Tuple vs k2 p2) env = pure r := by
  unfold stB at h
  unfold swappedStores
  simp only [pure_bind]
  split at h
  · rename_i c1
    cases h
    exact if_pos c1
  · rename_i c1
    refine (if_neg c1).trans ?_
    split at h
    · rename_i c2
      cases h
      exact if_pos c2
    · rename_i c2
      refine (if_neg c2).trans ?_
      split at h
      · rename_i c3
        cases h
        exact if_pos c3
      · rename_i c3
        refine (if_neg c3).trans ?_
        split at h
        · rename_i c4
          cases h
          exact if_pos c4
        · rename_i c4
          refine (if_neg c4).trans ?_
          split at h
          · cases h
          · rename_i c5
            cases h
            exact if_neg c5
theorem st_none {tg e : Expr} {env : PySem.Env} (h : ∀ ts k p, tg ≠ .Tuple ts k p) (h2 : ∀ ts p, tg ≠ .List ts p) : swappedStores [tg] e env = pure none := by
  cases tg <;> first | rfl | (exact absurd rfl (h _ _ _)) | (exact absurd rfl (h2 _ _))
theorem st_none2 {ts : List Expr} {k : Nat} {p : Pos} {e : Expr} {env : PySem.Env} (h : ∀ vs k p, e ≠ .Tuple vs k p) : swappedStores [.Tuple ts k p] e env = pure none := by
  cases e <;> first | rfl | (exact absurd rfl (h _ _ _))
end
end Mi
set_option Elab.async false
set_option linter.all false
set_option maxRecDepth 100000
set_option maxHeartbeats 4000000
/-! Mi15: calls of defs. -/
namespace Mi
open PySem PySem.Spec PyProof.Rows L2

/-- a def's promise to callers under whom nothing guards a printing: then what repr tells is known -/
structure FnG (P : Program) (w : World) (K : PySem.W.Frag) (mg : Str → Option Value) (base : Heap) (k : Nat) (f : Addr) (fd : FuncData) (ps : List Str) (sp : Sp) : Prop where
  np : ∀ {vs H Q E}, sp vs H Q E → vs.length = ps.length
  go : ∀ {A : Around} {outer : List PySem.Env} {s : Shared} {H : Hp} {args : Args} {us : List Value} {vs : List V} {Q : VK} {E : XK}, Room k A → A.guards = some [] → Env0 P w K mg base A outer s H → BindsTo s fd args (ps.zip us) → Vals vs us → sp vs H Q E →
    codeAny (model P w) A (.call (.ref f) args) (CR (L2.CX P w) outer P w H s Q E) s
section
variable {P : Program} {w : World} {K : PySem.W.Frag} {mg : Str → Option Value} {base : Heap} {A : Around} {outer : List PySem.Env} {s s' : Shared} {H : Hp}
/-- whatever stands in the base stands at a call -/
theorem e0_keep (e : Env0 P w K mg base A outer s H) : ∀ b o, base.get? b = some o → s.heap.get? b = some o := fun b o z => (e.bs b o z).left
/-- where a def's parameters lie -/
theorem par_at {N ps : List Str} {scope : Scope} (S : FnScope N ps scope) (us : List Value) (n : Nat) (y : Str × Value) (hy : y ∈ ps.zip us) :
    scope.names.lookup y.1 = some .local ∨ scope.names.lookup y.1 = some .cell ∧ ((cellsFrom n scope.names []).lookup y.1).isSome = true := by
  have hm := List.of_mem_zip (a := y.1) (b := y.2) hy
  exact (S.par y.1 hm.1).imp id fun c => ⟨c, PySem.W.cellsFrom_some _ _ _ (.inl c)⟩
/-- what a body's end tells the caller -/
def endV : Flow → Value
  | .ret v => v
  | _ => .none
/-- a body's end is its call's end -/
theorem body_end {N : List Str} {qual : Str} {scope : Scope} {f : Addr} {cd : Value} {E : XK} {Q : VK} (fl : Flow) (h : SP (cxOf (L2.CX P w) P w K mg base N qual scope f cd A outer s H E) [] { nx := fun _ H' => Q .non H', rt := Q } fl s') :
    CR (L2.CX P w) outer P w H s Q E (.ok (.ret (endV fl))) s' := by
  have key : ∀ {σ' H'} {x : V} {u : Value}, L2.Inv (cxOf (L2.CX P w) P w K mg base N qual scope f cd A outer s H E) [] σ' H' s' → RelV x u → Q x H' → CE outer P w H s Q u s' := fun J hx hq => ⟨_, _, J.os, J.bare, J.base, J.hok, hx, hq⟩
  match fl, h with
  | .next, ⟨_, _, J, hq⟩ => exact key (x := .non) J rfl hq
  | .ret _, ⟨_, _, _, J, hx, hq⟩ => exact key J hx hq
  | .brk, ⟨_, _, _, z⟩ => exact z.elim
  | .cont, ⟨_, _, _, z⟩ => exact z.elim
end
/-- a def of the text keeps a promise that its body keeps -/
theorem fnG_of {P : Program} {w : World} {K : PySem.W.Frag} {mg : Str → Option Value} {base : Heap} {k : Nat} {x qual : Str} {params : Arguments} {body : List Stmt} {scope : Scope} {dvs : List V} {kws : List (Str × V)} {f : Addr} {fd : FuncData} {N ps : List Str} {sp : Sp}
    (F : FunD K x qual params body scope dvs kws f fd) (S : FnScope N ps scope) (np : ∀ {vs H Q E}, sp vs H Q E → vs.length = ps.length)
    (hbody : ∀ (cd : Value) (A : Around) (outer : List PySem.Env) (s : Shared) (H : Hp) (vs : List V) (Q : VK) (E : XK), Room k (A.deeper (envOfC qual scope s.heap.objs.size f cd)) → A.guards = some [] → sp vs H Q E →
      ∃ t, PSs (cxOf (L2.CX P w) P w K mg base N qual scope f cd A outer s H E) body t ∧ t { nx := fun _ H' => Q .non H', rt := Q } (L2.start N vs) H) :
    FnG P w K mg base (k + 1) f fd ps sp := by
  obtain ⟨oc, od, dV, kV, doc, pm, an, cd, ct, osl, rfl, lk, hcode, -, -⟩ := F.ex
  refine ⟨np, ?_⟩
  intro A outer s H args us vs Q E room quiet e0 bind rel want
  have kin := e0.mod.kin.keeps (e0_keep e0)
  have free := e0.mod.nolimit.keeps (e0_keep e0)
  obtain ⟨t, hp, ht⟩ := hbody cd A outer s H vs Q E (room.deeper _) quiet want
  apply codeAny_call_function room.depth (kin f _ lk) rfl S.co S.gen rfl (PySem.W.codeRec_of kin hcode)
  apply bind
  apply wpAny_newFunctionEnv_cells S.kind (par_at S us _)
  rintro _ rfl s1 entered
  refine ⟨free.keeps entered.toInCall.keep, codeAny_func ?_⟩
  have J := inv_start (CX := L2.CX P w) (qual := qual) (f := f) (cd := cd) (E := E) S room.hd e0 (np want) rel entered
  exact wpAny_mono (hp.run [] s1 _ H _ J ht) (fun fl s2 z => by have q := body_end fl z; cases fl <;> exact q) fun _ _ z => z

def Calls := Str → List D → Sto → Res D
/-- what a def's run promises -/
def spF (G : Pd) (np : Nat) (run : List D → Sto → Res D) : Sp := fun vs H Q E => ∃ wr0 r S ds, RelS wr0 r G.K H S ∧ Reps r G.K H ds vs ∧ ds.length = np ∧ Run wr0 G (fun cls da _ H' => E cls da H') (RD G) r [] H (run ds S) Q
section
variable {X : Cx} {wr0 : List (Nat × Nat)} {G : Pd} {W : WX} {k : Nat} {e : Expr} {es : List Expr} {pos : Pos} {r0 r r' : List Addr} {H0 H H' : Hp} {st : Env} {S : Sto} {σ : L2.St} {K : PySem.W.Frag}
theorem run_fnG {pins : List (Addr × Obj)} {s : Shared} {Q : VK} {us : List Value} {vs : List V} {f : Addr} {fd : FuncData} {ps : List Str} {sp : Sp} (F : FnG X.prog X.w X.K X.mg X.base k f fd ps sp) (hr : Room k X.A) (hgd : X.A.guards = some []) (hb : Binds X.K fd ps []) (tk : Takes X W)
    (I : L2.Inv X pins σ H s) (r : Vals vs us) (h : sp vs H Q (WE W σ)) : wpAny (model X.prog X.w) X.A (call (.ref f) us) (EP X pins σ Q) X.xe s := by
  have bound : BindsTo s fd ⟨us, []⟩ (ps.zip us) := by
    have z := hb s us I.kIn
    simp only [List.append_nil] at z
    exact z (r.length.symm.trans (F.np h))
  apply wpAny_call
  apply codeAny_mono (F.go hr hgd I.env0 bound r h)
  intro res s' hq
  match res, hq with
  | .ok (.ret u), hq => exact I.after hq
  | .error e, hq => exact passAt tk σ pins H s e s' I hq
def mCall (calls : Calls) (x : Str) (np : Nat) (as : EM (List D)) : EM D := fun st S => (as st S).bind fun ds S1 => if ds.length = np then calls x ds S1 else .stuck
theorem sp_of {calls : Calls} {x : Str} {np : Nat} {ds : List D} {vs : List V} {Q : VK} (hs : RelS wr0 r G.K H S) (hd : Reps r G.K H ds vs) (h : Run wr0 G W (RD G) r σ H (if ds.length = np then calls x ds S else .stuck) Q) : spF G np (calls x) vs H Q (WE W σ) := by
  split at h
  · rename_i hl
    refine ⟨wr0, r, S, ds, hs, hd, hl, ?_⟩
    cases hc : calls x ds S with
    | ok d S' => rw [hc] at h; exact h
    | exc x S' => rw [hc] at h; exact h
    | stuck => rw [hc] at h; exact h
  · exact h.elim
theorem q_call {calls : Calls} {x : Str} {np : Nat} {mas : EM (List D)} {p : Pos} {f : Addr} {fd : FuncData} {ps : List Str} (F : FnG X.prog X.w X.K X.mg X.base k f fd ps (spF G np (calls x))) (hr : Room k X.A) (hgd : X.A.guards = some []) (tk : Takes X W) (hg : Gl X x) (hm : X.mg x = some (.ref f)) (hk : PySem.W.keepIn X.K (.ref f) = true) (hb : Binds X.K fd ps [])
    (ha : PA X (e :: es) (TAm wr0 G W mas)) (hdb : (x == ("__debug__" : Str)) = false) (hs : (e :: es).all noStar = true) : PE X (.Call (.Name x p) (e :: es) [] pos) (TEm wr0 G W (mCall calls x np mas)) := by
  rw [List.all_cons, Bool.and_eq_true] at hs
  refine ⟨fun pins s σ H Q I h => ?_⟩
  obtain ⟨r, st, S, he, hs0, hr0⟩ := h
  refine wpAny_Call_Name_kw (ld_glob I hg hm ?_ hdb)
  refine PySem.W.callWith_K (h₀ := X.base) I.ok.mod.kin hk (thn (ha.run pos pins s σ H _ I ⟨r, st, S, he, hs0, Run.bind (R := RDs G) he hr0⟩) fun us s1 hh => ?_) (star_of hs.1 es X.env) (plain_star hs.2 pos X.env)
  obtain ⟨vs, H1, I1, rv, r1, ds, S1, e1, k1, he1, hs1, hx, hr1⟩ := hh
  exact ⟨I1.kIn, run_fnG F hr hgd hb tk I1 rv (sp_of hs1 hx hr1)⟩
theorem q_call0 {calls : Calls} {x : Str} {np : Nat} {p : Pos} {f : Addr} {fd : FuncData} {ps : List Str} (F : FnG X.prog X.w X.K X.mg X.base k f fd ps (spF G np (calls x))) (hr : Room k X.A) (hgd : X.A.guards = some []) (tk : Takes X W) (hg : Gl X x) (hm : X.mg x = some (.ref f)) (hk : PySem.W.keepIn X.K (.ref f) = true) (hb : Binds X.K fd ps [])
    (hdb : (x == ("__debug__" : Str)) = false) : PE X (.Call (.Name x p) [] [] pos) (TEm wr0 G W (mCall calls x np mNil)) := by
  refine ⟨fun pins s σ H Q I h => ?_⟩
  obtain ⟨r, st, S, he, hs0, hr0⟩ := h
  refine wpAny_Call_Name_kw (ld_glob I hg hm ?_ hdb)
  exact PySem.W.callWith_K0 I.kIn hk (run_fnG (us := []) F hr hgd hb tk I .nil (sp_of hs0 .nil hr0))

/-! ### a def's body -/
def excTop (x : Exc) : Nat := D.tops (x.fs.map (·.2))
/-- what is left of a store behind a call: S before, S' behind, the result's references below S.len -/
def backTo0 (S S' : Sto) : Sto := { objs := S'.objs.take S.len, wr := (S'.wr.filter fun q => decide (q.1 < S.len)) ++ S.wr }
def backAll (S S' : Sto) : Sto := { objs := S'.objs, wr := S'.wr ++ S.wr }
def backOne (S S' : Sto) (o : MO) : Sto := { objs := S'.objs.take S.len ++ [o], wr := (S'.wr.filter fun q => decide (q.1 < S.len)) ++ S.wr }
def finish (S : Sto) (d : D) (S' : Sto) : Res D :=
  if S'.cutOk S.len = true then
    if d.top ≤ S.len then .ok d (backTo0 S S') else match d with
      | .ref n => match S'.get n with
        | some o => if o.top ≤ S.len ∧ S.len ≤ n then .ok (.ref S.len) (backOne S S' o) else .ok d (backAll S S')
        | none => .ok d (backAll S S')
      | d => .ok d (backAll S S')
  else .ok d (backAll S S')
def callBody (n : Nat) (m : SM) (ds : List D) (S : Sto) : Res D :=
  match m (ds.map some ++ List.replicate (n - ds.length) none) { S with wr := [] } with
  | .rt d S' => finish S d S'
  | .nx _ S' => finish S pnon S'
  | .exc x _ S' => if excTop x ≤ S.len ∧ S'.cutOk S.len = true then .exc x (backTo0 S S') else .exc x (backAll S S')
  | _ => .stuck
theorem RelS.enter (h : RelS wr0 r K H S) : RelS (S.wr ++ wr0) r K H { S with wr := [] } :=
  ⟨h.len, h.nd, h.obj, fun n o e => by simpa using h.fwd n o e, fun q hq => h.wrb q (by simpa using hq)⟩
theorem RelS.all {S' : Sto} (h : RelS (S.wr ++ wr0) r' K H S') : RelS wr0 r' K H (backAll S S') :=
  ⟨h.len, h.nd, h.obj, fun n o e => by simpa [backAll] using h.fwd n o e, fun q hq => h.wrb q (by simpa [backAll] using hq)⟩
theorem RelS.leave {S' : Sto} (h0 : RelS wr0 r K H0 S) (h : RelS (S.wr ++ wr0) r' K H S') (e : r <+: r') (hc : S'.cutOk S.len = true) : RelS wr0 r K H (backTo0 S S') := by
  have hb : S.len ≤ S'.len := by rw [← h0.len, ← h.len]; exact e.length_le
  have z := h.cut hb hc h0.wrb
  have er : r'.take S.len = r := by
    obtain ⟨t, rfl⟩ := e
    rw [← h0.len, List.take_left]
  rw [er] at z
  exact ⟨z.len, z.nd, z.obj, fun n o q => by simpa [backTo0, Sto.cut] using z.fwd n o q, fun q hq => z.wrb q (by simpa [backTo0, Sto.cut] using hq)⟩
theorem RelS.leave1 {S' : Sto} {n : Nat} {o : MO} (h0 : RelS wr0 r K H0 S) (h : RelS (S.wr ++ wr0) r' K H S') (e : r <+: r') (hc : S'.cutOk S.len = true) (hg : S'.get n = some o) (ht : o.top ≤ S.len) (hn : S.len ≤ n) : ∃ l, r'[n]? = some l ∧ RelS wr0 (r ++ [l]) K H (backOne S S' o) := by
  obtain ⟨l, hl, hrep⟩ := h.obj n o hg
  refine ⟨l, hl, ?_⟩
  have z := h0.leave h e hc
  have er : r'.take S.len = r := by
    obtain ⟨t, rfl⟩ := e
    rw [← h0.len, List.take_left]
  have hlen : (backTo0 S S').objs.length = S.len := by
    have := z.len
    rw [h0.len] at this
    exact this.symm
  have hnm : l ∉ r := fun hm => by
    obtain ⟨j, hj⟩ := List.getElem?_of_mem hm
    have hj' : r'[j]? = some l := by
      obtain ⟨t, rfl⟩ := e
      rw [List.getElem?_append_left (List.getElem?_eq_some_iff.mp hj).1]
      exact hj
    have := nodup_at h.nd hj' hl
    have h2 := (List.getElem?_eq_some_iff.mp hj).1
    rw [h0.len] at h2
    omega
  have hrep' : ORep (r ++ [l]) K H l o := (er ▸ hrep.cut ht : ORep r K H l o).monoT (fun _ _ q => q) (List.prefix_append _ _) rfl
  have hobjs : (backOne S S' o).objs = (backTo0 S S').objs ++ [o] := rfl
  refine ⟨?_, ?_, fun m o2 q => ?_, fun m o2 q => ?_, fun q hq => ?_⟩
  · show _ = (backOne S S' o).objs.length
    rw [hobjs, List.length_append, List.length_append, hlen, h0.len]
    rfl
  · rw [List.nodup_append]
    exact ⟨h0.nd, by simp, fun x hx y hy => by simp at hy; subst hy; exact fun e => hnm (e ▸ hx)⟩
  · have q' : ((backTo0 S S').objs ++ [o])[m]? = some o2 := q
    by_cases hm : m < (backTo0 S S').objs.length
    · rw [List.getElem?_append_left hm] at q'
      obtain ⟨b, h1, h2⟩ := z.obj m o2 q'
      exact ⟨b, by rw [List.getElem?_append_left (List.getElem?_eq_some_iff.mp h1).1]; exact h1, h2.monoT (fun _ _ q => q) (List.prefix_append _ _) rfl⟩
    · have hm' : m = (backTo0 S S').objs.length := by
        have := (List.getElem?_eq_some_iff.mp q').1
        simp at this
        omega
      subst hm'
      simp at q'
      subst q'
      refine ⟨l, ?_, hrep'⟩
      rw [hlen, ← h0.len]
      simp
  · have q' : ((backTo0 S S').objs ++ [o])[m]? = some o2 := q
    by_cases hm : m < (backTo0 S S').objs.length
    · rw [List.getElem?_append_left hm] at q'
      exact z.fwd m o2 q'
    · have hm' : m = (backTo0 S S').objs.length := by
        have := (List.getElem?_eq_some_iff.mp q').1
        simp at this
        omega
      subst hm'
      simp at q'
      subst q'
      rw [hlen]
      exact .inl ht
  · have h1 := z.wrb q hq
    show q.2 ≤ (backOne S S' o).objs.length
    rw [hobjs, List.length_append]
    have : (backTo0 S S').len = (backTo0 S S').objs.length := rfl
    omega
theorem ExcRep.cut {x : Exc} {cls : Value} {da : Option Addr} {b : Nat} (h : ExcRep r G H x cls da) (hb : excTop x ≤ b) : ExcRep (r.take b) G H x cls da := by
  obtain ⟨C, h1, h2, h3⟩ := h
  refine ⟨C, h1, h2, ?_⟩
  rcases h3 with h3 | ⟨d, fvs, e1, e2, h3⟩
  · exact .inl h3
  · refine .inr ⟨d, fvs, e1, e2, paired_strong h3 fun a ha b' q => ⟨q.1, q.2.cut ?_⟩⟩
    exact Nat.le_trans (top_le_of_mem (List.mem_map_of_mem ha)) hb
theorem finish_ok {d : D} {S' : Sto} {Q : VK} (h0 : RelS wr0 r G.K H S) (h : Run wr0 G W (RD G) r σ H (finish S d S') Q) (e : r <+: r') (k' : Kp H H') (hs : RelS (S.wr ++ wr0) r' G.K H' S') {v : V} (hd : Rep r' G.K H' d v) : Q v H' := by
  have all : Run wr0 G W (RD G) r σ H (.ok d (backAll S S')) Q → Q v H' := fun h => h r' H' v e hs.all k' hd
  unfold finish at h
  split at h
  · rename_i hc
    split at h
    · rename_i ht
      have er : r'.take S.len = r := by
        obtain ⟨t, rfl⟩ := e
        rw [← h0.len, List.take_left]
      have hd' := hd.cut ht
      rw [er] at hd'
      exact h r H' v (List.prefix_refl _) (h0.leave hs e hc) k' hd'
    · split at h
      · rename_i n _
        split at h
        · rename_i o hg
          split at h
          · rename_i ht
            obtain ⟨l, hl, hs1⟩ := h0.leave1 hs e hc hg ht.1 ht.2
            obtain ⟨l', rfl, hl'⟩ := RelS.ref_at hd
            rw [hl] at hl'
            cases hl'
            refine h (r ++ [l]) H' _ (List.prefix_append _ _) hs1 k' (.ref ?_)
            rw [← h0.len]
            simp
          · exact all h
        · exact all h
      · exact all h
  · exact all h
theorem relE_start {N : List Str} {ds : List D} {vs : List V} (hd : Reps r K H ds vs) (hl : ds.length ≤ N.length) : RelE r K H (start N vs) (ds.map some ++ List.replicate (N.length - ds.length) none) := by
  have hv := hd.length
  refine ⟨by simp [L2.start, hv], fun i d q => ?_⟩
  by_cases hi : i < ds.length
  · rw [List.getElem?_append_left (by simpa using hi), List.getElem?_map] at q
    cases hx : ds[i]? with
    | none => rw [hx] at q; cases q
    | some x =>
      rw [hx] at q
      cases q
      obtain ⟨v, h1, h2⟩ := hd.get hx
      refine ⟨v, ?_, h2⟩
      unfold L2.start
      rw [List.getElem?_append_left (by simpa [← hv] using hi), List.getElem?_map, h1]
      rfl
  · rw [List.getElem?_append_right (by simpa using hi)] at q
    rw [List.getElem?_replicate] at q
    split at q <;> cases q
/-- a def's body, run -/
theorem body_ok {N : List Str} {np : Nat} {body : List Stmt} {m : SM} {vs : List V} {Q : VK} {E : XK} (hb : ∀ wr0, BOk X wr0 G (fun cls da _ H' => E cls da H') body m) (hN : np ≤ N.length) (h : spF G np (callBody N.length m) vs H Q E) :
    ∃ t, PSs X body t ∧ t { nx := fun _ H' => Q .non H', rt := Q } (start N vs) H := by
  obtain ⟨wr0, r, S, ds, hs, hd, hl, hr⟩ := h
  refine ⟨_, hb (S.wr ++ wr0) r H, r, _, { S with wr := [] }, List.prefix_refl _, Kp.refl, relE_start (N := N) hd (by omega), hs.enter, ?_⟩
  unfold callBody at hr
  cases ho : m (ds.map some ++ List.replicate (N.length - ds.length) none) { S with wr := [] } with
  | rt d S' =>
    rw [ho] at hr
    exact fun r' H' v e' k' hs' hv => finish_ok hs hr e' k' hs' hv
  | nx st' S' =>
    rw [ho] at hr
    exact fun r' H' σ' e' k' he' hs' => finish_ok hs hr e' k' hs' (.p .non)
  | exc x st' S' =>
    rw [ho] at hr
    intro r' H' σ' cls da e' k' he' hs' hx
    simp only at hr
    split at hr
    · rename_i hc
      have er : r'.take S.len = r := by
        obtain ⟨t, rfl⟩ := e'
        rw [← hs.len, List.take_left]
      have hx' := hx.cut hc.1
      rw [er] at hx'
      exact hr r H' cls da (List.prefix_refl _) (hs.leave hs' e' hc.2) k' hx'
    · exact hr r' H' cls da e' hs'.all k' hx
  | bk st' S' => rw [ho] at hr; exact hr.elim
  | ct st' S' => rw [ho] at hr; exact hr.elim
  | stuck => rw [ho] at hr; exact hr.elim
end
end Mi
set_option Elab.async false
set_option linter.all false
set_option maxRecDepth 100000
set_option maxHeartbeats 4000000
/-! Mi16: expressions of the text, turned into runs; that the runs are theirs. -/
namespace Mi
open PySem PySem.Spec PyProof.Rows L2

/-- the text's side: the slots' names, the scope, which cells may be stored, the defs with their numbers of parameters, the constants -/
structure TC where
  N : List Str
  sc : Scope
  fn : Str → Bool
  fns : List (Str × Nat)
  cs : List (Str × D)
structure Blt where
  ty : Bool
  id : String
  f : FN
def bltTable : List (Str × Blt) := [
  ("len", ⟨false, "len", lenF⟩), ("int", ⟨true, "int", intF⟩), ("tuple", ⟨true, "tuple", tupleF⟩), ("list", ⟨true, "list", listF⟩), ("max", ⟨false, "max", maxF⟩), ("min", ⟨false, "min", minF⟩),
  ("sum", ⟨false, "sum", sumF⟩), ("all", ⟨false, "all", allF⟩), ("any", ⟨false, "any", anyF⟩), ("repr", ⟨false, "repr", reprF⟩)]
def tyTable : List (Str × String) := [("str", "str"), ("int", "int"), ("bool", "bool"), ("tuple", "tuple"), ("list", "list"), ("dict", "dict")]
/-- built-in names that the runs lean on -/
def bltNames : List Str := ["len", "int", "tuple", "list", "max", "min", "sum", "all", "any", "repr", "str", "bool", "dict", "isinstance", "range", "enumerate", "zip", "sorted", "set", "ValueError"]
structure Ft (X : Cx) (G : Pd) (W : WX) (calls : Calls) (T : TC) (k : Nat) : Prop where
  hK : X.K = G.K
  hm : X.mg = G.mg
  calm : X.calm = true
  room : Room k X.A
  gd : X.A.guards = some []
  nd : X.N.Nodup
  N : X.N = T.N
  sc : X.env.scope = T.sc
  fn : X.fn = T.fn
  tk : Takes X W
  po : PassesOwn (model X.prog X.w) X.A X.env X.xe
  fns : ∀ x np, T.fns.lookup x = some np → ∃ f fd ps, X.mg x = some (.ref f) ∧ PySem.W.keepIn X.K (.ref f) = true ∧ Binds X.K fd ps [] ∧ FnG X.prog X.w X.K X.mg X.base k f fd ps (spF G np (calls x))
  cs : ∀ x d, T.cs.lookup x = some d → ∃ v u, X.mg x = some u ∧ RelV v u ∧ ∀ r H, Rep r G.K H d v
  bl : ∀ x ∈ bltNames, X.mg x = none

section
variable {X : Cx} {wr0 : List (Nat × Nat)} {G : Pd} {W : WX} {calls : Calls} {T : TC} {k : Nat} {a b c e tg : Expr} {es : List Expr} {pos : Pos}
theorem Ft.fit (F : Ft X G W calls T k) : Fit X G k := ⟨F.hK, by rw [F.hm], F.calm, F.room, F.gd, F.nd⟩
theorem Ft.units (F : Ft X G W calls T k) : X.A.units + 65 < cLine := by have := F.room.un; omega

/-! ### names -/
def idx : List Str → Str → Option Nat
  | [], _ => none
  | y :: r, x => if (y == x) = true then some 0 else match idx r x with
    | some i => some (i + 1)
    | none => none
theorem idx_of : ∀ {N : List Str} {x : Str} {i : Nat}, idx N x = some i → N[i]? = some x
  | [], _, _, h => by cases h
  | y :: r, x, i, h => by
    unfold idx at h
    split at h
    · rename_i e
      cases h
      simp [eq_of_beq e]
    · split at h
      · rename_i j hj
        cases h
        simpa using idx_of hj
      · cases h
def isGl (T : TC) (x : Str) : Bool := match T.sc.names.lookup x with
  | some .globalImplicit => true
  | _ => false
theorem isGl_of (F : Ft X G W calls T k) {x : Str} (h : isGl T x = true) : Gl X x := by
  unfold isGl at h
  show X.env.scope.names.lookup x = _
  rw [F.sc]
  split at h
  · assumption
  · cases h
def isVis (T : TC) (x : Str) : Bool := match T.sc.names.lookup x with
  | some .local => true
  | some .cell => true
  | some .free => true
  | _ => false
theorem isVis_of (F : Ft X G W calls T k) {x : Str} (h : isVis T x = true) : Vis X.env.scope x := by
  unfold isVis at h
  unfold Vis
  rw [F.sc]
  split at h
  · rename_i e; exact .inl e
  · rename_i e; exact .inr (.inl e)
  · rename_i e; exact .inr (.inr e)
  · cases h
def okName (x : Str) : Bool := !(x == ("__debug__" : Str)) && !(x == ("__classdict__" : Str))
theorem okName_of {x : Str} (h : okName x = true) : (x == ("__debug__" : Str)) = false ∧ (x == ("__classdict__" : Str)) = false := by
  unfold okName at h
  simpa using h

/-! ### results -/
structure ER where
  v : EM D
  t : EM Bool
def eStuck : ER := ⟨fun _ _ => .stuck, fun _ _ => .stuck⟩
def EOk (X : Cx) (wr0 : List (Nat × Nat)) (G : Pd) (W : WX) (e : Expr) (r : ER) : Prop := PE X e (TEm wr0 G W r.v) ∧ PT X e (TTm wr0 G W r.t)
theorem eStuck_ok : EOk X wr0 G W e eStuck := ⟨⟨fun pins s σ H Q I h => by obtain ⟨r, st, S, he, hs, hr⟩ := h; exact hr.elim⟩, ⟨fun pins s σ H Q I h => by obtain ⟨r, st, S, he, hs, hr⟩ := h; exact hr.elim⟩⟩
def plainR (e : Expr) (v : EM D) : ER := ⟨v, if plainT e = true then mTru v else fun _ _ => .stuck⟩
theorem plainR_ok {v : EM D} (hK : X.K = G.K) (h : PE X e (TEm wr0 G W v)) : EOk X wr0 G W e (plainR e v) := by
  refine ⟨h, ?_⟩
  unfold plainR
  simp only
  split
  · rename_i hp; exact qt_plain hK h hp
  · exact (eStuck_ok (X := X) (wr0 := wr0) (G := G) (W := W)).2

def trConst : Const → Option D
  | .int i => some (pint i)
  | .bool b => some (pbl b)
  | .none => some pnon
  | .str x => if x.cps.toList.all (fun c => decide (c < 128)) = true then some (pstr x.cps.toList) else none
  | _ => none
theorem trConst_ok {cst : Const} {d : D} {j : Nat} (h : trConst cst = some d) : PE X (.Constant cst j pos) (TEm wr0 G W (mC d)) := by
  unfold trConst at h
  split at h
  · cases h; exact q_c pe_int fun r H => .int _
  · cases h; exact q_c pe_bl fun r H => .bl _
  · cases h; exact q_c pe_non fun r H => .p .non
  · rename_i x
    split at h
    · rename_i ha
      cases h
      refine q_c pe_str fun r H => ?_
      have e : x = ⟨x.cps.toList.toArray⟩ := by simp
      have z : Rep r G.K H (pstr x.cps.toList) (.str ⟨x.cps.toList.toArray⟩) := .str fun c hc => of_decide_eq_true (List.all_eq_true.mp ha c hc)
      rw [← e] at z
      exact z
    · cases h
  · cases h
def trName (T : TC) (x : Str) : EM D := if isVis T x = true ∧ okName x = true then match idx T.N x with
    | some i => mVar i
    | none => fun _ _ => .stuck
  else if isGl T x = true ∧ okName x = true then match T.cs.lookup x with
    | some d => mC d
    | none => fun _ _ => .stuck
  else fun _ _ => .stuck
theorem trName_ok (F : Ft X G W calls T k) {x : Str} : PE X (.Name x pos) (TEm wr0 G W (trName T x)) := by
  unfold trName
  split
  · rename_i h
    split
    · rename_i i hi
      exact q_var (by rw [F.N]; exact idx_of hi) (isVis_of F h.1) (okName_of h.2).1 (okName_of h.2).2
    · exact eStuck_ok.1
  · split
    · rename_i h
      split
      · rename_i d hd
        obtain ⟨v, u, h1, h2, h3⟩ := F.cs x d hd
        exact q_c (pe_glob (isGl_of F h.1) h1 h2 (okName_of h.2).1) h3
      · exact eStuck_ok.1
    · exact eStuck_ok.1

/-! ### operators -/
def opF : Operator → Option F2
  | .Add => some addF
  | .Sub => some subF
  | .Mult => some mulF
  | .Mod => some modF
  | .FloorDiv => some fdivF
  | .Pow => some powF
  | _ => none
theorem opF_ok (F : Ft X G W calls T k) {op : Operator} {f : F2} (h : opF op = some f) : OpR X (binaryOp op) (r2 wr0 G f) := by
  cases op <;> first | (cases h; first | exact op_addF F.hK | exact op_subF | exact op_mulF F.hK | exact op_modF | exact op_fdivF | exact op_powF) | cases h
def cmpF : CmpOp → F2
  | .Eq => eqF
  | .NotEq => neF
  | .Lt => ltF
  | .LtE => leF
  | .Gt => gtF
  | .GtE => geF
  | .Is => isF
  | .IsNot => isNotF
  | .In => inF
  | .NotIn => notInF
theorem cmpF_ok (F : Ft X G W calls T k) (op : CmpOp) : OpR X (compareOp op) (r2 wr0 G (cmpF op)) := by
  have hu := F.units
  cases op with
  | Eq => exact op_eqF F.hK (by omega)
  | NotEq => exact op_neF F.hK (by omega)
  | Lt => exact op_ltF
  | LtE => exact op_leF
  | Gt => exact op_gtF
  | GtE => exact op_geF
  | Is => exact op_isF
  | IsNot => exact op_isNotF
  | In => exact op_inF F.hK hu
  | NotIn => exact op_notInF F.hK hu

/-! ### lists of expressions -/
def trArgs (rec : Expr → ER) : List Expr → EM (List D)
  | [] => mNil
  | e :: es => if noStar e = true then mCons (rec e).v (trArgs rec es) else fun _ _ => .stuck
theorem trArgs_ok {rec : Expr → ER} (h : ∀ e, EOk X wr0 G W e (rec e)) : ∀ es, PA X es (TAm wr0 G W (trArgs rec es))
  | [] => qa_nil
  | e :: es => by
    unfold trArgs
    split
    · rename_i hn
      exact qa_cons (h e).1 (trArgs_ok h es) hn
    · exact ⟨fun pos pins s σ H Q I h => by obtain ⟨r, st, S, he, hs, hr⟩ := h; exact hr.elim⟩
def trAnd (rec : Expr → ER) : List Expr → ER
  | [] => eStuck
  | [a] => rec a
  | a :: b :: r => ⟨mAnd (rec a).v (trAnd rec (b :: r)).v, mAndT (rec a).t (trAnd rec (b :: r)).t⟩
theorem trAnd_ok (hK : X.K = G.K) {rec : Expr → ER} (h : ∀ e, EOk X wr0 G W e (rec e)) : ∀ a es, PE X (.BoolOp .And (a :: es) pos) (TEm wr0 G W (trAnd rec (a :: es)).v) ∧ PW X (.BoolOp .And (a :: es) pos) (TTm wr0 G W (trAnd rec (a :: es)).t)
  | a, [] => ⟨q_one (h a).1, qw_and1 (h a).2⟩
  | a, b :: r => ⟨q_and hK (h a).1 (trAnd_ok hK h b r).1, qw_and (h a).2 (trAnd_ok hK h b r).2⟩
def trOr (rec : Expr → ER) : List Expr → ER
  | [] => eStuck
  | [a] => rec a
  | a :: b :: r => ⟨mOr (rec a).v (trOr rec (b :: r)).v, mOrT (rec a).t (trOr rec (b :: r)).t⟩
theorem trOr_ok (hK : X.K = G.K) {rec : Expr → ER} (h : ∀ e, EOk X wr0 G W e (rec e)) : ∀ a es, PE X (.BoolOp .Or (a :: es) pos) (TEm wr0 G W (trOr rec (a :: es)).v) ∧ PW X (.BoolOp .Or (a :: es) pos) (TTm wr0 G W (trOr rec (a :: es)).t)
  | a, [] => ⟨q_one (h a).1, qw_or1 (h a).2⟩
  | a, b :: r => ⟨q_or hK (h a).1 (trOr_ok hK h b r).1, qw_or (h a).2 (trOr_ok hK h b r).2⟩
def trPart (rec : Expr → ER) : Option Expr → EM (Option Int)
  | none => mPart none
  | some e => mPart (some (rec e).v)
theorem trPart_ok {rec : Expr → ER} (h : ∀ e, EOk X wr0 G W e (rec e)) : ∀ o, PO X o (Tm wr0 G W RI (trPart rec o))
  | none => qo_none
  | some e => qo_some (h e).1
def trPairs (rec : Expr → ER) : List (Option Expr) → List Expr → Option (List (EM D × EM D))
  | [], [] => some []
  | some k :: ks, v :: vs => match trPairs rec ks vs with
    | some l => some (((rec k).v, (rec v).v) :: l)
    | none => none
  | _, _ => none
theorem trPairs_ok {rec : Expr → ER} (h : ∀ e, EOk X wr0 G W e (rec e)) : ∀ {ks : List (Option Expr)} {vs : List Expr} {l : List (EM D × EM D)}, trPairs rec ks vs = some l → PPs X pos ks vs (l.map fun p => (TEm wr0 G W p.1, TEm wr0 G W p.2)) ∧ ks.all (·.isSome) = true ∧ ks.length = vs.length
  | [], [], l, e => by cases e; exact ⟨pps_nil, rfl, rfl⟩
  | some k :: ks, v :: vs, l, e => by
    unfold trPairs at e
    split at e
    · rename_i l' h'
      cases e
      obtain ⟨h1, h2, h3⟩ := trPairs_ok h h'
      exact ⟨pps_cons (h k).1 (h v).1 h1, by simpa using h2, by simp [h3]⟩
    · cases e
  | none :: ks, vs, l, e => by cases vs <;> cases e
  | some k :: ks, [], l, e => by cases e
  | [], v :: vs, l, e => by cases e

/-! ### built-in functions, methods -/
theorem blt_ok (F : Ft X G W calls T k) {x : Str} {b : Blt} (h : (x, b) ∈ bltTable) : bootBuiltins x = some (if b.ty = true then .type b.id else .builtin b.id) ∧ CallR X (if b.ty = true then .type b.id else .builtin b.id) (rN wr0 G b.f) ∧ x ∈ bltNames ∧ x ≠ "__name__" := by
  simp only [bltTable, List.mem_cons, List.not_mem_nil, or_false, Prod.mk.injEq] at h
  rcases h with ⟨rfl, rfl⟩ | ⟨rfl, rfl⟩ | ⟨rfl, rfl⟩ | ⟨rfl, rfl⟩ | ⟨rfl, rfl⟩ | ⟨rfl, rfl⟩ | ⟨rfl, rfl⟩ | ⟨rfl, rfl⟩ | ⟨rfl, rfl⟩ | ⟨rfl, rfl⟩
  · exact ⟨by decide +kernel, cr_len F.hK, by decide +kernel, by decide +kernel⟩
  · exact ⟨by decide +kernel, cr_int, by decide +kernel, by decide +kernel⟩
  · exact ⟨by decide +kernel, cr_tuple F.hK, by decide +kernel, by decide +kernel⟩
  · exact ⟨by decide +kernel, cr_list F.hK, by decide +kernel, by decide +kernel⟩
  · exact ⟨by decide +kernel, cr_maxF F.hK F.calm, by decide +kernel, by decide +kernel⟩
  · exact ⟨by decide +kernel, cr_minF F.hK F.calm, by decide +kernel, by decide +kernel⟩
  · exact ⟨by decide +kernel, cr_sumF F.hK F.calm, by decide +kernel, by decide +kernel⟩
  · exact ⟨by decide +kernel, cr_allF F.calm, by decide +kernel, by decide +kernel⟩
  · exact ⟨by decide +kernel, cr_anyF F.calm, by decide +kernel, by decide +kernel⟩
  · exact ⟨by decide +kernel, cr_reprF F.fit, by decide +kernel, by decide +kernel⟩
theorem ty_ok {x : Str} {t : String} (h : (x, t) ∈ tyTable) : bootBuiltins x = some (.type t) ∧ x ∈ bltNames ∧ x ≠ "__name__" := by
  simp only [tyTable, List.mem_cons, List.not_mem_nil, or_false, Prod.mk.injEq] at h
  rcases h with ⟨rfl, rfl⟩ | ⟨rfl, rfl⟩ | ⟨rfl, rfl⟩ | ⟨rfl, rfl⟩ | ⟨rfl, rfl⟩ | ⟨rfl, rfl⟩ <;> exact ⟨by decide +kernel, by decide +kernel, by decide +kernel⟩
def mTable : List (Str × List String × FM) := [("append", ["list"], appendM), ("extend", ["list"], extendM), ("pop", ["list"], popM), ("reverse", ["list"], reverseM), ("join", ["str"], joinM), ("get", ["dict"], dgetM)]
theorem meth_ok (F : Ft X G W calls T k) {x : Str} {Ts : List String} {f : FM} (h : (x, Ts, f) ∈ mTable) : MRule X wr0 G x Ts f := by
  have hu := F.units
  simp only [mTable, List.mem_cons, List.not_mem_nil, or_false, Prod.mk.injEq] at h
  rcases h with ⟨rfl, rfl, rfl⟩ | ⟨rfl, rfl, rfl⟩ | ⟨rfl, rfl, rfl⟩ | ⟨rfl, rfl, rfl⟩ | ⟨rfl, rfl, rfl⟩ | ⟨rfl, rfl, rfl⟩
  · exact mr_append
  · exact mr_extend
  · exact mr_pop
  · exact mr_reverse
  · exact mr_join F.hK
  · exact mr_dget (by omega)
theorem lookup_mem {α : Type} : ∀ {l : List (Str × α)} {x : Str} {b : α}, l.lookup x = some b → (x, b) ∈ l
  | [], _, _, h => by cases h
  | (y, c) :: r, x, b, h => by
    rw [List.lookup_cons] at h
    split at h
    · rename_i e
      cases h
      rw [eq_of_beq e]
      exact List.mem_cons_self
    · exact List.mem_cons_of_mem _ (lookup_mem h)

end
end Mi
set_option Elab.async false
set_option linter.all false
set_option maxRecDepth 100000
set_option maxHeartbeats 4000000
/-! Mi17: expressions of the text: calls, comprehensions, all together. -/
namespace Mi
open PySem PySem.Spec PyProof.Rows L2
section
variable {X : Cx} {wr0 : List (Nat × Nat)} {G : Pd} {W : WX} {calls : Calls} {T : TC} {k : Nat} {a b c e tg : Expr} {es : List Expr} {pos : Pos}

/-! ### calls -/
def isNil {α : Type} : List α → Bool
  | [] => true
  | _ => false
def trCallN (rec : Expr → ER) (calls : Calls) (T : TC) (x : Str) (es : List Expr) : EM D :=
  if (isGl T x && okName x && es.all noStar) = true then match T.fns.lookup x with
    | some np => mCall calls x np (trArgs rec es)
    | none => match bltTable.lookup x with
      | some b => if isNil es = true then fun _ _ => .stuck else mN b.f (trArgs rec es)
      | none => fun _ _ => .stuck
  else fun _ _ => .stuck
theorem trCallN_ok (F : Ft X G W calls T k) {rec : Expr → ER} (h : ∀ e, EOk X wr0 G W e (rec e)) {x : Str} {p : Pos} : PE X (.Call (.Name x p) es [] pos) (TEm wr0 G W (trCallN rec calls T x es)) := by
  unfold trCallN
  split
  · rename_i hc
    rw [Bool.and_eq_true, Bool.and_eq_true] at hc
    obtain ⟨⟨hg, hn⟩, hs⟩ := hc
    split
    · rename_i np hl
      obtain ⟨f, fd, ps, h1, h2, h3, h4⟩ := F.fns x np hl
      cases es with
      | nil => exact q_call0 h4 F.room F.gd F.tk (isGl_of F hg) h1 h2 h3 (okName_of hn).1
      | cons e es => exact q_call h4 F.room F.gd F.tk (isGl_of F hg) h1 h2 h3 (trArgs_ok h _) (okName_of hn).1 hs
    · split
      · rename_i b hb
        split
        · exact eStuck_ok.1
        · rename_i hne
          cases es with
          | nil => exact absurd rfl hne
          | cons e es =>
            obtain ⟨h1, h2, h3, h4⟩ := blt_ok (wr0 := wr0) F (lookup_mem hb)
            have hs' := hs
            rw [List.all_cons, Bool.and_eq_true] at hs'
            cases hty : b.ty with
            | true =>
              rw [hty] at h1 h2
              simp only [if_true] at h1 h2
              exact q_callT h2 (isGl_of F hg) (F.bl x h3) h1 (trArgs_ok h _) h4 (okName_of hn).1 hs
            | false =>
              rw [hty] at h1 h2
              simp only [Bool.false_eq_true, if_false] at h1 h2
              exact q_callB h2 (isGl_of F hg) (F.bl x h3) h1 (trArgs_ok h _) h4 (okName_of hn).1 hs
      · exact eStuck_ok.1
  · exact eStuck_ok.1
def trIsi (rec : Expr → ER) (T : TC) (a : Expr) (x : Str) : EM D :=
  if (isGl T "isinstance" && isGl T x && okName x && noStar a) = true then match tyTable.lookup x with
    | some t => mIsi t (rec a).v
    | none => fun _ _ => .stuck
  else fun _ _ => .stuck
theorem trIsi_ok (F : Ft X G W calls T k) {rec : Expr → ER} (h : ∀ e, EOk X wr0 G W e (rec e)) {x : Str} {p p2 : Pos} : PE X (.Call (.Name "isinstance" p) [a, .Name x p2] [] pos) (TEm wr0 G W (trIsi rec T a x)) := by
  unfold trIsi
  split
  · rename_i hc
    rw [Bool.and_eq_true, Bool.and_eq_true, Bool.and_eq_true] at hc
    obtain ⟨⟨⟨hg, hg2⟩, hn⟩, hs⟩ := hc
    split
    · rename_i t ht
      obtain ⟨h1, h2, h3⟩ := ty_ok (lookup_mem ht)
      exact q_isi F.hK (isGl_of F hg) (F.bl _ (by decide +kernel)) (isGl_of F hg2) (F.bl x h2) h1 (h a).1 h3 (okName_of hn).1 hs
    · exact eStuck_ok.1
  · exact eStuck_ok.1
def trMeth (rec : Expr → ER) (o : Expr) (name : Str) (es : List Expr) (apos cpos : Pos) : EM D :=
  if (plainBase o && (apos.endLine == cpos.line) && es.all noStar && decide (es.length < 28)) = true then match mTable.lookup name with
    | some (Ts, f) => mMeth Ts f (rec o).v (trArgs rec es)
    | none => fun _ _ => .stuck
  else fun _ _ => .stuck
theorem trMeth_ok (F : Ft X G W calls T k) {rec : Expr → ER} (h : ∀ e, EOk X wr0 G W e (rec e)) {o : Expr} {name : Str} {apos : Pos} : PE X (.Call (.Attribute o name apos) es [] pos) (TEm wr0 G W (trMeth rec o name es apos pos)) := by
  unfold trMeth
  split
  · rename_i hc
    rw [Bool.and_eq_true, Bool.and_eq_true, Bool.and_eq_true, decide_eq_true_eq] at hc
    obtain ⟨⟨⟨hb, hl⟩, hs⟩, hn⟩ := hc
    split
    · rename_i Ts f hm
      have hr := meth_ok (wr0 := wr0) F (lookup_mem hm)
      cases es with
      | nil => exact q_meth0 F.hK hr (h o).1 hb hl
      | cons e es => exact q_meth F.hK hr (h o).1 (trArgs_ok h _) hb hl hs (by simp at hn; omega)
    · exact eStuck_ok.1
  · exact eStuck_ok.1

/-! ### targets -/
def trTg (T : TC) : Nat → Expr → Option Tg
  | n + 1, .Name x _ => if isSt T.sc T.fn x = true then match idx T.N x with
      | some i => some (.nm i)
      | none => none
    else none
  | n + 1, .Tuple es _ _ => if es.all noStar = true then match optAll (trTg T n) es with
      | some ts => some (.tup ts)
      | none => none
    else none
  | _, _ => none
theorem optAll_len {α β : Type} {f : α → Option β} : ∀ {l : List α} {m : List β}, optAll f l = some m → l.length = m.length
  | [], m, h => by cases h; rfl
  | x :: r, m, h => by
    unfold optAll at h
    split at h
    · rename_i y ys h1 h2
      cases h
      simp [optAll_len h2]
    · cases h
theorem trTg_ok (F : Ft X G W calls T k) : ∀ (n : Nat) {e : Expr} {t : Tg}, trTg T n e = some t → PG X e (TGm wr0 G t)
  | 0, e, t, h => by cases e <;> cases h
  | n + 1, e, t, h => by
    cases e with
    | Name x p =>
      simp only [trTg] at h
      split at h
      · rename_i hs
        split at h
        · rename_i i hi
          cases h
          exact g_name F.nd (by rw [F.N]; exact idx_of hi) (isSt_of (by rw [F.sc, F.fn]; exact hs))
        · cases h
      · cases h
    | Tuple es kk p =>
      simp only [trTg] at h
      split at h
      · rename_i hs
        split at h
        · rename_i ts ht
          cases h
          refine g_tup F.calm ?_ hs (optAll_len ht)
          have key : ∀ {es : List Expr} {ts : List Tg}, es.all noStar = true → optAll (trTg T n) es = some ts → PGs X es (TGsm wr0 G ts) := by
            intro es
            induction es with
            | nil => intro ts _ h; cases h; exact gs_nil
            | cons e es ih =>
              intro ts hs h
              rw [List.all_cons, Bool.and_eq_true] at hs
              unfold optAll at h
              split at h
              · rename_i t0 ts0 h1 h2
                cases h
                exact gs_cons (trTg_ok F n h1) (ih hs.2 h2) hs.1
              · cases h
          exact key hs ht
        · cases h
      · cases h
    | _ => cases h

/-! ### what is walked -/
def isTupE : Expr → Bool
  | .Tuple .. => true
  | _ => false
inductive Wk where
  | im (m : EM ItR) | any (m : EM D)
def trIt (rec : Expr → ER) (T : TC) (tg e : Expr) : Wk := match e with
  | .Call (.Name x p) [a] [] pos =>
    if (x == ("range" : Str) && isGl T "range" && noStar a) = true then .im (iRange1 (mCons (rec a).v mNil))
    else if (x == ("enumerate" : Str) && isGl T "enumerate" && noStar a && isTupE tg) = true then .im (iEnum (rec a).v)
    else .any (rec (.Call (.Name x p) [a] [] pos)).v
  | .Call (.Name x p) [a, b] [] pos =>
    if (x == ("range" : Str) && isGl T "range" && noStar a && noStar b) = true then .im (iRange2 (mCons (rec a).v (mCons (rec b).v mNil)))
    else .any (rec (.Call (.Name x p) [a, b] [] pos)).v
  | e => .any (rec e).v
def WkOk (X : Cx) (wr0 : List (Nat × Nat)) (G : Pd) (W : WX) (tg e : Expr) : Wk → Prop
  | .im m => PI X tg e (Tm wr0 G W (RIt wr0 G) m)
  | .any m => PE X e (TEm wr0 G W m)
theorem trIt_ok (F : Ft X G W calls T k) {rec : Expr → ER} (h : ∀ e, EOk X wr0 G W e (rec e)) : WkOk X wr0 G W tg e (trIt rec T tg e) := by
  unfold trIt
  split
  · rename_i x p a pos
    split
    · rename_i hc
      rw [Bool.and_eq_true, Bool.and_eq_true] at hc
      obtain ⟨⟨hx, hg⟩, hs⟩ := hc
      have := eq_of_beq hx
      subst this
      exact i_range1 (isGl_of F hg) (F.bl _ (by decide +kernel)) (qa_cons (h a).1 qa_nil hs) hs
    · split
      · rename_i hc
        rw [Bool.and_eq_true, Bool.and_eq_true, Bool.and_eq_true] at hc
        obtain ⟨⟨⟨hx, hg⟩, hs⟩, ht⟩ := hc
        have := eq_of_beq hx
        subst this
        cases tg with
        | Tuple elts kk tpos => exact i_enum F.hK (isGl_of F hg) (F.bl _ (by decide +kernel)) (h a).1 hs
        | _ => cases ht
      · exact (h _).1
  · rename_i x p a b pos
    split
    · rename_i hc
      rw [Bool.and_eq_true, Bool.and_eq_true, Bool.and_eq_true] at hc
      obtain ⟨⟨⟨hx, hg⟩, hs⟩, hs2⟩ := hc
      have := eq_of_beq hx
      subst this
      exact i_range2 (isGl_of F hg) (F.bl _ (by decide +kernel)) (qa_cons (h a).1 (qa_cons (h b).1 qa_nil hs2) hs) hs hs2
    · exact (h _).1
  · exact (h _).1
def mLcK (w : Wk) (t : Tg) (c : EM Bool) (elt : EM D) (vs : List Nat) : EM D := match w with
  | .im m => mLc m t c elt vs
  | .any m => mLcAny m t c elt vs
theorem q_lcK {w : Wk} {t : Tg} {mt : EM Bool} {me : EM D} {ifs : List Expr} {elt iter : Expr} {scope : Scope} {own : List (Str × Nat)} (hK : X.K = G.K) (hc : X.calm = true) (hN : X.N.Nodup) (hi : WkOk X wr0 G W tg iter w) (P : LcP X wr0 G scope tg ifs elt t mt me own) (hn : noSet iter = true) :
    PE X (.ListComp elt [⟨tg, iter, ifs, 0⟩] scope pos) (TEm wr0 G W (mLcK w t mt me (own.map (·.2)))) := by
  cases w with
  | im m => exact q_lc hc hN hi P hn
  | any m => exact q_lcAny hK hc hN hi P hn

/-! ### comprehensions -/
def TC.blk (T : TC) (scope : Scope) : TC := { T with sc := relS scope T.sc, fn := fun x => scope.names.lookup x == some .cell }
def ownOf (N : List Str) (scope : Scope) : List (Str × Nat) := scope.names.filterMap fun y => match y.2 with
  | .local => (idx N y.1).map fun i => (y.1, i)
  | .cell => (idx N y.1).map fun i => (y.1, i)
  | _ => none
theorem Ft.blk (F : Ft X G W calls T k) (s : Shared) (H : Hp) (scope : Scope) (C : Addr) (cl : List (Str × Addr)) (fp : List Addr) : Ft (X.blk s H scope (compEnvC scope cl C X.env) fp) G W0 calls (T.blk scope) k where
  hK := F.hK
  hm := F.hm
  calm := F.calm
  room := F.room
  gd := F.gd
  nd := F.nd
  N := F.N
  sc := by
    show relabel scope X.env = relS scope T.sc
    rw [← F.sc]
    rfl
  fn := rfl
  tk := takes0
  po := PassesOwn.never
  fns := F.fns
  cs := F.cs
  bl := F.bl
def slotsIn (t : Tg) (own : List (Str × Nat)) : Bool := t.slots.all fun j => (own.map (·.2)).contains j
def trIfs (rec : Expr → ER) : List Expr → EM Bool
  | [] => mYes
  | [c] => (rec c).t
  | _ => fun _ _ => .stuck
theorem trIfs_ok {rec : Expr → ER} (h : ∀ e, EOk X wr0 G W e (rec e)) : ∀ es, PTs X es (TTm wr0 G W (trIfs rec es))
  | [] => qts_nil
  | [c] => pts_one (h c).2
  | _ :: _ :: _ => ⟨fun pins s σ H Q I h => by obtain ⟨r, st, S, he, hs, hr⟩ := h; exact hr.elim⟩
/-- the parts of a comprehension -/
def trLc (rec rec' : Expr → ER) (T : TC) (n : Nat) (elt : Expr) (g : Comprehension) (scope : Scope) : Option (EM D) :=
  if (g.is_async == 0 && blkC T.N T.sc scope (ownOf T.N scope) && noSet g.iter) = true then match trTg (T.blk scope) n g.target with
    | some t => if slotsIn t (ownOf T.N scope) = true then some (mLcK (trIt rec T g.target g.iter) t (trIfs rec' g.ifs) (rec' elt).v ((ownOf T.N scope).map (·.2))) else none
    | none => none
  else none
theorem trLc_ok (F : Ft X G W calls T k) {rec rec' : Expr → ER} {n : Nat} {elt : Expr} {g : Comprehension} {scope : Scope} {m : EM D} (h : ∀ e, EOk X wr0 G W e (rec e)) (h' : ∀ (s : Shared) (H : Hp) (C : Addr) (cl : List (Str × Addr)) (fp : List Addr) e, EOk (X.blk s H scope (compEnvC scope cl C X.env) fp) wr0 G W0 e (rec' e)) (hl : trLc rec rec' T n elt g scope = some m) :
    ∃ t mt me, g.is_async = 0 ∧ noSet g.iter = true ∧ WkOk X wr0 G W g.target g.iter (trIt rec T g.target g.iter) ∧ LcP X wr0 G scope g.target g.ifs elt t mt me (ownOf T.N scope) ∧ m = mLcK (trIt rec T g.target g.iter) t mt me ((ownOf T.N scope).map (·.2)) := by
  unfold trLc at hl
  split at hl
  · rename_i hc
    rw [Bool.and_eq_true, Bool.and_eq_true] at hc
    obtain ⟨⟨ha, hb⟩, hn⟩ := hc
    split at hl
    · rename_i t ht
      split at hl
      · rename_i hsl
        cases hl
        refine ⟨t, _, _, by simpa using ha, hn, trIt_ok F h, ⟨?_, fun s H C cl fp => trTg_ok (F.blk s H scope C cl fp) n ht, fun s H C cl fp => trIfs_ok (h' s H C cl fp) g.ifs, fun s H C cl fp => (h' s H C cl fp elt).1, fun j hj => ?_⟩, rfl⟩
        · rw [F.N, F.sc]
          exact blkOk_by hb
        · have := List.all_eq_true.mp hsl j hj
          simpa using this
      · cases hl
    · cases hl
  · cases hl

/-! ### expressions -/
def isRev : Expr → Bool
  | .Slice none none (some (.UnaryOp .USub (.Constant (.int 1) _ _) _)) _ => true
  | _ => false
def trE (calls : Calls) : Nat → TC → Expr → ER
  | 0, _, _ => eStuck
  | n + 1, T, e => match e with
    | .Constant c _ _ => match trConst c with
      | some d => plainR e (mC d)
      | none => eStuck
    | .Name x _ => plainR e (trName T x)
    | .BinOp a op b _ => match opF op with
      | some f => plainR e (m2 f (trE calls n T a).v (trE calls n T b).v)
      | none => eStuck
    | .UnaryOp .Not a _ => ⟨mNot (trE calls n T a).v, mNotT (trE calls n T a).t⟩
    | .UnaryOp .USub a _ => plainR e (m1 negF (trE calls n T a).v)
    | .BoolOp .And (a :: es) _ => trAnd (trE calls n T) (a :: es)
    | .BoolOp .Or (a :: es) _ => trOr (trE calls n T) (a :: es)
    | .Compare a [op] [b] _ => if noSet b = true then ⟨m2 (cmpF op) (trE calls n T a).v (trE calls n T b).v, mB (m2 (cmpF op) (trE calls n T a).v (trE calls n T b).v)⟩ else eStuck
    | .Compare a [op, op'] [b, c] _ => if noSet c = true then ⟨mChain (cmpF op) (cmpF op') (trE calls n T a).v (trE calls n T b).v (trE calls n T c).v, mB (mChain (cmpF op) (cmpF op') (trE calls n T a).v (trE calls n T b).v (trE calls n T c).v)⟩ else eStuck
    | .IfExp c a b _ => plainR e (mIte (trE calls n T c).t (trE calls n T a).v (trE calls n T b).v)
    | .Tuple es _ _ => plainR e (mN tupF (trArgs (trE calls n T) es))
    | .List es _ => plainR e (mN lstF (trArgs (trE calls n T) es))
    | .Subscript a (.Slice lo hi none p2) _ => plainR e (mSlc (trE calls n T a).v (trPart (trE calls n T) lo) (trPart (trE calls n T) hi))
    | .Subscript a i _ => if isRev i = true then plainR e (m1 revF (trE calls n T a).v) else if noSlice i = true then plainR e (m2 idxF (trE calls n T a).v (trE calls n T i).v) else eStuck
    | .Dict [] [] _ => plainR e mDnew
    | .Dict (k :: ks) vs _ => match trPairs (trE calls n T) (k :: ks) vs with
      | some l => if (k :: ks).length ≤ 15 then plainR e (mDisp l) else eStuck
      | none => eStuck
    | .Call (.Name x _) es [] _ => if (x == ("isinstance" : Str)) = true then (match es with
        | [a, .Name y _] => plainR e (trIsi (trE calls n T) T a y)
        | _ => eStuck) else plainR e (trCallN (trE calls n T) calls T x es)
    | .Call (.Attribute o name apos) es [] cpos => plainR e (trMeth (trE calls n T) o name es apos cpos)
    | .ListComp elt [g] scope _ => match trLc (trE calls n T) (trE calls n (T.blk scope)) T n elt g scope with
      | some m => plainR e m
      | none => eStuck
    | _ => eStuck
theorem trE_ok : ∀ (n : Nat) {X : Cx} {W : WX} {T : TC} (F : Ft X G W calls T k) (e : Expr), EOk X wr0 G W e (trE calls n T e)
  | 0, X, W, T, F, e => eStuck_ok
  | n + 1, X, W, T, F, e => by
    have ih : ∀ e, EOk X wr0 G W e (trE calls n T e) := fun e => trE_ok n F e
    have hu := F.units
    unfold trE
    split
    · split
      · rename_i hc
        exact plainR_ok F.hK (trConst_ok hc)
      · exact eStuck_ok
    · exact plainR_ok F.hK (trName_ok F)
    · split
      · rename_i ho
        exact plainR_ok F.hK (q_op (opF_ok F ho) (ih _).1 (ih _).1)
      · exact eStuck_ok
    · exact ⟨q_not F.hK (ih _).1, qt_not (ih _).2⟩
    · exact plainR_ok F.hK (q_neg (ih _).1)
    · exact ⟨(trAnd_ok F.hK ih _ _).1, (trAnd_ok F.hK ih _ _).2.pt⟩
    · exact ⟨(trOr_ok F.hK ih _ _).1, (trOr_ok F.hK ih _ _).2.pt⟩
    · split
      · rename_i hn
        exact ⟨q_cmp (cmpF_ok F _) (ih _).1 (ih _).1 (noSet_marks hn _), qt_cmp (cmpF_ok F _) (ih _).1 (ih _).1 (noSet_marks hn _)⟩
      · exact eStuck_ok
    · split
      · rename_i hn
        exact ⟨q_chain (cmpF_ok F _) (cmpF_ok F _) (ih _).1 (ih _).1 (ih _).1 (noSet_marks hn _), qt_chain (cmpF_ok F _) (cmpF_ok F _) (ih _).1 (ih _).1 (ih _).1 (noSet_marks hn _)⟩
      · exact eStuck_ok
    · exact plainR_ok F.hK (q_ite (ih _).2 (ih _).1 (ih _).1)
    · exact plainR_ok F.hK (q_tup (trArgs_ok ih _))
    · exact plainR_ok F.hK (q_lst (trArgs_ok ih _))
    · exact plainR_ok F.hK (q_slc (ih _).1 (trPart_ok ih _) (trPart_ok ih _))
    · split
      · rename_i i _ _ hi
        unfold isRev at hi
        split at hi
        · exact plainR_ok F.hK (q_rev (ih _).1)
        · cases hi
      · split
        · rename_i hn
          exact plainR_ok F.hK (q_idx F.hK (by omega) (ih _).1 (ih _).1 hn)
        · exact eStuck_ok
    · exact plainR_ok F.hK q_dnew
    · split
      · rename_i hp
        split
        · rename_i hl
          obtain ⟨h1, h2, h3⟩ := trPairs_ok ih hp
          exact plainR_ok F.hK (q_disp h1 h2 h3 (by simp) hl)
        · exact eStuck_ok
      · exact eStuck_ok
    · split
      · rename_i hx
        have := eq_of_beq hx
        subst this
        split
        · exact plainR_ok F.hK (trIsi_ok F ih)
        · exact eStuck_ok
      · exact plainR_ok F.hK (trCallN_ok F ih)
    · exact plainR_ok F.hK (trMeth_ok F ih)
    · rename_i elt g scope p
      split
      · rename_i m hm
        obtain ⟨t, mt, me, h0, hn, hw, P, rfl⟩ := trLc_ok F ih (fun s H C cl fp e => trE_ok n (F.blk s H scope C cl fp) e) hm
        obtain ⟨tg, iter, ifs, as⟩ := g
        cases h0
        exact plainR_ok F.hK (q_lcK F.hK F.calm F.nd hw P hn)
      · exact eStuck_ok
    · exact eStuck_ok
end
end Mi
set_option Elab.async false
set_option linter.all false
set_option maxRecDepth 100000
set_option maxHeartbeats 4000000
/-! Mi18: statements of the text, turned into runs; that the runs are theirs. -/
namespace Mi
open PySem PySem.Spec PyProof.Rows L2
section
variable {X : Cx} {wr0 : List (Nat × Nat)} {G : Pd} {W : WX} {calls : Calls} {T : TC} {k : Nat} {a b c e tg : Expr} {es : List Expr} {pos : Pos} {ma : EM D}
def sStuck : SM := fun _ _ => .stuck
theorem s_stuck {s : Stmt} : SOk X wr0 G W s sStuck := fun r0 H0 => ⟨fun pins s σ H D I h => by obtain ⟨r, st, S, e0, k0, he, hs, hr⟩ := h; exact hr.elim⟩
/-- a statement is run while a dict is locked -/
theorem lock_run {s0 : Stmt} {m : SM} (hm : SOk X wr0 G W s0 m) {r0 r : List Addr} {H0 H : Hp} {st : Env} {S : Sto} {σ : L2.St} {D : Ends} {pins : List (Addr × Obj)} {s : Shared} {n : Nat} {kvs : List (Mi.D × Mi.D)} (I : L2.Inv X pins σ H s)
    (e0 : r0 <+: r) (k0 : Kp H0 H) (he : RelE r G.K H σ st) (hs : RelS wr0 r G.K H S) (hgn : S.get n = some (.dct kvs)) (hr : ROut wr0 G W r0 H0 ((m st (S.swap n (.fzd kvs))).unlock n kvs) D) :
    wpAny (model X.prog X.w) X.A (exec s0 X.env) (SP X pins D) X.xe s := by
  obtain ⟨l, u, hl, hu, hd, hall⟩ := lock_rel he hs hgn
  refine (ps_lock (t := fun D σ H => ∃ rl Hl, TSm wr0 G W rl Hl m D σ H) ⟨fun pins s σ H D I h => ?_⟩).run pins s σ H D I ⟨l, u, hu, hd.mut, fun od => ?_⟩
  · obtain ⟨rl, Hl, h⟩ := h
    exact (hm rl Hl).run pins s σ H D I h
  · obtain ⟨k1, he1, hs1⟩ := hall od
    refine ⟨r, upd H l (.frz od u), r, st, S.swap n (.fzd kvs), List.prefix_refl _, Kp.refl, he1, hs1, ?_⟩
    cases ho : m st (S.swap n (.fzd kvs)) with
    | nx st2 S2 =>
      rw [ho] at hr
      simp only [Out.unlock] at hr
      split at hr
      · rename_i hg2
        intro r2 H2 σ2 e2 k2 he2 hs2
        obtain ⟨h1, h2, h3, h4⟩ := unlock_rel hd hu hl e2 k2 hs2 hg2 k0
        exact ⟨h1, hr r2 _ σ2 (e0.trans e2) h2 (he2.monoT h3 (List.prefix_refl _)) h4⟩
      · exact hr.elim
    | bk st2 S2 =>
      rw [ho] at hr
      simp only [Out.unlock] at hr
      split at hr
      · rename_i hg2
        intro r2 H2 σ2 e2 k2 he2 hs2
        obtain ⟨h1, h2, h3, h4⟩ := unlock_rel hd hu hl e2 k2 hs2 hg2 k0
        exact ⟨h1, hr r2 _ σ2 (e0.trans e2) h2 (he2.monoT h3 (List.prefix_refl _)) h4⟩
      · exact hr.elim
    | ct st2 S2 =>
      rw [ho] at hr
      simp only [Out.unlock] at hr
      split at hr
      · rename_i hg2
        intro r2 H2 σ2 e2 k2 he2 hs2
        obtain ⟨h1, h2, h3, h4⟩ := unlock_rel hd hu hl e2 k2 hs2 hg2 k0
        exact ⟨h1, hr r2 _ σ2 (e0.trans e2) h2 (he2.monoT h3 (List.prefix_refl _)) h4⟩
      · exact hr.elim
    | rt d S2 =>
      rw [ho] at hr
      simp only [Out.unlock] at hr
      split at hr
      · rename_i hg2
        intro r2 H2 v e2 k2 hs2 hv
        obtain ⟨h1, h2, h3, h4⟩ := unlock_rel hd hu hl e2 k2 hs2 hg2 k0
        exact ⟨h1, hr r2 _ v (e0.trans e2) h2 h4 (hv.monoT h3 (List.prefix_refl _))⟩
      · exact hr.elim
    | exc x st2 S2 =>
      rw [ho] at hr
      intro r2 H2 σ2 cls da e2 k2 he2 hs2 hx
      exact hr r2 H2 σ2 cls da (e0.trans e2) (k0.trans (k1.trans k2)) he2 hs2 hx
    | stuck => rw [ho] at hr; exact hr.elim
/-! ### name = [..], swapped -/
theorem s_setLc {i : Nat} {y : Str} {py spos : Pos} {im : EM ItR} {t : Tg} {mt : EM Bool} {me : EM D} {ifs : List Expr} {elt iter : Expr} {scope : Scope} {own : List (Str × Nat)} (hc : X.calm = true) (hN : X.N.Nodup) (hy : X.N[i]? = some y) (hyl : X.env.scope.names.lookup y = some .local)
    (hsw : swapsWith (.ListComp elt [⟨tg, iter, ifs, 0⟩] scope pos) (some (.Name y py)) spos.line X.env = pure true) (hi : PI X tg iter (Tm wr0 G W (RIt wr0 G) im)) (P : LcP X wr0 G scope tg ifs elt t mt me own) (hn : noSet iter = true) :
    SOk X wr0 G W (.Assign [.Name y py] (.ListComp elt [⟨tg, iter, ifs, 0⟩] scope pos) spos) (sSet i (mLc im t mt me (own.map (·.2)))) := fun r0 H0 =>
  PS.wk (ps_setLc hc hN hy hyl hsw hi P.ok P.g P.tt P.e fun x => noSet_fold hn X.env x) fun D σ H h => tm_lc P.v (tm_set h)
theorem s_setLcK {i : Nat} {y : Str} {py spos : Pos} {w : Wk} {t : Tg} {mt : EM Bool} {me : EM D} {ifs : List Expr} {elt iter : Expr} {scope : Scope} {own : List (Str × Nat)} (hK : X.K = G.K) (hc : X.calm = true) (hN : X.N.Nodup) (hy : X.N[i]? = some y) (hyl : X.env.scope.names.lookup y = some .local)
    (hsw : swapsWith (.ListComp elt [⟨tg, iter, ifs, 0⟩] scope pos) (some (.Name y py)) spos.line X.env = pure true) (hi : WkOk X wr0 G W tg iter w) (P : LcP X wr0 G scope tg ifs elt t mt me own) (hn : noSet iter = true) :
    SOk X wr0 G W (.Assign [.Name y py] (.ListComp elt [⟨tg, iter, ifs, 0⟩] scope pos) spos) (sSet i (mLcK w t mt me (own.map (·.2)))) := by
  cases w with
  | im m => exact s_setLc hc hN hy hyl hsw hi P hn
  | any m =>
    intro r0 H0
    refine ⟨fun pins s σ H D I h => ?_⟩
    obtain ⟨r, st, S, e0, k0, he, hs, hr⟩ := h
    have seq := s_setLc (wr0 := wr0) (spos := spos) hc hN hy hyl hsw (i_seq hK hi) P hn
    have dic := s_setLc (wr0 := wr0) (spos := spos) hc hN hy hyl hsw (i_dict hi) P hn
    unfold sSet mLcK mLcAny at hr
    simp only at hr
    split at hr
    · rename_i n S1 hm
      split at hr
      · rename_i kvs hgn
        refine lock_run dic I e0 k0 he hs hgn ?_
        unfold sSet
        cases ho : mLc (iDict m) t mt me (own.map (·.2)) st (S.swap n (.fzd kvs)) with
        | ok d S2 =>
          rw [ho] at hr
          simp only [Res.unlock, sbind_ok, Out.unlock] at hr ⊢
          split at hr
          · rename_i hg2
            rw [if_pos hg2]
            exact hr
          · exact hr.elim
        | exc x S2 => rw [ho] at hr; exact hr
        | stuck => rw [ho] at hr; exact hr
      · exact (dic r0 H0).run pins s σ H D I ⟨r, st, S, e0, k0, he, hs, hr⟩
      · exact (seq r0 H0).run pins s σ H D I ⟨r, st, S, e0, k0, he, hs, hr⟩
    · exact (seq r0 H0).run pins s σ H D I ⟨r, st, S, e0, k0, he, hs, hr⟩
def sForK (w : Wk) (t : Tg) (body : SM) : SM := match w with
  | .im m => sFor m t body
  | .any m => sForAny m t body
theorem s_forK {w : Wk} {t : Tg} {body : List Stmt} {m : SM} (hK : X.K = G.K) (hp : PassesOwn (model X.prog X.w) X.A X.env X.xe) (hc : X.calm = true) (hi : WkOk X wr0 G W tg e w) (hg : PG X tg (TGm wr0 G t)) (hb : BOk X wr0 G W body m) (hn : noSet e = true) : SOk X wr0 G W (.For tg e body [] pos) (sForK w t m) := by
  cases w with
  | im im => exact s_for hp hc hi hg hb hn
  | any ma => exact s_forAny hK hp hc hi hg hb hn
def sPar3 (i j l : Nat) (as : EM (List D)) : SM := fun st S => sbind (as st S) st fun ds S1 => match ds with
  | [d1, d2, d3] => .nx (((st.set i (some d1)).set j (some d2)).set l (some d3)) S1
  | _ => .stuck
theorem s_par3 {i j l : Nat} {x y z : Str} {mas : EM (List D)} {px py pz pt : Pos} {kt k2 pt2} (hc : X.calm = true) (hN : X.N.Nodup) (hi : X.N[i]? = some x) (hj : X.N[j]? = some y) (hl : X.N[l]? = some z) (hij : i ≠ j) (hil : i ≠ l) (hjl : j ≠ l)
    (hx : isLocal X.env.scope x = true) (hy : isLocal X.env.scope y = true) (hz : isLocal X.env.scope z = true) (ha : PA X [a, b, c] (TAm wr0 G W mas))
    (hw : swappedStores [.Tuple [.Name x px, .Name y py, .Name z pz] kt pt] (.Tuple [a, b, c] k2 pt2) X.env = pure (some [x, y, z]))
    (hs : swapsWithSole [.Tuple [.Name x px, .Name y py, .Name z pz] kt pt] (.Tuple [a, b, c] k2 pt2) pos.line X.env = pure false) :
    SOk X wr0 G W (.Assign [.Tuple [.Name x px, .Name y py, .Name z pz] kt pt] (.Tuple [a, b, c] k2 pt2) pos) (sPar3 i j l mas) := fun r0 H0 =>
  PS.wk (ps_par3 hc hN hi hj hl hij hil hjl (isLocal_of hx) (isLocal_of hy) (isLocal_of hz) ha hw hs) fun D σ H h => by
    obtain ⟨r, st, S, e0, k0, he, hs, hr⟩ := h
    refine ⟨r, st, S, he, hs, (ROut.bind (R := RDs G) e0 k0 he hr).imp ?_⟩
    rintro vs H1 ⟨r1, ds, S1, e1, e2, k1, k2, he1, hs1, hx, hr1⟩
    split at hr1
    · cases hx with
      | cons h1 q =>
        cases q with
        | cons h2 q =>
          cases q with
          | cons h3 q =>
            cases q
            exact ⟨_, _, _, rfl, hr1 r1 H1 _ e2 k2 (((he1.set h1).set h2).set h3) hs1⟩
    · exact hr1.elim

/-! ### assignments -/
def isTupV : Expr → Option (List Expr)
  | .Tuple vs _ _ => some vs
  | _ => none
/-- (ts) = (vs), both written out -/
def trPar (rec : Expr → ER) (T : TC) (n : Nat) (ts vs : List Expr) (k1 : Nat) (p1 : Pos) (v : EM D) : SM := match stB ts vs T.sc with
  | some none => match trTg T n (.Tuple ts k1 p1) with
    | some t => sAsg t v
    | none => sStuck
  | some (some _) => match ts, vs with
    | [.Name x _, .Name y _], [_, _] => if (isLocal T.sc x && isLocal T.sc y && decide (stB ts vs T.sc = some (some [x, y]))) = true then match idx T.N x, idx T.N y with
        | some i, some j => if i ≠ j then sPar i j (trArgs rec vs) else sStuck
        | _, _ => sStuck
      else sStuck
    | [.Name x _, .Name y _, .Name z _], [_, _, _] => if (isLocal T.sc x && isLocal T.sc y && isLocal T.sc z && decide (stB ts vs T.sc = some (some [x, y, z]))) = true then match idx T.N x, idx T.N y, idx T.N z with
        | some i, some j, some l => if i ≠ j ∧ i ≠ l ∧ j ≠ l then sPar3 i j l (trArgs rec vs) else sStuck
        | _, _, _ => sStuck
      else sStuck
    | _, _ => sStuck
  | none => sStuck
theorem sole_tup {ts : List Expr} {k1 : Nat} {p1 : Pos} {l : Nat} {env : PySem.Env} : swapsWithSole [.Tuple ts k1 p1] e l env = pure false := by
  cases e <;> rfl
theorem trPar_ok (F : Ft X G W calls T k) {rec : Expr → ER} (h : ∀ e, EOk X wr0 G W e (rec e)) {n : Nat} {ts vs : List Expr} {k1 k2 : Nat} {p1 p2 : Pos} {v : EM D} (hv : PE X (.Tuple vs k2 p2) (TEm wr0 G W v)) : SOk X wr0 G W (.Assign [.Tuple ts k1 p1] (.Tuple vs k2 p2) pos) (trPar rec T n ts vs k1 p1 v) := by
  unfold trPar
  split
  · rename_i hst
    split
    · rename_i t ht
      exact s_asg hv (trTg_ok F n ht) sole_tup (stB_of (by rw [F.sc]; exact hst)) rfl
    · exact s_stuck
  · split
    · split
      · rename_i hc
        simp only [Bool.and_eq_true, decide_eq_true_eq] at hc
        obtain ⟨⟨hx, hy⟩, hst⟩ := hc
        split
        · rename_i i j hi hj
          split
          · rename_i hij
            exact s_par F.calm F.nd (by rw [F.N]; exact idx_of hi) (by rw [F.N]; exact idx_of hj) hij (by rw [F.sc]; exact hx) (by rw [F.sc]; exact hy) (trArgs_ok h _) (stB_of (by rw [F.sc]; exact hst)) sole_tup
          · exact s_stuck
        · exact s_stuck
      · exact s_stuck
    · split
      · rename_i hc
        simp only [Bool.and_eq_true, decide_eq_true_eq] at hc
        obtain ⟨⟨⟨hx, hy⟩, hz⟩, hst⟩ := hc
        split
        · rename_i i j l hi hj hl
          split
          · rename_i hij
            exact s_par3 F.calm F.nd (by rw [F.N]; exact idx_of hi) (by rw [F.N]; exact idx_of hj) (by rw [F.N]; exact idx_of hl) hij.1 hij.2.1 hij.2.2 (by rw [F.sc]; exact hx) (by rw [F.sc]; exact hy) (by rw [F.sc]; exact hz) (trArgs_ok h _) (stB_of (by rw [F.sc]; exact hst)) sole_tup
          · exact s_stuck
        · exact s_stuck
      · exact s_stuck
    · exact s_stuck
  · exact s_stuck
/-- x = e -/
def trSet (rec rec' : Expr → ER) (T : TC) (n : Nat) (x : Str) (px : Pos) (e : Expr) : SM := if isSt T.sc T.fn x = true then match idx T.N x with
    | some i => if swB e (.Name x px) T.sc = true then (match e with
        | .ListComp elt [g] scope _ => (match trLc rec rec' T n elt g scope with
          | some m => if isLocal T.sc x = true then sSet i m else sStuck
          | none => sStuck)
        | _ => sStuck) else sSet i (rec e).v
    | none => sStuck
  else sStuck
theorem trSet_ok (F : Ft X G W calls T k) {rec rec' : Expr → ER} (h : ∀ e, EOk X wr0 G W e (rec e)) (h' : ∀ elt g scope p, e = .ListComp elt [g] scope p → ∀ (s : Shared) (H : Hp) (C : Addr) (cl : List (Str × Addr)) (fp : List Addr) e, EOk (X.blk s H scope (compEnvC scope cl C X.env) fp) wr0 G W0 e (rec' e)) {n : Nat} {x : Str} {px : Pos} :
    SOk X wr0 G W (.Assign [.Name x px] e pos) (trSet rec rec' T n x px e) := by
  unfold trSet
  split
  · rename_i hs
    have hst : StOk X x := isSt_of (by rw [F.sc, F.fn]; exact hs)
    split
    · rename_i i hi
      have hi' : X.N[i]? = some x := by rw [F.N]; exact idx_of hi
      split
      · rename_i hsw
        split
        · rename_i elt g scope p
          split
          · rename_i m hm
            split
            · rename_i hl
              obtain ⟨t, mt, me, h0, hn, hw, P, rfl⟩ := trLc_ok F h (h' elt g scope p rfl) hm
              obtain ⟨tg, iter, ifs, as⟩ := g
              cases h0
              refine s_setLcK F.hK F.calm F.nd hi' (isLocal_of (by rw [F.sc]; exact hl)) ?_ hw P hn
              rw [swB_of, F.sc]
              exact congrArg pure hsw
            · exact s_stuck
          · exact s_stuck
        · exact s_stuck
      · rename_i hsw
        refine s_set F.nd hi' hst (h e).1 ?_
        rw [swB_of, F.sc, Bool.eq_false_iff.mpr hsw]
    · exact s_stuck
  · exact s_stuck
def isNilE {α : Type} : Option α → Bool
  | none => true
  | _ => false
def recOf (calls : Calls) (n : Nat) (T : TC) (e : Expr) : Expr → ER := match compScope e with
  | some scope => trE calls n (T.blk scope)
  | none => fun _ => eStuck

/-! ### blocks -/
def trBlk (rec : Stmt → SM) : List Stmt → SM
  | [] => sNil
  | s :: ss => sSeq (rec s) (trBlk rec ss)
theorem trBlk_ok {rec : Stmt → SM} (h : ∀ s, SOk X wr0 G W s (rec s)) : ∀ ss, BOk X wr0 G W ss (trBlk rec ss)
  | [] => k_nil
  | s :: ss => k_cons (h s) (trBlk_ok h ss)
noncomputable def trS (calls : Calls) : Nat → TC → Stmt → SM
  | 0, _, _ => sStuck
  | n + 1, T, s => match s with
    | .Pass _ => sNil
    | .Break _ => sBreak
    | .Continue _ => sCont
    | .Expr e _ => if noComp e = true then sExpr (trE calls n T e).v else sStuck
    | .Return (some e) _ => sRet (trE calls n T e).v
    | .Return none _ => sRetN
    | .If c p q _ => sIf (trE calls n T c).t (trBlk (trS calls n T) p) (trBlk (trS calls n T) q)
    | .While c body [] _ => sWhile (trE calls n T c).t (trBlk (trS calls n T) body)
    | .For tg iter body [] _ => if noSet iter = true then match trTg T n tg with
        | some t => sForK (trIt (trE calls n T) T tg iter) t (trBlk (trS calls n T) body)
        | none => sStuck
      else sStuck
    | .Assign [.Name x px] e _ => trSet (trE calls n T) (recOf calls n T e) T n x px e
    | .Assign [.Subscript o i _] e _ => if noSlice i = true then sSub (trE calls n T e).v (trE calls n T o).v (trE calls n T i).v else sStuck
    | .Assign [.Tuple ts k1 p1] e _ => match e with
      | .Tuple vs k2 p2 => trPar (trE calls n T) T n ts vs k1 p1 (trE calls n T (.Tuple vs k2 p2)).v
      | e => match trTg T n (.Tuple ts k1 p1) with
        | some t => sAsg t (trE calls n T e).v
        | none => sStuck
    | .AugAssign (.Name x _) .Add e _ => if isSt T.sc T.fn x = true then match idx T.N x with
        | some i => sAug i (fun i j => i + j) (trE calls n T e).v
        | none => sStuck
      else sStuck
    | _ => sStuck
theorem trS_ok : ∀ (n : Nat) {T : TC} (F : Ft X G W calls T k) (s : Stmt), SOk X wr0 G W s (trS calls n T s)
  | 0, T, F, s => s_stuck
  | n + 1, T, F, s => by
    have ih : ∀ s, SOk X wr0 G W s (trS calls n T s) := fun s => trS_ok n F s
    have ie : ∀ e, EOk X wr0 G W e (trE calls n T e) := fun e => trE_ok n F e
    have hu := F.units
    unfold trS
    split
    · exact s_pass
    · exact s_break
    · exact s_cont
    · split
      · rename_i hn
        exact s_expr (ie _).1 hn
      · exact s_stuck
    · exact s_ret (ie _).1
    · exact s_retN
    · exact s_if (ie _).2 (trBlk_ok ih _) (trBlk_ok ih _)
    · exact s_while F.po (ie _).2 (trBlk_ok ih _)
    · split
      · rename_i hn
        split
        · rename_i t ht
          exact s_forK F.hK F.po F.calm (trIt_ok F ie) (trTg_ok F n ht) (trBlk_ok ih _) hn
        · exact s_stuck
      · exact s_stuck
    · refine trSet_ok F ie fun elt g scope p he s H C cl fp e' => ?_
      subst he
      exact trE_ok n (F.blk s H scope C cl fp) e'
    · split
      · rename_i hn
        exact s_sub (by omega) (ie _).1 (ie _).1 (ie _).1 hn
      · exact s_stuck
    · split
      · exact trPar_ok F ie (ie _).1
      · rename_i e hne
        split
        · rename_i t ht
          exact s_asg (ie _).1 (trTg_ok F n ht) sole_tup (st_none2 fun vs k2 p2 z => hne vs k2 p2 z) rfl
        · exact s_stuck
    · split
      · rename_i hs
        split
        · rename_i i hi
          exact s_aug F.nd (by rw [F.N]; exact idx_of hi) (isSt_of (by rw [F.sc, F.fn]; exact hs)) (ie _).1 ip_add
        · exact s_stuck
      · exact s_stuck
    · exact s_stuck
end
end Mi
set_option Elab.async false
set_option linter.all false
set_option maxRecDepth 100000
set_option maxHeartbeats 4000000
/-! Mi19: the program's defs all together; the law's entry. -/
namespace Mi
open PySem PySem.Spec PyProof.Rows L2

/-! ### the head's facts, and that no list is among the known objects -/
def noLst (K : PySem.W.Frag) : Bool := K.all fun p => match p.2.cls with
  | .type c => !(c == "list")
  | _ => true
theorem noLst_of {K : PySem.W.Frag} (h : noLst K = true) {a : Addr} {o : Obj} (hc : o.cls = .type "list") : K.lookup a ≠ some o := by
  intro q
  have hm : ∃ b, (b, o) ∈ K := by
    clear h
    induction K with
    | nil => cases q
    | cons p r ih =>
      rw [List.lookup_cons] at q
      split at q
      · cases q; exact ⟨p.1, List.mem_cons_self⟩
      · obtain ⟨b, hb⟩ := ih q
        exact ⟨b, List.mem_cons_of_mem _ hb⟩
  obtain ⟨b, hb⟩ := hm
  have z := List.all_eq_true.mp h _ hb
  simp [hc] at z
def obsN (n : Nat) (fa : List He.Fa) (fn : List He.DefD) (g : Addr → Option Obj) : He.AlD × Bool := (He.obsDG n fa fn g, noLst (He.frG g (He.asD g n)))
def hookN (n : Nat) (fa : List He.Fa) (fn : List He.DefD) : PySem.W.Hook where
  α := He.AlD × Bool
  obs s := obsN n fa fn s.heap.get?
  val _ := (He.valD fn, true)
  says _ h := ∃ K : PySem.W.Frag, K.In h ∧ He.SaysD fa fn K ∧ noLst K = true
  of _ _ e := ⟨_, He.frG_in, congrArg Prod.fst e, congrArg Prod.snd e⟩
  keeps _ _ _ z k := by
    obtain ⟨K, h1, h2, h3⟩ := z
    exact ⟨K, h1.keeps k, h2, h3⟩
theorem obsN_eq {n : Nat} {fa : List He.Fa} {fn : List He.DefD} {g : Addr → Option Obj} {s : Shared} (h : ∀ a, g a = s.heap.get? a) : obsN n fa fn g = (hookN n fa fn).obs s := by
  cases (funext h : g = s.heap.get?)
  rfl

/-! ### the law is called -/
/-- at the law's call nothing is tracked but the script -/
def Hs (a : Addr) (o : Obj) (ns : List Int) : Hp := upd (fun _ => none) a (.frz o (.lst (ns.map V.int)))
theorem Hs_none {a b : Addr} {o : Obj} {ns : List Int} (h : b ≠ a) : Hs a o ns b = none := upd_ne h
theorem law_entry {P : Program} {w : World} {K : PySem.W.Frag} {mg mb : Str → Option Value} {k : Nat} {fa a : Addr} {fd : FuncData} {x : Str} {sp : Sp} {s : Shared} {vs : List Value} {ns : List Int} {ob : Obj}
    (kin : K.In s.heap) (nl : noLst K = true) (glob : s.heap.Ns mainGlobals mg) (blt : s.heap.Ns builtinsNs mb) (boot : ∀ y : Str, y ≠ "__name__" → mb y = bootBuiltins y) (lim : s.heap.NoLimit) (gens : s.gens = #[])
    (eo : ob = { cls := .type "list", data := .seq vs.toArray }) (ha : s.heap.get? a = some ob) (hints : IntsAre vs ns) (size : ns.length ≤ sizeLine) (room : Room k callerA)
    (F : ∀ base : Heap, K.In base → base.Ns mainGlobals mg → FnG P w K mg base k fa fd [x] sp) (bind : ∀ (s : Shared) (u : Value), BindsTo s fd ⟨[u], []⟩ [(x, u)])
    (want : sp [.ref a] (Hs a ob ns) (fun v _ => v = .bl true) fun _ _ _ => False) :
    codeAny (model P w) callerA (.call (.ref fa) ⟨[.ref a], []⟩) (fun r s' => r = .ok (.ret (.bool true)) ∧ OldK s.heap s'.heap ∧ s'.os = s.os ∧ AllBare s'.gens) s := by
  have dictNe : ∀ {b : Addr} {q : Obj} {es : Array DictEntry} {ep : Nat}, s.heap.get? b = some q → q.data = .dict es ep → b ≠ a := by
    rintro b q es ep hq hd rfl
    rw [ha] at hq
    cases hq
    rw [eo] at hd
    cases hd
  have seen : ∀ {b : Addr} {q : Obj}, s.heap.get? b = some q → b ≠ a → (hidT s.heap (Hs a ob ns)).get? b = some q := fun hq hb => hidT_get hq (Hs_none hb)
  have nsSeen : ∀ {b : Addr} {m : Str → Option Value}, s.heap.Ns b m → (hidT s.heap (Hs a ob ns)).Ns b m := by
    rintro b m ⟨q, es, ep, hq, hd, rest⟩
    exact ⟨q, es, ep, seen hq (dictNe hq hd), hd, rest⟩
  have kin' : K.In (hidT s.heap (Hs a ob ns)) := fun b q hk => seen (kin b q hk) fun e => by
    subst e
    have z := kin b q hk
    rw [ha] at z
    cases z
    exact noLst_of nl (by rw [eo]) hk
  have lim' : (hidT s.heap (Hs a ob ns)).NoLimit := by
    obtain ⟨m, h1, h2⟩ := lim
    exact ⟨m, nsSeen h1, h2⟩
  have held : HOk P w (Hs a ob ns) s.heap := fun b u q => by
    by_cases hb : b = a
    · subst hb
      have z : some (HO.frz ob (.lst (ns.map V.int))) = some u := upd_same.symm.trans q
      cases z
      exact ⟨ha, by rw [List.length_map]; exact size, vs, 0, vals_ints hints, by rw [← eo]; exact ha⟩
    · rw [Hs_none hb] at q
      cases q
  have e0 : Env0 P w K mg (hidT s.heap (Hs a ob ns)) callerA [] s (Hs a ob ns) :=
    { frames := rfl, mod := ⟨kin', nsSeen glob, ⟨mb, nsSeen blt, boot⟩, lim'⟩, bs := fun b q h => of_hidT h, bsz := Nat.le_of_eq (hidT_size _ _), funs := True.intro, frf := (fun b hb => by cases hb), hok := held, bare := .of_eq gens }
  apply codeAny_mono ((F _ kin' (nsSeen glob)).go room rfl e0 (us := [.ref a]) (vs := [.ref a]) (bind s (.ref a)) (.cons rfl .nil) want)
  intro res s' hq
  match res, hq with
  | .error e, ⟨_, _, _, _, _, _, _, _, _, _, _, _, no⟩ => exact no.elim
  | .ok (.ret u), ⟨v, H', os, bare, un, held', rel, hv⟩ =>
    have ev : v = .bl true := hv
    subst ev
    cases (show u = Value.bool true from rel)
    refine ⟨rfl, OldK.of_keep fun b q hb => ?_, os, bare⟩
    by_cases hba : b = a
    · subst hba
      rw [ha] at hb
      cases hb
      exact (held' b _ (un.frzs b ob _ upd_same)).1
    · exact un.keep b q hb (Hs_none hba) (fun z => by cases z) (fun z => by cases z)
theorem law_walk {l : PySem.W.OpenLaw} {n k : Nat} {q : Program} {loose : List Str} {XP : (Str → Option Value) → Heap → Prop} {fa : List He.Fa} {fn : List He.DefD} {m : Nat} {d : DefRec} {x : Str} (hn : l.most = some n) (hn2 : n ≤ sizeLine) (hdf : d.params.defaults = []) (hr : Room k callerA)
    (F : ∀ (w : World) (mg : Str → Option Value) (f : Addr) (h : Heap) (K : PySem.W.Frag), K.In h → He.SaysD fa fn K → h.Ns mainGlobals mg → mg d.name = some (.ref f) →
      ∃ (fd : FuncData) (sp : Sp), (∀ (s : Shared) (u : Value), BindsTo s fd ⟨[u], []⟩ [(x, u)]) ∧ (∀ (a : Addr) (o : Obj) (ns : List Int), ns.length ≤ n → sp [.ref a] (Hs a o ns) (fun v _ => v = .bl true) fun _ _ _ => False) ∧
        ∀ base : Heap, K.In base → base.Ns mainGlobals mg → FnG l.prog w K mg base k f fd [x] sp) :
    PySem.W.WalkO q loose XP (hookN m fa fn).says l.row.toRowW d [] (fun f vs => PySem.call f vs) := by
  refine Att.attach_call hn hdf ?_
  intro w s0 s mg mb f o pm cd doc a vs ns G Y _ _ _ hmg hobj hints hlen hg
  obtain ⟨K, kin, says, nl⟩ := Y
  obtain ⟨fd, sp, hb, hsp, hF⟩ := F w mg f _ K kin says G.T.g hmg
  exact law_entry kin nl G.T.g G.T.b G.T.builtins G.T.nolimit hg rfl hobj hints (Nat.le_trans hlen hn2) hr hF hb (hsp a _ ns hlen)
end Mi
set_option Elab.async false
set_option linter.all false
set_option maxRecDepth 100000
set_option maxHeartbeats 4000000
/-! Mi20: all defs of a program keep what their runs tell. -/
namespace Mi
open PySem PySem.Spec PyProof.Rows L2

/-- one def: its number of parameters, its slots, its parameters' names, its run -/
structure FE where
  np : Nat
  N : List Str
  ps : List Str
  params : Arguments
  body : List Stmt
  scope : Scope
  m : Calls → SM
abbrev FEs := List (Str × FE)
/-- calls, to a depth -/
def runs (fs : FEs) : Nat → Calls
  | 0 => fun _ _ _ => .stuck
  | n + 1 => fun x ds S => match fs.lookup x with
    | some e => callBody e.N.length (e.m (runs fs n)) ds S
    | none => .stuck
def fnsOf (fs : FEs) : List (Str × Nat) := fs.map fun p => (p.1, p.2.np)
theorem fnsOf_lookup : ∀ {fs : FEs} {x : Str} {np : Nat}, (fnsOf fs).lookup x = some np → ∃ e, fs.lookup x = some e ∧ e.np = np
  | [], _, _, h => by cases h
  | (y, e) :: r, x, np, h => by
    simp only [fnsOf, List.map_cons, List.lookup_cons] at h ⊢
    split at h
    · cases h; exact ⟨e, rfl, rfl⟩
    · exact fnsOf_lookup h
def tcOf (fs : FEs) (cs : List (Str × D)) (e : FE) : TC := ⟨e.N, e.scope, fun _ => true, fnsOf fs, cs⟩
/-- what must be seen of the text -/
structure TextOk (fs : FEs) (cs : List (Str × D)) (x : Str) (e : FE) : Prop where
  sc : FnScope e.N e.ps e.scope
  np : e.ps.length = e.np
  run : ∀ calls, trBlk (trS calls 60 (tcOf fs cs e)) e.body = e.m calls
/-- what must be seen of the heap behind the top -/
structure HeapOk (fs : FEs) (cs : List (Str × D)) (K : PySem.W.Frag) (mg : Str → Option Value) : Prop where
  fn : ∀ x e, fs.lookup x = some e → ∃ f fd, mg x = some (.ref f) ∧ FunD K x x e.params e.body e.scope [] [] f fd ∧ Binds K fd e.ps []
  cs : ∀ x d, cs.lookup x = some d → ∃ v u, mg x = some u ∧ RelV v u ∧ ∀ r H, Rep r K H d v
  bl : ∀ x ∈ bltNames, mg x = none
theorem spF_len {G : Pd} {np : Nat} {run : List D → Sto → Res D} {vs : List V} {H : Hp} {Q : VK} {E : XK} (h : spF G np run vs H Q E) : vs.length = np := by
  obtain ⟨wr0, r, S, ds, _, hd, hl, _⟩ := h
  rw [← hd.length]
  exact hl
theorem defs_ok {P : Program} {w : World} {K : PySem.W.Frag} {mg : Str → Option Value} {base : Heap} {fs : FEs} {cs : List (Str × D)} (ht : ∀ x e, fs.lookup x = some e → TextOk fs cs x e) (hh : HeapOk fs cs K mg) :
    ∀ n x e, fs.lookup x = some e → ∀ f fd, mg x = some (.ref f) → FunD K x x e.params e.body e.scope [] [] f fd → FnG P w K mg base n f fd e.ps (spF ⟨K, mg⟩ e.np (runs fs n x)) := by
  intro n
  induction n with
  | zero =>
    intro x e he f fd hm F
    refine ⟨fun h => (spF_len h).trans (ht x e he).np.symm, ?_⟩
    rintro A outer s H args us vs Q E _ _ _ _ _ ⟨wr0, r, S, ds, _, _, _, z⟩
    exact z.elim
  | succ n ih =>
    intro x e he f fd hm F
    have T := ht x e he
    refine fnG_of F T.sc (fun h => (spF_len h).trans T.np.symm) fun cd A outer s H vs Q E room quiet want => ?_
    have want' : spF ⟨K, mg⟩ e.np (callBody e.N.length (e.m (runs fs n))) vs H Q E := by
      obtain ⟨wr0, r, S, ds, h1, h2, h3, h4⟩ := want
      refine ⟨wr0, r, S, ds, h1, h2, h3, ?_⟩
      simp only [runs, he] at h4
      exact h4
    have hN : e.np ≤ e.N.length := by
      rw [← T.np]
      have z := congrArg List.length T.sc.pre
      rw [List.length_take] at z
      omega
    refine body_ok (fun wr0 => ?_) hN want'
    rw [← T.run (runs fs n)]
    have hx : (cxOf (L2.CX P w) P w K mg base e.N x e.scope f cd A outer s H E).stack = (cxOf (L2.CX P w) P w K mg base e.N x e.scope f cd A outer s H E).env :: outer := rfl
    have F0 : Ft (cxOf (L2.CX P w) P w K mg base e.N x e.scope f cd A outer s H E) ⟨K, mg⟩ (fun cls da _ H' => E cls da H') (runs fs n) (tcOf fs cs e) n :=
      { hK := rfl, hm := rfl, calm := rfl, room := room, gd := quiet, nd := T.sc.nd, N := rfl, sc := rfl, fn := rfl
        tk := takes_of hx rfl rfl rfl
        po := passes_of rfl
        fns := fun y np hy => by
          obtain ⟨e', h1, h2⟩ := fnsOf_lookup hy
          obtain ⟨f', fd', g1, g2, g3⟩ := hh.fn y e' h1
          refine ⟨f', fd', e'.ps, g1, g2.kp, g3, ?_⟩
          rw [← h2]
          exact ih y e' h1 f' fd' g1 g2
        cs := hh.cs
        bl := hh.bl }
    exact trBlk_ok (fun st => trS_ok 60 F0 st) e.body
end Mi
set_option Elab.async false
set_option linter.all false
set_option maxRecDepth 100000
set_option maxHeartbeats 4000000
/-! Mi21: from a law's run to the law. -/
namespace Mi
open PySem PySem.Spec PyProof.Rows L2
/-- something of each def -/
def Each (p : Str → FE → Prop) : FEs → Prop
  | [] => True
  | (x, e) :: r => p x e ∧ Each p r
theorem Each.of {p : Str → FE → Prop} : ∀ {fs : FEs}, Each p fs → ∀ {x e}, (x, e) ∈ fs → p x e
  | (y, e') :: r, h, x, e, hm => by
    rcases List.mem_cons.mp hm with q | q
    · cases q; exact h.1
    · exact Each.of h.2 q
theorem Each.append {p : Str → FE → Prop} : ∀ {a b : FEs}, Each p a → Each p b → Each p (a ++ b)
  | [], _, _, h => h
  | (_, _) :: _, _, h, g => ⟨h.1, Each.append h.2 g⟩
def dfn (p : Str × FE) : He.DefD := ⟨(p.1, none), p.1, p.1, p.2.params, p.2.body, p.2.scope, [], []⟩
def cfa : Str × D → He.Fa
  | (x, .p (.int i)) => .int x i
  | (x, .p (.str z)) => .str x ⟨z.toArray⟩
  | (x, _) => .free x
/-- a constant that the head can tell of -/
def cOk : D → Bool
  | .p (.int _) => true
  | .p (.str z) => z.all fun c => decide (c < 128)
  | _ => false
def faOf (fs : FEs) (cs : List (Str × D)) : List He.Fa := fs.map (fun p => .glo p.1) ++ cs.map cfa ++ bltNames.map .free
/-- how a def's parameters are bound, by its text alone -/
def BindOk (x : Str) (e : FE) : Prop := ∀ (kV doc pm : Value) (an : Option Addr) (cd ct : Value) (us : List Value), us.length = e.ps.length → bindArgs (PySem.W.fnOf x x e.params e.body e.scope .none kV doc pm an cd ct) ⟨us, []⟩ = pure (e.ps.zip us)
theorem says_fa {fa : List He.Fa} {fn : List He.DefD} {K : PySem.W.Frag} (c : He.SaysD fa fn K) {f : He.Fa} (h : f ∈ fa) : f.ok K = true := by
  obtain ⟨i, hi⟩ := List.getElem?_of_mem h
  exact c.fact i hi
theorem says_fn {fa : List He.Fa} {fs : FEs} {K : PySem.W.Frag} (c : He.SaysD fa (fs.map dfn) K) {x : Str} {e : FE} (h : (x, e) ∈ fs) : ∃ fd, FunD K x x e.params e.body e.scope [] [] (He.ga K x) fd := by
  obtain ⟨i, hi⟩ := List.getElem?_of_mem (List.mem_map_of_mem (f := dfn) h)
  exact c.def_ i hi
theorem heap_ok {fs : FEs} {cs : List (Str × D)} {K : PySem.W.Frag} {h : Heap} {mg : Str → Option Value} (kin : K.In h) (glob : h.Ns mainGlobals mg) (c : He.SaysD (faOf fs cs) (fs.map dfn) K) (hc : (cs.all fun p => cOk p.2) = true) (hb : Each BindOk fs) : HeapOk fs cs K mg where
  fn x e he := by
    have hm := lookup_mem he
    obtain ⟨fd, F⟩ := says_fn c hm
    have g := He.glo_ok kin glob (says_fa c (f := .glo x) (by simp only [faOf, List.mem_append]; exact .inl (.inl (List.mem_map_of_mem (f := fun p : Str × FE => He.Fa.glo p.1) hm))))
    exact ⟨_, fd, g, F, F.bindsN (hb.of hm)⟩
  cs x d hd := by
    have hm := lookup_mem hd
    have hf : cfa (x, d) ∈ faOf fs cs := by simp only [faOf, List.mem_append]; exact .inl (.inr (List.mem_map_of_mem hm))
    have hk : cOk d = true := List.all_eq_true.mp hc _ hm
    match d, hf, hk with
    | .p (.int i), hf, _ =>
      obtain ⟨t, e⟩ := He.int_ok kin glob (says_fa c hf)
      exact ⟨.int i, _, e, ⟨t, rfl⟩, fun r H => .int i⟩
    | .p (.str z), hf, hk =>
      obtain ⟨t, e⟩ := He.str_ok kin glob (says_fa c hf)
      exact ⟨.str _, _, e, ⟨t, rfl⟩, fun r H => .str fun q hq => of_decide_eq_true (List.all_eq_true.mp hk q hq)⟩
  bl x hx := He.free_ok kin glob (says_fa c (f := .free x) (by simp only [faOf, List.mem_append]; exact .inr (List.mem_map_of_mem hx)))
/-- the store at the law's call -/
def S0 (ns : List Int) : Sto := { objs := [.fzl (ns.map pint)] }
theorem want_law {G : Pd} {a : Addr} {o : Obj} {ns : List Int} {run : List D → Sto → Res D} {S' : Sto} (h : run [.ref 0] (S0 ns) = .ok (pbl true) S') : spF G 1 run [.ref a] (Hs a o ns) (fun v _ => v = .bl true) fun _ _ _ => False := by
  have rep : ∀ l : List Int, Reps [a] G.K (Hs a o ns) (l.map pint) (l.map V.int) := fun l => by
    induction l with
    | nil => exact .nil
    | cons i r ih => exact .cons (.int i) ih
  have top0 : D.tops (ns.map pint) = 0 := by
    have z := tops_map_p (ns.map P.int)
    rw [List.map_map] at z
    exact z
  refine ⟨[], [a], S0 ns, [.ref 0], ⟨rfl, by simp, fun n q e => ?_, fun n q e => ?_, fun q hq => nomatch hq⟩, .cons (.ref rfl) .nil, rfl, ?_⟩
  · cases n with
    | zero =>
      cases e
      exact ⟨a, rfl, o, ns.map V.int, upd_same, rep ns⟩
    | succ n => cases e
  · cases n with
    | zero =>
      cases e
      exact .inl (Nat.le_of_eq top0)
    | succ n => cases e
  · rw [h]
    exact fun r' H' v _ _ _ hv => hv.bl_inv
/-- a law holds if its run tells True at every script -/
theorem law_of_run {l : PySem.W.OpenLaw} {k m : Nat} {q : Program} {loose : List Str} {XP : (Str → Option Value) → Heap → Prop} {d : DefRec} {fs : FEs} {cs : List (Str × D)} {e : FE} (hn : l.most = some 63) (hdf : d.params.defaults = []) (hr : Room k callerA) (hd : d.name = ("law" : Str))
    (he : fs.lookup ("law" : Str) = some e) (hp : e.ps = [("script" : Str)]) (h1 : e.np = 1) (hc : (cs.all fun p => cOk p.2) = true) (hb : Each BindOk fs) (ht : Each (TextOk fs cs) fs)
    (run : ∀ ns : List Int, ns.length ≤ 63 → ∃ S', runs fs k ("law" : Str) [.ref 0] (S0 ns) = .ok (pbl true) S') :
    PySem.W.WalkO q loose XP (hookN m (faOf fs cs) (fs.map dfn)).says l.row.toRowW d [] (fun f vs => PySem.call f vs) := by
  refine law_walk (x := "script") (k := k) hn (by rw [sizeLine_eq]; omega) hdf hr ?_
  intro w mg f h K kin says glob hmg
  rw [hd] at hmg
  have hm := lookup_mem he
  have H0 := heap_ok kin glob says hc hb
  obtain ⟨fd, F⟩ := says_fn says hm
  obtain ⟨f', fd', g', F', B'⟩ := H0.fn _ _ he
  rw [hmg] at g'
  cases g'
  refine ⟨fd', spF ⟨K, mg⟩ e.np (runs fs k ("law" : Str)), fun s u => ?_, fun a o ns hl => ?_, fun base _ _ => ?_⟩
  · have z := F'.bindsA (ps := e.ps) (hb.of hm) s [u] (by rw [hp]; rfl)
    rw [hp] at z
    exact z
  · obtain ⟨S', hS⟩ := run ns hl
    rw [h1]
    exact want_law hS
  · have z := defs_ok (P := l.prog) (w := w) (base := base) (fun x e' h' => ht.of (lookup_mem h')) H0 k _ _ he f fd' hmg F'
    rw [hp] at z
    exact z
end Mi
set_option Elab.async false
set_option linter.all false
set_option maxRecDepth 100000
set_option maxHeartbeats 4000000
/-! Mi22: how runs are reckoned with: stores, calls' ends, comprehensions whose parts leave the store alone. -/
namespace Mi
open PySem
/-- the store a body starts with -/
abbrev bare (S : Sto) : Sto := { S with wr := [] }
theorem cutOk_nil {S : Sto} (h : S.wr = []) (b : Nat) : S.cutOk b = true := by simp [Sto.cutOk, h]
theorem trim_small {S : Sto} {b : Nat} {st : Env} (h : S.wr = []) (hb : S.len ≤ b) : S.trim b st = S := by
  obtain ⟨objs, wr⟩ := S
  have h' : wr = [] := h
  subst h'
  have hb' : objs.length ≤ b := hb
  unfold Sto.trim
  split
  · simp [Sto.cut, List.take_of_length_le hb']
  · rfl
theorem trim_back {S : Sto} {ex : List MO} {st : Env} (ht : envTop st ≤ S.len) : ({ objs := S.objs ++ ex, wr := [] } : Sto).trim S.len st = bare S := by
  unfold Sto.trim
  rw [if_pos ⟨ht, cutOk_nil rfl _⟩]
  simp [Sto.cut, Sto.len]
theorem push_wr (S : Sto) (o : MO) : (S.push o).wr = S.wr := rfl
theorem push_len (S : Sto) (o : MO) : (S.push o).len = S.len + 1 := by simp [Sto.push, Sto.len]
theorem push_get (S : Sto) (o : MO) : (S.push o).get S.len = some o := by simp [Sto.push, Sto.get, Sto.len]
theorem push_set {S : Sto} {o o' : MO} (h : o'.top ≤ S.len) : (S.push o).set S.len o' = S.push o' := by
  unfold Sto.push Sto.set Sto.len
  rw [if_pos h]
  simp
/-- a call that tells data and leaves older objects alone leaves the caller's store as it was -/
theorem finish_data {S S' : Sto} {d : D} {ex : List MO} (ho : S'.objs = S.objs ++ ex) (hw : S'.wr = []) (ht : d.top = 0) : finish S d S' = .ok d S := by
  unfold finish
  rw [if_pos (cutOk_nil hw _), if_pos (by omega)]
  unfold backTo0
  rw [ho, hw]
  simp [Sto.len]
/-- .. that tells a new list or dict of data -/
theorem finish_new {S S' : Sto} {o : MO} {ex : List MO} {n : Nat} (ho : S'.objs = S.objs ++ ex) (hw : S'.wr = []) (hn : S.len ≤ n) (hg : S'.get n = some o) (ht : o.top = 0) : finish S (.ref n) S' = .ok (.ref S.len) (S.push o) := by
  unfold finish
  rw [if_pos (cutOk_nil hw _), if_neg (by simp only [D.top]; omega)]
  simp only [hg]
  rw [if_pos ⟨by omega, hn⟩]
  unfold backOne Sto.push
  rw [ho, hw]
  simp [Sto.len]
/-- a comprehension over items, its test and its element data of the item -/
theorem lc_data {chk : Sto → Bool} {t : Tg} {c : EM Bool} {elt : EM D} {st : Env} {S : Sto} {p : D → Bool} {f : D → D} {put : D → Env} (hw : S.wr = []) (hc : ∀ acc, chk (S.push (.lst acc)) = true) :
    ∀ {xs : List D} {acc : List D}, D.tops acc = 0 → acc.length + xs.length < sizeLine → (∀ x ∈ xs, t.put x st = some (put x) ∧ (∀ acc, c (put x) (S.push (.lst acc)) = .ok (p x) (S.push (.lst acc))) ∧ (p x = true → (f x).top = 0 ∧ ∀ acc, elt (put x) (S.push (.lst acc)) = .ok (f x) (S.push (.lst acc)))) →
      lcItems chk S.len t c elt st xs (S.push (.lst acc)) = .ok (.ref S.len) (S.push (.lst (acc ++ (xs.filter p).map f)))
  | [], acc, _, _, _ => by simp [lcItems, hc]
  | x :: xs, acc, h0, hz, h => by
    obtain ⟨h1, h2, h3⟩ := h x List.mem_cons_self
    have ih := fun {acc} h0 hz => lc_data (t := t) (c := c) (elt := elt) (st := st) (p := p) (f := f) (put := put) hw hc (xs := xs) (acc := acc) h0 hz fun y hy => h y (List.mem_cons_of_mem _ hy)
    simp only [List.length_cons] at hz
    simp only [lcItems, hc, if_true, h1, h2]
    cases hp : p x with
    | false =>
      simp only [Bool.false_eq_true, if_false]
      rw [trim_small (by rw [push_wr]; exact hw) (by rw [push_len]; exact Nat.le_refl _), ih h0 (by omega)]
      simp [List.filter_cons, hp]
    | true =>
      obtain ⟨h4, h5⟩ := h3 hp
      simp only [if_true, h5, push_get]
      rw [if_pos (by omega)]
      have ht : D.tops (acc ++ [f x]) = 0 := by rw [tops_append]; simp [D.tops, h0, h4]
      rw [push_set (by show D.tops _ ≤ _; omega), trim_small (by rw [push_wr]; exact hw) (by rw [push_len]; exact Nat.le_refl _), ih ht (by simp; omega)]
      simp [List.filter_cons, hp]
end Mi
set_option Elab.async false
set_option linter.all false
set_option maxRecDepth 100000
set_option maxHeartbeats 4000000
/-! Mi23: the runs' words, as rules of reckoning. -/
namespace Mi
open PySem
section
variable (st : Env) (S : Sto) (a b c : EM D) (t u : EM Bool) (as : EM (List D))
@[simp] theorem w_c (d : D) : mC d st S = .ok d S := rfl
@[simp] theorem w_var (i : Nat) : mVar i st S = match st[i]? with | some (some d) => .ok d S | _ => .stuck := rfl
@[simp] theorem w_2 (f : F2) : m2 f a b st S = (a st S).bind fun x S1 => (b st S1).bind fun y S2 => ofOpt (f x y S2) := rfl
@[simp] theorem w_1 (f : D → Sto → Option (D × Sto)) : m1 f a st S = (a st S).bind fun x S1 => ofOpt (f x S1) := rfl
@[simp] theorem w_n (f : List D → Sto → Option (D × Sto)) : mN f as st S = (as st S).bind fun xs S1 => ofOpt (f xs S1) := rfl
@[simp] theorem w_nil : mNil st S = .ok [] S := rfl
@[simp] theorem w_cons : mCons a as st S = (a st S).bind fun x S1 => (as st S1).bind fun xs S2 => .ok (x :: xs) S2 := rfl
@[simp] theorem w_chain (f g : F2) : mChain f g a b c st S = (a st S).bind fun x S1 => (b st S1).bind fun y S2 => (ofOpt (f x y S2)).bind fun z S3 => match z with
  | .p (.bl true) => (c st S3).bind fun w S4 => ofOpt (g y w S4)
  | .p (.bl false) => .ok (pbl false) S3
  | _ => .stuck := rfl
@[simp] theorem w_tru : mTru a st S = (a st S).bind fun x S1 => match truB S1 x with | some k => .ok k S1 | none => .stuck := rfl
@[simp] theorem w_b : mB a st S = (a st S).bind fun x S1 => match x with | .p (.bl k) => .ok k S1 | _ => .stuck := rfl
@[simp] theorem w_notT : mNotT t st S = (t st S).bind fun k S1 => .ok (!k) S1 := rfl
@[simp] theorem w_andT : mAndT t u st S = (t st S).bind fun k S1 => if k = true then u st S1 else .ok false S1 := rfl
@[simp] theorem w_orT : mOrT t u st S = (t st S).bind fun k S1 => if k = true then .ok true S1 else u st S1 := rfl
@[simp] theorem w_and : mAnd a b st S = (a st S).bind fun x S1 => match truB S1 x with | some true => b st S1 | some false => .ok x S1 | none => .stuck := rfl
@[simp] theorem w_or : mOr a b st S = (a st S).bind fun x S1 => match truB S1 x with | some true => .ok x S1 | some false => b st S1 | none => .stuck := rfl
@[simp] theorem w_not : mNot a st S = (a st S).bind fun x S1 => match truB S1 x with | some k => .ok (pbl (!k)) S1 | none => .stuck := rfl
@[simp] theorem w_ite : mIte t a b st S = (t st S).bind fun k S1 => if k = true then a st S1 else b st S1 := rfl
@[simp] theorem w_isi (T : String) : mIsi T a st S = (a st S).bind fun x S1 => match kindD S1 x with
  | some k => match isiB k T with
    | some r => .ok (pbl r) S1
    | none => .stuck
  | none => .stuck := rfl
@[simp] theorem w_call (calls : Calls) (x : Str) (np : Nat) : mCall calls x np as st S = (as st S).bind fun ds S1 => if ds.length = np then calls x ds S1 else .stuck := rfl
@[simp] theorem w_seq (m n : SM) : sSeq m n st S = match m st S with | .nx st1 S1 => n st1 S1 | o => o := rfl
@[simp] theorem w_snil : sNil st S = .nx st S := rfl
@[simp] theorem w_if (m n : SM) : sIf t m n st S = sbind (t st S) st fun k S1 => if k = true then m st S1 else n st S1 := rfl
@[simp] theorem w_ret : sRet a st S = sbind (a st S) st fun d S1 => .rt d S1 := rfl
@[simp] theorem w_set (i : Nat) : sSet i a st S = sbind (a st S) st fun d S1 => .nx (st.set i (some d)) S1 := rfl
@[simp] theorem w_expr : sExpr a st S = sbind (a st S) st fun _ S1 => .nx st S1 := rfl
end
@[simp] theorem tru_bl (S : Sto) (b : Bool) : truB S (pbl b) = some b := rfl
@[simp] theorem kind_str (S : Sto) (x : List Nat) : kindD S (pstr x) = some "str" := rfl
@[simp] theorem kind_tup (S : Sto) (x : List P) : kindD S (.p (.tup x)) = some "tuple" := rfl
/-- a call of a def of the table -/
theorem runs_at {fs : FEs} {x : Str} {e : FE} (h : fs.lookup x = some e) (n : Nat) (ds : List D) (S : Sto) : runs fs (n + 1) x ds S = callBody e.N.length (e.m (runs fs n)) ds S := by
  simp only [runs, h]
/-- a body that ends by return of data, older objects left alone -/
theorem call_data {m : SM} {k : Nat} {ds : List D} {S S' : Sto} {d : D} {ex : List MO} (h : m (ds.map some ++ List.replicate (k - ds.length) none) (bare S) = .rt d S') (ho : S'.objs = S.objs ++ ex) (hw : S'.wr = []) (ht : d.top = 0) : callBody k m ds S = .ok d S := by
  unfold callBody
  rw [h]
  exact finish_data ho hw ht
end Mi
set_option Elab.async false
set_option linter.all false
set_option maxRecDepth 100000
set_option maxHeartbeats 4000000
/-! Mi24: loops over items that put data at the end of one list. -/
namespace Mi
open PySem
/-- each turn appends g x to the newest list; J: what stays true of the slots -/
theorem for_app {J : Env → Prop} {t : Tg} {body : SM} {B : Sto} {g : D → D} (hw : B.wr = []) : ∀ {xs : List D} {acc : List D} {st : Env}, J st → D.tops acc = 0 → acc.length + xs.length < sizeLine →
    (∀ x ∈ xs, ∀ st, J st → ∃ st1 st2, t.put x st = some st1 ∧ J st2 ∧ (g x).top = 0 ∧ ∀ acc, acc.length < sizeLine → D.tops acc = 0 → body st1 (B.push (.lst acc)) = .nx st2 (B.push (.lst (acc ++ [g x])))) →
    ∃ st', J st' ∧ forItems (fun _ => true) (B.len + 1) t body xs st (B.push (.lst acc)) = .nx st' (B.push (.lst (acc ++ xs.map g)))
  | [], acc, st, hJ, _, _, _ => ⟨st, hJ, by simp [forItems]⟩
  | x :: xs, acc, st, hJ, h0, hz, h => by
    simp only [List.length_cons] at hz
    obtain ⟨st1, st2, h1, h2, hg, h3⟩ := h x List.mem_cons_self st hJ
    have h0' : D.tops (acc ++ [g x]) = 0 := by rw [tops_append, h0]; simp [D.tops, hg]
    obtain ⟨st', h4, h5⟩ := for_app (B := B) hw (xs := xs) (acc := acc ++ [g x]) h2 h0' (by simp; omega) fun y hy => h y (List.mem_cons_of_mem _ hy)
    refine ⟨st', h4, ?_⟩
    simp only [forItems, if_true, h1, h3 acc (by omega) h0]
    rw [trim_small (by rw [push_wr]; exact hw) (by rw [push_len]; exact Nat.le_refl _), h5]
    simp
/-- data at the end of the newest list -/
theorem app_newest {B : Sto} {acc : List D} {d : D} (hz : acc.length < sizeLine) (h0 : D.tops acc = 0) (hd : d.top = 0) : appendM "list" (.ref B.len) [d] (B.push (.lst acc)) = some (pnon, B.push (.lst (acc ++ [d]))) := by
  have hm : (B.push (.lst acc)).mlist (.ref B.len) = some (B.len, acc) := by simp [Sto.mlist, push_get]
  have ht : (MO.lst (acc ++ [d])).top ≤ B.len := by
    show D.tops _ ≤ _
    rw [tops_append, h0]
    simp [D.tops, hd]
  simp only [appendM, hm, if_pos hz, push_set ht]
/-- a loop over a tuple of data -/
theorem for_tup {mi : EM D} {t : Tg} {body : SM} {st : Env} {S : Sto} {xs : List P} (h : mi st S = .ok (.p (.tup xs)) S) : sForK (.any mi) t body st S = (forItems (fun _ => true) S.len t body (xs.map D.p) st S).trimNx S.len := by
  simp [sForK, sForAny, h, sFor, iSeq, walkD, Sto.list, D.items, noK]
/-- .. that appends data to the newest list -/
theorem for_tup_app {J : Env → Prop} {mi : EM D} {t : Tg} {body : SM} {B : Sto} {g : D → D} {st : Env} {xs : List P} {acc : List D} (hw : B.wr = []) (hm : mi st (B.push (.lst acc)) = .ok (.p (.tup xs)) (B.push (.lst acc))) (hJ : J st) (h0 : D.tops acc = 0) (hz : acc.length + xs.length < sizeLine)
    (h : ∀ x ∈ xs, ∀ st, J st → ∃ st1 st2, t.put (.p x) st = some st1 ∧ J st2 ∧ (g (.p x)).top = 0 ∧ ∀ acc, acc.length < sizeLine → D.tops acc = 0 → body st1 (B.push (.lst acc)) = .nx st2 (B.push (.lst (acc ++ [g (.p x)])))) :
    ∃ st', J st' ∧ sForK (.any mi) t body st (B.push (.lst acc)) = .nx st' (B.push (.lst (acc ++ xs.map fun x => g (.p x)))) := by
  obtain ⟨st', h1, h2⟩ := for_app (J := J) (t := t) (body := body) (B := B) (g := g) hw (xs := xs.map D.p) (acc := acc) hJ h0 (by simpa using hz) fun d hd => by
    obtain ⟨x, hx, rfl⟩ := List.mem_map.mp hd
    exact h x hx
  refine ⟨st', h1, ?_⟩
  rw [for_tup hm, push_len, h2]
  simp only [Out.trimNx]
  rw [trim_small (by rw [push_wr]; exact hw) (by rw [push_len]; exact Nat.le_refl _), List.map_map]
  rfl
theorem dStrs_map : ∀ l : List (List Nat), dStrs (l.map pstr) = some l
  | [] => rfl
  | x :: r => by simp [dStrs, dStrs_map r]
theorem joinL_nil : ∀ l : List (List Nat), joinL [] l = l.flatten
  | [] => rfl
  | [x] => by simp [joinL]
  | x :: y :: r => by simp [joinL, joinL_nil (y :: r)]
theorem sumLen_flatten : ∀ l : List (List Nat), sumLen l = l.flatten.length
  | [] => rfl
  | x :: r => by simp [sumLen, sumLen_flatten r]
/-- ''.join of the newest list -/
theorem join_newest {B : Sto} {l : List (List Nat)} (h : l.flatten.length ≤ 16777216) : joinM "str" (pstr []) [.ref B.len] (B.push (.lst (l.map pstr))) = some (pstr l.flatten, B.push (.lst (l.map pstr))) := by
  have hs : (B.push (.lst (l.map pstr))).seq (.ref B.len) = some (l.map pstr) := by simp [Sto.seq, D.items, Sto.list, push_get]
  simp only [joinM, hs, dStrs_map, sumLen_flatten, List.length_nil, Nat.mul_zero, Nat.add_zero, if_pos h, joinL_nil]
/-- .. the items told by data of their own kind -/
theorem for_appA {α : Type} {J : Env → Prop} {t : Tg} {body : SM} {B : Sto} {f : α → P} {g : α → List Nat} (hw : B.wr = []) : ∀ {ys : List α} {acc : List (List Nat)} {st : Env}, J st → acc.length + ys.length < sizeLine →
    (∀ y ∈ ys, ∀ st, J st → ∃ st1 st2, t.put (.p (f y)) st = some st1 ∧ J st2 ∧ ∀ acc : List D, acc.length < sizeLine → D.tops acc = 0 → body st1 (B.push (.lst acc)) = .nx st2 (B.push (.lst (acc ++ [pstr (g y)])))) →
    ∃ st', J st' ∧ forItems (fun _ => true) (B.len + 1) t body (ys.map fun y => .p (f y)) st (B.push (.lst (acc.map pstr))) = .nx st' (B.push (.lst ((acc ++ ys.map g).map pstr)))
  | [], acc, st, hJ, _, _ => ⟨st, hJ, by simp [forItems]⟩
  | y :: ys, acc, st, hJ, hz, h => by
    simp only [List.length_cons] at hz
    obtain ⟨st1, st2, h1, h2, h3⟩ := h y List.mem_cons_self st hJ
    obtain ⟨st', h4, h5⟩ := for_appA (B := B) (f := f) (g := g) hw (ys := ys) (acc := acc ++ [g y]) h2 (by simp; omega) fun z hz => h z (List.mem_cons_of_mem _ hz)
    refine ⟨st', h4, ?_⟩
    have h0 : D.tops (acc.map pstr) = 0 := by
      have z := tops_map_p (acc.map P.str)
      rw [List.map_map] at z
      exact z
    simp only [List.map_cons, forItems, if_true, h1, h3 (acc.map pstr) (by simp; omega) h0]
    rw [trim_small (by rw [push_wr]; exact hw) (by rw [push_len]; exact Nat.le_refl _)]
    simpa using h5
theorem for_tupA {α : Type} {J : Env → Prop} {mi : EM D} {t : Tg} {body : SM} {B : Sto} {f : α → P} {g : α → List Nat} {st : Env} {ys : List α} {acc : List (List Nat)} (hw : B.wr = []) (hm : mi st (B.push (.lst (acc.map pstr))) = .ok (.p (.tup (ys.map f))) (B.push (.lst (acc.map pstr)))) (hJ : J st) (hz : acc.length + ys.length < sizeLine)
    (h : ∀ y ∈ ys, ∀ st, J st → ∃ st1 st2, t.put (.p (f y)) st = some st1 ∧ J st2 ∧ ∀ acc : List D, acc.length < sizeLine → D.tops acc = 0 → body st1 (B.push (.lst acc)) = .nx st2 (B.push (.lst (acc ++ [pstr (g y)])))) :
    ∃ st', J st' ∧ sForK (.any mi) t body st (B.push (.lst (acc.map pstr))) = .nx st' (B.push (.lst ((acc ++ ys.map g).map pstr))) := by
  obtain ⟨st', h1, h2⟩ := for_appA (J := J) (t := t) (body := body) (B := B) (f := f) (g := g) hw (ys := ys) (acc := acc) hJ hz h
  refine ⟨st', h1, ?_⟩
  have e : (ys.map f).map D.p = ys.map fun y => .p (f y) := by rw [List.map_map]; rfl
  rw [for_tup hm, push_len, e, h2]
  simp only [Out.trimNx]
  rw [trim_small (by rw [push_wr]; exact hw) (by rw [push_len]; exact Nat.le_refl _)]
end Mi
set_option Elab.async false
set_option linter.all false
set_option maxRecDepth 100000
set_option maxHeartbeats 4000000
/-! Mi25: stores that are an older one and some new objects; calls, loops, comprehensions over such. -/
namespace Mi
open PySem
/-- an older store and new objects, nothing written ahead -/
def ext (S : Sto) (xs : List MO) : Sto := ⟨S.objs ++ xs, []⟩
section
variable (S : Sto) (xs : List MO)
theorem bare_ext : ({ S with wr := [] } : Sto) = ext S [] := by simp [ext]
@[simp] theorem ext_wr : (ext S xs).wr = [] := rfl
@[simp] theorem ext_olen : (ext S xs).objs.length = S.objs.length + xs.length := by simp [ext]
@[simp] theorem ext_push (o : MO) : (ext S xs).push o = ext S (xs ++ [o]) := by simp [ext, Sto.push]
@[simp high] theorem ext_at (i : Nat) : (ext S xs).objs[S.objs.length + i]? = xs[i]? := by
  simp only [ext]
  rw [List.getElem?_append_right (by omega)]
  congr 1
  omega
@[simp high] theorem ext_at0 : (ext S xs).objs[S.objs.length]? = xs[0]? := by
  have z := ext_at S xs 0
  simpa using z
theorem ext_set {i : Nat} {o : MO} (h : o.top ≤ S.objs.length + i) : (ext S xs).set (S.objs.length + i) o = ext S (xs.set i o) := by
  unfold ext Sto.set
  rw [if_pos h]
  simp
theorem ext_set0 {o : MO} (h : o.top ≤ S.objs.length) : (ext S xs).set S.objs.length o = ext S (xs.set 0 o) := ext_set S xs (i := 0) h
end
@[simp] theorem top_lst (xs : List D) : (MO.lst xs).top = D.tops xs := rfl
@[simp] theorem top_dct (xs : List (D × D)) : (MO.dct xs).top = topKV xs := rfl
@[simp] theorem tops_nil : D.tops [] = 0 := rfl
@[simp] theorem tops_cons (x : D) (r : List D) : D.tops (x :: r) = max x.top (D.tops r) := rfl
@[simp] theorem top_p (x : P) : (D.p x).top = 0 := rfl
@[simp] theorem top_ref (n : Nat) : (D.ref n).top = n + 1 := rfl
@[simp] theorem tops_app (a b : List D) : D.tops (a ++ b) = max (D.tops a) (D.tops b) := tops_append a b
@[simp] theorem tops_mapp {α : Type} (f : α → P) (l : List α) : D.tops (l.map fun a => D.p (f a)) = 0 := by
  have z := tops_map_p (l.map f)
  rw [List.map_map] at z
  exact z
@[simp] theorem tops_mapp' (l : List P) : D.tops (l.map D.p) = 0 := tops_map_p l
theorem topKV_of {l : List (D × D)} {b : Nat} (h : ∀ q ∈ l, q.1.top ≤ b ∧ q.2.top ≤ b) : topKV l ≤ b := by
  induction l with
  | nil => simp [topKV]
  | cons q r ih =>
    obtain ⟨k, v⟩ := q
    have h1 := h (k, v) List.mem_cons_self
    have h2 := ih fun q hq => h q (List.mem_cons_of_mem _ hq)
    simp only [topKV] at *
    omega
@[simp] theorem topKV_mapp {α : Type} (f g : α → P) (l : List α) : topKV (l.map fun a => (D.p (f a), D.p (g a))) = 0 :=
  Nat.le_zero.mp (topKV_of fun q hq => by obtain ⟨a, _, rfl⟩ := List.mem_map.mp hq; exact ⟨Nat.le_refl _, Nat.le_refl _⟩)
@[simp] theorem envTop_nil : envTop [] = 0 := rfl
@[simp] theorem envTop_none (r : List (Option D)) : envTop (none :: r) = envTop r := rfl
@[simp] theorem envTop_some (d : D) (r : List (Option D)) : envTop (some d :: r) = max d.top (envTop r) := rfl
theorem trim_ext {S : Sto} {xs : List MO} {k : Nat} {st : Env} (h : envTop st ≤ S.objs.length + k) : (ext S xs).trim (S.objs.length + k) st = ext S (xs.take k) := by
  unfold Sto.trim
  rw [if_pos ⟨h, cutOk_nil rfl _⟩]
  simp [Sto.cut, ext, List.take_append]
  rw [List.take_of_length_le (by omega)]
/-- the ends of calls -/
theorem call_rt {m : SM} {k : Nat} {ds : List D} {S : Sto} {d : D} {ex : List MO} (h : m (ds.map some ++ List.replicate (k - ds.length) none) (ext S []) = .rt d (ext S ex)) (ht : d.top = 0) : callBody k m ds S = .ok d S :=
  call_data (S' := ext S ex) (ex := ex) (by rw [← h]; exact congrArg _ (bare_ext S)) rfl rfl ht
theorem call_nx {m : SM} {k : Nat} {ds : List D} {S : Sto} {st : Env} {ex : List MO} (h : m (ds.map some ++ List.replicate (k - ds.length) none) (ext S []) = .nx st (ext S ex)) : callBody k m ds S = .ok pnon S := by
  unfold callBody
  rw [bare_ext, h]
  exact finish_data (S' := ext S ex) (ex := ex) rfl rfl rfl
/-- .. that tell a new list or dict of data -/
theorem call_new {m : SM} {k : Nat} {ds : List D} {S : Sto} {ex : List MO} {i : Nat} {o : MO} (h : m (ds.map some ++ List.replicate (k - ds.length) none) (ext S []) = .rt (.ref (S.objs.length + i)) (ext S ex)) (hg : ex[i]? = some o) (ht : o.top = 0) : callBody k m ds S = .ok (.ref S.objs.length) (S.push o) := by
  unfold callBody
  rw [bare_ext, h]
  exact finish_new (S' := ext S ex) (ex := ex) rfl rfl (Nat.le_add_right _ _) (by rw [show (ext S ex).get (S.objs.length + i) = ex[i]? from ext_at S ex i]; exact hg) ht
theorem runs_n {fs : FEs} {x : Str} {e : FE} {n : Nat} (h : fs.lookup x = some e) (hn : 1 ≤ n) (ds : List D) (S : Sto) : runs fs n x ds S = callBody e.N.length (e.m (runs fs (n - 1))) ds S := by
  obtain ⟨m, rfl⟩ : ∃ m, n = m + 1 := ⟨n - 1, by omega⟩
  exact runs_at h m ds S
/-- loops over items -/
theorem for_ext {chk : Sto → Bool} {t : Tg} {body : SM} {S : Sto} {k : Nat} {I : List D → Env → List MO → Prop} (hE : ∀ st o, I [] st o → chk (ext S o) = true)
    (hI : ∀ x r st o, I (x :: r) st o → chk (ext S o) = true ∧ ∃ st1 st2 o2, t.put x st = some st1 ∧ body st1 (ext S o) = .nx st2 (ext S o2) ∧ envTop st2 ≤ S.objs.length + k ∧ I r st2 (o2.take k)) :
    ∀ xs st o, I xs st o → ∃ st' o', forItems chk (S.objs.length + k) t body xs st (ext S o) = .nx st' (ext S o') ∧ I [] st' o'
  | [], st, o, h => ⟨st, o, by simp [forItems, hE st o h], h⟩
  | x :: r, st, o, h => by
    obtain ⟨h1, st1, st2, o2, h2, h3, h4, h5⟩ := hI x r st o h
    obtain ⟨st', o', h6, h7⟩ := for_ext hE hI r st2 _ h5
    refine ⟨st', o', ?_, h7⟩
    simp only [forItems, h1, if_true, h2, h3]
    rw [trim_ext h4, h6]
/-- a loop over a tuple of data -/
theorem forK_tup {mi : EM D} {t : Tg} {body : SM} {S : Sto} {o : List MO} {xs : List P} {st : Env} {I : List D → Env → List MO → Prop} (hm : mi st (ext S o) = .ok (.p (.tup xs)) (ext S o)) (h0 : I (xs.map D.p) st o)
    (hI : ∀ x r st o', I (x :: r) st o' → ∃ st1 st2 o2, t.put x st = some st1 ∧ body st1 (ext S o') = .nx st2 (ext S o2) ∧ envTop st2 ≤ S.objs.length + o.length ∧ I r st2 (o2.take o.length)) (hE : ∀ st o', I [] st o' → envTop st ≤ S.objs.length + o.length ∧ o'.length ≤ o.length) :
    ∃ st' o', sForK (.any mi) t body st (ext S o) = .nx st' (ext S o') ∧ I [] st' o' := by
  obtain ⟨st', o', h1, h2⟩ := for_ext (chk := fun _ => true) (t := t) (body := body) (S := S) (k := o.length) (I := I) (fun _ _ _ => rfl) (fun x r st o h => ⟨rfl, hI x r st o h⟩) _ _ _ h0
  refine ⟨st', o', ?_, h2⟩
  rw [for_tup hm, show (ext S o).len = S.objs.length + o.length from ext_olen S o, h1]
  simp only [Out.trimNx]
  obtain ⟨h3, h4⟩ := hE st' o' h2
  rw [trim_ext h3, List.take_of_length_le h4]
/-- while -/
theorem while_ext {S : Sto} {k : Nat} {c : EM Bool} {body : SM} {I : Nat → Env → List MO → Prop} {Q : Env → List MO → Prop}
    (step : ∀ m st o, I m st o → ∃ b o1, c st (ext S o) = .ok b (ext S o1) ∧ if b = true then ∃ st2 o2, body st (ext S o1) = .nx st2 (ext S o2) ∧ envTop st2 ≤ S.objs.length + k ∧ ∃ m', m' < m ∧ I m' st2 (o2.take k) else envTop st ≤ S.objs.length + k ∧ Q st (o1.take k)) :
    ∀ m st o, I m st o → ∃ st' o', sWhileB (S.objs.length + k) c body st (ext S o) = .nx st' (ext S o') ∧ Q st' o' := by
  intro m
  induction m using Nat.strongRecOn with
  | _ m ih =>
    intro st o h
    obtain ⟨b, o1, h1, h2⟩ := step m st o h
    rw [sWhileB_eq, h1]
    cases b with
    | true =>
      simp only [if_true] at h2
      obtain ⟨st2, o2, h3, h4, m', h5, h6⟩ := h2
      obtain ⟨st', o', h7, h8⟩ := ih m' h5 st2 _ h6
      refine ⟨st', o', ?_, h8⟩
      simp only [sbind_ok, if_true, h3]
      rw [trim_ext h4, h7]
    | false =>
      simp only [Bool.false_eq_true, if_false] at h2
      refine ⟨st, o1.take k, ?_, h2.2⟩
      simp only [sbind_ok, Bool.false_eq_true, if_false]
      rw [trim_ext h2.1]
theorem while_of {S : Sto} {o : List MO} {c : EM Bool} {body : SM} {st : Env} : sWhile c body st (ext S o) = sWhileB (S.objs.length + o.length) c body st (ext S o) := by
  unfold sWhile
  rw [show (ext S o).len = S.objs.length + o.length from ext_olen S o]
/-- comprehensions whose test and element leave every store alone -/
theorem lc_pure {t : Tg} {c : EM Bool} {elt : EM D} {st : Env} {S : Sto} {p : D → Bool} {f : D → D} {put : D → Env} {xs : List D} (hw : S.wr = []) (hz : xs.length < sizeLine)
    (h : ∀ x ∈ xs, t.put x st = some (put x) ∧ (∀ S', c (put x) S' = .ok (p x) S') ∧ (p x = true → (f x).top = 0 ∧ ∀ S', elt (put x) S' = .ok (f x) S')) :
    lcItems (fun _ => true) S.objs.length t c elt st xs (S.push (.lst [])) = .ok (.ref S.objs.length) (S.push (.lst ((xs.filter p).map f))) := by
  have z := lc_data (chk := fun _ => true) (t := t) (c := c) (elt := elt) (st := st) (S := S) (p := p) (f := f) (put := put) hw (fun _ => rfl) (xs := xs) (acc := []) rfl (by simpa using hz) fun x hx => ⟨(h x hx).1, fun _ => (h x hx).2.1 _, fun hp => ⟨((h x hx).2.2 hp).1, fun _ => ((h x hx).2.2 hp).2 _⟩⟩
  simpa using z
theorem lcK_tup {mi : EM D} {t : Tg} {c : EM Bool} {elt : EM D} {vs : List Nat} {st : Env} {S : Sto} {xs : List P} (hm : mi st S = .ok (.p (.tup xs)) S) : mLcK (.any mi) t c elt vs st S = lcItems (fun _ => true) S.objs.length t c elt (wipeE st vs) (xs.map D.p) (S.push (.lst [])) := by
  simp [mLcK, mLcAny, hm, mLc, iSeq, walkD, Sto.list, D.items, noK]
theorem lcK_str {mi : EM D} {t : Tg} {c : EM Bool} {elt : EM D} {vs : List Nat} {st : Env} {S : Sto} {x : List Nat} (hm : mi st S = .ok (pstr x) S) : mLcK (.any mi) t c elt vs st S = lcItems (fun _ => true) S.objs.length t c elt (wipeE st vs) (x.map fun c => pstr [c]) (S.push (.lst [])) := by
  simp [mLcK, mLcAny, hm, mLc, iSeq, walkD, Sto.list, D.items, noK]
theorem lcK_enum {mi : EM D} {t : Tg} {c : EM Bool} {elt : EM D} {vs : List Nat} {st : Env} {S : Sto} {xs : List P} (hm : mi st S = .ok (.p (.tup xs)) S) : mLcK (.im (iEnum mi)) t c elt vs st S = lcItems (fun _ => true) S.objs.length t c elt (wipeE st vs) (enumL 0 (xs.map D.p)) (S.push (.lst [])) := by
  simp [mLcK, hm, mLc, iEnum, walkD, Sto.list, D.items, noK]
/-! data -/
abbrev tp (xs : List P) : D := .p (.tup xs)
section
variable (S : Sto)
@[simp] theorem i_0 (a : P) (r : List P) : idxF (tp (a :: r)) (pint 0) S = some (.p a, S) := by
  simp [idxF, D.ritems, L2.atI, L2.ixN]
@[simp] theorem i_1 (a b : P) (r : List P) : idxF (tp (a :: b :: r)) (pint 1) S = some (.p b, S) := by
  have z : (1 : Int) < (r.length : Int) + 1 + 1 := by omega
  simp [idxF, D.ritems, L2.atI, L2.ixN, z]
@[simp] theorem i_2 (a b c : P) (r : List P) : idxF (tp (a :: b :: c :: r)) (pint 2) S = some (.p c, S) := by
  have z : (2 : Int) < (r.length : Int) + 1 + 1 + 1 := by omega
  simp [idxF, D.ritems, L2.atI, L2.ixN, z]
@[simp] theorem i_3 (a b c d : P) (r : List P) : idxF (tp (a :: b :: c :: d :: r)) (pint 3) S = some (.p d, S) := by
  have z : (3 : Int) < (r.length : Int) + 1 + 1 + 1 + 1 := by omega
  simp [idxF, D.ritems, L2.atI, L2.ixN, z]
@[simp] theorem i_4 (a b c d e : P) (r : List P) : idxF (tp (a :: b :: c :: d :: e :: r)) (pint 4) S = some (.p e, S) := by
  have z : (4 : Int) < (r.length : Int) + 1 + 1 + 1 + 1 + 1 := by omega
  simp [idxF, D.ritems, L2.atI, L2.ixN, z]
/-- a sign of a text -/
theorem i_str {x : List Nat} {i c : Nat} (h : x[i]? = some c) (hz : x.length ≤ sizeLine) : idxF (pstr x) (pint (i : Nat)) S = some (pstr [c], S) := by
  have z : L2.atI x ((i : Nat) : Int) = some c := L2.atI_nat h
  simp [idxF, hz, z]
@[simp] theorem l_tup (xs : List P) : lenF [tp xs] S = some (pint xs.length, S) := by simp [lenF, Sto.seq, D.items]
theorem l_str {x : List Nat} (h : x.length ≤ sizeLine) : lenF [pstr x] S = some (pint x.length, S) := by simp [lenF, h]
@[simp] theorem eq_int (i j : Int) : eqF (pint i) (pint j) S = some (pbl (decide (i = j)), S) := rfl
@[simp] theorem eq_str (x y : List Nat) : eqF (pstr x) (pstr y) S = some (pbl (decide (x = y)), S) := rfl
@[simp] theorem ne_int (i j : Int) : neF (pint i) (pint j) S = some (pbl (!decide (i = j)), S) := rfl
@[simp] theorem ne_str (x y : List Nat) : neF (pstr x) (pstr y) S = some (pbl (!decide (x = y)), S) := rfl
@[simp] theorem lt_int (i j : Int) : ltF (pint i) (pint j) S = some (pbl (decide (i < j)), S) := rfl
@[simp] theorem le_int (i j : Int) : leF (pint i) (pint j) S = some (pbl (decide (i ≤ j)), S) := rfl
@[simp] theorem gt_int (i j : Int) : gtF (pint i) (pint j) S = some (pbl (decide (j < i)), S) := rfl
@[simp] theorem ge_int (i j : Int) : geF (pint i) (pint j) S = some (pbl (decide (j ≤ i)), S) := rfl
@[simp] theorem add_int (i j : Int) : addF (pint i) (pint j) S = some (pint (i + j), S) := rfl
@[simp] theorem sub_int (i j : Int) : subF (pint i) (pint j) S = some (pint (i - j), S) := rfl
@[simp] theorem in_sign (c : Nat) (y : List Nat) : inF (pstr [c]) (pstr y) S = some (pbl (decide (c ∈ y)), S) := rfl
@[simp] theorem notIn_sign (c : Nat) (y : List Nat) : notInF (pstr [c]) (pstr y) S = some (pbl (!decide (c ∈ y)), S) := rfl
theorem a_str {x y : List Nat} (h : x.length + y.length ≤ sizeLine) : addF (pstr x) (pstr y) S = some (pstr (x ++ y), S) := by simp [addF, h]
theorem a_tup {x y : List P} (h : x.length + y.length ≤ sizeLine) : addF (tp x) (tp y) S = some (tp (x ++ y), S) := by
  simp only [addF, D.items, List.length_map, if_pos h]
  rw [← List.map_append, mkTup_p]
@[simp] theorem isNot_non (x : P) : isNotF (.p x) pnon S = some (pbl (!decide (x = .non)), S) := by simp [isNotF, isB]
@[simp] theorem is_non (x : P) : isF (.p x) pnon S = some (pbl (decide (x = .non)), S) := by simp [isF, isB]
@[simp] theorem kind_p_str (x : List Nat) : kindD S (.p (.str x)) = some "str" := rfl
@[simp] theorem isi_tup_tup : isiB "tuple" "tuple" = some true := rfl
@[simp] theorem isi_tup_str : isiB "tuple" "str" = some false := rfl
@[simp] theorem isi_str_tup : isiB "str" "tuple" = some false := rfl
@[simp] theorem t_nil : tupF [] S = some (tp [], S) := rfl
@[simp] theorem t_1 (a : P) : tupF [.p a] S = some (tp [a], S) := rfl
@[simp] theorem t_2 (a b : P) : tupF [.p a, .p b] S = some (tp [a, b], S) := rfl
@[simp] theorem t_3 (a b c : P) : tupF [.p a, .p b, .p c] S = some (tp [a, b, c], S) := rfl
@[simp] theorem t_5 (a b c d e : P) : tupF [.p a, .p b, .p c, .p d, .p e] S = some (tp [a, b, c, d, e], S) := rfl
end
/-- == with the empty tuple -/
theorem pys_nil (xs : List P) : (P.pys xs).isEmpty = xs.isEmpty := by cases xs <;> rfl
theorem eq_tnil (S : Sto) (xs : List P) : eqF (tp xs) (tp []) S = some (pbl xs.isEmpty, S) := by
  cases xs <;> simp [eqF, eqB, D.py, P.py, P.pys, PyData.depth, PyData.depthAll, PyData.eqv, PyData.eqvAll]
end Mi
set_option Elab.async false
set_option linter.all false
set_option maxRecDepth 100000
set_option maxHeartbeats 4000000
/-! Mi26: steps through bodies: sequences, loops; dicts of new stores. -/
namespace Mi
open PySem
theorem seq_nx {m n : SM} {st st1 : Env} {S S1 : Sto} {R : Out} (h : m st S = .nx st1 S1) (k : n st1 S1 = R) : sSeq m n st S = R := by
  simp only [w_seq, h, k]
theorem seq_rt {m n : SM} {st : Env} {S S1 : Sto} {d : D} (h : m st S = .rt d S1) : sSeq m n st S = .rt d S1 := by
  simp only [w_seq, h]
theorem seq_nil {m : SM} {st : Env} {S : Sto} {R : Out} (h : m st S = R) : sSeq m sNil st S = R := by
  simp only [w_seq, h]
  cases R <;> simp
/-- what a run tells at its end, the new objects forgotten -/
def Rts (d : D) (S : Sto) (out : Out) : Prop := ∃ ex, out = .rt d (ext S ex)
theorem go_nx {R : Out → Prop} {m n : SM} {st st1 : Env} {S S1 : Sto} (h : m st S = .nx st1 S1) (k : R (n st1 S1)) : R (sSeq m n st S) := by
  rw [show sSeq m n st S = n st1 S1 from seq_nx h rfl]
  exact k
theorem go_rt {m n : SM} {st : Env} {S S0 : Sto} {d : D} {ex : List MO} (h : m st S = .rt d (ext S0 ex)) : Rts d S0 (sSeq m n st S) := ⟨ex, seq_rt h⟩
theorem call_go {m : SM} {k : Nat} {ds : List D} {S : Sto} {d : D} (h : Rts d S (m (ds.map some ++ List.replicate (k - ds.length) none) (ext S []))) (ht : d.top = 0) : callBody k m ds S = .ok d S := by
  obtain ⟨ex, h⟩ := h
  exact call_rt h ht
theorem forA {α : Type} {f : α → P} {mi : EM D} {t : Tg} {body : SM} {S : Sto} {o : List MO} {ys : List α} {st : Env} (I : List α → Env → List MO → Prop) (hm : mi st (ext S o) = .ok (tp (ys.map f)) (ext S o)) (h0 : I ys st o)
    (hI : ∀ y r st o', I (y :: r) st o' → ∃ st1 st2 o2, t.put (.p (f y)) st = some st1 ∧ body st1 (ext S o') = .nx st2 (ext S o2) ∧ envTop st2 ≤ S.objs.length + o.length ∧ I r st2 (o2.take o.length)) (hE : ∀ st o', I [] st o' → envTop st ≤ S.objs.length + o.length ∧ o'.length ≤ o.length)
    : ∃ st' o', sForK (.any mi) t body st (ext S o) = .nx st' (ext S o') ∧ I [] st' o' := by
  obtain ⟨st', o', h1, h2⟩ := forK_tup (mi := mi) (t := t) (body := body) (S := S) (o := o) (xs := ys.map f) (st := st) (I := fun r st o => ∃ r', r = r'.map (fun y => D.p (f y)) ∧ I r' st o) hm ⟨ys, by rw [List.map_map]; rfl, h0⟩ (fun x r st o' h => by
    obtain ⟨r', hr', h⟩ := h
    cases r' with
    | nil => cases hr'
    | cons y r' =>
      simp only [List.map_cons, List.cons.injEq] at hr'
      obtain ⟨rfl, rfl⟩ := hr'
      obtain ⟨st1, st2, o2, z1, z2, z3, z4⟩ := hI y r' st o' h
      exact ⟨st1, st2, o2, z1, z2, z3, r', rfl, z4⟩) (fun st o' h => by
    obtain ⟨r', hr', h⟩ := h
    cases r' with
    | nil => exact hE st o' h
    | cons _ _ => cases hr')
  obtain ⟨r', hr', h3⟩ := h2
  cases r' with
  | nil => exact ⟨st', o', h1, h3⟩
  | cons _ _ => cases hr'
theorem seq_forA {α : Type} {f : α → P} {mi : EM D} {t : Tg} {body rest : SM} {S : Sto} {o : List MO} {ys : List α} {st : Env} {R : Out} (I : List α → Env → List MO → Prop) (hm : mi st (ext S o) = .ok (tp (ys.map f)) (ext S o)) (h0 : I ys st o)
    (hI : ∀ y r st o', I (y :: r) st o' → ∃ st1 st2 o2, t.put (.p (f y)) st = some st1 ∧ body st1 (ext S o') = .nx st2 (ext S o2) ∧ envTop st2 ≤ S.objs.length + o.length ∧ I r st2 (o2.take o.length)) (hE : ∀ st o', I [] st o' → envTop st ≤ S.objs.length + o.length ∧ o'.length ≤ o.length)
    (hr : ∀ st' o', I [] st' o' → rest st' (ext S o') = R) : sSeq (sForK (.any mi) t body) rest st (ext S o) = R := by
  obtain ⟨st', o', h1, h2⟩ := forA (f := f) I hm h0 hI hE
  exact seq_nx h1 (hr st' o' h2)
theorem go_forA {α : Type} {f : α → P} {mi : EM D} {t : Tg} {body rest : SM} {S : Sto} {o : List MO} {ys : List α} {st : Env} {R : Out → Prop} (I : List α → Env → List MO → Prop) (hm : mi st (ext S o) = .ok (tp (ys.map f)) (ext S o)) (h0 : I ys st o)
    (hI : ∀ y r st o', I (y :: r) st o' → ∃ st1 st2 o2, t.put (.p (f y)) st = some st1 ∧ body st1 (ext S o') = .nx st2 (ext S o2) ∧ envTop st2 ≤ S.objs.length + o.length ∧ I r st2 (o2.take o.length)) (hE : ∀ st o', I [] st o' → envTop st ≤ S.objs.length + o.length ∧ o'.length ≤ o.length)
    (hr : ∀ st' o', I [] st' o' → R (rest st' (ext S o'))) : R (sSeq (sForK (.any mi) t body) rest st (ext S o)) := by
  obtain ⟨st', o', h1, h2⟩ := forA (f := f) I hm h0 hI hE
  exact go_nx h1 (hr st' o' h2)
theorem seq_while {c : EM Bool} {body rest : SM} {S : Sto} {o : List MO} {st : Env} {R : Out} (I : Nat → Env → List MO → Prop) (Q : Env → List MO → Prop) (m0 : Nat) (h0 : I m0 st o)
    (step : ∀ m st o', I m st o' → ∃ b o1, c st (ext S o') = .ok b (ext S o1) ∧ if b = true then ∃ st2 o2, body st (ext S o1) = .nx st2 (ext S o2) ∧ envTop st2 ≤ S.objs.length + o.length ∧ ∃ m', m' < m ∧ I m' st2 (o2.take o.length) else envTop st ≤ S.objs.length + o.length ∧ Q st (o1.take o.length))
    (hr : ∀ st' o', Q st' o' → rest st' (ext S o') = R) : sSeq (sWhile c body) rest st (ext S o) = R := by
  obtain ⟨st', o', h1, h2⟩ := while_ext step m0 st o h0
  exact seq_nx (while_of.trans h1) (hr st' o' h2)
theorem go_while {c : EM Bool} {body rest : SM} {S : Sto} {o : List MO} {st : Env} {R : Out → Prop} (I : Nat → Env → List MO → Prop) (Q : Env → List MO → Prop) (m0 : Nat) (h0 : I m0 st o)
    (step : ∀ m st o', I m st o' → ∃ b o1, c st (ext S o') = .ok b (ext S o1) ∧ if b = true then ∃ st2 o2, body st (ext S o1) = .nx st2 (ext S o2) ∧ envTop st2 ≤ S.objs.length + o.length ∧ ∃ m', m' < m ∧ I m' st2 (o2.take o.length) else envTop st ≤ S.objs.length + o.length ∧ Q st (o1.take o.length))
    (hr : ∀ st' o', Q st' o' → R (rest st' (ext S o'))) : R (sSeq (sWhile c body) rest st (ext S o)) := by
  obtain ⟨st', o', h1, h2⟩ := while_ext step m0 st o h0
  exact go_nx (while_of.trans h1) (hr st' o' h2)
/-! dicts -/
def keysD (l : List P) (v : P) : List (D × D) := l.map fun k => (D.p k, D.p v)
@[simp] theorem keysD_len (l : List P) (v : P) : (keysD l v).length = l.length := by simp [keysD]
@[simp] theorem keysD_top (l : List P) (v : P) : topKV (keysD l v) = 0 := topKV_mapp (fun k => k) (fun _ => v) l
theorem dFind_keys (l : List P) (v a : P) : dFind (keysD l v) (.p a) = if a ∈ l then some (.p v) else none := by
  induction l with
  | nil => rfl
  | cons x r ih =>
    simp only [dFind, keysD, List.map_cons, List.find?_cons] at ih ⊢
    by_cases h : x = a
    · subst h; simp
    · have h' : ¬ a = x := fun e => h e.symm
      simp only [D.p.injEq, h, decide_false, List.mem_cons, h', false_or]
      exact ih
theorem dPut_keys {l : List P} {v a : P} (h : a ∉ l) : dPut (keysD l v) (.p a) (.p v) = keysD (l ++ [a]) v := by
  unfold dPut
  rw [if_neg]
  · simp [keysD]
  · simp only [keysD, List.any_map, List.any_eq_true, not_exists, not_and]
    intro x hx hq
    simp at hq
    exact h (hq ▸ hx)
theorem dKind_strs {l : List P} {v : P} {a : List Nat} (h : ∀ k ∈ l, ∃ x, k = .str x) : dKind (keysD l v) (pstr a) = true := by
  simp only [keysD, dKind, keyP, Option.isSome_some, Bool.true_and, List.all_map, Bool.or_eq_true]
  left
  rw [List.all_eq_true]
  intro k hk
  obtain ⟨x, rfl⟩ := h k hk
  rfl
theorem dKind_names {l : List P} {v : P} {a b : List Nat} (h : ∀ k ∈ l, ∃ x y, k = .tup [.str x, .str y]) : dKind (keysD l v) (tp [.str a, .str b]) = true := by
  simp only [dKind, Bool.or_eq_true]
  right
  simp only [keysD, keyT, keyPs, keyP, Option.isSome_some, Bool.true_and, List.all_map]
  rw [List.all_eq_true]
  intro k hk
  obtain ⟨x, y, rfl⟩ := h k hk
  rfl
theorem in_dct {S : Sto} {o : List MO} {i : Nat} {kvs : List (D × D)} {a : D} (h : o[i]? = some (.dct kvs)) (hk : dKind kvs a = true) : inF a (.ref (S.objs.length + i)) (ext S o) = some (pbl (dFind kvs a).isSome, ext S o) := by
  simp [inF, inB, h, hk]
theorem set_dct {S : Sto} {o : List MO} {i : Nat} {kvs : List (D × D)} {a v : D} (h : o[i]? = some (.dct kvs)) (hk : dKind kvs a = true) (hl : kvs.length < sizeLine) (ht : topKV (dPut kvs a v) ≤ S.objs.length + i) : setF (.ref (S.objs.length + i)) a v (ext S o) = some (ext S (o.set i (.dct (dPut kvs a v)))) := by
  simp [setF, h, hk, hl, ext_set S o (o := .dct (dPut kvs a v)) ht]
@[simp] theorem w_sub (mv mo mi : EM D) (st : Env) (S : Sto) : sSub mv mo mi st S = sbind (mv st S) st fun v S1 => sbind (mo st S1) st fun o S2 => sbind (mi st S2) st fun i S3 => match setF o i v S3 with
  | some S4 => .nx st S4
  | none => .stuck := rfl
@[simp] theorem w_dnew (st : Env) (S : Sto) : mDnew st S = .ok (.ref S.objs.length) (S.push (.dct [])) := rfl
@[simp] theorem w_asg (t : Tg) (a : EM D) (st : Env) (S : Sto) : sAsg t a st S = sbind (a st S) st fun d S1 => match t.put d st with
  | some st' => .nx st' S1
  | none => .stuck := rfl
@[simp] theorem w_meth (Ts : List String) (f : FM) (o : EM D) (a : EM (List D)) (st : Env) (S : Sto) : mMeth Ts f o a st S = (o st S).bind fun x S1 => match recvD S1 x with
  | some T => if T ∈ Ts then (a st S1).bind fun ds S2 => ofOpt (f T x ds S2) else .stuck
  | none => .stuck := rfl
@[simp] theorem w_slc (a : EM D) (lo hi : EM (Option Int)) (st : Env) (S : Sto) : mSlc a lo hi st S = (a st S).bind fun x S1 => (lo st S1).bind fun l S2 => (hi st S2).bind fun u S3 => ofOpt (slcF x l u S3) := rfl
@[simp] theorem w_part0 (st : Env) (S : Sto) : mPart none st S = .ok none S := rfl
@[simp] theorem w_part1 (m : EM D) (st : Env) (S : Sto) : mPart (some m) st S = (m st S).bind fun x S1 => match x with
  | .p (.int i) => .ok (some i) S1
  | _ => .stuck := rfl
@[simp] theorem w_aug (i : Nat) (f : Int → Int → Int) (m : EM D) (st : Env) (S : Sto) : sAug i f m st S = match st[i]? with
  | some (some (.p (.int x))) => sbind (m st S) st fun d S1 => match d with
    | .p (.int y) => .nx (st.set i (some (pint (f x y)))) S1
    | _ => .stuck
  | _ => .stuck := rfl
@[simp] theorem w_par (i j : Nat) (as : EM (List D)) (st : Env) (S : Sto) : sPar i j as st S = sbind (as st S) st fun ds S1 => match ds with
  | [d1, d2] => .nx ((st.set i (some d1)).set j (some d2)) S1
  | _ => .stuck := rfl
@[simp] theorem put_nm (i : Nat) (d : D) (st : Env) : Tg.put (.nm i) d st = some (st.set i (some d)) := by simp [Tg.put]
@[simp] theorem put_2 (i j : Nat) (a b : P) (st : Env) : Tg.put (.tup [.nm i, .nm j]) (tp [a, b]) st = some ((st.set i (some (.p a))).set j (some (.p b))) := by
  simp [Tg.put, D.items, Tg.puts]
end Mi
set_option Elab.async false
set_option linter.all false
set_option maxRecDepth 100000
set_option maxHeartbeats 4000000
/-! Mi27: comprehensions over items of one's own kind, loops over new lists, lists of new stores. -/
namespace Mi
open PySem
theorem envTop_c (v w : Option D) (r : List (Option D)) : envTop (v :: w :: r) = max (envTop [v]) (envTop (w :: r)) := by
  cases v <;> simp [envTop]
theorem envTop_1 (d : D) : envTop [some d] = d.top := by simp [envTop]
theorem envTop_0 : envTop [none] = 0 := rfl
theorem trim_len {S : Sto} {o : List MO} {k : Nat} {st : Env} (h : o.length ≤ k) : (ext S o).trim (S.objs.length + k) st = ext S o := trim_small rfl (by show (ext S o).objs.length ≤ _; rw [ext_olen]; omega)
theorem at_last (o : List MO) (x : MO) : (o ++ [x])[o.length]? = some x := by simp
theorem set_last (o : List MO) (x y : MO) : (o ++ [x]).set o.length y = o ++ [y] := by simp
theorem lc_A {α : Type} {g : α → D} {p : α → Bool} {f : α → P} {put : α → Env} {chk : Sto → Bool} {t : Tg} {c : EM Bool} {elt : EM D} {st : Env} {S : Sto} {o : List MO} (hc : ∀ acc, chk (ext S (o ++ [.lst acc])) = true) : ∀ (ys : List α) (acc : List P), acc.length + ys.length < sizeLine →
    (∀ y ∈ ys, t.put (g y) st = some (put y) ∧ (∀ S', c (put y) S' = .ok (p y) S') ∧ (p y = true → ∀ S', elt (put y) S' = .ok (.p (f y)) S')) →
    lcItems chk (S.objs.length + o.length) t c elt st (ys.map g) (ext S (o ++ [.lst (acc.map D.p)])) = .ok (.ref (S.objs.length + o.length)) (ext S (o ++ [.lst ((acc ++ (ys.filter p).map f).map D.p)]))
  | [], acc, _, _ => by simp [lcItems, hc]
  | y :: ys, acc, hz, h => by
    obtain ⟨h1, h2, h3⟩ := h y List.mem_cons_self
    have ih := fun acc hz => lc_A (t := t) (elt := elt) (c := c) (st := st) (S := S) (o := o) hc ys acc hz fun q hq => h q (List.mem_cons_of_mem _ hq)
    simp only [List.length_cons] at hz
    simp only [List.map_cons, lcItems, hc, if_true, h1, h2]
    cases hp : p y with
    | false =>
      simp only [Bool.false_eq_true, if_false]
      rw [Nat.add_assoc, trim_len (by simp), ih acc (by omega)]
      simp [List.filter_cons, hp]
    | true =>
      have h4 := h3 hp
      have hg : (ext S (o ++ [MO.lst (acc.map D.p)])).get (S.objs.length + o.length) = some (.lst (acc.map D.p)) := by
        rw [show (ext S (o ++ [MO.lst (acc.map D.p)])).get (S.objs.length + o.length) = (o ++ [MO.lst (acc.map D.p)])[o.length]? from ext_at S _ _, at_last]
      simp only [if_true, h4, hg]
      rw [if_pos (by simp; omega), ext_set S _ (by simp), set_last, Nat.add_assoc, trim_len (by simp)]
      have z := ih (acc ++ [f y]) (by simp; omega)
      simp only [List.map_append, List.map_cons, List.map_nil] at z ⊢
      rw [z]
      simp [List.filter_cons, hp]
theorem lcK_tupA {α : Type} {g : α → P} {p : α → Bool} {f : α → P} {put : α → Env} {mi : EM D} {t : Tg} {c : EM Bool} {elt : EM D} {vs : List Nat} {st : Env} {S : Sto} {o : List MO} {ys : List α} (hm : mi st (ext S o) = .ok (tp (ys.map g)) (ext S o)) (hz : ys.length < sizeLine)
    (h : ∀ y ∈ ys, t.put (.p (g y)) (wipeE st vs) = some (put y) ∧ (∀ S', c (put y) S' = .ok (p y) S') ∧ (p y = true → ∀ S', elt (put y) S' = .ok (.p (f y)) S')) :
    mLcK (.any mi) t c elt vs st (ext S o) = .ok (.ref (S.objs.length + o.length)) (ext S (o ++ [.lst (((ys.filter p).map f).map D.p)])) := by
  rw [lcK_tup hm, ext_olen, ext_push]
  have z := lc_A (g := fun y => D.p (g y)) (p := p) (f := f) (put := put) (chk := fun _ => true) (t := t) (c := c) (elt := elt) (st := wipeE st vs) (S := S) (o := o) (fun _ => rfl) ys [] (by simpa using hz) h
  simp only [List.map_nil, List.nil_append] at z
  rw [← z, List.map_map]
  rfl
theorem enumL_zip : ∀ (xs : List P) (k : Nat), enumL k (xs.map D.p) = (xs.zipIdx k).map fun q => tp [.int (q.2 : Nat), q.1]
  | [], k => rfl
  | x :: r, k => by
    simp only [List.map_cons, enumL, List.zipIdx_cons, enumL_zip r (k + 1)]
    rfl
theorem lcK_enumA {α : Type} {g : α → P} {p : α × Nat → Bool} {f : α × Nat → P} {put : α × Nat → Env} {mi : EM D} {t : Tg} {c : EM Bool} {elt : EM D} {vs : List Nat} {st : Env} {S : Sto} {o : List MO} {ys : List α} (hm : mi st (ext S o) = .ok (tp (ys.map g)) (ext S o)) (hz : ys.length < sizeLine)
    (h : ∀ y ∈ ys.zipIdx, t.put (tp [.int (y.2 : Nat), g y.1]) (wipeE st vs) = some (put y) ∧ (∀ S', c (put y) S' = .ok (p y) S') ∧ (p y = true → ∀ S', elt (put y) S' = .ok (.p (f y)) S')) :
    mLcK (.im (iEnum mi)) t c elt vs st (ext S o) = .ok (.ref (S.objs.length + o.length)) (ext S (o ++ [.lst (((ys.zipIdx.filter p).map f).map D.p)])) := by
  rw [lcK_enum hm, ext_olen, ext_push]
  have z := lc_A (g := fun y : α × Nat => tp [.int (y.2 : Nat), g y.1]) (p := p) (f := f) (put := put) (chk := fun _ => true) (t := t) (c := c) (elt := elt) (st := wipeE st vs) (S := S) (o := o) (fun _ => rfl) ys.zipIdx [] (by simpa using hz) h
  simp only [List.map_nil, List.nil_append] at z
  rw [← z, enumL_zip, List.zipIdx_map, List.map_map]
  rfl
theorem get_new (S : Sto) (o : List MO) : (ext S o).get (S.objs.length + o.length) = none := by
  rw [show (ext S o).get (S.objs.length + o.length) = o[o.length]? from ext_at S _ _]
  simp
/-- over a new list that a call tells -/
theorem lcK_newA {α : Type} {g : α → P} {p : α → Bool} {f : α → P} {put : α → Env} {mi : EM D} {t : Tg} {c : EM Bool} {elt : EM D} {vs : List Nat} {st : Env} {S : Sto} {o : List MO} {ys : List α} (hm : mi st (ext S o) = .ok (.ref (S.objs.length + o.length)) (ext S (o ++ [.lst ((ys.map g).map D.p)]))) (hz : ys.length < sizeLine)
    (h : ∀ y ∈ ys, t.put (.p (g y)) (wipeE st vs) = some (put y) ∧ (∀ S', c (put y) S' = .ok (p y) S') ∧ (p y = true → ∀ S', elt (put y) S' = .ok (.p (f y)) S')) :
    mLcK (.any mi) t c elt vs st (ext S o) = .ok (.ref (S.objs.length + o.length + 1)) (ext S (o ++ [.lst ((ys.map g).map D.p), .lst (((ys.filter p).map f).map D.p)])) := by
  have hl : ∀ ex, (ext S (o ++ [MO.lst ((ys.map g).map D.p)] ++ ex)).list (.ref (S.objs.length + o.length)) = some ((ys.map g).map D.p) := fun ex => by
    simp only [Sto.list]
    rw [show (ext S (o ++ [MO.lst ((ys.map g).map D.p)] ++ ex)).get (S.objs.length + o.length) = (o ++ [MO.lst ((ys.map g).map D.p)] ++ ex)[o.length]? from ext_at S _ _]
    simp
  have hl0 := hl []
  simp only [List.append_nil] at hl0
  have z := lc_A (g := fun y => D.p (g y)) (p := p) (f := f) (put := put) (chk := fun S' => decide (S'.list (.ref (S.objs.length + o.length)) = some ((ys.map g).map D.p))) (t := t) (c := c) (elt := elt) (st := wipeE st vs) (S := S) (o := o ++ [.lst ((ys.map g).map D.p)]) (fun acc => by rw [hl]; simp) ys [] (by simpa using hz) h
  simp only [mLcK, mLcAny, hm, get_new, mLc, iSeq, Res.bind_ok, walkD, hl0, noK, if_true]
  rw [show (ext S (o ++ [MO.lst ((ys.map g).map D.p)])).len = S.objs.length + (o ++ [MO.lst ((ys.map g).map D.p)]).length from ext_olen _ _, ext_push]
  simp only [List.map_nil, List.nil_append] at z
  rw [show (ys.map g).map D.p = ys.map fun y => D.p (g y) from by rw [List.map_map]; rfl] at z ⊢
  rw [z]
  simp [Nat.add_assoc]
theorem forL {α : Type} {g : α → P} {mi : EM D} {t : Tg} {body : SM} {S : Sto} {o : List MO} {ys : List α} {st : Env} (I : List α → Env → List MO → Prop)
    (hm : mi st (ext S o) = .ok (.ref (S.objs.length + o.length)) (ext S (o ++ [.lst ((ys.map g).map D.p)]))) (h0 : I ys st o)
    (hI : ∀ y r st o', I (y :: r) st o' → ∃ st1 st2 o2 ex, t.put (.p (g y)) st = some st1 ∧ body st1 (ext S (o' ++ [.lst ((ys.map g).map D.p)])) = .nx st2 (ext S (o2 ++ .lst ((ys.map g).map D.p) :: ex)) ∧ envTop st2 ≤ S.objs.length + o.length + 1 ∧ o2.length = o.length ∧ I r st2 o2)
    (hl : ∀ r st o', I r st o' → o'.length = o.length) (hE : ∀ st o', I [] st o' → envTop st ≤ S.objs.length + o.length)
    : ∃ st' o', sForK (.any mi) t body st (ext S o) = .nx st' (ext S o') ∧ I [] st' o' := by
  have hls : ∀ o' : List MO, o'.length = o.length → (ext S (o' ++ [MO.lst ((ys.map g).map D.p)])).list (.ref (S.objs.length + o.length)) = some ((ys.map g).map D.p) := fun o' ho => by
    simp only [Sto.list]
    rw [show (ext S (o' ++ [MO.lst ((ys.map g).map D.p)])).get (S.objs.length + o.length) = (o' ++ [MO.lst ((ys.map g).map D.p)])[o.length]? from ext_at S _ _, ← ho, at_last]
  obtain ⟨st', o', h1, h2⟩ := for_ext (chk := fun S' => decide (S'.list (.ref (S.objs.length + o.length)) = some ((ys.map g).map D.p))) (t := t) (body := body) (S := S) (k := o.length + 1)
    (I := fun r st o' => ∃ r' o'', r = r'.map (fun y => D.p (g y)) ∧ o' = o'' ++ [.lst ((ys.map g).map D.p)] ∧ I r' st o'') (fun st o' h => by
      obtain ⟨r', o'', _, rfl, h⟩ := h
      rw [hls _ (hl _ _ _ h)]; simp) (fun x r st o' h => by
      obtain ⟨r', o'', hr', rfl, h⟩ := h
      cases r' with
      | nil => cases hr'
      | cons y r' =>
        simp only [List.map_cons, List.cons.injEq] at hr'
        obtain ⟨rfl, rfl⟩ := hr'
        obtain ⟨st1, st2, o2, ex, z1, z2, z3, z4, z5⟩ := hI y r' st o'' h
        refine ⟨by rw [hls _ (hl _ _ _ h)]; simp, st1, st2, _, z1, z2, z3, r', o2, rfl, ?_, z5⟩
        rw [List.take_append, List.take_of_length_le (by omega), z4]
        simp) _ _ _ ⟨ys, o, rfl, rfl, h0⟩
  obtain ⟨r', o'', hr', rfl, h3⟩ := h2
  cases r' with
  | cons _ _ => cases hr'
  | nil =>
    refine ⟨st', o'', ?_, h3⟩
    have hl0 := hls o rfl
    simp only [sForK, sForAny, hm, get_new, sFor, iSeq, Res.bind_ok, walkD, hl0, noK, if_true, sbind_ok]
    rw [show (ext S (o ++ [MO.lst ((ys.map g).map D.p)])).len = S.objs.length + (o.length + 1) from by show (ext S (o ++ [MO.lst ((ys.map g).map D.p)])).objs.length = _; rw [ext_olen]; simp,
      show (ext S o).len = S.objs.length + o.length from ext_olen S o, show (ys.map g).map D.p = ys.map fun y => D.p (g y) from by rw [List.map_map]; rfl]
    rw [show (ys.map g).map D.p = ys.map fun y => D.p (g y) from by rw [List.map_map]; rfl] at h1
    rw [h1]
    simp only [Out.trimNx]
    rw [trim_ext (hE _ _ h3), ← hl _ _ _ h3]
    simp
theorem seq_forL {α : Type} {g : α → P} {mi : EM D} {t : Tg} {body rest : SM} {S : Sto} {o : List MO} {ys : List α} {st : Env} {R : Out} (I : List α → Env → List MO → Prop)
    (hm : mi st (ext S o) = .ok (.ref (S.objs.length + o.length)) (ext S (o ++ [.lst ((ys.map g).map D.p)]))) (h0 : I ys st o)
    (hI : ∀ y r st o', I (y :: r) st o' → ∃ st1 st2 o2 ex, t.put (.p (g y)) st = some st1 ∧ body st1 (ext S (o' ++ [.lst ((ys.map g).map D.p)])) = .nx st2 (ext S (o2 ++ .lst ((ys.map g).map D.p) :: ex)) ∧ envTop st2 ≤ S.objs.length + o.length + 1 ∧ o2.length = o.length ∧ I r st2 o2)
    (hl : ∀ r st o', I r st o' → o'.length = o.length) (hE : ∀ st o', I [] st o' → envTop st ≤ S.objs.length + o.length)
    (hr : ∀ st' o', I [] st' o' → rest st' (ext S o') = R) : sSeq (sForK (.any mi) t body) rest st (ext S o) = R := by
  obtain ⟨st', o', h1, h2⟩ := forL (g := g) I hm h0 hI hl hE
  exact seq_nx h1 (hr st' o' h2)
theorem go_forL {α : Type} {g : α → P} {mi : EM D} {t : Tg} {body rest : SM} {S : Sto} {o : List MO} {ys : List α} {st : Env} {R : Out → Prop} (I : List α → Env → List MO → Prop)
    (hm : mi st (ext S o) = .ok (.ref (S.objs.length + o.length)) (ext S (o ++ [.lst ((ys.map g).map D.p)]))) (h0 : I ys st o)
    (hI : ∀ y r st o', I (y :: r) st o' → ∃ st1 st2 o2 ex, t.put (.p (g y)) st = some st1 ∧ body st1 (ext S (o' ++ [.lst ((ys.map g).map D.p)])) = .nx st2 (ext S (o2 ++ .lst ((ys.map g).map D.p) :: ex)) ∧ envTop st2 ≤ S.objs.length + o.length + 1 ∧ o2.length = o.length ∧ I r st2 o2)
    (hl : ∀ r st o', I r st o' → o'.length = o.length) (hE : ∀ st o', I [] st o' → envTop st ≤ S.objs.length + o.length)
    (hr : ∀ st' o', I [] st' o' → R (rest st' (ext S o'))) : R (sSeq (sForK (.any mi) t body) rest st (ext S o)) := by
  obtain ⟨st', o', h1, h2⟩ := forL (g := g) I hm h0 hI hl hE
  exact go_nx h1 (hr st' o' h2)
/-! lists of new stores -/
section
variable {S : Sto} {o : List MO} {i : Nat}
theorem optAll_py (S : Sto) (n : Nat) : ∀ l : List P, optAll (D.py S n) (l.map D.p) = some (l.map P.py)
  | [] => rfl
  | x :: r => by
    have z : D.py S n (.p x) = some x.py := by cases n <;> rfl
    simp [optAll, z, optAll_py S n r]
theorem eqB_lnil {j : Nat} {l : List P} (h : o[i]? = some (.lst (l.map D.p))) (hj : o[j]? = some (.lst [])) : eqB (ext S o) (.ref (S.objs.length + i)) (.ref (S.objs.length + j)) = some l.isEmpty := by
  have z := optAll_py (ext S o) 69 l
  have z0 := optAll_py (ext S o) 69 []
  simp only [List.map_nil] at z0
  simp only [eqB, D.py, show (ext S o).get (S.objs.length + i) = o[i]? from ext_at S o i, show (ext S o).get (S.objs.length + j) = o[j]? from ext_at S o j, h, hj, z, z0, Option.map_some]
  have e : PyData.eqv (.list (l.map P.py)) (.list []) = l.isEmpty := by cases l <;> simp [PyData.eqv, PyData.eqvAll]
  have m : min (PyData.depth (.list (l.map P.py))) (PyData.depth (.list [])) ≤ 64 := Nat.le_trans (Nat.min_le_right _ _) (by simp [PyData.depth, PyData.depthAll])
  rw [if_pos m, e]
theorem ne_lnil {j : Nat} {l : List P} (h : o[i]? = some (.lst (l.map D.p))) (hj : o[j]? = some (.lst [])) : neF (.ref (S.objs.length + i)) (.ref (S.objs.length + j)) (ext S o) = some (pbl (!l.isEmpty), ext S o) := by
  simp [neF, eqB_lnil h hj]
theorem eq_lnil {j : Nat} {l : List P} (h : o[i]? = some (.lst (l.map D.p))) (hj : o[j]? = some (.lst [])) : eqF (.ref (S.objs.length + i)) (.ref (S.objs.length + j)) (ext S o) = some (pbl l.isEmpty, ext S o) := by
  simp [eqF, eqB_lnil h hj]
theorem recv_lst {l : List D} (h : o[i]? = some (.lst l)) : recvD (ext S o) (.ref (S.objs.length + i)) = some "list" := by
  simp [recvD, h]
theorem app_lst {l : List P} {x : P} (h : o[i]? = some (.lst (l.map D.p))) (hz : l.length < sizeLine) : appendM "list" (.ref (S.objs.length + i)) [.p x] (ext S o) = some (pnon, ext S (o.set i (.lst ((l ++ [x]).map D.p)))) := by
  have z := ext_set S o (i := i) (o := .lst ((l ++ [x]).map D.p)) (by simp)
  simp only [List.map_append, List.map_cons, List.map_nil] at z ⊢
  simp [appendM, Sto.mlist, h, hz, z]
theorem pop_lst {l : List P} {x : P} (h : o[i]? = some (.lst ((l ++ [x]).map D.p))) : popM "list" (.ref (S.objs.length + i)) [] (ext S o) = some (.p x, ext S (o.set i (.lst (l.map D.p)))) := by
  have z := ext_set S o (i := i) (o := .lst (l.map D.p)) (by simp)
  simp [popM, Sto.mlist, h, z]
theorem extend_lst {j : Nat} {l r : List P} (h : o[i]? = some (.lst (l.map D.p))) (hj : o[j]? = some (.lst (r.map D.p))) (hz : l.length + r.length ≤ sizeLine) : extendM "list" (.ref (S.objs.length + i)) [.ref (S.objs.length + j)] (ext S o) = some (pnon, ext S (o.set i (.lst ((l ++ r).map D.p)))) := by
  have z := ext_set S o (i := i) (o := .lst ((l ++ r).map D.p)) (by simp)
  simp only [List.map_append] at z ⊢
  simp [extendM, Sto.mlist, h, hj, hz, z]
theorem rev_lst {l : List P} (h : o[i]? = some (.lst (l.map D.p))) : revF (.ref (S.objs.length + i)) (ext S o) = some (.ref (S.objs.length + o.length), ext S (o ++ [.lst (l.reverse.map D.p)])) := by
  simp [revF, Sto.list, h]
theorem lst_new (l : List D) (hz : l.length ≤ 1000) : lstF l (ext S o) = some (.ref (S.objs.length + o.length), ext S (o ++ [.lst l])) := by
  simp [lstF, hz]
theorem tuple_lst {l : List P} (h : o[i]? = some (.lst (l.map D.p))) : tupleF [.ref (S.objs.length + i)] (ext S o) = some (tp l, ext S o) := by
  simp [tupleF, D.items, Sto.list, h]
theorem join_lst {l : List (List Nat)} (h : o[i]? = some (.lst ((l.map P.str).map D.p))) (hz : l.flatten.length ≤ 16777216) : joinM "str" (pstr []) [.ref (S.objs.length + i)] (ext S o) = some (pstr l.flatten, ext S o) := by
  have e : (l.map P.str).map D.p = l.map pstr := by rw [List.map_map]; rfl
  rw [e] at h
  have hs : (ext S o).seq (.ref (S.objs.length + i)) = some (l.map pstr) := by simp [Sto.seq, D.items, Sto.list, h]
  simp only [joinM, hs, dStrs_map, sumLen_flatten, List.length_nil, Nat.mul_zero, Nat.add_zero, if_pos hz, joinL_nil]
end
end Mi
set_option Elab.async false
set_option linter.all false
set_option maxRecDepth 100000
set_option maxHeartbeats 4000000
/-! Mi28: places in texts; loops over the signs of a text with their numbers. -/
namespace Mi
open PySem
/-- what stands in a text from a place on -/
def Stand (T : List Nat) (a : Nat) (r : List Nat) : Prop := T.drop a = r ∧ a ≤ T.length
section
variable {T w r : List Nat} {a c : Nat}
theorem Stand.len (h : Stand T a r) : T.length = a + r.length := by
  have z := congrArg List.length h.1
  rw [List.length_drop] at z
  have := h.2
  omega
theorem Stand.get (h : Stand T a (c :: r)) : T[a]? = some c := by
  have z := congrArg (·[0]?) h.1
  simpa using z
theorem Stand.lt (h : Stand T a (c :: r)) : a < T.length := by
  have := h.len
  simp at this
  omega
theorem Stand.app (h : Stand T a (w ++ r)) : Stand T (a + w.length) r := by
  refine ⟨?_, ?_⟩
  · rw [← List.drop_drop, h.1]
    simp
  · have := h.len
    simp at this
    omega
theorem Stand.next (h : Stand T a (c :: r)) : Stand T (a + 1) r := Stand.app (w := [c]) h
theorem Stand.start : Stand T 0 T := ⟨rfl, Nat.zero_le _⟩
theorem Stand.cut (h : Stand T a (w ++ r)) : cutL T (some (a : Nat)) (some ((a + w.length : Nat) : Int)) = w := by
  have hl := h.len
  simp only [List.length_append] at hl
  unfold cutL
  rw [HT.sIx_nat, HT.sIx_nat, Nat.min_eq_left (by omega), Nat.min_eq_left (by omega), h.1, Nat.add_sub_cancel_left]
  simp
theorem Stand.slc (h : Stand T a (w ++ r)) (hT : T.length ≤ sizeLine) (S : Sto) : slcF (pstr T) (some (a : Nat)) (some ((a + w.length : Nat) : Int)) S = some (pstr w, S) := by
  simp only [slcF, if_pos hT, h.cut]
theorem Stand.idx (h : Stand T a (c :: r)) (hT : T.length ≤ sizeLine) (S : Sto) : idxF (pstr T) (pint (a : Nat)) S = some (pstr [c], S) := i_str S h.get hT
end
theorem forE {mi : EM D} {t : Tg} {body : SM} {S : Sto} {o : List MO} {w : List Nat} {st : Env} (I : List (Nat × Nat) → Env → List MO → Prop) (hm : mi st (ext S o) = .ok (pstr w) (ext S o)) (h0 : I w.zipIdx st o)
    (hI : ∀ y r st o', I (y :: r) st o' → ∃ st1 st2 o2, t.put (tp [.int (y.2 : Nat), .str [y.1]]) st = some st1 ∧ body st1 (ext S o') = .nx st2 (ext S o2) ∧ envTop st2 ≤ S.objs.length + o.length ∧ I r st2 (o2.take o.length)) (hE : ∀ st o', I [] st o' → envTop st ≤ S.objs.length + o.length ∧ o'.length ≤ o.length) :
    ∃ st' o', sForK (.im (iEnum mi)) t body st (ext S o) = .nx st' (ext S o') ∧ I [] st' o' := by
  obtain ⟨st', o', h1, h2⟩ := for_ext (chk := fun _ => true) (t := t) (body := body) (S := S) (k := o.length) (I := fun r st o => ∃ r', r = r'.map (fun y : Nat × Nat => tp [.int (y.2 : Nat), .str [y.1]]) ∧ I r' st o) (fun _ _ _ => rfl) (fun x r st o' h => by
    obtain ⟨r', hr', h⟩ := h
    cases r' with
    | nil => cases hr'
    | cons y r' =>
      simp only [List.map_cons, List.cons.injEq] at hr'
      obtain ⟨rfl, rfl⟩ := hr'
      obtain ⟨st1, st2, o2, z1, z2, z3, z4⟩ := hI y r' st o' h
      exact ⟨rfl, st1, st2, o2, z1, z2, z3, r', rfl, z4⟩) _ _ _ ⟨_, rfl, h0⟩
  obtain ⟨r', hr', h3⟩ := h2
  cases r' with
  | cons _ _ => cases hr'
  | nil =>
    refine ⟨st', o', ?_, h3⟩
    have e : enumL 0 (w.map fun c => pstr [c]) = w.zipIdx.map fun y => tp [.int (y.2 : Nat), .str [y.1]] := by
      have z := enumL_zip (w.map fun c => P.str [c]) 0
      rw [List.map_map, List.zipIdx_map, List.map_map] at z
      exact z
    simp only [sForK, sFor, iEnum, hm, Res.bind_ok, walkD, Sto.list, noK, if_true, sbind_ok, e]
    rw [show (ext S o).len = S.objs.length + o.length from ext_olen S o, h1]
    simp only [Out.trimNx]
    obtain ⟨h4, h5⟩ := hE st' o' h3
    rw [trim_ext h4, List.take_of_length_le h5]
theorem go_forE {mi : EM D} {t : Tg} {body rest : SM} {S : Sto} {o : List MO} {w : List Nat} {st : Env} {R : Out → Prop} (I : List (Nat × Nat) → Env → List MO → Prop) (hm : mi st (ext S o) = .ok (pstr w) (ext S o)) (h0 : I w.zipIdx st o)
    (hI : ∀ y r st o', I (y :: r) st o' → ∃ st1 st2 o2, t.put (tp [.int (y.2 : Nat), .str [y.1]]) st = some st1 ∧ body st1 (ext S o') = .nx st2 (ext S o2) ∧ envTop st2 ≤ S.objs.length + o.length ∧ I r st2 (o2.take o.length)) (hE : ∀ st o', I [] st o' → envTop st ≤ S.objs.length + o.length ∧ o'.length ≤ o.length)
    (hr : ∀ st' o', I [] st' o' → R (rest st' (ext S o'))) : R (sSeq (sForK (.im (iEnum mi)) t body) rest st (ext S o)) := by
  obtain ⟨st', o', h1, h2⟩ := forE I hm h0 hI hE
  exact go_nx h1 (hr st' o' h2)
end Mi
set_option Elab.async false
set_option linter.all false
set_option maxRecDepth 100000
set_option maxHeartbeats 4000000
/-! Mi29: repr of tuples and texts: how long, and ASCII. -/
namespace Mi
open PySem
/-- at most so long, and ASCII -/
def Sh (s : Str) (b : Nat) : Prop := s.cps.toList.length ≤ b ∧ ∀ c ∈ s.cps.toList, c < 128
theorem Sh.app {s t : Str} {a b : Nat} (h : Sh s a) (k : Sh t b) : Sh (s ++ t) (a + b) := by
  have e : (s ++ t).cps.toList = s.cps.toList ++ t.cps.toList := by
    show (s.cps ++ t.cps).toList = _
    simp
  refine ⟨?_, fun c hc => ?_⟩
  · rw [e, List.length_append]
    exact Nat.add_le_add h.1 k.1
  · rw [e] at hc
    rcases List.mem_append.mp hc with z | z
    · exact h.2 c z
    · exact k.2 c z
theorem Sh.mono {s : Str} {a b : Nat} (h : Sh s a) (hb : a ≤ b) : Sh s b := ⟨Nat.le_trans h.1 hb, h.2⟩
theorem reprChar_ok : ∀ c, c < 128 → (Builtin.Str.reprChar 39 c).length ≤ 4 ∧ (Builtin.Str.reprChar 34 c).length ≤ 4 ∧ (∀ d ∈ Builtin.Str.reprChar 39 c, d < 128) ∧ (∀ d ∈ Builtin.Str.reprChar 34 c, d < 128) := by
  have h : (List.range 128).all (fun c => decide ((Builtin.Str.reprChar 39 c).length ≤ 4) && (decide ((Builtin.Str.reprChar 34 c).length ≤ 4) && ((Builtin.Str.reprChar 39 c).all (fun d => decide (d < 128)) && (Builtin.Str.reprChar 34 c).all (fun d => decide (d < 128))))) = true := by decide +kernel
  intro c hc
  have z := List.all_eq_true.mp h c (List.mem_range.mpr hc)
  simp only [Bool.and_eq_true, decide_eq_true_eq, List.all_eq_true] at z
  exact z
theorem fold_repr (q : Nat) (hq : ∀ c, c < 128 → (Builtin.Str.reprChar q c).length ≤ 4 ∧ ∀ d ∈ Builtin.Str.reprChar q c, d < 128) : ∀ (l : List Nat) (acc : Array Nat), (∀ c ∈ l, c < 128) → (∀ c ∈ acc.toList, c < 128) →
    ((l.foldl (fun out c => out ++ (Builtin.Str.reprChar q c).toArray) acc).toList.length ≤ acc.toList.length + 4 * l.length ∧ ∀ c ∈ (l.foldl (fun out c => out ++ (Builtin.Str.reprChar q c).toArray) acc).toList, c < 128)
  | [], acc, _, h => ⟨by simp, h⟩
  | c :: r, acc, hl, h => by
    obtain ⟨k1, k2⟩ := hq c (hl c List.mem_cons_self)
    obtain ⟨i1, i2⟩ := fold_repr q hq r (acc ++ (Builtin.Str.reprChar q c).toArray) (fun d hd => hl d (List.mem_cons_of_mem _ hd)) (fun d hd => by
      simp only [Array.toList_append] at hd
      rcases List.mem_append.mp hd with z | z
      · exact h d z
      · exact k2 d z)
    refine ⟨?_, i2⟩
    simp only [List.foldl_cons, List.length_cons]
    refine Nat.le_trans i1 ?_
    simp only [Array.toList_append, List.length_append]
    omega
theorem Sh.repr {x : List Nat} (h : ∀ c ∈ x, c < 128) : Sh (reprText ⟨x.toArray⟩) (4 * x.length + 2) := by
  have hq : ∀ q, q = 34 ∨ q = 39 → Sh ⟨(x.foldl (fun out c => out ++ (Builtin.Str.reprChar q c).toArray) #[q]).push q⟩ (4 * x.length + 2) := by
    intro q hq
    obtain ⟨z1, z2⟩ := fold_repr q (fun c hc => by
      have z := reprChar_ok c hc
      rcases hq with rfl | rfl
      · exact ⟨z.2.1, z.2.2.2⟩
      · exact ⟨z.1, z.2.2.1⟩) x #[q] h (fun c hc => by simp at hc; rcases hq with e | e <;> omega)
    refine ⟨?_, fun c hc => ?_⟩
    · simp only [Array.toList_push, List.length_append, List.length_cons, List.length_nil] at z1 ⊢
      omega
    · simp only [Array.toList_push, List.mem_append, List.mem_singleton] at hc
      rcases hc with hc | hc
      · exact z2 c hc
      · rcases hq with e | e <;> omega
  unfold reprText
  have e : reprQuote ⟨x.toArray⟩ = 34 ∨ reprQuote ⟨x.toArray⟩ = 39 := by
    unfold reprQuote
    split
    · exact .inl rfl
    · exact .inr rfl
  have z := hq _ e
  simpa using z
/-- how long a shown datum is at most -/
def sumW : List Nat → Nat
  | [] => 0
  | x :: r => x + 2 + sumW r
inductive Shs : List Str → List Nat → Prop
  | nil : Shs [] []
  | cons {t : Str} {ts : List Str} {w : Nat} {ws : List Nat} : Sh t w → Shs ts ws → Shs (t :: ts) (w :: ws)
theorem Sh.join : ∀ {ts : List Str} {ws : List Nat}, Shs ts ws → Sh (Str.join ", " ts) (sumW ws)
  | _, _, .nil => ⟨by show (0 : Nat) ≤ _; simp, fun c hc => by cases hc⟩
  | [t], _, .cons h .nil => h.mono (by simp [sumW])
  | t :: u :: r, _, .cons h (.cons h2 q) => by
    have ih := Sh.join (.cons h2 q)
    have e : Sh ((", " : String) : Str) 2 := ⟨by decide +kernel, by decide +kernel⟩
    have z := (h.app e).app ih
    exact z
theorem Sh.tuple {ts : List Str} {ws : List Nat} (h : Shs ts ws) : Sh (tupleText ts) (sumW ws + 3) := by
  unfold tupleText
  have e1 : Sh (("(" : String) : Str) 1 := ⟨by decide +kernel, by decide +kernel⟩
  have e2 : Sh (((if ts.length == 1 then ",)" else ")" : String)) : Str) 2 := by
    split
    · exact ⟨by decide +kernel, by decide +kernel⟩
    · exact ⟨by decide +kernel, by decide +kernel⟩
  exact ((e1.app (Sh.join h)).app e2).mono (by omega)
mutual
/-- texts and tuples alone -/
def P.plain : P → Bool
  | .str x => x.all fun c => decide (c < 128)
  | .tup xs => P.plains xs
  | _ => false
def P.plains : List P → Bool
  | [] => true
  | x :: r => P.plain x && P.plains r
end
mutual
def P.w : P → Nat
  | .str x => 4 * x.length + 2
  | .tup xs => P.ws xs + 3
  | _ => 0
def P.ws : List P → Nat
  | [] => 0
  | x :: r => P.w x + 2 + P.ws r
end
mutual
def P.dp : P → Nat
  | .tup xs => P.dps xs + 1
  | _ => 0
def P.dps : List P → Nat
  | [] => 0
  | x :: r => max (P.dp x) (P.dps r)
end
mutual
theorem P.shown_ok : ∀ x : P, x.plain = true → Sh x.py.shown x.w ∧ x.py.showable = true ∧ x.py.depth = x.dp
  | .str x, h => ⟨Sh.repr fun c hc => of_decide_eq_true (List.all_eq_true.mp h c hc), rfl, rfl⟩
  | .tup xs, h => by
    obtain ⟨h1, h2, h3, h4⟩ := P.showns_ok xs h
    refine ⟨?_, h2, ?_⟩
    · have z := Sh.tuple h1
      simp only [P.py, PyData.shown, P.w]
      rw [h4]
      exact z
    · simp only [P.py, PyData.depth, P.dp, h3]
theorem P.showns_ok : ∀ xs : List P, P.plains xs = true → Shs (PyData.shownAll (P.pys xs)) (xs.map P.w) ∧ PyData.showableAll (P.pys xs) = true ∧ PyData.depthAll (P.pys xs) = P.dps xs ∧ P.ws xs = sumW (xs.map P.w)
  | [], _ => ⟨.nil, rfl, rfl, rfl⟩
  | x :: r, h => by
    simp only [P.plains, Bool.and_eq_true] at h
    obtain ⟨h1, h2, h3⟩ := P.shown_ok x h.1
    obtain ⟨k1, k2, k3, k4⟩ := P.showns_ok r h.2
    refine ⟨?_, ?_, ?_, ?_⟩
    · exact .cons h1 k1
    · simp only [P.pys, PyData.showableAll, h2, k2, Bool.and_self]
    · simp only [P.pys, PyData.depthAll, P.dps, h3, k3]
    · simp only [P.ws, List.map_cons, sumW, k4]
end
/-- what repr tells -/
noncomputable def rpr (x : P) : List Nat := x.py.shown.cps.toList
theorem repr_tup {xs : List P} (h : P.plains xs = true) (hw : P.w (.tup xs) ≤ sizeLine) (hd : P.dp (.tup xs) ≤ 60) (S : Sto) : reprF [tp xs] S = some (pstr (rpr (.tup xs)), S) := by
  obtain ⟨h1, h2, h3⟩ := P.shown_ok (.tup xs) h
  have e1 : S.seq (tp xs) = some (xs.map D.p) := by simp [Sto.seq, D.items]
  have e2 : D.py S 60 (tp xs) = some (P.py (.tup xs)) := rfl
  have hl : (P.py (.tup xs)).shown.length ≤ sizeLine := by
    refine Nat.le_trans ?_ hw
    have := h1.1
    simpa [Str.length] using this
  simp only [reprF, e1, e2]
  rw [if_pos ⟨h2, by rw [h3]; exact hd, hl, List.all_eq_true.mpr fun c hc => decide_eq_true (h1.2 c hc)⟩]
  rfl
end Mi
set_option Elab.async false
set_option linter.all false
set_option maxRecDepth 100000
set_option maxHeartbeats 4000000
/-! Mi30: stores of which a lower part is drawn from: a dict that tells of lists, below a line. -/
namespace Mi
open PySem
abbrev Wr := List (Nat × Nat)
/-- objects, and what was written ahead -/
def gst (B : List MO) (wr : Wr) (xs : List MO) : Sto := ⟨B ++ xs, wr⟩
section
variable (B : List MO) (wr : Wr) (xs : List MO)
@[simp] theorem g_wr : (gst B wr xs).wr = wr := rfl
@[simp] theorem g_olen : (gst B wr xs).objs.length = B.length + xs.length := by simp [gst]
@[simp] theorem g_push (o : MO) : (gst B wr xs).push o = gst B wr (xs ++ [o]) := by simp [gst, Sto.push]
@[simp high] theorem g_at (i : Nat) : (gst B wr xs).objs[B.length + i]? = xs[i]? := by
  simp only [gst]
  rw [List.getElem?_append_right (by omega)]
  congr 1
  omega
@[simp high] theorem g_at0 : (gst B wr xs).objs[B.length]? = xs[0]? := by
  have z := g_at B wr xs 0
  simpa using z
theorem g_low {i : Nat} (h : i < B.length) : (gst B wr xs).objs[i]? = B[i]? := by
  simp only [gst]
  rw [List.getElem?_append_left h]
theorem g_set {i : Nat} {o : MO} (h : o.top ≤ B.length + i) : (gst B wr xs).set (B.length + i) o = gst B wr (xs.set i o) := by
  unfold gst Sto.set
  rw [if_pos h]
  simp
theorem g_set0 {o : MO} (h : o.top ≤ B.length) : (gst B wr xs).set B.length o = gst B wr (xs.set 0 o) := g_set B wr xs (i := 0) h
end
/-- what is written ahead stays below a line -/
def WrL (L : Nat) (wr : Wr) : Prop := ∀ q ∈ wr, q.1 < L ∧ q.2 ≤ L
theorem WrL.nil {L : Nat} : WrL L [] := fun q h => nomatch h
theorem WrL.app {L : Nat} {a b : Wr} (h : WrL L a) (k : WrL L b) : WrL L (a ++ b) := fun q hq => (List.mem_append.mp hq).elim (h q) (k q)
theorem WrL.cutOk {L b : Nat} {S : Sto} (h : WrL L S.wr) (hb : L ≤ b) : S.cutOk b = true := by
  unfold Sto.cutOk
  rw [List.all_eq_true]
  intro q hq
  have := (h q hq).2
  simp
  omega
theorem WrL.filter {L b : Nat} {wr : Wr} (h : WrL L wr) (hb : L ≤ b) : (wr.filter fun q => decide (q.1 < b)) = wr := by
  rw [List.filter_eq_self]
  intro q hq
  have := (h q hq).1
  simp
  omega
theorem g_trim {L : Nat} {B : List MO} {wr : Wr} {xs : List MO} {k : Nat} {st : Env} (hw : WrL L wr) (hL : L ≤ B.length) (h : envTop st ≤ B.length + k) : (gst B wr xs).trim (B.length + k) st = gst B wr (xs.take k) := by
  unfold Sto.trim
  rw [if_pos ⟨h, WrL.cutOk (L := L) hw (by omega)⟩]
  simp only [Sto.cut, gst, List.take_append, List.take_of_length_le (Nat.le_add_right B.length k), Nat.add_sub_cancel_left]
  rw [hw.filter (by omega)]
/-- the same above a line -/
def Eqv (L : Nat) (B B' : List MO) : Prop := B'.length = B.length ∧ ∀ i, L ≤ i → B'[i]? = B[i]?
theorem Eqv.refl {L : Nat} {B : List MO} : Eqv L B B := ⟨rfl, fun _ _ => rfl⟩
theorem Eqv.trans {L : Nat} {A B C : List MO} (h : Eqv L A B) (k : Eqv L B C) : Eqv L A C := ⟨k.1.trans h.1, fun i hi => (k.2 i hi).trans (h.2 i hi)⟩
theorem Eqv.split {L : Nat} {B xs O : List MO} (hL : L ≤ B.length) (h : Eqv L (B ++ xs) O) : ∃ B', O = B' ++ xs ∧ Eqv L B B' := by
  have hl := h.1
  simp only [List.length_append] at hl
  refine ⟨O.take B.length, ?_, ?_, fun i hi => ?_⟩
  · refine List.ext_getElem? fun i => ?_
    by_cases hi : i < B.length
    · rw [List.getElem?_append_left (by simp; omega), List.getElem?_take_of_lt hi]
    · rw [h.2 i (by omega), List.getElem?_append_right (by omega), List.getElem?_append_right (by simp; omega)]
      simp only [List.length_take]
      congr 1
      omega
  · simp; omega
  · by_cases hb : i < B.length
    · rw [List.getElem?_take_of_lt hb, h.2 i hi, List.getElem?_append_left hb]
    · rw [List.getElem?_eq_none (by simp; omega), List.getElem?_eq_none (by omega)]
/-- a drawing state: its dict, its cells, its rests -/
abbrev sCells : List Nat := [99, 101, 108, 108, 115]
abbrev sLefts : List Nat := [108, 101, 102, 116, 115]
abbrev sAt : List Nat := [97, 116]
abbrev sRoom : List Nat := [114, 111, 111, 109]
abbrev stKvs (c l : Nat) (at_ : Nat) (room : Int) : List (D × D) := [(pstr sCells, .ref c), (pstr sLefts, .ref l), (pstr sAt, pint (at_ : Nat)), (pstr sRoom, pint room)]
structure DB (sd L bud : Nat) (B : List MO) (wr : Wr) : Prop where
  ex : ∃ (c l : Nat) (cells lefts : List Int) (at_ : Nat) (room : Int), B[sd]? = some (.dct (stKvs c l at_ room)) ∧ B[c]? = some (.lst (cells.map pint)) ∧ B[l]? = some (.lst (lefts.map pint)) ∧ cells.length = lefts.length ∧ 0 < cells.length ∧ cells.length < 1000 ∧ at_ + bud ≤ 2 ^ 40 ∧ sd < L ∧ c < L ∧ l < L ∧ sd ≠ c ∧ sd ≠ l ∧ c ≠ l
  le : L ≤ B.length
  wr : WrL L wr
theorem DB.less {sd L b b' : Nat} {B : List MO} {wr : Wr} (h : DB sd L b B wr) (hb : b' ≤ b) : DB sd L b' B wr := by
  obtain ⟨⟨c, l, cells, lefts, a, room, h1, h2, h3, h4, h5, h6, h7, h8⟩, h9, h10⟩ := h
  exact ⟨⟨c, l, cells, lefts, a, room, h1, h2, h3, h4, h5, h6, by omega, h8⟩, h9, h10⟩
theorem DB.wide {sd L b : Nat} {B : List MO} {wr : Wr} (h : DB sd L b B wr) (xs : List MO) : DB sd L b (B ++ xs) wr := by
  obtain ⟨⟨c, l, cells, lefts, a, room, h1, h2, h3, h4, h5, h6, h7, h8, h9, h10, h11⟩, h12, h13⟩ := h
  refine ⟨⟨c, l, cells, lefts, a, room, ?_, ?_, ?_, h4, h5, h6, h7, h8, h9, h10, h11⟩, by simp; omega, h13⟩
  · rw [List.getElem?_append_left (by omega)]; exact h1
  · rw [List.getElem?_append_left (by omega)]; exact h2
  · rw [List.getElem?_append_left (by omega)]; exact h3
theorem DB.thin {sd L b : Nat} {B xs : List MO} {wr : Wr} (h : DB sd L b (B ++ xs) wr) (hL : L ≤ B.length) : DB sd L b B wr := by
  obtain ⟨⟨c, l, cells, lefts, a, room, h1, h2, h3, h4, h5, h6, h7, h8, h9, h10, h11⟩, h12, h13⟩ := h
  refine ⟨⟨c, l, cells, lefts, a, room, ?_, ?_, ?_, h4, h5, h6, h7, h8, h9, h10, h11⟩, hL, h13⟩
  · rw [List.getElem?_append_left (by omega)] at h1; exact h1
  · rw [List.getElem?_append_left (by omega)] at h2; exact h2
  · rw [List.getElem?_append_left (by omega)] at h3; exact h3
theorem DB.rewr {sd L b : Nat} {B : List MO} {wr wr' : Wr} (h : DB sd L b B wr) (hw : WrL L wr') : DB sd L b B wr' := ⟨h.ex, h.le, hw⟩
/-- what a drawing call tells -/
def Drw (fs : FEs) (sd L n : Nat) (f : Str) (args : List D) (cost : Nat) (Q : D → Prop) : Prop :=
  ∀ O wr bud, DB sd L (bud + cost) O wr → ∃ d O' wr', runs fs n f args ⟨O, wr⟩ = .ok d ⟨O', wr'⟩ ∧ Eqv L O O' ∧ DB sd L bud O' wr' ∧ Q d
theorem Drw.use {fs : FEs} {sd L n : Nat} {f : Str} {args : List D} {cost : Nat} {Q : D → Prop} (h : Drw fs sd L n f args cost Q) {B : List MO} {wr : Wr} {bud : Nat} (hb : DB sd L (bud + cost) B wr) (xs : List MO) : ∃ d B' wr', runs fs n f args (gst B wr xs) = .ok d (gst B' wr' xs) ∧ Eqv L B B' ∧ DB sd L bud B' wr' ∧ Q d := by
  obtain ⟨d, O', wr', h1, h2, h3, h4⟩ := h (B ++ xs) wr bud (hb.wide xs)
  obtain ⟨B', rfl, h5⟩ := h2.split hb.le
  exact ⟨d, B', wr', h1, h5, h3.thin (by rw [h5.1]; exact hb.le), h4⟩
/-- how a drawing body ends -/
theorem Drw.of {fs : FEs} {sd L n k : Nat} {f : Str} {m : SM} {args : List D} {cost : Nat} {Q : D → Prop} (hr : ∀ S, runs fs n f args S = callBody k m args S)
    (h : ∀ O bud, DB sd L (bud + cost) O [] → ∃ d O' wr' xs, m (args.map some ++ List.replicate (k - args.length) none) (gst O [] []) = .rt d (gst O' wr' xs) ∧ Eqv L O O' ∧ DB sd L bud O' wr' ∧ d.top = 0 ∧ Q d) : Drw fs sd L n f args cost Q := by
  intro O wr bud hb
  obtain ⟨d, O', wr', xs, h1, h2, h3, h4, h5⟩ := h O bud (hb.rewr WrL.nil)
  refine ⟨d, O', wr' ++ wr, ?_, h2, h3.rewr (h3.wr.app hb.wr), h5⟩
  rw [hr]
  unfold callBody
  rw [show ({ objs := O, wr := wr } : Sto) = ⟨O, wr⟩ from rfl, show ({ (⟨O, wr⟩ : Sto) with wr := [] } : Sto) = gst O [] [] from by simp [gst], h1]
  simp only [finish]
  rw [if_pos (WrL.cutOk (L := L) h3.wr (by show L ≤ O.length; rw [← h2.1]; exact h3.le)), if_pos (by omega)]
  simp only [backTo0, gst, Sto.len]
  rw [h3.wr.filter (by rw [← h2.1]; exact h3.le), ← h2.1]
  simp
/-- loops -/
theorem for_any {chk : Sto → Bool} {b0 : Nat} {t : Tg} {body : SM} {I : List D → Env → Sto → Prop} (hE : ∀ st S, I [] st S → chk S = true)
    (hI : ∀ x r st S, I (x :: r) st S → chk S = true ∧ ∃ st1 st2 S2, t.put x st = some st1 ∧ body st1 S = .nx st2 S2 ∧ I r st2 (S2.trim b0 st2)) :
    ∀ xs st S, I xs st S → ∃ st' S', forItems chk b0 t body xs st S = .nx st' S' ∧ I [] st' S'
  | [], st, S, h => ⟨st, S, by simp [forItems, hE st S h], h⟩
  | x :: r, st, S, h => by
    obtain ⟨h1, st1, st2, S2, h2, h3, h4⟩ := hI x r st S h
    obtain ⟨st', S', h6, h7⟩ := for_any hE hI r st2 _ h4
    refine ⟨st', S', ?_, h7⟩
    simp only [forItems, h1, if_true, h2, h3]
    rw [h6]
end Mi
set_option Elab.async false
set_option linter.all false
set_option maxRecDepth 100000
set_option maxHeartbeats 4000000
/-! Mi31: the steps of a draw. -/
namespace Mi
open PySem
section
variable {S : Sto} {sd c l a : Nat} {room : Int}
theorem d_at (h : S.objs[sd]? = some (.dct (stKvs c l a room))) : idxF (.ref sd) (pstr sAt) S = some (pint (a : Nat), S) := by
  simp [idxF, h, stKvs, dKind, keyP, dFind]
theorem d_cells (h : S.objs[sd]? = some (.dct (stKvs c l a room))) : idxF (.ref sd) (pstr sCells) S = some (.ref c, S) := by
  simp [idxF, h, stKvs, dKind, keyP, dFind]
theorem d_lefts (h : S.objs[sd]? = some (.dct (stKvs c l a room))) : idxF (.ref sd) (pstr sLefts) S = some (.ref l, S) := by
  simp [idxF, h, stKvs, dKind, keyP, dFind]
theorem d_step (h : S.objs[sd]? = some (.dct (stKvs c l a room))) : setF (.ref sd) (pstr sAt) (pint ((a : Nat) + 1)) S = some (S.set sd (.dct (stKvs c l (a + 1) room))) := by
  have hz : (4 : Nat) < sizeLine := by rw [sizeLine_eq]; omega
  simp [setF, h, stKvs, dKind, keyP, dPut, hz]
theorem d_len {cells : List Int} (h : S.objs[c]? = some (.lst (cells.map pint))) : lenF [.ref c] S = some (pint cells.length, S) := by
  simp [lenF, Sto.seq, D.items, Sto.list, h]
theorem d_ix {cells : List Int} {p : Nat} {i : Int} (h : S.objs[c]? = some (.lst (cells.map pint))) (hi : i = (p : Nat)) (hp : p < cells.length) : ∃ v, cells[p]? = some v ∧ idxF (.ref c) (pint i) S = some (pint v, S) := by
  subst hi
  obtain ⟨v, hv⟩ : ∃ v, cells[p]? = some v := ⟨cells[p], List.getElem?_eq_getElem hp⟩
  have z : L2.atI (cells.map pint) ((p : Nat) : Int) = some (pint v) := L2.atI_nat (by rw [List.getElem?_map, hv]; rfl)
  exact ⟨v, hv, by simp [idxF, h, z]⟩
theorem d_put {cells : List Int} {p : Nat} {i v : Int} (h : S.objs[c]? = some (.lst (cells.map pint))) (hi : i = (p : Nat)) (hp : p < cells.length) : setF (.ref c) (pint i) (pint v) S = some (S.set c (.lst ((cells.set p v).map pint))) := by
  subst hi
  have z : L2.ixN (cells.map pint).length ((p : Nat) : Int) = some p := by
    unfold L2.ixN
    rw [if_pos (by omega), if_pos (by simp; omega)]
    simp
  have e : (cells.map pint).set p (pint v) = (cells.set p v).map pint := by rw [List.map_set]
  simp only [setF, show S.get c = S.objs[c]? from rfl, h, z, e]
end
theorem tops_ints (l : List Int) : D.tops (l.map pint) = 0 := by
  have z := tops_map_p (l.map P.int)
  rw [List.map_map] at z
  exact z
theorem g_low_set {B : List MO} {wr : Wr} {i : Nat} {o : MO} (h : i < B.length) : (gst B wr []).set i o = gst (B.set i o) (if o.top ≤ i then wr else (i, o.top) :: wr) [] := by
  simp [gst, Sto.set]
theorem mod_ok {S : Sto} {i j : Int} (h : 0 < j) : modF (pint i) (pint j) S = some (pint (i % j), S) := by simp [modF, h]
theorem fdiv_ok {S : Sto} {i j : Int} (h : 0 < j) (k : j < 1073741824) : fdivF (pint i) (pint j) S = some (pint (i / j), S) := by simp [fdivF, h, k]
theorem mul_ok {S : Sto} {i j : Int} (h : -(2 ^ 64) < i ∧ i < 2 ^ 64 ∨ -(2 ^ 64) < j ∧ j < 2 ^ 64) : mulF (pint i) (pint j) S = some (pint (i * j), S) := by
  have z : (small64I i || small64I j) = true := by
    rw [Bool.or_eq_true, small64I_iff, small64I_iff]
    exact h
  simp only [mulF, z, if_true]
@[simp] theorem int_ok (S : Sto) (i : Int) : intF [pint i] S = some (pint i, S) := rfl
end Mi
set_option Elab.async false
set_option linter.all false
set_option maxRecDepth 100000
set_option maxHeartbeats 4000000
/-! Mi32: lists, dicts and comprehensions above a drawing state; rows by keys. -/
namespace Mi
open PySem
section
variable {B : List MO} {wr : Wr} {xs : List MO} {i : Nat}
theorem g_lst_new (l : List D) (hz : l.length ≤ 1000) : lstF l (gst B wr xs) = some (.ref (B.length + xs.length), gst B wr (xs ++ [.lst l])) := by
  simp [lstF, hz]
/-- an item of a list, by a number that is drawn -/
theorem g_ix {l : List P} {v : Int} (h : xs[i]? = some (.lst (l.map D.p))) (h0 : 0 ≤ v) (h1 : v < l.length) : ∃ x ∈ l, idxF (.ref (B.length + i)) (pint v) (gst B wr xs) = some (.p x, gst B wr xs) := by
  obtain ⟨p, rfl⟩ : ∃ p : Nat, v = (p : Nat) := ⟨v.toNat, by omega⟩
  have hp : p < l.length := by omega
  have z : L2.atI (l.map D.p) ((p : Nat) : Int) = some (.p l[p]) := L2.atI_nat (by rw [List.getElem?_map, List.getElem?_eq_getElem hp]; rfl)
  exact ⟨l[p], List.getElem_mem hp, by simp [idxF, h, z]⟩
theorem g_len {l : List D} (h : xs[i]? = some (.lst l)) : lenF [.ref (B.length + i)] (gst B wr xs) = some (pint l.length, gst B wr xs) := by
  simp [lenF, Sto.seq, D.items, Sto.list, h]
theorem g_recv {l : List D} (h : xs[i]? = some (.lst l)) : recvD (gst B wr xs) (.ref (B.length + i)) = some "list" := by
  simp [recvD, h]
theorem g_app {l : List P} {x : P} (h : xs[i]? = some (.lst (l.map D.p))) (hz : l.length < sizeLine) : appendM "list" (.ref (B.length + i)) [.p x] (gst B wr xs) = some (pnon, gst B wr (xs.set i (.lst ((l ++ [x]).map D.p)))) := by
  have z := g_set B wr xs (i := i) (o := .lst ((l ++ [x]).map D.p)) (by simp)
  simp only [List.map_append, List.map_cons, List.map_nil] at z ⊢
  simp [appendM, Sto.mlist, h, hz, z]
theorem g_tuple {l : List P} (h : xs[i]? = some (.lst (l.map D.p))) : tupleF [.ref (B.length + i)] (gst B wr xs) = some (tp l, gst B wr xs) := by
  simp [tupleF, D.items, Sto.list, h]
theorem g_eqB_lnil {j : Nat} {l : List P} (h : xs[i]? = some (.lst (l.map D.p))) (hj : xs[j]? = some (.lst [])) : eqB (gst B wr xs) (.ref (B.length + i)) (.ref (B.length + j)) = some l.isEmpty := by
  have z := optAll_py (gst B wr xs) 69 l
  have z0 := optAll_py (gst B wr xs) 69 []
  simp only [List.map_nil] at z0
  simp only [eqB, D.py, show (gst B wr xs).get (B.length + i) = xs[i]? from g_at B wr xs i, show (gst B wr xs).get (B.length + j) = xs[j]? from g_at B wr xs j, h, hj, z, z0, Option.map_some]
  have e : PyData.eqv (.list (l.map P.py)) (.list []) = l.isEmpty := by cases l <;> simp [PyData.eqv, PyData.eqvAll]
  have m : min (PyData.depth (.list (l.map P.py))) (PyData.depth (.list [])) ≤ 64 := Nat.le_trans (Nat.min_le_right _ _) (by simp [PyData.depth, PyData.depthAll])
  rw [if_pos m, e]
theorem g_small {L k : Nat} {st : Env} (hw : WrL L wr) (hL : L ≤ B.length) (h : xs.length ≤ k) : (gst B wr xs).trim (B.length + k) st = gst B wr xs := by
  unfold Sto.trim
  split
  · simp only [Sto.cut, gst]
    rw [hw.filter (by omega), List.take_of_length_le (by simp; omega)]
  · rfl
end
theorem lc_G {α : Type} {g : α → D} {p : α → Bool} {f : α → P} {put : α → Env} {chk : Sto → Bool} {t : Tg} {c : EM Bool} {elt : EM D} {st : Env} {L : Nat} {B : List MO} {wr : Wr} {o : List MO} (hw : WrL L wr) (hL : L ≤ B.length) (hc : ∀ acc, chk (gst B wr (o ++ [.lst acc])) = true) : ∀ (ys : List α) (acc : List P), acc.length + ys.length < sizeLine →
    (∀ y ∈ ys, t.put (g y) st = some (put y) ∧ (∀ acc, c (put y) (gst B wr (o ++ [.lst acc])) = .ok (p y) (gst B wr (o ++ [.lst acc]))) ∧ (p y = true → ∀ acc, elt (put y) (gst B wr (o ++ [.lst acc])) = .ok (.p (f y)) (gst B wr (o ++ [.lst acc])))) →
    lcItems chk (B.length + o.length) t c elt st (ys.map g) (gst B wr (o ++ [.lst (acc.map D.p)])) = .ok (.ref (B.length + o.length)) (gst B wr (o ++ [.lst ((acc ++ (ys.filter p).map f).map D.p)]))
  | [], acc, _, _ => by simp [lcItems, hc]
  | y :: ys, acc, hz, h => by
    obtain ⟨h1, h2, h3⟩ := h y List.mem_cons_self
    have ih := fun acc hz => lc_G (t := t) (elt := elt) (c := c) (st := st) (B := B) (o := o) hw hL hc ys acc hz fun q hq => h q (List.mem_cons_of_mem _ hq)
    simp only [List.length_cons] at hz
    simp only [List.map_cons, lcItems, hc, if_true, h1, h2]
    cases hp : p y with
    | false =>
      simp only [Bool.false_eq_true, if_false]
      rw [Nat.add_assoc, g_small hw hL (by simp), ih acc (by omega)]
      simp [List.filter_cons, hp]
    | true =>
      have h4 := h3 hp
      have hg : (gst B wr (o ++ [MO.lst (acc.map D.p)])).get (B.length + o.length) = some (.lst (acc.map D.p)) := by
        rw [show (gst B wr (o ++ [MO.lst (acc.map D.p)])).get (B.length + o.length) = (o ++ [MO.lst (acc.map D.p)])[o.length]? from g_at B wr _ _, at_last]
      simp only [if_true, h4, hg]
      rw [if_pos (by simp; omega), g_set B wr _ (by simp), set_last, Nat.add_assoc, g_small hw hL (by simp)]
      have z := ih (acc ++ [f y]) (by simp; omega)
      simp only [List.map_append, List.map_cons, List.map_nil] at z ⊢
      rw [z]
      simp [List.filter_cons, hp]
/-! rows by keys -/
section
variable {α β : Type} [DecidableEq α]
def asPut (l : List (α × β)) (a : α) (b : β) : List (α × β) := if a ∈ l.map (·.1) then l.map (fun q => if q.1 = a then (q.1, b) else q) else l ++ [(a, b)]
theorem asPut_fst (l : List (α × β)) (a : α) (b : β) : (asPut l a b).map (·.1) = if a ∈ l.map (·.1) then l.map (·.1) else l.map (·.1) ++ [a] := by
  unfold asPut
  split
  · rw [List.map_map]
    refine List.map_congr_left fun q _ => ?_
    simp only [Function.comp]
    split <;> rfl
  · simp
theorem asPut_nodup {l : List (α × β)} (h : (l.map (·.1)).Nodup) (a : α) (b : β) : ((asPut l a b).map (·.1)).Nodup := by
  rw [asPut_fst]
  split
  · exact h
  · rename_i hn
    rw [List.nodup_append]
    exact ⟨h, by simp, fun x hx y hy => by rw [List.mem_singleton] at hy; subst hy; exact fun e => hn (e ▸ hx)⟩
theorem asPut_mem {l : List (α × β)} {a : α} {b : β} {q : α × β} (h : q ∈ asPut l a b) : q ∈ l ∨ q = (a, b) := by
  unfold asPut at h
  split at h
  · obtain ⟨x, hx, e⟩ := List.mem_map.mp h
    split at e
    · rename_i hq; right; rw [← e, hq]
    · left; rw [← e]; exact hx
  · rcases List.mem_append.mp h with z | z
    · exact .inl z
    · exact .inr (List.mem_singleton.mp z)
theorem asPut_len (l : List (α × β)) (a : α) (b : β) : (asPut l a b).length ≤ l.length + 1 := by
  unfold asPut
  split <;> simp
abbrev rowD (f : α → P) (g : β → P) (q : α × β) : D × D := (.p (f q.1), .p (g q.2))
theorem dPut_rows {f : α → P} {g : β → P} (hf : ∀ a b, f a = f b → a = b) (l : List (α × β)) (a : α) (b : β) : dPut (l.map (rowD f g)) (.p (f a)) (.p (g b)) = (asPut l a b).map (rowD f g) := by
  unfold dPut asPut
  have e : ((l.map (rowD f g)).any fun p => decide (p.1 = D.p (f a))) = decide (a ∈ l.map (·.1)) := by
    rw [Bool.eq_iff_iff, List.any_eq_true, decide_eq_true_eq]
    constructor
    · rintro ⟨x, hx, hd⟩
      obtain ⟨q, hq, rfl⟩ := List.mem_map.mp hx
      simp only [decide_eq_true_eq, D.p.injEq] at hd
      rw [← hf _ _ hd]
      exact List.mem_map_of_mem hq
    · intro hm
      obtain ⟨q, hq, e⟩ := List.mem_map.mp hm
      exact ⟨_, List.mem_map_of_mem hq, by simp [rowD, e]⟩
  rw [e]
  by_cases hm : a ∈ l.map (·.1)
  · rw [if_pos (decide_eq_true hm), if_pos hm, List.map_map, List.map_map]
    refine List.map_congr_left fun q _ => ?_
    simp only [Function.comp, rowD, D.p.injEq]
    by_cases hq : q.1 = a
    · rw [if_pos (by rw [hq]), if_pos hq]
    · rw [if_neg (fun z => hq (hf _ _ z)), if_neg hq]
  · rw [if_neg (by simpa using hm), if_neg hm]
    simp [rowD]
theorem dFind_rows {f : α → P} {g : β → P} (hf : ∀ a b, f a = f b → a = b) : ∀ {l : List (α × β)} {q : α × β}, (l.map (·.1)).Nodup → q ∈ l → dFind (l.map (rowD f g)) (.p (f q.1)) = some (.p (g q.2))
  | x :: r, q, hn, hm => by
    simp only [List.map_cons, List.nodup_cons] at hn
    unfold dFind
    rw [List.map_cons, List.find?_cons]
    rcases List.mem_cons.mp hm with rfl | hm
    · simp [rowD]
    · have hne : ¬ (D.p (f x.1) = D.p (f q.1)) := fun e => by
        simp only [D.p.injEq] at e
        rw [hf _ _ e] at hn
        exact hn.1 (List.mem_map_of_mem hm)
      simp only [rowD, hne, decide_false]
      exact dFind_rows hf hn.2 hm
end
/-- tuple of the pairs of a dict: [(k, d[k]) for k in d] -/
theorem g_pairs {α β : Type} [DecidableEq α] {f : α → P} {g : β → P} (hf : ∀ a b, f a = f b → a = b) {l : List (α × β)} (hn : (l.map (·.1)).Nodup) (hk : ∀ q ∈ l, dKind (l.map (rowD f g)) (.p (f q.1)) = true) {L : Nat} {B : List MO} {wr : Wr} (hw : WrL L wr) (hL : L ≤ B.length) {st : Env} {iv jv : Nat} (hz : l.length < sizeLine)
    (hi : st[iv]? = some (some (.ref B.length))) (hj : jv < st.length) (hij : iv ≠ jv) :
    mLcK (.any (mVar iv)) (.nm jv) mYes (mN tupF (mCons (mVar jv) (mCons (m2 idxF (mVar iv) (mVar jv)) mNil))) [jv] st (gst B wr [.dct (l.map (rowD f g))]) = .ok (.ref (B.length + 1)) (gst B wr [.dct (l.map (rowD f g)), .lst ((l.map fun q => P.tup [f q.1, g q.2]).map D.p)]) := by
  have e0 : (gst B wr [MO.dct (l.map (rowD f g))]).get B.length = some (.dct (l.map (rowD f g))) := by
    rw [show (gst B wr [MO.dct (l.map (rowD f g))]).get B.length = _ from g_at0 B wr _]; rfl
  have e1 : ∀ o, (gst B wr o).swap B.length (.fzd (l.map (rowD f g))) = gst B wr (o.set 0 (.fzd (l.map (rowD f g)))) := fun o => by
    simp [Sto.swap, gst]
  have e2 : (gst B wr [MO.fzd (l.map (rowD f g))]).get B.length = some (.fzd (l.map (rowD f g))) := by
    rw [show (gst B wr [MO.fzd (l.map (rowD f g))]).get B.length = _ from g_at0 B wr _]; rfl
  have e3 : ∀ x, (gst B wr [MO.fzd (l.map (rowD f g)), x]).get B.length = some (.fzd (l.map (rowD f g))) := fun x => by
    rw [show (gst B wr [MO.fzd (l.map (rowD f g)), x]).get B.length = _ from g_at0 B wr _]; rfl
  have e4 : ∀ o, (gst B wr o).swap B.length (.dct (l.map (rowD f g))) = gst B wr (o.set 0 (.dct (l.map (rowD f g)))) := fun o => by
    simp [Sto.swap, gst]
  have hm : ∀ S, mVar iv st S = .ok (.ref B.length) S := fun S => by simp [hi]
  have z := lc_G (g := fun q : α × β => D.p (f q.1)) (p := fun _ => true) (f := fun q => .tup [f q.1, g q.2]) (put := fun q => (wipeE st [jv]).set jv (some (.p (f q.1)))) (chk := fun _ => true) (t := .nm jv) (c := mYes) (elt := mN tupF (mCons (mVar jv) (mCons (m2 idxF (mVar iv) (mVar jv)) mNil))) (st := wipeE st [jv]) (o := [.fzd (l.map (rowD f g))]) hw hL (fun _ => rfl) l [] (by simpa using hz) (fun q hq => ⟨by simp, fun _ => rfl, fun _ acc => by
      have hne : (l.map (rowD f g)).isEmpty = false := by cases l with
        | nil => cases hq
        | cons _ _ => rfl
      have hd := dFind_rows (g := g) hf hn hq
      have i1 : ((wipeE st [jv]).set jv (some (.p (f q.1))))[jv]? = some (some (.p (f q.1))) := by simp [wipeE, hj]
      have i2 : ((wipeE st [jv]).set jv (some (.p (f q.1))))[iv]? = some (some (.ref B.length)) := by
        rw [List.getElem?_set_ne (Ne.symm hij)]
        simp only [wipeE]
        rw [List.getElem?_set_ne (Ne.symm hij)]
        exact hi
      have ix : idxF (.ref B.length) (.p (f q.1)) (gst B wr ([MO.fzd (l.map (rowD f g))] ++ [MO.lst acc])) = some (.p (g q.2), gst B wr ([MO.fzd (l.map (rowD f g))] ++ [MO.lst acc])) := by
        simp only [idxF, List.cons_append, List.nil_append, e3, hk q hq, hne, Bool.not_false, Bool.and_self, if_true, hd, Option.map_some]
      simp only [w_n, w_cons, w_nil, w_2, w_var, i1, i2, Res.bind_ok, ix, ofOpt_some, t_2]⟩)
  simp only [List.map_nil, List.cons_append, List.nil_append] at z
  rw [List.filter_eq_self.mpr (fun _ _ => rfl)] at z
  simp only [mLcK, mLcAny, hm, e0, e1, List.set_cons_zero, mLc, iDict, e2, Res.bind_ok]
  rw [show (gst B wr [MO.fzd (l.map (rowD f g))]).len = B.length + [MO.fzd (l.map (rowD f g))].length from g_olen B wr _, g_push, List.map_map]
  simp only [List.cons_append, List.nil_append]
  rw [show ((fun x => x.1) ∘ rowD f g : α × β → D) = fun q => D.p (f q.1) from rfl, z]
  simp only [Res.unlock, e3, e4, List.set_cons_zero, if_true]
  rfl
end Mi
set_option Elab.async false
set_option linter.all false
set_option maxRecDepth 100000
set_option maxHeartbeats 0
/-! the head of one law: printed by gen.py -/
namespace MiLaw
open PySem PySem.Spec PyProof.Rows L2 Mi
abbrev R : PySem.W.OpenRow := PySem.W.OpenLaw.row PySem.Challenge.rw_prefixgraft_k04_whole_written_forms_ther
def top (i : Nat) : Stmt := PySem.Challenge.pw_prefixgraft_k04_whole_written_forms_ther.main.body.getD i (.Pass ⟨0, 0, 0, 0⟩)
def dOf (x : Str) (i : Nat) : He.DefD := ⟨(x, none), x, x, defArgs (top i), defBody (top i), defScope (top i), [], []⟩
def fn : List He.DefD := [dOf "is_of" 16, dOf "is_prefix" 17, dOf "is_local" 18, dOf "is_address" 19, dOf "is_name" 20, dOf "is_plain" 21, dOf "is_word" 22, dOf "is_pair" 23, dOf "are_declarations" 24, dOf "are_attributes" 25, dOf "begins_with" 26, dOf "are_children" 27, dOf "fault_of" 28, dOf "need_part" 29, dOf "child_elements" 30, dOf "holes_in" 31, dOf "name_text" 43, dOf "pair_text" 44, dOf "element_text" 45, dOf "written" 46, dOf "size_of" 47, dOf "need_sign" 48, dOf "need_word" 49, dOf "run_end" 50, dOf "letters_at" 51, dOf "word_at" 52, dOf "name_behind" 53, dOf "name_at" 54, dOf "address_at" 55, dOf "value_at" 56, dOf "declaration_at" 57, dOf "head_at" 58, dOf "child_at" 59, dOf "element_from" 60, dOf "read_part" 61, dOf "_law_mixed" 63, dOf "_law_begin" 64, dOf "_law_draw" 65, dOf "_law_of" 66, dOf "_law_prefix" 67, dOf "_law_name" 68, dOf "_law_declarations" 69, dOf "_law_attributes" 70, dOf "_law_element" 71, dOf "_law_grown" 72, dOf "_law_name_text" 73, dOf "_law_written" 74, dOf "_law_edge" 75, dOf "_law_right" 76, dOf "law" 77]
def fa : List He.Fa := [.glo "is_of", .glo "is_prefix", .glo "is_local", .glo "is_address", .glo "is_name", .glo "is_plain", .glo "is_word", .glo "is_pair", .glo "are_declarations", .glo "are_attributes", .glo "begins_with", .glo "are_children", .glo "fault_of", .glo "need_part", .glo "child_elements", .glo "holes_in", .glo "name_text", .glo "pair_text", .glo "element_text", .glo "written", .glo "size_of", .glo "need_sign", .glo "need_word", .glo "run_end", .glo "letters_at", .glo "word_at", .glo "name_behind", .glo "name_at", .glo "address_at", .glo "value_at", .glo "declaration_at", .glo "head_at", .glo "child_at", .glo "element_from", .glo "read_part", .glo "_law_mixed", .glo "_law_begin", .glo "_law_draw", .glo "_law_of", .glo "_law_prefix", .glo "_law_name", .glo "_law_declarations", .glo "_law_attributes", .glo "_law_element", .glo "_law_grown", .glo "_law_name_text", .glo "_law_written", .glo "_law_edge", .glo "_law_right", .glo "law", .int "MOST_ELEMENTS" 60, .int "MOST_LEVELS" 8, .int "MOST_LETTERS" 8, .int "MOST_PLAIN" 20, .str "LETTERS" "abcdefghijklmnopqrstuvwxyz", .str "DIGITS" "0123456789", .str "ADDRESS_SIGNS" "abcdefghijklmnopqrstuvwxyz0123456789./:-", .str "PLAIN_SIGNS" "abcdefghijklmnopqrstuvwxyz0123456789 ./-", .str "BARRED" "xmlns", .str "ELEMENT" "element", .str "HOLE" "hole", .str "QUOTE" "\"", .str "MARK" "@", .str "COLON" ":", .str "EQUALS" "=", .str "BLANK" " ", .str "SLASH" "/", .str "BEGIN" "<", .str "END" ">", .str "OPEN_HOLE" "{", .str "SHUT_HOLE" "}", .free "len", .free "int", .free "tuple", .free "list", .free "max", .free "min", .free "sum", .free "all", .free "any", .free "repr", .free "str", .free "bool", .free "dict", .free "isinstance", .free "range", .free "enumerate", .free "zip", .free "sorted", .free "set", .free "ValueError"]
def nm0 : List Str := ["GraftError", "BadPart", "BadText", "MOST_ELEMENTS", "MOST_LEVELS", "MOST_LETTERS", "MOST_PLAIN", "LETTERS", "DIGITS", "ADDRESS_SIGNS", "PLAIN_SIGNS", "BARRED", "ELEMENT", "HOLE", "is_of", "is_prefix", "is_local", "is_address", "is_name", "is_plain", "is_word", "is_pair", "are_declarations", "are_attributes", "begins_with", "are_children", "fault_of", "need_part", "child_elements", "holes_in"]
def nm1 : List Str := ["QUOTE", "MARK", "COLON", "EQUALS", "BLANK", "SLASH", "BEGIN", "END", "OPEN_HOLE", "SHUT_HOLE", "name_text", "pair_text", "element_text", "written", "size_of", "need_sign", "need_word", "run_end", "letters_at", "word_at", "name_behind", "name_at", "address_at", "value_at", "declaration_at", "head_at", "child_at", "element_from", "read_part", "_law_mixed"]
def nm2 : List Str := ["_law_begin", "_law_draw", "_law_of", "_law_prefix", "_law_name", "_law_declarations", "_law_attributes", "_law_element", "_law_grown", "_law_name_text", "_law_written", "_law_edge", "_law_right"]
def loose : List Str := nm0 ++ nm1 ++ nm2
abbrev hk : PySem.W.Hook := hookN 4 fa fn
def ob (s : PySem.W.SharedT) : He.AlD × Bool := obsN 4 fa fn (HandSHeadRun.getT s)
theorem ob_eq (s : PySem.W.SharedT) : ob s = hk.obs s.abs := obsN_eq (HandSHeadRun.getT_eq s)
theorem run (w : World) : HandSHeadRun.RunEq R (PySem.W.view R.prog [77]) hk ob 8000 loose w := by
  intro os
  kernel_rfl
end MiLaw
set_option Elab.async false
set_option linter.all false
set_option maxRecDepth 100000
set_option maxHeartbeats 0
/-! the runs of one law's defs: printed by gen_runs.py -/
noncomputable section Runs
namespace MiLaw
open PySem PySem.Spec PyProof.Rows L2 Mi
def m_is_of (calls : Calls) : SM := (sSeq (sIf (mOrT (mNotT (mTru (mIsi "str" (mVar 0)))) (mNotT (mB (mChain leF leF (mVar 2) (mN lenF (mCons (mVar 0) mNil)) (mVar 3))))) (sSeq (sRet (mC (pbl false))) sNil) sNil) (sSeq (sRet (mN allF (mCons (mLcK (.any (mVar 0)) (.nm 4) mYes (m2 inF (mVar 4) (mVar 1)) [4]) mNil))) sNil))
def e_is_of : FE := ⟨4, ["thing", "signs", "least", "most", "sign"], ["thing", "signs", "least", "most"], defArgs (top 16), defBody (top 16), defScope (top 16), m_is_of⟩
def m_is_prefix (calls : Calls) : SM := (sSeq (sRet (mAnd (mCall calls "is_of" 4 (mCons (mVar 0) (mCons (mC (pstr [97, 98, 99, 100, 101, 102, 103, 104, 105, 106, 107, 108, 109, 110, 111, 112, 113, 114, 115, 116, 117, 118, 119, 120, 121, 122])) (mCons (mC (pint 0)) (mCons (mC (pint 8)) mNil))))) (m2 neF (mVar 0) (mC (pstr [120, 109, 108, 110, 115]))))) sNil)
def e_is_prefix : FE := ⟨1, ["thing"], ["thing"], defArgs (top 17), defBody (top 17), defScope (top 17), m_is_prefix⟩
def m_is_local (calls : Calls) : SM := (sSeq (sRet (mAnd (mCall calls "is_of" 4 (mCons (mVar 0) (mCons (mC (pstr [97, 98, 99, 100, 101, 102, 103, 104, 105, 106, 107, 108, 109, 110, 111, 112, 113, 114, 115, 116, 117, 118, 119, 120, 121, 122])) (mCons (mC (pint 1)) (mCons (mC (pint 8)) mNil))))) (m2 neF (mVar 0) (mC (pstr [120, 109, 108, 110, 115]))))) sNil)
def e_is_local : FE := ⟨1, ["thing"], ["thing"], defArgs (top 18), defBody (top 18), defScope (top 18), m_is_local⟩
def m_is_address (calls : Calls) : SM := (sSeq (sRet (mCall calls "is_of" 4 (mCons (mVar 0) (mCons (mC (pstr [97, 98, 99, 100, 101, 102, 103, 104, 105, 106, 107, 108, 109, 110, 111, 112, 113, 114, 115, 116, 117, 118, 119, 120, 121, 122, 48, 49, 50, 51, 52, 53, 54, 55, 56, 57, 46, 47, 58, 45])) (mCons (mC (pint 1)) (mCons (mC (pint 20)) mNil)))))) sNil)
def e_is_address : FE := ⟨1, ["thing"], ["thing"], defArgs (top 19), defBody (top 19), defScope (top 19), m_is_address⟩
def m_is_name (calls : Calls) : SM := (sSeq (sRet (mAnd (mIsi "tuple" (mVar 0)) (mAnd (m2 eqF (mN lenF (mCons (mVar 0) mNil)) (mC (pint 2))) (mAnd (mCall calls "is_prefix" 1 (mCons (m2 idxF (mVar 0) (mC (pint 0))) mNil)) (mCall calls "is_local" 1 (mCons (m2 idxF (mVar 0) (mC (pint 1))) mNil)))))) sNil)
def e_is_name : FE := ⟨1, ["thing"], ["thing"], defArgs (top 20), defBody (top 20), defScope (top 20), m_is_name⟩
def m_is_plain (calls : Calls) : SM := (sSeq (sRet (mCall calls "is_of" 4 (mCons (mVar 0) (mCons (mC (pstr [97, 98, 99, 100, 101, 102, 103, 104, 105, 106, 107, 108, 109, 110, 111, 112, 113, 114, 115, 116, 117, 118, 119, 120, 121, 122, 48, 49, 50, 51, 52, 53, 54, 55, 56, 57, 32, 46, 47, 45])) (mCons (mC (pint 0)) (mCons (mC (pint 20)) mNil)))))) sNil)
def e_is_plain : FE := ⟨1, ["thing"], ["thing"], defArgs (top 21), defBody (top 21), defScope (top 21), m_is_plain⟩
def m_is_word (calls : Calls) : SM := (sSeq (sRet (mCall calls "is_of" 4 (mCons (mVar 0) (mCons (mC (pstr [97, 98, 99, 100, 101, 102, 103, 104, 105, 106, 107, 108, 109, 110, 111, 112, 113, 114, 115, 116, 117, 118, 119, 120, 121, 122])) (mCons (mC (pint 1)) (mCons (mC (pint 8)) mNil)))))) sNil)
def e_is_word : FE := ⟨1, ["thing"], ["thing"], defArgs (top 22), defBody (top 22), defScope (top 22), m_is_word⟩
def m_is_pair (calls : Calls) : SM := (sSeq (sRet (mAnd (mIsi "tuple" (mVar 0)) (m2 eqF (mN lenF (mCons (mVar 0) mNil)) (mC (pint 2))))) sNil)
def e_is_pair : FE := ⟨1, ["thing"], ["thing"], defArgs (top 23), defBody (top 23), defScope (top 23), m_is_pair⟩
def m_are_declarations (calls : Calls) : SM := (sSeq (sIf (mNotT (mTru (mIsi "tuple" (mVar 0)))) (sSeq (sRet (mC (pbl false))) sNil) sNil) (sSeq (sSet 1 mDnew) (sSeq (sForK (.any (mVar 0)) (.nm 2) (sSeq (sIf (mOrT (mNotT (mTru (mCall calls "is_pair" 1 (mCons (mVar 2) mNil)))) (mOrT (mNotT (mTru (mCall calls "is_prefix" 1 (mCons (m2 idxF (mVar 2) (mC (pint 0))) mNil)))) (mB (m2 inF (m2 idxF (mVar 2) (mC (pint 0))) (mVar 1))))) (sSeq (sRet (mC (pbl false))) sNil) sNil) (sSeq (sIf (mAndT (mNotT (mTru (mCall calls "is_address" 1 (mCons (m2 idxF (mVar 2) (mC (pint 1))) mNil)))) (mOrT (mNotT (mTru (mIsi "str" (m2 idxF (mVar 2) (mC (pint 1)))))) (mB (m2 neF (m2 idxF (mVar 2) (mC (pint 1))) (mC (pstr [])))))) (sSeq (sRet (mC (pbl false))) sNil) sNil) (sSeq (sSub (mC (pbl true)) (mVar 1) (m2 idxF (mVar 2) (mC (pint 0)))) sNil)))) (sSeq (sRet (mC (pbl true))) sNil))))
def e_are_declarations : FE := ⟨1, ["thing", "seen", "pair"], ["thing"], defArgs (top 24), defBody (top 24), defScope (top 24), m_are_declarations⟩
def m_are_attributes (calls : Calls) : SM := (sSeq (sIf (mNotT (mTru (mIsi "tuple" (mVar 0)))) (sSeq (sRet (mC (pbl false))) sNil) sNil) (sSeq (sSet 1 mDnew) (sSeq (sForK (.any (mVar 0)) (.nm 2) (sSeq (sIf (mOrT (mNotT (mTru (mCall calls "is_pair" 1 (mCons (mVar 2) mNil)))) (mOrT (mNotT (mTru (mCall calls "is_name" 1 (mCons (m2 idxF (mVar 2) (mC (pint 0))) mNil)))) (mB (m2 inF (m2 idxF (mVar 2) (mC (pint 0))) (mVar 1))))) (sSeq (sRet (mC (pbl false))) sNil) sNil) (sSeq (sIf (mAndT (mNotT (mTru (mCall calls "is_plain" 1 (mCons (m2 idxF (mVar 2) (mC (pint 1))) mNil)))) (mNotT (mTru (mCall calls "is_name" 1 (mCons (m2 idxF (mVar 2) (mC (pint 1))) mNil))))) (sSeq (sRet (mC (pbl false))) sNil) sNil) (sSeq (sSub (mC (pbl true)) (mVar 1) (m2 idxF (mVar 2) (mC (pint 0)))) sNil)))) (sSeq (sRet (mC (pbl true))) sNil))))
def e_are_attributes : FE := ⟨1, ["thing", "seen", "pair"], ["thing"], defArgs (top 25), defBody (top 25), defScope (top 25), m_are_attributes⟩
def m_begins_with (calls : Calls) : SM := (sSeq (sRet (mAnd (mIsi "tuple" (mVar 0)) (mAnd (m2 gtF (mN lenF (mCons (mVar 0) mNil)) (mC (pint 0))) (mAnd (mIsi "str" (m2 idxF (mVar 0) (mC (pint 0)))) (m2 eqF (m2 idxF (mVar 0) (mC (pint 0))) (mVar 1)))))) sNil)
def e_begins_with : FE := ⟨2, ["thing", "word"], ["thing", "word"], defArgs (top 26), defBody (top 26), defScope (top 26), m_begins_with⟩
def m_are_children (calls : Calls) : SM := (sSeq (sIf (mNotT (mTru (mIsi "tuple" (mVar 0)))) (sSeq (sRet (mC (pbl false))) sNil) sNil) (sSeq (sSet 1 (mC (pbl false))) (sSeq (sForK (.any (mVar 0)) (.nm 2) (sSeq (sSet 3 (mIsi "str" (mVar 2))) (sSeq (sIf (mAndT (mTru (mVar 3)) (mOrT (mTru (mVar 1)) (mOrT (mB (m2 eqF (mVar 2) (mC (pstr [])))) (mNotT (mTru (mCall calls "is_plain" 1 (mCons (mVar 2) mNil))))))) (sSeq (sRet (mC (pbl false))) sNil) sNil) (sSeq (sIf (mAndT (mTru (mCall calls "begins_with" 2 (mCons (mVar 2) (mCons (mC (pstr [104, 111, 108, 101])) mNil)))) (mOrT (mB (m2 neF (mN lenF (mCons (mVar 2) mNil)) (mC (pint 2)))) (mNotT (mTru (mCall calls "is_word" 1 (mCons (m2 idxF (mVar 2) (mC (pint 1))) mNil)))))) (sSeq (sRet (mC (pbl false))) sNil) sNil) (sSeq (sIf (mAndT (mNotT (mTru (mVar 3))) (mAndT (mNotT (mTru (mCall calls "begins_with" 2 (mCons (mVar 2) (mCons (mC (pstr [104, 111, 108, 101])) mNil))))) (mNotT (mTru (mCall calls "begins_with" 2 (mCons (mVar 2) (mCons (mC (pstr [101, 108, 101, 109, 101, 110, 116])) mNil))))))) (sSeq (sRet (mC (pbl false))) sNil) sNil) (sSeq (sSet 1 (mVar 3)) sNil)))))) (sSeq (sRet (mC (pbl true))) sNil))))
def e_are_children : FE := ⟨1, ["thing", "is_behind", "child", "is_text"], ["thing"], defArgs (top 27), defBody (top 27), defScope (top 27), m_are_children⟩
def m_fault_of (calls : Calls) : SM := (sSeq (sIf (mOrT (mNotT (mTru (mCall calls "begins_with" 2 (mCons (mVar 0) (mCons (mC (pstr [101, 108, 101, 109, 101, 110, 116])) mNil))))) (mB (m2 neF (mN lenF (mCons (mVar 0) mNil)) (mC (pint 5))))) (sSeq (sRet (mC (pstr [102, 111, 114, 109]))) sNil) sNil) (sSeq (sIf (mNotT (mTru (mCall calls "is_name" 1 (mCons (m2 idxF (mVar 0) (mC (pint 1))) mNil)))) (sSeq (sRet (mC (pstr [110, 97, 109, 101]))) sNil) sNil) (sSeq (sIf (mNotT (mTru (mCall calls "are_declarations" 1 (mCons (m2 idxF (mVar 0) (mC (pint 2))) mNil)))) (sSeq (sRet (mC (pstr [100, 101, 99, 108, 97, 114, 97, 116, 105, 111, 110, 115]))) sNil) sNil) (sSeq (sIf (mNotT (mTru (mCall calls "are_attributes" 1 (mCons (m2 idxF (mVar 0) (mC (pint 3))) mNil)))) (sSeq (sRet (mC (pstr [97, 116, 116, 114, 105, 98, 117, 116, 101, 115]))) sNil) sNil) (sSeq (sRet (mIte (mTru (mCall calls "are_children" 1 (mCons (m2 idxF (mVar 0) (mC (pint 4))) mNil))) (mC pnon) (mC (pstr [99, 104, 105, 108, 100, 114, 101, 110])))) sNil)))))
def e_fault_of : FE := ⟨1, ["thing"], ["thing"], defArgs (top 28), defBody (top 28), defScope (top 28), m_fault_of⟩
def m_need_part (calls : Calls) : SM := (sSeq (sAsg (.tup [(.nm 1), (.nm 2), (.nm 3), (.nm 4)]) (mN tupF (mCons (mN lstF (mCons (mN tupF (mCons (mN tupF mNil) (mCons (mVar 0) mNil))) mNil)) (mCons (mC (pint 0)) (mCons mDnew (mCons (mC pnon) mNil)))))) (sSeq (sWhile (mB (m2 neF (mVar 1) (mN lstF mNil))) (sSeq (sAsg (.tup [(.nm 5), (.nm 6)]) (mMeth ["list"] popM (mVar 1) mNil)) (sSeq (sAug 2 (fun i j => i + j) (mC (pint 1))) (sSeq (sSet 7 (mCall calls "fault_of" 1 (mCons (mVar 6) mNil))) (sSeq (sIf (mOrT (mB (m2 gtF (mVar 2) (mC (pint 60)))) (mB (m2 geF (mN lenF (mCons (mVar 5) mNil)) (mC (pint 8))))) (sSeq (sSet 7 (mC (pstr [102, 111, 114, 109]))) sNil) sNil) (sSeq (sIf (mB (m2 isNotF (mVar 7) (mC pnon))) (sSeq sStuck sNil) sNil) (sSeq (sForK (.any (mCall calls "holes_in" 1 (mCons (mVar 6) mNil))) (.nm 8) (sSeq (sIf (mAndT (mB (m2 inF (mVar 8) (mVar 3))) (mB (m2 isF (mVar 4) (mC pnon)))) (sSeq (sSet 4 (mVar 5)) sNil) sNil) (sSeq (sSub (mC (pbl true)) (mVar 3) (mVar 8)) sNil))) (sSeq (sExpr (mMeth ["list"] extendM (mVar 1) (mCons (m1 revF (mLcK (.any (mCall calls "child_elements" 1 (mCons (mVar 6) mNil))) (.tup [(.nm 9), (.nm 10)]) mYes (mN tupF (mCons (m2 addF (mVar 5) (mN tupF (mCons (mVar 9) mNil))) (mCons (mVar 10) mNil))) [9, 10])) mNil))) sNil)))))))) (sSeq (sIf (mB (m2 isNotF (mVar 4) (mC pnon))) (sSeq sStuck sNil) sNil) (sSeq (sRet (mVar 0)) sNil))))
def e_need_part : FE := ⟨1, ["thing", "left", "many", "seen", "twice", "path", "own", "item", "hole", "number", "child"], ["thing"], defArgs (top 29), defBody (top 29), defScope (top 29), m_need_part⟩
def m_child_elements (calls : Calls) : SM := (sSeq (sRet (mLcK (.im (Mi.iEnum (m2 idxF (mVar 0) (mC (pint 4))))) (.tup [(.nm 1), (.nm 2)]) (mTru (mCall calls "begins_with" 2 (mCons (mVar 2) (mCons (mC (pstr [101, 108, 101, 109, 101, 110, 116])) mNil)))) (mN tupF (mCons (mVar 1) (mCons (mVar 2) mNil))) [1, 2])) sNil)
def e_child_elements : FE := ⟨1, ["element", "number", "child"], ["element"], defArgs (top 30), defBody (top 30), defScope (top 30), m_child_elements⟩
def m_holes_in (calls : Calls) : SM := (sSeq (sRet (mLcK (.any (m2 idxF (mVar 0) (mC (pint 4)))) (.nm 1) (mTru (mCall calls "begins_with" 2 (mCons (mVar 1) (mCons (mC (pstr [104, 111, 108, 101])) mNil)))) (m2 idxF (mVar 1) (mC (pint 1))) [1])) sNil)
def e_holes_in : FE := ⟨1, ["element", "child"], ["element"], defArgs (top 31), defBody (top 31), defScope (top 31), m_holes_in⟩
def m_name_text (calls : Calls) : SM := (sSeq (sRet (mIte (mB (m2 eqF (m2 idxF (mVar 0) (mC (pint 0))) (mC (pstr [])))) (m2 idxF (mVar 0) (mC (pint 1))) (m2 addF (m2 addF (m2 idxF (mVar 0) (mC (pint 0))) (mC (pstr [58]))) (m2 idxF (mVar 0) (mC (pint 1)))))) sNil)
def e_name_text : FE := ⟨1, ["name"], ["name"], defArgs (top 43), defBody (top 43), defScope (top 43), m_name_text⟩
def m_pair_text (calls : Calls) : SM := (sSeq (sRet (m2 addF (m2 addF (m2 addF (m2 addF (m2 addF (mC (pstr [32])) (mVar 0)) (mC (pstr [61]))) (mC (pstr [34]))) (mVar 1)) (mC (pstr [34])))) sNil)
def e_pair_text : FE := ⟨2, ["word", "value"], ["word", "value"], defArgs (top 44), defBody (top 44), defScope (top 44), m_pair_text⟩
def m_element_text (calls : Calls) : SM := (sSeq (sSet 1 (mCall calls "name_text" 1 (mCons (m2 idxF (mVar 0) (mC (pint 1))) mNil))) (sSeq (sSet 2 (mN lstF (mCons (m2 addF (mC (pstr [60])) (mVar 1)) mNil))) (sSeq (sForK (.any (m2 idxF (mVar 0) (mC (pint 2)))) (.tup [(.nm 3), (.nm 4)]) (sSeq (sExpr (mMeth ["list"] appendM (mVar 2) (mCons (mCall calls "pair_text" 2 (mCons (mIte (mB (m2 eqF (mVar 3) (mC (pstr [])))) (mC (pstr [120, 109, 108, 110, 115])) (m2 addF (m2 addF (mC (pstr [120, 109, 108, 110, 115])) (mC (pstr [58]))) (mVar 3))) (mCons (mVar 4) mNil))) mNil))) sNil)) (sSeq (sForK (.any (m2 idxF (mVar 0) (mC (pint 3)))) (.tup [(.nm 5), (.nm 6)]) (sSeq (sExpr (mMeth ["list"] appendM (mVar 2) (mCons (mCall calls "pair_text" 2 (mCons (mCall calls "name_text" 1 (mCons (mVar 5) mNil)) (mCons (mIte (mTru (mIsi "tuple" (mVar 6))) (m2 addF (mC (pstr [64])) (mCall calls "name_text" 1 (mCons (mVar 6) mNil))) (mVar 6)) mNil))) mNil))) sNil)) (sSeq (sIf (mB (m2 eqF (m2 idxF (mVar 0) (mC (pint 4))) (mN tupF mNil))) (sSeq (sRet (m2 addF (m2 addF (mMeth ["str"] joinM (mC (pstr [])) (mCons (mVar 2) mNil)) (mC (pstr [47]))) (mC (pstr [62])))) sNil) sNil) (sSeq (sExpr (mMeth ["list"] appendM (mVar 2) (mCons (mC (pstr [62])) mNil))) (sSeq (sForK (.any (m2 idxF (mVar 0) (mC (pint 4)))) (.nm 7) (sSeq (sIf (mTru (mIsi "str" (mVar 7))) (sSeq (sExpr (mMeth ["list"] appendM (mVar 2) (mCons (mVar 7) mNil))) sNil) (sSeq (sIf (mB (m2 eqF (m2 idxF (mVar 7) (mC (pint 0))) (mC (pstr [104, 111, 108, 101])))) (sSeq (sExpr (mMeth ["list"] appendM (mVar 2) (mCons (m2 addF (m2 addF (mC (pstr [123])) (m2 idxF (mVar 7) (mC (pint 1)))) (mC (pstr [125]))) mNil))) sNil) (sSeq (sExpr (mMeth ["list"] appendM (mVar 2) (mCons (mCall calls "element_text" 1 (mCons (mVar 7) mNil)) mNil))) sNil)) sNil)) sNil)) (sSeq (sRet (m2 addF (m2 addF (m2 addF (m2 addF (mMeth ["str"] joinM (mC (pstr [])) (mCons (mVar 2) mNil)) (mC (pstr [60]))) (mC (pstr [47]))) (mVar 1)) (mC (pstr [62])))) sNil))))))))
def e_element_text : FE := ⟨1, ["element", "own", "found", "prefix", "address", "name", "value", "child"], ["element"], defArgs (top 45), defBody (top 45), defScope (top 45), m_element_text⟩
def m_written (calls : Calls) : SM := (sSeq (sRet (mCall calls "element_text" 1 (mCons (mCall calls "need_part" 1 (mCons (mVar 0) mNil)) mNil))) sNil)
def e_written : FE := ⟨1, ["part"], ["part"], defArgs (top 46), defBody (top 46), defScope (top 46), m_written⟩
def m_size_of (calls : Calls) : SM := (sSeq (sRet (mN lenF (mCons (mCall calls "written" 1 (mCons (mVar 0) mNil)) mNil))) sNil)
def e_size_of : FE := ⟨1, ["part"], ["part"], defArgs (top 47), defBody (top 47), defScope (top 47), m_size_of⟩
def m_need_sign (calls : Calls) : SM := (sSeq (sIf (mOrT (mB (m2 geF (mVar 1) (mN lenF (mCons (mVar 0) mNil)))) (mB (m2 notInF (m2 idxF (mVar 0) (mVar 1)) (mVar 2)))) (sSeq sStuck sNil) sNil) sNil)
def e_need_sign : FE := ⟨3, ["text", "at", "signs"], ["text", "at", "signs"], defArgs (top 48), defBody (top 48), defScope (top 48), m_need_sign⟩
def m_need_word (calls : Calls) : SM := (sSeq (sForK (.im (Mi.iEnum (mVar 2))) (.tup [(.nm 3), (.nm 4)]) (sSeq (sExpr (mCall calls "need_sign" 3 (mCons (mVar 0) (mCons (m2 addF (mVar 1) (mVar 3)) (mCons (mVar 4) mNil))))) sNil)) (sSeq (sRet (m2 addF (mVar 1) (mN lenF (mCons (mVar 2) mNil)))) sNil))
def e_need_word : FE := ⟨3, ["text", "at", "word", "number", "sign"], ["text", "at", "word"], defArgs (top 49), defBody (top 49), defScope (top 49), m_need_word⟩
def m_run_end (calls : Calls) : SM := (sSeq (sWhile (mAndT (mB (m2 ltF (mVar 1) (mN lenF (mCons (mVar 0) mNil)))) (mB (m2 inF (m2 idxF (mVar 0) (mVar 1)) (mVar 2)))) (sSeq (sAug 1 (fun i j => i + j) (mC (pint 1))) sNil)) (sSeq (sRet (mVar 1)) sNil))
def e_run_end : FE := ⟨3, ["text", "at", "signs"], ["text", "at", "signs"], defArgs (top 50), defBody (top 50), defScope (top 50), m_run_end⟩
def m_letters_at (calls : Calls) : SM := (sSeq (sExpr (mCall calls "need_sign" 3 (mCons (mVar 0) (mCons (mVar 1) (mCons (mC (pstr [97, 98, 99, 100, 101, 102, 103, 104, 105, 106, 107, 108, 109, 110, 111, 112, 113, 114, 115, 116, 117, 118, 119, 120, 121, 122])) mNil))))) (sSeq (sSet 2 (mN minF (mCons (mCall calls "run_end" 3 (mCons (mVar 0) (mCons (mVar 1) (mCons (mC (pstr [97, 98, 99, 100, 101, 102, 103, 104, 105, 106, 107, 108, 109, 110, 111, 112, 113, 114, 115, 116, 117, 118, 119, 120, 121, 122])) mNil)))) (mCons (m2 addF (mVar 1) (mC (pint 8))) mNil)))) (sSeq (sRet (mN tupF (mCons (mSlc (mVar 0) (mPart (some (mVar 1))) (mPart (some (mVar 2)))) (mCons (mVar 2) mNil)))) sNil)))
def e_letters_at : FE := ⟨2, ["text", "at", "end"], ["text", "at"], defArgs (top 51), defBody (top 51), defScope (top 51), m_letters_at⟩
def m_word_at (calls : Calls) : SM := (sSeq (sAsg (.tup [(.nm 2), (.nm 3)]) (mCall calls "letters_at" 2 (mCons (mVar 0) (mCons (mVar 1) mNil)))) (sSeq (sIf (mB (m2 eqF (mVar 2) (mC (pstr [120, 109, 108, 110, 115])))) (sSeq sStuck sNil) sNil) (sSeq (sRet (mN tupF (mCons (mVar 2) (mCons (mVar 3) mNil)))) sNil)))
def e_word_at : FE := ⟨2, ["text", "at", "word", "end"], ["text", "at"], defArgs (top 52), defBody (top 52), defScope (top 52), m_word_at⟩
def m_name_behind (calls : Calls) : SM := (sSeq (sIf (mB (m2 eqF (mVar 1) (mC (pstr [120, 109, 108, 110, 115])))) (sSeq sStuck sNil) sNil) (sSeq (sIf (mAndT (mB (m2 ltF (mVar 2) (mN lenF (mCons (mVar 0) mNil)))) (mB (m2 eqF (m2 idxF (mVar 0) (mVar 2)) (mC (pstr [58]))))) (sSeq (sAsg (.tup [(.nm 3), (.nm 4)]) (mCall calls "word_at" 2 (mCons (mVar 0) (mCons (m2 addF (mVar 2) (mC (pint 1))) mNil)))) (sSeq (sRet (mN tupF (mCons (mN tupF (mCons (mVar 1) (mCons (mVar 3) mNil))) (mCons (mVar 4) mNil)))) sNil)) sNil) (sSeq (sRet (mN tupF (mCons (mN tupF (mCons (mC (pstr [])) (mCons (mVar 1) mNil))) (mCons (mVar 2) mNil)))) sNil)))
def e_name_behind : FE := ⟨3, ["text", "word", "at", "local", "end"], ["text", "word", "at"], defArgs (top 53), defBody (top 53), defScope (top 53), m_name_behind⟩
def m_name_at (calls : Calls) : SM := (sSeq (sAsg (.tup [(.nm 2), (.nm 3)]) (mCall calls "letters_at" 2 (mCons (mVar 0) (mCons (mVar 1) mNil)))) (sSeq (sRet (mCall calls "name_behind" 3 (mCons (mVar 0) (mCons (mVar 2) (mCons (mVar 3) mNil))))) sNil))
def e_name_at : FE := ⟨2, ["text", "at", "word", "end"], ["text", "at"], defArgs (top 54), defBody (top 54), defScope (top 54), m_name_at⟩
def m_address_at (calls : Calls) : SM := (sSeq (sSet 2 (mCall calls "need_word" 3 (mCons (mVar 0) (mCons (mVar 1) (mCons (m2 addF (mC (pstr [61])) (mC (pstr [34]))) mNil))))) (sSeq (sSet 3 (mCall calls "run_end" 3 (mCons (mVar 0) (mCons (mVar 2) (mCons (mC (pstr [97, 98, 99, 100, 101, 102, 103, 104, 105, 106, 107, 108, 109, 110, 111, 112, 113, 114, 115, 116, 117, 118, 119, 120, 121, 122, 48, 49, 50, 51, 52, 53, 54, 55, 56, 57, 46, 47, 58, 45])) mNil))))) (sSeq (sRet (mN tupF (mCons (mSlc (mVar 0) (mPart (some (mVar 2))) (mPart (some (mVar 3)))) (mCons (mCall calls "need_word" 3 (mCons (mVar 0) (mCons (mVar 3) (mCons (mC (pstr [34])) mNil)))) mNil)))) sNil)))
def e_address_at : FE := ⟨2, ["text", "at", "begin", "end"], ["text", "at"], defArgs (top 55), defBody (top 55), defScope (top 55), m_address_at⟩
def m_value_at (calls : Calls) : SM := (sSeq (sSet 2 (mCall calls "need_word" 3 (mCons (mVar 0) (mCons (mVar 1) (mCons (m2 addF (mC (pstr [61])) (mC (pstr [34]))) mNil))))) (sSeq (sIf (mAndT (mB (m2 ltF (mVar 2) (mN lenF (mCons (mVar 0) mNil)))) (mB (m2 eqF (m2 idxF (mVar 0) (mVar 2)) (mC (pstr [64]))))) (sSeq (sAsg (.tup [(.nm 4), (.nm 3)]) (mCall calls "name_at" 2 (mCons (mVar 0) (mCons (m2 addF (mVar 2) (mC (pint 1))) mNil)))) (sSeq (sRet (mN tupF (mCons (mVar 4) (mCons (mCall calls "need_word" 3 (mCons (mVar 0) (mCons (mVar 3) (mCons (mC (pstr [34])) mNil)))) mNil)))) sNil)) sNil) (sSeq (sSet 3 (mCall calls "run_end" 3 (mCons (mVar 0) (mCons (mVar 2) (mCons (mC (pstr [97, 98, 99, 100, 101, 102, 103, 104, 105, 106, 107, 108, 109, 110, 111, 112, 113, 114, 115, 116, 117, 118, 119, 120, 121, 122, 48, 49, 50, 51, 52, 53, 54, 55, 56, 57, 32, 46, 47, 45])) mNil))))) (sSeq (sRet (mN tupF (mCons (mSlc (mVar 0) (mPart (some (mVar 2))) (mPart (some (mVar 3)))) (mCons (mCall calls "need_word" 3 (mCons (mVar 0) (mCons (mVar 3) (mCons (mC (pstr [34])) mNil)))) mNil)))) sNil))))
def e_value_at : FE := ⟨2, ["text", "at", "begin", "end", "name"], ["text", "at"], defArgs (top 56), defBody (top 56), defScope (top 56), m_value_at⟩
def m_declaration_at (calls : Calls) : SM := (sSeq (sPar 2 3 (mCons (mC (pstr [])) (mCons (mVar 1) mNil))) (sSeq (sExpr (mCall calls "need_sign" 3 (mCons (mVar 0) (mCons (mVar 1) (mCons (m2 addF (mC (pstr [61])) (mC (pstr [58]))) mNil))))) (sSeq (sIf (mB (m2 eqF (m2 idxF (mVar 0) (mVar 1)) (mC (pstr [58])))) (sSeq (sAsg (.tup [(.nm 2), (.nm 3)]) (mCall calls "word_at" 2 (mCons (mVar 0) (mCons (m2 addF (mVar 1) (mC (pint 1))) mNil)))) sNil) sNil) (sSeq (sAsg (.tup [(.nm 4), (.nm 3)]) (mCall calls "address_at" 2 (mCons (mVar 0) (mCons (mVar 3) mNil)))) (sSeq (sRet (mN tupF (mCons (mN tupF (mCons (mVar 2) (mCons (mVar 4) mNil))) (mCons (mVar 3) mNil)))) sNil)))))
def e_declaration_at : FE := ⟨2, ["text", "at", "prefix", "end", "address"], ["text", "at"], defArgs (top 57), defBody (top 57), defScope (top 57), m_declaration_at⟩
def m_head_at (calls : Calls) : SM := (sSeq (sExpr (mCall calls "need_sign" 3 (mCons (mVar 0) (mCons (mVar 1) (mCons (mC (pstr [60])) mNil))))) (sSeq (sAsg (.tup [(.nm 2), (.nm 1)]) (mCall calls "name_at" 2 (mCons (mVar 0) (mCons (m2 addF (mVar 1) (mC (pint 1))) mNil)))) (sSeq (sPar 3 4 (mCons (mN lstF mNil) (mCons (mN lstF mNil) mNil))) (sSeq (sWhile (mAndT (mB (m2 ltF (mVar 1) (mN lenF (mCons (mVar 0) mNil)))) (mB (m2 eqF (m2 idxF (mVar 0) (mVar 1)) (mC (pstr [32]))))) (sSeq (sAsg (.tup [(.nm 5), (.nm 6)]) (mCall calls "letters_at" 2 (mCons (mVar 0) (mCons (m2 addF (mVar 1) (mC (pint 1))) mNil)))) (sSeq (sIf (mAndT (mB (m2 eqF (mVar 5) (mC (pstr [120, 109, 108, 110, 115])))) (mB (m2 eqF (mVar 4) (mN lstF mNil)))) (sSeq (sAsg (.tup [(.nm 7), (.nm 1)]) (mCall calls "declaration_at" 2 (mCons (mVar 0) (mCons (mVar 6) mNil)))) (sSeq (sExpr (mMeth ["list"] appendM (mVar 3) (mCons (mVar 7) mNil))) sNil)) (sSeq (sAsg (.tup [(.nm 8), (.nm 6)]) (mCall calls "name_behind" 3 (mCons (mVar 0) (mCons (mVar 5) (mCons (mVar 6) mNil))))) (sSeq (sAsg (.tup [(.nm 9), (.nm 1)]) (mCall calls "value_at" 2 (mCons (mVar 0) (mCons (mVar 6) mNil)))) (sSeq (sExpr (mMeth ["list"] appendM (mVar 4) (mCons (mN tupF (mCons (mVar 8) (mCons (mVar 9) mNil))) mNil))) sNil)))) sNil))) (sSeq (sRet (mN tupF (mCons (mN tupF (mCons (mVar 2) (mCons (mN tupleF (mCons (mVar 3) mNil)) (mCons (mN tupleF (mCons (mVar 4) mNil)) mNil)))) (mCons (mVar 1) mNil)))) sNil)))))
def e_head_at : FE := ⟨2, ["text", "at", "name", "declared", "attributes", "word", "end", "pair", "own", "value"], ["text", "at"], defArgs (top 58), defBody (top 58), defScope (top 58), m_head_at⟩
def m_child_at (calls : Calls) : SM := (sSeq (sIf (mAndT (mB (m2 ltF (mVar 1) (mN lenF (mCons (mVar 0) mNil)))) (mB (m2 eqF (m2 idxF (mVar 0) (mVar 1)) (mC (pstr [123]))))) (sSeq (sAsg (.tup [(.nm 3), (.nm 2)]) (mCall calls "letters_at" 2 (mCons (mVar 0) (mCons (m2 addF (mVar 1) (mC (pint 1))) mNil)))) (sSeq (sRet (mN tupF (mCons (mN tupF (mCons (mC (pstr [104, 111, 108, 101])) (mCons (mVar 3) mNil))) (mCons (mCall calls "need_word" 3 (mCons (mVar 0) (mCons (mVar 2) (mCons (mC (pstr [125])) mNil)))) mNil)))) sNil)) sNil) (sSeq (sIf (mAndT (mB (m2 ltF (mVar 1) (mN lenF (mCons (mVar 0) mNil)))) (mB (m2 eqF (m2 idxF (mVar 0) (mVar 1)) (mC (pstr [60]))))) (sSeq (sRet (mCall calls "element_from" 2 (mCons (mVar 0) (mCons (mVar 1) mNil)))) sNil) sNil) (sSeq (sExpr (mCall calls "need_sign" 3 (mCons (mVar 0) (mCons (mVar 1) (mCons (mC (pstr [97, 98, 99, 100, 101, 102, 103, 104, 105, 106, 107, 108, 109, 110, 111, 112, 113, 114, 115, 116, 117, 118, 119, 120, 121, 122, 48, 49, 50, 51, 52, 53, 54, 55, 56, 57, 32, 46, 47, 45])) mNil))))) (sSeq (sSet 2 (mCall calls "run_end" 3 (mCons (mVar 0) (mCons (mVar 1) (mCons (mC (pstr [97, 98, 99, 100, 101, 102, 103, 104, 105, 106, 107, 108, 109, 110, 111, 112, 113, 114, 115, 116, 117, 118, 119, 120, 121, 122, 48, 49, 50, 51, 52, 53, 54, 55, 56, 57, 32, 46, 47, 45])) mNil))))) (sSeq (sRet (mN tupF (mCons (mSlc (mVar 0) (mPart (some (mVar 1))) (mPart (some (mVar 2)))) (mCons (mVar 2) mNil)))) sNil)))))
def e_child_at : FE := ⟨2, ["text", "at", "end", "word"], ["text", "at"], defArgs (top 59), defBody (top 59), defScope (top 59), m_child_at⟩
def m_element_from (calls : Calls) : SM := (sSeq (sAsg (.tup [(.nm 2), (.nm 1)]) (mCall calls "head_at" 2 (mCons (mVar 0) (mCons (mVar 1) mNil)))) (sSeq (sExpr (mCall calls "need_sign" 3 (mCons (mVar 0) (mCons (mVar 1) (mCons (m2 addF (mC (pstr [47])) (mC (pstr [62]))) mNil))))) (sSeq (sIf (mB (m2 eqF (m2 idxF (mVar 0) (mVar 1)) (mC (pstr [47])))) (sSeq (sRet (mN tupF (mCons (m2 addF (m2 addF (mN tupF (mCons (mC (pstr [101, 108, 101, 109, 101, 110, 116])) mNil)) (mVar 2)) (mN tupF (mCons (mN tupF mNil) mNil))) (mCons (mCall calls "need_word" 3 (mCons (mVar 0) (mCons (m2 addF (mVar 1) (mC (pint 1))) (mCons (mC (pstr [62])) mNil)))) mNil)))) sNil) sNil) (sSeq (sAsg (.tup [(.nm 3), (.nm 1)]) (mCall calls "child_at" 2 (mCons (mVar 0) (mCons (m2 addF (mVar 1) (mC (pint 1))) mNil)))) (sSeq (sSet 4 (mN lstF (mCons (mVar 3) mNil))) (sSeq (sWhile (mB (m2 neF (mSlc (mVar 0) (mPart (some (mVar 1))) (mPart (some (m2 addF (mVar 1) (mC (pint 2)))))) (m2 addF (mC (pstr [60])) (mC (pstr [47]))))) (sSeq (sAsg (.tup [(.nm 3), (.nm 1)]) (mCall calls "child_at" 2 (mCons (mVar 0) (mCons (mVar 1) mNil)))) (sSeq (sExpr (mMeth ["list"] appendM (mVar 4) (mCons (mVar 3) mNil))) sNil))) (sSeq (sSet 1 (mCall calls "need_word" 3 (mCons (mVar 0) (mCons (mVar 1) (mCons (m2 addF (m2 addF (m2 addF (mC (pstr [60])) (mC (pstr [47]))) (mCall calls "name_text" 1 (mCons (m2 idxF (mVar 2) (mC (pint 0))) mNil))) (mC (pstr [62]))) mNil))))) (sSeq (sRet (mN tupF (mCons (m2 addF (m2 addF (mN tupF (mCons (mC (pstr [101, 108, 101, 109, 101, 110, 116])) mNil)) (mVar 2)) (mN tupF (mCons (mN tupleF (mCons (mVar 4) mNil)) mNil))) (mCons (mVar 1) mNil)))) sNil))))))))
def e_element_from : FE := ⟨2, ["text", "at", "head", "child", "children"], ["text", "at"], defArgs (top 60), defBody (top 60), defScope (top 60), m_element_from⟩
def m_read_part (calls : Calls) : SM := (sSeq (sIf (mNotT (mTru (mIsi "str" (mVar 0)))) (sSeq sStuck sNil) sNil) (sSeq (sAsg (.tup [(.nm 1), (.nm 2)]) (mCall calls "element_from" 2 (mCons (mVar 0) (mCons (mC (pint 0)) mNil)))) (sSeq (sIf (mB (m2 ltF (mVar 2) (mN lenF (mCons (mVar 0) mNil)))) (sSeq sStuck sNil) sNil) (sSeq (sRet (mCall calls "need_part" 1 (mCons (mVar 1) mNil))) sNil))))
def e_read_part : FE := ⟨1, ["string", "found", "end"], ["string"], defArgs (top 61), defBody (top 61), defScope (top 61), m_read_part⟩
def m__law_mixed (calls : Calls) : SM := (sSeq (sSet 0 (m2 modF (mN intF (mCons (mVar 0) mNil)) (mC (pint 2147483647)))) (sSeq (sRet (m2 modF (m2 mulF (m2 modF (m2 addF (m2 addF (m2 mulF (mVar 0) (m2 addF (mC (pint 48271)) (m2 mulF (m2 mulF (mC (pint 2)) (mVar 1)) (mVar 1)))) (m2 mulF (mC (pint 69621)) (mVar 1))) (mC (pint 11))) (mC (pint 2147483647))) (mC (pint 69621))) (mC (pint 2147483629)))) sNil))
def e__law_mixed : FE := ⟨2, ["cell", "k"], ["cell", "k"], defArgs (top 63), defBody (top 63), defScope (top 63), m__law_mixed⟩
def m__law_begin (calls : Calls) : SM := (sSeq (sSet 1 (mIte (mB (m2 neF (mVar 0) (mN lstF mNil))) (mN listF (mCons (mVar 0) mNil)) (mN lstF (mCons (mC (pint 0)) mNil)))) (sSeq (sRet (mDisp [((mC (pstr [99, 101, 108, 108, 115])), (mVar 1)), ((mC (pstr [108, 101, 102, 116, 115])), (mLcK (.any (mVar 1)) (.nm 2) mYes (mIte (mB (m2 geF (mVar 2) (m2 powF (mC (pint 10)) (mC (pint 18))))) (mVar 2) (mC (pint 0))) [2])), ((mC (pstr [97, 116])), (mC (pint 0))), ((mC (pstr [114, 111, 111, 109])), (mC (pint 0)))])) sNil))
def e__law_begin : FE := ⟨1, ["script", "cells", "cell"], ["script"], defArgs (top 64), defBody (top 64), defScope (top 64), m__law_begin⟩
def m__law_draw (calls : Calls) : SM := (sSeq (sSet 2 (m2 idxF (mVar 0) (mC (pstr [97, 116])))) (sSeq (sSub (m2 addF (mVar 2) (mC (pint 1))) (mVar 0) (mC (pstr [97, 116]))) (sSeq (sSet 3 (m2 modF (mN intF (mCons (mVar 2) mNil)) (mN lenF (mCons (m2 idxF (mVar 0) (mC (pstr [99, 101, 108, 108, 115]))) mNil)))) (sSeq (sSet 4 (m2 idxF (m2 idxF (mVar 0) (mC (pstr [108, 101, 102, 116, 115]))) (mVar 3))) (sSeq (sIf (mB (m2 gtF (mVar 4) (mC (pint 0)))) (sSeq (sSub (m2 fdivF (mVar 4) (mVar 1)) (m2 idxF (mVar 0) (mC (pstr [108, 101, 102, 116, 115]))) (mVar 3)) (sSeq (sRet (m2 modF (mN intF (mCons (mVar 4) mNil)) (mVar 1))) sNil)) sNil) (sSeq (sSet 5 (mCall calls "_law_mixed" 2 (mCons (mCall calls "_law_mixed" 2 (mCons (m2 idxF (m2 idxF (mVar 0) (mC (pstr [99, 101, 108, 108, 115]))) (mVar 3)) (mCons (mVar 2) mNil))) (mCons (m2 addF (mC (pint 40)) (mVar 2)) mNil)))) (sSeq (sRet (m2 modF (m2 fdivF (mN intF (mCons (m2 addF (m2 mulF (mVar 5) (mC (pint 2147483647))) (mCall calls "_law_mixed" 2 (mCons (mVar 5) (mCons (m2 addF (mC (pint 7)) (mVar 2)) mNil)))) mNil)) (mC (pint 64))) (mVar 1))) sNil)))))))
def e__law_draw : FE := ⟨2, ["state", "many", "at", "place", "left", "number"], ["state", "many"], defArgs (top 65), defBody (top 65), defScope (top 65), m__law_draw⟩
def m__law_of (calls : Calls) : SM := (sSeq (sRet (m2 idxF (mVar 1) (mCall calls "_law_draw" 2 (mCons (mVar 0) (mCons (mN lenF (mCons (mVar 1) mNil)) mNil))))) sNil)
def e__law_of : FE := ⟨2, ["state", "some"], ["state", "some"], defArgs (top 66), defBody (top 66), defScope (top 66), m__law_of⟩
def m__law_prefix (calls : Calls) : SM := (sSeq (sRet (m2 idxF (mN lstF (mCons (mC (pstr [])) (mCons (mC (pstr [112])) (mCons (mC (pstr [113])) (mCons (mC (pstr [112])) (mCons (mC (pstr [])) (mCons (mC (pstr [114])) (mCons (mC (pstr [112, 112])) mNil)))))))) (mCall calls "_law_draw" 2 (mCons (mVar 0) (mCons (mC (pint 7)) mNil))))) sNil)
def e__law_prefix : FE := ⟨1, ["state"], ["state"], defArgs (top 67), defBody (top 67), defScope (top 67), m__law_prefix⟩
def m__law_name (calls : Calls) : SM := (sSeq (sRet (mN tupF (mCons (mCall calls "_law_prefix" 1 (mCons (mVar 0) mNil)) (mCons (m2 idxF (mN lstF (mCons (mC (pstr [97])) (mCons (mC (pstr [98])) (mCons (mC (pstr [97])) (mCons (mC (pstr [99])) mNil))))) (mCall calls "_law_draw" 2 (mCons (mVar 0) (mCons (mC (pint 4)) mNil)))) mNil)))) sNil)
def e__law_name : FE := ⟨1, ["state"], ["state"], defArgs (top 68), defBody (top 68), defScope (top 68), m__law_name⟩
def m__law_declarations (calls : Calls) : SM := (sSeq (sSet 2 mDnew) (sSeq (sForK (.im (iRange1 (mCons (mCall calls "_law_draw" 2 (mCons (mVar 0) (mCons (m2 addF (mVar 1) (mC (pint 1))) mNil))) mNil))) (.nm 3) (sSeq (sSub (m2 idxF (mN lstF (mCons (mC (pstr [117])) (mCons (mC (pstr [118])) (mCons (mC (pstr [117])) (mCons (mC (pstr [119, 46, 120])) (mCons (mC (pstr [])) (mCons (mC (pstr [117, 58, 49])) mNil))))))) (mCall calls "_law_draw" 2 (mCons (mVar 0) (mCons (mC (pint 6)) mNil)))) (mVar 2) (mCall calls "_law_prefix" 1 (mCons (mVar 0) mNil))) sNil)) (sSeq (sRet (mN tupleF (mCons (mLcK (.any (mVar 2)) (.nm 4) mYes (mN tupF (mCons (mVar 4) (mCons (m2 idxF (mVar 2) (mVar 4)) mNil))) [4]) mNil))) sNil)))
def e__law_declarations : FE := ⟨2, ["state", "most", "found", "k", "prefix"], ["state", "most"], defArgs (top 69), defBody (top 69), defScope (top 69), m__law_declarations⟩
def m__law_attributes (calls : Calls) : SM := (sSeq (sSet 2 mDnew) (sSeq (sForK (.im (iRange1 (mCons (mCall calls "_law_draw" 2 (mCons (mVar 0) (mCons (m2 addF (mVar 1) (mC (pint 1))) mNil))) mNil))) (.nm 3) (sSeq (sSet 4 (m2 eqF (mCall calls "_law_draw" 2 (mCons (mVar 0) (mCons (mC (pint 3)) mNil))) (mC (pint 0)))) (sSeq (sSub (mIte (mTru (mVar 4)) (mCall calls "_law_name" 1 (mCons (mVar 0) mNil)) (m2 idxF (mN lstF (mCons (mC (pstr [])) (mCons (mC (pstr [120])) (mCons (mC (pstr [120, 32, 121])) (mCons (mC (pstr [49])) mNil))))) (mCall calls "_law_draw" 2 (mCons (mVar 0) (mCons (mC (pint 4)) mNil))))) (mVar 2) (mCall calls "_law_name" 1 (mCons (mVar 0) mNil))) sNil))) (sSeq (sRet (mN tupleF (mCons (mLcK (.any (mVar 2)) (.nm 5) mYes (mN tupF (mCons (mVar 5) (mCons (m2 idxF (mVar 2) (mVar 5)) mNil))) [5]) mNil))) sNil)))
def e__law_attributes : FE := ⟨2, ["state", "most", "found", "k", "quoted", "name"], ["state", "most"], defArgs (top 70), defBody (top 70), defScope (top 70), m__law_attributes⟩
def m__law_element (calls : Calls) : SM := (sSeq (sSet 4 (mN lstF mNil)) (sSeq (sForK (.im (iRange1 (mCons (mIte (mB (m2 gtF (mVar 1) (mC (pint 1)))) (mCall calls "_law_draw" 2 (mCons (mVar 0) (mCons (m2 addF (mVar 2) (mC (pint 1))) mNil))) (mC (pint 0))) mNil))) (.nm 5) (sSeq (sSet 8 (mCall calls "_law_draw" 2 (mCons (mVar 0) (mCons (mC (pint 6)) mNil)))) (sSeq (sIf (mAndT (mB (m2 eqF (mVar 8) (mC (pint 0)))) (mOrT (mB (m2 eqF (mVar 4) (mN lstF mNil))) (mNotT (mTru (mIsi "str" (m2 idxF (mVar 4) (m1 negF (mC (pint 1))))))))) (sSeq (sExpr (mMeth ["list"] appendM (mVar 4) (mCons (m2 idxF (mN lstF (mCons (mC (pstr [116])) (mCons (mC (pstr [115, 111, 109, 101, 32, 116, 101, 120, 116])) (mCons (mC (pstr [45])) mNil)))) (mCall calls "_law_draw" 2 (mCons (mVar 0) (mCons (mC (pint 3)) mNil)))) mNil))) sNil) (sSeq (sIf (mAndT (mB (m2 eqF (mVar 8) (mC (pint 1)))) (mB (m2 neF (mVar 3) (mN lstF mNil)))) (sSeq (sExpr (mMeth ["list"] appendM (mVar 4) (mCons (mN tupF (mCons (mC (pstr [104, 111, 108, 101])) (mCons (mMeth ["list"] popM (mVar 3) mNil) mNil))) mNil))) sNil) (sSeq (sExpr (mMeth ["list"] appendM (mVar 4) (mCons (mCall calls "_law_element" 4 (mCons (mVar 0) (mCons (m2 subF (mVar 1) (mC (pint 1))) (mCons (mVar 2) (mCons (mVar 3) mNil))))) mNil))) sNil)) sNil)) sNil))) (sSeq (sPar 6 7 (mCons (mCall calls "_law_declarations" 2 (mCons (mVar 0) (mCons (mC (pint 2)) mNil))) (mCons (mCall calls "_law_attributes" 2 (mCons (mVar 0) (mCons (mC (pint 2)) mNil))) mNil))) (sSeq (sRet (mN tupF (mCons (mC (pstr [101, 108, 101, 109, 101, 110, 116])) (mCons (mCall calls "_law_name" 1 (mCons (mVar 0) mNil)) (mCons (mVar 6) (mCons (mVar 7) (mCons (mN tupleF (mCons (mVar 4) mNil)) mNil))))))) sNil))))
def e__law_element : FE := ⟨4, ["state", "deep", "most", "spare", "inside", "k", "declarations", "attributes", "way"], ["state", "deep", "most", "spare"], defArgs (top 71), defBody (top 71), defScope (top 71), m__law_element⟩
def m__law_grown (calls : Calls) : SM := (sSeq (sSet 1 (mSlc (mN lstF (mCons (mC (pstr [104])) (mCons (mC (pstr [104, 111, 108, 101])) (mCons (mC (pstr [120, 109, 108, 110, 115])) (mCons (mC (pstr [97, 98, 99, 100, 101, 102, 103, 104])) (mCons (mC (pstr [107])) mNil)))))) (mPart none) (mPart (some (mCall calls "_law_draw" 2 (mCons (mVar 0) (mCons (mC (pint 6)) mNil))))))) (sSeq (sAsg (.tup [(.nm 2), (.nm 3)]) (mCall calls "_law_of" 2 (mCons (mVar 0) (mCons (mN lstF (mCons (mN tupF (mCons (mC (pint 4)) (mCons (mC (pint 3)) mNil))) (mCons (mN tupF (mCons (mC (pint 8)) (mCons (mC (pint 1)) mNil))) (mCons (mN tupF (mCons (mC (pint 2)) (mCons (mC (pint 40)) mNil))) (mCons (mN tupF (mCons (mC (pint 3)) (mCons (mC (pint 5)) mNil))) mNil))))) mNil)))) (sSeq (sRet (mCall calls "_law_element" 4 (mCons (mVar 0) (mCons (mVar 2) (mCons (mVar 3) (mCons (mVar 1) mNil)))))) sNil)))
def e__law_grown : FE := ⟨1, ["state", "spare", "deep", "most"], ["state"], defArgs (top 72), defBody (top 72), defScope (top 72), m__law_grown⟩
def m__law_name_text (calls : Calls) : SM := (sSeq (sRet (mIte (mB (m2 eqF (m2 idxF (mVar 0) (mC (pint 0))) (mC (pstr [])))) (m2 idxF (mVar 0) (mC (pint 1))) (m2 addF (m2 addF (m2 idxF (mVar 0) (mC (pint 0))) (mC (pstr [58]))) (m2 idxF (mVar 0) (mC (pint 1)))))) sNil)
def e__law_name_text : FE := ⟨1, ["name"], ["name"], defArgs (top 73), defBody (top 73), defScope (top 73), m__law_name_text⟩
def m__law_written (calls : Calls) : SM := (sSeq (sSet 1 (mCall calls "_law_name_text" 1 (mCons (m2 idxF (mVar 0) (mC (pint 1))) mNil))) (sSeq (sSet 2 (m2 addF (mC (pstr [60])) (mVar 1))) (sSeq (sForK (.any (m2 idxF (mVar 0) (mC (pint 2)))) (.tup [(.nm 3), (.nm 4)]) (sSeq (sSet 2 (m2 addF (m2 addF (m2 addF (m2 addF (m2 addF (mVar 2) (mC (pstr [32, 120, 109, 108, 110, 115]))) (mIte (mB (m2 neF (mVar 3) (mC (pstr [])))) (m2 addF (mC (pstr [58])) (mVar 3)) (mC (pstr [])))) (mC (pstr [61, 34]))) (mVar 4)) (mC (pstr [34])))) sNil)) (sSeq (sForK (.any (m2 idxF (mVar 0) (mC (pint 3)))) (.tup [(.nm 5), (.nm 6)]) (sSeq (sSet 8 (mIte (mTru (mIsi "tuple" (mVar 6))) (m2 addF (mC (pstr [64])) (mCall calls "_law_name_text" 1 (mCons (mVar 6) mNil))) (mVar 6))) (sSeq (sSet 2 (m2 addF (m2 addF (m2 addF (m2 addF (m2 addF (mVar 2) (mC (pstr [32]))) (mCall calls "_law_name_text" 1 (mCons (mVar 5) mNil))) (mC (pstr [61, 34]))) (mVar 8)) (mC (pstr [34])))) sNil))) (sSeq (sIf (mB (m2 eqF (m2 idxF (mVar 0) (mC (pint 4))) (mN tupF mNil))) (sSeq (sRet (m2 addF (mVar 2) (mC (pstr [47, 62])))) sNil) sNil) (sSeq (sSet 2 (m2 addF (mVar 2) (mC (pstr [62])))) (sSeq (sForK (.any (m2 idxF (mVar 0) (mC (pint 4)))) (.nm 7) (sSeq (sIf (mTru (mIsi "str" (mVar 7))) (sSeq (sSet 2 (m2 addF (mVar 2) (mVar 7))) sNil) (sSeq (sSet 2 (m2 addF (mVar 2) (mIte (mB (m2 eqF (m2 idxF (mVar 7) (mC (pint 0))) (mC (pstr [104, 111, 108, 101])))) (m2 addF (m2 addF (mC (pstr [123])) (m2 idxF (mVar 7) (mC (pint 1)))) (mC (pstr [125]))) (mCall calls "_law_written" 1 (mCons (mVar 7) mNil))))) sNil)) sNil)) (sSeq (sRet (m2 addF (m2 addF (m2 addF (mVar 2) (mC (pstr [60, 47]))) (mVar 1)) (mC (pstr [62])))) sNil))))))))
def e__law_written : FE := ⟨1, ["part", "own", "found", "prefix", "address", "name", "value", "child", "plain"], ["part"], defArgs (top 74), defBody (top 74), defScope (top 74), m__law_written⟩
def m__law_edge (calls : Calls) : SM := (sSeq (sSet 1 (mN lstF (mCons (mC (pstr [97, 98, 99, 100, 101, 102, 103, 104])) (mCons (mC (pstr [122])) (mCons (mC (pstr [120, 109, 108, 110, 115, 120])) (mCons (mC (pstr [120, 109, 108, 110])) (mCons (mC (pstr [101, 108, 101, 109, 101, 110, 116])) (mCons (mC (pstr [104, 111, 108, 101])) mNil)))))))) (sSeq (sSet 2 (mLcK (.im (iRange1 (mCons (mC (pint 2)) mNil))) (.nm 7) mYes (mN tupF (mCons (mCall calls "_law_of" 2 (mCons (mVar 0) (mCons (mN lstF (mCons (mC (pstr [])) (mCons (mC (pstr [112, 112, 112, 112, 112, 112, 112, 112])) (mCons (mC (pstr [120])) (mCons (mC (pstr [120, 109, 108])) mNil))))) mNil))) (mCons (mCall calls "_law_of" 2 (mCons (mVar 0) (mCons (mVar 1) mNil))) mNil))) [7])) (sSeq (sSet 3 (mN lstF (mCons (mC (pstr [])) (mCons (m2 mulF (mC (pstr [120])) (mC (pint 20))) (mCons (mC (pstr [97, 45, 98, 47, 99, 46, 100, 32, 48, 49, 57])) (mCons (mC (pstr [32])) (mCons (m2 idxF (mVar 2) (mC (pint 1))) (mCons (mN tupF (mCons (mC (pstr [])) (mCons (mC (pstr [120, 109, 108, 110, 115, 121])) mNil))) mNil)))))))) (sSeq (sSet 4 (mN lstF (mCons (mN tupF (mCons (mN tupF (mCons (mC (pstr [])) (mCons (mC (pstr [98])) mNil))) (mCons (mCall calls "_law_of" 2 (mCons (mVar 0) (mCons (mVar 3) mNil))) mNil))) (mCons (mN tupF (mCons (mN tupF (mCons (mC (pstr [113])) (mCons (mC (pstr [98])) mNil))) (mCons (mCall calls "_law_of" 2 (mCons (mVar 0) (mCons (mVar 3) mNil))) mNil))) (mCons (mN tupF (mCons (m2 idxF (mVar 2) (mC (pint 0))) (mCons (mC (pstr [46, 47, 45])) mNil))) mNil))))) (sSeq (sSet 5 (mN lstF (mCons (mN tupF (mCons (mN tupF (mCons (mC (pstr [])) (mCons (m2 mulF (mC (pstr [117])) (mC (pint 20))) mNil))) (mCons (mN tupF (mCons (mC (pstr [120])) (mCons (mC (pstr [])) mNil))) mNil))) (mCons (mN tupF (mCons (mN tupF (mCons (mC (pstr [112, 112, 112, 112, 112, 112, 112, 112])) (mCons (mC (pstr [97, 46, 98, 47, 99, 58, 100, 45, 101, 48, 57])) mNil))) mNil)) (mCons (mN tupF mNil) mNil))))) (sSeq (sSet 6 (mN lstF (mCons (mN tupF mNil) (mCons (mN tupF (mCons (m2 mulF (mC (pstr [120])) (mC (pint 20))) mNil)) (mCons (mN tupF (mCons (mN tupF (mCons (mC (pstr [104, 111, 108, 101])) (mCons (mC (pstr [120, 109, 108, 110, 115])) mNil))) (mCons (mC (pstr [32])) mNil))) mNil))))) (sSeq (sExpr (mMeth ["list"] appendM (mVar 6) (mCons (mN tupF (mCons (mC (pstr [45])) (mCons (mN tupF (mCons (mC (pstr [101, 108, 101, 109, 101, 110, 116])) (mCons (m2 idxF (mVar 2) (mC (pint 1))) (mCons (mN tupF mNil) (mCons (mN tupF mNil) (mCons (mN tupF mNil) mNil)))))) (mCons (mN tupF (mCons (mC (pstr [104, 111, 108, 101])) (mCons (mC (pstr [97, 98, 99, 100, 101, 102, 103, 104])) mNil))) mNil)))) mNil))) (sSeq (sRet (mN tupF (mCons (mC (pstr [101, 108, 101, 109, 101, 110, 116])) (mCons (m2 idxF (mVar 2) (mC (pint 0))) (mCons (mCall calls "_law_of" 2 (mCons (mVar 0) (mCons (mVar 5) mNil))) (mCons (mN tupleF (mCons (mVar 4) mNil)) (mCons (mCall calls "_law_of" 2 (mCons (mVar 0) (mCons (mVar 6) mNil))) mNil))))))) sNil))))))))
def e__law_edge : FE := ⟨1, ["state", "words", "names", "values", "rows", "some", "inside", "k"], ["state"], defArgs (top 75), defBody (top 75), defScope (top 75), m__law_edge⟩
def m__law_right (calls : Calls) : SM := (sSeq (sSet 1 (mCall calls "_law_written" 1 (mCons (mVar 0) mNil))) (sSeq (sRet (mAnd (m2 eqF (mCall calls "written" 1 (mCons (mVar 0) mNil)) (mVar 1)) (mAnd (m2 eqF (mCall calls "size_of" 1 (mCons (mVar 0) mNil)) (mN lenF (mCons (mVar 1) mNil))) (m2 eqF (mN reprF (mCons (mCall calls "read_part" 1 (mCons (mVar 1) mNil)) mNil)) (mN reprF (mCons (mVar 0) mNil)))))) sNil))
def e__law_right : FE := ⟨1, ["part", "due"], ["part"], defArgs (top 76), defBody (top 76), defScope (top 76), m__law_right⟩
def m_law (calls : Calls) : SM := (sSeq (sSet 1 (mCall calls "_law_begin" 1 (mCons (mVar 0) mNil))) (sSeq (sSet 2 (mN tupF (mCons (mC (pstr [101, 108, 101, 109, 101, 110, 116])) (mCons (mN tupF (mCons (mC (pstr [])) (mCons (mC (pstr [108, 97, 115, 116])) mNil))) (mCons (mN tupF mNil) (mCons (mN tupF mNil) (mCons (mN tupF mNil) mNil))))))) (sSeq (sForK (.im (iRange1 (mCons (m2 addF (mC (pint 3)) (mN minF (mCons (mC (pint 4)) (mCons (mN lenF (mCons (mVar 0) mNil)) mNil)))) mNil))) (.nm 3) (sSeq (sPar 5 6 (mCons (mCall calls "_law_grown" 1 (mCons (mVar 1) mNil)) (mCons (mCall calls "_law_edge" 1 (mCons (mVar 1) mNil)) mNil))) (sSeq (sForK (.any (mN tupF (mCons (mVar 5) (mCons (mVar 6) (mCons (mN tupF (mCons (mC (pstr [101, 108, 101, 109, 101, 110, 116])) (mCons (mN tupF (mCons (mC (pstr [112])) (mCons (mC (pstr [97])) mNil))) (mCons (mN tupF mNil) (mCons (mN tupF mNil) (mCons (mN tupF (mCons (mVar 6) (mCons (mC (pstr [116])) (mCons (m2 addF (mSlc (mVar 6) (mPart none) (mPart (some (mC (pint 4))))) (mN tupF (mCons (mN tupF mNil) mNil))) mNil)))) mNil)))))) mNil))))) (.nm 7) (sSeq (sIf (mNotT (mTru (mCall calls "_law_right" 1 (mCons (mVar 7) mNil)))) (sSeq (sRet (mC (pbl false))) sNil) sNil) sNil)) (sSeq (sIf (mAndT (mB (m2 neF (mN reprF (mCons (mVar 2) mNil)) (mN reprF (mCons (mVar 5) mNil)))) (mB (m2 eqF (mCall calls "written" 1 (mCons (mVar 2) mNil)) (mCall calls "written" 1 (mCons (mVar 5) mNil))))) (sSeq (sRet (mC (pbl false))) sNil) sNil) (sSeq (sSet 2 (mVar 5)) sNil))))) (sSeq (sSet 4 (mC (pstr [60, 97, 32, 120, 109, 108, 110, 115, 61, 34, 117, 34, 32, 98, 61, 34, 120, 34, 32, 112, 58, 99, 61, 34, 64, 112, 58, 100, 34, 62, 115, 111, 123, 104, 125, 60, 47, 97, 62]))) (sSeq (sSet 5 (mN tupF (mCons (mC (pstr [101, 108, 101, 109, 101, 110, 116])) (mCons (mN tupF (mCons (mC (pstr [])) (mCons (mC (pstr [97])) mNil))) (mCons (mN tupF (mCons (mN tupF (mCons (mC (pstr [])) (mCons (mC (pstr [117])) mNil))) mNil)) (mCons (mN tupF (mCons (mN tupF (mCons (mN tupF (mCons (mC (pstr [])) (mCons (mC (pstr [98])) mNil))) (mCons (mC (pstr [120])) mNil))) (mCons (mN tupF (mCons (mN tupF (mCons (mC (pstr [112])) (mCons (mC (pstr [99])) mNil))) (mCons (mN tupF (mCons (mC (pstr [112])) (mCons (mC (pstr [100])) mNil))) mNil))) mNil))) (mCons (mN tupF (mCons (mC (pstr [115, 111])) (mCons (mN tupF (mCons (mC (pstr [104, 111, 108, 101])) (mCons (mC (pstr [104])) mNil))) mNil))) mNil))))))) (sSeq (sIf (mOrT (mB (m2 neF (mCall calls "written" 1 (mCons (mVar 5) mNil)) (mVar 4))) (mOrT (mB (m2 neF (mCall calls "read_part" 1 (mCons (mVar 4) mNil)) (mVar 5))) (mB (m2 neF (mCall calls "size_of" 1 (mCons (mVar 5) mNil)) (mC (pint 39)))))) (sSeq (sRet (mC (pbl false))) sNil) sNil) (sSeq (sRet (m2 eqF (mCall calls "written" 1 (mCons (mN tupF (mCons (mC (pstr [101, 108, 101, 109, 101, 110, 116])) (mCons (mN tupF (mCons (mC (pstr [112])) (mCons (mC (pstr [97])) mNil))) (mCons (mN tupF (mCons (mN tupF (mCons (mC (pstr [112])) (mCons (mC (pstr [])) mNil))) mNil)) (mCons (mN tupF mNil) (mCons (mN tupF mNil) mNil)))))) mNil)) (mC (pstr [60, 112, 58, 97, 32, 120, 109, 108, 110, 115, 58, 112, 61, 34, 34, 47, 62])))) sNil)))))))
def e_law : FE := ⟨1, ["script", "state", "last", "turn", "due", "part", "edge", "one"], ["script"], defArgs (top 77), defBody (top 77), defScope (top 77), m_law⟩
def cs0 : List (Str × D) := [("MOST_ELEMENTS", (pint 60)), ("MOST_LEVELS", (pint 8)), ("MOST_LETTERS", (pint 8)), ("MOST_PLAIN", (pint 20)), ("LETTERS", (pstr [97, 98, 99, 100, 101, 102, 103, 104, 105, 106, 107, 108, 109, 110, 111, 112, 113, 114, 115, 116, 117, 118, 119, 120, 121, 122])), ("DIGITS", (pstr [48, 49, 50, 51, 52, 53, 54, 55, 56, 57])), ("ADDRESS_SIGNS", (pstr [97, 98, 99, 100, 101, 102, 103, 104, 105, 106, 107, 108, 109, 110, 111, 112, 113, 114, 115, 116, 117, 118, 119, 120, 121, 122, 48, 49, 50, 51, 52, 53, 54, 55, 56, 57, 46, 47, 58, 45])), ("PLAIN_SIGNS", (pstr [97, 98, 99, 100, 101, 102, 103, 104, 105, 106, 107, 108, 109, 110, 111, 112, 113, 114, 115, 116, 117, 118, 119, 120, 121, 122, 48, 49, 50, 51, 52, 53, 54, 55, 56, 57, 32, 46, 47, 45])), ("BARRED", (pstr [120, 109, 108, 110, 115])), ("ELEMENT", (pstr [101, 108, 101, 109, 101, 110, 116])), ("HOLE", (pstr [104, 111, 108, 101])), ("QUOTE", (pstr [34])), ("MARK", (pstr [64])), ("COLON", (pstr [58])), ("EQUALS", (pstr [61])), ("BLANK", (pstr [32])), ("SLASH", (pstr [47])), ("BEGIN", (pstr [60])), ("END", (pstr [62])), ("OPEN_HOLE", (pstr [123]))]
def cs1 : List (Str × D) := [("SHUT_HOLE", (pstr [125]))]
def cs : List (Str × D) := cs0 ++ cs1
def fs0 : FEs := [("is_of", e_is_of), ("is_prefix", e_is_prefix), ("is_local", e_is_local), ("is_address", e_is_address), ("is_name", e_is_name), ("is_plain", e_is_plain), ("is_word", e_is_word), ("is_pair", e_is_pair), ("are_declarations", e_are_declarations), ("are_attributes", e_are_attributes), ("begins_with", e_begins_with), ("are_children", e_are_children), ("fault_of", e_fault_of), ("need_part", e_need_part), ("child_elements", e_child_elements), ("holes_in", e_holes_in), ("name_text", e_name_text), ("pair_text", e_pair_text), ("element_text", e_element_text), ("written", e_written)]
def fs1 : FEs := [("size_of", e_size_of), ("need_sign", e_need_sign), ("need_word", e_need_word), ("run_end", e_run_end), ("letters_at", e_letters_at), ("word_at", e_word_at), ("name_behind", e_name_behind), ("name_at", e_name_at), ("address_at", e_address_at), ("value_at", e_value_at), ("declaration_at", e_declaration_at), ("head_at", e_head_at), ("child_at", e_child_at), ("element_from", e_element_from), ("read_part", e_read_part), ("_law_mixed", e__law_mixed), ("_law_begin", e__law_begin), ("_law_draw", e__law_draw), ("_law_of", e__law_of), ("_law_prefix", e__law_prefix)]
def fs2 : FEs := [("_law_name", e__law_name), ("_law_declarations", e__law_declarations), ("_law_attributes", e__law_attributes), ("_law_element", e__law_element), ("_law_grown", e__law_grown), ("_law_name_text", e__law_name_text), ("_law_written", e__law_written), ("_law_edge", e__law_edge), ("_law_right", e__law_right), ("law", e_law)]
def fs : FEs := fs0 ++ fs1 ++ fs2
theorem t_is_of (calls : Calls) : trBlk (trS calls 60 (tcOf fs cs e_is_of)) e_is_of.body = m_is_of calls := by kernel_rfl
theorem t_is_prefix (calls : Calls) : trBlk (trS calls 60 (tcOf fs cs e_is_prefix)) e_is_prefix.body = m_is_prefix calls := by kernel_rfl
theorem t_is_local (calls : Calls) : trBlk (trS calls 60 (tcOf fs cs e_is_local)) e_is_local.body = m_is_local calls := by kernel_rfl
theorem t_is_address (calls : Calls) : trBlk (trS calls 60 (tcOf fs cs e_is_address)) e_is_address.body = m_is_address calls := by kernel_rfl
theorem t_is_name (calls : Calls) : trBlk (trS calls 60 (tcOf fs cs e_is_name)) e_is_name.body = m_is_name calls := by kernel_rfl
theorem t_is_plain (calls : Calls) : trBlk (trS calls 60 (tcOf fs cs e_is_plain)) e_is_plain.body = m_is_plain calls := by kernel_rfl
theorem t_is_word (calls : Calls) : trBlk (trS calls 60 (tcOf fs cs e_is_word)) e_is_word.body = m_is_word calls := by kernel_rfl
theorem t_is_pair (calls : Calls) : trBlk (trS calls 60 (tcOf fs cs e_is_pair)) e_is_pair.body = m_is_pair calls := by kernel_rfl
theorem t_are_declarations (calls : Calls) : trBlk (trS calls 60 (tcOf fs cs e_are_declarations)) e_are_declarations.body = m_are_declarations calls := by kernel_rfl
theorem t_are_attributes (calls : Calls) : trBlk (trS calls 60 (tcOf fs cs e_are_attributes)) e_are_attributes.body = m_are_attributes calls := by kernel_rfl
theorem t_begins_with (calls : Calls) : trBlk (trS calls 60 (tcOf fs cs e_begins_with)) e_begins_with.body = m_begins_with calls := by kernel_rfl
theorem t_are_children (calls : Calls) : trBlk (trS calls 60 (tcOf fs cs e_are_children)) e_are_children.body = m_are_children calls := by kernel_rfl
theorem t_fault_of (calls : Calls) : trBlk (trS calls 60 (tcOf fs cs e_fault_of)) e_fault_of.body = m_fault_of calls := by kernel_rfl
theorem t_need_part (calls : Calls) : trBlk (trS calls 60 (tcOf fs cs e_need_part)) e_need_part.body = m_need_part calls := by kernel_rfl
theorem t_child_elements (calls : Calls) : trBlk (trS calls 60 (tcOf fs cs e_child_elements)) e_child_elements.body = m_child_elements calls := by kernel_rfl
theorem t_holes_in (calls : Calls) : trBlk (trS calls 60 (tcOf fs cs e_holes_in)) e_holes_in.body = m_holes_in calls := by kernel_rfl
theorem t_name_text (calls : Calls) : trBlk (trS calls 60 (tcOf fs cs e_name_text)) e_name_text.body = m_name_text calls := by kernel_rfl
theorem t_pair_text (calls : Calls) : trBlk (trS calls 60 (tcOf fs cs e_pair_text)) e_pair_text.body = m_pair_text calls := by kernel_rfl
theorem t_element_text (calls : Calls) : trBlk (trS calls 60 (tcOf fs cs e_element_text)) e_element_text.body = m_element_text calls := by kernel_rfl
theorem t_written (calls : Calls) : trBlk (trS calls 60 (tcOf fs cs e_written)) e_written.body = m_written calls := by kernel_rfl
theorem t_size_of (calls : Calls) : trBlk (trS calls 60 (tcOf fs cs e_size_of)) e_size_of.body = m_size_of calls := by kernel_rfl
theorem t_need_sign (calls : Calls) : trBlk (trS calls 60 (tcOf fs cs e_need_sign)) e_need_sign.body = m_need_sign calls := by kernel_rfl
theorem t_need_word (calls : Calls) : trBlk (trS calls 60 (tcOf fs cs e_need_word)) e_need_word.body = m_need_word calls := by kernel_rfl
theorem t_run_end (calls : Calls) : trBlk (trS calls 60 (tcOf fs cs e_run_end)) e_run_end.body = m_run_end calls := by kernel_rfl
theorem t_letters_at (calls : Calls) : trBlk (trS calls 60 (tcOf fs cs e_letters_at)) e_letters_at.body = m_letters_at calls := by kernel_rfl
theorem t_word_at (calls : Calls) : trBlk (trS calls 60 (tcOf fs cs e_word_at)) e_word_at.body = m_word_at calls := by kernel_rfl
theorem t_name_behind (calls : Calls) : trBlk (trS calls 60 (tcOf fs cs e_name_behind)) e_name_behind.body = m_name_behind calls := by kernel_rfl
theorem t_name_at (calls : Calls) : trBlk (trS calls 60 (tcOf fs cs e_name_at)) e_name_at.body = m_name_at calls := by kernel_rfl
theorem t_address_at (calls : Calls) : trBlk (trS calls 60 (tcOf fs cs e_address_at)) e_address_at.body = m_address_at calls := by kernel_rfl
theorem t_value_at (calls : Calls) : trBlk (trS calls 60 (tcOf fs cs e_value_at)) e_value_at.body = m_value_at calls := by kernel_rfl
theorem t_declaration_at (calls : Calls) : trBlk (trS calls 60 (tcOf fs cs e_declaration_at)) e_declaration_at.body = m_declaration_at calls := by kernel_rfl
theorem t_head_at (calls : Calls) : trBlk (trS calls 60 (tcOf fs cs e_head_at)) e_head_at.body = m_head_at calls := by kernel_rfl
theorem t_child_at (calls : Calls) : trBlk (trS calls 60 (tcOf fs cs e_child_at)) e_child_at.body = m_child_at calls := by kernel_rfl
theorem t_element_from (calls : Calls) : trBlk (trS calls 60 (tcOf fs cs e_element_from)) e_element_from.body = m_element_from calls := by kernel_rfl
theorem t_read_part (calls : Calls) : trBlk (trS calls 60 (tcOf fs cs e_read_part)) e_read_part.body = m_read_part calls := by kernel_rfl
theorem t__law_mixed (calls : Calls) : trBlk (trS calls 60 (tcOf fs cs e__law_mixed)) e__law_mixed.body = m__law_mixed calls := by kernel_rfl
theorem t__law_begin (calls : Calls) : trBlk (trS calls 60 (tcOf fs cs e__law_begin)) e__law_begin.body = m__law_begin calls := by kernel_rfl
theorem t__law_draw (calls : Calls) : trBlk (trS calls 60 (tcOf fs cs e__law_draw)) e__law_draw.body = m__law_draw calls := by kernel_rfl
theorem t__law_of (calls : Calls) : trBlk (trS calls 60 (tcOf fs cs e__law_of)) e__law_of.body = m__law_of calls := by kernel_rfl
theorem t__law_prefix (calls : Calls) : trBlk (trS calls 60 (tcOf fs cs e__law_prefix)) e__law_prefix.body = m__law_prefix calls := by kernel_rfl
theorem t__law_name (calls : Calls) : trBlk (trS calls 60 (tcOf fs cs e__law_name)) e__law_name.body = m__law_name calls := by kernel_rfl
theorem t__law_declarations (calls : Calls) : trBlk (trS calls 60 (tcOf fs cs e__law_declarations)) e__law_declarations.body = m__law_declarations calls := by kernel_rfl
theorem t__law_attributes (calls : Calls) : trBlk (trS calls 60 (tcOf fs cs e__law_attributes)) e__law_attributes.body = m__law_attributes calls := by kernel_rfl
theorem t__law_element (calls : Calls) : trBlk (trS calls 60 (tcOf fs cs e__law_element)) e__law_element.body = m__law_element calls := by kernel_rfl
theorem t__law_grown (calls : Calls) : trBlk (trS calls 60 (tcOf fs cs e__law_grown)) e__law_grown.body = m__law_grown calls := by kernel_rfl
theorem t__law_name_text (calls : Calls) : trBlk (trS calls 60 (tcOf fs cs e__law_name_text)) e__law_name_text.body = m__law_name_text calls := by kernel_rfl
theorem t__law_written (calls : Calls) : trBlk (trS calls 60 (tcOf fs cs e__law_written)) e__law_written.body = m__law_written calls := by kernel_rfl
theorem t__law_edge (calls : Calls) : trBlk (trS calls 60 (tcOf fs cs e__law_edge)) e__law_edge.body = m__law_edge calls := by kernel_rfl
theorem t__law_right (calls : Calls) : trBlk (trS calls 60 (tcOf fs cs e__law_right)) e__law_right.body = m__law_right calls := by kernel_rfl
theorem t_law (calls : Calls) : trBlk (trS calls 60 (tcOf fs cs e_law)) e_law.body = m_law calls := by kernel_rfl
end MiLaw
end Runs
set_option Elab.async false
set_option linter.all false
set_option maxRecDepth 100000
set_option maxHeartbeats 0
/-! what is seen of the defs of one law: printed by gen_join.py -/
namespace MiLaw
open PySem PySem.Spec PyProof.Rows L2 Mi
theorem x_is_of : TextOk fs cs "is_of" e_is_of := ⟨⟨rfl, rfl, rfl, by decide +kernel, rfl, by decide +kernel, by decide +kernel⟩, rfl, t_is_of⟩
theorem b_is_of : BindOk "is_of" e_is_of := fun _ _ _ _ _ _ us hl => match us, hl with | [_, _, _, _], _ => rfl
theorem x_is_prefix : TextOk fs cs "is_prefix" e_is_prefix := ⟨⟨rfl, rfl, rfl, by decide +kernel, rfl, by decide +kernel, by decide +kernel⟩, rfl, t_is_prefix⟩
theorem b_is_prefix : BindOk "is_prefix" e_is_prefix := fun _ _ _ _ _ _ us hl => match us, hl with | [_], _ => rfl
theorem x_is_local : TextOk fs cs "is_local" e_is_local := ⟨⟨rfl, rfl, rfl, by decide +kernel, rfl, by decide +kernel, by decide +kernel⟩, rfl, t_is_local⟩
theorem b_is_local : BindOk "is_local" e_is_local := fun _ _ _ _ _ _ us hl => match us, hl with | [_], _ => rfl
theorem x_is_address : TextOk fs cs "is_address" e_is_address := ⟨⟨rfl, rfl, rfl, by decide +kernel, rfl, by decide +kernel, by decide +kernel⟩, rfl, t_is_address⟩
theorem b_is_address : BindOk "is_address" e_is_address := fun _ _ _ _ _ _ us hl => match us, hl with | [_], _ => rfl
theorem x_is_name : TextOk fs cs "is_name" e_is_name := ⟨⟨rfl, rfl, rfl, by decide +kernel, rfl, by decide +kernel, by decide +kernel⟩, rfl, t_is_name⟩
theorem b_is_name : BindOk "is_name" e_is_name := fun _ _ _ _ _ _ us hl => match us, hl with | [_], _ => rfl
theorem x_is_plain : TextOk fs cs "is_plain" e_is_plain := ⟨⟨rfl, rfl, rfl, by decide +kernel, rfl, by decide +kernel, by decide +kernel⟩, rfl, t_is_plain⟩
theorem b_is_plain : BindOk "is_plain" e_is_plain := fun _ _ _ _ _ _ us hl => match us, hl with | [_], _ => rfl
theorem x_is_word : TextOk fs cs "is_word" e_is_word := ⟨⟨rfl, rfl, rfl, by decide +kernel, rfl, by decide +kernel, by decide +kernel⟩, rfl, t_is_word⟩
theorem b_is_word : BindOk "is_word" e_is_word := fun _ _ _ _ _ _ us hl => match us, hl with | [_], _ => rfl
theorem x_is_pair : TextOk fs cs "is_pair" e_is_pair := ⟨⟨rfl, rfl, rfl, by decide +kernel, rfl, by decide +kernel, by decide +kernel⟩, rfl, t_is_pair⟩
theorem b_is_pair : BindOk "is_pair" e_is_pair := fun _ _ _ _ _ _ us hl => match us, hl with | [_], _ => rfl
theorem x_are_declarations : TextOk fs cs "are_declarations" e_are_declarations := ⟨⟨rfl, rfl, rfl, by decide +kernel, rfl, by decide +kernel, by decide +kernel⟩, rfl, t_are_declarations⟩
theorem b_are_declarations : BindOk "are_declarations" e_are_declarations := fun _ _ _ _ _ _ us hl => match us, hl with | [_], _ => rfl
theorem x_are_attributes : TextOk fs cs "are_attributes" e_are_attributes := ⟨⟨rfl, rfl, rfl, by decide +kernel, rfl, by decide +kernel, by decide +kernel⟩, rfl, t_are_attributes⟩
theorem b_are_attributes : BindOk "are_attributes" e_are_attributes := fun _ _ _ _ _ _ us hl => match us, hl with | [_], _ => rfl
theorem x_begins_with : TextOk fs cs "begins_with" e_begins_with := ⟨⟨rfl, rfl, rfl, by decide +kernel, rfl, by decide +kernel, by decide +kernel⟩, rfl, t_begins_with⟩
theorem b_begins_with : BindOk "begins_with" e_begins_with := fun _ _ _ _ _ _ us hl => match us, hl with | [_, _], _ => rfl
theorem x_are_children : TextOk fs cs "are_children" e_are_children := ⟨⟨rfl, rfl, rfl, by decide +kernel, rfl, by decide +kernel, by decide +kernel⟩, rfl, t_are_children⟩
theorem b_are_children : BindOk "are_children" e_are_children := fun _ _ _ _ _ _ us hl => match us, hl with | [_], _ => rfl
theorem x_fault_of : TextOk fs cs "fault_of" e_fault_of := ⟨⟨rfl, rfl, rfl, by decide +kernel, rfl, by decide +kernel, by decide +kernel⟩, rfl, t_fault_of⟩
theorem b_fault_of : BindOk "fault_of" e_fault_of := fun _ _ _ _ _ _ us hl => match us, hl with | [_], _ => rfl
theorem x_need_part : TextOk fs cs "need_part" e_need_part := ⟨⟨rfl, rfl, rfl, by decide +kernel, rfl, by decide +kernel, by decide +kernel⟩, rfl, t_need_part⟩
theorem b_need_part : BindOk "need_part" e_need_part := fun _ _ _ _ _ _ us hl => match us, hl with | [_], _ => rfl
theorem x_child_elements : TextOk fs cs "child_elements" e_child_elements := ⟨⟨rfl, rfl, rfl, by decide +kernel, rfl, by decide +kernel, by decide +kernel⟩, rfl, t_child_elements⟩
theorem b_child_elements : BindOk "child_elements" e_child_elements := fun _ _ _ _ _ _ us hl => match us, hl with | [_], _ => rfl
theorem x_holes_in : TextOk fs cs "holes_in" e_holes_in := ⟨⟨rfl, rfl, rfl, by decide +kernel, rfl, by decide +kernel, by decide +kernel⟩, rfl, t_holes_in⟩
theorem b_holes_in : BindOk "holes_in" e_holes_in := fun _ _ _ _ _ _ us hl => match us, hl with | [_], _ => rfl
theorem x_name_text : TextOk fs cs "name_text" e_name_text := ⟨⟨rfl, rfl, rfl, by decide +kernel, rfl, by decide +kernel, by decide +kernel⟩, rfl, t_name_text⟩
theorem b_name_text : BindOk "name_text" e_name_text := fun _ _ _ _ _ _ us hl => match us, hl with | [_], _ => rfl
theorem x_pair_text : TextOk fs cs "pair_text" e_pair_text := ⟨⟨rfl, rfl, rfl, by decide +kernel, rfl, by decide +kernel, by decide +kernel⟩, rfl, t_pair_text⟩
theorem b_pair_text : BindOk "pair_text" e_pair_text := fun _ _ _ _ _ _ us hl => match us, hl with | [_, _], _ => rfl
theorem x_element_text : TextOk fs cs "element_text" e_element_text := ⟨⟨rfl, rfl, rfl, by decide +kernel, rfl, by decide +kernel, by decide +kernel⟩, rfl, t_element_text⟩
theorem b_element_text : BindOk "element_text" e_element_text := fun _ _ _ _ _ _ us hl => match us, hl with | [_], _ => rfl
theorem x_written : TextOk fs cs "written" e_written := ⟨⟨rfl, rfl, rfl, by decide +kernel, rfl, by decide +kernel, by decide +kernel⟩, rfl, t_written⟩
theorem b_written : BindOk "written" e_written := fun _ _ _ _ _ _ us hl => match us, hl with | [_], _ => rfl
theorem x_size_of : TextOk fs cs "size_of" e_size_of := ⟨⟨rfl, rfl, rfl, by decide +kernel, rfl, by decide +kernel, by decide +kernel⟩, rfl, t_size_of⟩
theorem b_size_of : BindOk "size_of" e_size_of := fun _ _ _ _ _ _ us hl => match us, hl with | [_], _ => rfl
theorem x_need_sign : TextOk fs cs "need_sign" e_need_sign := ⟨⟨rfl, rfl, rfl, by decide +kernel, rfl, by decide +kernel, by decide +kernel⟩, rfl, t_need_sign⟩
theorem b_need_sign : BindOk "need_sign" e_need_sign := fun _ _ _ _ _ _ us hl => match us, hl with | [_, _, _], _ => rfl
theorem x_need_word : TextOk fs cs "need_word" e_need_word := ⟨⟨rfl, rfl, rfl, by decide +kernel, rfl, by decide +kernel, by decide +kernel⟩, rfl, t_need_word⟩
theorem b_need_word : BindOk "need_word" e_need_word := fun _ _ _ _ _ _ us hl => match us, hl with | [_, _, _], _ => rfl
theorem x_run_end : TextOk fs cs "run_end" e_run_end := ⟨⟨rfl, rfl, rfl, by decide +kernel, rfl, by decide +kernel, by decide +kernel⟩, rfl, t_run_end⟩
theorem b_run_end : BindOk "run_end" e_run_end := fun _ _ _ _ _ _ us hl => match us, hl with | [_, _, _], _ => rfl
theorem x_letters_at : TextOk fs cs "letters_at" e_letters_at := ⟨⟨rfl, rfl, rfl, by decide +kernel, rfl, by decide +kernel, by decide +kernel⟩, rfl, t_letters_at⟩
theorem b_letters_at : BindOk "letters_at" e_letters_at := fun _ _ _ _ _ _ us hl => match us, hl with | [_, _], _ => rfl
theorem x_word_at : TextOk fs cs "word_at" e_word_at := ⟨⟨rfl, rfl, rfl, by decide +kernel, rfl, by decide +kernel, by decide +kernel⟩, rfl, t_word_at⟩
theorem b_word_at : BindOk "word_at" e_word_at := fun _ _ _ _ _ _ us hl => match us, hl with | [_, _], _ => rfl
theorem x_name_behind : TextOk fs cs "name_behind" e_name_behind := ⟨⟨rfl, rfl, rfl, by decide +kernel, rfl, by decide +kernel, by decide +kernel⟩, rfl, t_name_behind⟩
theorem b_name_behind : BindOk "name_behind" e_name_behind := fun _ _ _ _ _ _ us hl => match us, hl with | [_, _, _], _ => rfl
theorem x_name_at : TextOk fs cs "name_at" e_name_at := ⟨⟨rfl, rfl, rfl, by decide +kernel, rfl, by decide +kernel, by decide +kernel⟩, rfl, t_name_at⟩
theorem b_name_at : BindOk "name_at" e_name_at := fun _ _ _ _ _ _ us hl => match us, hl with | [_, _], _ => rfl
theorem x_address_at : TextOk fs cs "address_at" e_address_at := ⟨⟨rfl, rfl, rfl, by decide +kernel, rfl, by decide +kernel, by decide +kernel⟩, rfl, t_address_at⟩
theorem b_address_at : BindOk "address_at" e_address_at := fun _ _ _ _ _ _ us hl => match us, hl with | [_, _], _ => rfl
theorem x_value_at : TextOk fs cs "value_at" e_value_at := ⟨⟨rfl, rfl, rfl, by decide +kernel, rfl, by decide +kernel, by decide +kernel⟩, rfl, t_value_at⟩
theorem b_value_at : BindOk "value_at" e_value_at := fun _ _ _ _ _ _ us hl => match us, hl with | [_, _], _ => rfl
theorem x_declaration_at : TextOk fs cs "declaration_at" e_declaration_at := ⟨⟨rfl, rfl, rfl, by decide +kernel, rfl, by decide +kernel, by decide +kernel⟩, rfl, t_declaration_at⟩
theorem b_declaration_at : BindOk "declaration_at" e_declaration_at := fun _ _ _ _ _ _ us hl => match us, hl with | [_, _], _ => rfl
theorem x_head_at : TextOk fs cs "head_at" e_head_at := ⟨⟨rfl, rfl, rfl, by decide +kernel, rfl, by decide +kernel, by decide +kernel⟩, rfl, t_head_at⟩
theorem b_head_at : BindOk "head_at" e_head_at := fun _ _ _ _ _ _ us hl => match us, hl with | [_, _], _ => rfl
theorem x_child_at : TextOk fs cs "child_at" e_child_at := ⟨⟨rfl, rfl, rfl, by decide +kernel, rfl, by decide +kernel, by decide +kernel⟩, rfl, t_child_at⟩
theorem b_child_at : BindOk "child_at" e_child_at := fun _ _ _ _ _ _ us hl => match us, hl with | [_, _], _ => rfl
theorem x_element_from : TextOk fs cs "element_from" e_element_from := ⟨⟨rfl, rfl, rfl, by decide +kernel, rfl, by decide +kernel, by decide +kernel⟩, rfl, t_element_from⟩
theorem b_element_from : BindOk "element_from" e_element_from := fun _ _ _ _ _ _ us hl => match us, hl with | [_, _], _ => rfl
theorem x_read_part : TextOk fs cs "read_part" e_read_part := ⟨⟨rfl, rfl, rfl, by decide +kernel, rfl, by decide +kernel, by decide +kernel⟩, rfl, t_read_part⟩
theorem b_read_part : BindOk "read_part" e_read_part := fun _ _ _ _ _ _ us hl => match us, hl with | [_], _ => rfl
theorem x__law_mixed : TextOk fs cs "_law_mixed" e__law_mixed := ⟨⟨rfl, rfl, rfl, by decide +kernel, rfl, by decide +kernel, by decide +kernel⟩, rfl, t__law_mixed⟩
theorem b__law_mixed : BindOk "_law_mixed" e__law_mixed := fun _ _ _ _ _ _ us hl => match us, hl with | [_, _], _ => rfl
theorem x__law_begin : TextOk fs cs "_law_begin" e__law_begin := ⟨⟨rfl, rfl, rfl, by decide +kernel, rfl, by decide +kernel, by decide +kernel⟩, rfl, t__law_begin⟩
theorem b__law_begin : BindOk "_law_begin" e__law_begin := fun _ _ _ _ _ _ us hl => match us, hl with | [_], _ => rfl
theorem x__law_draw : TextOk fs cs "_law_draw" e__law_draw := ⟨⟨rfl, rfl, rfl, by decide +kernel, rfl, by decide +kernel, by decide +kernel⟩, rfl, t__law_draw⟩
theorem b__law_draw : BindOk "_law_draw" e__law_draw := fun _ _ _ _ _ _ us hl => match us, hl with | [_, _], _ => rfl
theorem x__law_of : TextOk fs cs "_law_of" e__law_of := ⟨⟨rfl, rfl, rfl, by decide +kernel, rfl, by decide +kernel, by decide +kernel⟩, rfl, t__law_of⟩
theorem b__law_of : BindOk "_law_of" e__law_of := fun _ _ _ _ _ _ us hl => match us, hl with | [_, _], _ => rfl
theorem x__law_prefix : TextOk fs cs "_law_prefix" e__law_prefix := ⟨⟨rfl, rfl, rfl, by decide +kernel, rfl, by decide +kernel, by decide +kernel⟩, rfl, t__law_prefix⟩
theorem b__law_prefix : BindOk "_law_prefix" e__law_prefix := fun _ _ _ _ _ _ us hl => match us, hl with | [_], _ => rfl
theorem x__law_name : TextOk fs cs "_law_name" e__law_name := ⟨⟨rfl, rfl, rfl, by decide +kernel, rfl, by decide +kernel, by decide +kernel⟩, rfl, t__law_name⟩
theorem b__law_name : BindOk "_law_name" e__law_name := fun _ _ _ _ _ _ us hl => match us, hl with | [_], _ => rfl
theorem x__law_declarations : TextOk fs cs "_law_declarations" e__law_declarations := ⟨⟨rfl, rfl, rfl, by decide +kernel, rfl, by decide +kernel, by decide +kernel⟩, rfl, t__law_declarations⟩
theorem b__law_declarations : BindOk "_law_declarations" e__law_declarations := fun _ _ _ _ _ _ us hl => match us, hl with | [_, _], _ => rfl
theorem x__law_attributes : TextOk fs cs "_law_attributes" e__law_attributes := ⟨⟨rfl, rfl, rfl, by decide +kernel, rfl, by decide +kernel, by decide +kernel⟩, rfl, t__law_attributes⟩
theorem b__law_attributes : BindOk "_law_attributes" e__law_attributes := fun _ _ _ _ _ _ us hl => match us, hl with | [_, _], _ => rfl
theorem x__law_element : TextOk fs cs "_law_element" e__law_element := ⟨⟨rfl, rfl, rfl, by decide +kernel, rfl, by decide +kernel, by decide +kernel⟩, rfl, t__law_element⟩
theorem b__law_element : BindOk "_law_element" e__law_element := fun _ _ _ _ _ _ us hl => match us, hl with | [_, _, _, _], _ => rfl
theorem x__law_grown : TextOk fs cs "_law_grown" e__law_grown := ⟨⟨rfl, rfl, rfl, by decide +kernel, rfl, by decide +kernel, by decide +kernel⟩, rfl, t__law_grown⟩
theorem b__law_grown : BindOk "_law_grown" e__law_grown := fun _ _ _ _ _ _ us hl => match us, hl with | [_], _ => rfl
theorem x__law_name_text : TextOk fs cs "_law_name_text" e__law_name_text := ⟨⟨rfl, rfl, rfl, by decide +kernel, rfl, by decide +kernel, by decide +kernel⟩, rfl, t__law_name_text⟩
theorem b__law_name_text : BindOk "_law_name_text" e__law_name_text := fun _ _ _ _ _ _ us hl => match us, hl with | [_], _ => rfl
theorem x__law_written : TextOk fs cs "_law_written" e__law_written := ⟨⟨rfl, rfl, rfl, by decide +kernel, rfl, by decide +kernel, by decide +kernel⟩, rfl, t__law_written⟩
theorem b__law_written : BindOk "_law_written" e__law_written := fun _ _ _ _ _ _ us hl => match us, hl with | [_], _ => rfl
theorem x__law_edge : TextOk fs cs "_law_edge" e__law_edge := ⟨⟨rfl, rfl, rfl, by decide +kernel, rfl, by decide +kernel, by decide +kernel⟩, rfl, t__law_edge⟩
theorem b__law_edge : BindOk "_law_edge" e__law_edge := fun _ _ _ _ _ _ us hl => match us, hl with | [_], _ => rfl
theorem x__law_right : TextOk fs cs "_law_right" e__law_right := ⟨⟨rfl, rfl, rfl, by decide +kernel, rfl, by decide +kernel, by decide +kernel⟩, rfl, t__law_right⟩
theorem b__law_right : BindOk "_law_right" e__law_right := fun _ _ _ _ _ _ us hl => match us, hl with | [_], _ => rfl
theorem x_law : TextOk fs cs "law" e_law := ⟨⟨rfl, rfl, rfl, by decide +kernel, rfl, by decide +kernel, by decide +kernel⟩, rfl, t_law⟩
theorem b_law : BindOk "law" e_law := fun _ _ _ _ _ _ us hl => match us, hl with | [_], _ => rfl
theorem each_x0 : Each (TextOk fs cs) fs0 := ⟨x_is_of, x_is_prefix, x_is_local, x_is_address, x_is_name, x_is_plain, x_is_word, x_is_pair, x_are_declarations, x_are_attributes, x_begins_with, x_are_children, x_fault_of, x_need_part, x_child_elements, x_holes_in, x_name_text, x_pair_text, x_element_text, x_written, trivial⟩
theorem each_x1 : Each (TextOk fs cs) fs1 := ⟨x_size_of, x_need_sign, x_need_word, x_run_end, x_letters_at, x_word_at, x_name_behind, x_name_at, x_address_at, x_value_at, x_declaration_at, x_head_at, x_child_at, x_element_from, x_read_part, x__law_mixed, x__law_begin, x__law_draw, x__law_of, x__law_prefix, trivial⟩
theorem each_x2 : Each (TextOk fs cs) fs2 := ⟨x__law_name, x__law_declarations, x__law_attributes, x__law_element, x__law_grown, x__law_name_text, x__law_written, x__law_edge, x__law_right, x_law, trivial⟩
theorem each_x : Each (TextOk fs cs) fs := ((each_x0).append each_x1).append each_x2
theorem each_b0 : Each (BindOk) fs0 := ⟨b_is_of, b_is_prefix, b_is_local, b_is_address, b_is_name, b_is_plain, b_is_word, b_is_pair, b_are_declarations, b_are_attributes, b_begins_with, b_are_children, b_fault_of, b_need_part, b_child_elements, b_holes_in, b_name_text, b_pair_text, b_element_text, b_written, trivial⟩
theorem each_b1 : Each (BindOk) fs1 := ⟨b_size_of, b_need_sign, b_need_word, b_run_end, b_letters_at, b_word_at, b_name_behind, b_name_at, b_address_at, b_value_at, b_declaration_at, b_head_at, b_child_at, b_element_from, b_read_part, b__law_mixed, b__law_begin, b__law_draw, b__law_of, b__law_prefix, trivial⟩
theorem each_b2 : Each (BindOk) fs2 := ⟨b__law_name, b__law_declarations, b__law_attributes, b__law_element, b__law_grown, b__law_name_text, b__law_written, b__law_edge, b__law_right, b_law, trivial⟩
theorem each_b : Each (BindOk) fs := ((each_b0).append each_b1).append each_b2
theorem fa_eq : fa = faOf fs cs := by kernel_rfl
theorem fn_eq : fn = fs.map dfn := by kernel_rfl
theorem holds_of (run : ∀ ns : List Int, ns.length ≤ 63 → ∃ S', runs fs 200 ("law" : Str) [.ref 0] (S0 ns) = .ok (pbl true) S') : PySem.Challenge.rw_prefixgraft_k04_whole_written_forms_ther.Holds := by
  w_on; o_law
  refine HandSHeadRun.head_any (r := R) (q := PySem.W.view R.prog [77]) (H := hk) (ob := ob) (M := 8000) (loose := loose) (d := HandSHeadRun.topDef R.prog 77) (kwd := []) ob_eq (by kernel_rfl) (fun s => by kernel_rfl) MiLaw.run (by kernel_rfl) (by kernel_rfl) (by kernel_rfl) (by rfl) (by first | assumption | decide +kernel) (by decide +kernel) ⟨rfl, rfl, rfl, rfl, rfl, by decide +kernel⟩ ?hw ?hc
  case hw => w_witness2
  case hc =>
    show PySem.W.WalkO _ _ _ (hookN 4 fa fn).says _ _ _ _
    rw [fa_eq, fn_eq]
    exact law_of_run (l := PySem.Challenge.rw_prefixgraft_k04_whole_written_forms_ther) (k := 200) (e := e_law) rfl (by kernel_rfl) ⟨rfl, by decide, by decide⟩ (by kernel_rfl) (by kernel_rfl) rfl rfl (by decide +kernel) each_b each_x run
end MiLaw
set_option Elab.async false
set_option linter.all false
set_option maxRecDepth 100000
set_option maxHeartbeats 0
/-! where the defs of one law stand: printed by gen_lk.py -/
namespace MiLaw
open PySem Mi
theorem lk_is_of : fs.lookup ("is_of" : Str) = some e_is_of := by kernel_rfl
theorem run_is_of {n : Nat} (hn : 1 ≤ n) (ds : List D) (S : Sto) : runs fs n "is_of" ds S = callBody 5 (m_is_of (runs fs (n - 1))) ds S := runs_n lk_is_of hn ds S
theorem lk_is_prefix : fs.lookup ("is_prefix" : Str) = some e_is_prefix := by kernel_rfl
theorem run_is_prefix {n : Nat} (hn : 1 ≤ n) (ds : List D) (S : Sto) : runs fs n "is_prefix" ds S = callBody 1 (m_is_prefix (runs fs (n - 1))) ds S := runs_n lk_is_prefix hn ds S
theorem lk_is_local : fs.lookup ("is_local" : Str) = some e_is_local := by kernel_rfl
theorem run_is_local {n : Nat} (hn : 1 ≤ n) (ds : List D) (S : Sto) : runs fs n "is_local" ds S = callBody 1 (m_is_local (runs fs (n - 1))) ds S := runs_n lk_is_local hn ds S
theorem lk_is_address : fs.lookup ("is_address" : Str) = some e_is_address := by kernel_rfl
theorem run_is_address {n : Nat} (hn : 1 ≤ n) (ds : List D) (S : Sto) : runs fs n "is_address" ds S = callBody 1 (m_is_address (runs fs (n - 1))) ds S := runs_n lk_is_address hn ds S
theorem lk_is_name : fs.lookup ("is_name" : Str) = some e_is_name := by kernel_rfl
theorem run_is_name {n : Nat} (hn : 1 ≤ n) (ds : List D) (S : Sto) : runs fs n "is_name" ds S = callBody 1 (m_is_name (runs fs (n - 1))) ds S := runs_n lk_is_name hn ds S
theorem lk_is_plain : fs.lookup ("is_plain" : Str) = some e_is_plain := by kernel_rfl
theorem run_is_plain {n : Nat} (hn : 1 ≤ n) (ds : List D) (S : Sto) : runs fs n "is_plain" ds S = callBody 1 (m_is_plain (runs fs (n - 1))) ds S := runs_n lk_is_plain hn ds S
theorem lk_is_word : fs.lookup ("is_word" : Str) = some e_is_word := by kernel_rfl
theorem run_is_word {n : Nat} (hn : 1 ≤ n) (ds : List D) (S : Sto) : runs fs n "is_word" ds S = callBody 1 (m_is_word (runs fs (n - 1))) ds S := runs_n lk_is_word hn ds S
theorem lk_is_pair : fs.lookup ("is_pair" : Str) = some e_is_pair := by kernel_rfl
theorem run_is_pair {n : Nat} (hn : 1 ≤ n) (ds : List D) (S : Sto) : runs fs n "is_pair" ds S = callBody 1 (m_is_pair (runs fs (n - 1))) ds S := runs_n lk_is_pair hn ds S
theorem lk_are_declarations : fs.lookup ("are_declarations" : Str) = some e_are_declarations := by kernel_rfl
theorem run_are_declarations {n : Nat} (hn : 1 ≤ n) (ds : List D) (S : Sto) : runs fs n "are_declarations" ds S = callBody 3 (m_are_declarations (runs fs (n - 1))) ds S := runs_n lk_are_declarations hn ds S
theorem lk_are_attributes : fs.lookup ("are_attributes" : Str) = some e_are_attributes := by kernel_rfl
theorem run_are_attributes {n : Nat} (hn : 1 ≤ n) (ds : List D) (S : Sto) : runs fs n "are_attributes" ds S = callBody 3 (m_are_attributes (runs fs (n - 1))) ds S := runs_n lk_are_attributes hn ds S
theorem lk_begins_with : fs.lookup ("begins_with" : Str) = some e_begins_with := by kernel_rfl
theorem run_begins_with {n : Nat} (hn : 1 ≤ n) (ds : List D) (S : Sto) : runs fs n "begins_with" ds S = callBody 2 (m_begins_with (runs fs (n - 1))) ds S := runs_n lk_begins_with hn ds S
theorem lk_are_children : fs.lookup ("are_children" : Str) = some e_are_children := by kernel_rfl
theorem run_are_children {n : Nat} (hn : 1 ≤ n) (ds : List D) (S : Sto) : runs fs n "are_children" ds S = callBody 4 (m_are_children (runs fs (n - 1))) ds S := runs_n lk_are_children hn ds S
theorem lk_fault_of : fs.lookup ("fault_of" : Str) = some e_fault_of := by kernel_rfl
theorem run_fault_of {n : Nat} (hn : 1 ≤ n) (ds : List D) (S : Sto) : runs fs n "fault_of" ds S = callBody 1 (m_fault_of (runs fs (n - 1))) ds S := runs_n lk_fault_of hn ds S
theorem lk_need_part : fs.lookup ("need_part" : Str) = some e_need_part := by kernel_rfl
theorem run_need_part {n : Nat} (hn : 1 ≤ n) (ds : List D) (S : Sto) : runs fs n "need_part" ds S = callBody 11 (m_need_part (runs fs (n - 1))) ds S := runs_n lk_need_part hn ds S
theorem lk_child_elements : fs.lookup ("child_elements" : Str) = some e_child_elements := by kernel_rfl
theorem run_child_elements {n : Nat} (hn : 1 ≤ n) (ds : List D) (S : Sto) : runs fs n "child_elements" ds S = callBody 3 (m_child_elements (runs fs (n - 1))) ds S := runs_n lk_child_elements hn ds S
theorem lk_holes_in : fs.lookup ("holes_in" : Str) = some e_holes_in := by kernel_rfl
theorem run_holes_in {n : Nat} (hn : 1 ≤ n) (ds : List D) (S : Sto) : runs fs n "holes_in" ds S = callBody 2 (m_holes_in (runs fs (n - 1))) ds S := runs_n lk_holes_in hn ds S
theorem lk_name_text : fs.lookup ("name_text" : Str) = some e_name_text := by kernel_rfl
theorem run_name_text {n : Nat} (hn : 1 ≤ n) (ds : List D) (S : Sto) : runs fs n "name_text" ds S = callBody 1 (m_name_text (runs fs (n - 1))) ds S := runs_n lk_name_text hn ds S
theorem lk_pair_text : fs.lookup ("pair_text" : Str) = some e_pair_text := by kernel_rfl
theorem run_pair_text {n : Nat} (hn : 1 ≤ n) (ds : List D) (S : Sto) : runs fs n "pair_text" ds S = callBody 2 (m_pair_text (runs fs (n - 1))) ds S := runs_n lk_pair_text hn ds S
theorem lk_element_text : fs.lookup ("element_text" : Str) = some e_element_text := by kernel_rfl
theorem run_element_text {n : Nat} (hn : 1 ≤ n) (ds : List D) (S : Sto) : runs fs n "element_text" ds S = callBody 8 (m_element_text (runs fs (n - 1))) ds S := runs_n lk_element_text hn ds S
theorem lk_written : fs.lookup ("written" : Str) = some e_written := by kernel_rfl
theorem run_written {n : Nat} (hn : 1 ≤ n) (ds : List D) (S : Sto) : runs fs n "written" ds S = callBody 1 (m_written (runs fs (n - 1))) ds S := runs_n lk_written hn ds S
theorem lk_size_of : fs.lookup ("size_of" : Str) = some e_size_of := by kernel_rfl
theorem run_size_of {n : Nat} (hn : 1 ≤ n) (ds : List D) (S : Sto) : runs fs n "size_of" ds S = callBody 1 (m_size_of (runs fs (n - 1))) ds S := runs_n lk_size_of hn ds S
theorem lk_need_sign : fs.lookup ("need_sign" : Str) = some e_need_sign := by kernel_rfl
theorem run_need_sign {n : Nat} (hn : 1 ≤ n) (ds : List D) (S : Sto) : runs fs n "need_sign" ds S = callBody 3 (m_need_sign (runs fs (n - 1))) ds S := runs_n lk_need_sign hn ds S
theorem lk_need_word : fs.lookup ("need_word" : Str) = some e_need_word := by kernel_rfl
theorem run_need_word {n : Nat} (hn : 1 ≤ n) (ds : List D) (S : Sto) : runs fs n "need_word" ds S = callBody 5 (m_need_word (runs fs (n - 1))) ds S := runs_n lk_need_word hn ds S
theorem lk_run_end : fs.lookup ("run_end" : Str) = some e_run_end := by kernel_rfl
theorem run_run_end {n : Nat} (hn : 1 ≤ n) (ds : List D) (S : Sto) : runs fs n "run_end" ds S = callBody 3 (m_run_end (runs fs (n - 1))) ds S := runs_n lk_run_end hn ds S
theorem lk_letters_at : fs.lookup ("letters_at" : Str) = some e_letters_at := by kernel_rfl
theorem run_letters_at {n : Nat} (hn : 1 ≤ n) (ds : List D) (S : Sto) : runs fs n "letters_at" ds S = callBody 3 (m_letters_at (runs fs (n - 1))) ds S := runs_n lk_letters_at hn ds S
theorem lk_word_at : fs.lookup ("word_at" : Str) = some e_word_at := by kernel_rfl
theorem run_word_at {n : Nat} (hn : 1 ≤ n) (ds : List D) (S : Sto) : runs fs n "word_at" ds S = callBody 4 (m_word_at (runs fs (n - 1))) ds S := runs_n lk_word_at hn ds S
theorem lk_name_behind : fs.lookup ("name_behind" : Str) = some e_name_behind := by kernel_rfl
theorem run_name_behind {n : Nat} (hn : 1 ≤ n) (ds : List D) (S : Sto) : runs fs n "name_behind" ds S = callBody 5 (m_name_behind (runs fs (n - 1))) ds S := runs_n lk_name_behind hn ds S
theorem lk_name_at : fs.lookup ("name_at" : Str) = some e_name_at := by kernel_rfl
theorem run_name_at {n : Nat} (hn : 1 ≤ n) (ds : List D) (S : Sto) : runs fs n "name_at" ds S = callBody 4 (m_name_at (runs fs (n - 1))) ds S := runs_n lk_name_at hn ds S
theorem lk_address_at : fs.lookup ("address_at" : Str) = some e_address_at := by kernel_rfl
theorem run_address_at {n : Nat} (hn : 1 ≤ n) (ds : List D) (S : Sto) : runs fs n "address_at" ds S = callBody 4 (m_address_at (runs fs (n - 1))) ds S := runs_n lk_address_at hn ds S
theorem lk_value_at : fs.lookup ("value_at" : Str) = some e_value_at := by kernel_rfl
theorem run_value_at {n : Nat} (hn : 1 ≤ n) (ds : List D) (S : Sto) : runs fs n "value_at" ds S = callBody 5 (m_value_at (runs fs (n - 1))) ds S := runs_n lk_value_at hn ds S
theorem lk_declaration_at : fs.lookup ("declaration_at" : Str) = some e_declaration_at := by kernel_rfl
theorem run_declaration_at {n : Nat} (hn : 1 ≤ n) (ds : List D) (S : Sto) : runs fs n "declaration_at" ds S = callBody 5 (m_declaration_at (runs fs (n - 1))) ds S := runs_n lk_declaration_at hn ds S
theorem lk_head_at : fs.lookup ("head_at" : Str) = some e_head_at := by kernel_rfl
theorem run_head_at {n : Nat} (hn : 1 ≤ n) (ds : List D) (S : Sto) : runs fs n "head_at" ds S = callBody 10 (m_head_at (runs fs (n - 1))) ds S := runs_n lk_head_at hn ds S
theorem lk_child_at : fs.lookup ("child_at" : Str) = some e_child_at := by kernel_rfl
theorem run_child_at {n : Nat} (hn : 1 ≤ n) (ds : List D) (S : Sto) : runs fs n "child_at" ds S = callBody 4 (m_child_at (runs fs (n - 1))) ds S := runs_n lk_child_at hn ds S
theorem lk_element_from : fs.lookup ("element_from" : Str) = some e_element_from := by kernel_rfl
theorem run_element_from {n : Nat} (hn : 1 ≤ n) (ds : List D) (S : Sto) : runs fs n "element_from" ds S = callBody 5 (m_element_from (runs fs (n - 1))) ds S := runs_n lk_element_from hn ds S
theorem lk_read_part : fs.lookup ("read_part" : Str) = some e_read_part := by kernel_rfl
theorem run_read_part {n : Nat} (hn : 1 ≤ n) (ds : List D) (S : Sto) : runs fs n "read_part" ds S = callBody 3 (m_read_part (runs fs (n - 1))) ds S := runs_n lk_read_part hn ds S
theorem lk__law_mixed : fs.lookup ("_law_mixed" : Str) = some e__law_mixed := by kernel_rfl
theorem run__law_mixed {n : Nat} (hn : 1 ≤ n) (ds : List D) (S : Sto) : runs fs n "_law_mixed" ds S = callBody 2 (m__law_mixed (runs fs (n - 1))) ds S := runs_n lk__law_mixed hn ds S
theorem lk__law_begin : fs.lookup ("_law_begin" : Str) = some e__law_begin := by kernel_rfl
theorem run__law_begin {n : Nat} (hn : 1 ≤ n) (ds : List D) (S : Sto) : runs fs n "_law_begin" ds S = callBody 3 (m__law_begin (runs fs (n - 1))) ds S := runs_n lk__law_begin hn ds S
theorem lk__law_draw : fs.lookup ("_law_draw" : Str) = some e__law_draw := by kernel_rfl
theorem run__law_draw {n : Nat} (hn : 1 ≤ n) (ds : List D) (S : Sto) : runs fs n "_law_draw" ds S = callBody 6 (m__law_draw (runs fs (n - 1))) ds S := runs_n lk__law_draw hn ds S
theorem lk__law_of : fs.lookup ("_law_of" : Str) = some e__law_of := by kernel_rfl
theorem run__law_of {n : Nat} (hn : 1 ≤ n) (ds : List D) (S : Sto) : runs fs n "_law_of" ds S = callBody 2 (m__law_of (runs fs (n - 1))) ds S := runs_n lk__law_of hn ds S
theorem lk__law_prefix : fs.lookup ("_law_prefix" : Str) = some e__law_prefix := by kernel_rfl
theorem run__law_prefix {n : Nat} (hn : 1 ≤ n) (ds : List D) (S : Sto) : runs fs n "_law_prefix" ds S = callBody 1 (m__law_prefix (runs fs (n - 1))) ds S := runs_n lk__law_prefix hn ds S
theorem lk__law_name : fs.lookup ("_law_name" : Str) = some e__law_name := by kernel_rfl
theorem run__law_name {n : Nat} (hn : 1 ≤ n) (ds : List D) (S : Sto) : runs fs n "_law_name" ds S = callBody 1 (m__law_name (runs fs (n - 1))) ds S := runs_n lk__law_name hn ds S
theorem lk__law_declarations : fs.lookup ("_law_declarations" : Str) = some e__law_declarations := by kernel_rfl
theorem run__law_declarations {n : Nat} (hn : 1 ≤ n) (ds : List D) (S : Sto) : runs fs n "_law_declarations" ds S = callBody 5 (m__law_declarations (runs fs (n - 1))) ds S := runs_n lk__law_declarations hn ds S
theorem lk__law_attributes : fs.lookup ("_law_attributes" : Str) = some e__law_attributes := by kernel_rfl
theorem run__law_attributes {n : Nat} (hn : 1 ≤ n) (ds : List D) (S : Sto) : runs fs n "_law_attributes" ds S = callBody 6 (m__law_attributes (runs fs (n - 1))) ds S := runs_n lk__law_attributes hn ds S
theorem lk__law_element : fs.lookup ("_law_element" : Str) = some e__law_element := by kernel_rfl
theorem run__law_element {n : Nat} (hn : 1 ≤ n) (ds : List D) (S : Sto) : runs fs n "_law_element" ds S = callBody 9 (m__law_element (runs fs (n - 1))) ds S := runs_n lk__law_element hn ds S
theorem lk__law_grown : fs.lookup ("_law_grown" : Str) = some e__law_grown := by kernel_rfl
theorem run__law_grown {n : Nat} (hn : 1 ≤ n) (ds : List D) (S : Sto) : runs fs n "_law_grown" ds S = callBody 4 (m__law_grown (runs fs (n - 1))) ds S := runs_n lk__law_grown hn ds S
theorem lk__law_name_text : fs.lookup ("_law_name_text" : Str) = some e__law_name_text := by kernel_rfl
theorem run__law_name_text {n : Nat} (hn : 1 ≤ n) (ds : List D) (S : Sto) : runs fs n "_law_name_text" ds S = callBody 1 (m__law_name_text (runs fs (n - 1))) ds S := runs_n lk__law_name_text hn ds S
theorem lk__law_written : fs.lookup ("_law_written" : Str) = some e__law_written := by kernel_rfl
theorem run__law_written {n : Nat} (hn : 1 ≤ n) (ds : List D) (S : Sto) : runs fs n "_law_written" ds S = callBody 9 (m__law_written (runs fs (n - 1))) ds S := runs_n lk__law_written hn ds S
theorem lk__law_edge : fs.lookup ("_law_edge" : Str) = some e__law_edge := by kernel_rfl
theorem run__law_edge {n : Nat} (hn : 1 ≤ n) (ds : List D) (S : Sto) : runs fs n "_law_edge" ds S = callBody 8 (m__law_edge (runs fs (n - 1))) ds S := runs_n lk__law_edge hn ds S
theorem lk__law_right : fs.lookup ("_law_right" : Str) = some e__law_right := by kernel_rfl
theorem run__law_right {n : Nat} (hn : 1 ≤ n) (ds : List D) (S : Sto) : runs fs n "_law_right" ds S = callBody 2 (m__law_right (runs fs (n - 1))) ds S := runs_n lk__law_right hn ds S
theorem lk_law : fs.lookup ("law" : Str) = some e_law := by kernel_rfl
theorem run_law {n : Nat} (hn : 1 ≤ n) (ds : List D) (S : Sto) : runs fs n "law" ds S = callBody 8 (m_law (runs fs (n - 1))) ds S := runs_n lk_law hn ds S
end MiLaw
set_option Elab.async false
set_option linter.all false
set_option maxRecDepth 100000
set_option maxHeartbeats 4000000
/-! texts, names, pairs: the small questions of law k04's table -/
namespace MiLaw
open PySem Mi
abbrev letters : List Nat := [97, 98, 99, 100, 101, 102, 103, 104, 105, 106, 107, 108, 109, 110, 111, 112, 113, 114, 115, 116, 117, 118, 119, 120, 121, 122]
abbrev barred : List Nat := [120, 109, 108, 110, 115]
abbrev addressSigns : List Nat := [97, 98, 99, 100, 101, 102, 103, 104, 105, 106, 107, 108, 109, 110, 111, 112, 113, 114, 115, 116, 117, 118, 119, 120, 121, 122, 48, 49, 50, 51, 52, 53, 54, 55, 56, 57, 46, 47, 58, 45]
abbrev plainSigns : List Nat := [97, 98, 99, 100, 101, 102, 103, 104, 105, 106, 107, 108, 109, 110, 111, 112, 113, 114, 115, 116, 117, 118, 119, 120, 121, 122, 48, 49, 50, 51, 52, 53, 54, 55, 56, 57, 32, 46, 47, 45]
abbrev wElement : List Nat := [101, 108, 101, 109, 101, 110, 116]
abbrev wHole : List Nat := [104, 111, 108, 101]
/-- a text of signs, of a length -/
def isOf (x sg : List Nat) (lo hi : Nat) : Bool := decide (lo ≤ x.length) && (decide (x.length ≤ hi) && x.all fun c => decide (c ∈ sg))
def isWord (x : List Nat) : Bool := isOf x letters 1 8
def isPre (x : List Nat) : Bool := isOf x letters 0 8 && !decide (x = barred)
def isLoc (x : List Nat) : Bool := isOf x letters 1 8 && !decide (x = barred)
def isAddr (x : List Nat) : Bool := isOf x addressSigns 1 20
def isPlain (x : List Nat) : Bool := isOf x plainSigns 0 20
theorem boolsOf_map {α : Type} (f : α → Bool) : ∀ l : List α, boolsOf (l.map fun a => pbl (f a)) = some (l.map f)
  | [] => rfl
  | a :: r => by simp [boolsOf, boolsOf_map f r]
theorem all_new (S : Sto) (l : List Bool) : allF [.ref S.objs.length] (ext S [.lst (l.map pbl)]) = some (pbl (l.all id), ext S [.lst (l.map pbl)]) := by
  have z := boolsOf_map (fun b : Bool => b) l
  simp only [List.map_id'] at z
  simp [allF, quanF, Sto.list, z]
theorem r_is_of {n : Nat} (hn : 1 ≤ n) {x sg : List Nat} {lo hi : Nat} (hx : x.length < sizeLine) (S : Sto) : runs fs n "is_of" [pstr x, pstr sg, pint lo, pint hi] S = .ok (pbl (isOf x sg lo hi)) S := by
  rw [run_is_of hn]
  have hl := fun S => l_str S (x := x) (Nat.le_of_lt hx)
  by_cases h1 : lo ≤ x.length
  · by_cases h2 : x.length ≤ hi
    · have hlc := lc_pure (t := .nm 4) (c := mYes) (elt := m2 inF (mVar 4) (mVar 1)) (st := [some (pstr x), some (pstr sg), some (pint lo), some (pint hi), none]) (S := ext S []) (p := fun _ => true)
        (f := fun d => match d with | .p (.str [c]) => pbl (decide (c ∈ sg)) | _ => pnon) (put := fun d => [some (pstr x), some (pstr sg), some (pint lo), some (pint hi), some d]) (xs := x.map fun c => pstr [c]) rfl (by simpa using hx) fun d hd => by
          obtain ⟨c, _, rfl⟩ := List.mem_map.mp hd
          exact ⟨rfl, fun _ => rfl, fun _ => ⟨rfl, fun S' => by simp⟩⟩
      rw [List.filter_eq_self.mpr (fun _ _ => rfl), List.map_map] at hlc
      have hk := lcK_str (mi := mVar 0) (t := .nm 4) (c := mYes) (elt := m2 inF (mVar 4) (mVar 1)) (vs := [4]) (st := [some (pstr x), some (pstr sg), some (pint lo), some (pint hi), none]) (S := ext S []) (x := x) rfl
      have hw : wipeE [some (pstr x), some (pstr sg), some (pint lo), some (pint hi), none] [4] = [some (pstr x), some (pstr sg), some (pint lo), some (pint hi), none] := rfl
      rw [hw, hlc] at hk
      refine call_rt (ex := [.lst (x.map fun c => pbl (decide (c ∈ sg)))]) ?_ rfl
      have ha := all_new S (x.map fun c => decide (c ∈ sg))
      simp only [List.map_map] at ha
      have e1 : (pbl ∘ fun c => decide (c ∈ sg)) = fun c => pbl (decide (c ∈ sg)) := rfl
      have e2 : ((fun d => match d with | .p (.str [c]) => pbl (decide (c ∈ sg)) | _ => pnon) ∘ fun c => pstr [c]) = fun c => pbl (decide (c ∈ sg)) := rfl
      rw [e1] at ha
      rw [e2] at hk
      simp only [ext_push, ext_olen, List.length_nil, Nat.add_zero, List.nil_append] at hk
      simp [m_is_of, hl, h1, h2, hk, ha, isOf, Int.ofNat_le]

    · refine call_rt (ex := []) ?_ rfl
      simp [m_is_of, hl, h1, h2, isOf]
  · refine call_rt (ex := []) ?_ rfl
    simp [m_is_of, hl, h1, isOf]
end MiLaw
set_option Elab.async false
set_option linter.all false
set_option maxRecDepth 100000
set_option maxHeartbeats 4000000
/-! words, names, first words; texts of names and pairs -/
namespace MiLaw
open PySem Mi
theorem r_is_word {n : Nat} (hn : 2 ≤ n) {x : List Nat} (hx : x.length < sizeLine) (S : Sto) : runs fs n "is_word" [pstr x] S = .ok (pbl (isWord x)) S := by
  rw [run_is_word (by omega)]
  refine call_rt (ex := []) ?_ rfl
  have z := fun S => r_is_of (n := n - 1) (by omega) (x := x) (sg := letters) (lo := 1) (hi := 8) hx S
  simp at z
  simp [m_is_word, z, isWord]
theorem r_is_prefix {n : Nat} (hn : 2 ≤ n) {x : List Nat} (hx : x.length < sizeLine) (S : Sto) : runs fs n "is_prefix" [pstr x] S = .ok (pbl (isPre x)) S := by
  rw [run_is_prefix (by omega)]
  refine call_rt (ex := []) ?_ rfl
  have z := fun S => r_is_of (n := n - 1) (by omega) (x := x) (sg := letters) (lo := 0) (hi := 8) hx S
  simp at z
  cases hb : isOf x letters 0 8 <;> simp only [hb] at z <;> simp [m_is_prefix, z, isPre, hb]
theorem r_is_local {n : Nat} (hn : 2 ≤ n) {x : List Nat} (hx : x.length < sizeLine) (S : Sto) : runs fs n "is_local" [pstr x] S = .ok (pbl (isLoc x)) S := by
  rw [run_is_local (by omega)]
  refine call_rt (ex := []) ?_ rfl
  have z := fun S => r_is_of (n := n - 1) (by omega) (x := x) (sg := letters) (lo := 1) (hi := 8) hx S
  simp at z
  cases hb : isOf x letters 1 8 <;> simp only [hb] at z <;> simp [m_is_local, z, isLoc, hb]
theorem r_is_address {n : Nat} (hn : 2 ≤ n) {x : List Nat} (hx : x.length < sizeLine) (S : Sto) : runs fs n "is_address" [pstr x] S = .ok (pbl (isAddr x)) S := by
  rw [run_is_address (by omega)]
  refine call_rt (ex := []) ?_ rfl
  have z := fun S => r_is_of (n := n - 1) (by omega) (x := x) (sg := addressSigns) (lo := 1) (hi := 20) hx S
  simp at z
  simp [m_is_address, z, isAddr]
theorem r_is_plain {n : Nat} (hn : 2 ≤ n) {x : List Nat} (hx : x.length < sizeLine) (S : Sto) : runs fs n "is_plain" [pstr x] S = .ok (pbl (isPlain x)) S := by
  rw [run_is_plain (by omega)]
  refine call_rt (ex := []) ?_ rfl
  have z := fun S => r_is_of (n := n - 1) (by omega) (x := x) (sg := plainSigns) (lo := 0) (hi := 20) hx S
  simp at z
  simp [m_is_plain, z, isPlain]
/-- is_plain of what is no text -/
theorem r_is_plain_tup {n : Nat} (hn : 2 ≤ n) (xs : List P) (S : Sto) : runs fs n "is_plain" [tp xs] S = .ok (pbl false) S := by
  rw [run_is_plain (by omega)]
  refine call_rt (ex := []) ?_ rfl
  have z : ∀ S, runs fs (n - 1) "is_of" [tp xs, pstr plainSigns, pint 0, pint 20] S = .ok (pbl false) S := fun S => by
    rw [run_is_of (by omega)]
    refine call_rt (ex := []) ?_ rfl
    simp [m_is_of]
  simp [m_is_plain, z]
theorem r_is_pair {n : Nat} (hn : 1 ≤ n) (a b : P) (S : Sto) : runs fs n "is_pair" [tp [a, b]] S = .ok (pbl true) S := by
  rw [run_is_pair (by omega)]
  refine call_rt (ex := []) ?_ rfl
  simp [m_is_pair]
theorem r_is_name {n : Nat} (hn : 3 ≤ n) {p l : List Nat} (hp : p.length < sizeLine) (hl : l.length < sizeLine) (S : Sto) : runs fs n "is_name" [tp [.str p, .str l]] S = .ok (pbl (isPre p && isLoc l)) S := by
  rw [run_is_name (by omega)]
  refine call_rt (ex := []) ?_ rfl
  have z1 := fun S => r_is_prefix (n := n - 1) (by omega) (x := p) hp S
  have z2 := fun S => r_is_local (n := n - 1) (by omega) (x := l) hl S
  cases hb : isPre p <;> simp only [hb] at z1 <;> simp [m_is_name, z1, z2]
theorem r_is_name_str {n : Nat} (hn : 3 ≤ n) (x : List Nat) (S : Sto) : runs fs n "is_name" [pstr x] S = .ok (pbl false) S := by
  rw [run_is_name (by omega)]
  refine call_rt (ex := []) ?_ rfl
  simp [m_is_name]
theorem r_begins_tup {n : Nat} (hn : 1 ≤ n) (y w : List Nat) (r : List P) (S : Sto) : runs fs n "begins_with" [tp (.str y :: r), pstr w] S = .ok (pbl (decide (y = w))) S := by
  rw [run_begins_with (by omega)]
  refine call_rt (ex := []) ?_ rfl
  have z : (0 : Int) < (r.length : Int) + 1 := by omega
  simp [m_begins_with, z]
theorem r_begins_str {n : Nat} (hn : 1 ≤ n) (y w : List Nat) (S : Sto) : runs fs n "begins_with" [pstr y, pstr w] S = .ok (pbl false) S := by
  rw [run_begins_with (by omega)]
  refine call_rt (ex := []) ?_ rfl
  simp [m_begins_with]
/-- a name's text -/
def nameText (p l : List Nat) : List Nat := if p = [] then l else p ++ 58 :: l
theorem r_name_text {n : Nat} (hn : 1 ≤ n) {p l : List Nat} (h : p.length + l.length + 1 ≤ sizeLine) (S : Sto) : runs fs n "name_text" [tp [.str p, .str l]] S = .ok (pstr (nameText p l)) S := by
  rw [run_name_text (by omega)]
  refine call_rt (ex := []) ?_ rfl
  have a1 := fun S => a_str S (x := p) (y := [58]) (by simp; omega)
  have a2 := fun S => a_str S (x := p ++ [58]) (y := l) (by simp; omega)
  by_cases hp : p = []
  · subst hp
    simp [m_name_text, nameText]
  · simp [m_name_text, nameText, hp, a1, a2]
/-- a declaration's or an attribute's text -/
def pairText (x y : List Nat) : List Nat := 32 :: (x ++ 61 :: 34 :: (y ++ [34]))
theorem r_pair_text {n : Nat} (hn : 1 ≤ n) {x y : List Nat} (h : x.length + y.length + 5 ≤ sizeLine) (S : Sto) : runs fs n "pair_text" [pstr x, pstr y] S = .ok (pstr (pairText x y)) S := by
  rw [run_pair_text (by omega)]
  refine call_rt (ex := []) ?_ rfl
  have a1 := fun S => a_str S (x := [32]) (y := x) (by simp; omega)
  have a2 := fun S => a_str S (x := [32] ++ x) (y := [61]) (by simp; omega)
  have a3 := fun S => a_str S (x := [32] ++ x ++ [61]) (y := [34]) (by simp; omega)
  have a4 := fun S => a_str S (x := [32] ++ x ++ [61] ++ [34]) (y := y) (by simp; omega)
  have a5 := fun S => a_str S (x := [32] ++ x ++ [61] ++ [34] ++ y) (y := [34]) (by simp; omega)
  simp at a1 a2 a3 a4 a5
  simp [m_pair_text, a1, a2, a3, a4, a5, pairText]

/-! ### parts as plain data -/
/-- an attribute's value: plain, or a quoted name -/
inductive Av where
  | plain (x : List Nat) | quoted (p l : List Nat)
abbrev Dc := List Nat × List Nat
abbrev At := (List Nat × List Nat) × Av
/-- what stands in an element: texts, holes, elements (name, declarations, attributes, children) -/
inductive Kd where
  | txt (x : List Nat) | hol (w : List Nat)
  | el (p l : List Nat) (ds : List Dc) (as : List At) (ks : List Kd)
def Av.toP : Av → P
  | .plain x => .str x
  | .quoted p l => .tup [.str p, .str l]
abbrev dcP (q : Dc) : P := .tup [.str q.1, .str q.2]
abbrev atP (q : At) : P := .tup [.tup [.str q.1.1, .str q.1.2], q.2.toP]
mutual
def Kd.toP : Kd → P
  | .txt x => .str x
  | .hol w => .tup [.str wHole, .str w]
  | .el p l ds as ks => .tup [.str wElement, .tup [.str p, .str l], .tup (ds.map dcP), .tup (as.map atP), .tup (Kd.toPs ks)]
def Kd.toPs : List Kd → List P
  | [] => []
  | k :: ks => k.toP :: Kd.toPs ks
end
def Av.text : Av → List Nat
  | .plain x => x
  | .quoted p l => 64 :: nameText p l
abbrev dcText (q : Dc) : List Nat := pairText (if q.1 = [] then barred else barred ++ 58 :: q.1) q.2
abbrev atText (q : At) : List Nat := pairText (nameText q.1.1 q.1.2) q.2.text
mutual
/-- the written form -/
def Kd.text : Kd → List Nat
  | .txt x => x
  | .hol w => 123 :: (w ++ [125])
  | .el p l ds as ks => 60 :: (nameText p l ++ ((ds.map dcText).flatten ++ ((as.map atText).flatten ++
      (if ks.isEmpty then [47, 62] else 62 :: (Kd.texts ks ++ 60 :: 47 :: (nameText p l ++ [62]))))))
def Kd.texts : List Kd → List Nat
  | [] => []
  | k :: ks => k.text ++ Kd.texts ks
end
theorem toPs_map : ∀ ks : List Kd, Kd.toPs ks = ks.map Kd.toP
  | [] => rfl
  | k :: ks => by simp [Kd.toPs, toPs_map ks]
theorem texts_map : ∀ ks : List Kd, Kd.texts ks = (ks.map Kd.text).flatten
  | [] => rfl
  | k :: ks => by simp [Kd.texts, texts_map ks]
mutual
/-- levels -/
def Kd.lv : Kd → Nat
  | .txt _ => 0
  | .hol _ => 0
  | .el _ _ _ _ ks => Kd.lvs ks + 1
def Kd.lvs : List Kd → Nat
  | [] => 0
  | k :: ks => max k.lv (Kd.lvs ks)
end
mutual
/-- elements -/
def Kd.cnt : Kd → Nat
  | .txt _ => 0
  | .hol _ => 0
  | .el _ _ _ _ ks => Kd.cnts ks + 1
def Kd.cnts : List Kd → Nat
  | [] => 0
  | k :: ks => k.cnt + Kd.cnts ks
end
mutual
/-- holes -/
def Kd.hs : Kd → List (List Nat)
  | .txt _ => []
  | .hol w => [w]
  | .el _ _ _ _ ks => Kd.hss ks
def Kd.hss : List Kd → List (List Nat)
  | [] => []
  | k :: ks => k.hs ++ Kd.hss ks
end
theorem lv_le {k : Kd} : ∀ {ks : List Kd}, k ∈ ks → k.lv ≤ Kd.lvs ks
  | q :: ks, h => by
    simp only [Kd.lvs]
    rcases List.mem_cons.mp h with rfl | h
    · omega
    · have := lv_le h; omega
theorem size_mem {k : Kd} : ∀ {ks : List Kd}, k ∈ ks → sizeOf k < sizeOf ks
  | q :: ks, h => by
    rcases List.mem_cons.mp h with rfl | h
    · simp; omega
    · have := size_mem h; simp; omega
/-- no text behind a text -/
def noAdj : Bool → List Kd → Bool
  | _, [] => true
  | b, .txt _ :: r => !b && noAdj true r
  | _, _ :: r => noAdj false r
def Av.ok : Av → Bool
  | .plain x => isPlain x
  | .quoted p l => isPre p && isLoc l
def dcOk (q : Dc) : Bool := isPre q.1 && (isAddr q.2 || decide (q.2 = []))
def atOk (q : At) : Bool := isPre q.1.1 && isLoc q.1.2 && q.2.ok
/-- good by itself and below, the elements' own rows not too many -/
inductive Kd.Good : Kd → Prop
  | txt {x : List Nat} : isPlain x = true → x ≠ [] → Kd.Good (.txt x)
  | hol {w : List Nat} : isWord w = true → Kd.Good (.hol w)
  | el {p l : List Nat} {ds : List Dc} {as : List At} {ks : List Kd} : isPre p = true → isLoc l = true → (∀ q ∈ ds, dcOk q = true) → (ds.map (·.1)).Nodup → (∀ q ∈ as, atOk q = true) → (as.map (·.1)).Nodup → (∀ k ∈ ks, Kd.Good k) → noAdj false ks = true →
      ds.length ≤ 100 → as.length ≤ 100 → ks.length ≤ 100 → Kd.Good (.el p l ds as ks)
theorem isOf_len {x sg : List Nat} {lo hi : Nat} (h : isOf x sg lo hi = true) : lo ≤ x.length ∧ x.length ≤ hi ∧ ∀ c ∈ x, c ∈ sg := by
  simp only [isOf, Bool.and_eq_true, decide_eq_true_eq, List.all_eq_true] at h
  exact ⟨h.1, h.2.1, h.2.2⟩
theorem pre_of {x : List Nat} (h : isPre x = true) : x.length ≤ 8 ∧ (∀ c ∈ x, c ∈ letters) ∧ x ≠ barred := by
  simp only [isPre, Bool.and_eq_true, Bool.not_eq_true', decide_eq_false_iff_not] at h
  exact ⟨(isOf_len h.1).2.1, (isOf_len h.1).2.2, h.2⟩
theorem loc_of {x : List Nat} (h : isLoc x = true) : 1 ≤ x.length ∧ x.length ≤ 8 ∧ (∀ c ∈ x, c ∈ letters) ∧ x ≠ barred := by
  simp only [isLoc, Bool.and_eq_true, Bool.not_eq_true', decide_eq_false_iff_not] at h
  exact ⟨(isOf_len h.1).1, (isOf_len h.1).2.1, (isOf_len h.1).2.2, h.2⟩
theorem word_of {x : List Nat} (h : isWord x = true) : 1 ≤ x.length ∧ x.length ≤ 8 ∧ ∀ c ∈ x, c ∈ letters := isOf_len h
theorem addr_of {x : List Nat} (h : isAddr x = true) : 1 ≤ x.length ∧ x.length ≤ 20 ∧ ∀ c ∈ x, c ∈ addressSigns := isOf_len h
theorem plain_of {x : List Nat} (h : isPlain x = true) : x.length ≤ 20 ∧ ∀ c ∈ x, c ∈ plainSigns := (isOf_len h).2
end MiLaw
set_option Elab.async false
set_option linter.all false
set_option maxRecDepth 100000
set_option maxHeartbeats 4000000
/-! rows of declarations, attributes, children -/
namespace MiLaw
open PySem Mi
theorem len8 {x : List Nat} (h : x.length ≤ 20) : x.length < sizeLine := by rw [sizeLine_eq]; omega
theorem r_are_declarations {n : Nat} (hn : 3 ≤ n) {ds : List Dc} (h1 : ∀ q ∈ ds, dcOk q = true) (h2 : (ds.map (·.1)).Nodup) (hz : ds.length ≤ 100) (S : Sto) : runs fs n "are_declarations" [tp (ds.map dcP)] S = .ok (pbl true) S := by
  rw [run_are_declarations (by omega)]
  refine call_rt (ex := [.dct (keysD (ds.map fun q => .str q.1) (.bl true))]) ?_ rfl
  unfold m_are_declarations
  refine seq_nx (st1 := [some (tp (ds.map dcP)), none, none]) (S1 := ext S []) (by simp) ?_
  refine seq_nx (st1 := [some (tp (ds.map dcP)), some (.ref S.objs.length), none]) (S1 := ext S [.dct []]) (by simp) ?_
  refine seq_forA (f := dcP) (ys := ds) (fun r st o => ∃ done v, ds = done ++ r ∧ st = [some (tp (ds.map dcP)), some (.ref S.objs.length), v] ∧ envTop [v] = 0 ∧ o = [.dct (keysD (done.map fun q => .str q.1) (.bl true))]) (by simp) ⟨[], none, rfl, rfl, rfl, rfl⟩ ?_ ?_ ?_
  · rintro q r st o' ⟨done, v, hd, rfl, hv, rfl⟩
    have hq : q ∈ ds := by rw [hd]; simp
    have hok := h1 q hq
    simp only [dcOk, Bool.and_eq_true, Bool.or_eq_true, decide_eq_true_eq] at hok
    obtain ⟨hp, ha⟩ := hok
    have hp8 := (pre_of hp).1
    have hnot : (P.str q.1) ∉ done.map fun q => P.str q.1 := by
      intro hm
      obtain ⟨z, hz1, hz2⟩ := List.mem_map.mp hm
      simp only [P.str.injEq] at hz2
      rw [hd, List.map_append, List.nodup_append] at h2
      exact h2.2.2 z.1 (List.mem_map_of_mem hz1) q.1 (by simp) hz2
    have hk : dKind (keysD (done.map fun q => .str q.1) (.bl true)) (pstr q.1) = true := dKind_strs fun k hk => by
      obtain ⟨z, _, rfl⟩ := List.mem_map.mp hk
      exact ⟨_, rfl⟩
    have hlen : done.length ≤ 100 := by rw [hd] at hz; simp at hz; omega
    have z1 := fun S => r_is_pair (n := n - 1) (by omega) (.str q.1) (.str q.2) S
    have z2 := fun S => r_is_prefix (n := n - 1) (by omega) (x := q.1) (len8 (by omega)) S
    have z3 := in_dct (S := S) (o := [.dct (keysD (done.map fun q => .str q.1) (.bl true))]) (i := 0) rfl hk
    have z4 := set_dct (S := S) (o := [.dct (keysD (done.map fun q => .str q.1) (.bl true))]) (i := 0) (v := .p (.bl true)) rfl hk (by simp [sizeLine_eq]; omega) (by rw [dPut_keys hnot]; simp)
    rw [dFind_keys, if_neg hnot] at z3
    rw [dPut_keys hnot] at z4
    simp only [Nat.add_zero, hp] at z3 z4 z2
    refine ⟨_, [some (tp (ds.map dcP)), some (.ref S.objs.length), some (.p (dcP q))], [.dct (keysD ((done ++ [q]).map fun q => .str q.1) (.bl true))], rfl, ?_, by simp, ⟨done ++ [q], _, by simp [hd], rfl, rfl, by simp⟩⟩
    rcases ha with ha | ha
    · have z5 := fun S => r_is_address (n := n - 1) (by omega) (x := q.2) (len8 (addr_of ha).2.1) S
      simp only [ha] at z5
      simp [z1, z2, z3, z4, z5]
    · have z5 := fun S => r_is_address (n := n - 1) (by omega) (x := []) (by simp [sizeLine_eq]) S
      have e5 : isAddr [] = false := by decide
      simp only [e5] at z5
      simp [z1, z2, z3, z4, ha, z5]
  · rintro st o' ⟨done, v, hd, rfl, hv, rfl⟩
    simp at hv ⊢
    cases v <;> simp at hv ⊢
    omega
  · rintro st o' ⟨done, v, hd, rfl, hv, rfl⟩
    simp at hd
    subst hd
    simp
end MiLaw
set_option Elab.async false
set_option linter.all false
set_option maxRecDepth 100000
set_option maxHeartbeats 4000000
/-! attributes, children, an element by itself -/
namespace MiLaw
open PySem Mi
abbrev nmP (q : List Nat × List Nat) : P := .tup [.str q.1, .str q.2]
theorem r_are_attributes {n : Nat} (hn : 4 ≤ n) {as : List At} (h1 : ∀ q ∈ as, atOk q = true) (h2 : (as.map (·.1)).Nodup) (hz : as.length ≤ 100) (S : Sto) : runs fs n "are_attributes" [tp (as.map atP)] S = .ok (pbl true) S := by
  rw [run_are_attributes (by omega)]
  refine call_rt (ex := [.dct (keysD (as.map fun q => nmP q.1) (.bl true))]) ?_ rfl
  unfold m_are_attributes
  refine seq_nx (st1 := [some (tp (as.map atP)), none, none]) (S1 := ext S []) (by simp) ?_
  refine seq_nx (st1 := [some (tp (as.map atP)), some (.ref S.objs.length), none]) (S1 := ext S [.dct []]) (by simp) ?_
  refine seq_forA (f := atP) (ys := as) (fun r st o => ∃ done v, as = done ++ r ∧ st = [some (tp (as.map atP)), some (.ref S.objs.length), v] ∧ envTop [v] = 0 ∧ o = [.dct (keysD (done.map fun q => nmP q.1) (.bl true))]) (by simp) ⟨[], none, rfl, rfl, rfl, rfl⟩ ?_ ?_ ?_
  · rintro q r st o' ⟨done, v, hd, rfl, hv, rfl⟩
    have hq : q ∈ as := by rw [hd]; simp
    have hok := h1 q hq
    simp only [atOk, Bool.and_eq_true] at hok
    obtain ⟨⟨hp, hl⟩, ha⟩ := hok
    have hp8 := (pre_of hp).1
    have hl8 := (loc_of hl).2.1
    have hnot : nmP q.1 ∉ done.map fun q => nmP q.1 := by
      intro hm
      obtain ⟨z, hz1, hz2⟩ := List.mem_map.mp hm
      simp only [nmP, P.tup.injEq, List.cons.injEq, P.str.injEq, and_true] at hz2
      rw [hd, List.map_append, List.nodup_append] at h2
      exact h2.2.2 z.1 (List.mem_map_of_mem hz1) q.1 (by simp) (Prod.ext hz2.1 hz2.2)
    have hk : dKind (keysD (done.map fun q => nmP q.1) (.bl true)) (.p (nmP q.1)) = true := dKind_names fun k hk => by
      obtain ⟨z, _, rfl⟩ := List.mem_map.mp hk
      exact ⟨_, _, rfl⟩
    have hlen : done.length ≤ 100 := by rw [hd] at hz; simp at hz; omega
    have z1 := fun S => r_is_pair (n := n - 1) (by omega) (nmP q.1) q.2.toP S
    have z2 := fun S => r_is_name (n := n - 1) (by omega) (p := q.1.1) (l := q.1.2) (len8 (by omega)) (len8 (by omega)) S
    have z3 := in_dct (S := S) (o := [.dct (keysD (done.map fun q => nmP q.1) (.bl true))]) (i := 0) rfl hk
    have z4 := set_dct (S := S) (o := [.dct (keysD (done.map fun q => nmP q.1) (.bl true))]) (i := 0) (v := .p (.bl true)) rfl hk (by simp [sizeLine_eq]; omega) (by rw [dPut_keys hnot]; simp)
    rw [dFind_keys, if_neg hnot] at z3
    rw [dPut_keys hnot] at z4
    simp only [Nat.add_zero, hp, hl, Bool.and_self] at z3 z4 z2
    refine ⟨_, [some (tp (as.map atP)), some (.ref S.objs.length), some (.p (atP q))], [.dct (keysD ((done ++ [q]).map fun q => nmP q.1) (.bl true))], rfl, ?_, by simp, ⟨done ++ [q], _, by simp [hd], rfl, rfl, by simp⟩⟩
    obtain ⟨⟨a, b⟩, v⟩ := q
    cases v with
    | plain x =>
      have z5 := fun S => r_is_plain (n := n - 1) (by omega) (x := x) (len8 (plain_of ha).1) S
      have ha' : isPlain x = true := ha
      simp only [ha'] at z5
      simp [z1, z2, z3, z4, z5, Av.toP]
    | quoted p l =>
      have ha' : isPre p = true ∧ isLoc l = true := by simpa [Av.ok] using ha
      have h8 := (pre_of ha'.1).1
      have h9 := (loc_of ha'.2).2.1
      have z5 := fun S => r_is_plain_tup (n := n - 1) (by omega) [.str p, .str l] S
      have z6 := fun S => r_is_name (n := n - 1) (by omega) (p := p) (l := l) (len8 (by omega)) (len8 (by omega)) S
      simp only [ha'.1, ha'.2, Bool.and_self] at z6
      simp [z1, z2, z3, z4, z5, z6, Av.toP]
  · rintro st o' ⟨done, v, hd, rfl, hv, rfl⟩
    simp at hv ⊢
    cases v <;> simp at hv ⊢
    omega
  · rintro st o' ⟨done, v, hd, rfl, hv, rfl⟩
    simp at hd
    subst hd
    simp
def Kd.isTxt : Kd → Bool
  | .txt _ => true
  | _ => false
theorem r_are_children {n : Nat} (hn : 3 ≤ n) {ks : List Kd} (h1 : ∀ k ∈ ks, k.Good) (h2 : noAdj false ks = true) (S : Sto) : runs fs n "are_children" [tp (ks.map Kd.toP)] S = .ok (pbl true) S := by
  rw [run_are_children (by omega)]
  refine call_rt (ex := []) ?_ rfl
  unfold m_are_children
  refine seq_nx (st1 := [some (tp (ks.map Kd.toP)), none, none, none]) (S1 := ext S []) (by simp) ?_
  refine seq_nx (st1 := [some (tp (ks.map Kd.toP)), some (pbl false), none, none]) (S1 := ext S []) (by simp) ?_
  refine seq_forA (f := Kd.toP) (ys := ks) (fun r st o => ∃ b v w, (∀ k ∈ r, k.Good) ∧ noAdj b r = true ∧ st = [some (tp (ks.map Kd.toP)), some (pbl b), v, w] ∧ envTop [v, w] = 0 ∧ o = []) (by simp) ⟨false, none, none, h1, h2, rfl, rfl, rfl⟩ ?_ ?_ ?_
  · rintro k r st o' ⟨b, v, w, hg, ha, rfl, hv, rfl⟩
    have hk := hg k List.mem_cons_self
    have hr : ∀ k ∈ r, k.Good := fun q hq => hg q (List.mem_cons_of_mem _ hq)
    refine ⟨_, [some (tp (ks.map Kd.toP)), some (pbl k.isTxt), some (.p k.toP), some (pbl k.isTxt)], [], rfl, ?_, by simp, ⟨k.isTxt, _, _, hr, ?_, rfl, rfl, rfl⟩⟩
    · cases hk with
      | txt hx hne =>
        rename_i x
        have z1 := fun S => r_is_plain (n := n - 1) (by omega) (x := x) (len8 (plain_of hx).1) S
        have z2 := fun w S => r_begins_str (n := n - 1) (by omega) x w S
        simp only [noAdj, Bool.and_eq_true, Bool.not_eq_true'] at ha
        simp only [hx] at z1
        simp [Kd.toP, Kd.isTxt, z1, z2, ha.1, hne]
      | hol hw =>
        rename_i x
        have z1 := fun S => r_is_word (n := n - 1) (by omega) (x := x) (len8 (by have := (word_of hw).2.1; omega)) S
        have z2 := fun w S => r_begins_tup (n := n - 1) (by omega) wHole w [.str x] S
        simp only [hw] at z1
        simp [Kd.toP, Kd.isTxt, z1, z2]
      | el _ _ _ _ _ _ _ _ _ _ _ =>
        rename_i p l ds as ks' _ _ _ _ _ _ _ _ _ _ _
        have z2 := fun w S => r_begins_tup (n := n - 1) (by omega) wElement w [.tup [.str p, .str l], .tup (ds.map dcP), .tup (as.map atP), .tup (Kd.toPs ks')] S
        simp [Kd.toP, Kd.isTxt, z2]
    · cases k <;> simp_all [noAdj, Kd.isTxt]
  · rintro st o' ⟨b, v, w, hg, ha, rfl, hv, rfl⟩
    cases v <;> cases w <;> simp at hv ⊢ <;> omega
  · rintro st o' ⟨b, v, w, hg, ha, rfl, hv, rfl⟩
    simp
theorem r_fault_of {n : Nat} (hn : 5 ≤ n) {p l : List Nat} {ds : List Dc} {as : List At} {ks : List Kd} (hg : (Kd.el p l ds as ks).Good) (S : Sto) : runs fs n "fault_of" [.p (Kd.el p l ds as ks).toP] S = .ok pnon S := by
  rw [run_fault_of (by omega)]
  refine call_rt (ex := []) ?_ rfl
  cases hg with
  | el g1 g2 g3 g4 g5 g6 g7 g8 g9 g10 g11 =>
    have z1 := fun w S => r_begins_tup (n := n - 1) (by omega) wElement w [.tup [.str p, .str l], .tup (ds.map dcP), .tup (as.map atP), .tup (ks.map Kd.toP)] S
    have z2 := fun S => r_is_name (n := n - 1) (by omega) (p := p) (l := l) (len8 (by have := (pre_of g1).1; omega)) (len8 (by have := (loc_of g2).2.1; omega)) S
    have z3 := fun S => r_are_declarations (n := n - 1) (by omega) g3 g4 g9 S
    have z4 := fun S => r_are_attributes (n := n - 1) (by omega) g5 g6 g10 S
    have z5 := fun S => r_are_children (n := n - 1) (by omega) g7 g8 S
    simp only [g1, g2, Bool.and_self] at z2
    simp [m_fault_of, Kd.toP, toPs_map, z1, z2, z3, z4, z5]
end MiLaw
set_option Elab.async false
set_option linter.all false
set_option maxRecDepth 100000
set_option maxHeartbeats 4000000
/-! holes_in, child_elements, need_part -/
namespace MiLaw
open PySem Mi
def Kd.isHol : Kd → Bool
  | .hol _ => true
  | _ => false
def Kd.isEl : Kd → Bool
  | .el _ _ _ _ _ => true
  | _ => false
def Kd.word : Kd → List Nat
  | .hol w => w
  | _ => []
/-- the holes among children -/
def holesOf (ks : List Kd) : List (List Nat) := (ks.filter Kd.isHol).map Kd.word
theorem begins_hole {n : Nat} (hn : 1 ≤ n) (k : Kd) (S : Sto) : runs fs n "begins_with" [.p k.toP, pstr wHole] S = .ok (pbl k.isHol) S := by
  cases k with
  | txt x => exact r_begins_str hn x wHole S
  | hol w => exact r_begins_tup hn wHole wHole _ S
  | el p l ds as ks => exact r_begins_tup hn wElement wHole _ S
theorem begins_el {n : Nat} (hn : 1 ≤ n) (k : Kd) (S : Sto) : runs fs n "begins_with" [.p k.toP, pstr wElement] S = .ok (pbl k.isEl) S := by
  cases k with
  | txt x => exact r_begins_str hn x wElement S
  | hol w => exact r_begins_tup hn wHole wElement _ S
  | el p l ds as ks => exact r_begins_tup hn wElement wElement _ S
theorem r_holes_in {n : Nat} (hn : 2 ≤ n) {p l : List Nat} {ds : List Dc} {as : List At} {ks : List Kd} (hz : ks.length ≤ 100) (S : Sto) : runs fs n "holes_in" [.p (Kd.el p l ds as ks).toP] S = .ok (.ref S.objs.length) (S.push (.lst (((holesOf ks).map P.str).map D.p))) := by
  rw [run_holes_in (by omega)]
  refine call_new (i := 0) (ex := [.lst (((holesOf ks).map P.str).map D.p)]) ?_ rfl (tops_map_p _)
  have z := lcK_tupA (g := Kd.toP) (p := Kd.isHol) (f := fun k => .str k.word) (put := fun k => [some (.p (Kd.el p l ds as ks).toP), some (.p k.toP)]) (mi := m2 idxF (mVar 0) (mC (pint 4))) (t := .nm 1) (c := mTru (mCall (runs fs (n - 1)) "begins_with" 2 (mCons (mVar 1) (mCons (mC (pstr wHole)) mNil)))) (elt := m2 idxF (mVar 1) (mC (pint 1))) (vs := [1]) (st := [some (.p (Kd.el p l ds as ks).toP), none]) (S := S) (o := []) (ys := ks)
    (by simp [Kd.toP, toPs_map]) (by rw [sizeLine_eq]; omega) (fun k _ => ⟨rfl, fun S' => by
      have b := begins_hole (n := n - 1) (by omega) k S'
      simp [b], fun hk S' => by
      cases k with
      | hol w => simp [Kd.toP, Kd.word]
      | txt _ => simp [Kd.isHol] at hk
      | el _ _ _ _ _ => simp [Kd.isHol] at hk⟩)
  simp only [List.length_nil, Nat.add_zero, List.nil_append] at z
  rw [show (List.map (fun k : Kd => P.str k.word) (List.filter Kd.isHol ks)) = (holesOf ks).map P.str from by rw [holesOf, List.map_map]; rfl] at z
  simp [m_holes_in, z]
/-- the elements among children, with their numbers -/
def elsOf (ks : List Kd) : List (Kd × Nat) := ks.zipIdx.filter fun q => q.1.isEl
abbrev elP (q : Kd × Nat) : P := .tup [.int (q.2 : Nat), q.1.toP]
theorem r_child_elements {n : Nat} (hn : 2 ≤ n) {p l : List Nat} {ds : List Dc} {as : List At} {ks : List Kd} (hz : ks.length ≤ 100) (S : Sto) : runs fs n "child_elements" [.p (Kd.el p l ds as ks).toP] S = .ok (.ref S.objs.length) (S.push (.lst (((elsOf ks).map elP).map D.p))) := by
  rw [run_child_elements (by omega)]
  refine call_new (i := 0) (ex := [.lst (((elsOf ks).map elP).map D.p)]) ?_ rfl (tops_map_p _)
  have z := lcK_enumA (g := Kd.toP) (p := fun q => q.1.isEl) (f := elP) (put := fun q => [some (.p (Kd.el p l ds as ks).toP), some (pint (q.2 : Nat)), some (.p q.1.toP)]) (mi := m2 idxF (mVar 0) (mC (pint 4))) (t := .tup [(.nm 1), (.nm 2)]) (c := mTru (mCall (runs fs (n - 1)) "begins_with" 2 (mCons (mVar 2) (mCons (mC (pstr wElement)) mNil)))) (elt := mN tupF (mCons (mVar 1) (mCons (mVar 2) mNil))) (vs := [1, 2]) (st := [some (.p (Kd.el p l ds as ks).toP), none, none]) (S := S) (o := []) (ys := ks)
    (by simp [Kd.toP, toPs_map]) (by rw [sizeLine_eq]; omega) (fun k _ => ⟨rfl, fun S' => by
      have b := begins_el (n := n - 1) (by omega) k.1 S'
      simp [b], fun hk S' => by simp⟩)
  simp only [List.length_nil, Nat.add_zero, List.nil_append] at z
  simp [m_child_elements, z, elsOf]
/-! plain facts -/
theorem hss_perm : ∀ ks : List Kd, (Kd.hss ks).Perm (holesOf ks ++ ((ks.filter Kd.isEl).map Kd.hs).flatten)
  | [] => List.Perm.refl _
  | .txt x :: r => by simpa [Kd.hss, Kd.hs, holesOf, Kd.isHol, Kd.isEl] using hss_perm r
  | .hol w :: r => by simpa [Kd.hss, Kd.hs, holesOf, List.filter_cons, Kd.isHol, Kd.isEl, Kd.word] using hss_perm r
  | .el p l ds as ks :: r => by
    have z := (hss_perm r).append_left (Kd.hs (.el p l ds as ks))
    refine z.trans ?_
    simp only [holesOf, List.filter_cons, Kd.isHol, Kd.isEl, if_true, List.map_cons, List.flatten_cons, Bool.false_eq_true, if_false]
    exact (List.perm_append_comm_assoc _ _ _)
theorem cnts_filter : ∀ ks : List Kd, Kd.cnts ks = ((ks.filter Kd.isEl).map Kd.cnt).sum
  | [] => rfl
  | .txt x :: r => by simpa [Kd.cnts, Kd.cnt, Kd.isEl] using cnts_filter r
  | .hol w :: r => by simpa [Kd.cnts, Kd.cnt, Kd.isEl] using cnts_filter r
  | .el p l ds as ks :: r => by simp [Kd.cnts, Kd.cnt, Kd.isEl, List.filter_cons, cnts_filter r]
theorem els_fst (ks : List Kd) : (elsOf ks).map (·.1) = ks.filter Kd.isEl := by
  have key : ∀ (ks : List Kd) (n : Nat), ((ks.zipIdx n).filter fun q => q.1.isEl).map (·.1) = ks.filter Kd.isEl := by
    intro ks
    induction ks with
    | nil => intro n; rfl
    | cons k r ih =>
      intro n
      simp only [List.zipIdx_cons, List.filter_cons]
      cases hk : k.isEl <;> simp [ih]
  exact key ks 0
/-- what is left to be looked at: paths and elements -/
abbrev Lf := List (List Nat × Kd)
abbrev lfP (q : List Nat × Kd) : P := .tup [.tup (q.1.map fun i => .int (i : Nat)), q.2.toP]
def lfCnt (lf : Lf) : Nat := (lf.map fun q => q.2.cnt).sum
def lfHs (lf : Lf) : List (List Nat) := (lf.map fun q => q.2.hs).flatten
def kidsLf (path : List Nat) (ks : List Kd) : Lf := (elsOf ks).map fun q => (path ++ [q.2], q.1)
theorem kids_snd (path : List Nat) (ks : List Kd) : (kidsLf path ks).map (·.2) = ks.filter Kd.isEl := by
  rw [← els_fst, kidsLf, List.map_map]
  rfl
theorem lfCnt_app (a b : Lf) : lfCnt (a ++ b) = lfCnt a + lfCnt b := by simp [lfCnt]
theorem lfCnt_kids (path : List Nat) (ks : List Kd) : lfCnt (kidsLf path ks).reverse = Kd.cnts ks := by
  rw [cnts_filter, ← kids_snd path, List.map_map]
  unfold lfCnt
  rw [List.map_reverse, List.sum_reverse]
  rfl
theorem lfHs_app (a b : Lf) : lfHs (a ++ b) = lfHs a ++ lfHs b := by simp [lfHs]
theorem lfHs_kids (path : List Nat) (ks : List Kd) : (lfHs (kidsLf path ks).reverse).Perm ((ks.filter Kd.isEl).map Kd.hs).flatten := by
  rw [← kids_snd path, List.map_map]
  unfold lfHs
  exact ((List.reverse_perm _).map _).flatten
theorem lfCnt_len : ∀ {lf : Lf}, (∀ q ∈ lf, q.2.isEl = true) → lf.length ≤ lfCnt lf
  | [], _ => Nat.le_refl _
  | q :: r, h => by
    have h1 := h q List.mem_cons_self
    have ih := lfCnt_len (lf := r) fun x hx => h x (List.mem_cons_of_mem _ hx)
    have h2 : 1 ≤ q.2.cnt := by
      obtain ⟨a, k⟩ := q
      cases k <;> simp_all [Kd.isEl, Kd.cnt]
    simp only [lfCnt, List.map_cons, List.sum_cons, List.length_cons] at ih ⊢
    omega
end MiLaw
set_option Elab.async false
set_option linter.all false
set_option maxRecDepth 100000
set_option maxHeartbeats 4000000
/-! need_part tells a part itself -/
namespace MiLaw
open PySem Mi
abbrev seenD (l : List (List Nat)) : MO := .dct (keysD (l.map P.str) (.bl true))
/-- what holds at each turn of need_part -/
structure NpI (thing : P) (L : Nat) (m : Nat) (st : Mi.Env) (o : List MO) (lf : Lf) (many : Nat) (seen : List (List Nat)) : Prop where
  env : ∃ v5 v6 v7 v8 v9 v10, st = [some (.p thing), some (.ref L), some (pint (many : Nat)), some (.ref (L + 1)), some pnon, v5, v6, v7, v8, v9, v10] ∧ envTop [v5, v6, v7, v8, v9, v10] = 0
  obj : o = [.lst ((lf.map lfP).map D.p), seenD seen]
  good : ∀ q ∈ lf, q.2.Good ∧ q.2.isEl = true ∧ q.1.length + q.2.lv ≤ 8
  many : many + lfCnt lf ≤ 60
  cnt : m = lfCnt lf
  nd : (seen ++ lfHs lf).Nodup
  nl : (seen ++ lfHs lf).length ≤ 1000000
theorem path_pl (path : List Nat) (k : Nat) (S : Sto) (h : path.length ≤ 8) : addF (tp (path.map fun i => .int (i : Nat))) (tp [.int (k : Nat)]) S = some (tp ((path ++ [k]).map fun i => .int (i : Nat)), S) := by
  rw [a_tup S (by simp [sizeLine_eq]; omega)]
  simp
theorem tops6 {v5 v6 v7 v8 v9 v10 : Option D} (h : envTop [v5, v6, v7, v8, v9, v10] = 0) (a b c d e : Option D) (k : Nat) (hk : envTop [a, b, c, d, e] ≤ k) : envTop [a, b, c, d, e, v5, v6, v7, v8, v9, v10] ≤ k := by
  rw [envTop_le] at *
  intro i x hx
  have h' : ∀ (i : Nat) x, [v5, v6, v7, v8, v9, v10][i]? = some (some x) → x.top ≤ 0 := envTop_le.mp (Nat.le_of_eq h)
  by_cases hi : i < 5
  · refine hk i x ?_
    match i, hi with
    | 0, _ => exact hx
    | 1, _ => exact hx
    | 2, _ => exact hx
    | 3, _ => exact hx
    | 4, _ => exact hx
  · obtain ⟨j, rfl⟩ : ∃ j, i = j + 5 := ⟨i - 5, by omega⟩
    have z := h' j x (by simpa using hx)
    omega
def NpR (thing : P) (S : Sto) (m : Nat) (out : Out) : Prop := ∃ st2 o2, out = .nx st2 (ext S o2) ∧ envTop st2 ≤ S.objs.length + 2 ∧ ∃ m', m' < m ∧ ∃ lf many seen, NpI thing S.objs.length m' st2 (o2.take 2) lf many seen
theorem mem_kids {path : List Nat} {ks : List Kd} {q : List Nat × Kd} (h : q ∈ kidsLf path ks) : q.2 ∈ ks ∧ q.2.isEl = true ∧ q.1.length = path.length + 1 := by
  have h2 : q.2 ∈ (kidsLf path ks).map (·.2) := List.mem_map_of_mem h
  rw [kids_snd] at h2
  obtain ⟨x, _, rfl⟩ := List.mem_map.mp h
  exact ⟨(List.mem_filter.mp h2).1, (List.mem_filter.mp h2).2, by simp⟩
theorem r_need_part {n : Nat} (hn : 6 ≤ n) {k0 : Kd} (hg : k0.Good) (hel : k0.isEl = true) (hc : k0.cnt ≤ 60) (hv : k0.lv ≤ 8) (hh : k0.hs.Nodup) (hhl : k0.hs.length ≤ 1000000) (S : Sto) : runs fs n "need_part" [.p k0.toP] S = .ok (.p k0.toP) S := by
  rw [run_need_part (by omega)]
  refine call_go ?_ rfl
  unfold m_need_part
  refine go_nx (st1 := [some (.p k0.toP), some (.ref S.objs.length), some (pint 0), some (.ref (S.objs.length + 1)), some pnon, none, none, none, none, none, none]) (S1 := ext S [.lst [.p (lfP ([], k0))], .dct []]) (by simp [Tg.put, Tg.puts, D.items, mkTup, allP, D.toP, lst_new, lstF, tupF, lfP]) ?_
  refine go_while (o := [.lst [.p (lfP ([], k0))], .dct []]) (fun m st o => ∃ lf many seen, NpI k0.toP S.objs.length m st o lf many seen) (fun st o => ∃ many seen m, NpI k0.toP S.objs.length m st o [] many seen) (lfCnt [([], k0)])
    ⟨[([], k0)], 0, [], ⟨⟨none, none, none, none, none, none, rfl, rfl⟩, rfl, by simp [hg, hel, hv], by simp [lfCnt, hc], rfl, by simpa [lfHs] using hh, by simpa [lfHs] using hhl⟩⟩ ?_ ?_
  · rintro m st o ⟨lf, many, seen, ⟨v5, v6, v7, v8, v9, v10, rfl, hvs⟩, rfl, good, hmany, hcnt, hnd, hnl⟩
    have c1 := ne_lnil (S := S) (o := [.lst ((lf.map lfP).map D.p), seenD seen, .lst []]) (i := 0) (j := 2) (l := lf.map lfP) rfl rfl
    simp only [Nat.add_zero] at c1
    refine ⟨!lf.isEmpty, [.lst ((lf.map lfP).map D.p), seenD seen, .lst []], ?_, ?_⟩
    · have c2 := lst_new (S := S) (o := [.lst ((lf.map lfP).map D.p), seenD seen]) [] (by simp)
      simp only [List.length_cons, List.length_nil, List.cons_append, List.nil_append] at c2
      simp only [List.isEmpty_map] at c1
      simp only [w_b, w_2, w_var, w_n, w_nil, Res.bind_ok, List.getElem?_cons_succ, List.getElem?_cons_zero, c2, ofOpt_some]
      rw [show S.objs.length + (0 + 1 + 1) = S.objs.length + 2 from rfl, c1]
      simp
    · by_cases hlf : lf = []
      · subst hlf
        simp only [List.isEmpty_nil, Bool.not_true, Bool.false_eq_true, if_false]
        refine ⟨tops6 hvs _ _ _ _ _ _ (by simp), many, seen, m, ⟨⟨v5, v6, v7, v8, v9, v10, rfl, hvs⟩, rfl, good, hmany, hcnt, hnd, hnl⟩⟩
      · have he : (!lf.isEmpty) = true := by cases lf <;> simp_all
        rw [he, if_pos rfl]
        obtain ⟨lf', ⟨path, k⟩, rfl⟩ : ∃ a b, lf = a ++ [b] := ⟨lf.dropLast, lf.getLast hlf, (List.dropLast_concat_getLast hlf).symm⟩
        obtain ⟨gk, ek, pk⟩ := good (path, k) (by simp)
        cases k with
        | txt _ => cases ek
        | hol _ => cases ek
        | el p l ds as ks =>
          have hperm : (seen ++ lfHs (lf' ++ [(path, Kd.el p l ds as ks)])).Perm ((seen ++ holesOf ks) ++ lfHs (lf' ++ (kidsLf path ks).reverse)) := by
            rw [lfHs_app, lfHs_app, List.append_assoc]
            refine List.Perm.append_left _ ?_
            have e1 : lfHs [(path, Kd.el p l ds as ks)] = Kd.hss ks := by simp [lfHs, Kd.hs]
            rw [e1]
            refine ((hss_perm ks).append_left _).trans ?_
            refine (List.perm_append_comm_assoc _ _ _).trans ?_
            exact List.Perm.append_left _ (List.Perm.append_left _ (lfHs_kids path ks).symm)
          have hnd2 : ((seen ++ holesOf ks) ++ lfHs (lf' ++ (kidsLf path ks).reverse)).Nodup := (List.Perm.nodup_iff hperm).mp hnd
          have hnl2 : ((seen ++ holesOf ks) ++ lfHs (lf' ++ (kidsLf path ks).reverse)).length ≤ 1000000 := by
            rw [← hperm.length_eq]
            exact hnl
          have hks : ks.length ≤ 100 := by cases gk; assumption
          have hlv : path.length + (Kd.lvs ks + 1) ≤ 8 := pk
          have hct : lfCnt (lf' ++ [(path, Kd.el p l ds as ks)]) = lfCnt lf' + (Kd.cnts ks + 1) := by rw [lfCnt_app]; simp [lfCnt, Kd.cnt]
          have hl' : lf'.length ≤ lfCnt lf' := lfCnt_len fun q hq => (good q (by simp [hq])).2.1
          have hkl : (elsOf ks).length ≤ 100 := by
            refine Nat.le_trans (List.length_filter_le _ _) ?_
            simpa using hks
          show NpR k0.toP S m _
          refine go_nx (st1 := [some (.p k0.toP), some (.ref S.objs.length), some (pint (many : Nat)), some (.ref (S.objs.length + 1)), some pnon, some (tp (path.map fun i => .int (i : Nat))), some (.p (Kd.el p l ds as ks).toP), v7, v8, v9, v10]) (S1 := ext S [.lst ((lf'.map lfP).map D.p), seenD seen, .lst []]) ?_ ?_
          · have c3 := pop_lst (S := S) (o := [.lst (((lf'.map lfP) ++ [lfP (path, Kd.el p l ds as ks)]).map D.p), seenD seen, .lst []]) (i := 0) (l := lf'.map lfP) (x := lfP (path, Kd.el p l ds as ks)) rfl
            have c4 := recv_lst (S := S) (o := [.lst (((lf'.map lfP) ++ [lfP (path, Kd.el p l ds as ks)]).map D.p), seenD seen, .lst []]) (i := 0) rfl
            simp only [Nat.add_zero] at c3 c4
            rw [show List.map lfP (lf' ++ [(path, Kd.el p l ds as ks)]) = lf'.map lfP ++ [lfP (path, Kd.el p l ds as ks)] from by simp]
            simp only [w_asg, w_meth, w_var, List.getElem?_cons_succ, List.getElem?_cons_zero, Res.bind_ok, c4, List.mem_singleton, if_true, w_nil, c3, ofOpt_some, sbind_ok]
            simp
          refine go_nx (st1 := [some (.p k0.toP), some (.ref S.objs.length), some (pint ((many + 1 : Nat) : Int)), some (.ref (S.objs.length + 1)), some pnon, some (tp (path.map fun i => .int (i : Nat))), some (.p (Kd.el p l ds as ks).toP), v7, v8, v9, v10]) (S1 := ext S [.lst ((lf'.map lfP).map D.p), seenD seen, .lst []]) (by simp) ?_
          have z1 := fun S => r_fault_of (n := n - 1) (by omega) gk S
          refine go_nx (st1 := [some (.p k0.toP), some (.ref S.objs.length), some (pint ((many + 1 : Nat) : Int)), some (.ref (S.objs.length + 1)), some pnon, some (tp (path.map fun i => .int (i : Nat))), some (.p (Kd.el p l ds as ks).toP), some pnon, v8, v9, v10]) (S1 := ext S [.lst ((lf'.map lfP).map D.p), seenD seen, .lst []]) (by simp [z1]) ?_
          have t1 : ¬ (60 : Int) < (many : Int) + 1 := by omega
          have t2 : ¬ (8 : Int) ≤ (path.length : Int) := by omega
          refine go_nx (st1 := [some (.p k0.toP), some (.ref S.objs.length), some (pint ((many + 1 : Nat) : Int)), some (.ref (S.objs.length + 1)), some pnon, some (tp (path.map fun i => .int (i : Nat))), some (.p (Kd.el p l ds as ks).toP), some pnon, v8, v9, v10]) (S1 := ext S [.lst ((lf'.map lfP).map D.p), seenD seen, .lst []]) (by simp [t1, t2]) ?_
          refine go_nx (st1 := [some (.p k0.toP), some (.ref S.objs.length), some (pint ((many + 1 : Nat) : Int)), some (.ref (S.objs.length + 1)), some pnon, some (tp (path.map fun i => .int (i : Nat))), some (.p (Kd.el p l ds as ks).toP), some pnon, v8, v9, v10]) (S1 := ext S [.lst ((lf'.map lfP).map D.p), seenD seen, .lst []]) (by simp) ?_
          have z2 := fun S => r_holes_in (n := n - 1) (by omega) (p := p) (l := l) (ds := ds) (as := as) (ks := ks) hks S
          have hv910 : envTop [v9, v10] = 0 := by
            have q := envTop_le.mp (Nat.le_of_eq hvs)
            refine Nat.le_zero.mp (envTop_le.mpr fun i d hd => q (i + 4) d (by simpa using hd))
          have hv8 : envTop [v8] = 0 := by
            have q := envTop_le.mp (Nat.le_of_eq hvs)
            refine Nat.le_zero.mp (envTop_le.mpr fun i d hd => ?_)
            cases i with
            | zero => exact q 3 d (by simpa using hd)
            | succ i => simp at hd
          refine go_forL (g := P.str) (ys := holesOf ks) (o := [.lst ((lf'.map lfP).map D.p), seenD seen, .lst []]) (fun r st o' => ∃ done w8, holesOf ks = done ++ r ∧ st = [some (.p k0.toP), some (.ref S.objs.length), some (pint ((many + 1 : Nat) : Int)), some (.ref (S.objs.length + 1)), some pnon, some (tp (path.map fun i => .int (i : Nat))), some (.p (Kd.el p l ds as ks).toP), some pnon, w8, v9, v10] ∧ envTop [w8, v9, v10] = 0 ∧ o' = [.lst ((lf'.map lfP).map D.p), seenD (seen ++ done), .lst []])
            (by simp [z2]) ⟨[], v8, rfl, rfl, ?_, by simp⟩ ?_ ?_ ?_ ?_
          · simp only [envTop_c] at hv910 hv8 ⊢
            omega
          · rintro w r st o' ⟨done, w8, hd, rfl, hw8, rfl⟩
            have hnot : (P.str w) ∉ (seen ++ done).map P.str := by
              intro hm
              obtain ⟨x, hx1, hx2⟩ := List.mem_map.mp hm
              simp only [P.str.injEq] at hx2
              subst hx2
              rw [hd, ← List.append_assoc, List.append_assoc, List.nodup_append] at hnd2
              exact hnd2.2.2 x hx1 x (by simp) rfl
            have hk : dKind (keysD ((seen ++ done).map P.str) (.bl true)) (pstr w) = true := dKind_strs fun k hk => by
              obtain ⟨z, _, rfl⟩ := List.mem_map.mp hk
              exact ⟨_, rfl⟩
            have hlen : (seen ++ done).length ≤ 1000000 := by
              rw [hd] at hnl2
              simp at hnl2 ⊢
              omega
            have y1 := in_dct (S := S) (o := [.lst ((lf'.map lfP).map D.p), seenD (seen ++ done), .lst []] ++ [.lst (((holesOf ks).map P.str).map D.p)]) (i := 1) rfl hk
            have y2 := set_dct (S := S) (o := [.lst ((lf'.map lfP).map D.p), seenD (seen ++ done), .lst []] ++ [.lst (((holesOf ks).map P.str).map D.p)]) (i := 1) (v := .p (.bl true)) rfl hk (by rw [keysD_len, List.length_map, sizeLine_eq]; omega) (by rw [dPut_keys hnot]; simp)
            rw [dFind_keys, if_neg hnot] at y1
            rw [dPut_keys hnot] at y2
            refine ⟨_, [some (.p k0.toP), some (.ref S.objs.length), some (pint ((many + 1 : Nat) : Int)), some (.ref (S.objs.length + 1)), some pnon, some (tp (path.map fun i => .int (i : Nat))), some (.p (Kd.el p l ds as ks).toP), some pnon, some (pstr w), v9, v10], [.lst ((lf'.map lfP).map D.p), seenD (seen ++ (done ++ [w])), .lst []], [], rfl, ?_, ?_, rfl, ⟨done ++ [w], some (pstr w), by simp [hd], rfl, ?_, rfl⟩⟩
            · have e3 : seenD (seen ++ (done ++ [w])) = .dct (keysD ((seen ++ done).map P.str ++ [P.str w]) (.bl true)) := by simp
              rw [e3]
              refine seq_nx (st1 := [some (.p k0.toP), some (.ref S.objs.length), some (pint ((many + 1 : Nat) : Int)), some (.ref (S.objs.length + 1)), some pnon, some (tp (path.map fun i => .int (i : Nat))), some (.p (Kd.el p l ds as ks).toP), some pnon, some (pstr w), v9, v10]) (S1 := ext S ([.lst ((lf'.map lfP).map D.p), seenD (seen ++ done), .lst []] ++ [.lst (((holesOf ks).map P.str).map D.p)])) ?_ ?_
              · simp only [w_if, w_andT, w_b, w_2, w_var, List.set_cons_succ, List.set_cons_zero, List.getElem?_cons_succ, List.getElem?_cons_zero, Res.bind_ok, y1, ofOpt_some]
                simp
              · refine seq_nil ?_
                simp only [w_sub, w_c, w_var, List.getElem?_cons_succ, List.getElem?_cons_zero, sbind_ok, y2]
                rfl
            · simp only [envTop_c] at hw8 ⊢
              simp [envTop_1] at hw8 ⊢
              omega
            · simp only [envTop_c] at hw8 ⊢
              simp [envTop_1] at hw8 ⊢
              omega
          · rintro r st o' ⟨done, w8, _, _, _, rfl⟩
            rfl
          · rintro st o' ⟨done, w8, hd, rfl, hw8, rfl⟩
            simp only [envTop_c] at hw8 ⊢
            simp [envTop_1] at hw8 ⊢
            omega
          · rintro st o' ⟨done, w8, hd, rfl, hw8, rfl⟩
            simp only [List.append_nil] at hd
            subst hd
            have hpl := fun k S => path_pl path k S (by omega)
            have z3 := fun S => r_child_elements (n := n - 1) (by omega) (p := p) (l := l) (ds := ds) (as := as) (ks := ks) hks S
            have y := lcK_newA (g := elP) (p := fun _ => true) (f := fun q => lfP (path ++ [q.2], q.1)) (put := fun q => [some (.p k0.toP), some (.ref S.objs.length), some (pint ((many + 1 : Nat) : Int)), some (.ref (S.objs.length + 1)), some pnon, some (tp (path.map fun i => .int (i : Nat))), some (.p (Kd.el p l ds as ks).toP), some pnon, w8, some (pint (q.2 : Nat)), some (.p q.1.toP)])
              (mi := mCall (runs fs (n - 1)) "child_elements" 1 (mCons (mVar 6) mNil)) (t := .tup [(.nm 9), (.nm 10)]) (c := mYes) (elt := mN tupF (mCons (m2 addF (mVar 5) (mN tupF (mCons (mVar 9) mNil))) (mCons (mVar 10) mNil))) (vs := [9, 10])
              (st := [some (.p k0.toP), some (.ref S.objs.length), some (pint ((many + 1 : Nat) : Int)), some (.ref (S.objs.length + 1)), some pnon, some (tp (path.map fun i => .int (i : Nat))), some (.p (Kd.el p l ds as ks).toP), some pnon, w8, v9, v10]) (S := S) (o := [.lst ((lf'.map lfP).map D.p), seenD (seen ++ holesOf ks), .lst []]) (ys := elsOf ks)
              (by simp [z3]) (by rw [sizeLine_eq]; omega) (fun q _ => ⟨rfl, fun _ => rfl, fun _ S' => by simp [hpl]⟩)
            have y2 := rev_lst (S := S) (o := [.lst ((lf'.map lfP).map D.p), seenD (seen ++ holesOf ks), .lst []] ++ [.lst (((elsOf ks).map elP).map D.p), .lst ((((elsOf ks).filter fun _ => true).map fun q => lfP (path ++ [q.2], q.1)).map D.p)]) (i := 4) rfl
            have e4 : (((elsOf ks).filter fun _ => true).map fun q => lfP (path ++ [q.2], q.1)) = (kidsLf path ks).map lfP := by
              rw [List.filter_eq_self.mpr (fun _ _ => rfl), kidsLf, List.map_map]
              rfl
            rw [e4, ← List.map_reverse] at y2
            rw [e4] at y
            have y3 := extend_lst (S := S) (o := [.lst ((lf'.map lfP).map D.p), seenD (seen ++ holesOf ks), .lst []] ++ [.lst (((elsOf ks).map elP).map D.p), .lst (((kidsLf path ks).map lfP).map D.p)] ++ [.lst (((kidsLf path ks).reverse.map lfP).map D.p)]) (i := 0) (j := 5) (l := lf'.map lfP) (r := (kidsLf path ks).reverse.map lfP) rfl rfl (by
              have : (kidsLf path ks).length = (elsOf ks).length := by simp [kidsLf]
              simp [sizeLine_eq, this]
              omega)
            have y4 := recv_lst (S := S) (o := [.lst ((lf'.map lfP).map D.p), seenD (seen ++ holesOf ks), .lst []]) (i := 0) rfl
            simp only [Nat.add_zero] at y3 y4
            refine ⟨[some (.p k0.toP), some (.ref S.objs.length), some (pint ((many + 1 : Nat) : Int)), some (.ref (S.objs.length + 1)), some pnon, some (tp (path.map fun i => .int (i : Nat))), some (.p (Kd.el p l ds as ks).toP), some pnon, w8, v9, v10], [.lst (((lf' ++ (kidsLf path ks).reverse).map lfP).map D.p), seenD (seen ++ holesOf ks), .lst [], .lst (((elsOf ks).map elP).map D.p), .lst (((kidsLf path ks).map lfP).map D.p), .lst (((kidsLf path ks).reverse.map lfP).map D.p)], ?_, ?_, lfCnt (lf' ++ (kidsLf path ks).reverse), ?_, lf' ++ (kidsLf path ks).reverse, many + 1, seen ++ holesOf ks, ⟨⟨_, _, _, _, _, _, rfl, ?_⟩, rfl, ?_, ?_, rfl, hnd2, hnl2⟩⟩
            · refine seq_nil ?_
              simp only [w_expr, w_meth, w_var, List.getElem?_cons_succ, List.getElem?_cons_zero, Res.bind_ok, y4, List.mem_singleton, if_true, w_cons, w_1, w_nil, y]
              rw [show S.objs.length + ([.lst ((lf'.map lfP).map D.p), seenD (seen ++ holesOf ks), .lst []] : List MO).length + 1 = S.objs.length + 4 from rfl, y2]
              simp only [ofOpt_some, Res.bind_ok]
              rw [show S.objs.length + ([.lst ((lf'.map lfP).map D.p), seenD (seen ++ holesOf ks), .lst []] ++ [.lst (((elsOf ks).map elP).map D.p), .lst (((kidsLf path ks).map lfP).map D.p)] : List MO).length = S.objs.length + 5 from rfl, y3]
              simp
            · simp only [envTop_c] at hw8 ⊢
              simp [envTop_1] at hw8 ⊢
              omega
            · rw [lfCnt_app, lfCnt_kids, hcnt, hct]
              omega
            · simp only [envTop_c] at hw8 ⊢
              simp [envTop_1] at hw8 ⊢
              omega
            · intro q hq
              rcases List.mem_append.mp hq with hq | hq
              · exact good q (by simp [hq])
              · obtain ⟨q1, q2, q3⟩ := mem_kids (List.mem_reverse.mp hq)
                have q4 := lv_le q1
                refine ⟨?_, q2, by omega⟩
                cases gk with
                | el g1 g2 g3 g4 g5 g6 g7 g8 g9 g10 g11 => exact g7 _ q1
            · rw [lfCnt_app, lfCnt_kids]
              omega
  · rintro st o ⟨many, seen, m, ⟨v5, v6, v7, v8, v9, v10, rfl, hvs⟩, rfl, good, hmany, hcnt, hnd, hnl⟩
    refine ⟨[.lst [], seenD seen], ?_⟩
    simp
end MiLaw
set_option Elab.async false
set_option linter.all false
set_option maxRecDepth 100000
set_option maxHeartbeats 4000000
/-! element_text, written, size_of -/
namespace MiLaw
open PySem Mi
def strsD (l : List (List Nat)) : MO := .lst ((l.map P.str).map D.p)
theorem app_str0 {S : Sto} {l : List (List Nat)} {r : List MO} {x : List Nat} (hz : l.length < sizeLine) : appendM "list" (.ref S.objs.length) [pstr x] (ext S (strsD l :: r)) = some (pnon, ext S (strsD (l ++ [x]) :: r)) := by
  have z := app_lst (S := S) (o := strsD l :: r) (i := 0) (l := l.map P.str) (x := .str x) rfl (by simpa using hz)
  simp only [Nat.add_zero, List.set_cons_zero] at z
  rw [z, show strsD (l ++ [x]) = .lst ((l.map P.str ++ [P.str x]).map D.p) from by simp [strsD]]
theorem recv_str0 (S : Sto) (l : List (List Nat)) (r : List MO) : recvD (ext S (strsD l :: r)) (.ref S.objs.length) = some "list" := recv_lst (S := S) (o := strsD l :: r) (i := 0) rfl
theorem join_str0 {S : Sto} {l : List (List Nat)} {r : List MO} (hz : l.flatten.length ≤ 16777216) : joinM "str" (pstr []) [.ref S.objs.length] (ext S (strsD l :: r)) = some (pstr l.flatten, ext S (strsD l :: r)) :=
  join_lst (S := S) (o := strsD l :: r) (i := 0) rfl hz
theorem nameText_len (p l : List Nat) : (nameText p l).length ≤ p.length + l.length + 1 := by
  unfold nameText
  split
  · omega
  · simp; omega
theorem name_le {p l : List Nat} (hp : isPre p = true) (hl : isLoc l = true) : (nameText p l).length ≤ 17 := by
  have := nameText_len p l
  have := (pre_of hp).1
  have := (loc_of hl).2.1
  omega
theorem dc_le {q : Dc} (h : dcOk q = true) : q.1.length ≤ 8 ∧ q.2.length ≤ 20 := by
  simp only [dcOk, Bool.and_eq_true, Bool.or_eq_true, decide_eq_true_eq] at h
  refine ⟨(pre_of h.1).1, ?_⟩
  rcases h.2 with z | z
  · exact (addr_of z).2.1
  · simp [z]
theorem dcText_le {q : Dc} (h : dcOk q = true) : (dcText q).length ≤ 50 := by
  have := dc_le h
  unfold dcText pairText
  split <;> simp <;> omega
theorem av_le {v : Av} (h : v.ok = true) : v.text.length ≤ 20 := by
  cases v with
  | plain x => exact (plain_of h).1
  | quoted p l =>
    simp only [Av.ok, Bool.and_eq_true] at h
    have := name_le h.1 h.2
    simp [Av.text]
    omega
theorem atText_le {q : At} (h : atOk q = true) : (atText q).length ≤ 50 := by
  simp only [atOk, Bool.and_eq_true] at h
  have := name_le h.1.1 h.1.2
  have := av_le h.2
  unfold atText pairText
  simp
  omega
theorem flat_le {α : Type} {f : α → List Nat} {b : Nat} : ∀ {l : List α}, (∀ x ∈ l, (f x).length ≤ b) → (l.map f).flatten.length ≤ b * l.length
  | [], _ => by simp
  | x :: r, h => by
    have h1 := h x List.mem_cons_self
    have h2 := flat_le (l := r) fun y hy => h y (List.mem_cons_of_mem _ hy)
    simp only [List.map_cons, List.flatten_cons, List.length_append, List.length_cons, Nat.mul_add]
    omega
theorem texts_le : ∀ {ks : List Kd}, (∀ k ∈ ks, k.text.length ≤ 20 + 14000 * k.cnt) → (Kd.texts ks).length ≤ 20 * ks.length + 14000 * Kd.cnts ks
  | [], _ => by simp [Kd.texts]
  | k :: r, h => by
    have h1 := h k List.mem_cons_self
    have h2 := texts_le (ks := r) fun y hy => h y (List.mem_cons_of_mem _ hy)
    simp only [Kd.texts, Kd.cnts, List.length_append, List.length_cons]
    omega
/-- how long a good part's form is -/
theorem text_le {k : Kd} (h : k.Good) : k.text.length ≤ 20 + 14000 * k.cnt := by
  induction h with
  | txt hx _ => have := (plain_of hx).1; simp only [Kd.text]; omega
  | hol hw => have := (word_of hw).2.1; simp [Kd.text]; omega
  | el g1 g2 g3 g4 g5 g6 g7 g8 g9 g10 g11 ih =>
    rename_i p l ds as ks
    have t1 := name_le g1 g2
    have t2 := flat_le (f := dcText) (b := 50) (l := ds) fun q hq => dcText_le (g3 q hq)
    have t3 := flat_le (f := atText) (b := 50) (l := as) fun q hq => atText_le (g5 q hq)
    have t4 := texts_le ih
    simp only [Kd.text, Kd.cnt]
    split <;> simp only [List.length_cons, List.length_append, List.length_nil] <;> omega
theorem cnt_le {k : Kd} : ∀ {ks : List Kd}, k ∈ ks → k.cnt ≤ Kd.cnts ks
  | q :: ks, h => by
    simp only [Kd.cnts]
    rcases List.mem_cons.mp h with rfl | h
    · omega
    · have := cnt_le h; omega
theorem texts_app : ∀ a b : List Kd, Kd.texts (a ++ b) = Kd.texts a ++ Kd.texts b
  | [], b => rfl
  | k :: a, b => by simp [Kd.texts, texts_app a b]
theorem r_element_text {k : Kd} (hg : k.Good) (hel : k.isEl = true) (hc : k.cnt ≤ 60) : ∀ {n : Nat}, k.lv + 1 ≤ n → ∀ S, runs fs n "element_text" [.p k.toP] S = .ok (pstr k.text) S := by
  induction hg with
  | txt _ _ => cases hel
  | hol _ => cases hel
  | el g1 g2 g3 g4 g5 g6 g7 g8 g9 g10 g11 ih =>
    rename_i p l ds as ks
    intro n hn S
    have hlv : (Kd.el p l ds as ks).lv = Kd.lvs ks + 1 := rfl
    have hcn : (Kd.el p l ds as ks).cnt = Kd.cnts ks + 1 := rfl
    have p8 := (pre_of g1).1
    have l8 := (loc_of g2).2.1
    have n17 := name_le g1 g2
    have t2 := flat_le (f := dcText) (b := 50) (l := ds) fun q hq => dcText_le (g3 q hq)
    have t3 := flat_le (f := atText) (b := 50) (l := as) fun q hq => atText_le (g5 q hq)
    have t4 := texts_le fun k hk => text_le (g7 k hk)
    rw [run_element_text (by omega)]
    refine call_go ?_ rfl
    unfold m_element_text
    have y1 := fun S => r_name_text (n := n - 1) (by omega) (p := p) (l := l) (by rw [sizeLine_eq]; omega) S
    have y2 := fun S => a_str S (x := [60]) (y := nameText p l) (by rw [sizeLine_eq]; simp; omega)
    simp only [List.cons_append, List.nil_append] at y2
    generalize hpt : (Kd.el p l ds as ks).toP = pt
    have i1 : ∀ S, idxF (.p pt) (pint 1) S = some (tp [.str p, .str l], S) := fun S => by subst hpt; simp [Kd.toP]
    have i2 : ∀ S, idxF (.p pt) (pint 2) S = some (tp (ds.map dcP), S) := fun S => by subst hpt; simp [Kd.toP]
    have i3 : ∀ S, idxF (.p pt) (pint 3) S = some (tp (as.map atP), S) := fun S => by subst hpt; simp [Kd.toP]
    have i4 : ∀ S, idxF (.p pt) (pint 4) S = some (tp (ks.map Kd.toP), S) := fun S => by subst hpt; simp [Kd.toP, toPs_map]
    refine go_nx (st1 := [some (.p pt), some (pstr (nameText p l)), none, none, none, none, none, none]) (S1 := ext S []) (by simp [i1, y1]) ?_
    refine go_nx (st1 := [some (.p pt), some (pstr (nameText p l)), some (.ref S.objs.length), none, none, none, none, none]) (S1 := ext S [strsD [60 :: nameText p l]]) (by simp [y2, lstF, strsD]) ?_
    refine go_forA (f := dcP) (ys := ds) (o := [strsD [60 :: nameText p l]]) (fun r st o => ∃ done v w, ds = done ++ r ∧ st = [some (.p pt), some (pstr (nameText p l)), some (.ref S.objs.length), v, w, none, none, none] ∧ envTop [v, w] = 0 ∧ o = [strsD ((60 :: nameText p l) :: done.map dcText)]) (by simp [i2]) ⟨[], none, none, rfl, rfl, rfl, rfl⟩ ?_ ?_ ?_
    · rintro q r st o' ⟨done, v, w, hd, rfl, hv, rfl⟩
      have hq := dc_le (g3 q (by rw [hd]; simp))
      have hz : ((60 :: nameText p l) :: done.map dcText).length < sizeLine := by rw [hd] at g9; simp at g9 ⊢; rw [sizeLine_eq]; omega
      have z1 := fun x => app_str0 (S := S) (r := []) (x := x) hz
      have z2 := recv_str0 S ((60 :: nameText p l) :: done.map dcText) []
      have z3 := fun x S (hx : x.length ≤ 20) => r_pair_text (n := n - 1) (by omega) (x := x) (y := q.2) (by rw [sizeLine_eq]; omega) S
      have z4 := fun S => a_str S (x := barred) (y := [58]) (by rw [sizeLine_eq]; simp)
      have z5 := fun S => a_str S (x := barred ++ [58]) (y := q.1) (by rw [sizeLine_eq]; simp; omega)
      refine ⟨_, [some (.p pt), some (pstr (nameText p l)), some (.ref S.objs.length), some (pstr q.1), some (pstr q.2), none, none, none], [strsD ((60 :: nameText p l) :: (done ++ [q]).map dcText)], rfl, ?_, by simp, ⟨done ++ [q], _, _, by simp [hd], rfl, rfl, rfl⟩⟩
      refine seq_nil ?_
      by_cases h0 : q.1 = []
      · have z6 := z3 barred (ext S [strsD ((60 :: nameText p l) :: done.map dcText)]) (by simp)
        simp [h0, z2, z6, z1, dcText]
      · have z6 := z3 (barred ++ 58 :: q.1) (ext S [strsD ((60 :: nameText p l) :: done.map dcText)]) (by simp; omega)
        simp only [List.cons_append, List.nil_append] at z4 z5 z6
        simp [h0, z2, z6, z1, dcText, z4, z5]
    · rintro st o' ⟨done, v, w, hd, rfl, hv, rfl⟩
      simp only [envTop_c] at hv ⊢
      simp [envTop_1, envTop_0] at hv ⊢
      omega
    rintro st o' ⟨done, v3, v4, hd, rfl, hv34, rfl⟩
    rw [List.append_nil] at hd
    subst hd
    obtain ⟨h1, eh1⟩ : ∃ h1, h1 = (60 :: nameText p l) :: ds.map dcText := ⟨_, rfl⟩
    have hl1 : h1.length ≤ 101 := by rw [eh1]; simp; exact g9
    have hf1 : h1.flatten = 60 :: nameText p l ++ (ds.map dcText).flatten := by rw [eh1]; simp
    rw [← eh1]
    refine go_forA (f := atP) (ys := as) (o := [strsD h1]) (fun r st o => ∃ done v w, as = done ++ r ∧ st = [some (.p pt), some (pstr (nameText p l)), some (.ref S.objs.length), v3, v4, v, w, none] ∧ envTop [v, w] = 0 ∧ o = [strsD (h1 ++ done.map atText)]) (by simp [i3]) ⟨[], none, none, rfl, rfl, rfl, by simp⟩ ?_ ?_ ?_
    · rintro q r st o' ⟨done, v, w, hd, rfl, hv, rfl⟩
      have hok := g5 q (by rw [hd]; simp)
      simp only [atOk, Bool.and_eq_true] at hok
      have q1 := (pre_of hok.1.1).1
      have q2 := (loc_of hok.1.2).2.1
      have q3 := name_le hok.1.1 hok.1.2
      have q4 := av_le hok.2
      have hz : (h1 ++ done.map atText).length < sizeLine := by rw [hd] at g10; simp at g10 ⊢; rw [sizeLine_eq]; omega
      have z1 := fun x => app_str0 (S := S) (r := []) (x := x) hz
      have z2 := recv_str0 S (h1 ++ done.map atText) []
      have z3 := fun S => r_pair_text (n := n - 1) (by omega) (x := nameText q.1.1 q.1.2) (y := q.2.text) (by rw [sizeLine_eq]; omega) S
      have z4 := fun S => r_name_text (n := n - 1) (by omega) (p := q.1.1) (l := q.1.2) (by rw [sizeLine_eq]; omega) S
      refine ⟨_, [some (.p pt), some (pstr (nameText p l)), some (.ref S.objs.length), v3, v4, some (tp [.str q.1.1, .str q.1.2]), some (.p q.2.toP), none], [strsD (h1 ++ (done ++ [q]).map atText)], rfl, ?_, ?_, ⟨done ++ [q], _, _, by simp [hd], rfl, rfl, rfl⟩⟩
      · refine seq_nil ?_
        obtain ⟨⟨qa, qb⟩, v⟩ := q
        cases v with
        | plain x =>
          simp only [Av.text] at z3
          simp [z2, z3, z4, z1, atText, Av.toP, Av.text]
        | quoted p2 l2 =>
          have ha' : isPre p2 = true ∧ isLoc l2 = true := by simpa [Av.ok] using hok.2
          have h8 := (pre_of ha'.1).1
          have h9 := (loc_of ha'.2).2.1
          have h10 := name_le ha'.1 ha'.2
          have z5 := fun S => r_name_text (n := n - 1) (by omega) (p := p2) (l := l2) (by rw [sizeLine_eq]; omega) S
          have z6 := fun S => a_str S (x := [64]) (y := nameText p2 l2) (by rw [sizeLine_eq]; simp; omega)
          simp only [Av.text, List.cons_append, List.nil_append] at z3 z6
          simp [z2, z3, z4, z5, z6, z1, atText, Av.toP, Av.text]
      · simp only [envTop_c] at hv34 ⊢
        simp [envTop_1, envTop_0] at hv34 ⊢
        omega
    · rintro st o' ⟨done, v, w, hd, rfl, hv, rfl⟩
      simp only [envTop_c] at hv hv34 ⊢
      simp [envTop_1, envTop_0] at hv hv34 ⊢
      omega
    rintro st o' ⟨done, v5, v6, hd, rfl, hv56, rfl⟩
    rw [List.append_nil] at hd
    subst hd
    obtain ⟨h2, eh2⟩ : ∃ h2, h2 = h1 ++ as.map atText := ⟨_, rfl⟩
    have hl2 : h2.length ≤ 201 := by rw [eh2]; simp; omega
    have hf2 : h2.flatten = 60 :: nameText p l ++ (ds.map dcText).flatten ++ (as.map atText).flatten := by rw [eh2]; simp [hf1]
    have hn2 : h2.flatten.length ≤ 12000 := by
      rw [hf2]
      simp only [List.cons_append, List.length_append, List.length_cons]
      omega
    rw [← eh2]
    have e0 : ∀ S, eqF (tp (ks.map Kd.toP)) (tp []) S = some (pbl ks.isEmpty, S) := fun S => by rw [eq_tnil]; simp
    have hrec : ∀ S x, recvD S (pstr x) = some "str" := fun _ _ => rfl
    by_cases hks : ks = []
    · subst hks
      refine go_rt (ex := [strsD h2]) ?_
      have z1 := join_str0 (S := S) (l := h2) (r := []) (by omega)
      have z2 := fun S => a_str S (x := h2.flatten) (y := [47]) (by rw [sizeLine_eq]; simp only [List.length_cons, List.length_nil]; omega)
      have z3 := fun S => a_str S (x := h2.flatten ++ [47]) (y := [62]) (by rw [sizeLine_eq]; simp only [List.length_append, List.length_cons, List.length_nil]; omega)
      have et : (Kd.el p l ds as []).text = h2.flatten ++ [47] ++ [62] := by rw [hf2]; simp [Kd.text]
      rw [et]
      simp only [w_if, w_b, w_2, w_var, List.getElem?_cons_succ, List.getElem?_cons_zero, Res.bind_ok, w_c, i4, ofOpt_some, w_n, w_nil, t_nil, e0, sbind_ok, List.isEmpty_nil, if_true]
      simp only [w_seq, w_ret, w_2, w_meth, w_c, Res.bind_ok, hrec, List.mem_singleton, if_true, w_cons, w_var, List.getElem?_cons_succ, List.getElem?_cons_zero, w_nil, z1, ofOpt_some, z2, z3, sbind_ok]
    have hne : ks.isEmpty = false := by cases ks <;> simp_all
    refine go_nx (st1 := [some (.p pt), some (pstr (nameText p l)), some (.ref S.objs.length), v3, v4, v5, v6, none]) (S1 := ext S [strsD h2]) ?_ ?_
    · simp only [w_if, w_b, w_2, w_var, List.getElem?_cons_succ, List.getElem?_cons_zero, Res.bind_ok, w_c, i4, ofOpt_some, w_n, w_nil, t_nil, e0, hne, sbind_ok, Bool.false_eq_true, if_false]
      rfl
    have ha := app_str0 (S := S) (l := h2) (r := []) (x := [62]) (by rw [sizeLine_eq]; omega)
    have hr2 := recv_str0 S h2 []
    refine go_nx (st1 := [some (.p pt), some (pstr (nameText p l)), some (.ref S.objs.length), v3, v4, v5, v6, none]) (S1 := ext S [strsD (h2 ++ [[62]])]) (by simp [ha, hr2]) ?_
    obtain ⟨h3, eh3⟩ : ∃ h3, h3 = h2 ++ [[62]] := ⟨_, rfl⟩
    have hl3 : h3.length ≤ 202 := by rw [eh3]; simp; omega
    have hf3 : h3.flatten = h2.flatten ++ [62] := by rw [eh3]; simp
    rw [← eh3]
    refine go_forA (f := Kd.toP) (ys := ks) (o := [strsD h3]) (fun r st o => ∃ done v, ks = done ++ r ∧ st = [some (.p pt), some (pstr (nameText p l)), some (.ref S.objs.length), v3, v4, v5, v6, v] ∧ envTop [v] = 0 ∧ o = [strsD (h3 ++ done.map Kd.text)]) (by simp [i4]) ⟨[], none, rfl, rfl, rfl, by simp⟩ ?_ ?_ ?_
    · rintro k r st o' ⟨done, v, hd, rfl, hv, rfl⟩
      have hk : k ∈ ks := by rw [hd]; simp
      have gk := g7 k hk
      have hz : (h3 ++ done.map Kd.text).length < sizeLine := by rw [hd] at g11; simp at g11 ⊢; rw [sizeLine_eq]; omega
      have z1 := fun x => app_str0 (S := S) (r := []) (x := x) hz
      have z2 := recv_str0 S (h3 ++ done.map Kd.text) []
      refine ⟨_, [some (.p pt), some (pstr (nameText p l)), some (.ref S.objs.length), v3, v4, v5, v6, some (.p k.toP)], [strsD (h3 ++ (done ++ [k]).map Kd.text)], rfl, ?_, ?_, ⟨done ++ [k], _, by simp [hd], rfl, rfl, rfl⟩⟩
      · refine seq_nil ?_
        cases k with
        | txt x => simp [z2, z1, Kd.toP, Kd.text]
        | hol x =>
          have hx := (word_of (by cases gk; assumption : isWord x = true)).2.1
          have y3 := fun S => a_str S (x := [123]) (y := x) (by rw [sizeLine_eq]; simp; omega)
          have y4 := fun S => a_str S (x := 123 :: x) (y := [125]) (by rw [sizeLine_eq]; simp; omega)
          simp only [List.cons_append, List.nil_append] at y3 y4
          simp [z2, z1, Kd.toP, Kd.text, y3, y4]
        | el p' l' ds' as' ks' =>
          have hc1 := cnt_le hk
          have hc2 := lv_le hk
          have z3 := fun S => ih _ hk rfl (by omega) (n := n - 1) (by omega) S
          generalize htx : (Kd.el p' l' ds' as' ks').text = tx at z3 ⊢
          have i0 : ∀ S, idxF (.p (Kd.el p' l' ds' as' ks').toP) (pint 0) S = some (pstr wElement, S) := fun S => by simp [Kd.toP]
          have k0 : ∀ S, kindD S (.p (Kd.el p' l' ds' as' ks').toP) = some "tuple" := fun S => by simp [Kd.toP]
          simp [z2, z1, z3, i0, k0, htx]
      · simp only [envTop_c] at hv34 hv56 ⊢
        simp [envTop_1, envTop_0] at hv34 hv56 ⊢
        omega
    · rintro st o' ⟨done, v, hd, rfl, hv, rfl⟩
      simp only [envTop_c] at hv hv34 hv56 ⊢
      simp [envTop_1, envTop_0] at hv hv34 hv56 ⊢
      omega
    rintro st o' ⟨done, v7, hd, rfl, hv7, rfl⟩
    rw [List.append_nil] at hd
    subst hd
    have et : (Kd.el p l ds as ks).text = (h3 ++ ks.map Kd.text).flatten ++ [60] ++ [47] ++ nameText p l ++ [62] := by
      rw [List.flatten_append, ← texts_map, hf3, hf2]
      simp [Kd.text, hne, hks]
    have hn3 : (h3 ++ ks.map Kd.text).flatten.length ≤ 900000 := by
      rw [List.flatten_append, ← texts_map, hf3]
      simp only [List.length_append, List.length_cons, List.length_nil]
      omega
    refine go_rt (ex := [strsD (h3 ++ ks.map Kd.text)]) ?_
    generalize h3 ++ ks.map Kd.text = h4 at et hn3 ⊢
    have z1 := join_str0 (S := S) (l := h4) (r := []) (by omega)
    have z2 := fun S => a_str S (x := h4.flatten) (y := [60]) (by rw [sizeLine_eq]; simp only [List.length_cons, List.length_nil]; omega)
    have z3 := fun S => a_str S (x := h4.flatten ++ [60]) (y := [47]) (by rw [sizeLine_eq]; simp only [List.length_append, List.length_cons, List.length_nil]; omega)
    have z4 := fun S => a_str S (x := h4.flatten ++ [60] ++ [47]) (y := nameText p l) (by rw [sizeLine_eq]; simp only [List.length_append, List.length_cons, List.length_nil]; omega)
    have z5 := fun S => a_str S (x := h4.flatten ++ [60] ++ [47] ++ nameText p l) (y := [62]) (by rw [sizeLine_eq]; simp only [List.length_append, List.length_cons, List.length_nil]; omega)
    rw [et]
    simp only [w_ret, w_2, w_meth, w_c, Res.bind_ok, hrec, List.mem_singleton, if_true, w_cons, w_var, List.getElem?_cons_succ, List.getElem?_cons_zero, w_nil, z1, ofOpt_some, z2, z3, z4, z5, sbind_ok]
theorem r_written {k : Kd} (hg : k.Good) (hel : k.isEl = true) (hc : k.cnt ≤ 60) (hv : k.lv ≤ 8) (hh : k.hs.Nodup) (hhl : k.hs.length ≤ 1000000) {n : Nat} (hn : 10 ≤ n) (S : Sto) : runs fs n "written" [.p k.toP] S = .ok (pstr k.text) S := by
  rw [run_written (by omega)]
  refine call_rt (ex := []) ?_ rfl
  have z1 := fun S => r_need_part (n := n - 1) (by omega) hg hel hc hv hh hhl S
  have z2 := fun S => r_element_text hg hel hc (n := n - 1) (by omega) S
  simp [m_written, z1, z2]
theorem r_size_of {k : Kd} (hg : k.Good) (hel : k.isEl = true) (hc : k.cnt ≤ 60) (hv : k.lv ≤ 8) (hh : k.hs.Nodup) (hhl : k.hs.length ≤ 1000000) {n : Nat} (hn : 11 ≤ n) (S : Sto) : runs fs n "size_of" [.p k.toP] S = .ok (pint k.text.length) S := by
  rw [run_size_of (by omega)]
  refine call_rt (ex := []) ?_ rfl
  have z1 := fun S => r_written hg hel hc hv hh hhl (n := n - 1) (by omega) S
  have hl := text_le hg
  have z2 := fun S => l_str S (x := k.text) (by rw [sizeLine_eq]; omega)
  simp [m_size_of, z1, z2]
end MiLaw
set_option Elab.async false
set_option linter.all false
set_option maxRecDepth 100000
set_option maxHeartbeats 4000000
/-! the reader: signs, words, runs, letters -/
namespace MiLaw
open PySem Mi
/-- none of some signs comes first -/
def NoHead (sg r : List Nat) : Prop := ∀ c r', r = c :: r' → c ∉ sg
variable {T w r sg : List Nat} {a b c : Nat} {i : Int} {n : Nat}
theorem r_need_sign (hn : 1 ≤ n) (hi : i = (a : Nat)) (h : Stand T a (c :: r)) (hc : c ∈ sg) (hT : T.length ≤ sizeLine) (S : Sto) : runs fs n "need_sign" [pstr T, pint i, pstr sg] S = .ok pnon S := by
  subst hi
  rw [run_need_sign hn]
  refine call_nx (ex := []) (st := [some (pstr T), some (pint (a : Nat)), some (pstr sg)]) ?_
  have z1 := fun S => h.idx hT S
  have z2 := fun S => l_str S hT
  have z3 : ¬ ((T.length : Nat) : Int) ≤ (a : Nat) := by have := h.lt; omega
  simp [m_need_sign, z1, z2, z3, hc]
theorem r_need_word (hn : 2 ≤ n) (hi : i = (a : Nat)) (hb : b = a + w.length) (h : Stand T a (w ++ r)) (hT : T.length ≤ sizeLine) (S : Sto) : runs fs n "need_word" [pstr T, pint i, pstr w] S = .ok (pint (b : Nat)) S := by
  subst hi
  rw [run_need_word (by omega)]
  refine call_go ?_ rfl
  unfold m_need_word
  have hw : w.length ≤ sizeLine := by have := h.len; simp at this; omega
  refine go_forE (w := w) (o := []) (fun y st o => ∃ done v3 v4, w.zipIdx = done ++ y ∧ st = [some (pstr T), some (pint (a : Nat)), some (pstr w), v3, v4] ∧ envTop [v3, v4] = 0 ∧ o = []) (by simp) ⟨[], none, none, rfl, rfl, rfl, rfl⟩ ?_ ?_ ?_
  · rintro ⟨ch, k⟩ y st o' ⟨done, v3, v4, hd, rfl, hv, rfl⟩
    have hm : (ch, k) ∈ w.zipIdx := by rw [hd]; simp
    have hk : w[k]? = some ch := by simpa using List.mk_mem_zipIdx_iff_getElem?.mp hm
    have hs : Stand T (a + k) (ch :: (w.drop (k + 1) ++ r)) := by
      have e : w = w.take k ++ ch :: w.drop (k + 1) := by
        obtain ⟨hlt, hx⟩ := List.getElem?_eq_some_iff.mp hk
        rw [← hx, List.getElem_cons_drop, List.take_append_drop]
      have hlt := (List.getElem?_eq_some_iff.mp hk).1
      have h' := h
      rw [e, List.append_assoc] at h'
      have z := h'.app
      rw [List.length_take, Nat.min_eq_left (by omega)] at z
      exact z
    have z := fun S => r_need_sign (n := n - 1) (by omega) (i := (a : Nat) + (k : Nat)) (a := a + k) (by push_cast; rfl) hs (sg := [ch]) (by simp) hT S
    refine ⟨_, [some (pstr T), some (pint (a : Nat)), some (pstr w), some (pint (k : Nat)), some (pstr [ch])], [], rfl, by simp [z], by simp, done ++ [(ch, k)], _, _, by simp [hd], rfl, rfl, rfl⟩
  · rintro st o' ⟨done, v3, v4, hd, rfl, hv, rfl⟩
    simp only [envTop_c] at hv ⊢
    simp [envTop_1] at hv ⊢
    omega
  · rintro st o' ⟨done, v3, v4, hd, rfl, hv, rfl⟩
    refine ⟨[], ?_⟩
    have z := fun S => l_str S hw
    simp [z, hb]
theorem r_run_end (hn : 1 ≤ n) (hi : i = (a : Nat)) (hb : b = a + w.length) (h : Stand T a (w ++ r)) (hw : ∀ c ∈ w, c ∈ sg) (hr : NoHead sg r) (hT : T.length ≤ sizeLine) (S : Sto) : runs fs n "run_end" [pstr T, pint i, pstr sg] S = .ok (pint (b : Nat)) S := by
  subst hi
  rw [run_run_end (by omega)]
  refine call_go ?_ rfl
  unfold m_run_end
  have z2 := fun S => l_str S hT
  refine go_while (o := []) (fun m st o => ∃ a' w', st = [some (pstr T), some (pint (a' : Nat)), some (pstr sg)] ∧ Stand T a' (w' ++ r) ∧ (∀ c ∈ w', c ∈ sg) ∧ a' + w'.length = b ∧ m = w'.length ∧ o = []) (fun st o => st = [some (pstr T), some (pint (b : Nat)), some (pstr sg)] ∧ o = []) w.length ⟨a, w, rfl, h, hw, hb.symm, rfl, rfl⟩ ?_ ?_
  · rintro m st o' ⟨a', w', rfl, hs, hw', hab, hm, rfl⟩
    cases w' with
    | cons ch w' =>
      have z1 := fun S => hs.idx hT S
      have z3 : ((a' : Nat) : Int) < (T.length : Nat) := by have := Stand.lt hs; omega
      have z4 := hw' ch List.mem_cons_self
      refine ⟨true, [], by simp [z1, z2, z3, z4], ?_⟩
      rw [if_pos rfl]
      refine ⟨[some (pstr T), some (pint ((a' + 1 : Nat) : Int)), some (pstr sg)], [], by simp, by simp, w'.length, by simp at hm; omega, a' + 1, w', rfl, Stand.next hs, fun c hc => hw' c (List.mem_cons_of_mem _ hc), by simp at hab; omega, rfl, rfl⟩
    | nil =>
      simp only [List.nil_append] at hs
      simp only [List.length_nil, Nat.add_zero] at hab
      subst hab
      refine ⟨false, [], ?_, ?_⟩
      · cases r with
        | nil =>
          have := hs.len
          have z3 : ¬ ((a' : Nat) : Int) < (T.length : Nat) := by simp at this; omega
          simp [z2, z3]
        | cons c' r' =>
          have z1 := fun S => hs.idx hT S
          have z3 : ((a' : Nat) : Int) < (T.length : Nat) := by have := Stand.lt hs; omega
          have z4 := hr c' r' rfl
          simp [z1, z2, z3, z4]
      · rw [if_neg (by simp)]
        exact ⟨by simp, rfl, rfl⟩
  · rintro st o' ⟨rfl, rfl⟩
    exact ⟨[], by simp⟩
theorem r_letters_at (hn : 2 ≤ n) (hi : i = (a : Nat)) (hb : b = a + w.length) (h : Stand T a (w ++ r)) (hw : ∀ c ∈ w, c ∈ letters) (h1 : 1 ≤ w.length) (h8 : w.length ≤ 8) (hr : NoHead letters r) (hT : T.length ≤ sizeLine) (S : Sto) : runs fs n "letters_at" [pstr T, pint i] S = .ok (tp [.str w, .int (b : Nat)]) S := by
  subst hi
  rw [run_letters_at (by omega)]
  refine call_rt (ex := []) ?_ rfl
  have z1 : ∀ S, runs fs (n - 1) "need_sign" [pstr T, pint (a : Nat), pstr letters] S = .ok pnon S := fun S => by
    cases w with
    | nil => simp at h1
    | cons c w => exact r_need_sign (by omega) rfl h (hw c List.mem_cons_self) hT S
  have z2 := fun S => r_run_end (n := n - 1) (by omega) (i := (a : Nat)) rfl hb h hw hr hT S
  have z3 : ∀ S, minF [pint (b : Nat), pint ((a : Nat) + 8)] S = some (pint (b : Nat), S) := fun S => by
    have : ¬ ((a : Nat) : Int) + 8 < (b : Nat) := by omega
    simp [minF, this]
  have z4 := fun S => h.slc hT S
  rw [← hb] at z4
  simp [m_letters_at, z1, z2, z3, z4]
theorem r_word_at (hn : 3 ≤ n) (hi : i = (a : Nat)) (hb : b = a + w.length) (h : Stand T a (w ++ r)) (hw : ∀ c ∈ w, c ∈ letters) (h1 : 1 ≤ w.length) (h8 : w.length ≤ 8) (hne : w ≠ barred) (hr : NoHead letters r) (hT : T.length ≤ sizeLine) (S : Sto) : runs fs n "word_at" [pstr T, pint i] S = .ok (tp [.str w, .int (b : Nat)]) S := by
  rw [run_word_at (by omega)]
  refine call_rt (ex := []) ?_ rfl
  have z := fun S => r_letters_at (n := n - 1) (by omega) hi hb h hw h1 h8 hr hT S
  simp [m_word_at, z, hne]
end MiLaw
set_option Elab.async false
set_option linter.all false
set_option maxRecDepth 100000
set_option maxHeartbeats 4000000
/-! the reader: names, addresses, values, declarations -/
namespace MiLaw
open PySem Mi
variable {T w r sg p l : List Nat} {a b c : Nat} {i : Int} {n : Nat}
def nmFirst (p l : List Nat) : List Nat := if p = [] then l else p
def nmRest (p l : List Nat) : List Nat := if p = [] then [] else 58 :: l
theorem nameText_split (p l : List Nat) : nameText p l = nmFirst p l ++ nmRest p l := by
  unfold nameText nmFirst nmRest
  split <;> simp
theorem first_ok (hp : isPre p = true) (hl : isLoc l = true) : (∀ c ∈ nmFirst p l, c ∈ letters) ∧ 1 ≤ (nmFirst p l).length ∧ (nmFirst p l).length ≤ 8 ∧ nmFirst p l ≠ barred := by
  unfold nmFirst
  split
  · obtain ⟨h1, h2, h3, h4⟩ := loc_of hl
    exact ⟨h3, h1, h2, h4⟩
  · rename_i h
    obtain ⟨h1, h2, h3⟩ := pre_of hp
    refine ⟨h2, ?_, h1, h3⟩
    cases p with
    | nil => exact absurd rfl h
    | cons _ _ => simp
/-- what follows a name: no letter, no colon -/
def EndName (r : List Nat) : Prop := NoHead letters r ∧ NoHead [58] r
theorem rest_head (h : NoHead letters r) : NoHead letters (nmRest p l ++ r) := by
  unfold nmRest
  split
  · simpa using h
  · intro c r' e
    simp only [List.cons_append, List.cons.injEq] at e
    rw [← e.1]
    decide
theorem r_name_behind (hn : 4 ≤ n) (hi : i = (a : Nat)) (hb : b = a + (nmRest p l).length) (h : Stand T a (nmRest p l ++ r)) (hp : isPre p = true) (hl : isLoc l = true) (hr : EndName r) (hT : T.length ≤ sizeLine) (S : Sto) : runs fs n "name_behind" [pstr T, pstr (nmFirst p l), pint i] S = .ok (tp [.tup [.str p, .str l], .int (b : Nat)]) S := by
  subst hi
  rw [run_name_behind (by omega)]
  refine call_rt (ex := []) ?_ rfl
  obtain ⟨f1, f2, f3, f4⟩ := first_ok hp hl
  have z2 := fun S => l_str S hT
  by_cases h0 : p = []
  · subst h0
    simp only [nmRest, nmFirst, if_true, List.nil_append, List.length_nil, Nat.add_zero] at h hb f4 ⊢
    subst hb
    cases r with
    | nil =>
      have := h.len
      have z3 : ¬ ((b : Nat) : Int) < (T.length : Nat) := by simp at this; omega
      simp [m_name_behind, z2, z3, f4]
    | cons c' r' =>
      have z1 := fun S => h.idx hT S
      have z3 : ((b : Nat) : Int) < (T.length : Nat) := by have := Stand.lt h; omega
      have z4 : ¬ c' = 58 := by simpa using hr.2 c' r' rfl
      simp [m_name_behind, z1, z2, z3, z4, f4]
  · simp only [nmRest, nmFirst, if_neg h0, List.cons_append, List.length_cons] at h hb f4 ⊢
    obtain ⟨l1, l2, l3, l4⟩ := loc_of hl
    have z1 := fun S => h.idx hT S
    have z3 : ((a : Nat) : Int) < (T.length : Nat) := by have := Stand.lt h; omega
    have z4 := fun S => r_word_at (n := n - 1) (by omega) (i := (a : Nat) + 1) (a := a + 1) (by push_cast; rfl) (b := b) (by omega) (Stand.next h) l3 l1 l2 l4 hr.1 hT S
    simp [m_name_behind, z1, z2, z3, z4, f4]
theorem r_name_at (hn : 5 ≤ n) (hi : i = (a : Nat)) (hb : b = a + (nameText p l).length) (h : Stand T a (nameText p l ++ r)) (hp : isPre p = true) (hl : isLoc l = true) (hr : EndName r) (hT : T.length ≤ sizeLine) (S : Sto) : runs fs n "name_at" [pstr T, pint i] S = .ok (tp [.tup [.str p, .str l], .int (b : Nat)]) S := by
  rw [run_name_at (by omega)]
  refine call_rt (ex := []) ?_ rfl
  obtain ⟨f1, f2, f3, f4⟩ := first_ok hp hl
  rw [nameText_split, List.append_assoc] at h
  rw [nameText_split, List.length_append] at hb
  obtain ⟨e, he⟩ : ∃ e, e = a + (nmFirst p l).length := ⟨_, rfl⟩
  have z1 := fun S => r_letters_at (n := n - 1) (by omega) hi he h f1 f2 f3 (rest_head hr.1) hT S
  have h2 := h.app
  rw [← he] at h2
  have z2 := fun S => r_name_behind (n := n - 1) (by omega) (i := (e : Nat)) rfl (b := b) (by omega) h2 hp hl hr hT S
  simp [m_name_at, z1, z2]
theorem no_quote_addr : NoHead addressSigns (34 :: r) := by
  intro c r' e
  simp only [List.cons.injEq] at e
  rw [← e.1]
  decide
theorem no_quote_plain : NoHead plainSigns (34 :: r) := by
  intro c r' e
  simp only [List.cons.injEq] at e
  rw [← e.1]
  decide
theorem no_quote_name : EndName (34 :: r) := by
  constructor <;> intro c r' e <;> simp only [List.cons.injEq] at e <;> rw [← e.1] <;> decide
theorem r_address_at (hn : 3 ≤ n) (hi : i = (a : Nat)) (hb : b = a + w.length + 3) (h : Stand T a (61 :: 34 :: (w ++ 34 :: r))) (hw : ∀ c ∈ w, c ∈ addressSigns) (hT : T.length ≤ sizeLine) (S : Sto) : runs fs n "address_at" [pstr T, pint i] S = .ok (tp [.str w, .int (b : Nat)]) S := by
  subst hi
  rw [run_address_at (by omega)]
  refine call_rt (ex := []) ?_ rfl
  obtain ⟨e, he⟩ : ∃ e, e = a + 2 := ⟨_, rfl⟩
  obtain ⟨f, hf⟩ : ∃ f, f = e + w.length := ⟨_, rfl⟩
  have z0 := fun S => a_str S (x := [61]) (y := [34]) (by rw [sizeLine_eq]; simp)
  have z1 := fun S => r_need_word (n := n - 1) (by omega) (i := (a : Nat)) rfl (w := [61, 34]) (b := e) (by simpa using he) h hT S
  have h2 : Stand T e (w ++ 34 :: r) := by rw [he]; exact Stand.next (Stand.next h)
  have z2 := fun S => r_run_end (n := n - 1) (by omega) (i := (e : Nat)) rfl hf h2 hw no_quote_addr hT S
  have h3 := h2.app
  rw [← hf] at h3
  have z3 := fun S => r_need_word (n := n - 1) (by omega) (i := (f : Nat)) rfl (w := [34]) (b := b) (by simp; omega) h3 hT S
  have z4 := fun S => h2.slc hT S
  rw [← hf] at z4
  simp only [List.cons_append, List.nil_append] at z0
  simp [m_address_at, z0, z1, z2, z3, z4]
theorem r_value_at (hn : 6 ≤ n) {v : Av} (hv : v.ok = true) (hi : i = (a : Nat)) (hb : b = a + v.text.length + 3) (h : Stand T a (61 :: 34 :: (v.text ++ 34 :: r))) (hT : T.length ≤ sizeLine) (S : Sto) : runs fs n "value_at" [pstr T, pint i] S = .ok (tp [v.toP, .int (b : Nat)]) S := by
  subst hi
  rw [run_value_at (by omega)]
  refine call_rt (ex := []) ?_ rfl
  obtain ⟨e, he⟩ : ∃ e, e = a + 2 := ⟨_, rfl⟩
  have z0 := fun S => a_str S (x := [61]) (y := [34]) (by rw [sizeLine_eq]; simp)
  have z1 := fun S => r_need_word (n := n - 1) (by omega) (i := (a : Nat)) rfl (w := [61, 34]) (b := e) (by simpa using he) h hT S
  have zl := fun S => l_str S hT
  have h2 : Stand T e (v.text ++ 34 :: r) := by rw [he]; exact Stand.next (Stand.next h)
  simp only [List.cons_append, List.nil_append] at z0
  cases v with
  | plain x =>
    have hx : ∀ c ∈ x, c ∈ plainSigns := (plain_of hv).2
    simp only [Av.text] at h2 hb
    obtain ⟨f, hf⟩ : ∃ f, f = e + x.length := ⟨_, rfl⟩
    have z2 := fun S => r_run_end (n := n - 1) (by omega) (i := (e : Nat)) rfl hf h2 hx no_quote_plain hT S
    have h3 := h2.app
    rw [← hf] at h3
    have z3 := fun S => r_need_word (n := n - 1) (by omega) (i := (f : Nat)) rfl (w := [34]) (b := b) (by simp; omega) h3 hT S
    have z4 := fun S => h2.slc hT S
    rw [← hf] at z4
    obtain ⟨c, r', hc, hc64⟩ : ∃ c r', x ++ 34 :: r = c :: r' ∧ c ≠ 64 := by
      cases x with
      | nil => exact ⟨34, r, rfl, by decide⟩
      | cons c x =>
        refine ⟨c, _, rfl, fun e => ?_⟩
        have := hx c List.mem_cons_self
        rw [e] at this
        exact absurd this (by decide)
    have h4 := h2
    rw [hc] at h4
    have z5 := fun S => h4.idx hT S
    have z6 : ((e : Nat) : Int) < (T.length : Nat) := by have := Stand.lt h4; omega
    simp [m_value_at, z0, z1, z2, z3, z4, z5, z6, zl, hc64, Av.toP]
  | quoted p l =>
    have hv' : isPre p = true ∧ isLoc l = true := by simpa [Av.ok] using hv
    simp only [Av.text, List.cons_append, List.length_cons] at h2 hb
    have z5 := fun S => h2.idx hT S
    have z6 : ((e : Nat) : Int) < (T.length : Nat) := by have := Stand.lt h2; omega
    obtain ⟨f, hf⟩ : ∃ f, f = e + 1 + (nameText p l).length := ⟨_, rfl⟩
    have h3 := Stand.next h2
    have z2 := fun S => r_name_at (n := n - 1) (by omega) (i := (e : Nat) + 1) (by push_cast; rfl) hf h3 hv'.1 hv'.2 no_quote_name hT S
    have h4 := h3.app
    rw [← hf] at h4
    have z3 := fun S => r_need_word (n := n - 1) (by omega) (i := (f : Nat)) rfl (w := [34]) (b := b) (by simp; omega) h4 hT S
    simp [m_value_at, z0, z1, z2, z3, z5, z6, zl, Av.toP]
/-- a declaration's form behind its first word -/
def dcRest (q : Dc) : List Nat := (if q.1 = [] then [] else 58 :: q.1) ++ 61 :: 34 :: (q.2 ++ [34])
theorem dcText_split (q : Dc) : dcText q = 32 :: (barred ++ dcRest q) := by
  unfold dcText pairText dcRest
  split <;> simp
theorem no_eq_letters : NoHead letters (61 :: r) := by
  intro c r' e
  simp only [List.cons.injEq] at e
  rw [← e.1]
  decide
theorem r_declaration_at (hn : 4 ≤ n) {q : Dc} (hq : dcOk q = true) (hi : i = (a : Nat)) (hb : b = a + (dcRest q).length) (h : Stand T a (dcRest q ++ r)) (hT : T.length ≤ sizeLine) (S : Sto) : runs fs n "declaration_at" [pstr T, pint i] S = .ok (tp [dcP q, .int (b : Nat)]) S := by
  subst hi
  rw [run_declaration_at (by omega)]
  refine call_rt (ex := []) ?_ rfl
  have z0 := fun S => a_str S (x := [61]) (y := [58]) (by rw [sizeLine_eq]; simp)
  simp only [List.cons_append, List.nil_append] at z0
  have ha : ∀ c ∈ q.2, c ∈ addressSigns := by
    simp only [dcOk, Bool.and_eq_true, Bool.or_eq_true, decide_eq_true_eq] at hq
    rcases hq.2 with z | z
    · exact (addr_of z).2.2
    · rw [z]; intro c hc; cases hc
  have hp : isPre q.1 = true := by simp only [dcOk, Bool.and_eq_true] at hq; exact hq.1
  obtain ⟨p1, p2, p3⟩ := pre_of hp
  by_cases h0 : q.1 = []
  · simp only [dcRest, h0, if_true, List.nil_append, List.cons_append, List.append_assoc, List.length_cons, List.length_append, List.length_nil] at h hb
    have z1 := fun S => r_need_sign (n := n - 1) (by omega) (i := (a : Nat)) rfl h (sg := [61, 58]) (by simp) hT S
    have z2 := fun S => h.idx hT S
    have z3 := fun S => r_address_at (n := n - 1) (by omega) (i := (a : Nat)) rfl (b := b) (by omega) h ha hT S
    simp [m_declaration_at, z0, z1, z2, z3, dcP, h0]
  · simp only [dcRest, if_neg h0, List.cons_append, List.append_assoc, List.nil_append, List.length_cons, List.length_append, List.length_nil] at h hb
    have z1 := fun S => r_need_sign (n := n - 1) (by omega) (i := (a : Nat)) rfl h (sg := [61, 58]) (by simp) hT S
    have z2 := fun S => h.idx hT S
    obtain ⟨e, he⟩ : ∃ e, e = a + 1 + q.1.length := ⟨_, rfl⟩
    have h1 : 1 ≤ q.1.length := by
      cases hq1 : q.1 with
      | nil => exact absurd hq1 h0
      | cons _ _ => simp
    have h2 := Stand.next h
    have z3 := fun S => r_word_at (n := n - 1) (by omega) (i := (a : Nat) + 1) (by push_cast; rfl) he h2 p2 h1 p1 p3 no_eq_letters hT S
    have h3 := h2.app
    rw [← he] at h3
    have z4 := fun S => r_address_at (n := n - 1) (by omega) (i := (e : Nat)) rfl (b := b) (by omega) h3 ha hT S
    simp [m_declaration_at, z0, z1, z2, z3, z4, dcP]
end MiLaw
set_option Elab.async false
set_option linter.all false
set_option maxRecDepth 100000
set_option maxHeartbeats 4000000
/-! the reader: heads of elements -/
namespace MiLaw
open PySem Mi
variable {T w r sg p l : List Nat} {a b c : Nat} {i : Int} {n : Nat}
theorem dcRest_head (q : Dc) : NoHead letters (dcRest q ++ r) := by
  intro c r' e
  unfold dcRest at e
  split at e <;> simp only [List.nil_append, List.cons_append, List.cons.injEq] at e <;> rw [← e.1] <;> decide
/-- an attribute's form behind its first word -/
theorem atText_split (q : At) : atText q = 32 :: (nmFirst q.1.1 q.1.2 ++ (nmRest q.1.1 q.1.2 ++ 61 :: 34 :: (q.2.text ++ [34]))) := by
  unfold atText pairText
  rw [nameText_split]
  simp
theorem no_eq_name : EndName (61 :: r) := by
  constructor <;> intro c r' e <;> simp only [List.cons.injEq] at e <;> rw [← e.1] <;> decide
/-- what follows a head -/
def EndHead (r : List Nat) : Prop := ∃ c r', r = c :: r' ∧ (c = 47 ∨ c = 62)
theorem EndHead.name (h : EndHead r) : EndName r := by
  obtain ⟨c, r', rfl, h⟩ := h
  constructor <;> intro c2 r2 e <;> simp only [List.cons.injEq] at e <;> rw [← e.1] <;> rcases h with rfl | rfl <;> decide
theorem rows_name {ds : List Dc} {as : List At} (h : EndHead r) : EndName ((ds.map dcText).flatten ++ ((as.map atText).flatten ++ r)) := by
  have sp : ∀ x : List Nat, EndName (32 :: x) := fun x => by
    constructor <;> intro c r' e <;> simp only [List.cons.injEq] at e <;> rw [← e.1] <;> decide
  cases ds with
  | cons q ds =>
    rw [List.map_cons, List.flatten_cons, dcText_split]
    exact sp _
  | nil =>
    cases as with
    | cons q as =>
      rw [List.map_cons, List.flatten_cons, atText_split]
      exact sp _
    | nil => simpa using h.name
abbrev mosD (ds : List Dc) (as : List At) : List MO := [.lst ((ds.map dcP).map D.p), .lst ((as.map atP).map D.p)]
structure HdI (T : List Nat) (nm : P) (L : Nat) (b : Nat) (r : List Nat) (ds : List Dc) (as : List At) (m : Nat) (st : Mi.Env) (o : List MO) (dd rd : List Dc) (da ra : List At) (e : Nat) : Prop where
  env : ∃ v5 v6 v7 v8 v9, st = [some (pstr T), some (pint (e : Nat)), some (.p nm), some (.ref L), some (.ref (L + 1)), v5, v6, v7, v8, v9] ∧ envTop [v5, v6, v7, v8, v9] = 0
  obj : o = [.lst ((dd.map dcP).map D.p), .lst ((da.map atP).map D.p)]
  ds : ds = dd ++ rd
  as : as = da ++ ra
  one : rd = [] ∨ da = []
  at_ : Stand T e ((rd.map dcText).flatten ++ ((ra.map atText).flatten ++ r))
  m : m = rd.length + ra.length
theorem r_head_at (hn : 7 ≤ n) {ds : List Dc} {as : List At} (hi : i = (a : Nat)) (hp : isPre p = true) (hl : isLoc l = true) (hds : ∀ q ∈ ds, dcOk q = true) (has : ∀ q ∈ as, atOk q = true) (ld : ds.length ≤ 100) (la : as.length ≤ 100)
    (h : Stand T a (60 :: (nameText p l ++ ((ds.map dcText).flatten ++ ((as.map atText).flatten ++ r))))) (hr : EndHead r) (hb : b = a + 1 + (nameText p l).length + (ds.map dcText).flatten.length + (as.map atText).flatten.length) (hT : T.length ≤ sizeLine) (S : Sto) :
    runs fs n "head_at" [pstr T, pint i] S = .ok (tp [.tup [.tup [.str p, .str l], .tup (ds.map dcP), .tup (as.map atP)], .int (b : Nat)]) S := by
  subst hi
  rw [run_head_at (by omega)]
  refine call_go ?_ rfl
  unfold m_head_at
  have zl := fun S => l_str S hT
  have z1 := fun S => r_need_sign (n := n - 1) (by omega) (i := (a : Nat)) rfl h (sg := [60]) (by simp) hT S
  refine go_nx (st1 := [some (pstr T), some (pint (a : Nat)), none, none, none, none, none, none, none, none]) (S1 := ext S []) (by simp [z1]) ?_
  obtain ⟨e0, he0⟩ : ∃ e0, e0 = a + 1 + (nameText p l).length := ⟨_, rfl⟩
  have h2 := Stand.next h
  have z2 := fun S => r_name_at (n := n - 1) (by omega) (i := (a : Nat) + 1) (by push_cast; rfl) he0 h2 hp hl (rows_name hr) hT S
  have h3 := h2.app
  rw [← he0] at h3
  refine go_nx (st1 := [some (pstr T), some (pint (e0 : Nat)), some (tp [.str p, .str l]), none, none, none, none, none, none, none]) (S1 := ext S []) (by simp [z2]) ?_
  refine go_nx (st1 := [some (pstr T), some (pint (e0 : Nat)), some (tp [.str p, .str l]), some (.ref S.objs.length), some (.ref (S.objs.length + 1)), none, none, none, none, none]) (S1 := ext S [.lst [], .lst []]) (by simp [lstF]) ?_
  refine go_while (o := [.lst [], .lst []]) (fun m st o => ∃ dd rd da ra e, HdI T (.tup [.str p, .str l]) S.objs.length b r ds as m st o dd rd da ra e)
    (fun st o => ∃ m e, HdI T (.tup [.str p, .str l]) S.objs.length b r ds as m st o ds [] as [] e) (ds.length + as.length) ⟨[], ds, [], as, e0, ⟨⟨none, none, none, none, none, rfl, rfl⟩, rfl, rfl, rfl, .inr rfl, h3, rfl⟩⟩ ?_ ?_
  · rintro m st o ⟨dd, rd, da, ra, e, ⟨v5, v6, v7, v8, v9, rfl, hv⟩, rfl, hd, ha, hone, hat, hm⟩
    cases rd with
    | cons q rd =>
      have hda : da = [] := by rcases hone with z | z; cases z; exact z
      subst hda
      have hq := hds q (by rw [hd]; simp)
      rw [List.map_cons, List.flatten_cons, dcText_split, List.cons_append, List.cons_append, List.append_assoc, List.append_assoc] at hat
      have y1 := fun S => hat.idx hT S
      have y2 : ((e : Nat) : Int) < (T.length : Nat) := by have := Stand.lt hat; omega
      refine ⟨true, [.lst ((dd.map dcP).map D.p), .lst []], by simp [y1, y2, zl], ?_⟩
      rw [if_pos rfl]
      have hat2 := Stand.next hat
      obtain ⟨f, hf⟩ : ∃ f, f = e + 1 + barred.length := ⟨_, rfl⟩
      have y3 := fun S => r_letters_at (n := n - 1) (by omega) (i := (e : Nat) + 1) (by push_cast; rfl) hf hat2 (by decide) (by decide) (by decide) (dcRest_head q) hT S
      have hat3 := hat2.app
      rw [← hf] at hat3
      obtain ⟨g, hg⟩ : ∃ g, g = f + (dcRest q).length := ⟨_, rfl⟩
      have y4 := fun S => r_declaration_at (n := n - 1) (by omega) hq (i := (f : Nat)) rfl hg hat3 hT S
      have hat4 := hat3.app
      rw [← hg] at hat4
      have y5 := eq_lnil (S := S) (o := [.lst ((dd.map dcP).map D.p), .lst [], .lst []]) (i := 1) (j := 2) (l := []) rfl rfl
      have y6 := lst_new (S := S) (o := [.lst ((dd.map dcP).map D.p), .lst []]) [] (by simp)
      simp only [List.length_cons, List.length_nil, List.cons_append, List.nil_append] at y6
      rw [show S.objs.length + (0 + 1 + 1) = S.objs.length + 2 from rfl] at y6
      have y7 := recv_lst (S := S) (o := [.lst ((dd.map dcP).map D.p), .lst [], .lst []]) (i := 0) rfl
      have y8 := app_lst (S := S) (o := [.lst ((dd.map dcP).map D.p), .lst [], .lst []]) (i := 0) (l := dd.map dcP) (x := dcP q) rfl (by rw [hd] at ld; simp at ld ⊢; rw [sizeLine_eq]; omega)
      simp only [Nat.add_zero, List.isEmpty_nil] at y5 y7 y8
      refine ⟨[some (pstr T), some (pint (g : Nat)), some (tp [.str p, .str l]), some (.ref S.objs.length), some (.ref (S.objs.length + 1)), some (pstr barred), some (pint (f : Nat)), some (.p (dcP q)), v8, v9], [.lst (((dd ++ [q]).map dcP).map D.p), .lst [], .lst []], ?_, ?_, rd.length + ra.length, by simp at hm; omega, dd ++ [q], rd, [], ra, g, ⟨⟨_, _, _, _, _, rfl, ?_⟩, rfl, by simp [hd], ha, .inr rfl, hat4, rfl⟩⟩
      · refine seq_nx (st1 := [some (pstr T), some (pint (e : Nat)), some (tp [.str p, .str l]), some (.ref S.objs.length), some (.ref (S.objs.length + 1)), some (pstr barred), some (pint (f : Nat)), v7, v8, v9]) (S1 := ext S [.lst ((dd.map dcP).map D.p), .lst []]) (by simp [y3]) ?_
        refine seq_nil ?_
        simp only [w_if, w_andT, w_b, w_2, w_var, List.getElem?_cons_succ, List.getElem?_cons_zero, Res.bind_ok, w_c, eq_str, ofOpt_some, decide_true, if_true, w_n, w_nil, y6, y5, sbind_ok]
        refine seq_nx (st1 := [some (pstr T), some (pint (g : Nat)), some (tp [.str p, .str l]), some (.ref S.objs.length), some (.ref (S.objs.length + 1)), some (pstr barred), some (pint (f : Nat)), some (.p (dcP q)), v8, v9]) (S1 := ext S [.lst ((dd.map dcP).map D.p), .lst [], .lst []]) (by simp [y4]) ?_
        refine seq_nil ?_
        simp only [w_expr, w_meth, w_var, List.getElem?_cons_succ, List.getElem?_cons_zero, Res.bind_ok, y7, List.mem_singleton, if_true, w_cons, w_nil, y8, ofOpt_some, sbind_ok]
        simp
      · simp only [envTop_c] at hv ⊢
        simp [envTop_1, envTop_0] at hv ⊢
        omega
      · simp only [envTop_c] at hv ⊢
        simp [envTop_1, envTop_0] at hv ⊢
        omega
    | nil =>
      simp only [List.map_nil, List.flatten_nil, List.nil_append] at hat
      simp only [List.append_nil] at hd
      subst hd
      cases ra with
      | cons q ra =>
        have hq := has q (by rw [ha]; simp)
        simp only [atOk, Bool.and_eq_true] at hq
        obtain ⟨f1, f2, f3, f4⟩ := first_ok hq.1.1 hq.1.2
        rw [List.map_cons, List.flatten_cons, atText_split, List.cons_append, List.cons_append, List.append_assoc, List.append_assoc, List.append_assoc, List.cons_append, List.cons_append, List.append_assoc, List.cons_append, List.nil_append] at hat
        have y1 := fun S => hat.idx hT S
        have y2 : ((e : Nat) : Int) < (T.length : Nat) := by have := Stand.lt hat; omega
        refine ⟨true, [.lst ((ds.map dcP).map D.p), .lst ((da.map atP).map D.p)], by simp [y1, y2, zl], ?_⟩
        rw [if_pos rfl]
        have hat2 := Stand.next hat
        obtain ⟨f, hf⟩ : ∃ f, f = e + 1 + (nmFirst q.1.1 q.1.2).length := ⟨_, rfl⟩
        have y3 := fun S => r_letters_at (n := n - 1) (by omega) (i := (e : Nat) + 1) (by push_cast; rfl) hf hat2 f1 f2 f3 (rest_head no_eq_letters) hT S
        have hat3 := hat2.app
        rw [← hf] at hat3
        obtain ⟨g, hg⟩ : ∃ g, g = f + (nmRest q.1.1 q.1.2).length := ⟨_, rfl⟩
        have y4 := fun S => r_name_behind (n := n - 1) (by omega) (i := (f : Nat)) rfl hg hat3 hq.1.1 hq.1.2 no_eq_name hT S
        have hat4 := hat3.app
        rw [← hg] at hat4
        obtain ⟨g2, hg2⟩ : ∃ g2, g2 = g + q.2.text.length + 3 := ⟨_, rfl⟩
        have y5 := fun S => r_value_at (n := n - 1) (by omega) hq.2 (i := (g : Nat)) rfl hg2 hat4 hT S
        have hat5 : Stand T g2 ((ra.map atText).flatten ++ r) := by
          have z := (Stand.next (Stand.next hat4)).app
          have z2 := Stand.next z
          rw [show g + 1 + 1 + q.2.text.length + 1 = g2 from by omega] at z2
          exact z2
        have y7 := recv_lst (S := S) (o := [.lst ((ds.map dcP).map D.p), .lst ((da.map atP).map D.p)]) (i := 1) rfl
        have y8 := app_lst (S := S) (o := [.lst ((ds.map dcP).map D.p), .lst ((da.map atP).map D.p)]) (i := 1) (l := da.map atP) (x := atP q) rfl (by rw [ha] at la; simp at la ⊢; rw [sizeLine_eq]; omega)
        refine ⟨[some (pstr T), some (pint (g2 : Nat)), some (tp [.str p, .str l]), some (.ref S.objs.length), some (.ref (S.objs.length + 1)), some (pstr (nmFirst q.1.1 q.1.2)), some (pint (g : Nat)), v7, some (tp [.str q.1.1, .str q.1.2]), some (.p q.2.toP)], [.lst ((ds.map dcP).map D.p), .lst (((da ++ [q]).map atP).map D.p)], ?_, ?_, ra.length, by simp at hm; omega, ds, [], da ++ [q], ra, g2, ⟨⟨_, _, _, _, _, rfl, ?_⟩, rfl, by simp, by simp [ha], .inl rfl, by simpa using hat5, by simp⟩⟩
        · refine seq_nx (st1 := [some (pstr T), some (pint (e : Nat)), some (tp [.str p, .str l]), some (.ref S.objs.length), some (.ref (S.objs.length + 1)), some (pstr (nmFirst q.1.1 q.1.2)), some (pint (f : Nat)), v7, v8, v9]) (S1 := ext S [.lst ((ds.map dcP).map D.p), .lst ((da.map atP).map D.p)]) (by simp [y3]) ?_
          refine seq_nil ?_
          simp only [w_if, w_andT, w_b, w_2, w_var, List.getElem?_cons_succ, List.getElem?_cons_zero, Res.bind_ok, w_c, eq_str, ofOpt_some, f4, decide_false, Bool.false_eq_true, if_false, sbind_ok]
          refine seq_nx (st1 := [some (pstr T), some (pint (e : Nat)), some (tp [.str p, .str l]), some (.ref S.objs.length), some (.ref (S.objs.length + 1)), some (pstr (nmFirst q.1.1 q.1.2)), some (pint (g : Nat)), v7, some (tp [.str q.1.1, .str q.1.2]), v9]) (S1 := ext S [.lst ((ds.map dcP).map D.p), .lst ((da.map atP).map D.p)]) (by simp [y4]) ?_
          refine seq_nx (st1 := [some (pstr T), some (pint (g2 : Nat)), some (tp [.str p, .str l]), some (.ref S.objs.length), some (.ref (S.objs.length + 1)), some (pstr (nmFirst q.1.1 q.1.2)), some (pint (g : Nat)), v7, some (tp [.str q.1.1, .str q.1.2]), some (.p q.2.toP)]) (S1 := ext S [.lst ((ds.map dcP).map D.p), .lst ((da.map atP).map D.p)]) (by simp [y5]) ?_
          refine seq_nil ?_
          simp only [w_expr, w_meth, w_var, List.getElem?_cons_succ, List.getElem?_cons_zero, Res.bind_ok, y7, List.mem_singleton, if_true, w_cons, w_nil, w_n, t_2, y8, ofOpt_some, sbind_ok]
          simp
        · simp only [envTop_c] at hv ⊢
          simp [envTop_1, envTop_0] at hv ⊢
          omega
        · simp only [envTop_c] at hv ⊢
          simp [envTop_1, envTop_0] at hv ⊢
          omega
      | nil =>
        simp only [List.map_nil, List.flatten_nil, List.nil_append] at hat
        simp only [List.append_nil] at ha
        subst ha
        obtain ⟨c, r', hrc, hc⟩ := hr
        have hat' := hat
        rw [hrc] at hat'
        have y1 := fun S => hat'.idx hT S
        have y2 : ((e : Nat) : Int) < (T.length : Nat) := by have := Stand.lt hat'; omega
        have y3 : ¬ c = 32 := by rcases hc with rfl | rfl <;> decide
        refine ⟨false, mosD ds as, by simp [y1, y2, y3, zl, mosD], ?_⟩
        rw [if_neg (by simp)]
        refine ⟨?_, m, e, ⟨⟨v5, v6, v7, v8, v9, rfl, hv⟩, rfl, by simp, by simp, .inl rfl, by simpa using hat, by simpa using hm⟩⟩
        simp only [envTop_c] at hv ⊢
        simp [envTop_1, envTop_0] at hv ⊢
        omega
  · rintro st o ⟨m, e, ⟨v5, v6, v7, v8, v9, rfl, hv⟩, rfl, hd, ha, hone, hat, hm⟩
    have e1 := h.len
    have e2 := hat.len
    have he : e = b := by
      simp only [List.length_cons, List.length_append, List.map_nil, List.flatten_nil, List.nil_append] at e1 e2
      omega
    subst he
    refine ⟨mosD ds as, ?_⟩
    have y1 := tuple_lst (S := S) (o := mosD ds as) (i := 0) (l := ds.map dcP) rfl
    have y2 := tuple_lst (S := S) (o := mosD ds as) (i := 1) (l := as.map atP) rfl
    simp only [Nat.add_zero] at y1
    simp only [w_seq, w_ret, w_n, w_cons, w_nil, w_var, List.getElem?_cons_succ, List.getElem?_cons_zero, Res.bind_ok, y1, y2, ofOpt_some, t_3, t_2, sbind_ok]
end MiLaw
set_option Elab.async false
set_option linter.all false
set_option maxRecDepth 100000
set_option maxHeartbeats 4000000
/-! the reader: children, elements, parts -/
namespace MiLaw
open PySem Mi
variable {T w r sg p l : List Nat} {a b c : Nat} {i : Int} {n : Nat}
theorem adj_next {bb : Bool} {k : Kd} {ks : List Kd} (h : noAdj bb (k :: ks) = true) : noAdj k.isTxt ks = true := by
  cases k <;> simp_all [noAdj, Kd.isTxt]
theorem el_head (p l : List Nat) (ds : List Dc) (as : List At) (ks : List Kd) (hp : isPre p = true) (hl : isLoc l = true) : ∃ c x, (Kd.el p l ds as ks).text = 60 :: c :: x ∧ c ∈ letters := by
  obtain ⟨f1, f2, f3, f4⟩ := first_ok hp hl
  simp only [Kd.text]
  rw [nameText_split]
  cases hf : nmFirst p l with
  | nil => rw [hf] at f2; simp at f2
  | cons c f => exact ⟨c, _, by simp; rfl, f1 c (by rw [hf]; simp)⟩
theorem plain_stop {ks : List Kd} {z : List Nat} (hg : ∀ k ∈ ks, k.Good) (h : noAdj true ks = true) : NoHead plainSigns (Kd.texts ks ++ 60 :: z) := by
  intro c r' e
  cases ks with
  | nil =>
    simp only [Kd.texts, List.nil_append, List.cons.injEq] at e
    rw [← e.1]
    decide
  | cons k ks =>
    cases k with
    | txt x => simp [noAdj] at h
    | hol x =>
      simp only [Kd.texts, Kd.text, List.cons_append, List.cons.injEq] at e
      rw [← e.1]
      decide
    | el p l ds as ks' =>
      simp only [Kd.texts, Kd.text, List.cons_append, List.cons.injEq] at e
      rw [← e.1]
      decide
theorem plain_ne60 {c : Nat} (h : c ∈ plainSigns) : c ≠ 60 ∧ c ≠ 123 := by
  constructor <;> rintro rfl <;> exact absurd h (by decide)
theorem letter_ne {c : Nat} (h : c ∈ letters) : c ≠ 47 := by
  rintro rfl
  exact absurd h (by decide)
/-- two signs at a child's place are never those of an end -/
theorem two_signs {ks : List Kd} {z : List Nat} (hg : ∀ k ∈ ks, k.Good) : ∃ c d x, Kd.texts ks ++ 60 :: 47 :: z = [c, d] ++ x ∧ (([c, d] : List Nat) = [60, 47] ↔ ks = []) := by
  cases ks with
  | nil => exact ⟨60, 47, z, rfl, by simp⟩
  | cons k ks =>
    have gk := hg k List.mem_cons_self
    cases gk with
    | txt hx hne =>
      rename_i x
      cases x with
      | nil => exact absurd rfl hne
      | cons c x =>
        have hc := (plain_ne60 ((plain_of hx).2 c List.mem_cons_self)).1
        have : ∃ d y, x ++ (Kd.texts ks ++ 60 :: 47 :: z) = d :: y := by
          cases x with
          | cons d x => exact ⟨d, _, rfl⟩
          | nil => cases hks : Kd.texts ks with
            | nil => exact ⟨60, 47 :: z, rfl⟩
            | cons d x => exact ⟨d, _, rfl⟩
        obtain ⟨d, y, hy⟩ := this
        exact ⟨c, d, y, by simp [Kd.texts, Kd.text, hy], by simp [hc]⟩
    | hol hw =>
      rename_i x
      cases x with
      | nil => exact absurd (word_of hw).1 (by simp)
      | cons d x => exact ⟨123, d, x ++ ([125] ++ (Kd.texts ks ++ 60 :: 47 :: z)), by simp [Kd.texts, Kd.text], by simp⟩
    | el g1 g2 _ _ _ _ _ _ _ _ _ =>
      rename_i p l ds as ks' _ _ _ _ _ _ _ _ _
      obtain ⟨c, x, hx, hc⟩ := el_head p l ds as ks' g1 g2
      have := letter_ne hc
      exact ⟨60, c, x ++ (Kd.texts ks ++ 60 :: 47 :: z), by rw [Kd.texts, hx]; simp, by simp [this]⟩
/-- what reading an element tells -/
def ElOk (T : List Nat) (k : Kd) (n : Nat) : Prop := ∀ a b r, Stand T a (k.text ++ r) → b = a + k.text.length → ∀ S, runs fs n "element_from" [pstr T, pint (a : Nat)] S = .ok (tp [k.toP, .int (b : Nat)]) S
theorem r_child_at {k : Kd} (hk : k.Good) (hn : 3 ≤ n) (hel : k.isEl = true → ElOk T k (n - 1)) (hi : i = (a : Nat)) (hb : b = a + k.text.length) (h : Stand T a (k.text ++ r)) (hr : k.isTxt = true → NoHead plainSigns r) (hT : T.length ≤ sizeLine) (S : Sto) : runs fs n "child_at" [pstr T, pint i] S = .ok (tp [k.toP, .int (b : Nat)]) S := by
  subst hi
  rw [run_child_at (by omega)]
  refine call_rt (ex := []) ?_ rfl
  have zl := fun S => l_str S hT
  cases hk with
  | txt hx hne =>
    rename_i x
    simp only [Kd.text] at h hb
    have z3 := fun S => h.slc hT S
    rw [← hb] at z3
    have z4 := fun S => r_run_end (n := n - 1) (by omega) (i := (a : Nat)) rfl hb h (plain_of hx).2 (hr rfl) hT S
    cases x with
    | nil => exact absurd rfl hne
    | cons c x =>
      have hc := (plain_of hx).2 c List.mem_cons_self
      have hc2 := plain_ne60 hc
      have z1 := fun S => h.idx hT S
      have z2 : ((a : Nat) : Int) < (T.length : Nat) := by have := Stand.lt h; omega
      have z5 := fun S => r_need_sign (n := n - 1) (by omega) (i := (a : Nat)) rfl h hc hT S
      simp [m_child_at, zl, z1, z2, hc2, z3, z4, z5, Kd.toP]
  | hol hw =>
    rename_i x
    simp only [Kd.text, List.cons_append, List.append_assoc, List.nil_append, List.length_cons, List.length_append, List.length_nil] at h hb
    obtain ⟨w1, w2, w3⟩ := word_of hw
    have z1 := fun S => h.idx hT S
    have z2 : ((a : Nat) : Int) < (T.length : Nat) := by have := Stand.lt h; omega
    have h2 := Stand.next h
    obtain ⟨e, he⟩ : ∃ e, e = a + 1 + x.length := ⟨_, rfl⟩
    have nb : NoHead letters (125 :: r) := by
      intro c r' e
      simp only [List.cons.injEq] at e
      rw [← e.1]
      decide
    have z3 := fun S => r_letters_at (n := n - 1) (by omega) (i := (a : Nat) + 1) (by push_cast; rfl) he h2 w3 w1 w2 nb hT S
    have h3 := h2.app
    rw [← he] at h3
    have z4 := fun S => r_need_word (n := n - 1) (by omega) (i := (e : Nat)) rfl (w := [125]) (b := b) (by simp; omega) h3 hT S
    simp [m_child_at, zl, z1, z2, z3, z4, Kd.toP]
  | el g1 g2 g3 g4 g5 g6 g7 g8 g9 g10 g11 =>
    rename_i p l ds as ks
    have z4 := hel rfl a b r h hb
    obtain ⟨c, x, hx, hc⟩ := el_head p l ds as ks g1 g2
    rw [hx, List.cons_append] at h
    have z1 := fun S => h.idx hT S
    have z2 : ((a : Nat) : Int) < (T.length : Nat) := by have := Stand.lt h; omega
    generalize (Kd.el p l ds as ks).toP = kp at *
    simp [m_child_at, zl, z1, z2, z4]
theorem r_element_from {k : Kd} (hg : k.Good) (hel : k.isEl = true) (hT : T.length ≤ sizeLine) : ∀ {n : Nat}, 2 * k.lv + 6 ≤ n → ElOk T k n := by
  induction hg with
  | txt _ _ => cases hel
  | hol _ => cases hel
  | el g1 g2 g3 g4 g5 g6 g7 g8 g9 g10 g11 ih =>
    rename_i p l ds as ks
    intro n hn a b r h hb S
    have hlv : (Kd.el p l ds as ks).lv = Kd.lvs ks + 1 := rfl
    have n17 := name_le g1 g2
    rw [run_element_from (by omega)]
    refine call_go ?_ rfl
    unfold m_element_from
    have z0 := fun S => a_str S (x := [47]) (y := [62]) (by rw [sizeLine_eq]; simp)
    simp only [List.cons_append, List.nil_append] at z0
    obtain ⟨tl, htl⟩ : ∃ tl, tl = (if ks.isEmpty then [47, 62] else 62 :: (Kd.texts ks ++ 60 :: 47 :: (nameText p l ++ [62]))) := ⟨_, rfl⟩
    have htx : (Kd.el p l ds as ks).text = 60 :: (nameText p l ++ ((ds.map dcText).flatten ++ ((as.map atText).flatten ++ tl))) := by rw [htl]; simp only [Kd.text]
    rw [htx] at h hb
    simp only [List.cons_append, List.append_assoc] at h
    simp only [List.length_cons, List.length_append] at hb
    have heh : EndHead (tl ++ r) := by
      rw [htl]
      split
      · exact ⟨47, _, rfl, .inl rfl⟩
      · exact ⟨62, _, rfl, .inr rfl⟩
    obtain ⟨e, he⟩ : ∃ e, e = a + 1 + (nameText p l).length + (ds.map dcText).flatten.length + (as.map atText).flatten.length := ⟨_, rfl⟩
    have z1 := fun S => r_head_at (n := n - 1) (by omega) (i := (a : Nat)) rfl g1 g2 g3 g5 g9 g10 h heh he hT S
    have h2 : Stand T e (tl ++ r) := by
      have z := ((Stand.next h).app).app.app
      rw [← he] at z
      exact z
    refine go_nx (st1 := [some (pstr T), some (pint (e : Nat)), some (tp [.tup [.str p, .str l], .tup (ds.map dcP), .tup (as.map atP)]), none, none]) (S1 := ext S []) (by simp [z1]) ?_
    by_cases hks : ks = []
    · subst hks
      simp only [List.isEmpty_nil, if_true] at htl
      subst htl
      simp only [List.cons_append, List.nil_append, List.length_cons, List.length_nil] at h2 hb
      have z2 := fun S => r_need_sign (n := n - 1) (by omega) (i := (e : Nat)) rfl h2 (sg := [47, 62]) (by simp) hT S
      refine go_nx (st1 := [some (pstr T), some (pint (e : Nat)), some (tp [.tup [.str p, .str l], .tup (ds.map dcP), .tup (as.map atP)]), none, none]) (S1 := ext S []) (by simp [z0, z2]) ?_
      have z3 := fun S => h2.idx hT S
      have z4 := fun S => r_need_word (n := n - 1) (by omega) (i := (e : Nat) + 1) (a := e + 1) (by push_cast; rfl) (w := [62]) (b := b) (by simp; omega) (Stand.next h2) hT S
      have z5 := fun S => a_tup S (x := [.str wElement]) (y := [.tup [.str p, .str l], .tup (ds.map dcP), .tup (as.map atP)]) (by rw [sizeLine_eq]; simp)
      have z6 := fun S => a_tup S (x := [.str wElement, .tup [.str p, .str l], .tup (ds.map dcP), .tup (as.map atP)]) (y := [.tup []]) (by rw [sizeLine_eq]; simp)
      simp only [List.cons_append, List.nil_append] at z5 z6
      refine go_rt (ex := []) ?_
      simp [z3, z4, z5, z6, Kd.toP, Kd.toPs]
    · have hne : ks.isEmpty = false := by cases ks <;> simp_all
      simp only [hne, Bool.false_eq_true, if_false] at htl
      subst htl
      simp only [List.cons_append, List.append_assoc, List.length_cons, List.length_append, List.length_nil, List.nil_append] at h2 hb
      have z2 := fun S => r_need_sign (n := n - 1) (by omega) (i := (e : Nat)) rfl h2 (sg := [47, 62]) (by simp) hT S
      have z3 := fun S => h2.idx hT S
      refine go_nx (st1 := [some (pstr T), some (pint (e : Nat)), some (tp [.tup [.str p, .str l], .tup (ds.map dcP), .tup (as.map atP)]), none, none]) (S1 := ext S []) (by simp [z0, z2]) ?_
      refine go_nx (st1 := [some (pstr T), some (pint (e : Nat)), some (tp [.tup [.str p, .str l], .tup (ds.map dcP), .tup (as.map atP)]), none, none]) (S1 := ext S []) (by simp [z3]) ?_
      have h3 := Stand.next h2
      have kid : ∀ k ∈ ks, k.isEl = true → ElOk T k (n - 1 - 1) := fun k hk hke => ih k hk hke (by have := lv_le hk; omega)
      have step : ∀ (k : Kd) (rk : List Kd) (bb : Bool) (f g : Nat), k ∈ ks → (∀ q ∈ rk, q.Good) → noAdj bb (k :: rk) = true → Stand T f (Kd.texts (k :: rk) ++ 60 :: 47 :: (nameText p l ++ 62 :: r)) → g = f + k.text.length → (∀ (i : Int) (S : Sto), i = (f : Nat) → runs fs (n - 1) "child_at" [pstr T, pint i] S = .ok (tp [k.toP, .int (g : Nat)]) S) ∧ Stand T g (Kd.texts rk ++ 60 :: 47 :: (nameText p l ++ 62 :: r)) := by
        intro k rk bb f g hk hrk hadj hs hg
        rw [Kd.texts, List.append_assoc] at hs
        refine ⟨fun i S hi => r_child_at (g7 k hk) (by omega) (kid k hk) hi hg hs (fun ht => plain_stop hrk ?_) hT S, ?_⟩
        · have := adj_next hadj
          rw [ht] at this
          exact this
        · have z := hs.app
          rw [← hg] at z
          exact z
      have z4 := fun S => r_name_text (n := n - 1) (by omega) (p := p) (l := l) (by have := (pre_of g1).1; have := (loc_of g2).2.1; rw [sizeLine_eq]; omega) S
      obtain ⟨k, ks', hkk⟩ : ∃ k ks', ks = k :: ks' := by
        cases ks with
        | nil => exact absurd rfl hks
        | cons k ks' => exact ⟨k, ks', rfl⟩
      obtain ⟨f0, hf0⟩ : ∃ f0, f0 = e + 1 + k.text.length := ⟨_, rfl⟩
      have h3' := h3
      rw [hkk] at h3'
      obtain ⟨s1, s2⟩ := step k ks' false (e + 1) f0 (by rw [hkk]; simp) (fun q hq => g7 q (by rw [hkk]; simp [hq])) (by rw [← hkk]; exact g8) h3' hf0
      have s1' := fun S => s1 ((e : Nat) + 1) S (by push_cast; rfl)
      refine go_nx (st1 := [some (pstr T), some (pint (f0 : Nat)), some (tp [.tup [.str p, .str l], .tup (ds.map dcP), .tup (as.map atP)]), some (.p k.toP), none]) (S1 := ext S []) (by simp [s1']) ?_
      refine go_nx (st1 := [some (pstr T), some (pint (f0 : Nat)), some (tp [.tup [.str p, .str l], .tup (ds.map dcP), .tup (as.map atP)]), some (.p k.toP), some (.ref S.objs.length)]) (S1 := ext S [.lst [.p k.toP]]) (by simp [lstF]) ?_
      have z7 := fun S => a_str S (x := [60]) (y := [47]) (by rw [sizeLine_eq]; simp)
      simp only [List.cons_append, List.nil_append] at z7
      refine go_while (o := [.lst [.p k.toP]]) (fun m st o => ∃ done rk f bb x, ks = done ++ rk ∧ st = [some (pstr T), some (pint (f : Nat)), some (tp [.tup [.str p, .str l], .tup (ds.map dcP), .tup (as.map atP)]), some (.p x), some (.ref S.objs.length)] ∧ o = [.lst ((done.map Kd.toP).map D.p)] ∧ noAdj bb rk = true ∧ Stand T f (Kd.texts rk ++ 60 :: 47 :: (nameText p l ++ 62 :: r)) ∧ m = rk.length)
        (fun st o => ∃ f x, st = [some (pstr T), some (pint (f : Nat)), some (tp [.tup [.str p, .str l], .tup (ds.map dcP), .tup (as.map atP)]), some (.p x), some (.ref S.objs.length)] ∧ o = [.lst ((ks.map Kd.toP).map D.p)] ∧ Stand T f (60 :: 47 :: (nameText p l ++ 62 :: r))) ks'.length ⟨[k], ks', f0, k.isTxt, k.toP, by rw [hkk]; rfl, rfl, rfl, adj_next (by rw [← hkk]; exact g8), s2, rfl⟩ ?_ ?_
      · rintro m st o ⟨done, rk, f, bb, x, hd, rfl, rfl, hadj, hs, hm⟩
        have hrk : ∀ q ∈ rk, q.Good := fun q hq => g7 q (by rw [hd]; simp [hq])
        obtain ⟨c, d, y, hy, hcd⟩ := two_signs (z := nameText p l ++ 62 :: r) hrk
        have hs' := hs
        rw [hy] at hs'
        have y1 := fun S => hs'.slc hT S
        simp only [List.length_cons, List.length_nil] at y1
        rw [show ((f + (0 + 1 + 1) : Nat) : Int) = (f : Nat) + 2 from by push_cast; rfl] at y1
        cases rk with
        | nil =>
          have hcd' : ([c, d] : List Nat) = [60, 47] := hcd.mpr rfl
          rw [hcd'] at y1
          refine ⟨false, [.lst ((ks.map Kd.toP).map D.p)], ?_, ?_⟩
          · rw [List.append_nil] at hd
            subst hd
            simp only [w_b, w_2, w_slc, w_var, w_part1, w_c, List.getElem?_cons_succ, List.getElem?_cons_zero, Res.bind_ok, add_int, ofOpt_some, y1, z7, ne_str]
            simp
          · rw [if_neg (by simp)]
            exact ⟨by simp, f, x, rfl, rfl, by simpa [Kd.texts] using hs⟩
        | cons q rk =>
          have hcd' : ¬ ([c, d] : List Nat) = [60, 47] := fun z => absurd (hcd.mp z) (by simp)
          refine ⟨true, [.lst ((done.map Kd.toP).map D.p)], ?_, ?_⟩
          · simp only [w_b, w_2, w_slc, w_var, w_part1, w_c, List.getElem?_cons_succ, List.getElem?_cons_zero, Res.bind_ok, add_int, ofOpt_some, y1, z7, ne_str]
            simp [hcd']
          · rw [if_pos rfl]
            obtain ⟨g, hg⟩ : ∃ g, g = f + q.text.length := ⟨_, rfl⟩
            obtain ⟨t1, t2⟩ := step q rk bb f g (by rw [hd]; simp) (fun x hx => hrk x (by simp [hx])) hadj hs hg
            have t1' := fun S => t1 (f : Nat) S rfl
            have y7 := recv_lst (S := S) (o := [.lst ((done.map Kd.toP).map D.p)]) (i := 0) rfl
            have y8 := app_lst (S := S) (o := [.lst ((done.map Kd.toP).map D.p)]) (i := 0) (l := done.map Kd.toP) (x := q.toP) rfl (by rw [hd] at g11; simp at g11 ⊢; rw [sizeLine_eq]; omega)
            simp only [Nat.add_zero] at y7 y8
            refine ⟨[some (pstr T), some (pint (g : Nat)), some (tp [.tup [.str p, .str l], .tup (ds.map dcP), .tup (as.map atP)]), some (.p q.toP), some (.ref S.objs.length)], [.lst (((done ++ [q]).map Kd.toP).map D.p)], ?_, by simp, rk.length, by simp at hm; omega, done ++ [q], rk, g, q.isTxt, q.toP, by simp [hd], rfl, rfl, adj_next hadj, t2, rfl⟩
            refine seq_nx (st1 := [some (pstr T), some (pint (g : Nat)), some (tp [.tup [.str p, .str l], .tup (ds.map dcP), .tup (as.map atP)]), some (.p q.toP), some (.ref S.objs.length)]) (S1 := ext S [.lst ((done.map Kd.toP).map D.p)]) (by simp [t1']) ?_
            refine seq_nil ?_
            simp only [w_expr, w_meth, w_var, List.getElem?_cons_succ, List.getElem?_cons_zero, Res.bind_ok, y7, List.mem_singleton, if_true, w_cons, w_nil, y8, ofOpt_some, sbind_ok]
            simp
      · rintro st o ⟨f, x, rfl, rfl, hs⟩
        have e1 := h.len
        have e2 := hs.len
        have y1 := fun S => a_str S (x := [60, 47]) (y := nameText p l) (by rw [sizeLine_eq]; simp; omega)
        have y2 := fun S => a_str S (x := 60 :: 47 :: nameText p l) (y := [62]) (by rw [sizeLine_eq]; simp; omega)
        simp only [List.cons_append, List.nil_append] at y1 y2
        have y3 := fun S => r_need_word (n := n - 1) (by omega) (i := (f : Nat)) rfl (w := 60 :: 47 :: (nameText p l ++ [62])) (b := b) (by
          simp only [List.length_cons, List.length_append, List.length_nil] at e1 e2 ⊢
          omega) (r := r) (by simpa using hs) hT S
        have y4 := tuple_lst (S := S) (o := [.lst ((ks.map Kd.toP).map D.p)]) (i := 0) (l := ks.map Kd.toP) rfl
        have z5 := fun S => a_tup S (x := [.str wElement]) (y := [.tup [.str p, .str l], .tup (ds.map dcP), .tup (as.map atP)]) (by rw [sizeLine_eq]; simp)
        have z6 := fun S => a_tup S (x := [.str wElement, .tup [.str p, .str l], .tup (ds.map dcP), .tup (as.map atP)]) (y := [.tup (ks.map Kd.toP)]) (by rw [sizeLine_eq]; simp)
        simp only [List.cons_append, List.nil_append, Nat.add_zero] at z5 z6 y4
        refine go_nx (st1 := [some (pstr T), some (pint (b : Nat)), some (tp [.tup [.str p, .str l], .tup (ds.map dcP), .tup (as.map atP)]), some (.p x), some (.ref S.objs.length)]) (S1 := ext S [.lst ((ks.map Kd.toP).map D.p)]) ?_ ?_
        · simp only [w_set, w_call, w_cons, w_nil, w_2, w_var, w_c, List.getElem?_cons_succ, List.getElem?_cons_zero, Res.bind_ok, ofOpt_some, z7, i_0]
          simp only [List.length_cons, List.length_nil, Nat.zero_add, if_true, z4, Res.bind_ok, y1, y2, ofOpt_some]
          simp only [Nat.reduceAdd, if_true, y3, sbind_ok]
          simp
        · refine go_rt (ex := [.lst ((ks.map Kd.toP).map D.p)]) ?_
          simp only [w_ret, w_n, w_cons, w_nil, w_2, w_var, w_c, List.getElem?_cons_succ, List.getElem?_cons_zero, Res.bind_ok, ofOpt_some, y4, t_1, z5, z6, t_2, sbind_ok]
          simp [Kd.toP, toPs_map]
theorem r_read_part {k : Kd} (hg : k.Good) (hel : k.isEl = true) (hc : k.cnt ≤ 60) (hv : k.lv ≤ 8) (hh : k.hs.Nodup) (hhl : k.hs.length ≤ 1000000) {n : Nat} (hn : 23 ≤ n) (S : Sto) : runs fs n "read_part" [pstr k.text] S = .ok (.p k.toP) S := by
  rw [run_read_part (by omega)]
  refine call_rt (ex := []) ?_ rfl
  have hl := text_le hg
  have hT : k.text.length ≤ sizeLine := by rw [sizeLine_eq]; omega
  have z1 := r_element_from hg hel hT (n := n - 1) (by omega) 0 k.text.length [] (by simpa using Stand.start) (by simp)
  have z2 := fun S => r_need_part (n := n - 1) (by omega) hg hel hc hv hh hhl S
  have z3 := fun S => l_str S hT
  simp at z1
  simp [m_read_part, z1, z2, z3]
end MiLaw
set_option Elab.async false
set_option linter.all false
set_option maxRecDepth 100000
set_option maxHeartbeats 4000000
/-! the law's own written form -/
namespace MiLaw
open PySem Mi
theorem r_law_name_text {n : Nat} (hn : 1 ≤ n) {p l : List Nat} (h : p.length + l.length + 1 ≤ sizeLine) (S : Sto) : runs fs n "_law_name_text" [tp [.str p, .str l]] S = .ok (pstr (nameText p l)) S := by
  rw [run__law_name_text (by omega)]
  refine call_rt (ex := []) ?_ rfl
  have a1 := fun S => a_str S (x := p) (y := [58]) (by simp; omega)
  have a2 := fun S => a_str S (x := p ++ [58]) (y := l) (by simp; omega)
  by_cases hp : p = []
  · subst hp
    simp [m__law_name_text, nameText]
  · simp [m__law_name_text, nameText, hp, a1, a2]
theorem flat_snoc {α : Type} (f : α → List Nat) (l : List α) (x : α) : ((l ++ [x]).map f).flatten = (l.map f).flatten ++ f x := by simp
theorem flat_part {α : Type} {f : α → List Nat} {a b : List α} : ((a ++ b).map f).flatten.length = (a.map f).flatten.length + (b.map f).flatten.length := by simp
theorem r_law_written {k : Kd} (hg : k.Good) (hel : k.isEl = true) (hc : k.cnt ≤ 60) : ∀ {n : Nat}, k.lv + 1 ≤ n → ∀ S, runs fs n "_law_written" [.p k.toP] S = .ok (pstr k.text) S := by
  induction hg with
  | txt _ _ => cases hel
  | hol _ => cases hel
  | el g1 g2 g3 g4 g5 g6 g7 g8 g9 g10 g11 ih =>
    rename_i p l ds as ks
    intro n hn S
    have hlv : (Kd.el p l ds as ks).lv = Kd.lvs ks + 1 := rfl
    have hcn : (Kd.el p l ds as ks).cnt = Kd.cnts ks + 1 := rfl
    have p8 := (pre_of g1).1
    have l8 := (loc_of g2).2.1
    have n17 := name_le g1 g2
    have t2 := flat_le (f := dcText) (b := 50) (l := ds) fun q hq => dcText_le (g3 q hq)
    have t3 := flat_le (f := atText) (b := 50) (l := as) fun q hq => atText_le (g5 q hq)
    have t4 := texts_le fun k hk => text_le (g7 k hk)
    rw [run__law_written (by omega)]
    refine call_go ?_ rfl
    unfold m__law_written
    have y1 := fun S => r_law_name_text (n := n - 1) (by omega) (p := p) (l := l) (by rw [sizeLine_eq]; omega) S
    have y2 := fun S => a_str S (x := [60]) (y := nameText p l) (by rw [sizeLine_eq]; simp; omega)
    simp only [List.cons_append, List.nil_append] at y2
    generalize hpt : (Kd.el p l ds as ks).toP = pt
    have i1 : ∀ S, idxF (.p pt) (pint 1) S = some (tp [.str p, .str l], S) := fun S => by subst hpt; simp [Kd.toP]
    have i2 : ∀ S, idxF (.p pt) (pint 2) S = some (tp (ds.map dcP), S) := fun S => by subst hpt; simp [Kd.toP]
    have i3 : ∀ S, idxF (.p pt) (pint 3) S = some (tp (as.map atP), S) := fun S => by subst hpt; simp [Kd.toP]
    have i4 : ∀ S, idxF (.p pt) (pint 4) S = some (tp (ks.map Kd.toP), S) := fun S => by subst hpt; simp [Kd.toP, toPs_map]
    refine go_nx (st1 := [some (.p pt), some (pstr (nameText p l)), none, none, none, none, none, none, none]) (S1 := ext S []) (by simp [i1, y1]) ?_
    obtain ⟨x0, ex0⟩ : ∃ x0, x0 = 60 :: nameText p l := ⟨_, rfl⟩
    have lx0 : x0.length ≤ 18 := by rw [ex0]; simp; omega
    rw [← ex0] at y2
    refine go_nx (st1 := [some (.p pt), some (pstr (nameText p l)), some (pstr x0), none, none, none, none, none, none]) (S1 := ext S []) (by simp [y2]) ?_
    refine go_forA (f := dcP) (ys := ds) (o := []) (fun r st o => ∃ done v w, ds = done ++ r ∧ st = [some (.p pt), some (pstr (nameText p l)), some (pstr (x0 ++ (done.map dcText).flatten)), v, w, none, none, none, none] ∧ envTop [v, w] = 0 ∧ o = []) (by simp [i2]) ⟨[], none, none, rfl, by simp, rfl, rfl⟩ ?_ ?_ ?_
    · rintro q r st o' ⟨done, v, w, hd, rfl, hv, rfl⟩
      have hq := dc_le (g3 q (by rw [hd]; simp))
      have hz : (x0 ++ (done.map dcText).flatten).length ≤ 6000 := by
        rw [hd, flat_part] at t2
        rw [List.length_append]
        simp only [List.length_append, List.length_cons] at t2
        rw [hd] at g9
        simp at g9
        omega
      have e1 : x0 ++ (List.map dcText (done ++ [q])).flatten = (x0 ++ (List.map dcText done).flatten) ++ dcText q := by rw [flat_snoc]; simp
      refine ⟨_, [some (.p pt), some (pstr (nameText p l)), some (pstr (x0 ++ ((done ++ [q]).map dcText).flatten)), some (pstr q.1), some (pstr q.2), none, none, none, none], [], rfl, ?_, by simp, ⟨done ++ [q], _, _, by simp [hd], rfl, rfl, rfl⟩⟩
      rw [e1]
      refine seq_nil ?_
      generalize x0 ++ (List.map dcText done).flatten = x1 at hz ⊢
      have z1 := fun S => a_str S (x := x1) (y := [32, 120, 109, 108, 110, 115]) (by rw [sizeLine_eq]; simp; omega)
      by_cases h0 : q.1 = []
      · have z2 := fun S => a_str S (x := x1 ++ [32, 120, 109, 108, 110, 115]) (y := []) (by rw [sizeLine_eq]; simp; omega)
        have z3 := fun S => a_str S (x := x1 ++ [32, 120, 109, 108, 110, 115]) (y := [61, 34]) (by rw [sizeLine_eq]; simp; omega)
        have z4 := fun S => a_str S (x := x1 ++ [32, 120, 109, 108, 110, 115] ++ [61, 34]) (y := q.2) (by rw [sizeLine_eq]; simp; omega)
        have z5 := fun S => a_str S (x := x1 ++ [32, 120, 109, 108, 110, 115] ++ [61, 34] ++ q.2) (y := [34]) (by rw [sizeLine_eq]; simp; omega)
        simp only [List.append_assoc, List.cons_append, List.nil_append, List.append_nil] at z1 z2 z3 z4 z5
        simp [h0, z1, z2, z3, z4, z5, dcText, pairText]
      · have z0 := fun S => a_str S (x := [58]) (y := q.1) (by rw [sizeLine_eq]; simp; omega)
        have z2 := fun S => a_str S (x := x1 ++ [32, 120, 109, 108, 110, 115]) (y := 58 :: q.1) (by rw [sizeLine_eq]; simp; omega)
        have z3 := fun S => a_str S (x := x1 ++ [32, 120, 109, 108, 110, 115] ++ 58 :: q.1) (y := [61, 34]) (by rw [sizeLine_eq]; simp; omega)
        have z4 := fun S => a_str S (x := x1 ++ [32, 120, 109, 108, 110, 115] ++ 58 :: q.1 ++ [61, 34]) (y := q.2) (by rw [sizeLine_eq]; simp; omega)
        have z5 := fun S => a_str S (x := x1 ++ [32, 120, 109, 108, 110, 115] ++ 58 :: q.1 ++ [61, 34] ++ q.2) (y := [34]) (by rw [sizeLine_eq]; simp; omega)
        simp only [List.append_assoc, List.cons_append, List.nil_append, List.append_nil] at z0 z1 z2 z3 z4 z5
        simp [h0, z0, z1, z2, z3, z4, z5, dcText, pairText]
    · rintro st o' ⟨done, v, w, hd, rfl, hv, rfl⟩
      simp only [envTop_c] at hv ⊢
      simp [envTop_1, envTop_0] at hv ⊢
      omega
    rintro st o' ⟨done, v3, v4, hd, rfl, hv34, rfl⟩
    rw [List.append_nil] at hd
    subst hd
    obtain ⟨x2, ex2⟩ : ∃ x2, x2 = x0 ++ (ds.map dcText).flatten := ⟨_, rfl⟩
    have lx2 : x2.length ≤ 6000 := by rw [ex2]; rw [List.length_append]; omega
    rw [← ex2]
    refine go_forA (f := atP) (ys := as) (o := []) (fun r st o => ∃ done v w u, as = done ++ r ∧ st = [some (.p pt), some (pstr (nameText p l)), some (pstr (x2 ++ (done.map atText).flatten)), v3, v4, v, w, none, u] ∧ envTop [v, w, u] = 0 ∧ o = []) (by simp [i3]) ⟨[], none, none, none, rfl, by simp, rfl, rfl⟩ ?_ ?_ ?_
    · rintro q r st o' ⟨done, v, w, u, hd, rfl, hv, rfl⟩
      have hok := g5 q (by rw [hd]; simp)
      simp only [atOk, Bool.and_eq_true] at hok
      have q1 := (pre_of hok.1.1).1
      have q2 := (loc_of hok.1.2).2.1
      have q3 := name_le hok.1.1 hok.1.2
      have q4 := av_le hok.2
      have hz : (x2 ++ (done.map atText).flatten).length ≤ 12000 := by
        rw [hd, flat_part] at t3
        rw [List.length_append]
        simp only [List.length_append, List.length_cons] at t3
        rw [hd] at g10
        simp at g10
        omega
      have e1 : x2 ++ (List.map atText (done ++ [q])).flatten = (x2 ++ (List.map atText done).flatten) ++ atText q := by rw [flat_snoc]; simp
      have z4 := fun S => r_law_name_text (n := n - 1) (by omega) (p := q.1.1) (l := q.1.2) (by rw [sizeLine_eq]; omega) S
      refine ⟨_, [some (.p pt), some (pstr (nameText p l)), some (pstr (x2 ++ ((done ++ [q]).map atText).flatten)), v3, v4, some (tp [.str q.1.1, .str q.1.2]), some (.p q.2.toP), none, some (pstr q.2.text)], [], rfl, ?_, ?_, ⟨done ++ [q], _, _, _, by simp [hd], rfl, rfl, rfl⟩⟩
      · rw [e1]
        generalize x2 ++ (List.map atText done).flatten = x1 at hz ⊢
        refine seq_nx (st1 := [some (.p pt), some (pstr (nameText p l)), some (pstr x1), v3, v4, some (tp [.str q.1.1, .str q.1.2]), some (.p q.2.toP), none, some (pstr q.2.text)]) (S1 := ext S []) ?_ ?_
        · obtain ⟨⟨qa, qb⟩, v⟩ := q
          cases v with
          | plain x => simp [Av.toP, Av.text]
          | quoted p2 l2 =>
            have ha' : isPre p2 = true ∧ isLoc l2 = true := by simpa [Av.ok] using hok.2
            have h8 := (pre_of ha'.1).1
            have h9 := (loc_of ha'.2).2.1
            have h10 := name_le ha'.1 ha'.2
            have z5 := fun S => r_law_name_text (n := n - 1) (by omega) (p := p2) (l := l2) (by rw [sizeLine_eq]; omega) S
            have z6 := fun S => a_str S (x := [64]) (y := nameText p2 l2) (by rw [sizeLine_eq]; simp; omega)
            simp only [List.cons_append, List.nil_append] at z6
            simp [z5, z6, Av.toP, Av.text]
        · refine seq_nil ?_
          have w1 := fun S => a_str S (x := x1) (y := [32]) (by rw [sizeLine_eq]; simp; omega)
          have w2 := fun S => a_str S (x := x1 ++ [32]) (y := nameText q.1.1 q.1.2) (by rw [sizeLine_eq]; simp; omega)
          have w3 := fun S => a_str S (x := x1 ++ [32] ++ nameText q.1.1 q.1.2) (y := [61, 34]) (by rw [sizeLine_eq]; simp; omega)
          have w4 := fun S => a_str S (x := x1 ++ [32] ++ nameText q.1.1 q.1.2 ++ [61, 34]) (y := q.2.text) (by rw [sizeLine_eq]; simp; omega)
          have w5 := fun S => a_str S (x := x1 ++ [32] ++ nameText q.1.1 q.1.2 ++ [61, 34] ++ q.2.text) (y := [34]) (by rw [sizeLine_eq]; simp; omega)
          simp only [List.append_assoc, List.cons_append, List.nil_append, List.append_nil] at w1 w2 w3 w4 w5
          simp [z4, w1, w2, w3, w4, w5, atText, pairText]
      · simp only [envTop_c] at hv34 ⊢
        simp [envTop_1, envTop_0] at hv34 ⊢
        omega
    · rintro st o' ⟨done, v, w, u, hd, rfl, hv, rfl⟩
      simp only [envTop_c] at hv hv34 ⊢
      simp [envTop_1, envTop_0] at hv hv34 ⊢
      omega
    rintro st o' ⟨done, v5, v6, v8, hd, rfl, hv56, rfl⟩
    rw [List.append_nil] at hd
    subst hd
    obtain ⟨x3, ex3⟩ : ∃ x3, x3 = x2 ++ (as.map atText).flatten := ⟨_, rfl⟩
    have lx3 : x3.length ≤ 12000 := by rw [ex3, List.length_append]; omega
    rw [← ex3]
    have e0 : ∀ S, eqF (tp (ks.map Kd.toP)) (tp []) S = some (pbl ks.isEmpty, S) := fun S => by rw [eq_tnil]; simp
    by_cases hks : ks = []
    · subst hks
      refine go_rt (ex := []) ?_
      have z2 := fun S => a_str S (x := x3) (y := [47, 62]) (by rw [sizeLine_eq]; simp only [List.length_cons, List.length_nil]; omega)
      have et : (Kd.el p l ds as []).text = x3 ++ [47, 62] := by rw [ex3, ex2, ex0]; simp [Kd.text]
      rw [et]
      simp only [w_if, w_b, w_2, w_var, List.getElem?_cons_succ, List.getElem?_cons_zero, Res.bind_ok, w_c, i4, ofOpt_some, w_n, w_nil, t_nil, e0, sbind_ok, List.isEmpty_nil, if_true]
      simp only [w_seq, w_ret, w_2, w_c, Res.bind_ok, w_var, List.getElem?_cons_succ, List.getElem?_cons_zero, ofOpt_some, z2, sbind_ok]
    have hne : ks.isEmpty = false := by cases ks <;> simp_all
    refine go_nx (st1 := [some (.p pt), some (pstr (nameText p l)), some (pstr x3), v3, v4, v5, v6, none, v8]) (S1 := ext S []) ?_ ?_
    · simp only [w_if, w_b, w_2, w_var, List.getElem?_cons_succ, List.getElem?_cons_zero, Res.bind_ok, w_c, i4, ofOpt_some, w_n, w_nil, t_nil, e0, hne, sbind_ok, Bool.false_eq_true, if_false]
      rfl
    have ha := fun S => a_str S (x := x3) (y := [62]) (by rw [sizeLine_eq]; simp; omega)
    obtain ⟨x4, ex4⟩ : ∃ x4, x4 = x3 ++ [62] := ⟨_, rfl⟩
    have lx4 : x4.length ≤ 12001 := by rw [ex4]; simp; omega
    rw [← ex4] at ha
    refine go_nx (st1 := [some (.p pt), some (pstr (nameText p l)), some (pstr x4), v3, v4, v5, v6, none, v8]) (S1 := ext S []) (by simp [ha]) ?_
    refine go_forA (f := Kd.toP) (ys := ks) (o := []) (fun r st o => ∃ done v, ks = done ++ r ∧ st = [some (.p pt), some (pstr (nameText p l)), some (pstr (x4 ++ Kd.texts done)), v3, v4, v5, v6, v, v8] ∧ envTop [v] = 0 ∧ o = []) (by simp [i4]) ⟨[], none, rfl, by simp [Kd.texts], rfl, rfl⟩ ?_ ?_ ?_
    · rintro k r st o' ⟨done, v, hd, rfl, hv, rfl⟩
      have hk : k ∈ ks := by rw [hd]; simp
      have gk := g7 k hk
      have hl1 := text_le gk
      have hl2 := cnt_le hk
      have hz : (x4 ++ Kd.texts done).length ≤ 900000 := by
        have e5 : (Kd.texts ks).length = (Kd.texts done).length + (Kd.texts (k :: r)).length := by rw [hd, texts_app, List.length_append]
        rw [List.length_append]
        omega
      have e1 : x4 ++ Kd.texts (done ++ [k]) = (x4 ++ Kd.texts done) ++ k.text := by rw [texts_app]; simp [Kd.texts]
      refine ⟨_, [some (.p pt), some (pstr (nameText p l)), some (pstr (x4 ++ Kd.texts (done ++ [k]))), v3, v4, v5, v6, some (.p k.toP), v8], [], rfl, ?_, ?_, ⟨done ++ [k], _, by simp [hd], rfl, rfl, rfl⟩⟩
      · rw [e1]
        generalize x4 ++ Kd.texts done = x1 at hz ⊢
        refine seq_nil ?_
        have w1 := fun S => a_str S (x := x1) (y := k.text) (by rw [sizeLine_eq]; omega)
        cases k with
        | txt x =>
          simp only [Kd.text] at w1
          simp [w1, Kd.toP, Kd.text]
        | hol x =>
          have hx := (word_of (by cases gk; assumption : isWord x = true)).2.1
          have y3 := fun S => a_str S (x := [123]) (y := x) (by rw [sizeLine_eq]; simp; omega)
          have y4 := fun S => a_str S (x := 123 :: x) (y := [125]) (by rw [sizeLine_eq]; simp; omega)
          simp only [List.cons_append, List.nil_append, Kd.text] at y3 y4 w1
          simp [w1, Kd.toP, Kd.text, y3, y4]
        | el p' l' ds' as' ks' =>
          have hc2 := lv_le hk
          have z3 := fun S => ih _ hk rfl (by omega) (n := n - 1) (by omega) S
          generalize htx : (Kd.el p' l' ds' as' ks').text = tx at z3 w1 ⊢
          have i0 : ∀ S, idxF (.p (Kd.el p' l' ds' as' ks').toP) (pint 0) S = some (pstr wElement, S) := fun S => by simp [Kd.toP]
          have k0 : ∀ S, kindD S (.p (Kd.el p' l' ds' as' ks').toP) = some "tuple" := fun S => by simp [Kd.toP]
          simp [w1, z3, i0, k0]
      · simp only [envTop_c] at hv34 hv56 ⊢
        simp [envTop_1, envTop_0] at hv34 hv56 ⊢
        omega
    · rintro st o' ⟨done, v, hd, rfl, hv, rfl⟩
      simp only [envTop_c] at hv hv34 hv56 ⊢
      simp [envTop_1, envTop_0] at hv hv34 hv56 ⊢
      omega
    rintro st o' ⟨done, v7, hd, rfl, hv7, rfl⟩
    rw [List.append_nil] at hd
    subst hd
    obtain ⟨x5, ex5⟩ : ∃ x5, x5 = x4 ++ Kd.texts ks := ⟨_, rfl⟩
    have lx5 : x5.length ≤ 900000 := by rw [ex5, List.length_append]; omega
    rw [← ex5]
    have et : (Kd.el p l ds as ks).text = x5 ++ [60, 47] ++ nameText p l ++ [62] := by
      rw [ex5, ex4, ex3, ex2, ex0]
      simp [Kd.text, hne, hks]
    refine go_rt (ex := []) ?_
    have z2 := fun S => a_str S (x := x5) (y := [60, 47]) (by rw [sizeLine_eq]; simp only [List.length_cons, List.length_nil]; omega)
    have z3 := fun S => a_str S (x := x5 ++ [60, 47]) (y := nameText p l) (by rw [sizeLine_eq]; simp only [List.length_append, List.length_cons, List.length_nil]; omega)
    have z4 := fun S => a_str S (x := x5 ++ [60, 47] ++ nameText p l) (y := [62]) (by rw [sizeLine_eq]; simp only [List.length_append, List.length_cons, List.length_nil]; omega)
    rw [et]
    simp only [w_ret, w_2, w_c, Res.bind_ok, w_var, List.getElem?_cons_succ, List.getElem?_cons_zero, ofOpt_some, z2, z3, z4, sbind_ok]
end MiLaw
set_option Elab.async false
set_option linter.all false
set_option maxRecDepth 100000
set_option maxHeartbeats 4000000
/-! draws -/
namespace MiLaw
open PySem Mi
theorem r_mixed {n : Nat} (hn : 1 ≤ n) (c k : Int) (h0 : 0 ≤ k) (hk : k ≤ 2 ^ 41) : ∃ v : Int, 0 ≤ v ∧ v < 2147483629 ∧ ∀ S, runs fs n "_law_mixed" [pint c, pint k] S = .ok (pint v) S := by
  have e0 : (0 : Int) < 2147483647 := by decide
  have e1 : (0 : Int) < 2147483629 := by decide
  have c0 := Int.emod_nonneg c (by decide : (2147483647 : Int) ≠ 0)
  have c1 := Int.emod_lt_of_pos c e0
  generalize hd : c % 2147483647 = d at c0 c1
  obtain ⟨x, hx⟩ : ∃ x, x = (d * (48271 + 2 * k * k) + 69621 * k + 11) % 2147483647 := ⟨_, rfl⟩
  have x0 := Int.emod_nonneg (d * (48271 + 2 * k * k) + 69621 * k + 11) (by decide : (2147483647 : Int) ≠ 0)
  have x1 := Int.emod_lt_of_pos (d * (48271 + 2 * k * k) + 69621 * k + 11) e0
  rw [← hx] at x0 x1
  refine ⟨x * 69621 % 2147483629, Int.emod_nonneg _ (by decide), Int.emod_lt_of_pos _ e1, fun S => ?_⟩
  rw [run__law_mixed hn]
  refine call_rt (ex := []) ?_ rfl
  have z1 := fun S => mod_ok (S := S) (i := c) e0
  rw [hd] at z1
  have z2 := fun S => mul_ok (S := S) (i := 2) (j := k) (.inl (by omega))
  have z3 := fun S => mul_ok (S := S) (i := 2 * k) (j := k) (.inr (by omega))
  have z4 := fun S => mul_ok (S := S) (i := d) (j := 48271 + 2 * k * k) (.inl (by omega))
  have z5 := fun S => mul_ok (S := S) (i := 69621) (j := k) (.inl (by omega))
  have z6 := fun S => mod_ok (S := S) (i := d * (48271 + 2 * k * k) + 69621 * k + 11) e0
  rw [← hx] at z6
  have z7 := fun S => mul_ok (S := S) (i := x) (j := 69621) (.inr (by omega))
  have z8 := fun S => mod_ok (S := S) (i := x * 69621) e1
  simp only [m__law_mixed, w_seq, w_set, w_2, w_n, w_cons, w_nil, w_var, w_c, List.map_cons, List.map_nil, List.length_cons, List.length_nil, List.cons_append, List.nil_append, Nat.zero_add, Nat.reduceAdd, Nat.sub_self, List.replicate_zero, List.append_nil, List.getElem?_cons_succ, List.getElem?_cons_zero, Res.bind_ok, int_ok, ofOpt_some, z1, sbind_ok, List.set_cons_zero, w_ret, z2, z3, add_int, z4, z5, z6, z7, z8]
theorem r_draw {sd L n : Nat} (hn : 2 ≤ n) {many : Int} (h1 : 0 < many) (h2 : many < 1073741824) : Drw fs sd L n "_law_draw" [.ref sd, pint many] 1 (fun d => ∃ v : Int, d = pint v ∧ 0 ≤ v ∧ v < many) := by
  refine Drw.of (fun S => run__law_draw (by omega) _ S) fun O bud hb => ?_
  obtain ⟨⟨c, l, cells, lefts, a, room, g1, g2, g3, g4, g5, g6, g7, g8, g9, g10, g11, g12, g13⟩, g14, g15⟩ := hb
  have hsd : sd < O.length := by omega
  have hl : l < O.length := by omega
  obtain ⟨O1, eO1⟩ : ∃ O1, O1 = O.set sd (.dct (stKvs c l (a + 1) room)) := ⟨_, rfl⟩
  have b1 : O1[sd]? = some (.dct (stKvs c l (a + 1) room)) := by rw [eO1, List.getElem?_set_self hsd]
  have b2 : O1[c]? = some (.lst (cells.map pint)) := by rw [eO1, List.getElem?_set_ne g11]; exact g2
  have b3 : O1[l]? = some (.lst (lefts.map pint)) := by rw [eO1, List.getElem?_set_ne g12]; exact g3
  have lO1 : O1.length = O.length := by rw [eO1]; simp
  obtain ⟨w1, ew1⟩ : ∃ w1 : Wr, w1 = if (MO.dct (stKvs c l (a + 1) room)).top ≤ sd then [] else [(sd, (MO.dct (stKvs c l (a + 1) room)).top)] := ⟨_, rfl⟩
  have hw1 : WrL L w1 := by
    rw [ew1]
    split
    · exact WrL.nil
    · intro q hq
      rw [List.mem_singleton] at hq
      subst hq
      refine ⟨g8, ?_⟩
      simp only [top_dct, stKvs, topKV, top_p, top_ref]
      omega
  have s1 : (gst O [] []).set sd (.dct (stKvs c l (a + 1) room)) = gst O1 w1 [] := by rw [g_low_set hsd, eO1, ew1]
  have q0 : (gst O [] []).objs[sd]? = some (.dct (stKvs c l a room)) := by rw [g_low _ _ _ hsd]; exact g1
  have q1 : (gst O1 w1 []).objs[sd]? = some (.dct (stKvs c l (a + 1) room)) := by rw [g_low _ _ _ (by omega)]; exact b1
  have q2 : (gst O1 w1 []).objs[c]? = some (.lst (cells.map pint)) := by rw [g_low _ _ _ (by omega)]; exact b2
  have q3 : (gst O1 w1 []).objs[l]? = some (.lst (lefts.map pint)) := by rw [g_low _ _ _ (by omega)]; exact b3
  have hcl : (0 : Int) < (cells.length : Nat) := by omega
  obtain ⟨pl, hpl⟩ : ∃ pl : Nat, pl = a % cells.length := ⟨_, rfl⟩
  have hpl1 : pl < cells.length := by rw [hpl]; exact Nat.mod_lt _ g5
  have hplI : ((a : Nat) : Int) % (cells.length : Nat) = (pl : Nat) := by rw [hpl]; omega
  have r1 := d_at q0
  have r2 := d_step q0
  rw [s1] at r2
  have r3 := d_cells q1
  have r4 := d_len q2
  have r5 := mod_ok (S := gst O1 w1 []) (i := (a : Nat)) hcl
  rw [hplI] at r5
  have r6 := d_lefts q1
  obtain ⟨left, hleft, r7⟩ := d_ix q3 (i := (pl : Nat)) rfl (by omega)
  obtain ⟨cell, hcell, r8⟩ := d_ix q2 (i := (pl : Nat)) rfl hpl1
  have eqv1 : Eqv L O O1 := ⟨lO1, fun i hi => by rw [eO1, List.getElem?_set_ne (by omega)]⟩
  by_cases h0 : 0 < left
  · have r9 := fdiv_ok (S := gst O1 w1 []) (i := left) h1 h2
    have r10 := d_put q3 (i := (pl : Nat)) (v := left / many) rfl (by omega)
    have s2 : (gst O1 w1 []).set l (.lst ((lefts.set pl (left / many)).map pint)) = gst (O1.set l (.lst ((lefts.set pl (left / many)).map pint))) w1 [] := by
      rw [g_low_set (by omega), if_pos (by simp only [top_lst, tops_ints]; omega)]
    rw [s2] at r10
    obtain ⟨O2, eO2⟩ : ∃ O2, O2 = O1.set l (.lst ((lefts.set pl (left / many)).map pint)) := ⟨_, rfl⟩
    rw [← eO2] at r10
    have r11 := mod_ok (S := gst O2 w1 []) (i := left) h1
    refine ⟨pint (left % many), O2, w1, [], ?_, ?_, ⟨⟨c, l, cells, lefts.set pl (left / many), a + 1, room, ?_, ?_, ?_, by simp [g4], g5, g6, by omega, g8, g9, g10, g11, g12, g13⟩, by simp [eO2, lO1]; omega, hw1⟩, rfl, _, rfl, Int.emod_nonneg _ (by omega), Int.emod_lt_of_pos _ h1⟩
    · simp [m__law_draw, r1, r2, r3, r4, r5, r6, r7, h0, r9, r10, r11]
    · rw [eO2]
      exact eqv1.trans ⟨by simp, fun i hi => by rw [List.getElem?_set_ne (by omega)]⟩
    · rw [eO2, List.getElem?_set_ne (Ne.symm g12)]; exact b1
    · rw [eO2, List.getElem?_set_ne (Ne.symm g13)]; exact b2
    · rw [eO2, List.getElem?_set_self (by omega)]
  · obtain ⟨v1, v10, v11, m1⟩ := r_mixed (n := n - 1) (by omega) cell (a : Nat) (by omega) (by omega)
    obtain ⟨v2, v20, v21, m2⟩ := r_mixed (n := n - 1) (by omega) v1 (40 + (a : Nat)) (by omega) (by omega)
    obtain ⟨v3, v30, v31, m3⟩ := r_mixed (n := n - 1) (by omega) v2 (7 + (a : Nat)) (by omega) (by omega)
    have r9 := fun S => mul_ok (S := S) (i := v2) (j := 2147483647) (.inl (by omega))
    have r10 := fun S => fdiv_ok (S := S) (i := v2 * 2147483647 + v3) (j := 64) (by decide) (by decide)
    have r11 := fun S => mod_ok (S := S) (i := (v2 * 2147483647 + v3) / 64) h1
    refine ⟨pint ((v2 * 2147483647 + v3) / 64 % many), O1, w1, [], ?_, eqv1, ⟨⟨c, l, cells, lefts, a + 1, room, b1, b2, b3, g4, g5, g6, by omega, g8, g9, g10, g11, g12, g13⟩, by omega, hw1⟩, rfl, _, rfl, Int.emod_nonneg _ (by omega), Int.emod_lt_of_pos _ h1⟩
    simp [m__law_draw, r1, r2, r3, r4, r5, r6, r7, r8, h0, m1, m2, m3, r9, r10, r11]
end MiLaw
set_option Elab.async false
set_option linter.all false
set_option maxRecDepth 100000
set_option maxHeartbeats 4000000
/-! drawn prefixes, names, declarations, attributes -/
namespace MiLaw
open PySem Mi
/-- one of some things, by a draw -/
theorem pick_ok {sd L n : Nat} (hn : 2 ≤ n) {its : EM (List D)} {l : List P} {k : Int} {i : Nat} {st : Mi.Env} {B : List MO} {wr : Wr} {bud : Nat} (xs : List MO) (hst : st[i]? = some (some (.ref sd))) (hits : ∀ S, its st S = .ok (l.map D.p) S) (hk : k = l.length) (h0 : 0 < l.length) (hl : l.length ≤ 1000) (hb : DB sd L (bud + 1) B wr) :
    ∃ x ∈ l, ∃ B' wr', m2 idxF (mN lstF its) (mCall (runs fs n) "_law_draw" 2 (mCons (mVar i) (mCons (mC (pint k)) mNil))) st (gst B wr xs) = .ok (.p x) (gst B' wr' (xs ++ [.lst (l.map D.p)])) ∧ Eqv L B B' ∧ DB sd L bud B' wr' := by
  obtain ⟨d, B', wr', h1, h2, h3, v, rfl, v0, v1⟩ := (r_draw (sd := sd) (L := L) hn (many := k) (by omega) (by omega)).use hb (xs ++ [.lst (l.map D.p)])
  obtain ⟨x, hx, h4⟩ := g_ix (B := B') (wr := wr') (xs := xs ++ [.lst (l.map D.p)]) (i := xs.length) (l := l) (v := v) (at_last _ _) v0 (by omega)
  refine ⟨x, hx, B', wr', ?_, h2, h3⟩
  have z := g_lst_new (B := B) (wr := wr) (xs := xs) (l.map D.p) (by simpa using hl)
  rw [h2.1] at h4
  simp [hits, z, hst, h1, h4]
def prefs : List (List Nat) := [[], [112], [113], [112], [], [114], [112, 112]]
def locs : List (List Nat) := [[97], [98], [97], [99]]
def addrs : List (List Nat) := [[117], [118], [117], [119, 46, 120], [], [117, 58, 49]]
def plains : List (List Nat) := [[], [120], [120, 32, 121], [49]]
theorem r_prefix {sd L n : Nat} (hn : 3 ≤ n) : Drw fs sd L n "_law_prefix" [.ref sd] 1 (fun d => ∃ p ∈ prefs, d = pstr p) := by
  refine Drw.of (fun S => run__law_prefix (by omega) _ S) fun O bud hb => ?_
  obtain ⟨x, hx, B', wr', h1, h2, h3⟩ := pick_ok (n := n - 1) (by omega) (its := (mCons (mC (pstr [])) (mCons (mC (pstr [112])) (mCons (mC (pstr [113])) (mCons (mC (pstr [112])) (mCons (mC (pstr [])) (mCons (mC (pstr [114])) (mCons (mC (pstr [112, 112])) mNil)))))))) (l := prefs.map P.str) (k := 7) (i := 0) (st := [some (.ref sd)]) [] rfl (fun S => by simp [prefs]) rfl (by decide) (by decide) hb
  obtain ⟨p, hp, rfl⟩ := List.mem_map.mp hx
  refine ⟨pstr p, B', wr', [] ++ [.lst ((prefs.map P.str).map D.p)], ?_, h2, h3, rfl, p, hp, rfl⟩
  simp only [m__law_prefix]
  refine seq_rt ?_
  simp only [w_ret]
  show sbind (m2 idxF _ _ [some (.ref sd)] (gst O [] [])) _ _ = _
  rw [h1]
  rfl
theorem r_name {sd L n : Nat} (hn : 4 ≤ n) : Drw fs sd L n "_law_name" [.ref sd] 2 (fun d => ∃ p ∈ prefs, ∃ l ∈ locs, d = tp [.str p, .str l]) := by
  refine Drw.of (fun S => run__law_name (by omega) _ S) fun O bud hb => ?_
  obtain ⟨d, B1, wr1, h1, h2, h3, p, hp, rfl⟩ := (r_prefix (sd := sd) (L := L) (n := n - 1) (by omega)).use (bud := bud + 1) hb []
  obtain ⟨x, hx, B', wr', h4, h5, h6⟩ := pick_ok (n := n - 1) (by omega) (its := (mCons (mC (pstr [97])) (mCons (mC (pstr [98])) (mCons (mC (pstr [97])) (mCons (mC (pstr [99])) mNil))))) (l := locs.map P.str) (k := 4) (i := 0) (st := [some (.ref sd)]) [] rfl (fun S => by simp [locs]) rfl (by decide) (by decide) h3
  obtain ⟨l, hl, rfl⟩ := List.mem_map.mp hx
  refine ⟨tp [.str p, .str l], B', wr', [] ++ [.lst ((locs.map P.str).map D.p)], ?_, h2.trans h5, h6, rfl, p, hp, l, hl, rfl⟩
  simp only [m__law_name]
  refine seq_rt ?_
  simp only [List.map_cons, List.map_nil, List.length_cons, List.length_nil, Nat.zero_add, Nat.sub_self, List.replicate_zero, List.append_nil]
  simp only [w_ret, w_n, w_cons, w_call, w_var, w_nil, List.getElem?_cons_zero, Res.bind_ok, List.length_cons, List.length_nil, Nat.zero_add, if_true, h1, h4, ofOpt_some, t_2, sbind_ok]
theorem g_setd {B : List MO} {wr : Wr} {xs : List MO} {i : Nat} {kvs : List (D × D)} {a v : D} (h : xs[i]? = some (.dct kvs)) (hk : dKind kvs a = true) (hl : kvs.length < sizeLine) (ht : topKV (dPut kvs a v) ≤ B.length + i) : setF (.ref (B.length + i)) a v (gst B wr xs) = some (gst B wr (xs.set i (.dct (dPut kvs a v)))) := by
  simp [setF, h, hk, hl, g_set B wr xs (o := .dct (dPut kvs a v)) ht]
theorem top_rows {α β : Type} (f : α → P) (g : β → P) (l : List (α × β)) : topKV (l.map (rowD f g)) = 0 :=
  Nat.le_zero.mp (topKV_of fun q hq => by obtain ⟨a, _, rfl⟩ := List.mem_map.mp hq; exact ⟨Nat.le_refl _, Nat.le_refl _⟩)
theorem kind_str {β : Type} (g : β → P) (l : List (List Nat × β)) (a : List Nat) : dKind (l.map (rowD P.str g)) (pstr a) = true := by
  simp only [dKind, keyP, Option.isSome_some, Bool.true_and, List.all_map, Bool.or_eq_true]
  left
  rw [List.all_eq_true]
  intro k _
  rfl
theorem kind_nm {β : Type} (g : β → P) (l : List ((List Nat × List Nat) × β)) (a : List Nat × List Nat) : dKind (l.map (rowD nmP g)) (.p (nmP a)) = true := by
  simp only [dKind, Bool.or_eq_true]
  right
  simp only [keyT, keyPs, keyP, Option.isSome_some, Bool.true_and, List.all_map]
  rw [List.all_eq_true]
  intro k _
  rfl
theorem nmP_inj (a b : List Nat × List Nat) (h : nmP a = nmP b) : a = b := by
  simp only [nmP, P.tup.injEq, List.cons.injEq, P.str.injEq, and_true] at h
  exact Prod.ext h.1 h.2
theorem str_inj (a b : List Nat) (h : P.str a = P.str b) : a = b := P.str.inj h
/-- a loop over a range -/
theorem range_ok {im : EM (List D)} {t : Tg} {body : SM} {st : Mi.Env} {S S1 : Sto} {v : Int} (h : im st S = .ok [pint v] S1) (h0 : 0 ≤ v) (h1 : v < 1000000) : sForK (.im (iRange1 im)) t body st S = (forItems (fun _ => true) S1.objs.length t body (rangeL 0 v.toNat) st S1).trimNx S.objs.length := by
  have z : -(2 ^ 62 : Int) ≤ v ∧ v < 2 ^ 62 := by omega
  simp only [sForK, sFor, iRange1, h, Res.bind_ok, if_pos z, sbind_ok]
theorem rangeL_top {lo : Int} {k : Nat} {x : D} (h : x ∈ rangeL lo k) : x.top = 0 := by
  unfold rangeL at h
  obtain ⟨i, _, rfl⟩ := List.mem_map.mp h
  rfl
theorem rangeL_len (lo : Int) (k : Nat) : (rangeL lo k).length = k := by simp [rangeL]
theorem sd_lt {sd L b : Nat} {B : List MO} {wr : Wr} (h : DB sd L b B wr) : sd < B.length := by
  obtain ⟨⟨c, l, cells, lefts, a, room, h1, h2, h3, h4, h5, h6, h7, h8, h9⟩, h10, h11⟩ := h
  omega
def dcsOk (ds : List Dc) : Prop := (∀ q ∈ ds, q.1 ∈ prefs ∧ q.2 ∈ addrs) ∧ (ds.map (·.1)).Nodup
theorem r_declarations {sd L n : Nat} (hn : 4 ≤ n) {most : Nat} (hm : most ≤ 50) : Drw fs sd L n "_law_declarations" [.ref sd, pint (most : Nat)] (1 + 2 * most) (fun d => ∃ ds : List Dc, d = tp (ds.map dcP) ∧ dcsOk ds ∧ ds.length ≤ most) := by
  refine Drw.of (fun S => run__law_declarations (by omega) _ S) fun O bud hb => ?_
  unfold m__law_declarations
  obtain ⟨d, B1, wr1, h1, h2, h3, v, rfl, v0, v1⟩ := (r_draw (sd := sd) (L := L) (n := n - 1) (by omega) (many := (most : Nat) + 1) (by omega) (by omega)).use (bud := bud + 2 * most) (hb.less (by omega)) [.dct []]
  have hr := range_ok (im := mCons (mCall (runs fs (n - 1)) "_law_draw" 2 (mCons (mVar 0) (mCons (m2 addF (mVar 1) (mC (pint 1))) mNil))) mNil) (t := .nm 3) (body := (sSeq (sSub (m2 idxF (mN lstF (mCons (mC (pstr [117])) (mCons (mC (pstr [118])) (mCons (mC (pstr [117])) (mCons (mC (pstr [119, 46, 120])) (mCons (mC (pstr [])) (mCons (mC (pstr [117, 58, 49])) mNil))))))) (mCall (runs fs (n - 1)) "_law_draw" 2 (mCons (mVar 0) (mCons (mC (pint 6)) mNil)))) (mVar 2) (mCall (runs fs (n - 1)) "_law_prefix" 1 (mCons (mVar 0) mNil))) sNil)) (st := [some (.ref sd), some (pint (most : Nat)), some (.ref O.length), none, none]) (S := gst O [] [.dct []]) (v := v) (S1 := gst B1 wr1 [.dct []]) (by simp [h1]) v0 (by omega)
  obtain ⟨st', S', f1, ds, v3, B, wr, e1, e2, e3, e4, e5, e6, e7, e8⟩ := for_any (chk := fun _ => true) (b0 := (gst B1 wr1 [.dct []]).objs.length) (t := .nm 3) (body := (sSeq (sSub (m2 idxF (mN lstF (mCons (mC (pstr [117])) (mCons (mC (pstr [118])) (mCons (mC (pstr [117])) (mCons (mC (pstr [119, 46, 120])) (mCons (mC (pstr [])) (mCons (mC (pstr [117, 58, 49])) mNil))))))) (mCall (runs fs (n - 1)) "_law_draw" 2 (mCons (mVar 0) (mCons (mC (pint 6)) mNil)))) (mVar 2) (mCall (runs fs (n - 1)) "_law_prefix" 1 (mCons (mVar 0) mNil))) sNil))
    (I := fun r st S => ∃ (ds : List Dc) (v3 : Option D) (B : List MO) (wr : Wr), st = [some (.ref sd), some (pint (most : Nat)), some (.ref O.length), v3, none] ∧ envTop [v3] = 0 ∧ S = gst B wr [.dct (ds.map (rowD P.str P.str))] ∧ Eqv L O B ∧ DB sd L (bud + 2 * r.length) B wr ∧ dcsOk ds ∧ ds.length + r.length ≤ most ∧ ∀ x ∈ r, x.top = 0)
    (fun _ _ _ => rfl) (by
      rintro x r st S ⟨ds, v3, B, wr, rfl, e2, rfl, e4, e5, e6, e7, e8⟩
      refine ⟨rfl, [some (.ref sd), some (pint (most : Nat)), some (.ref O.length), some x, none], [some (.ref sd), some (pint (most : Nat)), some (.ref O.length), some x, none], ?_⟩
      obtain ⟨y, hy, B2, wr2, p1, p2, p3⟩ := pick_ok (n := n - 1) (by omega) (its := (mCons (mC (pstr [117])) (mCons (mC (pstr [118])) (mCons (mC (pstr [117])) (mCons (mC (pstr [119, 46, 120])) (mCons (mC (pstr [])) (mCons (mC (pstr [117, 58, 49])) mNil))))))) (l := addrs.map P.str) (k := 6) (i := 0) (st := [some (.ref sd), some (pint (most : Nat)), some (.ref O.length), some x, none]) (bud := bud + 2 * r.length + 1) [.dct (ds.map (rowD P.str P.str))] rfl (fun S => by simp [addrs]) rfl (by decide) (by decide) (e5.less (by simp; omega))
      obtain ⟨a, ha, rfl⟩ := List.mem_map.mp hy
      obtain ⟨d, B3, wr3, q1, q2, q3, p, hp, rfl⟩ := (r_prefix (sd := sd) (L := L) (n := n - 1) (by omega)).use p3 ([.dct (ds.map (rowD P.str P.str))] ++ [.lst ((addrs.map P.str).map D.p)])
      have hlen : O.length = B3.length := by rw [q2.1, p2.1, e4.1]
      have hsd := sd_lt q3
      simp only [List.cons_append, List.nil_append] at q1 p1
      have z := g_setd (B := B3) (wr := wr3) (xs := [.dct (ds.map (rowD P.str P.str)), .lst ((addrs.map P.str).map D.p)]) (i := 0) (a := pstr p) (v := pstr a) rfl (kind_str P.str ds p) (by simp [sizeLine_eq]; omega) (by rw [dPut_rows str_inj, top_rows]; omega)
      rw [dPut_rows str_inj] at z
      simp only [Nat.add_zero, List.set_cons_zero] at z
      rw [← hlen] at z
      refine ⟨gst B3 wr3 [.dct ((asPut ds p a).map (rowD P.str P.str)), .lst ((addrs.map P.str).map D.p)], rfl, ?_, asPut ds p a, some x, B3, wr3, rfl, by simp [e8 x List.mem_cons_self], ?_, e4.trans (p2.trans q2), q3, ⟨fun q hq => ?_, asPut_nodup e6.2 p a⟩, ?_, fun y hy => e8 y (List.mem_cons_of_mem _ hy)⟩
      · refine seq_nil ?_
        simp only [w_sub]
        rw [p1]
        simp only [sbind_ok, w_var, List.getElem?_cons_succ, List.getElem?_cons_zero, w_call, w_cons, w_nil, Res.bind_ok, List.length_cons, List.length_nil, Nat.zero_add, if_true, q1, List.cons_append, List.nil_append, z]
      · rw [show (gst B1 wr1 [MO.dct []]).objs.length = B3.length + 1 from by rw [g_olen, h2.1, hlen]; rfl, g_trim q3.wr q3.le (by simp [e8 x List.mem_cons_self]; omega)]
        rfl
      · rcases asPut_mem hq with hq | rfl
        · exact e6.1 q hq
        · exact ⟨hp, ha⟩
      · have := asPut_len ds p a
        simp only [List.length_cons] at e7
        omega) (rangeL 0 v.toNat) [some (.ref sd), some (pint (most : Nat)), some (.ref O.length), none, none] (gst B1 wr1 [.dct []]) ⟨[], none, B1, wr1, rfl, rfl, rfl, h2, by rw [rangeL_len]; exact h3.less (by omega), ⟨by simp, by simp⟩, by rw [rangeL_len]; simp; omega, fun x hx => rangeL_top hx⟩
  subst e1 e3
  rw [f1] at hr
  have hlen : O.length = B.length := e4.1.symm
  have hsd := sd_lt e5
  have y := g_pairs (f := P.str) (g := P.str) str_inj e6.2 (fun q _ => kind_str P.str ds q.1) e5.wr e5.le (st := [some (.ref sd), some (pint (most : Nat)), some (.ref O.length), v3, none]) (iv := 2) (jv := 4) (by rw [sizeLine_eq]; omega) (by simp [hlen]) (by simp) (by decide)
  refine ⟨tp (ds.map dcP), B, wr, [.dct (ds.map (rowD P.str P.str)), .lst ((ds.map dcP).map D.p)], ?_, e4, e5, rfl, ds, rfl, e6, by simpa using e7⟩
  refine seq_nx (st1 := [some (.ref sd), some (pint (most : Nat)), some (.ref O.length), none, none]) (S1 := gst O [] [.dct []]) (by simp) ?_
  refine seq_nx (st1 := [some (.ref sd), some (pint (most : Nat)), some (.ref O.length), v3, none]) (S1 := gst B wr [.dct (ds.map (rowD P.str P.str))]) ?_ ?_
  · rw [hr]
    simp only [Out.trimNx]
    rw [show (gst O [] [MO.dct []]).objs.length = B.length + 1 from by rw [g_olen, hlen]; rfl, g_trim e5.wr e5.le (by simp only [envTop_c] at e2 ⊢; simp [envTop_1, envTop_0] at e2 ⊢; omega)]
    rfl
  · refine seq_rt ?_
    have y2 := g_tuple (B := B) (wr := wr) (xs := [.dct (ds.map (rowD P.str P.str)), .lst ((ds.map dcP).map D.p)]) (i := 1) (l := ds.map dcP) rfl
    simp only [w_ret, w_n, w_cons, w_nil, y, Res.bind_ok]
    rw [show (List.map (fun q : Dc => P.tup [P.str q.1, P.str q.2]) ds) = ds.map dcP from rfl, y2]
    rfl
end MiLaw
set_option Elab.async false
set_option linter.all false
set_option maxRecDepth 100000
set_option maxHeartbeats 4000000
/-! drawn attributes -/
namespace MiLaw
open PySem Mi
def Av.drawn : Av → Prop
  | .plain x => x ∈ plains
  | .quoted p l => p ∈ prefs ∧ l ∈ locs
def atsOk (as : List At) : Prop := (∀ q ∈ as, q.1.1 ∈ prefs ∧ q.1.2 ∈ locs ∧ q.2.drawn) ∧ (as.map (·.1)).Nodup
/-- the loop's body in _law_attributes -/
noncomputable def bodyA (n : Nat) : SM := (sSeq (sSet 4 (m2 eqF (mCall (runs fs n) "_law_draw" 2 (mCons (mVar 0) (mCons (mC (pint 3)) mNil))) (mC (pint 0)))) (sSeq (sSub (mIte (mTru (mVar 4)) (mCall (runs fs n) "_law_name" 1 (mCons (mVar 0) mNil)) (m2 idxF (mN lstF (mCons (mC (pstr [])) (mCons (mC (pstr [120])) (mCons (mC (pstr [120, 32, 121])) (mCons (mC (pstr [49])) mNil))))) (mCall (runs fs n) "_law_draw" 2 (mCons (mVar 0) (mCons (mC (pint 4)) mNil))))) (mVar 2) (mCall (runs fs n) "_law_name" 1 (mCons (mVar 0) mNil))) sNil))
/-- an attribute's value, by a draw -/
theorem value_ok {sd L n : Nat} (hn : 4 ≤ n) {x y : D} {z : Option D} {st : Mi.Env} {qd : Bool} (h0 : st[0]? = some (some (.ref sd))) (h4 : st[4]? = some (some (pbl qd))) {B : List MO} {wr : Wr} {bud : Nat} (hb : DB sd L (bud + 2) B wr) (o : MO) :
    ∃ (v : Av) (B' : List MO) (wr' : Wr) (xs : List MO), v.drawn ∧ mIte (mTru (mVar 4)) (mCall (runs fs n) "_law_name" 1 (mCons (mVar 0) mNil)) (m2 idxF (mN lstF (mCons (mC (pstr [])) (mCons (mC (pstr [120])) (mCons (mC (pstr [120, 32, 121])) (mCons (mC (pstr [49])) mNil))))) (mCall (runs fs n) "_law_draw" 2 (mCons (mVar 0) (mCons (mC (pint 4)) mNil)))) st (gst B wr [o]) = .ok (.p v.toP) (gst B' wr' (o :: xs)) ∧ Eqv L B B' ∧ DB sd L bud B' wr' := by
  cases qd with
  | true =>
    obtain ⟨d, B', wr', q1, q2, q3, p, hp, l, hl, rfl⟩ := (r_name (sd := sd) (L := L) (n := n) (by omega)).use hb [o]
    exact ⟨.quoted p l, B', wr', [], ⟨hp, hl⟩, by simp [h4, h0, q1, Av.toP], q2, q3⟩
  | false =>
    obtain ⟨y, hy, B2, wr2, p1, p2, p3⟩ := pick_ok (n := n) (by omega) (its := (mCons (mC (pstr [])) (mCons (mC (pstr [120])) (mCons (mC (pstr [120, 32, 121])) (mCons (mC (pstr [49])) mNil))))) (l := plains.map P.str) (k := 4) (i := 0) (st := st) (bud := bud) [o] h0 (fun S => by simp [plains]) rfl (by decide) (by decide) (hb.less (by omega))
    obtain ⟨a, ha, rfl⟩ := List.mem_map.mp hy
    refine ⟨.plain a, B2, wr2, [.lst ((plains.map P.str).map D.p)], ha, ?_, p2, p3⟩
    simp only [w_ite, w_tru, w_var, h4, Res.bind_ok, tru_bl, Bool.false_eq_true, if_false]
    exact p1
theorem r_attributes {sd L n : Nat} (hn : 5 ≤ n) {most : Nat} (hm : most ≤ 50) : Drw fs sd L n "_law_attributes" [.ref sd, pint (most : Nat)] (1 + 5 * most) (fun d => ∃ as : List At, d = tp (as.map atP) ∧ atsOk as ∧ as.length ≤ most) := by
  refine Drw.of (fun S => run__law_attributes (by omega) _ S) fun O bud hb => ?_
  unfold m__law_attributes
  obtain ⟨d, B1, wr1, h1, h2, h3, v, rfl, v0, v1⟩ := (r_draw (sd := sd) (L := L) (n := n - 1) (by omega) (many := (most : Nat) + 1) (by omega) (by omega)).use (bud := bud + 5 * most) (hb.less (by omega)) [.dct []]
  have hr := range_ok (im := mCons (mCall (runs fs (n - 1)) "_law_draw" 2 (mCons (mVar 0) (mCons (m2 addF (mVar 1) (mC (pint 1))) mNil))) mNil) (t := .nm 3) (body := bodyA (n - 1)) (st := [some (.ref sd), some (pint (most : Nat)), some (.ref O.length), none, none, none]) (S := gst O [] [.dct []]) (v := v) (S1 := gst B1 wr1 [.dct []]) (by simp [h1]) v0 (by omega)
  obtain ⟨st', S', f1, as, v3, v4, B, wr, e1, e2, e3, e4, e5, e6, e7, e8⟩ := for_any (chk := fun _ => true) (b0 := (gst B1 wr1 [.dct []]).objs.length) (t := .nm 3) (body := bodyA (n - 1))
    (I := fun r st S => ∃ (as : List At) (v3 v4 : Option D) (B : List MO) (wr : Wr), st = [some (.ref sd), some (pint (most : Nat)), some (.ref O.length), v3, v4, none] ∧ envTop [v3, v4] = 0 ∧ S = gst B wr [.dct (as.map (rowD nmP Av.toP))] ∧ Eqv L O B ∧ DB sd L (bud + 5 * r.length) B wr ∧ atsOk as ∧ as.length + r.length ≤ most ∧ ∀ x ∈ r, x.top = 0)
    (fun _ _ _ => rfl) (by
      rintro x r st S ⟨as, v3, v4, B, wr, rfl, e2, rfl, e4, e5, e6, e7, e8⟩
      obtain ⟨d, B0, wr0, p1, p2, p3, v, rfl, p4, p5⟩ := (r_draw (sd := sd) (L := L) (n := n - 1) (by omega) (many := 3) (by omega) (by omega)).use (bud := bud + 5 * r.length + 4) (e5.less (by simp; omega)) [.dct (as.map (rowD nmP Av.toP))]
      obtain ⟨val, B2, wr2, xs, a1, a2, a3, a4⟩ := value_ok (n := n - 1) (by omega) (x := pnon) (y := pnon) (z := none) (st := [some (.ref sd), some (pint (most : Nat)), some (.ref O.length), some x, some (pbl (decide (v = 0))), none]) (qd := decide (v = 0)) rfl rfl (bud := bud + 5 * r.length + 2) p3 (.dct (as.map (rowD nmP Av.toP)))
      obtain ⟨d, B3, wr3, q1, q2, q3, p, hp, l, hl, rfl⟩ := (r_name (sd := sd) (L := L) (n := n - 1) (by omega)).use (bud := bud + 5 * r.length) a4 (.dct (as.map (rowD nmP Av.toP)) :: xs)
      have hlen : O.length = B3.length := by rw [q2.1, a3.1, p2.1, e4.1]
      have hsd := sd_lt q3
      have z := g_setd (B := B3) (wr := wr3) (xs := .dct (as.map (rowD nmP Av.toP)) :: xs) (i := 0) (a := .p (nmP (p, l))) (v := .p val.toP) rfl (kind_nm Av.toP as (p, l)) (by simp [sizeLine_eq]; omega) (by rw [dPut_rows nmP_inj, top_rows]; omega)
      rw [dPut_rows nmP_inj] at z
      simp only [Nat.add_zero, List.set_cons_zero] at z
      rw [← hlen] at z
      refine ⟨rfl, [some (.ref sd), some (pint (most : Nat)), some (.ref O.length), some x, v4, none], [some (.ref sd), some (pint (most : Nat)), some (.ref O.length), some x, some (pbl (decide (v = 0))), none], gst B3 wr3 (.dct ((asPut as (p, l) val).map (rowD nmP Av.toP)) :: xs), rfl, ?_, asPut as (p, l) val, some x, some (pbl (decide (v = 0))), B3, wr3, rfl, by simp [e8 x List.mem_cons_self], ?_, e4.trans (p2.trans (a3.trans q2)), q3, ⟨fun q hq => ?_, asPut_nodup e6.2 (p, l) val⟩, ?_, fun y hy => e8 y (List.mem_cons_of_mem _ hy)⟩
      · unfold bodyA
        refine seq_nx (st1 := [some (.ref sd), some (pint (most : Nat)), some (.ref O.length), some x, some (pbl (decide (v = 0))), none]) (S1 := gst B0 wr0 [.dct (as.map (rowD nmP Av.toP))]) (by simp [p1]) ?_
        refine seq_nil ?_
        simp only [w_sub]
        rw [a2]
        simp only [sbind_ok, w_var, List.getElem?_cons_succ, List.getElem?_cons_zero, w_call, w_cons, w_nil, Res.bind_ok, List.length_cons, List.length_nil, Nat.zero_add, if_true, q1, z]
      · rw [show (gst B1 wr1 [MO.dct []]).objs.length = B3.length + 1 from by rw [g_olen, h2.1, hlen]; rfl, g_trim q3.wr q3.le (by simp [e8 x List.mem_cons_self]; omega)]
        rfl
      · rcases asPut_mem hq with hq | rfl
        · exact e6.1 q hq
        · exact ⟨hp, hl, a1⟩
      · have := asPut_len as (p, l) val
        simp only [List.length_cons] at e7
        omega) (rangeL 0 v.toNat) [some (.ref sd), some (pint (most : Nat)), some (.ref O.length), none, none, none] (gst B1 wr1 [.dct []]) ⟨[], none, none, B1, wr1, rfl, rfl, rfl, h2, by rw [rangeL_len]; exact h3.less (by omega), ⟨by simp, by simp⟩, by rw [rangeL_len]; simp; omega, fun x hx => rangeL_top hx⟩
  subst e1 e3
  rw [f1] at hr
  have hlen : O.length = B.length := e4.1.symm
  have hsd := sd_lt e5
  have y := g_pairs (f := nmP) (g := Av.toP) nmP_inj e6.2 (fun q _ => kind_nm Av.toP as q.1) e5.wr e5.le (st := [some (.ref sd), some (pint (most : Nat)), some (.ref O.length), v3, v4, none]) (iv := 2) (jv := 5) (by rw [sizeLine_eq]; omega) (by simp [hlen]) (by simp) (by decide)
  refine ⟨tp (as.map atP), B, wr, [.dct (as.map (rowD nmP Av.toP)), .lst ((as.map atP).map D.p)], ?_, e4, e5, rfl, as, rfl, e6, by simpa using e7⟩
  refine seq_nx (st1 := [some (.ref sd), some (pint (most : Nat)), some (.ref O.length), none, none, none]) (S1 := gst O [] [.dct []]) (by simp) ?_
  refine seq_nx (st1 := [some (.ref sd), some (pint (most : Nat)), some (.ref O.length), v3, v4, none]) (S1 := gst B wr [.dct (as.map (rowD nmP Av.toP))]) ?_ ?_
  · show sForK (.im (iRange1 _)) (.nm 3) (bodyA (n - 1)) _ _ = _
    rw [hr]
    simp only [Out.trimNx]
    rw [show (gst O [] [MO.dct []]).objs.length = B.length + 1 from by rw [g_olen, hlen]; rfl, g_trim e5.wr e5.le (by simp only [envTop_c] at e2 ⊢; simp [envTop_1, envTop_0] at e2 ⊢; omega)]
    rfl
  · refine seq_rt ?_
    have y2 := g_tuple (B := B) (wr := wr) (xs := [.dct (as.map (rowD nmP Av.toP)), .lst ((as.map atP).map D.p)]) (i := 1) (l := as.map atP) rfl
    simp only [w_ret, w_n, w_cons, w_nil, y, Res.bind_ok]
    rw [show (List.map (fun q : At => P.tup [nmP q.1, q.2.toP]) as) = as.map atP from rfl, y2]
    rfl
end MiLaw
set_option Elab.async false
set_option linter.all false
set_option maxRecDepth 100000
set_option maxHeartbeats 4000000
/-! drawn elements: one turn -/
namespace MiLaw
open PySem Mi
/-- the same above a line but for one object -/
def Eq1 (L sp : Nat) (B B' : List MO) : Prop := B'.length = B.length ∧ ∀ i, L ≤ i → i ≠ sp → B'[i]? = B[i]?
theorem Eq1.refl {L sp : Nat} {B : List MO} : Eq1 L sp B B := ⟨rfl, fun _ _ _ => rfl⟩
theorem Eq1.trans {L sp : Nat} {A B C : List MO} (h : Eq1 L sp A B) (k : Eq1 L sp B C) : Eq1 L sp A C := ⟨k.1.trans h.1, fun i hi hn => (k.2 i hi hn).trans (h.2 i hi hn)⟩
theorem one_of {L sp : Nat} {A B : List MO} (h : Eqv L A B) : Eq1 L sp A B := ⟨h.1, fun i hi _ => h.2 i hi⟩
theorem Eq1.split {L sp : Nat} {B xs O : List MO} (hL : L ≤ B.length) (hs : sp < B.length) (h : Eq1 L sp (B ++ xs) O) : ∃ B', O = B' ++ xs ∧ Eq1 L sp B B' := by
  have hl := h.1
  simp only [List.length_append] at hl
  refine ⟨O.take B.length, ?_, ?_, fun i hi hn => ?_⟩
  · refine List.ext_getElem? fun i => ?_
    by_cases hi : i < B.length
    · rw [List.getElem?_append_left (by simp; omega), List.getElem?_take_of_lt hi]
    · rw [h.2 i (by omega) (by omega), List.getElem?_append_right (by omega), List.getElem?_append_right (by simp; omega)]
      simp only [List.length_take]
      congr 1
      omega
  · simp; omega
  · by_cases hb : i < B.length
    · rw [List.getElem?_take_of_lt hb, h.2 i hi hn, List.getElem?_append_left hb]
    · rw [List.getElem?_eq_none (by simp; omega), List.getElem?_eq_none (by omega)]
def elCost (m : Nat) : Nat → Nat
  | 0 => 30
  | d + 1 => 30 + m * (2 + elCost m d)
def elCnt (m : Nat) : Nat → Nat
  | 0 => 0
  | d + 1 => 1 + m * elCnt m d
abbrev spD (spare : List (List Nat)) : MO := .lst ((spare.map P.str).map D.p)
/-- what _law_element tells -/
def ElD (sd L sp most n d : Nat) : Prop := ∀ O wr bud spare, DB sd L (bud + elCost most d) O wr → L ≤ sp → O[sp]? = some (spD spare) → (∀ w ∈ spare, isWord w = true) →
  ∃ k O' wr' spare', runs fs n "_law_element" [.ref sd, pint (d : Nat), pint (most : Nat), .ref sp] ⟨O, wr⟩ = .ok (.p (Kd.toP k)) ⟨O', wr'⟩ ∧ Eq1 L sp O O' ∧ DB sd L bud O' wr' ∧ O'[sp]? = some (spD spare') ∧ k.Good ∧ k.isEl = true ∧ k.lv ≤ d ∧ k.cnt ≤ elCnt most d ∧ spare.Perm (spare' ++ k.hs)
theorem ElD.use {sd L sp most n d : Nat} (h : ElD sd L sp most n d) {B : List MO} {wr : Wr} {bud : Nat} {spare : List (List Nat)} (hb : DB sd L (bud + elCost most d) B wr) (hL : L ≤ sp) (hs : B[sp]? = some (spD spare)) (hw : ∀ w ∈ spare, isWord w = true) (xs : List MO) :
    ∃ k B' wr' spare', runs fs n "_law_element" [.ref sd, pint (d : Nat), pint (most : Nat), .ref sp] (gst B wr xs) = .ok (.p (Kd.toP k)) (gst B' wr' xs) ∧ Eq1 L sp B B' ∧ DB sd L bud B' wr' ∧ B'[sp]? = some (spD spare') ∧ k.Good ∧ k.isEl = true ∧ k.lv ≤ d ∧ k.cnt ≤ elCnt most d ∧ spare.Perm (spare' ++ k.hs) := by
  have hlt : sp < B.length := (List.getElem?_eq_some_iff.mp hs).1
  obtain ⟨k, O', wr', spare', h1, h2, h3, h4, h5⟩ := h (B ++ xs) wr bud spare (hb.wide xs) hL (by rw [List.getElem?_append_left hlt]; exact hs) hw
  obtain ⟨B', rfl, h6⟩ := h2.split hb.le hlt
  refine ⟨k, B', wr', spare', h1, h6, h3.thin (by rw [h6.1]; exact hb.le), ?_, h5⟩
  rw [List.getElem?_append_left (by rw [h6.1]; exact hlt)] at h4
  exact h4
def lastTxt (ks : List Kd) : Bool := match ks.getLast? with
  | some k => k.isTxt
  | none => false
theorem adj_snoc : ∀ (ks : List Kd) (b : Bool) (k : Kd), noAdj b ks = true → (k.isTxt = true → (if ks = [] then b else lastTxt ks) = false) → noAdj b (ks ++ [k]) = true
  | [], b, k, _, h => by
    cases k with
    | txt x => simpa [noAdj] using h rfl
    | hol _ => rfl
    | el _ _ _ _ _ => rfl
  | q :: ks, b, k, h1, h2 => by
    have key : ∀ b', noAdj b' ks = true → (ks = [] → b' = q.isTxt) → noAdj b' (ks ++ [k]) = true := fun b' hb hq => adj_snoc ks b' k hb fun hk => by
      have z := h2 hk
      rw [if_neg (by simp)] at z
      by_cases he : ks = []
      · subst he
        rw [if_pos rfl, hq rfl]
        simpa [lastTxt] using z
      · rw [if_neg he]
        have e : lastTxt (q :: ks) = lastTxt ks := by
          unfold lastTxt
          rw [List.getLast?_cons_of_ne_nil he]
        rw [e] at z
        exact z
    cases q with
    | txt x =>
      simp only [noAdj, Bool.and_eq_true, List.cons_append] at h1 ⊢
      exact ⟨h1.1, key true h1.2 fun _ => rfl⟩
    | hol x => exact key false h1 fun _ => rfl
    | el _ _ _ _ _ => exact key false h1 fun _ => rfl
theorem hss_snoc : ∀ (ks : List Kd) (k : Kd), Kd.hss (ks ++ [k]) = Kd.hss ks ++ k.hs
  | [], k => by simp [Kd.hss]
  | q :: ks, k => by simp [Kd.hss, hss_snoc ks k]
theorem lvs_snoc : ∀ (ks : List Kd) (k : Kd), Kd.lvs (ks ++ [k]) = max (Kd.lvs ks) k.lv
  | [], k => by simp [Kd.lvs]
  | q :: ks, k => by simp [Kd.lvs, lvs_snoc ks k]
theorem cnts_snoc : ∀ (ks : List Kd) (k : Kd), Kd.cnts (ks ++ [k]) = Kd.cnts ks + k.cnt
  | [], k => by simp [Kd.cnts]
  | q :: ks, k => by simp [Kd.cnts, cnts_snoc ks k]; omega
abbrev kdsD (ks : List Kd) : MO := .lst ((ks.map Kd.toP).map D.p)
structure ElI (sd L sp d most bud : Nat) (spare0 : List (List Nat)) (O : List MO) (r : Nat) (B : List MO) (wr : Wr) (ks : List Kd) (spare : List (List Nat)) : Prop where
  eqv : Eq1 L sp O B
  db : DB sd L (bud + r * (2 + elCost most (d - 1)) + 25) B wr
  sp_ : B[sp]? = some (spD spare)
  good : ∀ k ∈ ks, k.Good
  adj : noAdj false ks = true
  lv : Kd.lvs ks ≤ d - 1
  cnt : Kd.cnts ks ≤ ks.length * elCnt most (d - 1)
  len : ks.length + r ≤ most
  perm : spare0.Perm (spare ++ Kd.hss ks)
theorem eqB_refs {S : Sto} {a b : Nat} {l : List P} (h : S.objs[a]? = some (.lst (l.map D.p))) (hj : S.objs[b]? = some (.lst [])) : eqB S (.ref a) (.ref b) = some l.isEmpty := by
  have z := optAll_py S 69 l
  have z0 := optAll_py S 69 []
  simp only [List.map_nil] at z0
  simp only [eqB, D.py, show S.get a = S.objs[a]? from rfl, show S.get b = S.objs[b]? from rfl, h, hj, z, z0, Option.map_some]
  have e : PyData.eqv (.list (l.map P.py)) (.list []) = l.isEmpty := by cases l <;> simp [PyData.eqv, PyData.eqvAll]
  have m : min (PyData.depth (.list (l.map P.py))) (PyData.depth (.list [])) ≤ 64 := Nat.le_trans (Nat.min_le_right _ _) (by simp [PyData.depth, PyData.depthAll])
  rw [if_pos m, e]
theorem ix_last {S : Sto} {a : Nat} {l : List P} {x : P} (h : S.objs[a]? = some (.lst ((l ++ [x]).map D.p))) : idxF (.ref a) (pint (-1)) S = some (.p x, S) := by
  have z : L2.atI ((l ++ [x]).map D.p) (-1) = some (.p x) := by
    unfold L2.atI L2.ixN
    have e : ((l ++ [x]).map D.p).length = l.length + 1 := by simp
    rw [if_neg (by omega), if_pos (by rw [e]; omega), e]
    simp
    rw [show ((-1 : Int) + ((l.length : Int) + 1)).toNat = l.length from by omega]
    simp
  simp only [idxF, show S.get a = S.objs[a]? from rfl, h, z, Option.map_some]
theorem kind_kd (S : Sto) (k : Kd) : kindD S (.p k.toP) = some (if k.isTxt then "str" else "tuple") := by
  cases k <;> simp [Kd.toP, Kd.isTxt]
end MiLaw
set_option Elab.async false
set_option linter.all false
set_option maxRecDepth 100000
set_option maxHeartbeats 4000000
/-! drawn elements -/
namespace MiLaw
open PySem Mi
def txts : List (List Nat) := [[116], [115, 111, 109, 101, 32, 116, 101, 120, 116], [45]]
/-- the loop's body in _law_element -/
noncomputable def bodyE (n : Nat) : SM := (sSeq (sSet 8 (mCall (runs fs n) "_law_draw" 2 (mCons (mVar 0) (mCons (mC (pint 6)) mNil)))) (sSeq (sIf (mAndT (mB (m2 eqF (mVar 8) (mC (pint 0)))) (mOrT (mB (m2 eqF (mVar 4) (mN lstF mNil))) (mNotT (mTru (mIsi "str" (m2 idxF (mVar 4) (m1 negF (mC (pint 1))))))))) (sSeq (sExpr (mMeth ["list"] appendM (mVar 4) (mCons (m2 idxF (mN lstF (mCons (mC (pstr [116])) (mCons (mC (pstr [115, 111, 109, 101, 32, 116, 101, 120, 116])) (mCons (mC (pstr [45])) mNil)))) (mCall (runs fs n) "_law_draw" 2 (mCons (mVar 0) (mCons (mC (pint 3)) mNil)))) mNil))) sNil) (sSeq (sIf (mAndT (mB (m2 eqF (mVar 8) (mC (pint 1)))) (mB (m2 neF (mVar 3) (mN lstF mNil)))) (sSeq (sExpr (mMeth ["list"] appendM (mVar 4) (mCons (mN tupF (mCons (mC (pstr [104, 111, 108, 101])) (mCons (mMeth ["list"] popM (mVar 3) mNil) mNil))) mNil))) sNil) (sSeq (sExpr (mMeth ["list"] appendM (mVar 4) (mCons (mCall (runs fs n) "_law_element" 4 (mCons (mVar 0) (mCons (m2 subF (mVar 1) (mC (pint 1))) (mCons (mVar 2) (mCons (mVar 3) mNil))))) mNil))) sNil)) sNil)) sNil))
theorem txts_ok {x : List Nat} (h : x ∈ txts) : isPlain x = true ∧ x ≠ [] := by
  have z : ∀ y ∈ txts, isPlain y = true ∧ y ≠ [] := by decide
  exact z x h
theorem test1 {B : List MO} {wr : Wr} {ks : List Kd} {v : Int} {st : Mi.Env} (h4 : st[4]? = some (some (.ref B.length))) (h8 : st[8]? = some (some (pint v))) :
    ∃ g, mAndT (mB (m2 eqF (mVar 8) (mC (pint 0)))) (mOrT (mB (m2 eqF (mVar 4) (mN lstF mNil))) (mNotT (mTru (mIsi "str" (m2 idxF (mVar 4) (m1 negF (mC (pint 1)))))))) st (gst B wr [kdsD ks]) = .ok (decide (v = 0) && (ks.isEmpty || !lastTxt ks)) (gst B wr (kdsD ks :: g)) := by
  by_cases hv : v = 0
  · refine ⟨[.lst []], ?_⟩
    have z1 := g_lst_new (B := B) (wr := wr) (xs := [kdsD ks]) [] (by simp)
    have z2 : eqF (.ref B.length) (.ref (B.length + 1)) (gst B wr [kdsD ks, .lst []]) = some (pbl ks.isEmpty, gst B wr [kdsD ks, .lst []]) := by
      have z := g_eqB_lnil (B := B) (wr := wr) (xs := [kdsD ks, .lst []]) (i := 0) (j := 1) (l := ks.map Kd.toP) rfl rfl
      simp only [Nat.add_zero] at z
      simp [eqF, z]
    simp only [List.length_cons, List.length_nil, Nat.zero_add, List.cons_append, List.nil_append] at z1
    simp only [w_andT, w_orT, w_b, w_2, w_var, h4, h8, w_c, Res.bind_ok, eq_int, ofOpt_some, hv, decide_true, if_true, w_n, w_nil, z1, z2]
    by_cases he : ks = []
    · subst he
      simp
    · obtain ⟨a, k, rfl⟩ : ∃ a k, ks = a ++ [k] := ⟨ks.dropLast, ks.getLast he, (List.dropLast_concat_getLast he).symm⟩
      have hne : (a ++ [k]).isEmpty = false := by cases a <;> rfl
      have z3 := ix_last (S := gst B wr [kdsD (a ++ [k]), .lst []]) (a := B.length) (l := a.map Kd.toP) (x := k.toP) (by rw [g_at0]; simp)
      have hl : lastTxt (a ++ [k]) = k.isTxt := by simp [lastTxt]
      have z4 := kind_kd (gst B wr [kdsD (a ++ [k]), .lst []]) k
      have z5 : ∀ S, negF (pint 1) S = some (pint (-1), S) := fun S => rfl
      simp only [hne, Bool.false_eq_true, if_false, w_notT, w_tru, w_isi, w_2, w_var, h4, w_1, w_c, Res.bind_ok, z5, ofOpt_some, z3, z4, hl]
      cases hk : k.isTxt <;> simp
  · refine ⟨[], ?_⟩
    simp [h8, hv]
theorem low_pop {B : List MO} {wr : Wr} {xs : List MO} {sp : Nat} {l : List P} {x : P} (h : B[sp]? = some (.lst ((l ++ [x]).map D.p))) : popM "list" (.ref sp) [] (gst B wr xs) = some (.p x, gst (B.set sp (.lst (l.map D.p))) wr xs) ∧ recvD (gst B wr xs) (.ref sp) = some "list" := by
  have hlt : sp < B.length := (List.getElem?_eq_some_iff.mp h).1
  have g : (gst B wr xs).objs[sp]? = some (.lst ((l ++ [x]).map D.p)) := by rw [g_low _ _ _ hlt]; exact h
  have s : (gst B wr xs).set sp (.lst (l.map D.p)) = gst (B.set sp (.lst (l.map D.p))) wr xs := by
    simp [gst, Sto.set, hlt]
  refine ⟨?_, ?_⟩
  · simp [popM, Sto.mlist, g, s]
  · simp [recvD, g]
theorem db_set {sd L b sp : Nat} {B : List MO} {wr : Wr} {o : MO} (h : DB sd L b B wr) (hs : L ≤ sp) : DB sd L b (B.set sp o) wr := by
  obtain ⟨⟨c, l, cells, lefts, a, room, h1, h2, h3, h4, h5, h6, h7, h8, h9, h10, h11⟩, h12, h13⟩ := h
  refine ⟨⟨c, l, cells, lefts, a, room, ?_, ?_, ?_, h4, h5, h6, h7, h8, h9, h10, h11⟩, by simpa using h12, h13⟩
  · rw [List.getElem?_set_ne (by omega)]; exact h1
  · rw [List.getElem?_set_ne (by omega)]; exact h2
  · rw [List.getElem?_set_ne (by omega)]; exact h3
theorem el_turn {sd L sp d most n bud r : Nat} {spare0 spare : List (List Nat)} {O B : List MO} {wr : Wr} {ks : List Kd} (hn : 3 ≤ n) (hm : most ≤ 50) (hd : 1 < d) (hL : L ≤ sp) (hw0 : ∀ w ∈ spare0, isWord w = true) (ih : ElD sd L sp most n (d - 1)) (h : ElI sd L sp d most bud spare0 O (r + 1) B wr ks spare) {st : Mi.Env} {v5 v6 v7 v8 : Option D}
    (hst : st = [some (.ref sd), some (pint (d : Nat)), some (pint (most : Nat)), some (.ref sp), some (.ref O.length), v5, v6, v7, v8]) :
    ∃ w8 B' wr' ks' spare' g, bodyE n st (gst B wr [kdsD ks]) = .nx [some (.ref sd), some (pint (d : Nat)), some (pint (most : Nat)), some (.ref sp), some (.ref O.length), v5, v6, v7, some (pint w8)] (gst B' wr' (kdsD ks' :: g)) ∧ ElI sd L sp d most bud spare0 O r B' wr' ks' spare' := by
  subst hst
  obtain ⟨eqv, db, hsp, good, adj, lv, cnt, len, perm⟩ := h
  have hlt : sp < B.length := (List.getElem?_eq_some_iff.mp hsp).1
  have hws : ∀ w ∈ spare, isWord w = true := fun w hw => hw0 w (perm.symm.subset (by simp [hw]))
  have hOB : O.length = B.length := eqv.1.symm
  obtain ⟨dd, B1, wr1, p1, p2, p3, v, rfl, v0, v1⟩ := (r_draw (sd := sd) (L := L) (n := n) (by omega) (many := 6) (by omega) (by omega)).use (bud := bud + r * (2 + elCost most (d - 1)) + elCost most (d - 1) + 26) (db.less (by rw [Nat.add_mul]; omega)) [kdsD ks]
  have hB1 : O.length = B1.length := by rw [p2.1]; exact hOB
  have hsp1 : B1[sp]? = some (spD spare) := by rw [p2.2 sp hL]; exact hsp
  have hz : (ks.map Kd.toP).length < sizeLine := by simp [sizeLine_eq]; omega
  unfold bodyE
  obtain ⟨g, t1⟩ := test1 (B := B1) (wr := wr1) (ks := ks) (v := v) (st := [some (.ref sd), some (pint (d : Nat)), some (pint (most : Nat)), some (.ref sp), some (.ref O.length), v5, v6, v7, some (pint v)]) (by simp [hB1]) rfl
  have rc : ∀ B' wr' g', B'.length = O.length → recvD (gst B' wr' (kdsD ks :: g')) (.ref O.length) = some "list" := fun B' wr' g' e => by
    have z := g_recv (B := B') (wr := wr') (xs := kdsD ks :: g') (i := 0) rfl
    rw [Nat.add_zero, e] at z
    exact z
  have ap : ∀ B' wr' g' (k : Kd), B'.length = O.length → appendM "list" (.ref O.length) [.p k.toP] (gst B' wr' (kdsD ks :: g')) = some (pnon, gst B' wr' (kdsD (ks ++ [k]) :: g')) := fun B' wr' g' k e => by
    have z := g_app (B := B') (wr := wr') (xs := kdsD ks :: g') (i := 0) (l := ks.map Kd.toP) (x := k.toP) rfl hz
    rw [Nat.add_zero, e, List.set_cons_zero] at z
    rw [z, show kdsD (ks ++ [k]) = .lst ((ks.map Kd.toP ++ [k.toP]).map D.p) from by simp]
  have step1 : sSet 8 (mCall (runs fs n) "_law_draw" 2 (mCons (mVar 0) (mCons (mC (pint 6)) mNil))) [some (.ref sd), some (pint (d : Nat)), some (pint (most : Nat)), some (.ref sp), some (.ref O.length), v5, v6, v7, v8] (gst B wr [kdsD ks]) = .nx [some (.ref sd), some (pint (d : Nat)), some (pint (most : Nat)), some (.ref sp), some (.ref O.length), v5, v6, v7, some (pint v)] (gst B1 wr1 [kdsD ks]) := by simp [p1]
  cases ht : (decide (v = 0) && (ks.isEmpty || !lastTxt ks)) with
  | true =>
    rw [ht] at t1
    obtain ⟨y, hy, B2, wr2, q1, q2, q3⟩ := pick_ok (n := n) (by omega) (its := (mCons (mC (pstr [116])) (mCons (mC (pstr [115, 111, 109, 101, 32, 116, 101, 120, 116])) (mCons (mC (pstr [45])) mNil)))) (l := txts.map P.str) (k := 3) (i := 0) (st := [some (.ref sd), some (pint (d : Nat)), some (pint (most : Nat)), some (.ref sp), some (.ref O.length), v5, v6, v7, some (pint v)]) (bud := bud + r * (2 + elCost most (d - 1)) + 25) (kdsD ks :: g) rfl (fun S => by simp [txts]) rfl (by decide) (by decide) (p3.less (by omega))
    obtain ⟨x, hx, rfl⟩ := List.mem_map.mp hy
    obtain ⟨x1, x2⟩ := txts_ok hx
    have e2 : B2.length = O.length := by rw [q2.1, hB1]
    refine ⟨v, B2, wr2, ks ++ [.txt x], spare, g ++ [.lst ((txts.map P.str).map D.p)], ?_, ⟨(eqv.trans (one_of p2)).trans (one_of q2), q3, by rw [q2.2 sp hL]; exact hsp1, ?_, ?_, ?_, ?_, ?_, ?_⟩⟩
    · refine seq_nx step1 ?_
      refine seq_nil ?_
      simp only [w_if, t1, sbind_ok, if_true]
      refine seq_nil ?_
      have a := ap B2 wr2 (g ++ [.lst ((txts.map P.str).map D.p)]) (.txt x) e2
      simp only [Kd.toP] at a
      simp only [List.cons_append] at q1
      simp only [w_expr, w_meth, w_var, List.getElem?_cons_succ, List.getElem?_cons_zero, Res.bind_ok, rc B1 wr1 g hB1.symm, List.mem_singleton, if_true, w_cons, w_nil, q1, a, ofOpt_some, sbind_ok]
    · intro k hk
      rcases List.mem_append.mp hk with hk | hk
      · exact good k hk
      · rw [List.mem_singleton] at hk
        subst hk
        exact .txt x1 x2
    · refine adj_snoc ks false _ adj fun _ => ?_
      simp only [Bool.and_eq_true, Bool.or_eq_true, Bool.not_eq_true', List.isEmpty_iff] at ht
      rcases ht.2 with e | e
      · simp [e]
      · rw [e]; simp
    · rw [lvs_snoc]; simp [Kd.lv]; exact lv
    · rw [cnts_snoc]
      simp only [Kd.cnt, List.length_append, List.length_cons, List.length_nil, Nat.add_mul]
      omega
    · simp; omega
    · rw [hss_snoc]
      simpa [Kd.hs] using perm
  | false =>
    rw [ht] at t1
    have z1 := g_lst_new (B := B1) (wr := wr1) (xs := kdsD ks :: g) [] (by simp)
    have hg0 : (gst B1 wr1 (kdsD ks :: g ++ [.lst []])).objs[sp]? = some (spD spare) := by rw [g_low _ _ _ (by rw [p2.1]; exact hlt)]; exact hsp1
    have hg1 : (gst B1 wr1 (kdsD ks :: g ++ [.lst []])).objs[B1.length + (kdsD ks :: g).length]? = some (.lst []) := by rw [g_at]; exact at_last _ _
    have z2 := eqB_refs hg0 hg1
    have z3 : neF (.ref sp) (.ref (B1.length + (kdsD ks :: g).length)) (gst B1 wr1 (kdsD ks :: g ++ [.lst []])) = some (pbl (!spare.isEmpty), gst B1 wr1 (kdsD ks :: g ++ [.lst []])) := by
      simp only [neF, z2, Option.map_some, List.isEmpty_map]
    simp only [List.cons_append] at z1 z3
    obtain ⟨g2, t2⟩ : ∃ g2, mAndT (mB (m2 eqF (mVar 8) (mC (pint 1)))) (mB (m2 neF (mVar 3) (mN lstF mNil))) [some (.ref sd), some (pint (d : Nat)), some (pint (most : Nat)), some (.ref sp), some (.ref O.length), v5, v6, v7, some (pint v)] (gst B1 wr1 (kdsD ks :: g)) = .ok (decide (v = 1) && !spare.isEmpty) (gst B1 wr1 (kdsD ks :: g2)) := by
      by_cases hv : v = 1
      · refine ⟨g ++ [.lst []], ?_⟩
        simp only [w_andT, w_b, w_2, w_var, List.getElem?_cons_succ, List.getElem?_cons_zero, w_c, Res.bind_ok, eq_int, ofOpt_some, hv, decide_true, if_true, w_n, w_nil, z1, z3, Bool.true_and, List.cons_append]
      · refine ⟨g, ?_⟩
        simp [hv]
    cases ht2 : (decide (v = 1) && !spare.isEmpty) with
    | true =>
      rw [ht2] at t2
      have hne : spare ≠ [] := by
        rintro rfl
        simp at ht2
      obtain ⟨sp', w, rfl⟩ : ∃ a b, spare = a ++ [b] := ⟨spare.dropLast, spare.getLast hne, (List.dropLast_concat_getLast hne).symm⟩
      have hww : isWord w = true := hws w (by simp)
      obtain ⟨u1, u2⟩ := low_pop (B := B1) (wr := wr1) (xs := kdsD ks :: g2) (sp := sp) (l := sp'.map P.str) (x := .str w) (by rw [hsp1]; simp [spD])
      have e2 : (B1.set sp (spD sp')).length = O.length := by rw [List.length_set, hB1]
      have a := ap (B1.set sp (spD sp')) wr1 g2 (.hol w) e2
      refine ⟨v, B1.set sp (spD sp'), wr1, ks ++ [.hol w], sp', g2, ?_, ⟨(eqv.trans (one_of p2)).trans ⟨by simp, fun i hi hn => by rw [List.getElem?_set_ne (Ne.symm hn)]⟩, (db_set p3 hL).less (by omega), ?_, ?_, ?_, ?_, ?_, ?_, ?_⟩⟩
      · refine seq_nx step1 ?_
        refine seq_nil ?_
        simp only [w_if, t1, sbind_ok, Bool.false_eq_true, if_false]
        refine seq_nil ?_
        simp only [w_if, t2, sbind_ok, if_true]
        refine seq_nil ?_
        simp only [Kd.toP] at a
        simp only [w_expr, w_meth, w_var, List.getElem?_cons_succ, List.getElem?_cons_zero, Res.bind_ok, rc B1 wr1 g2 hB1.symm, List.mem_singleton, if_true, w_cons, w_nil, w_n, w_c, u2, u1, ofOpt_some, t_2, a, sbind_ok]
      · rw [List.getElem?_set_self (by rw [p2.1]; exact hlt)]
      · intro k hk
        rcases List.mem_append.mp hk with hk | hk
        · exact good k hk
        · rw [List.mem_singleton] at hk
          subst hk
          exact .hol hww
      · exact adj_snoc ks false _ adj fun z => by cases z
      · rw [lvs_snoc]; simp [Kd.lv]; exact lv
      · rw [cnts_snoc]
        simp only [Kd.cnt, List.length_append, List.length_cons, List.length_nil, Nat.add_mul]
        omega
      · simp; omega
      · rw [hss_snoc]
        simp only [Kd.hs]
        refine perm.trans ?_
        rw [List.append_assoc]
        exact List.Perm.append_left _ List.perm_append_comm
    | false =>
      rw [ht2] at t2
      obtain ⟨k, B2, wr2, spare', q1, q2, q3, q4, q5, q6, q7, q8, q9⟩ := ih.use (bud := bud + r * (2 + elCost most (d - 1)) + 26) (p3.less (by omega)) hL hsp1 hws (kdsD ks :: g2)
      have e2 : B2.length = O.length := by rw [q2.1, hB1]
      have a := ap B2 wr2 g2 k e2
      refine ⟨v, B2, wr2, ks ++ [k], spare', g2, ?_, ⟨(eqv.trans (one_of p2)).trans q2, q3.less (by omega), q4, ?_, ?_, ?_, ?_, ?_, ?_⟩⟩
      · refine seq_nx step1 ?_
        refine seq_nil ?_
        simp only [w_if, t1, sbind_ok, Bool.false_eq_true, if_false]
        refine seq_nil ?_
        simp only [w_if, t2, sbind_ok, Bool.false_eq_true, if_false]
        refine seq_nil ?_
        have ed : ((d : Nat) : Int) - 1 = ((d - 1 : Nat) : Int) := by omega
        simp only [w_expr, w_meth, w_var, List.getElem?_cons_succ, List.getElem?_cons_zero, Res.bind_ok, rc B1 wr1 g2 hB1.symm, List.mem_singleton, if_true, w_cons, w_nil, w_call, w_2, w_c, sub_int, ofOpt_some, ed, List.length_cons, List.length_nil, Nat.zero_add, Nat.reduceAdd, q1, a, sbind_ok]
      · intro q hq
        rcases List.mem_append.mp hq with hq | hq
        · exact good q hq
        · rw [List.mem_singleton] at hq
          subst hq
          exact q5
      · refine adj_snoc ks false _ adj fun z => ?_
        cases k <;> simp [Kd.isEl, Kd.isTxt] at q6 z
      · rw [lvs_snoc]; omega
      · rw [cnts_snoc]
        simp only [List.length_append, List.length_cons, List.length_nil, Nat.add_mul]
        omega
      · simp; omega
      · rw [hss_snoc]
        refine perm.trans ?_
        refine (List.Perm.append_right _ q9).trans ?_
        rw [List.append_assoc]
        exact List.Perm.append_left _ List.perm_append_comm
end MiLaw
set_option Elab.async false
set_option linter.all false
set_option maxRecDepth 100000
set_option maxHeartbeats 4000000
/-! drawn elements and parts -/
namespace MiLaw
open PySem Mi
theorem call_draw {L k : Nat} {m : SM} {args : List D} {O O' xs : List MO} {wr wr' : Wr} {d : D} (h : m (args.map some ++ List.replicate (k - args.length) none) (gst O [] []) = .rt d (gst O' wr' xs)) (hl : O'.length = O.length) (hw : WrL L wr') (hL : L ≤ O.length) (ht : d.top = 0) : callBody k m args ⟨O, wr⟩ = .ok d ⟨O', wr' ++ wr⟩ := by
  unfold callBody
  rw [show ({ (⟨O, wr⟩ : Sto) with wr := [] } : Sto) = gst O [] [] from by simp [gst], h]
  simp only [Mi.finish]
  rw [if_pos (WrL.cutOk (L := L) hw hL), if_pos (by omega)]
  simp only [backTo0, gst, Sto.len]
  rw [hw.filter hL, ← hl]
  simp
theorem prefs_ok {p : List Nat} (h : p ∈ prefs) : isPre p = true := by
  have z : ∀ y ∈ prefs, isPre y = true := by decide
  exact z p h
theorem locs_ok {p : List Nat} (h : p ∈ locs) : isLoc p = true := by
  have z : ∀ y ∈ locs, isLoc y = true := by decide
  exact z p h
theorem addrs_ok {p : List Nat} (h : p ∈ addrs) : (isAddr p || decide (p = [])) = true := by
  have z : ∀ y ∈ addrs, (isAddr y || decide (y = [])) = true := by decide
  exact z p h
theorem plains_ok {p : List Nat} (h : p ∈ plains) : isPlain p = true := by
  have z : ∀ y ∈ plains, isPlain y = true := by decide
  exact z p h
theorem dcs_good {ds : List Dc} (h : dcsOk ds) : ∀ q ∈ ds, dcOk q = true := fun q hq => by
  simp only [dcOk, prefs_ok (h.1 q hq).1, addrs_ok (h.1 q hq).2, Bool.and_self]
theorem ats_good {as : List At} (h : atsOk as) : ∀ q ∈ as, atOk q = true := fun q hq => by
  obtain ⟨h1, h2, h3⟩ := h.1 q hq
  have h4 : q.2.ok = true := by
    cases hv : q.2 with
    | plain x => rw [hv] at h3; exact plains_ok h3
    | quoted p l => rw [hv] at h3; simp [Av.ok, prefs_ok h3.1, locs_ok h3.2]
  simp only [atOk, prefs_ok h1, locs_ok h2, h4, Bool.and_self]
theorem r_element {sd L sp most : Nat} (hm : most ≤ 50) : ∀ d, 1 ≤ d → ∀ n, d + 6 ≤ n → ElD sd L sp most n d := by
  intro d
  induction d with
  | zero => intro h; omega
  | succ d ihd =>
    intro _ n hn O wr0 bud spare0 hb0 hL hsp hw
    have hb := hb0.rewr (wr' := []) WrL.nil
    have hlt : sp < O.length := (List.getElem?_eq_some_iff.mp hsp).1
    have hLO : L ≤ O.length := hb.le
    have hcost : elCost most (d + 1) = 30 + most * (2 + elCost most d) := rfl
    obtain ⟨v, B1, wr1, q1, q2, q3, q4, q5, q6⟩ : ∃ (v : Int) (B1 : List MO) (wr1 : Wr), (mCons (mIte (mB (m2 gtF (mVar 1) (mC (pint 1)))) (mCall (runs fs (n - 1)) "_law_draw" 2 (mCons (mVar 0) (mCons (m2 addF (mVar 2) (mC (pint 1))) mNil))) (mC (pint 0))) mNil) [some (.ref sd), some (pint ((d + 1 : Nat) : Int)), some (pint (most : Nat)), some (.ref sp), some (.ref O.length), none, none, none, none] (gst O [] [.lst []]) = .ok [pint v] (gst B1 wr1 [.lst []]) ∧ Eqv L O B1 ∧ DB sd L (bud + most * (2 + elCost most d) + 25) B1 wr1 ∧ 0 ≤ v ∧ v ≤ most ∧ (v ≠ 0 → 0 < d) := by
      by_cases h1 : 0 < d
      · obtain ⟨dd, B1, wr1, p1, p2, p3, v, rfl, v0, v1⟩ := (r_draw (sd := sd) (L := L) (n := n - 1) (by omega) (many := (most : Nat) + 1) (by omega) (by omega)).use (bud := bud + most * (2 + elCost most d) + 25) (hb.less (by omega)) [.lst []]
        refine ⟨v, B1, wr1, ?_, p2, p3, v0, by omega, fun _ => h1⟩
        have e : (1 : Int) < (d : Int) + 1 := by omega
        simp [e, p1]
      · have hd0 : d = 0 := by omega
        subst hd0
        refine ⟨0, O, [], by simp, Eqv.refl, hb.less (by omega), by omega, by omega, fun z => absurd rfl z⟩
    have hr := range_ok (im := (mCons (mIte (mB (m2 gtF (mVar 1) (mC (pint 1)))) (mCall (runs fs (n - 1)) "_law_draw" 2 (mCons (mVar 0) (mCons (m2 addF (mVar 2) (mC (pint 1))) mNil))) (mC (pint 0))) mNil)) (t := .nm 5) (body := bodyE (n - 1)) q1 q4 (by omega)
    have hOB1 : B1.length = O.length := q2.1
    obtain ⟨st', S', f1, v5, v8, B, wr, ks, spare, e1, e2, e3, e4, e5⟩ := for_any (chk := fun _ => true) (b0 := (gst B1 wr1 [.lst []]).objs.length) (t := .nm 5) (body := bodyE (n - 1))
      (I := fun r st S => ∃ (v5 v8 : Option D) (B : List MO) (wr : Wr) (ks : List Kd) (spare : List (List Nat)), st = [some (.ref sd), some (pint ((d + 1 : Nat) : Int)), some (pint (most : Nat)), some (.ref sp), some (.ref O.length), v5, none, none, v8] ∧ envTop [v5, v8] = 0 ∧ S = gst B wr [kdsD ks] ∧ ElI sd L sp (d + 1) most bud spare0 O r.length B wr ks spare ∧ (r ≠ [] → 0 < d) ∧ ∀ x ∈ r, x.top = 0)
      (fun _ _ _ => rfl) (by
        rintro x r st S ⟨v5, v8, B, wr, ks, spare, rfl, e2, rfl, e4, e5, e6⟩
        have hd := e5 (by simp)
        obtain ⟨w8, B', wr', ks', spare', g, z1, z2⟩ := el_turn (n := n - 1) (by omega) hm (d := d + 1) (by omega) hL hw (ihd (by omega) (n - 1) (by omega)) e4 (v5 := some x) (v6 := none) (v7 := none) (v8 := v8) rfl
        have hx := e6 x List.mem_cons_self
        have hlen : B'.length = O.length := z2.eqv.1
        have hsd := sd_lt z2.db
        refine ⟨rfl, _, _, _, rfl, z1, some x, some (pint w8), B', wr', ks', spare', rfl, by simp [hx], ?_, z2, fun _ => hd, fun y hy => e6 y (List.mem_cons_of_mem _ hy)⟩
        rw [show (gst B1 wr1 [MO.lst []]).objs.length = B'.length + 1 from by rw [g_olen, hOB1, hlen]; rfl, g_trim z2.db.wr z2.db.le (by simp [hx]; omega)]
        rfl) (rangeL 0 v.toNat) [some (.ref sd), some (pint ((d + 1 : Nat) : Int)), some (pint (most : Nat)), some (.ref sp), some (.ref O.length), none, none, none, none] (gst B1 wr1 [.lst []])
      ⟨none, none, B1, wr1, [], spare0, rfl, rfl, rfl, ⟨one_of q2, by
          rw [rangeL_len]
          refine q3.less ?_
          have : v.toNat * (2 + elCost most (d + 1 - 1)) ≤ most * (2 + elCost most d) := Nat.mul_le_mul_right _ (by omega)
          omega, by rw [q2.2 sp hL]; exact hsp, by simp, rfl, by simp [Kd.lvs], by simp [Kd.cnts], by rw [rangeL_len]; simp; omega, by simp [Kd.hss]⟩, fun hne => q6 fun z => hne (by rw [z]; rfl), fun x hx => rangeL_top hx⟩
    subst e1 e3
    obtain ⟨eqv, db, hsp2, good, adj, lv, cnt, len, perm⟩ := e4
    have hlen : B.length = O.length := eqv.1
    have hsd := sd_lt db
    have hltB : sp < B.length := by omega
    simp only [List.length_nil, Nat.zero_mul, Nat.add_zero] at db len
    obtain ⟨dd, B2, wr2, a1, a2, a3, ds, rfl, a4, a5⟩ := (r_declarations (sd := sd) (L := L) (n := n - 1) (by omega) (most := 2) (by omega)).use (bud := bud + 20) db [kdsD ks]
    obtain ⟨dd, B3, wr3, b1, b2, b3, as, rfl, b4, b5⟩ := (r_attributes (sd := sd) (L := L) (n := n - 1) (by omega) (most := 2) (by omega)).use (bud := bud + 9) a3 [kdsD ks]
    obtain ⟨dd, B4, wr4, c1, c2, c3, p, hp, l, hl, rfl⟩ := (r_name (sd := sd) (L := L) (n := n - 1) (by omega)).use (bud := bud + 7) b3 [kdsD ks]
    have e4 : B4.length = O.length := by rw [c2.1, b2.1, a2.1, hlen]
    have y := g_tuple (B := B4) (wr := wr4) (xs := [kdsD ks]) (i := 0) (l := ks.map Kd.toP) rfl
    rw [Nat.add_zero, e4] at y
    rw [f1] at hr
    have hgood : (Kd.el p l ds as ks).Good := .el (prefs_ok hp) (locs_ok hl) (dcs_good a4) a4.2 (ats_good b4) b4.2 good adj (by omega) (by omega) (by omega)
    refine ⟨.el p l ds as ks, B4, wr4 ++ wr0, spare, ?_, eqv.trans (one_of (a2.trans (b2.trans c2))), (c3.less (by omega)).rewr (c3.wr.app hb0.wr), ?_, hgood, rfl, ?_, ?_, perm⟩
    · rw [run__law_element (by omega)]
      refine call_draw (L := L) (xs := [kdsD ks]) ?_ e4 c3.wr hLO rfl
      unfold m__law_element
      refine seq_nx (st1 := [some (.ref sd), some (pint ((d + 1 : Nat) : Int)), some (pint (most : Nat)), some (.ref sp), some (.ref O.length), none, none, none, none]) (S1 := gst O [] [.lst []]) (by simp [lstF]) ?_
      refine seq_nx (st1 := [some (.ref sd), some (pint ((d + 1 : Nat) : Int)), some (pint (most : Nat)), some (.ref sp), some (.ref O.length), v5, none, none, v8]) (S1 := gst B wr [kdsD ks]) ?_ ?_
      · show sForK (.im (iRange1 _)) (.nm 5) (bodyE (n - 1)) _ _ = _
        rw [hr]
        simp only [Out.trimNx]
        rw [show (gst O [] [MO.lst []]).objs.length = B.length + 1 from by rw [g_olen, hlen]; rfl, g_trim db.wr db.le (by simp only [envTop_c] at e2 ⊢; simp [envTop_1, envTop_0] at e2 ⊢; omega)]
        rfl
      refine seq_nx (st1 := [some (.ref sd), some (pint ((d + 1 : Nat) : Int)), some (pint (most : Nat)), some (.ref sp), some (.ref O.length), v5, some (tp (ds.map dcP)), some (tp (as.map atP)), v8]) (S1 := gst B3 wr3 [kdsD ks]) ?_ ?_
      · have a1' : runs fs (n - 1) "_law_declarations" [.ref sd, pint 2] (gst B wr [kdsD ks]) = _ := a1
        have b1' : runs fs (n - 1) "_law_attributes" [.ref sd, pint 2] (gst B2 wr2 [kdsD ks]) = _ := b1
        simp [a1', b1']
      · refine seq_rt ?_
        simp only [w_ret, w_n, w_cons, w_nil, w_c, w_var, w_call, List.getElem?_cons_succ, List.getElem?_cons_zero, Res.bind_ok, List.length_cons, List.length_nil, Nat.zero_add, if_true, c1, y, ofOpt_some, t_5, sbind_ok]
        simp [Kd.toP, toPs_map]
    · rw [(a2.trans (b2.trans c2)).2 sp hL]; exact hsp2
    · show Kd.lvs ks + 1 ≤ d + 1
      omega
    · show Kd.cnts ks + 1 ≤ 1 + most * elCnt most d
      have : ks.length * elCnt most (d + 1 - 1) ≤ most * elCnt most d := Nat.mul_le_mul_right _ len
      omega
end MiLaw
set_option Elab.async false
set_option linter.all false
set_option maxRecDepth 100000
set_option maxHeartbeats 4000000
/-! drawn parts -/
namespace MiLaw
open PySem Mi
/-- a part that is told by all -/
structure Fine (k : Kd) : Prop where
  good : k.Good
  el : k.isEl = true
  cnt : k.cnt ≤ 60
  lv : k.lv ≤ 8
  nd : k.hs.Nodup
  hl : k.hs.length ≤ 1000000
/-- one of a list's things -/
theorem r_of {sd L n : Nat} (hn : 3 ≤ n) {l : List P} (h0 : 0 < l.length) (h1 : l.length ≤ 1000) {B : List MO} {wr : Wr} {bud i : Nat} {xs : List MO} (hb : DB sd L (bud + 1) B wr) (hx : xs[i]? = some (.lst (l.map D.p))) :
    ∃ x ∈ l, ∃ B' wr', runs fs n "_law_of" [.ref sd, .ref (B.length + i)] (gst B wr xs) = .ok (.p x) (gst B' wr' xs) ∧ Eqv L B B' ∧ DB sd L bud B' wr' := by
  obtain ⟨d, B1, wr1, p1, p2, p3, v, rfl, v0, v1⟩ := (r_draw (sd := sd) (L := L) (n := n - 1) (by omega) (many := (l.length : Nat)) (by omega) (by omega)).use (hb.rewr (wr' := []) WrL.nil) xs
  obtain ⟨x, hm, q1⟩ := g_ix (B := B1) (wr := wr1) (xs := xs) (i := i) (l := l) (v := v) hx v0 v1
  have hl := p2.1
  rw [hl] at q1
  have z := g_len (B := B) (wr := []) (xs := xs) (i := i) hx
  refine ⟨x, hm, B1, wr1 ++ wr, ?_, p2, p3.rewr (p3.wr.app hb.wr)⟩
  rw [run__law_of (by omega)]
  have c := call_draw (L := L) (k := 2) (m := m__law_of (runs fs (n - 1))) (args := [.ref sd, .ref (B.length + i)]) (O := B ++ xs) (O' := B1 ++ xs) (xs := []) (wr := wr) (wr' := wr1) (d := .p x) (by
    show m__law_of (runs fs (n - 1)) [some (.ref sd), some (.ref (B.length + i))] _ = _
    rw [show gst (B ++ xs) [] [] = gst B [] xs from by simp [gst], show gst (B1 ++ xs) wr1 [] = gst B1 wr1 xs from by simp [gst]]
    simp only [List.length_map] at z
    simp [m__law_of, z, p1, q1]) (by simp [hl]) p3.wr (by simp; have := hb.le; omega) rfl
  exact c
theorem nodup_take {l : List (List Nat)} (h : l.Nodup) (n : Nat) : (l.take n).Nodup := h.sublist (List.take_sublist n l)
def spares : List (List Nat) := [[104], [104, 111, 108, 101], [120, 109, 108, 110, 115], [97, 98, 99, 100, 101, 102, 103, 104], [107]]
def shapes : List (Nat × Nat) := [(4, 3), (8, 1), (2, 40), (3, 5)]
abbrev shP (q : Nat × Nat) : P := .tup [.int (q.1 : Nat), .int (q.2 : Nat)]
theorem shapes_ok {q : Nat × Nat} (h : q ∈ shapes) : 1 ≤ q.1 ∧ q.1 ≤ 8 ∧ q.2 ≤ 50 ∧ elCost q.2 q.1 ≤ 100000 ∧ elCnt q.2 q.1 ≤ 60 := by
  have z : ∀ q ∈ shapes, 1 ≤ q.1 ∧ q.1 ≤ 8 ∧ q.2 ≤ 50 ∧ elCost q.2 q.1 ≤ 100000 ∧ elCnt q.2 q.1 ≤ 60 := by decide
  exact z q h
theorem cut_take {α : Type} (l : List α) (v : Nat) : cutL l none (some (v : Nat)) = l.take v := by
  unfold cutL
  rw [HT.sIx_none, HT.sIx_nat]
  simp only [Nat.sub_zero, List.drop_zero]
  by_cases h : v ≤ l.length
  · rw [Nat.min_eq_left h]
  · rw [Nat.min_eq_right (by omega), List.take_of_length_le (Nat.le_refl _), List.take_of_length_le (by omega)]
theorem r_grown {sd L n : Nat} (hn : 20 ≤ n) : Drw fs sd L n "_law_grown" [.ref sd] 100010 (fun d => ∃ k, d = .p (Kd.toP k) ∧ Fine k) := by
  refine Drw.of (fun S => run__law_grown (by omega) _ S) fun O bud hb => ?_
  obtain ⟨d, B1, wr1, p1, p2, p3, v, rfl, v0, v1⟩ := (r_draw (sd := sd) (L := L) (n := n - 1) (by omega) (many := 6) (by omega) (by omega)).use (bud := bud + 100001) (hb.less (by omega)) [spD spares]
  obtain ⟨w, rfl⟩ : ∃ w : Nat, v = (w : Nat) := ⟨v.toNat, by omega⟩
  obtain ⟨x, hx, B2, wr2, q1, q2, q3⟩ := r_of (sd := sd) (L := L) (n := n - 1) (by omega) (l := shapes.map shP) (by decide) (by decide) (bud := bud + 100000) (i := 2) (xs := [spD spares, spD (spares.take w), .lst ((shapes.map shP).map D.p)]) p3 rfl
  obtain ⟨sh, hsh, rfl⟩ := List.mem_map.mp hx
  obtain ⟨s1, s2, s3, s4, s5⟩ := shapes_ok hsh
  have hl1 : B1.length = O.length := p2.1
  have hl2 : B2.length = O.length := by rw [q2.1, hl1]
  have hLB : L ≤ B2.length := q3.le
  have hsp : (B2 ++ [spD spares, spD (spares.take w), .lst ((shapes.map shP).map D.p)])[B2.length + 1]? = some (spD (spares.take w)) := by
    rw [List.getElem?_append_right (by omega), Nat.add_sub_cancel_left]; rfl
  have hword : ∀ x ∈ spares, isWord x = true := by decide
  obtain ⟨k, O3, wr3, spare', e1, e2, e3, e4, e5, e6, e7, e8, e9⟩ := r_element (sd := sd) (L := L) (sp := B2.length + 1) s3 sh.1 s1 (n - 1) (by omega) (B2 ++ [spD spares, spD (spares.take w), .lst ((shapes.map shP).map D.p)]) wr2 bud (spares.take w) ((q3.wide _).less (by omega)) (by omega) hsp (fun x hx => hword x (List.mem_of_mem_take hx))
  have hl3 : O3.length = B2.length + 3 := by rw [e2.1]; simp
  have hnd : (spares.take w).Nodup := nodup_take (by decide) w
  have hnd2 := (List.Perm.nodup_iff e9).mp hnd
  rw [List.nodup_append] at hnd2
  have hle : k.hs.length ≤ 5 := by
    have a := e9.length_eq
    have b : (spares.take w).length ≤ 5 := by rw [List.length_take]; exact Nat.min_le_right _ _
    rw [List.length_append] at a
    omega
  refine ⟨.p k.toP, O3.take B2.length, wr3, O3.drop B2.length, ?_, ⟨?_, ?_⟩, ?_, rfl, k, rfl, ⟨e5, e6, by omega, by omega, hnd2.2.1, by omega⟩⟩
  · unfold m__law_grown
    have z1 : ∀ S : Sto, slcF (.ref (O.length)) none (some ((w : Nat) : Int)) (gst B1 wr1 [spD spares]) = some (.ref (O.length + 1), gst B1 wr1 [spD spares, spD (spares.take w)]) := fun _ => by
      have g : (gst B1 wr1 [spD spares]).list (.ref O.length) = some ((spares.map P.str).map D.p) := by
        simp only [Sto.list]
        rw [← hl1, show (gst B1 wr1 [spD spares]).get B1.length = _ from g_at0 B1 wr1 _]
        rfl
      simp only [slcF, D.items, g, cut_take, g_push]
      rw [show (gst B1 wr1 [spD spares]).len = O.length + 1 from by show (gst B1 wr1 [spD spares]).objs.length = _; rw [g_olen, hl1]; rfl]
      simp [spD, List.map_take]
    refine seq_nx (st1 := [some (.ref sd), some (.ref (O.length + 1)), none, none]) (S1 := gst B1 wr1 [spD spares, spD (spares.take w)]) ?_ ?_
    · have z2 := g_lst_new (B := O) (wr := []) (xs := []) ((spares.map P.str).map D.p) (by decide)
      simp only [List.length_nil, Nat.add_zero, List.nil_append] at z2
      have z3 : ∀ S st, (mCons (mC (pstr [104])) (mCons (mC (pstr [104, 111, 108, 101])) (mCons (mC (pstr [120, 109, 108, 110, 115])) (mCons (mC (pstr [97, 98, 99, 100, 101, 102, 103, 104])) (mCons (mC (pstr [107])) mNil))))) st S = .ok ((spares.map P.str).map D.p) S := fun S st => by simp [spares]
      simp only [w_set, w_slc, w_n, z3, Res.bind_ok, z2, ofOpt_some, w_part0, w_part1, w_call, w_cons, w_nil, w_var, w_c, List.map_cons, List.map_nil, List.length_cons, List.length_nil, List.cons_append, List.nil_append, List.replicate, Nat.zero_add, Nat.reduceSub, List.getElem?_cons_zero, Nat.reduceAdd, if_true, p1]
      rw [z1 (gst B1 wr1 [])]
      rfl
    refine seq_nx (st1 := [some (.ref sd), some (.ref (O.length + 1)), some (pint (sh.1 : Nat)), some (pint (sh.2 : Nat))]) (S1 := gst B2 wr2 [spD spares, spD (spares.take w), .lst ((shapes.map shP).map D.p)]) ?_ ?_
    · have z2 := g_lst_new (B := B1) (wr := wr1) (xs := [spD spares, spD (spares.take w)]) ((shapes.map shP).map D.p) (by decide)
      simp only [List.length_cons, List.length_nil, List.cons_append, List.nil_append] at z2
      rw [show B1.length + (0 + 1 + 1) = B1.length + 2 from rfl] at z2
      have z2' : lstF [tp [.int 4, .int 3], tp [.int 8, .int 1], tp [.int 2, .int 40], tp [.int 3, .int 5]] (gst B1 wr1 [spD spares, spD (spares.take w)]) = _ := z2
      simp only [w_asg, w_call, w_cons, w_nil, w_var, w_n, w_c, t_2, Res.bind_ok, z2', ofOpt_some, List.getElem?_cons_zero, List.length_cons, List.length_nil, Nat.zero_add, Nat.reduceAdd, if_true, q1, sbind_ok]
      simp
    · refine seq_rt ?_
      have e1' := e1
      rw [hl2, show ({ objs := B2 ++ [spD spares, spD (List.take w spares), MO.lst (List.map D.p (List.map shP shapes))], wr := wr2 } : Sto) = gst B2 wr2 [spD spares, spD (List.take w spares), MO.lst (List.map D.p (List.map shP shapes))] from rfl] at e1'
      simp only [w_ret, w_call, w_cons, w_nil, w_var, List.getElem?_cons_zero, List.getElem?_cons_succ, Res.bind_ok, List.length_cons, List.length_nil, Nat.zero_add, Nat.reduceAdd, if_true, e1', sbind_ok]
      simp [gst]
  · rw [List.length_take, hl3, Nat.min_eq_left (by omega), hl2]
  · intro i hi
    by_cases hb : i < B2.length
    · rw [List.getElem?_take_of_lt hb, e2.2 i hi (by omega), List.getElem?_append_left hb, q2.2 i hi, p2.2 i hi]
    · rw [List.getElem?_eq_none (by simp; omega), List.getElem?_eq_none (by omega)]
  · rw [← List.take_append_drop B2.length O3] at e3
    exact e3.thin (by rw [List.length_take, hl3, Nat.min_eq_left (by omega)]; exact hLB)
end MiLaw
set_option Elab.async false
set_option linter.all false
set_option maxRecDepth 100000
set_option maxHeartbeats 4000000
/-! parts at their bounds -/
namespace MiLaw
open PySem Mi
theorem lc_any {chk : Sto → Bool} {n : Nat} {t : Tg} {c : EM Bool} {elt : EM D} {st : Mi.Env} {I : List D → Sto → Prop} (hE : ∀ S, I [] S → chk S = true)
    (hI : ∀ x r S, I (x :: r) S → chk S = true ∧ ∃ st1 S1 y S2 acc, t.put x st = some st1 ∧ c st1 S = .ok true S1 ∧ elt st1 S1 = .ok y S2 ∧ S2.get n = some (.lst acc) ∧ acc.length < sizeLine ∧ I r ((S2.set n (.lst (acc ++ [y]))).trim (n + 1) st)) :
    ∀ xs S, I xs S → ∃ S', lcItems chk n t c elt st xs S = .ok (.ref n) S' ∧ I [] S'
  | [], S, h => ⟨S, by simp [lcItems, hE S h], h⟩
  | x :: r, S, h => by
    obtain ⟨h1, st1, S1, y, S2, acc, h2, h3, h4, h5, h6, h7⟩ := hI x r S h
    obtain ⟨S', h8, h9⟩ := lc_any hE hI r _ h7
    refine ⟨S', ?_, h9⟩
    simp only [lcItems, h1, if_true, h2, h3, h4, h5, if_pos h6]
    exact h8
def X20 : List Nat := List.replicate 20 120
def U20 : List Nat := List.replicate 20 117
def eps : List (List Nat) := [[], [112, 112, 112, 112, 112, 112, 112, 112], [120], [120, 109, 108]]
def ews : List (List Nat) := [[97, 98, 99, 100, 101, 102, 103, 104], [122], [120, 109, 108, 110, 115, 120], [120, 109, 108, 110], [101, 108, 101, 109, 101, 110, 116], [104, 111, 108, 101]]
def vals (q : List Nat × List Nat) : List Av := [.plain [], .plain X20, .plain [97, 45, 98, 47, 99, 46, 100, 32, 48, 49, 57], .plain [32], .quoted q.1 q.2, .quoted [] [120, 109, 108, 110, 115, 121]]
def somes : List (List Dc) := [[([], U20), ([120], [])], [([112, 112, 112, 112, 112, 112, 112, 112], [97, 46, 98, 47, 99, 58, 100, 45, 101, 48, 57])], []]
def insides (q : List Nat × List Nat) : List (List Kd) := [[], [.txt X20], [.hol [120, 109, 108, 110, 115], .txt [32]], [.txt [45], .el q.1 q.2 [] [] [], .hol [97, 98, 99, 100, 101, 102, 103, 104]]]
abbrev rowE (q : List Nat × List Nat) (v1 v2 : Av) : List At := [(([], [98]), v1), (([113], [98]), v2), (q, .plain [46, 47, 45])]
theorem eps_ok {p : List Nat} (h : p ∈ eps) : isPre p = true := by
  have z : ∀ y ∈ eps, isPre y = true := by decide
  exact z p h
theorem ews_ok {p : List Nat} (h : p ∈ ews) : isLoc p = true ∧ p ≠ [98] := by
  have z : ∀ y ∈ ews, isLoc y = true ∧ y ≠ [98] := by decide
  exact z p h
theorem vals_ok {q : List Nat × List Nat} (h1 : q.1 ∈ eps) (h2 : q.2 ∈ ews) {v : Av} (h : v ∈ vals q) : v.ok = true := by
  simp only [vals, List.mem_cons, List.not_mem_nil, or_false] at h
  rcases h with rfl | rfl | rfl | rfl | rfl | rfl
  · decide
  · decide
  · decide
  · decide
  · simp [Av.ok, eps_ok h1, (ews_ok h2).1]
  · decide
theorem somes_ok {ds : List Dc} (h : ds ∈ somes) : (∀ q ∈ ds, dcOk q = true) ∧ (ds.map (·.1)).Nodup ∧ ds.length ≤ 2 := by
  have z : ∀ ds ∈ somes, (∀ q ∈ ds, dcOk q = true) ∧ (ds.map (·.1)).Nodup ∧ ds.length ≤ 2 := by decide
  exact z ds h
theorem insides_ok {q : List Nat × List Nat} (h1 : q.1 ∈ eps) (h2 : q.2 ∈ ews) {ks : List Kd} (h : ks ∈ insides q) : (∀ k ∈ ks, k.Good) ∧ noAdj false ks = true ∧ ks.length ≤ 3 ∧ Kd.cnts ks ≤ 1 ∧ Kd.lvs ks ≤ 1 ∧ (Kd.hss ks).length ≤ 1 := by
  have a1 := eps_ok h1
  have a2 := (ews_ok h2).1
  simp only [insides, List.mem_cons, List.not_mem_nil, or_false] at h
  rcases h with rfl | rfl | rfl | rfl
  · exact ⟨(fun k hk => nomatch hk), rfl, by simp, by simp [Kd.cnts], by simp [Kd.lvs], by simp [Kd.hss]⟩
  · refine ⟨fun k hk => ?_, rfl, by simp, by simp [Kd.cnts, Kd.cnt], by simp [Kd.lvs, Kd.lv], by simp [Kd.hss, Kd.hs]⟩
    rw [List.mem_singleton] at hk
    subst hk
    exact .txt (by decide) (by decide)
  · refine ⟨fun k hk => ?_, rfl, by simp, by simp [Kd.cnts, Kd.cnt], by simp [Kd.lvs, Kd.lv], by simp [Kd.hss, Kd.hs]⟩
    simp only [List.mem_cons, List.not_mem_nil, or_false] at hk
    rcases hk with rfl | rfl
    · exact .hol (by decide)
    · exact .txt (by decide) (by decide)
  · refine ⟨fun k hk => ?_, rfl, by simp, by simp [Kd.cnts, Kd.cnt], by simp [Kd.lvs, Kd.lv], by simp [Kd.hss, Kd.hs]⟩
    simp only [List.mem_cons, List.not_mem_nil, or_false] at hk
    rcases hk with rfl | rfl | rfl
    · exact .txt (by decide) (by decide)
    · exact .el a1 a2 (fun _ h => by cases h) (by simp) (fun _ h => by cases h) (by simp) (fun _ h => by cases h) rfl (by simp) (by simp) (by simp)
    · exact .hol (by decide)
/-- what _law_edge tells -/
structure Edge (k : Kd) : Prop where
  ex : ∃ p l ds as ks, k = .el p l ds as ks
  good : k.Good
  cnt : k.cnt ≤ 2
  lv : k.lv ≤ 2
  hs : k.hs.length ≤ 1
theorem edge_of {q0 q1 : List Nat × List Nat} (h01 : q0.1 ∈ eps) (h02 : q0.2 ∈ ews) (h11 : q1.1 ∈ eps) (h12 : q1.2 ∈ ews) {v1 v2 : Av} (hv1 : v1 ∈ vals q1) (hv2 : v2 ∈ vals q1) {ds : List Dc} (hds : ds ∈ somes) {ks : List Kd} (hks : ks ∈ insides q1) : Edge (.el q0.1 q0.2 ds (rowE q0 v1 v2) ks) := by
  obtain ⟨s1, s2, s3⟩ := somes_ok hds
  obtain ⟨i1, i2, i3, i4, i5, i6⟩ := insides_ok h11 h12 hks
  have hne := (ews_ok h02).2
  refine ⟨⟨_, _, _, _, _, rfl⟩, .el (eps_ok h01) (ews_ok h02).1 s1 s2 (fun q hq => ?_) ?_ i1 i2 (by omega) (by simp) (by omega), by simp only [Kd.cnt]; omega, by simp only [Kd.lv]; omega, i6⟩
  · simp only [rowE, List.mem_cons, List.not_mem_nil, or_false] at hq
    rcases hq with rfl | rfl | rfl
    · simp only [atOk, vals_ok h11 h12 hv1, Bool.and_true]; decide
    · simp only [atOk, vals_ok h11 h12 hv2, Bool.and_true]; decide
    · simp only [atOk, eps_ok h01, (ews_ok h02).1, Bool.true_and]; decide
  · simp only [rowE, List.map_cons, List.map_nil]
    have e1 : (([], [98]) : List Nat × List Nat) ≠ q0 := fun e => hne (by rw [← e])
    have e2 : (([113], [98]) : List Nat × List Nat) ≠ q0 := fun e => hne (by rw [← e])
    simp [e1, e2]
end MiLaw
set_option Elab.async false
set_option linter.all false
set_option maxRecDepth 100000
set_option maxHeartbeats 4000000
/-! _law_edge -/
namespace MiLaw
open PySem Mi
abbrev wordsD : MO := .lst ((ews.map P.str).map D.p)
abbrev epsD : MO := .lst ((eps.map P.str).map D.p)
abbrev nmsD (l : List (List Nat × List Nat)) : MO := .lst ((l.map nmP).map D.p)
def nmsOk (l : List (List Nat × List Nat)) : Prop := ∀ q ∈ l, q.1 ∈ eps ∧ q.2 ∈ ews
/-- the comprehension that draws two names -/
noncomputable def eltE (n : Nat) : EM D := (mN tupF (mCons (mCall (runs fs n) "_law_of" 2 (mCons (mVar 0) (mCons (mN lstF (mCons (mC (pstr [])) (mCons (mC (pstr [112, 112, 112, 112, 112, 112, 112, 112])) (mCons (mC (pstr [120])) (mCons (mC (pstr [120, 109, 108])) mNil))))) mNil))) (mCons (mCall (runs fs n) "_law_of" 2 (mCons (mVar 0) (mCons (mVar 1) mNil))) mNil)))
theorem two_names {sd L n : Nat} (hn : 3 ≤ n) {O : List MO} {bud : Nat} (hb : DB sd L (bud + 4) O []) :
    ∃ q0 q1 B wr, mLcK (.im (iRange1 (mCons (mC (pint 2)) mNil))) (.nm 7) mYes (eltE n) [7] [some (.ref sd), some (.ref O.length), none, none, none, none, none, none] (gst O [] [wordsD]) = .ok (.ref (O.length + 1)) (gst B wr [wordsD, nmsD [q0, q1]]) ∧ Eqv L O B ∧ DB sd L bud B wr ∧ nmsOk [q0, q1] := by
  obtain ⟨S', f1, acc, B, wr, e1, e2, e3, e4, e5⟩ := lc_any (chk := fun _ => true) (n := O.length + 1) (t := .nm 7) (c := mYes) (elt := eltE n) (st := [some (.ref sd), some (.ref O.length), none, none, none, none, none, none])
    (I := fun r S => ∃ (acc : List (List Nat × List Nat)) (B : List MO) (wr : Wr), S = gst B wr [wordsD, nmsD acc] ∧ acc.length + r.length = 2 ∧ nmsOk acc ∧ Eqv L O B ∧ DB sd L (bud + 2 * r.length) B wr)
    (fun _ _ => rfl) (by
      rintro x r S ⟨acc, B, wr, rfl, e2, e3, e4, e5⟩
      have hlB : B.length = O.length := e4.1
      obtain ⟨y1, hy1, B1, wr1, p1, p2, p3⟩ := r_of (sd := sd) (L := L) (n := n) (by omega) (l := eps.map P.str) (by decide) (by decide) (B := B) (wr := wr) (bud := bud + 2 * r.length + 1) (i := 2) (xs := [wordsD, nmsD acc, epsD]) (e5.less (by simp; omega)) rfl
      obtain ⟨y2, hy2, B2, wr2, q1, q2, q3⟩ := r_of (sd := sd) (L := L) (n := n) (by omega) (l := ews.map P.str) (by decide) (by decide) (B := B1) (wr := wr1) (bud := bud + 2 * r.length) (i := 0) (xs := [wordsD, nmsD acc, epsD]) p3 rfl
      obtain ⟨a, ha, rfl⟩ := List.mem_map.mp hy1
      obtain ⟨b, hb, rfl⟩ := List.mem_map.mp hy2
      have hlB1 : B1.length = O.length := by rw [p2.1, hlB]
      have hlB2 : B2.length = O.length := by rw [q2.1, hlB1]
      have hsd := sd_lt q3
      have z2 := g_lst_new (B := B) (wr := wr) (xs := [wordsD, nmsD acc]) ((eps.map P.str).map D.p) (by decide)
      have z2' : lstF [pstr [], pstr [112, 112, 112, 112, 112, 112, 112, 112], pstr [120], pstr [120, 109, 108]] (gst B wr [wordsD, nmsD acc]) = some (.ref (B.length + 2), gst B wr [wordsD, nmsD acc, epsD]) := z2
      rw [Nat.add_zero] at q1
      rw [hlB1] at q1
      refine ⟨rfl, [some (.ref sd), some (.ref O.length), none, none, none, none, none, some x], gst B wr [wordsD, nmsD acc], .p (nmP (a, b)), gst B2 wr2 [wordsD, nmsD acc, epsD], (acc.map nmP).map D.p, rfl, rfl, ?_, ?_, ?_, acc ++ [(a, b)], B2, wr2, ?_, ?_, ?_, e4.trans (p2.trans q2), q3⟩
      · unfold eltE
        simp only [w_n, w_cons, w_nil, w_call, w_var, w_c, List.getElem?_cons_zero, List.getElem?_cons_succ, Res.bind_ok, z2', ofOpt_some, List.length_cons, List.length_nil, Nat.zero_add, Nat.reduceAdd, if_true, p1, q1, t_2]
      · rw [← hlB2, show (gst B2 wr2 [wordsD, nmsD acc, epsD]).get (B2.length + 1) = _ from g_at B2 wr2 _ 1]
        rfl
      · simp [sizeLine_eq]
        omega
      · rw [← hlB2, g_set B2 wr2 _ (by show D.tops _ ≤ _; rw [tops_append, tops_map_p]; simp), Nat.add_assoc, g_trim q3.wr q3.le (by simp; omega), show nmsD (acc ++ [(a, b)]) = .lst ((acc.map nmP).map D.p ++ [.p (nmP (a, b))]) from by simp [nmsD]]
        rfl
      · simp only [List.length_cons] at e2
        simp
        omega
      · intro q hq
        rcases List.mem_append.mp hq with hq | hq
        · exact e3 q hq
        · rw [List.mem_singleton] at hq
          subst hq
          exact ⟨ha, hb⟩) (rangeL 0 2) (gst O [] [wordsD, nmsD []]) ⟨[], O, [], rfl, rfl, (fun q hq => nomatch hq), Eqv.refl, hb.less (by simp [rangeL_len])⟩
  subst e1
  simp only [List.length_nil, Nat.add_zero, Nat.mul_zero] at e2 e5
  match acc, e2 with
  | [q0, q1], _ =>
    refine ⟨q0, q1, B, wr, ?_, e4, e5, e3⟩
    have hz : -(2 ^ 62 : Int) ≤ 2 ∧ (2 : Int) < 2 ^ 62 := by decide
    simp only [mLcK, mLc, iRange1, w_cons, w_c, w_nil, Res.bind_ok, if_pos hz]
    rw [show (gst O [] [wordsD]).len = O.length + 1 from by show (gst O [] [wordsD]).objs.length = _; rw [g_olen]; rfl, g_push]
    exact f1
end MiLaw
set_option Elab.async false
set_option linter.all false
set_option maxRecDepth 100000
set_option maxHeartbeats 4000000
/-! _law_edge -/
namespace MiLaw
open PySem Mi
theorem g_ixk {B : List MO} {wr : Wr} {xs : List MO} {i p : Nat} {l : List P} {x : P} (h : xs[i]? = some (.lst (l.map D.p))) (hp : l[p]? = some x) : idxF (.ref (B.length + i)) (pint (p : Nat)) (gst B wr xs) = some (.p x, gst B wr xs) := by
  have z : L2.atI (l.map D.p) ((p : Nat) : Int) = some (.p x) := L2.atI_nat (by rw [List.getElem?_map, hp]; rfl)
  simp [idxF, h, z]
theorem mul_x (S : Sto) : mulF (pstr [120]) (pint 20) S = some (pstr X20, S) := rfl
theorem mul_u (S : Sto) : mulF (pstr [117]) (pint 20) S = some (pstr U20, S) := rfl
abbrev valsD (q : List Nat × List Nat) : MO := .lst (((vals q).map Av.toP).map D.p)
abbrev rowsD (l : List At) : MO := .lst ((l.map atP).map D.p)
abbrev somesD : MO := .lst ((somes.map fun ds => P.tup (ds.map dcP)).map D.p)
abbrev insD (l : List (List Kd)) : MO := .lst ((l.map fun ks => P.tup (ks.map Kd.toP)).map D.p)
theorem r_edge {sd L n : Nat} (hn : 5 ≤ n) : Drw fs sd L n "_law_edge" [.ref sd] 8 (fun d => ∃ k, d = .p (Kd.toP k) ∧ Edge k) := by
  refine Drw.of (fun S => run__law_edge (by omega) _ S) fun O bud hb => ?_
  obtain ⟨q0, q1, B1, w1, a1, a2, a3, a4⟩ := two_names (sd := sd) (L := L) (n := n - 1) (by omega) (bud := bud + 4) hb
  have l1 : B1.length = O.length := a2.1
  obtain ⟨y1, hy1, B2, w2, b1, b2, b3⟩ := r_of (sd := sd) (L := L) (n := n - 1) (by omega) (l := (vals q1).map Av.toP) (by simp [vals]) (by simp [vals]) (B := B1) (wr := w1) (bud := bud + 3) (i := 2) (xs := [wordsD, nmsD [q0, q1], valsD q1]) a3 rfl
  have l2 : B2.length = O.length := by rw [b2.1, l1]
  obtain ⟨y2, hy2, B3, w3, c1, c2, c3⟩ := r_of (sd := sd) (L := L) (n := n - 1) (by omega) (l := (vals q1).map Av.toP) (by simp [vals]) (by simp [vals]) (B := B2) (wr := w2) (bud := bud + 2) (i := 2) (xs := [wordsD, nmsD [q0, q1], valsD q1]) b3 rfl
  have l3 : B3.length = O.length := by rw [c2.1, l2]
  obtain ⟨v1, hv1, rfl⟩ := List.mem_map.mp hy1
  obtain ⟨v2, hv2, rfl⟩ := List.mem_map.mp hy2
  obtain ⟨y3, hy3, B4, w4, d1, d2, d3⟩ := r_of (sd := sd) (L := L) (n := n - 1) (by omega) (l := somes.map fun ds => P.tup (ds.map dcP)) (by decide) (by decide) (B := B3) (wr := w3) (bud := bud + 1) (i := 4) (xs := [wordsD, nmsD [q0, q1], valsD q1, rowsD (rowE q0 v1 v2), somesD, insD (insides q1)]) c3 rfl
  have l4 : B4.length = O.length := by rw [d2.1, l3]
  obtain ⟨y4, hy4, B5, w5, e1, e2, e3⟩ := r_of (sd := sd) (L := L) (n := n - 1) (by omega) (l := (insides q1).map fun ks => P.tup (ks.map Kd.toP)) (by simp [insides]) (by simp [insides]) (B := B4) (wr := w4) (bud := bud) (i := 5) (xs := [wordsD, nmsD [q0, q1], valsD q1, rowsD (rowE q0 v1 v2), somesD, insD (insides q1)]) d3 rfl
  obtain ⟨ds, hds, rfl⟩ := List.mem_map.mp hy3
  obtain ⟨ks, hks, rfl⟩ := List.mem_map.mp hy4
  have hq0 := a4 q0 (by simp)
  have hq1 := a4 q1 (by simp)
  rw [l1] at b1
  rw [l2] at c1
  rw [l3] at d1
  rw [l4] at e1
  refine ⟨.p (Kd.el q0.1 q0.2 ds (rowE q0 v1 v2) ks).toP, B5, w5, [wordsD, nmsD [q0, q1], valsD q1, rowsD (rowE q0 v1 v2), somesD, insD (insides q1)], ?_, a2.trans (b2.trans (c2.trans (d2.trans e2))), e3, rfl, _, rfl, edge_of hq0.1 hq0.2 hq1.1 hq1.2 hv1 hv2 hds hks⟩
  unfold m__law_edge
  refine seq_nx (st1 := [some (.ref sd), some (.ref O.length), none, none, none, none, none, none]) (S1 := gst O [] [wordsD]) ?_ ?_
  · have z : lstF [pstr [97, 98, 99, 100, 101, 102, 103, 104], pstr [122], pstr [120, 109, 108, 110, 115, 120], pstr [120, 109, 108, 110], pstr [101, 108, 101, 109, 101, 110, 116], pstr [104, 111, 108, 101]] (gst O [] []) = some (.ref O.length, gst O [] [wordsD]) := g_lst_new (B := O) (wr := []) (xs := []) _ (by simp)
    simp only [w_set, w_n, w_cons, w_nil, w_c, Res.bind_ok, z, ofOpt_some, sbind_ok]
    rfl
  refine seq_nx (st1 := [some (.ref sd), some (.ref O.length), some (.ref (O.length + 1)), none, none, none, none, none]) (S1 := gst B1 w1 [wordsD, nmsD [q0, q1]]) ?_ ?_
  · show sSet 2 (mLcK (.im (iRange1 (mCons (mC (pint 2)) mNil))) (.nm 7) mYes (eltE (n - 1)) [7]) _ _ = _
    simp only [w_set, a1, sbind_ok]
    rfl
  have n0 : ∀ (B : List MO) (wr : Wr) (r : List MO), B.length = O.length → idxF (.ref (O.length + 1)) (pint 0) (gst B wr (wordsD :: nmsD [q0, q1] :: r)) = some (.p (nmP q0), gst B wr (wordsD :: nmsD [q0, q1] :: r)) := fun B wr r e => by
    rw [← e]; exact g_ixk (p := 0) (l := [nmP q0, nmP q1]) rfl rfl
  have n1 : ∀ (B : List MO) (wr : Wr) (r : List MO), B.length = O.length → idxF (.ref (O.length + 1)) (pint 1) (gst B wr (wordsD :: nmsD [q0, q1] :: r)) = some (.p (nmP q1), gst B wr (wordsD :: nmsD [q0, q1] :: r)) := fun B wr r e => by
    rw [← e]; exact g_ixk (p := 1) (l := [nmP q0, nmP q1]) rfl rfl
  refine seq_nx (st1 := [some (.ref sd), some (.ref O.length), some (.ref (O.length + 1)), some (.ref (O.length + 2)), none, none, none, none]) (S1 := gst B1 w1 [wordsD, nmsD [q0, q1], valsD q1]) ?_ ?_
  · have z : lstF [pstr [], pstr X20, pstr [97, 45, 98, 47, 99, 46, 100, 32, 48, 49, 57], pstr [32], .p (nmP q1), tp [.str [], .str [120, 109, 108, 110, 115, 121]]] (gst B1 w1 [wordsD, nmsD [q0, q1]]) = some (.ref (B1.length + 2), gst B1 w1 [wordsD, nmsD [q0, q1], valsD q1]) := g_lst_new (B := B1) (wr := w1) (xs := [wordsD, nmsD [q0, q1]]) _ (by simp)
    rw [l1] at z
    simp only [w_set, w_n, w_cons, w_nil, w_c, w_2, w_var, List.getElem?_cons_zero, List.getElem?_cons_succ, Res.bind_ok, mul_x, n1 B1 w1 [] l1, t_2, z, ofOpt_some, sbind_ok]
    rfl
  refine seq_nx (st1 := [some (.ref sd), some (.ref O.length), some (.ref (O.length + 1)), some (.ref (O.length + 2)), some (.ref (O.length + 3)), none, none, none]) (S1 := gst B3 w3 [wordsD, nmsD [q0, q1], valsD q1, rowsD (rowE q0 v1 v2)]) ?_ ?_
  · have z : lstF [tp [.tup [.str [], .str [98]], v1.toP], tp [.tup [.str [113], .str [98]], v2.toP], tp [nmP q0, .str [46, 47, 45]]] (gst B3 w3 [wordsD, nmsD [q0, q1], valsD q1]) = some (.ref (B3.length + 3), gst B3 w3 [wordsD, nmsD [q0, q1], valsD q1, rowsD (rowE q0 v1 v2)]) := g_lst_new (B := B3) (wr := w3) (xs := [wordsD, nmsD [q0, q1], valsD q1]) _ (by simp)
    rw [l3] at z
    simp only [w_set, w_n, w_cons, w_nil, w_c, w_2, w_var, w_call, List.getElem?_cons_zero, List.getElem?_cons_succ, Res.bind_ok, t_2, ofOpt_some, List.length_cons, List.length_nil, Nat.zero_add, Nat.reduceAdd, if_true, b1, c1, n0 B3 w3 [valsD q1] l3, z, sbind_ok]
    rfl
  refine seq_nx (st1 := [some (.ref sd), some (.ref O.length), some (.ref (O.length + 1)), some (.ref (O.length + 2)), some (.ref (O.length + 3)), some (.ref (O.length + 4)), none, none]) (S1 := gst B3 w3 [wordsD, nmsD [q0, q1], valsD q1, rowsD (rowE q0 v1 v2), somesD]) ?_ ?_
  · have z : lstF [tp [.tup [.str [], .str U20], .tup [.str [120], .str []]], tp [.tup [.str [112, 112, 112, 112, 112, 112, 112, 112], .str [97, 46, 98, 47, 99, 58, 100, 45, 101, 48, 57]]], tp []] (gst B3 w3 [wordsD, nmsD [q0, q1], valsD q1, rowsD (rowE q0 v1 v2)]) = some (.ref (B3.length + 4), gst B3 w3 [wordsD, nmsD [q0, q1], valsD q1, rowsD (rowE q0 v1 v2), somesD]) := g_lst_new (B := B3) (wr := w3) (xs := [wordsD, nmsD [q0, q1], valsD q1, rowsD (rowE q0 v1 v2)]) _ (by simp)
    rw [l3] at z
    simp only [w_set, w_n, w_cons, w_nil, w_c, w_2, Res.bind_ok, mul_u, t_nil, t_1, t_2, ofOpt_some, z, sbind_ok]
    rfl
  refine seq_nx (st1 := [some (.ref sd), some (.ref O.length), some (.ref (O.length + 1)), some (.ref (O.length + 2)), some (.ref (O.length + 3)), some (.ref (O.length + 4)), some (.ref (O.length + 5)), none]) (S1 := gst B3 w3 [wordsD, nmsD [q0, q1], valsD q1, rowsD (rowE q0 v1 v2), somesD, insD ((insides q1).take 3)]) ?_ ?_
  · have z : lstF [tp [], tp [.str X20], tp [.tup [.str [104, 111, 108, 101], .str [120, 109, 108, 110, 115]], .str [32]]] (gst B3 w3 [wordsD, nmsD [q0, q1], valsD q1, rowsD (rowE q0 v1 v2), somesD]) = some (.ref (B3.length + 5), gst B3 w3 [wordsD, nmsD [q0, q1], valsD q1, rowsD (rowE q0 v1 v2), somesD, insD ((insides q1).take 3)]) := g_lst_new (B := B3) (wr := w3) (xs := [wordsD, nmsD [q0, q1], valsD q1, rowsD (rowE q0 v1 v2), somesD]) _ (by simp)
    rw [l3] at z
    simp only [w_set, w_n, w_cons, w_nil, w_c, w_2, Res.bind_ok, mul_x, t_nil, t_1, t_2, ofOpt_some, z, sbind_ok]
    rfl
  refine seq_nx (st1 := [some (.ref sd), some (.ref O.length), some (.ref (O.length + 1)), some (.ref (O.length + 2)), some (.ref (O.length + 3)), some (.ref (O.length + 4)), some (.ref (O.length + 5)), none]) (S1 := gst B3 w3 [wordsD, nmsD [q0, q1], valsD q1, rowsD (rowE q0 v1 v2), somesD, insD (insides q1)]) ?_ ?_
  · have z1 := g_recv (B := B3) (wr := w3) (xs := [wordsD, nmsD [q0, q1], valsD q1, rowsD (rowE q0 v1 v2), somesD, insD ((insides q1).take 3)]) (i := 5) rfl
    have z2 : appendM "list" (.ref (B3.length + 5)) [tp [.str [45], .tup [.str [101, 108, 101, 109, 101, 110, 116], nmP q1, .tup [], .tup [], .tup []], .tup [.str [104, 111, 108, 101], .str [97, 98, 99, 100, 101, 102, 103, 104]]]] (gst B3 w3 [wordsD, nmsD [q0, q1], valsD q1, rowsD (rowE q0 v1 v2), somesD, insD ((insides q1).take 3)]) = some (pnon, gst B3 w3 [wordsD, nmsD [q0, q1], valsD q1, rowsD (rowE q0 v1 v2), somesD, insD (insides q1)]) :=
      g_app (B := B3) (wr := w3) (xs := [wordsD, nmsD [q0, q1], valsD q1, rowsD (rowE q0 v1 v2), somesD, insD ((insides q1).take 3)]) (i := 5) (l := ((insides q1).take 3).map fun ks => P.tup (ks.map Kd.toP)) rfl (by simp [sizeLine_eq]; omega)
    rw [l3] at z1 z2
    simp only [w_expr, w_meth, w_n, w_cons, w_nil, w_c, w_2, w_var, List.getElem?_cons_zero, List.getElem?_cons_succ, Res.bind_ok, z1, List.mem_singleton, if_true, n1 B3 w3 [valsD q1, rowsD (rowE q0 v1 v2), somesD, insD ((insides q1).take 3)] l3, t_nil, t_2, t_3, t_5, ofOpt_some, z2, sbind_ok]
  · refine seq_rt ?_
    have z := g_tuple (B := B4) (wr := w4) (xs := [wordsD, nmsD [q0, q1], valsD q1, rowsD (rowE q0 v1 v2), somesD, insD (insides q1)]) (i := 3) (l := (rowE q0 v1 v2).map atP) rfl
    rw [l4] at z
    simp only [w_ret, w_n, w_cons, w_nil, w_c, w_2, w_var, w_call, List.getElem?_cons_zero, List.getElem?_cons_succ, Res.bind_ok, n0 B3 w3 [valsD q1, rowsD (rowE q0 v1 v2), somesD, insD (insides q1)] l3, ofOpt_some, List.length_cons, List.length_nil, Nat.zero_add, Nat.reduceAdd, if_true, d1, z, e1, t_5, sbind_ok]
    simp [Kd.toP, toPs_map]
end MiLaw
set_option Elab.async false
set_option linter.all false
set_option maxRecDepth 100000
set_option maxHeartbeats 4000000
/-! repr of parts; _law_right -/
namespace MiLaw
open PySem Mi
theorem ws_le {α : Type} {f : α → P} {b : Nat} : ∀ {l : List α}, (∀ x ∈ l, (f x).w ≤ b) → P.ws (l.map f) ≤ (b + 2) * l.length
  | [], _ => by simp [P.ws]
  | x :: r, h => by
    have h1 := h x List.mem_cons_self
    have h2 := ws_le (l := r) fun y hy => h y (List.mem_cons_of_mem _ hy)
    simp only [List.map_cons, P.ws, List.length_cons, Nat.mul_add]
    omega
theorem plains_all {α : Type} {f : α → P} : ∀ {l : List α}, (∀ x ∈ l, (f x).plain = true) → P.plains (l.map f) = true
  | [], _ => rfl
  | x :: r, h => by
    have h1 := h x List.mem_cons_self
    have h2 := plains_all (l := r) fun y hy => h y (List.mem_cons_of_mem _ hy)
    simp only [List.map_cons, P.plains, h1, h2, Bool.and_self]
theorem dps_le {α : Type} {f : α → P} {b : Nat} : ∀ {l : List α}, (∀ x ∈ l, (f x).dp ≤ b) → P.dps (l.map f) ≤ b
  | [], _ => by simp [P.dps]
  | x :: r, h => by
    have h1 := h x List.mem_cons_self
    have h2 := dps_le (l := r) fun y hy => h y (List.mem_cons_of_mem _ hy)
    simp only [List.map_cons, P.dps]
    omega
theorem let128 : ∀ c ∈ letters, c < 128 := by decide
theorem adr128 : ∀ c ∈ addressSigns, c < 128 := by decide
theorem pla128 : ∀ c ∈ plainSigns, c < 128 := by decide
theorem str_plain {x : List Nat} (h : ∀ c ∈ x, c < 128) : (P.str x).plain = true := by
  simp only [P.plain, List.all_eq_true]
  exact fun c hc => decide_eq_true (h c hc)
theorem pre_plain {x : List Nat} (h : isPre x = true) : (P.str x).plain = true := str_plain fun c hc => let128 c ((pre_of h).2.1 c hc)
theorem loc_plain {x : List Nat} (h : isLoc x = true) : (P.str x).plain = true := str_plain fun c hc => let128 c ((loc_of h).2.2.1 c hc)
theorem name_plain {p l : List Nat} (hp : isPre p = true) (hl : isLoc l = true) : (P.tup [.str p, .str l]).plain = true ∧ (P.tup [.str p, .str l]).w ≤ 75 := by
  have := (pre_of hp).1
  have := (loc_of hl).2.1
  have a := pre_plain hp
  have b := loc_plain hl
  refine ⟨by simp only [P.plain, P.plains] at a b ⊢; simp only [a, b, Bool.and_self], ?_⟩
  simp only [P.w, P.ws]
  omega
theorem av_plain {v : Av} (h : v.ok = true) : v.toP.plain = true ∧ v.toP.w ≤ 82 ∧ v.toP.dp ≤ 1 := by
  cases v with
  | plain x =>
    have hx : isPlain x = true := h
    have := (plain_of hx).1
    refine ⟨str_plain fun c hc => pla128 c ((plain_of hx).2 c hc), ?_, by simp [Av.toP, P.dp]⟩
    simp only [Av.toP, P.w]
    omega
  | quoted p l =>
    have h' : isPre p = true ∧ isLoc l = true := by simpa [Av.ok] using h
    obtain ⟨z1, z2⟩ := name_plain h'.1 h'.2
    exact ⟨z1, by simp only [Av.toP]; omega, by simp [Av.toP, P.dp, P.dps]⟩
theorem dc_plain {q : Dc} (h : dcOk q = true) : (dcP q).plain = true ∧ (dcP q).w ≤ 125 ∧ (dcP q).dp ≤ 1 := by
  obtain ⟨h1, h2⟩ := dc_le h
  simp only [dcOk, Bool.and_eq_true, Bool.or_eq_true, decide_eq_true_eq] at h
  have z : (P.str q.2).plain = true := by
    rcases h.2 with z | z
    · exact str_plain fun c hc => adr128 c ((addr_of z).2.2 c hc)
    · rw [z]; rfl
  have a := pre_plain h.1
  refine ⟨by simp only [dcP, P.plain, P.plains] at a z ⊢; simp only [a, z, Bool.and_self], ?_, by simp [dcP, P.dp, P.dps]⟩
  simp only [dcP, P.w, P.ws]
  omega
theorem at_plain {q : At} (h : atOk q = true) : (atP q).plain = true ∧ (atP q).w ≤ 170 ∧ (atP q).dp ≤ 2 := by
  simp only [atOk, Bool.and_eq_true] at h
  obtain ⟨z1, z2⟩ := name_plain h.1.1 h.1.2
  obtain ⟨z3, z4, z5⟩ := av_plain h.2
  refine ⟨by simp only [P.plain, P.plains] at z1 z3 ⊢; simp only [z1, z3, Bool.and_self], ?_, ?_⟩
  · simp only [atP, P.w, P.ws] at z2 ⊢
    omega
  · simp only [atP, P.dp, P.dps]
    omega
theorem ws_kids : ∀ {ks : List Kd}, (∀ k ∈ ks, k.toP.w ≤ 82 + 40000 * k.cnt) → P.ws (ks.map Kd.toP) ≤ 84 * ks.length + 40000 * Kd.cnts ks
  | [], _ => by simp [P.ws]
  | k :: r, h => by
    have h1 := h k List.mem_cons_self
    have h2 := ws_kids (ks := r) fun y hy => h y (List.mem_cons_of_mem _ hy)
    simp only [List.map_cons, P.ws, Kd.cnts, List.length_cons]
    omega
theorem kd_plain {k : Kd} (h : k.Good) : k.toP.plain = true ∧ k.toP.w ≤ 82 + 40000 * k.cnt ∧ k.toP.dp ≤ 2 * k.lv + 2 := by
  induction h with
  | txt hx _ =>
    rename_i x
    have := (plain_of hx).1
    exact ⟨str_plain fun c hc => pla128 c ((plain_of hx).2 c hc), by simp only [Kd.toP, P.w]; omega, by simp [Kd.toP, P.dp]⟩
  | hol hw =>
    rename_i x
    have := (word_of hw).2.1
    have z : (P.str x).plain = true := str_plain fun c hc => let128 c ((word_of hw).2.2 c hc)
    have z2 : (P.str wHole).plain = true := rfl
    exact ⟨by simp only [Kd.toP, P.plain, P.plains] at z z2 ⊢; simp only [z, z2, Bool.and_self], by simp only [Kd.toP, P.w, P.ws, wHole, List.length_cons, List.length_nil]; omega, by simp [Kd.toP, P.dp, P.dps]⟩
  | el g1 g2 g3 g4 g5 g6 g7 g8 g9 g10 g11 ih =>
    rename_i p l ds as ks
    obtain ⟨n1, n2⟩ := name_plain g1 g2
    have d1 := plains_all (f := dcP) (l := ds) fun q hq => (dc_plain (g3 q hq)).1
    have d2 := ws_le (f := dcP) (b := 125) (l := ds) fun q hq => (dc_plain (g3 q hq)).2.1
    have d3 := dps_le (f := dcP) (b := 1) (l := ds) fun q hq => (dc_plain (g3 q hq)).2.2
    have a1 := plains_all (f := atP) (l := as) fun q hq => (at_plain (g5 q hq)).1
    have a2 := ws_le (f := atP) (b := 170) (l := as) fun q hq => (at_plain (g5 q hq)).2.1
    have a3 := dps_le (f := atP) (b := 2) (l := as) fun q hq => (at_plain (g5 q hq)).2.2
    have k1 := plains_all (f := Kd.toP) (l := ks) fun q hq => (ih q hq).1
    have k2 := ws_kids fun q hq => (ih q hq).2.1
    have k3 := dps_le (f := Kd.toP) (b := 2 * Kd.lvs ks + 2) (l := ks) fun q hq => by
      have := (ih q hq).2.2
      have := lv_le hq
      omega
    have e : (P.str wElement).plain = true := rfl
    have p8 := (pre_of g1).1
    have l8 := (loc_of g2).2.1
    refine ⟨?_, ?_, ?_⟩
    · simp only [Kd.toP, toPs_map, P.plain, P.plains] at n1 e ⊢
      simp only [n1, e, d1, a1, k1, Bool.and_self]
    · simp only [Kd.toP, toPs_map, P.w, P.ws, Kd.cnt, wElement, List.length_cons, List.length_nil] at n2 ⊢
      omega
    · simp only [Kd.toP, toPs_map, P.dp, P.dps, Kd.lv]
      omega
theorem r_repr {k : Kd} (h : Fine k) (S : Sto) : reprF [.p k.toP] S = some (pstr (rpr k.toP), S) := by
  obtain ⟨h1, h2, h3⟩ := kd_plain h.good
  have hc := h.cnt
  have hl := h.lv
  cases k with
  | txt _ => cases h.el
  | hol _ => cases h.el
  | el p l ds as ks =>
    simp only [Kd.toP] at h1 h2 h3 ⊢
    exact repr_tup h1 (by rw [sizeLine_eq]; omega) (by omega) S
theorem r_right {k : Kd} (h : Fine k) {n : Nat} (hn : 24 ≤ n) (S : Sto) : runs fs n "_law_right" [.p k.toP] S = .ok (pbl true) S := by
  rw [run__law_right (by omega)]
  refine call_rt (ex := []) ?_ rfl
  have hl := h.lv
  have z1 := fun S => r_law_written h.good h.el h.cnt (n := n - 1) (by omega) S
  have z2 := fun S => r_written h.good h.el h.cnt h.lv h.nd h.hl (n := n - 1) (by omega) S
  have z3 := fun S => r_size_of h.good h.el h.cnt h.lv h.nd h.hl (n := n - 1) (by omega) S
  have z4 := fun S => r_read_part h.good h.el h.cnt h.lv h.nd h.hl (n := n - 1) (by omega) S
  have z5 := fun S => r_repr h S
  have ht := text_le h.good
  have hc := h.cnt
  have z6 := fun S => l_str S (x := k.text) (by rw [sizeLine_eq]; omega)
  generalize k.toP = kp at *
  simp [m__law_right, z1, z2, z3, z4, z5, z6]
end MiLaw
set_option Elab.async false
set_option linter.all false
set_option maxRecDepth 100000
set_option maxHeartbeats 4000000
/-! _law_begin -/
namespace MiLaw
open PySem Mi
/-- a comprehension over a list that is there -/
theorem lcK_lstA {α : Type} {g : α → P} {p : α → Bool} {f : α → P} {put : α → Mi.Env} {mi : EM D} {t : Tg} {c : EM Bool} {elt : EM D} {vs : List Nat} {st : Mi.Env} {S : Sto} {o : List MO} {i : Nat} {ys : List α} (hm : ∀ S', mi st S' = .ok (.ref (S.objs.length + i)) S') (ho : o[i]? = some (.lst ((ys.map g).map D.p))) (hz : ys.length < sizeLine)
    (h : ∀ y ∈ ys, t.put (.p (g y)) (wipeE st vs) = some (put y) ∧ (∀ S', c (put y) S' = .ok (p y) S') ∧ (p y = true → ∀ S', elt (put y) S' = .ok (.p (f y)) S')) :
    mLcK (.any mi) t c elt vs st (ext S o) = .ok (.ref (S.objs.length + o.length)) (ext S (o ++ [.lst (((ys.filter p).map f).map D.p)])) := by
  have hlt : i < o.length := (List.getElem?_eq_some_iff.mp ho).1
  have hl : ∀ ex, (ext S (o ++ ex)).list (.ref (S.objs.length + i)) = some ((ys.map g).map D.p) := fun ex => by
    simp only [Sto.list]
    rw [show (ext S (o ++ ex)).get (S.objs.length + i) = (o ++ ex)[i]? from ext_at S _ _, List.getElem?_append_left hlt, ho]
  have hl0 := hl []
  simp only [List.append_nil] at hl0
  have hg : (ext S o).get (S.objs.length + i) = some (.lst ((ys.map g).map D.p)) := by
    rw [show (ext S o).get (S.objs.length + i) = o[i]? from ext_at S _ _, ho]
  have z := lc_A (g := fun y => D.p (g y)) (p := p) (f := f) (put := put) (chk := fun S' => decide (S'.list (.ref (S.objs.length + i)) = some ((ys.map g).map D.p))) (t := t) (c := c) (elt := elt) (st := wipeE st vs) (S := S) (o := o) (fun acc => by rw [hl]; simp) ys [] (by simpa using hz) h
  simp only [mLcK, mLcAny, hm, hg, mLc, iSeq, Res.bind_ok, walkD, hl0, noK, if_true]
  rw [show (ext S o).len = S.objs.length + o.length from ext_olen _ _, ext_push]
  simp only [List.map_nil, List.nil_append] at z
  rw [show (ys.map g).map D.p = ys.map fun y => D.p (g y) from by rw [List.map_map]; rfl] at z ⊢
  rw [z]
def leftOf (c : Int) : Int := if 1000000000000000000 ≤ c then c else 0
theorem optAll_ints (S : Sto) (n : Nat) (ns : List Int) : optAll (D.py S n) (ns.map pint) = some (ns.map fun i => PyData.int i) := by
  have z := optAll_py S n (ns.map P.int)
  rw [List.map_map, List.map_map] at z
  exact z
theorem script_ne {S : Sto} {a b : Nat} {ns : List Int} (h : S.objs[a]? = some (.fzl (ns.map pint))) (hj : S.objs[b]? = some (.lst [])) : neF (.ref a) (.ref b) S = some (pbl (!ns.isEmpty), S) := by
  have z := optAll_ints S 69 ns
  have z0 := optAll_ints S 69 []
  simp only [List.map_nil] at z0
  have e : PyData.eqv (.list (ns.map fun i => PyData.int i)) (.list []) = ns.isEmpty := by cases ns <;> simp [PyData.eqv, PyData.eqvAll]
  have m : min (PyData.depth (.list (ns.map fun i => PyData.int i))) (PyData.depth (.list [])) ≤ 64 := Nat.le_trans (Nat.min_le_right _ _) (by simp [PyData.depth, PyData.depthAll])
  simp only [neF, eqB, D.py, show S.get a = S.objs[a]? from rfl, show S.get b = S.objs[b]? from rfl, h, hj, z, z0, Option.map_some, if_pos m, e]
theorem r_begin {n : Nat} (hn : 1 ≤ n) {ns : List Int} (hl : ns.length ≤ 63) {wr0 : Wr} : ∃ cells : List Int, 0 < cells.length ∧ cells.length ≤ 63 ∧
    runs fs n "_law_begin" [.ref 0] ⟨[.fzl (ns.map pint)], wr0⟩ = .ok (.ref 3) ⟨[.fzl (ns.map pint), .lst [], .lst (cells.map pint), .dct (stKvs 2 4 0 0), .lst ((cells.map leftOf).map pint)], (3, 5) :: wr0⟩ := by
  obtain ⟨S, eS⟩ : ∃ S : Sto, S = ⟨[.fzl (ns.map pint)], wr0⟩ := ⟨_, rfl⟩
  have lS : S.objs.length = 1 := by rw [eS]; rfl
  obtain ⟨cells, hc1, hc2, hset⟩ : ∃ cells : List Int, 0 < cells.length ∧ cells.length ≤ 63 ∧ (mIte (mB (m2 neF (mVar 0) (mN lstF mNil))) (mN listF (mCons (mVar 0) mNil)) (mN lstF (mCons (mC (pint 0)) mNil))) [some (.ref 0), none, none] (ext S []) = .ok (.ref 2) (ext S [.lst [], .lst (cells.map pint)]) := by
    have g0 : ∀ o, (ext S o).objs[0]? = some (.fzl (ns.map pint)) := fun o => by rw [eS]; rfl
    have g1 : (ext S [.lst []]).objs[1]? = some (.lst []) := by rw [eS]; rfl
    have z1 : lstF [] (ext S []) = some (.ref 1, ext S [.lst []]) := by rw [eS]; rfl
    have z2 := script_ne (S := ext S [.lst []]) (a := 0) (b := 1) (g0 _) g1
    by_cases hns : ns = []
    · refine ⟨[0], by simp, by simp, ?_⟩
      have z3 : lstF [pint 0] (ext S [.lst []]) = some (.ref 2, ext S [.lst [], .lst ([(0 : Int)].map pint)]) := by rw [eS]; rfl
      simp [z1, z2, hns, z3]
    · refine ⟨ns, by cases ns <;> simp_all, hl, ?_⟩
      have he : ns.isEmpty = false := by cases ns <;> simp_all
      have z3 : listF [.ref 0] (ext S [.lst []]) = some (.ref 2, ext S [.lst [], .lst (ns.map pint)]) := by
        have q : (ext S [.lst []]).seq (.ref 0) = some (ns.map pint) := by
          simp only [Sto.seq, D.items, Sto.list, show (ext S [MO.lst []]).get 0 = (ext S [MO.lst []]).objs[0]? from rfl, g0]
        simp only [listF, q]
        rw [eS]; rfl
      simp [z1, z2, he, z3]
  refine ⟨cells, hc1, hc2, ?_⟩
  rw [← eS, run__law_begin hn]
  have e10 : ∀ S, powF (pint 10) (pint 18) S = some (pint 1000000000000000000, S) := fun S => rfl
  have y := lcK_lstA (g := fun i : Int => P.int i) (p := fun _ => true) (f := fun i => .int (leftOf i)) (put := fun i => [some (.ref 0), some (.ref 2), some (pint i)]) (mi := mVar 1) (t := .nm 2) (c := mYes) (elt := mIte (mB (m2 geF (mVar 2) (m2 powF (mC (pint 10)) (mC (pint 18))))) (mVar 2) (mC (pint 0))) (vs := [2]) (st := [some (.ref 0), some (.ref 2), none]) (S := S) (o := [.lst [], .lst (cells.map pint), .dct []]) (i := 1) (ys := cells)
    (fun S' => by rw [lS]; rfl) (by simp [List.map_map]) (by rw [sizeLine_eq]; omega) (fun i _ => ⟨rfl, fun _ => rfl, fun _ S' => by
      by_cases h : (1000000000000000000 : Int) ≤ i <;> simp [e10, h, leftOf]⟩)
  rw [List.filter_eq_self.mpr (fun _ _ => rfl), lS] at y
  have hbody : m__law_begin (runs fs (n - 1)) ([D.ref 0].map some ++ List.replicate (3 - [D.ref 0].length) none) { S with wr := [] } = .rt (.ref 3) ⟨[.fzl (ns.map pint), .lst [], .lst (cells.map pint), .dct (stKvs 2 4 0 0), .lst ((cells.map leftOf).map pint)], [(3, 5)]⟩ := by
    rw [bare_ext]
    unfold m__law_begin
    refine seq_nx (st1 := [some (.ref 0), some (.ref 2), none]) (S1 := ext S [.lst [], .lst (cells.map pint)]) ?_ ?_
    · show sSet 1 _ [some (.ref 0), none, none] (ext S []) = _
      simp only [w_set, hset, sbind_ok]
      rfl
    · refine seq_rt ?_
      simp only [w_ret, mDisp, ext_push, List.cons_append, List.nil_append, mPairs, w_c, w_var, List.getElem?_cons_zero, List.getElem?_cons_succ, Res.bind_ok, y]
      rw [show List.map D.p (List.map (fun i => P.int (leftOf i)) cells) = (cells.map leftOf).map pint from by rw [List.map_map, List.map_map]; rfl]
      subst eS
      have tl := tops_ints (cells.map leftOf)
      generalize (cells.map leftOf).map pint = ls at tl ⊢
      generalize cells.map pint = cs
      simp [ext, Sto.set, dPuts, dPut, keyP, stKvs, topKV]
      rfl
  unfold callBody
  rw [hbody]
  rw [eS]
  simp [Mi.finish, Sto.cutOk, Sto.len, backAll, stKvs, topKV]
end MiLaw
set_option Elab.async false
set_option linter.all false
set_option maxRecDepth 100000
set_option maxHeartbeats 4000000
/-! the law -/
namespace MiLaw
open PySem Mi
/-- the loop's body in the law -/
noncomputable def bodyL (n : Nat) : SM := (sSeq (sPar 5 6 (mCons (mCall (runs fs n) "_law_grown" 1 (mCons (mVar 1) mNil)) (mCons (mCall (runs fs n) "_law_edge" 1 (mCons (mVar 1) mNil)) mNil))) (sSeq (sForK (.any (mN tupF (mCons (mVar 5) (mCons (mVar 6) (mCons (mN tupF (mCons (mC (pstr [101, 108, 101, 109, 101, 110, 116])) (mCons (mN tupF (mCons (mC (pstr [112])) (mCons (mC (pstr [97])) mNil))) (mCons (mN tupF mNil) (mCons (mN tupF mNil) (mCons (mN tupF (mCons (mVar 6) (mCons (mC (pstr [116])) (mCons (m2 addF (mSlc (mVar 6) (mPart none) (mPart (some (mC (pint 4))))) (mN tupF (mCons (mN tupF mNil) mNil))) mNil)))) mNil)))))) mNil))))) (.nm 7) (sSeq (sIf (mNotT (mTru (mCall (runs fs n) "_law_right" 1 (mCons (mVar 7) mNil)))) (sSeq (sRet (mC (pbl false))) sNil) sNil) sNil)) (sSeq (sIf (mAndT (mB (m2 neF (mN reprF (mCons (mVar 2) mNil)) (mN reprF (mCons (mVar 5) mNil)))) (mB (m2 eqF (mCall (runs fs n) "written" 1 (mCons (mVar 2) mNil)) (mCall (runs fs n) "written" 1 (mCons (mVar 5) mNil))))) (sSeq (sRet (mC (pbl false))) sNil) sNil) (sSeq (sSet 2 (mVar 5)) sNil))))
def third (p l : List Nat) (ds : List Dc) (as : List At) (ks : List Kd) : Kd := .el [112] [97] [] [] [.el p l ds as ks, .txt [116], .el p l ds as []]
theorem third_fine {p l : List Nat} {ds : List Dc} {as : List At} {ks : List Kd} (h : Edge (.el p l ds as ks)) : Fine (third p l ds as ks) := by
  obtain ⟨_, good, cnt, lv, hs⟩ := h
  have g2 : (Kd.el p l ds as []).Good := by
    cases good with
    | el g1 g2 g3 g4 g5 g6 g7 g8 g9 g10 g11 => exact .el g1 g2 g3 g4 g5 g6 (fun _ h => nomatch h) rfl g9 g10 (by simp)
  have e : (third p l ds as ks).hs = (Kd.el p l ds as ks).hs := by simp [third, Kd.hs, Kd.hss]
  refine ⟨.el (by decide) (by decide) (fun _ h => nomatch h) (by simp) (fun _ h => nomatch h) (by simp) (fun k hk => ?_) rfl (by simp) (by simp) (by simp), rfl, ?_, ?_, ?_, ?_⟩
  · simp only [List.mem_cons, List.not_mem_nil, or_false] at hk
    rcases hk with rfl | rfl | rfl
    · exact good
    · exact .txt (by decide) (by decide)
    · exact g2
  · simp only [third, Kd.cnt, Kd.cnts] at cnt ⊢
    omega
  · simp only [third, Kd.lv, Kd.lvs] at lv ⊢
    omega
  · rw [e]
    match hh : (Kd.el p l ds as ks).hs, hs with
    | [], _ => simp
    | [x], _ => simp
  · rw [e]; omega
theorem edge_fine {k : Kd} (h : Edge k) : Fine k := by
  obtain ⟨⟨p, l, ds, as, ks, rfl⟩, good, cnt, lv, hs⟩ := h
  refine ⟨good, rfl, by omega, by omega, ?_, by omega⟩
  match hh : (Kd.el p l ds as ks).hs, hs with
  | [], _ => simp
  | [x], _ => simp
/-- unlike parts have unlike forms -/
theorem text_inj {k q : Kd} (hk : Fine k) (hq : Fine q) (h : k.text = q.text) : k.toP = q.toP := by
  have z1 := r_read_part hk.good hk.el hk.cnt hk.lv hk.nd hk.hl (n := 23) (Nat.le_refl _) ⟨[], []⟩
  have z2 := r_read_part hq.good hq.el hq.cnt hq.lv hq.nd hq.hl (n := 23) (Nat.le_refl _) ⟨[], []⟩
  rw [h, z2] at z1
  injection z1 with e
  injection e with e
  exact e.symm
theorem law_turn {sd n bud : Nat} (hn : 25 ≤ n) {L : Nat} {B : List MO} {wr : Wr} {lk : Kd} (hlk : Fine lk) (hb : DB sd L (bud + 100018) B wr) {v3 v4 v5 v6 v7 : Option D} {sc : Option D} :
    ∃ (pk ek : Kd) (x7 : P) (B' : List MO) (wr' : Wr), bodyL n [sc, some (.ref sd), some (.p lk.toP), v3, v4, v5, v6, v7] (gst B wr []) = .nx [sc, some (.ref sd), some (.p pk.toP), v3, v4, some (.p pk.toP), some (.p ek.toP), some (.p x7)] (gst B' wr' []) ∧ Fine pk ∧ Eqv L B B' ∧ DB sd L bud B' wr' := by
  obtain ⟨d, B1, w1, a1, a2, a3, pk, rfl, hpk⟩ := (r_grown (sd := sd) (L := L) (n := n) (by omega)).use (bud := bud + 8) (hb.less (by omega)) []
  obtain ⟨d, B2, w2, b1, b2, b3, ek, rfl, hek⟩ := (r_edge (sd := sd) (L := L) (n := n) (by omega)).use (bud := bud) a3 []
  have hekF := edge_fine hek
  obtain ⟨p, l, ds, as, ks, rfl⟩ := hek.ex
  have h3 := third_fine hek
  have tr : ∀ st, (gst B2 w2 []).trim B2.length st = gst B2 w2 [] := fun st => by
    have z := g_small (B := B2) (wr := w2) (xs := []) (k := 0) (st := st) b3.wr b3.le (by simp)
    rw [Nat.add_zero] at z
    exact z
  refine ⟨pk, .el p l ds as ks, (third p l ds as ks).toP, B2, w2, ?_, hpk, a2.trans b2, b3⟩
  unfold bodyL
  refine seq_nx (st1 := [sc, some (.ref sd), some (.p lk.toP), v3, v4, some (.p pk.toP), some (.p (Kd.el p l ds as ks).toP), v7]) (S1 := gst B2 w2 []) (by simp [a1, b1]) ?_
  refine seq_nx (st1 := [sc, some (.ref sd), some (.p lk.toP), v3, v4, some (.p pk.toP), some (.p (Kd.el p l ds as ks).toP), some (.p (third p l ds as ks).toP)]) (S1 := gst B2 w2 []) ?_ ?_
  · have hsl : ∀ S, slcF (.p (Kd.el p l ds as ks).toP) none (some 4) S = some (tp [.str wElement, .tup [.str p, .str l], .tup (ds.map dcP), .tup (as.map atP)], S) := fun S => by
      have c := cut_take [D.p (.str wElement), tp [.str p, .str l], tp (ds.map dcP), tp (as.map atP), tp (Kd.toPs ks)] 4
      simp only [Kd.toP, slcF, D.items, List.map_cons, List.map_nil]
      rw [show (4 : Int) = ((4 : Nat) : Int) from rfl, c]
      rfl
    have hat := fun S => a_tup S (x := [.str wElement, .tup [.str p, .str l], .tup (ds.map dcP), .tup (as.map atP)]) (y := [.tup []]) (by rw [sizeLine_eq]; simp)
    have ft := for_tup (mi := (mN tupF (mCons (mVar 5) (mCons (mVar 6) (mCons (mN tupF (mCons (mC (pstr [101, 108, 101, 109, 101, 110, 116])) (mCons (mN tupF (mCons (mC (pstr [112])) (mCons (mC (pstr [97])) mNil))) (mCons (mN tupF mNil) (mCons (mN tupF mNil) (mCons (mN tupF (mCons (mVar 6) (mCons (mC (pstr [116])) (mCons (m2 addF (mSlc (mVar 6) (mPart none) (mPart (some (mC (pint 4))))) (mN tupF (mCons (mN tupF mNil) mNil))) mNil)))) mNil)))))) mNil))))) (t := .nm 7) (body := (sSeq (sIf (mNotT (mTru (mCall (runs fs n) "_law_right" 1 (mCons (mVar 7) mNil)))) (sSeq (sRet (mC (pbl false))) sNil) sNil) sNil)) (st := [sc, some (.ref sd), some (.p lk.toP), v3, v4, some (.p pk.toP), some (.p (Kd.el p l ds as ks).toP), v7]) (S := gst B2 w2 []) (xs := [pk.toP, (Kd.el p l ds as ks).toP, (third p l ds as ks).toP]) (by
      have et : (third p l ds as ks).toP = .tup [.str wElement, .tup [.str [112], .str [97]], .tup [], .tup [], .tup [(Kd.el p l ds as ks).toP, .str [116], .tup [.str wElement, .tup [.str p, .str l], .tup (ds.map dcP), .tup (as.map atP), .tup []]]] := by
        simp [third, Kd.toP, Kd.toPs]
      rw [et]
      generalize (Kd.el p l ds as ks).toP = ep at *
      simp [hsl, hat])
    rw [ft]
    have r1 := fun S => r_right hpk (n := n) (by omega) S
    have r2 := fun S => r_right hekF (n := n) (by omega) S
    have r3 := fun S => r_right h3 (n := n) (by omega) S
    generalize (third p l ds as ks).toP = tp3 at *
    generalize (Kd.el p l ds as ks).toP = ep at *
    generalize pk.toP = pp at *
    simp [forItems, r1, r2, r3, tr, Out.trimNx]
  · have r1 := fun S => r_repr hlk S
    have r2 := fun S => r_repr hpk S
    have r3 := fun S => r_written hlk.good hlk.el hlk.cnt hlk.lv hlk.nd hlk.hl (n := n) (by omega) S
    have r4 := fun S => r_written hpk.good hpk.el hpk.cnt hpk.lv hpk.nd hpk.hl (n := n) (by omega) S
    refine seq_nx (st1 := [sc, some (.ref sd), some (.p lk.toP), v3, v4, some (.p pk.toP), some (.p (Kd.el p l ds as ks).toP), some (.p (third p l ds as ks).toP)]) (S1 := gst B2 w2 []) ?_ ?_
    · by_cases hr : rpr lk.toP = rpr pk.toP
      · simp [r1, r2, hr]
      · have ht : ¬ lk.text = pk.text := fun z => hr (by rw [text_inj hlk hpk z])
        simp [r1, r2, r3, r4, hr, ht]
    · simp
/-- the parts by hand -/
def kLast : Kd := .el [] [108, 97, 115, 116] [] [] []
def kDue : Kd := .el [] [97] [([], [117])] [(([], [98]), .plain [120]), (([112], [99]), .quoted [112] [100])] [.txt [115, 111], .hol [104]]
def kPa : Kd := .el [112] [97] [([112], [])] [] []
theorem kLast_fine : Fine kLast := ⟨.el (by decide) (by decide) (fun _ h => nomatch h) (by simp) (fun _ h => nomatch h) (by simp) (fun _ h => nomatch h) rfl (by simp) (by simp) (by simp), rfl, by decide, by decide, by decide, by decide⟩
theorem kPa_fine : Fine kPa := ⟨.el (by decide) (by decide) (by decide) (by decide) (fun _ h => nomatch h) (by simp) (fun _ h => nomatch h) rfl (by simp) (by simp) (by simp), rfl, by decide, by decide, by decide, by decide⟩
theorem kDue_fine : Fine kDue := ⟨.el (by decide) (by decide) (by decide) (by decide) (fun q hq => by
    simp only [List.mem_cons, List.not_mem_nil, or_false] at hq
    rcases hq with rfl | rfl <;> decide) (by decide) (fun k hk => by
    simp only [List.mem_cons, List.not_mem_nil, or_false] at hk
    rcases hk with rfl | rfl
    · exact .txt (by decide) (by decide)
    · exact .hol (by decide)) rfl (by simp) (by simp) (by simp), rfl, by decide, by decide, by decide, by decide⟩
theorem kDue_text : kDue.text = [60, 97, 32, 120, 109, 108, 110, 115, 61, 34, 117, 34, 32, 98, 61, 34, 120, 34, 32, 112, 58, 99, 61, 34, 64, 112, 58, 100, 34, 62, 115, 111, 123, 104, 125, 60, 47, 97, 62] := by decide
theorem kPa_text : kPa.text = [60, 112, 58, 97, 32, 120, 109, 108, 110, 115, 58, 112, 61, 34, 34, 47, 62] := by decide
theorem kDue_eq (S : Sto) : neF (.p kDue.toP) (.p kDue.toP) S = some (pbl false, S) := by
  have e : eqB S (.p kDue.toP) (.p kDue.toP) = some true := by rfl
  simp [neF, e]
theorem law_ok (ns : List Int) (hl : ns.length ≤ 63) : ∃ S', runs fs 200 ("law" : Str) [.ref 0] (S0 ns) = .ok (pbl true) S' := by
  obtain ⟨cells, hc1, hc2, hbeg⟩ := r_begin (n := 199) (by omega) hl (wr0 := [])
  obtain ⟨O, eO⟩ : ∃ O : List MO, O = [.fzl (ns.map pint), .lst [], .lst (cells.map pint), .dct (stKvs 2 4 0 0), .lst ((cells.map leftOf).map pint)] := ⟨_, rfl⟩
  rw [← eO] at hbeg
  have lO : O.length = 5 := by rw [eO]; rfl
  have hdb : DB 3 5 (200000 * 7) O [(3, 5)] := ⟨⟨2, 4, cells, cells.map leftOf, 0, 0, by rw [eO]; rfl, by rw [eO]; rfl, by rw [eO]; rfl, by simp, hc1, by omega, by omega, by omega, by omega, by omega, by omega, by omega, by omega⟩, by omega, fun q hq => by rw [List.mem_singleton] at hq; subst hq; simp⟩
  have hlen : lenF [.ref 0] (gst O [(3, 5)] []) = some (pint (ns.length : Nat), gst O [(3, 5)] []) := by
    have z : (gst O [(3, 5)] []).objs[0]? = some (.fzl (ns.map pint)) := by rw [eO]; rfl
    simp [lenF, Sto.seq, D.items, Sto.list, z]
  obtain ⟨v, hv0, hv7, him⟩ : ∃ v : Int, 0 ≤ v ∧ v ≤ 7 ∧ (mCons (m2 addF (mC (pint 3)) (mN minF (mCons (mC (pint 4)) (mCons (mN lenF (mCons (mVar 0) mNil)) mNil)))) mNil) [some (.ref 0), some (.ref 3), some (.p kLast.toP), none, none, none, none, none] (gst O [(3, 5)] []) = .ok [pint v] (gst O [(3, 5)] []) := by
    refine ⟨3 + (if ((ns.length : Nat) : Int) < 4 then ((ns.length : Nat) : Int) else 4), ?_, ?_, ?_⟩
    · split <;> omega
    · split <;> omega
    · simp [hlen, minF]
  have hr := range_ok (t := .nm 3) (body := bodyL 199) him hv0 (by omega)
  obtain ⟨st', S', f1, lk, v3, v5, v6, v7, B, wr, e1, e2, e3, e4, e5, e6⟩ := for_any (chk := fun _ => true) (b0 := (gst O [(3, 5)] []).objs.length) (t := .nm 3) (body := bodyL 199)
    (I := fun r st S => ∃ (lk : Kd) (v3 v5 v6 v7 : Option D) (B : List MO) (wr : Wr), st = [some (.ref 0), some (.ref 3), some (.p lk.toP), v3, none, v5, v6, v7] ∧ envTop [v3, v5, v6, v7] = 0 ∧ S = gst B wr [] ∧ Fine lk ∧ (Eqv 5 O B ∧ DB 3 5 (200000 * r.length) B wr) ∧ ∀ x ∈ r, x.top = 0)
    (fun _ _ _ => rfl) (by
      rintro x r st S ⟨lk, v3, v5, v6, v7, B, wr, rfl, e2, rfl, e4, ⟨e5, e6⟩, e7⟩
      obtain ⟨pk, ek, x7, B', wr', z1, z2, z3, z4⟩ := law_turn (sd := 3) (n := 199) (by omega) (L := 5) (bud := 200000 * r.length) e4 (e6.less (by simp; omega)) (v3 := some x) (v4 := none) (v5 := v5) (v6 := v6) (v7 := v7) (sc := some (.ref 0))
      have hx := e7 x List.mem_cons_self
      have lB : B'.length = 5 := by rw [z3.1, e5.1, lO]
      refine ⟨rfl, _, _, _, rfl, z1, pk, some x, some (.p pk.toP), some (.p ek.toP), some (.p x7), B', wr', rfl, by simp [hx], ?_, z2, ⟨e5.trans z3, z4⟩, fun y hy => e7 y (List.mem_cons_of_mem _ hy)⟩
      have z := g_small (B := B') (wr := wr') (xs := []) (k := 0) (st := [some (.ref 0), some (.ref 3), some (.p pk.toP), some x, none, some (.p pk.toP), some (.p ek.toP), some (.p x7)]) z4.wr z4.le (by simp)
      rw [show (gst O [(3, 5)] []).objs.length = B'.length + 0 from by rw [g_olen, lO, lB]; rfl, z]) (rangeL 0 v.toNat) [some (.ref 0), some (.ref 3), some (.p kLast.toP), none, none, none, none, none] (gst O [(3, 5)] []) ⟨kLast, none, none, none, none, O, [(3, 5)], rfl, rfl, rfl, kLast_fine, ⟨Eqv.refl, by rw [rangeL_len]; exact hdb.less (by omega)⟩, fun x hx => rangeL_top hx⟩
  subst e1 e3
  rw [f1] at hr
  have lB : B.length = 5 := by rw [e5.1.1, lO]
  have hF : m_law (runs fs 199) ([D.ref 0].map some ++ List.replicate (8 - [D.ref 0].length) none) { (S0 ns) with wr := [] } = .rt (pbl true) (gst B wr []) := by
    unfold m_law
    refine seq_nx (st1 := [some (.ref 0), some (.ref 3), none, none, none, none, none, none]) (S1 := gst O [(3, 5)] []) ?_ ?_
    · have hb : runs fs 199 "_law_begin" [.ref 0] { (S0 ns) with wr := [] } = .ok (.ref 3) (gst O [(3, 5)] []) := by
        show runs fs 199 "_law_begin" [.ref 0] ⟨[.fzl (ns.map pint)], []⟩ = _
        rw [hbeg]
        simp [gst]
      simp [hb]
    refine seq_nx (st1 := [some (.ref 0), some (.ref 3), some (.p kLast.toP), none, none, none, none, none]) (S1 := gst O [(3, 5)] []) (by simp [kLast, Kd.toP, Kd.toPs]) ?_
    refine seq_nx (st1 := [some (.ref 0), some (.ref 3), some (.p lk.toP), v3, none, v5, v6, v7]) (S1 := gst B wr []) ?_ ?_
    · show sForK (.im (iRange1 _)) (.nm 3) (bodyL 199) _ _ = _
      rw [hr]
      simp only [Out.trimNx]
      have z := g_small (B := B) (wr := wr) (xs := []) (k := 0) (st := [some (.ref 0), some (.ref 3), some (.p lk.toP), v3, none, v5, v6, v7]) e5.2.wr e5.2.le (by simp)
      rw [show (gst O [(3, 5)] []).objs.length = B.length + 0 from by rw [g_olen, lO, lB]; rfl, z]
    refine seq_nx (st1 := [some (.ref 0), some (.ref 3), some (.p lk.toP), v3, some (pstr kDue.text), v5, v6, v7]) (S1 := gst B wr []) (by simp [kDue_text]) ?_
    refine seq_nx (st1 := [some (.ref 0), some (.ref 3), some (.p lk.toP), v3, some (pstr kDue.text), some (.p kDue.toP), v6, v7]) (S1 := gst B wr []) (by simp [kDue, Kd.toP, Kd.toPs, Av.toP]) ?_
    have w1 := fun S => r_written kDue_fine.good kDue_fine.el kDue_fine.cnt kDue_fine.lv kDue_fine.nd kDue_fine.hl (n := 199) (by omega) S
    have w2 := fun S => r_read_part kDue_fine.good kDue_fine.el kDue_fine.cnt kDue_fine.lv kDue_fine.nd kDue_fine.hl (n := 199) (by omega) S
    have w3 := fun S => r_size_of kDue_fine.good kDue_fine.el kDue_fine.cnt kDue_fine.lv kDue_fine.nd kDue_fine.hl (n := 199) (by omega) S
    have w4 := fun S => r_written kPa_fine.good kPa_fine.el kPa_fine.cnt kPa_fine.lv kPa_fine.nd kPa_fine.hl (n := 199) (by omega) S
    have w5 := kDue_eq
    have w6 : kDue.text.length = 39 := by rw [kDue_text]; rfl
    refine seq_nx (st1 := [some (.ref 0), some (.ref 3), some (.p lk.toP), v3, some (pstr kDue.text), some (.p kDue.toP), v6, v7]) (S1 := gst B wr []) ?_ ?_
    · generalize kDue.toP = kp at *
      simp [w1, w2, w3, w5, w6]
    · refine seq_rt ?_
      have ep : kPa.toP = .tup [.str [101, 108, 101, 109, 101, 110, 116], .tup [.str [112], .str [97]], .tup [.tup [.str [112], .str []]], .tup [], .tup []] := by simp [kPa, Kd.toP, Kd.toPs]
      rw [ep, kPa_text] at w4
      simp [w4]
  rw [run_law (by omega)]
  unfold callBody
  rw [hF]
  simp only [Mi.finish]
  split
  · exact ⟨_, by rw [if_pos (by simp)]⟩
  · exact ⟨_, rfl⟩
end MiLaw
open PySem PySem.W PyProof.Rows
theorem PySem.Challenge.cw_prefixgraft_k04_whole_written_forms_ther_holds : PySem.Challenge.rw_prefixgraft_k04_whole_written_forms_ther.Holds := by
  exact MiLaw.holds_of MiLaw.law_ok
