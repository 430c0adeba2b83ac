import PyProof.Rows.All
import Wide.All
import OpenK.AllK
import Wide.FinOn
import HandS.ForMost
import HandS.Slots
import HandS.SlotsOwn
import KE.KDictKeyed
import HandS.Defaults
import KE.KDictOf
import HandS.DictEq
import KE.DataEq
import HandS.IsInst
import KE.DataFind
import HandS.HeadHook1
import HandS.HeadHook2
import HandS.HeadHook3
import HandS.HeadHook4
import PySem.Challenge.RW_midlooks_k45_known_equal
import KE.KStateDown
import HandS.Head0
import HandS.Head1
import HandS.Head2
import HandS.HeadEnd
set_option Elab.async false
set_option linter.all false
set_option maxRecDepth 100000
set_option maxHeartbeats 4000000
/-! Pv1: plain data, a store, a small core language and its evaluator. No model in sight. -/
namespace Pv
open PySem

/-- built-in types -/
inductive Tg where
  | int | str | bool | list | tuple | dict | none
def Tg.name : Tg → String
  | .int => "int"
  | .str => "str"
  | .bool => "bool"
  | .list => "list"
  | .tuple => "tuple"
  | .dict => "dict"
  | .none => "NoneType"
/-- a value by its structure; a changeable object by its number; a class of the program by its number -/
inductive D where
  | non
  | bl (b : Bool)
  | int (i : Int)
  | str (x : List Nat)
  | tup (xs : List D)
  | obj (k : Nat)
  | ty (t : Tg)
  | cls (c : Nat)
  | scr

/-- a changeable object -/
inductive O where
  | lst (xs : List D)
  | dct (kvs : List (D × D))
  | ins (c : Nat) (fs : List (Option D))

/-! ### the store: a tree by numbers -/
inductive Tr where
  | nil
  | node (o : Option O) (l r : Tr)

def Tr.get : Nat → Tr → Nat → Option O
  | 0, _, _ => none
  | _ + 1, .nil, _ => none
  | n + 1, .node o l r, k => match k with
    | 0 => o
    | j + 1 => match j % 2 with
      | 0 => Tr.get n l (j / 2)
      | _ + 1 => Tr.get n r (j / 2)
def Tr.set : Nat → Tr → Nat → O → Tr
  | 0, t, _, _ => t
  | n + 1, .nil, k, o => match k with
    | 0 => .node (some o) .nil .nil
    | j + 1 => match j % 2 with
      | 0 => .node none (Tr.set n .nil (j / 2) o) .nil
      | _ + 1 => .node none .nil (Tr.set n .nil (j / 2) o)
  | n + 1, .node p l r, k, o => match k with
    | 0 => .node (some o) l r
    | j + 1 => match j % 2 with
      | 0 => .node p (Tr.set n l (j / 2) o) r
      | _ + 1 => .node p l (Tr.set n r (j / 2) o)
theorem Tr.get_nil (n k : Nat) : Tr.get n .nil k = none := by cases n <;> rfl
theorem Tr.get_set : ∀ (n m : Nat) (t : Tr) (k j : Nat) (o : O), k < n → j < m → Tr.get m (Tr.set n t k o) j = if j = k then some o else Tr.get m t j
  | 0, _, _, _, _, _, h, _ => absurd h (Nat.not_lt_zero _)
  | _ + 1, 0, _, _, _, _, _, h => absurd h (Nat.not_lt_zero _)
  | n + 1, m + 1, t, k, j, o, hk, hj => by
    have key : ∀ (a b : Nat), a % 2 = b % 2 → a / 2 = b / 2 → a = b := fun a b h1 h2 => by omega
    cases t with
    | nil =>
      cases k with
      | zero =>
        cases j with
        | zero => rfl
        | succ j =>
          show (match j % 2 with | 0 => Tr.get m .nil (j / 2) | _ + 1 => Tr.get m .nil (j / 2)) = _
          rw [if_neg (by omega)]
          split <;> rw [Tr.get_nil] <;> rfl
      | succ k =>
        cases hk2 : k % 2 with
        | zero =>
          have e : Tr.set (n + 1) .nil (k + 1) o = .node none (Tr.set n .nil (k / 2) o) .nil := by
            show (match k % 2 with | 0 => Tr.node none (Tr.set n .nil (k / 2) o) .nil | _ + 1 => Tr.node none .nil (Tr.set n .nil (k / 2) o)) = _
            rw [hk2]
          rw [e]
          cases j with
          | zero => rw [if_neg (by omega)]; rfl
          | succ j =>
            show (match j % 2 with | 0 => Tr.get m (Tr.set n .nil (k / 2) o) (j / 2) | _ + 1 => Tr.get m .nil (j / 2)) = _
            cases hj2 : j % 2 with
            | zero =>
              show Tr.get m (Tr.set n .nil (k / 2) o) (j / 2) = _
              rw [Tr.get_set n m .nil (k / 2) (j / 2) o (by omega) (by omega), Tr.get_nil, Tr.get_nil]
              by_cases h : j / 2 = k / 2
              · rw [if_pos h, if_pos (by have := key j k (by omega) h; omega)]
              · rw [if_neg h, if_neg (fun z => h (by have : j = k := by omega
                                                     rw [this]))]
            | succ q =>
              show Tr.get m .nil (j / 2) = _
              rw [Tr.get_nil, if_neg (fun z => by have : j = k := by omega
                                                  subst this; omega), Tr.get_nil]
        | succ q0 =>
          have e : Tr.set (n + 1) .nil (k + 1) o = .node none .nil (Tr.set n .nil (k / 2) o) := by
            show (match k % 2 with | 0 => Tr.node none (Tr.set n .nil (k / 2) o) .nil | _ + 1 => Tr.node none .nil (Tr.set n .nil (k / 2) o)) = _
            rw [hk2]
          rw [e]
          cases j with
          | zero => rw [if_neg (by omega)]; rfl
          | succ j =>
            show (match j % 2 with | 0 => Tr.get m .nil (j / 2) | _ + 1 => Tr.get m (Tr.set n .nil (k / 2) o) (j / 2)) = _
            cases hj2 : j % 2 with
            | zero =>
              show Tr.get m .nil (j / 2) = _
              rw [Tr.get_nil, if_neg (fun z => by have : j = k := by omega
                                                  subst this; omega), Tr.get_nil]
            | succ q =>
              show Tr.get m (Tr.set n .nil (k / 2) o) (j / 2) = _
              rw [Tr.get_set n m .nil (k / 2) (j / 2) o (by omega) (by omega), Tr.get_nil, Tr.get_nil]
              by_cases h : j / 2 = k / 2
              · rw [if_pos h, if_pos (by have := key j k (by omega) h; omega)]
              · rw [if_neg h, if_neg (fun z => h (by have : j = k := by omega
                                                     rw [this]))]
    | node p l r =>
      cases k with
      | zero =>
        cases j with
        | zero => rfl
        | succ j => rw [if_neg (by omega)]; rfl
      | succ k =>
        cases hk2 : k % 2 with
        | zero =>
          have e : Tr.set (n + 1) (.node p l r) (k + 1) o = .node p (Tr.set n l (k / 2) o) r := by
            show (match k % 2 with | 0 => Tr.node p (Tr.set n l (k / 2) o) r | _ + 1 => Tr.node p l (Tr.set n r (k / 2) o)) = _
            rw [hk2]
          rw [e]
          cases j with
          | zero => rw [if_neg (by omega)]; rfl
          | succ j =>
            show (match j % 2 with | 0 => Tr.get m (Tr.set n l (k / 2) o) (j / 2) | _ + 1 => Tr.get m r (j / 2)) = if j + 1 = k + 1 then some o else (match j % 2 with | 0 => Tr.get m l (j / 2) | _ + 1 => Tr.get m r (j / 2))
            cases hj2 : j % 2 with
            | zero =>
              show Tr.get m (Tr.set n l (k / 2) o) (j / 2) = if j + 1 = k + 1 then some o else Tr.get m l (j / 2)
              rw [Tr.get_set n m l (k / 2) (j / 2) o (by omega) (by omega)]
              by_cases h : j / 2 = k / 2
              · rw [if_pos h, if_pos (by have := key j k (by omega) h; omega)]
              · rw [if_neg h, if_neg (fun z => h (by have : j = k := by omega
                                                     rw [this]))]
            | succ q =>
              show Tr.get m r (j / 2) = if j + 1 = k + 1 then some o else Tr.get m r (j / 2)
              rw [if_neg (fun z => by have : j = k := by omega
                                      subst this; omega)]
        | succ q0 =>
          have e : Tr.set (n + 1) (.node p l r) (k + 1) o = .node p l (Tr.set n r (k / 2) o) := by
            show (match k % 2 with | 0 => Tr.node p (Tr.set n l (k / 2) o) r | _ + 1 => Tr.node p l (Tr.set n r (k / 2) o)) = _
            rw [hk2]
          rw [e]
          cases j with
          | zero => rw [if_neg (by omega)]; rfl
          | succ j =>
            show (match j % 2 with | 0 => Tr.get m l (j / 2) | _ + 1 => Tr.get m (Tr.set n r (k / 2) o) (j / 2)) = if j + 1 = k + 1 then some o else (match j % 2 with | 0 => Tr.get m l (j / 2) | _ + 1 => Tr.get m r (j / 2))
            cases hj2 : j % 2 with
            | zero =>
              show Tr.get m l (j / 2) = if j + 1 = k + 1 then some o else Tr.get m l (j / 2)
              rw [if_neg (fun z => by have : j = k := by omega
                                      subst this; omega)]
            | succ q =>
              show Tr.get m (Tr.set n r (k / 2) o) (j / 2) = if j + 1 = k + 1 then some o else Tr.get m r (j / 2)
              rw [Tr.get_set n m r (k / 2) (j / 2) o (by omega) (by omega)]
              by_cases h : j / 2 = k / 2
              · rw [if_pos h, if_pos (by have := key j k (by omega) h; omega)]
              · rw [if_neg h, if_neg (fun z => h (by have : j = k := by omega
                                                     rw [this]))]

structure Sto where
  n : Nat
  t : Tr
def Sto.at (S : Sto) (k : Nat) : Option O := match Nat.blt k S.n with
  | true => S.t.get (k + 1) k
  | false => none
def Sto.put (S : Sto) (k : Nat) (o : O) : Sto := ⟨S.n, S.t.set (k + 1) k o⟩
def Sto.new (S : Sto) (o : O) : Sto := ⟨S.n + 1, S.t.set (S.n + 1) S.n o⟩
def Sto.empty : Sto := ⟨0, .nil⟩
theorem Sto.at_lt {S : Sto} {k : Nat} {o : O} (h : S.at k = some o) : k < S.n := by
  unfold Sto.at at h
  cases e : Nat.blt k S.n with
  | true => exact Nat.le_of_ble_eq_true e
  | false => rw [e] at h; cases h
theorem Sto.at_eq {S : Sto} {k : Nat} (h : k < S.n) : S.at k = S.t.get (k + 1) k := by
  unfold Sto.at
  rw [show Nat.blt k S.n = true from Nat.ble_eq_true_of_le h]
theorem Sto.at_ge {S : Sto} {k : Nat} (h : S.n ≤ k) : S.at k = none := by
  cases e : S.at k with
  | none => rfl
  | some o => exact absurd (Sto.at_lt e) (by omega)
theorem Sto.put_at (S : Sto) (k j : Nat) (o : O) (hk : k < S.n) : (S.put k o).at j = if j = k then some o else S.at j := by
  by_cases hj : j < S.n
  · rw [Sto.at_eq (S := S.put k o) hj, Sto.at_eq hj]
    show Tr.get (j + 1) (Tr.set (k + 1) S.t k o) j = _
    rw [Tr.get_set _ _ _ _ _ _ (Nat.lt_succ_self _) (Nat.lt_succ_self _)]
  · rw [Sto.at_ge (S := S.put k o) (by show S.n ≤ j; omega), Sto.at_ge (by omega), if_neg (by omega)]
theorem Sto.new_at (S : Sto) (j : Nat) (o : O) : (S.new o).at j = if j = S.n then some o else S.at j := by
  by_cases hj : j < S.n + 1
  · rw [Sto.at_eq (S := S.new o) hj]
    show Tr.get (j + 1) (Tr.set (S.n + 1) S.t S.n o) j = _
    rw [Tr.get_set _ _ _ _ _ _ (Nat.lt_succ_self _) (Nat.lt_succ_self _)]
    by_cases h : j = S.n
    · rw [if_pos h, if_pos h]
    · rw [if_neg h, if_neg h, Sto.at_eq (by omega)]
  · rw [Sto.at_ge (S := S.new o) (by show S.n + 1 ≤ j; omega), Sto.at_ge (by omega), if_neg (by omega)]
end Pv
/-! Pv2: what the plain data are in the abstract heap; steps; readings. -/
namespace Pv
open PySem PySem.Spec PyProof.Rows L2

structure Gx where
  P : Program
  w : World
  K : PySem.W.Frag
  cA : Nat → Addr
  sa : Addr
  ns : List Int

def Live (S : Sto) (k : Nat) : Prop := ∃ o, S.at k = some o
def IsIns (S : Sto) (k : Nat) : Prop := ∃ c fs, S.at k = some (.ins c fs)
/-- where the objects stand: their own addresses, the dicts of the instances -/
structure Loc2 where
  a : Nat → Addr
  d : Nat → Addr
def Own (r : Loc2) (S : Sto) (b : Addr) : Prop := ∃ k, (Live S k ∧ b = r.a k) ∨ (IsIns S k ∧ b = r.d k)
theorem IsIns.live {S : Sto} {k : Nat} (h : IsIns S k) : Live S k := let ⟨_, _, e⟩ := h; ⟨_, e⟩

/-- the script stands, locked -/
def Scr (G : Gx) (H : Hp) : Prop := (∃ o, H G.sa = some (.frz o (.lst (G.ns.map V.int)))) ∨
  ∃ (o : Obj) (its : Array Value) (n : Nat), G.K.lookup G.sa = some o ∧ o.cls = .type "list" ∧ o.dict = none ∧ o.data = .seq its n ∧ its.size ≤ sizeLine ∧ Vals (G.ns.map V.int) its.toList
theorem Scr.sql {G : Gx} {H : Hp} (h : Scr G H) : SqL G.K H G.sa (G.ns.map V.int) := by
  rcases h with ⟨o, h⟩ | h
  · exact .inl (.inr ⟨o, h⟩)
  · exact .inr h
theorem Scr.of {G : Gx} {H : Hp} (hO : ∀ b, H b = none ∨ ∃ o xs, H b = some (.frz o (.lst xs))) (h : SqL G.K H G.sa (G.ns.map V.int)) : Scr G H := by
  rcases h with (h | ⟨o, h⟩) | h
  · rcases hO G.sa with z | ⟨o, xs, z⟩
    · rw [h] at z; cases z
    · rw [h] at z; cases z
  · exact .inl ⟨o, h⟩
  · exact .inr h
mutual
inductive RD (G : Gx) (r : Loc2) (S : Sto) (H : Hp) : D → V → Prop
  | non : RD G r S H .non .non
  | bl (b : Bool) : RD G r S H (.bl b) (.bl b)
  | int (i : Int) : RD G r S H (.int i) (.int i)
  | str (x : List Nat) : RD G r S H (.str x) (.str ⟨x.toArray⟩)
  | tup {xs : List D} {a : Addr} {vs : List V} : SqT G.K H a vs → RDs G r S H xs vs → RD G r S H (.tup xs) (.ref a)
  | obj (k : Nat) : Live S k → RD G r S H (.obj k) (.ref (r.a k))
  | ty (t : Tg) : RD G r S H (.ty t) (.ty t.name)
  | cls (c : Nat) : RD G r S H (.cls c) (.ref (G.cA c))
  | scr : Scr G H → RD G r S H .scr (.ref G.sa)
inductive RDs (G : Gx) (r : Loc2) (S : Sto) (H : Hp) : List D → List V → Prop
  | nil : RDs G r S H [] []
  | cons {x : D} {v : V} {xs : List D} {vs : List V} : RD G r S H x v → RDs G r S H xs vs → RDs G r S H (x :: xs) (v :: vs)
end
section
variable {G : Gx} {r : Loc2} {S : Sto} {H : Hp}
theorem RDs.length : ∀ {xs : List D} {vs : List V}, RDs G r S H xs vs → xs.length = vs.length
  | _, _, .nil => rfl
  | _, _, .cons _ t => congrArg Nat.succ (RDs.length t)
theorem RDs.get : ∀ {xs : List D} {vs : List V} {i : Nat} {x : D}, RDs G r S H xs vs → xs[i]? = some x → ∃ v, vs[i]? = some v ∧ RD G r S H x v
  | _, _, i, _, .nil, e => by simp at e
  | _, _, 0, _, .cons h _, e => by simp at e; subst e; exact ⟨_, rfl, h⟩
  | _, _, i + 1, x, .cons _ t, e => by
    obtain ⟨v, h1, h2⟩ := RDs.get (i := i) (x := x) t (by simpa using e)
    exact ⟨v, by simpa using h1, h2⟩
theorem RDs.append : ∀ {xs ys : List D} {vs ws : List V}, RDs G r S H xs vs → RDs G r S H ys ws → RDs G r S H (xs ++ ys) (vs ++ ws)
  | _, _, _, _, .nil, h => h
  | _, _, _, _, .cons h t, h' => .cons h (RDs.append t h')
theorem RDs.set {x : D} {v : V} (h : RD G r S H x v) : ∀ {xs : List D} {vs : List V} (i : Nat), RDs G r S H xs vs → RDs G r S H (xs.set i x) (vs.set i v)
  | _, _, _, .nil => .nil
  | _, _, 0, .cons _ t => .cons h t
  | _, _, i + 1, .cons q t => .cons q (RDs.set h i t)
end

/-- what of the abstract heap the data lean on stays -/
structure Kp (G : Gx) (H H' : Hp) : Prop where
  t : ∀ a vs, SqT G.K H a vs → SqT G.K H' a vs
  f : ∀ a o u, H a = some (.frz o u) → H' a = some (.frz o u)
theorem Kp.refl {G : Gx} {H : Hp} : Kp G H H := ⟨fun _ _ h => h, fun _ _ _ h => h⟩
mutual
theorem RD.gen {G : Gx} {r r' : Loc2} {S S' : Sto} {H H' : Hp} (ht : Kp G H H') (hl : ∀ k, Live S k → Live S' k ∧ r'.a k = r.a k) : ∀ {d : D} {v : V}, RD G r S H d v → RD G r' S' H' d v
  | _, _, .non => .non
  | _, _, .bl b => .bl b
  | _, _, .int i => .int i
  | _, _, .str x => .str x
  | _, _, .tup h t => .tup (ht.t _ _ h) (RDs.gen ht hl t)
  | _, _, .obj k h => by
    obtain ⟨h1, e⟩ := hl k h
    rw [← e]
    exact .obj k h1
  | _, _, .ty t => .ty t
  | _, _, .cls c => .cls c
  | _, _, .scr h => .scr (h.imp (fun ⟨o, z⟩ => ⟨o, ht.f _ _ _ z⟩) fun z => z)
theorem RDs.gen {G : Gx} {r r' : Loc2} {S S' : Sto} {H H' : Hp} (ht : Kp G H H') (hl : ∀ k, Live S k → Live S' k ∧ r'.a k = r.a k) : ∀ {ds : List D} {vs : List V}, RDs G r S H ds vs → RDs G r' S' H' ds vs
  | _, _, .nil => .nil
  | _, _, .cons h t => .cons (RD.gen ht hl h) (RDs.gen ht hl t)
end

/-! ### dicts: the keys are tuples -/
mutual
def keyOf : D → Option NestedKey
  | .non => some .none
  | .bl true => some (.num 1)
  | .bl false => some (.num 0)
  | .int i => some (.num i)
  | .str x => some (.text ⟨x.toArray⟩)
  | .tup xs => (match keysOf xs with
    | some ks => some (.tup ks)
    | none => none)
  | .obj _ => none
  | .ty _ => none
  | .cls _ => none
  | .scr => none
def keysOf : List D → Option (List NestedKey)
  | [] => some []
  | d :: ds => match keyOf d with
    | some k => (match keysOf ds with
      | some ks => some (k :: ks)
      | none => none)
    | none => none
end
/-- the dict's object: its entries -/
def DctO (P : Program) (w : World) (a : Addr) (xs : List (NestedKey × Addr × V)) : HO := .ext fun h => ∃ ys : List (NestedKey × Addr × Value), Paired (fun (p : NestedKey × Addr × V) (q : NestedKey × Addr × Value) => p.1 = q.1 ∧ p.2.1 = q.2.1 ∧ RelV p.2.2 q.2.2) xs ys ∧
  ∃ o es ep, h.get? a = some o ∧ o.ExactDict ∧ o.data = .dict es ep ∧ es.toList = ys.map (entryOfKey (nestedKind P w))
def RKV (G : Gx) (r : Loc2) (S : Sto) (H : Hp) : List (D × D) → List (NestedKey × Addr × V) → Prop := Paired fun (kv : D × D) (x : NestedKey × Addr × V) => keyOf kv.1 = some x.1 ∧ x.1.depth ≤ 8 ∧ RD G r S H kv.1 (.ref x.2.1) ∧ RD G r S H kv.2 x.2.2
structure RDct (G : Gx) (r : Loc2) (S : Sto) (H : Hp) (k : Nat) (kvs : List (D × D)) (xs : List (NestedKey × Addr × V)) : Prop where
  at_ : H (r.a k) = some (DctO G.P G.w (r.a k) xs)
  sys : (r.a k == sysModules) = false
  len : xs.length ≤ sizeLine
  nd : (xs.map (·.1)).Nodup
  rel : RKV G r S H kvs xs

/-- an object of the store in the abstract heap -/
def RO (G : Gx) (r : Loc2) (S : Sto) (H : Hp) (k : Nat) : O → Prop
  | .lst xs => ∃ vs, H (r.a k) = some (.lst vs) ∧ RDs G r S H xs vs
  | .dct kvs => ∃ xs, RDct G r S H k kvs xs
  | .ins c fs => ∃ vs, SlX.Slt H (r.a k) (G.cA c) (r.d k) vs ∧ (∃ u, H (r.d k) = some u ∧ (∀ xs, u ≠ .tup xs) ∧ ∀ o x, u ≠ .frz o x) ∧ ∀ (i : Nat) (d : D), fs[i]? = some (some d) → ∃ v, vs[i]? = some (some v) ∧ RD G r S H d v

structure Rep (G : Gx) (r : Loc2) (S : Sto) (H : Hp) : Prop where
  obj : ∀ k o, S.at k = some o → RO G r S H k o
  inj : ∀ j k, Live S j → Live S k → r.a j = r.a k → j = k
  ad : ∀ j k, Live S j → IsIns S k → r.a j ≠ r.d k
  dd : ∀ j k, IsIns S j → IsIns S k → r.d j = r.d k → j = k

/-- what is owned is tracked, and is no tuple and nothing locked -/
theorem Rep.kind {G : Gx} {r : Loc2} {S : Sto} {H : Hp} (R : Rep G r S H) {b : Addr} (h : Own r S b) : ∃ u, H b = some u ∧ (∀ xs, u ≠ .tup xs) ∧ ∀ o x, u ≠ .frz o x := by
  obtain ⟨k, ⟨⟨o, e⟩, rfl⟩ | ⟨⟨c, fs, e⟩, rfl⟩⟩ := h
  · have q := R.obj k o e
    cases o with
    | lst xs => obtain ⟨vs, q, _⟩ := q; exact ⟨_, q, fun _ z => (nomatch z), fun _ _ z => (nomatch z)⟩
    | dct kvs =>
      obtain ⟨xs, q⟩ := q
      refine ⟨_, q.at_, fun _ z => ?_, fun _ _ z => ?_⟩ <;> (unfold DctO at z; cases z)
    | ins c fs =>
      obtain ⟨vs, q, _⟩ := q
      rcases q with ⟨q, _⟩ | ⟨q, _⟩
      · exact ⟨_, q, fun _ z => (nomatch z), fun _ _ z => (nomatch z)⟩
      · refine ⟨_, q, fun _ z => ?_, fun _ _ z => ?_⟩ <;> (unfold SlX.SlO at z; cases z)
  · obtain ⟨vs, _, q, _⟩ := R.obj k _ e
    exact q
theorem Rep.tup_free {G : Gx} {r : Loc2} {S : Sto} {H : Hp} (R : Rep G r S H) {b : Addr} {xs : List V} (h : Rd H b (.tup xs)) : ¬ Own r S b := fun z => by
  obtain ⟨u, e, h1, h2⟩ := R.kind z
  rcases h with h | ⟨o, h⟩
  · rw [e] at h; exact h1 _ (Option.some.inj h)
  · rw [e] at h; exact h2 _ _ (Option.some.inj h)

structure Step (r : Loc2) (S : Sto) (H : Hp) (r' : Loc2) (S' : Sto) (H' : Hp) : Prop where
  live : ∀ k, Live S k → Live S' k ∧ r'.a k = r.a k
  insd : ∀ k, IsIns S k → IsIns S' k ∧ r'.d k = r.d k
  keep : ∀ b o, H b = some o → ¬ Own r S b → H' b = some o
  new : ∀ b, Own r' S' b → Own r S b ∨ H b = none
theorem Step.refl (r : Loc2) (S : Sto) (H : Hp) : Step r S H r S H := ⟨fun _ h => ⟨h, rfl⟩, fun _ h => ⟨h, rfl⟩, fun _ _ h _ => h, fun _ h => .inl h⟩
theorem Step.trans {r r1 r2 : Loc2} {S S1 S2 : Sto} {H H1 H2 : Hp} (a : Step r S H r1 S1 H1) (b : Step r1 S1 H1 r2 S2 H2) : Step r S H r2 S2 H2 where
  live := fun k h => by
    obtain ⟨h1, e1⟩ := a.live k h
    obtain ⟨h2, e2⟩ := b.live k h1
    exact ⟨h2, e2.trans e1⟩
  insd := fun k h => by
    obtain ⟨h1, e1⟩ := a.insd k h
    obtain ⟨h2, e2⟩ := b.insd k h1
    exact ⟨h2, e2.trans e1⟩
  keep := fun c o h n => b.keep c o (a.keep c o h n) fun z => by
    rcases a.new c z with q | q
    · exact n q
    · rw [h] at q; cases q
  new := fun c z => by
    rcases b.new c z with q | q
    · exact a.new c q
    · by_cases n : Own r S c
      · exact .inl n
      · refine .inr ?_
        cases e : H c with
        | none => rfl
        | some o => rw [a.keep c o e n] at q; cases q

section
variable {G : Gx} {r r' : Loc2} {S S' : Sto} {H H' : Hp}
theorem SqT.step (R : Rep G r S H) (s : Step r S H r' S' H') {a : Addr} {vs : List V} (h : SqT G.K H a vs) : SqT G.K H' a vs := by
  rcases h with h | h
  · have n := R.tup_free h
    rcases h with h | ⟨o, h⟩
    · exact .inl (.inl (s.keep _ _ h n))
    · exact .inl (.inr ⟨o, s.keep _ _ h n⟩)
  · exact .inr h
theorem Kp.step (R : Rep G r S H) (s : Step r S H r' S' H') : Kp G H H' := ⟨fun _ _ => SqT.step R s, fun a o u h => s.keep _ _ h fun z => by
  obtain ⟨w, e, _, h2⟩ := R.kind z
  rw [e] at h
  exact h2 _ _ (Option.some.inj h)⟩
theorem RD.step (R : Rep G r S H) (s : Step r S H r' S' H') {d : D} {v : V} (h : RD G r S H d v) : RD G r' S' H' d v := h.gen (Kp.step R s) s.live
theorem RDs.step (R : Rep G r S H) (s : Step r S H r' S' H') {ds : List D} {vs : List V} (h : RDs G r S H ds vs) : RDs G r' S' H' ds vs := h.gen (Kp.step R s) s.live
end

/-! ### the slots -/
abbrev En := List (Option D)
structure RE (G : Gx) (r : Loc2) (S : Sto) (H : Hp) (env : En) (σ : L2.St) : Prop where
  len : env.length = σ.length
  at_ : ∀ (i : Nat) (d : D), env[i]? = some (some d) → ∃ v, σ[i]? = some (some v) ∧ RD G r S H d v
section
variable {G : Gx} {r r' : Loc2} {S S' : Sto} {H H' : Hp} {env : En} {σ : L2.St}
theorem RE.step (R : Rep G r S H) (s : Step r S H r' S' H') (e : RE G r S H env σ) : RE G r' S' H' env σ := ⟨e.len, fun i d h => by
  obtain ⟨v, h1, h2⟩ := e.at_ i d h
  exact ⟨v, h1, h2.step R s⟩⟩
theorem RE.set (e : RE G r S H env σ) {d : D} {v : V} (h : RD G r S H d v) (i : Nat) : RE G r S H (env.set i (some d)) (σ.set i (some v)) := by
  refine ⟨by rw [List.length_set, List.length_set, e.len], fun j x hx => ?_⟩
  by_cases hj : j = i
  · subst hj
    by_cases hl : j < env.length
    · rw [List.getElem?_set_self hl] at hx
      have q : d = x := Option.some.inj (Option.some.inj hx)
      subst q
      exact ⟨v, List.getElem?_set_self (by rw [← e.len]; exact hl), h⟩
    · rw [List.getElem?_eq_none (by rw [List.length_set]; omega)] at hx
      cases hx
  · rw [List.getElem?_set_ne (Ne.symm hj)] at hx ⊢
    exact e.at_ j x hx
theorem RE.wipe (e : RE G r S H env σ) (i : Nat) : RE G r S H (env.set i none) (σ.set i none) := by
  refine ⟨by rw [List.length_set, List.length_set, e.len], fun j x hx => ?_⟩
  by_cases hj : j = i
  · subst hj
    by_cases hl : j < env.length
    · rw [List.getElem?_set_self hl] at hx; cases hx
    · rw [List.getElem?_eq_none (by rw [List.length_set]; omega)] at hx; cases hx
  · rw [List.getElem?_set_ne (Ne.symm hj)] at hx ⊢
    exact e.at_ j x hx
end

/-! ### readings -/
abbrev EvE := En → Sto → Option (D × Sto)
abbrev EvA := En → Sto → Option (List D × Sto)
abbrev EvT := En → Sto → Option (Bool × Sto)
inductive Fl where
  | nx (env : En) (S : Sto) | rt (d : D) (S : Sto) | bk (env : En) (S : Sto) | ct (env : En) (S : Sto)
abbrev EvS := En → Sto → Option Fl

/-- what holds behind: wherever the data stand then -/
def PoE (G : Gx) (r : Loc2) (S : Sto) (H : Hp) (d : D) (S' : Sto) (Q : VK) : Prop := ∀ r' H' v, Step r S H r' S' H' → Rep G r' S' H' → RD G r' S' H' d v → Q v H'
def PoA (G : Gx) (r : Loc2) (S : Sto) (H : Hp) (ds : List D) (S' : Sto) (Q : List V → Hp → Prop) : Prop := ∀ r' H' vs, Step r S H r' S' H' → Rep G r' S' H' → RDs G r' S' H' ds vs → Q vs H'
def PoT (G : Gx) (r : Loc2) (S : Sto) (H : Hp) (b : Bool) (S' : Sto) (Q : Bool → Hp → Prop) : Prop := ∀ r' H', Step r S H r' S' H' → Rep G r' S' H' → Q b H'
def PoN (G : Gx) (r : Loc2) (S : Sto) (H : Hp) (env' : En) (S' : Sto) (Q : L2.St → Hp → Prop) : Prop := ∀ r' H' σ', Step r S H r' S' H' → Rep G r' S' H' → RE G r' S' H' env' σ' → Q σ' H'

structure Sim (G : Gx) (r : Loc2) (S : Sto) (H : Hp) (env : En) (σ : L2.St) : Prop where
  rep : Rep G r S H
  env : RE G r S H env σ
def rdE (G : Gx) (ev : EvE) : TE := fun σ H Q => ∃ r env S d S', Sim G r S H env σ ∧ ev env S = some (d, S') ∧ PoE G r S H d S' Q
def rdA (G : Gx) (ev : EvA) : TA := fun σ H Q => ∃ r env S d S', Sim G r S H env σ ∧ ev env S = some (d, S') ∧ PoA G r S H d S' Q
def rdT (G : Gx) (ev : EvT) : TT := fun σ H Q => ∃ r env S d S', Sim G r S H env σ ∧ ev env S = some (d, S') ∧ PoT G r S H d S' Q
def PoS (G : Gx) (r : Loc2) (S : Sto) (H : Hp) (D' : Ends) : Fl → Prop
  | .nx env' S' => PoN G r S H env' S' D'.nx
  | .bk env' S' => PoN G r S H env' S' D'.bk
  | .ct env' S' => PoN G r S H env' S' D'.ct
  | .rt d S' => PoE G r S H d S' D'.rt
def rdS (G : Gx) (ev : EvS) : TS := fun D' σ H => ∃ r env S f, Sim G r S H env σ ∧ ev env S = some f ∧ PoS G r S H D' f
/-- a def's promise -/
abbrev EvF := List D → Sto → Option (D × Sto)
def spF (G : Gx) (f : EvF) : Sp := fun vs H Q _ => ∃ r ds S d S', Rep G r S H ∧ RDs G r S H ds vs ∧ f ds S = some (d, S') ∧ PoE G r S H d S' Q

section
variable {G : Gx} {r r1 : Loc2} {S S1 : Sto} {H H1 : Hp}
theorem PoE.after {d : D} {S' : Sto} {Q : VK} (p : PoE G r S H d S' Q) (s : Step r S H r1 S1 H1) : PoE G r1 S1 H1 d S' Q := fun r' H' v s' => p r' H' v (s.trans s')
theorem PoA.after {d : List D} {S' : Sto} {Q : List V → Hp → Prop} (p : PoA G r S H d S' Q) (s : Step r S H r1 S1 H1) : PoA G r1 S1 H1 d S' Q := fun r' H' v s' => p r' H' v (s.trans s')
theorem PoT.after {d : Bool} {S' : Sto} {Q : Bool → Hp → Prop} (p : PoT G r S H d S' Q) (s : Step r S H r1 S1 H1) : PoT G r1 S1 H1 d S' Q := fun r' H' s' => p r' H' (s.trans s')
theorem PoN.after {e : En} {S' : Sto} {Q : L2.St → Hp → Prop} (p : PoN G r S H e S' Q) (s : Step r S H r1 S1 H1) : PoN G r1 S1 H1 e S' Q := fun r' H' v s' => p r' H' v (s.trans s')
theorem PoS.after {D' : Ends} : ∀ {f : Fl}, PoS G r S H D' f → Step r S H r1 S1 H1 → PoS G r1 S1 H1 D' f
  | .nx _ _, p, s => PoN.after p s
  | .bk _ _, p, s => PoN.after p s
  | .ct _ _, p, s => PoN.after p s
  | .rt _ _, p, s => PoE.after p s
theorem _root_.L2.PE.imp {X : Cx} {e : Expr} {t t' : TE} (h : PE X e t) (i : ∀ σ H Q, t' σ H Q → t σ H Q) : PE X e t' := ⟨fun pins s σ H Q I q => h.run pins s σ H Q I (i σ H Q q)⟩
theorem _root_.L2.PT.imp {X : Cx} {e : Expr} {t t' : TT} (h : PT X e t) (i : ∀ σ H Q, t' σ H Q → t σ H Q) : PT X e t' := ⟨fun pins s σ H Q I q => h.run pins s σ H Q I (i σ H Q q)⟩
theorem _root_.L2.PA.imp {X : Cx} {e : List Expr} {t t' : TA} (h : PA X e t) (i : ∀ σ H Q, t' σ H Q → t σ H Q) : PA X e t' := ⟨fun pos pins s σ H Q I q => h.run pos pins s σ H Q I (i σ H Q q)⟩
theorem _root_.L2.PS.imp {X : Cx} {e : Stmt} {t t' : TS} (h : PS X e t) (i : ∀ D' σ H, t' D' σ H → t D' σ H) : PS X e t' := ⟨fun pins s σ H D' I q => h.run pins s σ H D' I (i D' σ H q)⟩
theorem _root_.L2.PSs.imp {X : Cx} {e : List Stmt} {t t' : TS} (h : PSs X e t) (i : ∀ D' σ H, t' D' σ H → t D' σ H) : PSs X e t' := ⟨fun pins s σ H D' I q => h.run pins s σ H D' I (i D' σ H q)⟩
/-- a later part, from where an earlier one has come -/
theorem rdE_next {ev : EvE} {env : En} {σ : L2.St} {d : D} {S' : Sto} {Q : VK} (hs : Sim G r S H env σ) (s : Step r S H r1 S1 H1) (R1 : Rep G r1 S1 H1) (e : ev env S1 = some (d, S')) (p : PoE G r1 S1 H1 d S' Q) : rdE G ev σ H1 Q :=
  ⟨r1, env, S1, d, S', ⟨R1, hs.env.step hs.rep s⟩, e, p⟩
theorem rdA_next {ev : EvA} {env : En} {σ : L2.St} {d : List D} {S' : Sto} {Q : List V → Hp → Prop} (hs : Sim G r S H env σ) (s : Step r S H r1 S1 H1) (R1 : Rep G r1 S1 H1) (e : ev env S1 = some (d, S')) (p : PoA G r1 S1 H1 d S' Q) : rdA G ev σ H1 Q :=
  ⟨r1, env, S1, d, S', ⟨R1, hs.env.step hs.rep s⟩, e, p⟩
end

/-! ### new and changed objects -/
section
variable {G : Gx} {r : Loc2} {S : Sto} {H : Hp}
def Loc2.put (r : Loc2) (k : Nat) (a d : Addr) : Loc2 := ⟨fun j => if j = k then a else r.a j, fun j => if j = k then d else r.d j⟩
theorem put_a_ne {r : Loc2} {k j : Nat} {a d : Addr} (h : j ≠ k) : (r.put k a d).a j = r.a j := if_neg h
theorem put_d_ne {r : Loc2} {k j : Nat} {a d : Addr} (h : j ≠ k) : (r.put k a d).d j = r.d j := if_neg h
theorem put_a_same {r : Loc2} {k : Nat} {a d : Addr} : (r.put k a d).a k = a := if_pos rfl
theorem put_d_same {r : Loc2} {k : Nat} {a d : Addr} : (r.put k a d).d k = d := if_pos rfl
theorem live_new {o : O} {k : Nat} : Live (S.new o) k ↔ Live S k ∨ k = S.n := by
  constructor
  · rintro ⟨u, e⟩
    rw [Sto.new_at] at e
    by_cases h : k = S.n
    · exact .inr h
    · rw [if_neg h] at e; exact .inl ⟨u, e⟩
  · rintro (⟨u, e⟩ | rfl)
    · refine ⟨u, ?_⟩
      rw [Sto.new_at, if_neg (Nat.ne_of_lt (Sto.at_lt e))]
      exact e
    · exact ⟨o, by rw [Sto.new_at, if_pos rfl]⟩
theorem live_lt {k : Nat} (h : Live S k) : k < S.n := let ⟨_, e⟩ := h; Sto.at_lt e
theorem at_new_old {o u : O} {k : Nat} (e : S.at k = some u) : (S.new o).at k = some u := by rw [Sto.new_at, if_neg (Nat.ne_of_lt (Sto.at_lt e))]; exact e
theorem at_new_new {o : O} : (S.new o).at S.n = some o := by rw [Sto.new_at, if_pos rfl]
/-- a tuple is laid: nothing of the store changes -/
theorem Step.tup {a : Addr} {u : HO} (hn : H a = none) : Step r S H r S (upd H a u) := ⟨fun _ h => ⟨h, rfl⟩, fun _ h => ⟨h, rfl⟩, fun b o h _ => by rw [upd_ne (ne_of_none h hn)]; exact h, fun _ h => .inl h⟩
theorem RKV.gen {r' : Loc2} {S' : Sto} {H' : Hp} (ht : Kp G H H') (hl : ∀ k, Live S k → Live S' k ∧ r'.a k = r.a k) {kvs : List (D × D)} {xs : List (NestedKey × Addr × V)} (h : RKV G r S H kvs xs) : RKV G r' S' H' kvs xs :=
  L2.Paired.mapP h fun _ _ ⟨h1, h2, h3, h4⟩ => ⟨h1, h2, h3.gen ht hl, h4.gen ht hl⟩
theorem RO.gen {r' : Loc2} {S' : Sto} {H' : Hp} {k : Nat} (ht : Kp G H H') (hl : ∀ k, Live S k → Live S' k ∧ r'.a k = r.a k) (ea : r'.a k = r.a k) (ha : ∀ u, H (r.a k) = some u → H' (r.a k) = some u) :
    ∀ {o : O}, (∀ c fs, o = .ins c fs → r'.d k = r.d k ∧ ∀ u, H (r.d k) = some u → H' (r.d k) = some u) → RO G r S H k o → RO G r' S' H' k o
  | .lst xs, _, h => by
    obtain ⟨vs, h1, h2⟩ := h
    exact ⟨vs, by rw [ea]; exact ha _ h1, h2.gen ht hl⟩
  | .dct kvs, _, h => by
    obtain ⟨xs, q⟩ := h
    exact ⟨xs, by rw [ea]; exact ha _ q.at_, by rw [ea]; exact q.sys, q.len, q.nd, q.rel.gen ht hl⟩
  | .ins c fs, ed, h => by
    obtain ⟨vs, h1, ⟨u, h2, h3⟩, h4⟩ := h
    obtain ⟨ed, hd⟩ := ed c fs rfl
    refine ⟨vs, ?_, ⟨u, by rw [ed]; exact hd _ h2, h3⟩, fun i d e => ?_⟩
    · rw [ea, ed]
      rcases h1 with ⟨q, z⟩ | ⟨q, z⟩
      · exact .inl ⟨ha _ q, z⟩
      · exact .inr ⟨ha _ q, hd _ z⟩
    · obtain ⟨v, q1, q2⟩ := h4 i d e
      exact ⟨v, q1, q2.gen ht hl⟩
theorem RO.mono {r' : Loc2} {S' : Sto} {H' : Hp} {k : Nat} (R : Rep G r S H) (s : Step r S H r' S' H') (ea : r'.a k = r.a k) (ha : ∀ u, H (r.a k) = some u → H' (r.a k) = some u) {o : O} (ed : ∀ c fs, o = .ins c fs → r'.d k = r.d k ∧ ∀ u, H (r.d k) = some u → H' (r.d k) = some u) (h : RO G r S H k o) : RO G r' S' H' k o :=
  RO.gen (Kp.step R s) s.live ea ha ed h
theorem Rep.tup {a : Addr} {u : HO} (R : Rep G r S H) (hn : H a = none) : Rep G r S (upd H a u) :=
  ⟨fun k o e => RO.mono R (Step.tup hn) rfl (fun u h => by rw [upd_ne (ne_of_none h hn)]; exact h) (fun _ _ _ => ⟨rfl, fun u h => by rw [upd_ne (ne_of_none h hn)]; exact h⟩) (R.obj k o e), R.inj, R.ad, R.dd⟩
/-- a new list -/
theorem isIns_new_lst {xs : List D} {k : Nat} : IsIns (S.new (.lst xs)) k ↔ IsIns S k := by
  constructor
  · rintro ⟨c, fs, e⟩
    rw [Sto.new_at] at e
    by_cases h : k = S.n
    · rw [if_pos h] at e; cases e
    · rw [if_neg h] at e; exact ⟨c, fs, e⟩
  · rintro ⟨c, fs, e⟩
    exact ⟨c, fs, at_new_old e⟩
theorem own_free (R : Rep G r S H) {a : Addr} (hn : H a = none) : ¬ Own r S a := fun z => by
  obtain ⟨u, e, _⟩ := R.kind z
  rw [hn] at e; cases e
theorem Step.newL (R : Rep G r S H) {a : Addr} {xs : List D} {u : HO} (hn : H a = none) : Step r S H (r.put S.n a (r.d S.n)) (S.new (.lst xs)) (upd H a u) where
  live := fun k h => ⟨live_new.mpr (.inl h), put_a_ne (Nat.ne_of_lt (live_lt h))⟩
  insd := fun k h => ⟨isIns_new_lst.mpr h, put_d_ne (Nat.ne_of_lt (live_lt h.live))⟩
  keep := fun b o h _ => by rw [upd_ne (ne_of_none h hn)]; exact h
  new := fun b ⟨k, h⟩ => by
    rcases h with ⟨h, e⟩ | ⟨h, e⟩
    · rcases live_new.mp h with h | rfl
      · rw [put_a_ne (Nat.ne_of_lt (live_lt h))] at e
        exact .inl ⟨k, .inl ⟨h, e⟩⟩
      · rw [put_a_same] at e
        rw [e]
        exact .inr hn
    · have h := isIns_new_lst.mp h
      rw [put_d_ne (Nat.ne_of_lt (live_lt h.live))] at e
      exact .inl ⟨k, .inr ⟨h, e⟩⟩
theorem Rep.newL (R : Rep G r S H) {a : Addr} {xs : List D} {vs : List V} (hn : H a = none) (hx : RDs G r S H xs vs) : Rep G (r.put S.n a (r.d S.n)) (S.new (.lst xs)) (upd H a (.lst vs)) := by
  have s := Step.newL R (xs := xs) (u := .lst vs) hn
  have nl : ∀ k, Live S k → k ≠ S.n := fun k h => Nat.ne_of_lt (live_lt h)
  have na : ∀ k, Live S k → r.a k ≠ a := fun k h e => own_free R hn ⟨k, .inl ⟨h, e.symm⟩⟩
  have nd : ∀ k, IsIns S k → r.d k ≠ a := fun k h e => own_free R hn ⟨k, .inr ⟨h, e.symm⟩⟩
  refine ⟨fun k o e => ?_, fun j k hj hk e => ?_, fun j k hj hk e => ?_, fun j k hj hk e => ?_⟩
  · rw [Sto.new_at] at e
    by_cases h : k = S.n
    · subst h
      rw [if_pos rfl] at e
      cases e
      exact ⟨vs, by rw [put_a_same, upd_same], RDs.step R s hx⟩
    · rw [if_neg h] at e
      exact RO.mono R s (put_a_ne h) (fun u q => by rw [upd_ne (ne_of_none q hn)]; exact q) (fun _ _ _ => ⟨put_d_ne h, fun u q => by rw [upd_ne (ne_of_none q hn)]; exact q⟩) (R.obj k o e)
  · rcases live_new.mp hj with hj | rfl
    · rcases live_new.mp hk with hk | rfl
      · rw [put_a_ne (nl j hj), put_a_ne (nl k hk)] at e
        exact R.inj j k hj hk e
      · rw [put_a_ne (nl j hj), put_a_same] at e
        exact absurd e (na j hj)
    · rcases live_new.mp hk with hk | rfl
      · rw [put_a_ne (nl k hk), put_a_same] at e
        exact absurd e.symm (na k hk)
      · rfl
  · have hk := isIns_new_lst.mp hk
    rw [put_d_ne (nl k hk.live)] at e
    rcases live_new.mp hj with hj | rfl
    · rw [put_a_ne (nl j hj)] at e
      exact R.ad j k hj hk e
    · rw [put_a_same] at e
      exact nd k hk e.symm
  · have hk := isIns_new_lst.mp hk
    have hj := isIns_new_lst.mp hj
    rw [put_d_ne (nl k hk.live), put_d_ne (nl j hj.live)] at e
    exact R.dd j k hj hk e
/-- a list is changed -/
theorem isIns_put_lst {xs ys : List D} {k j : Nat} (h : S.at k = some (.lst xs)) : IsIns (S.put k (.lst ys)) j ↔ IsIns S j := by
  constructor
  · rintro ⟨c, fs, e⟩
    rw [Sto.put_at _ _ _ _ (Sto.at_lt h)] at e
    by_cases hj : j = k
    · rw [if_pos hj] at e; cases e
    · rw [if_neg hj] at e; exact ⟨c, fs, e⟩
  · rintro ⟨c, fs, e⟩
    refine ⟨c, fs, ?_⟩
    rw [Sto.put_at _ _ _ _ (Sto.at_lt h), if_neg (fun z => by rw [z, h] at e; cases e)]
    exact e
theorem live_put {o u : O} {k j : Nat} (h : S.at k = some u) : Live (S.put k o) j ↔ Live S j := by
  constructor
  · rintro ⟨v, e⟩
    rw [Sto.put_at _ _ _ _ (Sto.at_lt h)] at e
    by_cases hj : j = k
    · rw [hj]; exact ⟨u, h⟩
    · rw [if_neg hj] at e; exact ⟨v, e⟩
  · rintro ⟨v, e⟩
    by_cases hj : j = k
    · exact ⟨o, by rw [Sto.put_at _ _ _ _ (Sto.at_lt h), if_pos hj]⟩
    · exact ⟨v, by rw [Sto.put_at _ _ _ _ (Sto.at_lt h), if_neg hj]; exact e⟩
theorem Step.putL (R : Rep G r S H) {k : Nat} {xs ys : List D} {u : HO} (h : S.at k = some (.lst xs)) : Step r S H r (S.put k (.lst ys)) (upd H (r.a k) u) where
  live := fun j z => ⟨(live_put h).mpr z, rfl⟩
  insd := fun j z => ⟨(isIns_put_lst h).mpr z, rfl⟩
  keep := fun b o z n => by
    rw [upd_ne (fun e => n ⟨k, .inl ⟨⟨_, h⟩, e⟩⟩)]; exact z
  new := fun b ⟨j, z⟩ => by
    rcases z with ⟨z, e⟩ | ⟨z, e⟩
    · exact .inl ⟨j, .inl ⟨(live_put h).mp z, e⟩⟩
    · exact .inl ⟨j, .inr ⟨(isIns_put_lst h).mp z, e⟩⟩
theorem Rep.putL (R : Rep G r S H) {k : Nat} {xs ys : List D} {vs : List V} (h : S.at k = some (.lst xs)) (hy : RDs G r S H ys vs) : Rep G r (S.put k (.lst ys)) (upd H (r.a k) (.lst vs)) := by
  have s := Step.putL R (ys := ys) (u := .lst vs) h
  refine ⟨fun j o e => ?_, fun i j hi hj e => R.inj i j ((live_put h).mp hi) ((live_put h).mp hj) e, fun i j hi hj e => R.ad i j ((live_put h).mp hi) ((isIns_put_lst h).mp hj) e, fun i j hi hj e => R.dd i j ((isIns_put_lst h).mp hi) ((isIns_put_lst h).mp hj) e⟩
  rw [Sto.put_at _ _ _ _ (Sto.at_lt h)] at e
  by_cases hj : j = k
  · subst hj
    rw [if_pos rfl] at e
    cases e
    exact ⟨vs, upd_same, RDs.step R s hy⟩
  · rw [if_neg hj] at e
    have h1 : r.a j ≠ r.a k := fun z => hj (R.inj j k ⟨_, e⟩ ⟨_, h⟩ z)
    refine RO.mono R s rfl (fun u z => by rw [upd_ne h1]; exact z) (fun c fs eo => ⟨rfl, fun u z => ?_⟩) (R.obj j o e)
    rw [upd_ne (fun z => R.ad k j ⟨_, h⟩ ⟨c, fs, by rw [e, eo]⟩ z.symm)]
    exact z
end
end Pv
/-! Pv3: the constructs: what they do with plain data, and that the model does so. -/
namespace Pv
open PySem PySem.Spec PyProof.Rows L2

def bnd {α β : Type} (x : Option (α × Sto)) (f : α → Sto → Option β) : Option β := match x with
  | some (a, S) => f a S
  | none => none
theorem bnd_some {α β : Type} {x : Option (α × Sto)} {f : α → Sto → Option β} {y : β} (h : bnd x f = some y) : ∃ a S, x = some (a, S) ∧ f a S = some y := by
  cases x with
  | none => cases h
  | some p => exact ⟨p.1, p.2, rfl, h⟩
def gua {β : Type} (b : Bool) (x : Option β) : Option β := match b with
  | true => x
  | false => none
theorem gua_some {β : Type} {b : Bool} {x : Option β} {y : β} (h : gua b x = some y) : b = true ∧ x = some y := by
  cases b with
  | true => exact ⟨rfl, h⟩
  | false => cases h
def fits (n : Nat) : Bool := Nat.ble n 100000
theorem fits_le {n : Nat} (h : fits n = true) : n ≤ sizeLine := Nat.le_trans (Nat.le_of_ble_eq_true h) (by decide)
theorem fits_lt {n : Nat} (h : fits n = true) : n < sizeLine := Nat.lt_of_le_of_lt (Nat.le_of_ble_eq_true h) (by decide)

section
variable {X : Cx} {G : Gx}

/-! ### names, constants -/
def vVar (i : Nat) : EvE := fun env S => match env[i]? with
  | some (some d) => some (d, S)
  | _ => none
theorem pVar {i : Nat} {x : Str} {pos : Pos} (h : PE X (.Name x pos) (tVar i)) : PE X (.Name x pos) (rdE G (vVar i)) := h.imp fun σ H Q ⟨r, env, S, d, S', hs, e, p⟩ => by
  unfold vVar at e
  split at e
  · rename_i d' hd
    cases e
    obtain ⟨v, h1, h2⟩ := hs.env.at_ i d hd
    exact ⟨v, h1, p r H v (Step.refl _ _ _) hs.rep h2⟩
  · cases e
def vCon (d : D) : EvE := fun _ S => some (d, S)
theorem pCon {e : Expr} {v : V} {d : D} (h : PE X e (tC v)) (hd : ∀ r S H, RD G r S H d v) : PE X e (rdE G (vCon d)) := h.imp fun σ H Q ⟨r, env, S, d', S', hs, e, p⟩ => by
  cases e
  exact p r H v (Step.refl _ _ _) hs.rep (hd _ _ _)
theorem pInt {i : Int} {j : Nat} {pos : Pos} : PE X (.Constant (.int i) j pos) (rdE G (vCon (.int i))) := pCon pe_int fun _ _ _ => .int i
theorem pBl {b : Bool} {j : Nat} {pos : Pos} : PE X (.Constant (.bool b) j pos) (rdE G (vCon (.bl b))) := pCon pe_bl fun _ _ _ => .bl b
theorem pNon {j : Nat} {pos : Pos} : PE X (.Constant .none j pos) (rdE G (vCon .non)) := pCon pe_non fun _ _ _ => .non
theorem pStr {x : Str} {l : List Nat} {j : Nat} {pos : Pos} (hx : x = ⟨l.toArray⟩) : PE X (.Constant (.str x) j pos) (rdE G (vCon (.str l))) := pCon pe_str fun _ _ _ => by rw [hx]; exact .str l

/-! ### displays -/
def vNil : EvA := fun _ S => some ([], S)
def vCons (f : EvE) (g : EvA) : EvA := fun env S => bnd (f env S) fun d S => bnd (g env S) fun ds S => some (d :: ds, S)
theorem pNil : PA X [] (rdA G vNil) := pa_nil.imp fun σ H Q ⟨r, env, S, d, S', hs, e, p⟩ => by
  cases e
  exact p r H [] (Step.refl _ _ _) hs.rep .nil
theorem tCons_of {f : EvE} {g : EvA} {σ : L2.St} {H : Hp} {Q : List V → Hp → Prop} (h : rdA G (vCons f g) σ H Q) : tCons (rdE G f) (rdA G g) σ H Q := by
  obtain ⟨r, env, S, d, S', hs, e, p⟩ := h
  obtain ⟨d1, S1, e1, e⟩ := bnd_some e
  obtain ⟨ds, S2, e2, e⟩ := bnd_some e
  cases e
  exact ⟨r, env, S, d1, S1, hs, e1, fun r1 H1 v s1 R1 h1 => rdA_next hs s1 R1 e2 fun r2 H2 vs s2 R2 h2 => p r2 H2 (v :: vs) (s1.trans s2) R2 (.cons (h1.step R1 s2) h2)⟩
theorem pCons {a : Expr} {es : List Expr} {f : EvE} {g : EvA} (ha : PE X a (rdE G f)) (hr : PA X es (rdA G g)) (hs : starEach (a :: es) X.env = (false, eval a X.env) :: starEach es X.env := by rfl) : PA X (a :: es) (rdA G (vCons f g)) :=
  (pa_cons ha hr hs).imp fun _ _ _ h => tCons_of h
def vTup (f : EvA) : EvE := fun env S => bnd (f env S) fun ds S => gua (fits ds.length) (some (.tup ds, S))
theorem pTup {es : List Expr} {f : EvA} {pos : Pos} {x1} (h : PA X es (rdA G f)) : PE X (.Tuple es x1 pos) (rdE G (vTup f)) := (pe_tup h).imp fun σ H Q ⟨r, env, S, d, S', hs, e, p⟩ => by
  obtain ⟨ds, S1, e1, e⟩ := bnd_some e
  obtain ⟨hf, e⟩ := gua_some e
  cases e
  refine ⟨r, env, S, ds, _, hs, e1, fun r1 H1 vs s1 R1 h1 => ⟨by rw [← h1.length]; exact fits_le hf, fun a hn => ?_⟩⟩
  exact p r1 _ _ (s1.trans (Step.tup hn)) (R1.tup hn) (.tup (SqT.of upd_same) (RDs.step R1 (Step.tup hn) h1))
def vLst (f : EvA) : EvE := fun env S => bnd (f env S) fun ds S => gua (fits ds.length) (some (.obj S.n, S.new (.lst ds)))
theorem PoE.newL {r : Loc2} {S : Sto} {H : Hp} {S0 : Sto} {r0 : Loc2} {H0 : Hp} {Q : VK} {ds : List D} {vs : List V} {a : Addr} (R : Rep G r S H) (s0 : Step r0 S0 H0 r S H) (p : PoE G r0 S0 H0 (.obj S.n) (S.new (.lst ds)) Q) (hn : H a = none) (hd : RDs G r S H ds vs) : Q (.ref a) (upd H a (.lst vs)) := by
  have q := p (r.put S.n a (r.d S.n)) (upd H a (.lst vs)) (.ref a) (s0.trans (Step.newL R hn)) (R.newL hn hd) (by
    have z := RD.obj (G := G) (r := r.put S.n a (r.d S.n)) (S := S.new (.lst ds)) (H := upd H a (.lst vs)) S.n ⟨_, at_new_new⟩
    rw [put_a_same] at z
    exact z)
  exact q
theorem pLst {es : List Expr} {f : EvA} {pos : Pos} (h : PA X es (rdA G f)) : PE X (.List es pos) (rdE G (vLst f)) := (pe_lst h).imp fun σ H Q ⟨r, env, S, d, S', hs, e, p⟩ => by
  obtain ⟨ds, S1, e1, e⟩ := bnd_some e
  obtain ⟨hf, e⟩ := gua_some e
  cases e
  refine ⟨r, env, S, ds, _, hs, e1, fun r1 H1 vs s1 R1 h1 => ⟨by rw [← h1.length]; exact fits_le hf, fun a hn => ?_⟩⟩
  exact PoE.newL R1 s1 p hn h1

/-! ### two values, one operation -/
/-- an operation on data -/
abbrev Op2 := D → D → Sto → Option (D × Sto)
def vOp2 (o : Op2) (f g : EvE) : EvE := fun env S => bnd (f env S) fun x S => bnd (g env S) fun y S => o x y S
/-- .. and what of it holds in the abstract heap -/
def OkOp (G : Gx) (o : Op2) (rr : R2) : Prop := ∀ r S H x y d S' u v Q, Rep G r S H → RD G r S H x u → RD G r S H y v → o x y S = some (d, S') → PoE G r S H d S' Q → rr u v H Q
theorem tOp_of {o : Op2} {rr : R2} (ok : OkOp G o rr) {f g : EvE} {σ : L2.St} {H : Hp} {Q : VK} (h : rdE G (vOp2 o f g) σ H Q) : tOp rr (rdE G f) (rdE G g) σ H Q := by
  obtain ⟨r, env, S, d, S', hs, e, p⟩ := h
  obtain ⟨x, S1, e1, e⟩ := bnd_some e
  obtain ⟨y, S2, e2, e⟩ := bnd_some e
  exact ⟨r, env, S, x, S1, hs, e1, fun r1 H1 v s1 R1 h1 => rdE_next hs s1 R1 e2 fun r2 H2 w s2 R2 h2 => ok r2 S2 H2 x y d S' v w Q R2 (h1.step R1 s2) h2 e (p.after (s1.trans s2))⟩
/-- a[b] -/
def oIx : Op2 := fun x y S => match x, y with
  | .tup xs, .int i => (match atI xs i with
    | some d => some (d, S)
    | none => none)
  | .obj k, .int i => (match S.at k with
    | some (.lst xs) => (match atI xs i with
      | some d => some (d, S)
      | none => none)
    | _ => none)
  | _, _ => none
theorem atI_rel {r : Loc2} {S : Sto} {H : Hp} {xs : List D} {vs : List V} {i : Int} {d : D} (h : RDs G r S H xs vs) (e : atI xs i = some d) : ∃ v, atI vs i = some v ∧ RD G r S H d v := by
  unfold atI at e ⊢
  rw [← h.length]
  cases q : ixN xs.length i with
  | none => rw [q] at e; cases e
  | some j =>
    rw [q] at e
    exact h.get e
theorem ok_ix : OkOp G oIx (rIx G.K) := fun r S H x y d S' u v Q R hx hy e p => by
  unfold oIx at e
  split at e
  · rename_i xs i
    cases hy
    cases hx with
    | tup hq ht =>
      split at e
      · rename_i d' hd
        cases e
        obtain ⟨w, h1, h2⟩ := atI_rel ht hd
        exact .inr (.inl ⟨_, _, _, w, rfl, rfl, hq, h1, p r H w (Step.refl _ _ _) R h2⟩)
      · cases e
  · rename_i k i
    cases hy
    cases hx
    split at e
    · rename_i xs hk
      split at e
      · rename_i d' hd
        cases e
        obtain ⟨vs, hl, ht⟩ := R.obj k _ hk
        obtain ⟨w, h1, h2⟩ := atI_rel ht hd
        exact .inl ⟨_, _, _, w, rfl, rfl, SqL.of hl, h1, p r H w (Step.refl _ _ _) R h2⟩
      · cases e
    · cases e
  · cases e
theorem pIx {a b : Expr} {f g : EvE} {pos : Pos} (ha : PE X a (rdE G f)) (hb : PE X b (rdE G g)) (hs : PlainIx b := by exact fun _ _ => rfl) (hK : X.K = G.K := by rfl) : PE X (.Subscript a b pos) (rdE G (vOp2 oIx f g)) :=
  (pe_ix ix_seq ha hb hs).imp fun σ H Q h => by
    rw [hK]
    exact tOp_of ok_ix h

/-! ### calls of defs -/
def vCall (fn : EvF) (f : EvA) : EvE := fun env S => bnd (f env S) fun ds S => fn ds S
theorem rdCall_of {fn : EvF} {f : EvA} {σ : L2.St} {H : Hp} {Q : VK} {E : XK} (h : rdE G (vCall fn f) σ H Q) : tCall (spF G fn) [] E (rdA G f) σ H Q := by
  obtain ⟨r, env, S, d, S', hs, e, p⟩ := h
  obtain ⟨ds, S1, e1, e⟩ := bnd_some e
  refine ⟨r, env, S, ds, S1, hs, e1, fun r1 H1 vs s1 R1 h1 => ?_⟩
  exact ⟨r1, ds, S1, d, S', R1, by rw [List.append_nil]; exact h1, e, p.after s1⟩
theorem pe_callR {CX : CXT} {k : Nat} {f : Addr} {sp : Sp} {E : XK} {x : Str} {p pos : Pos} {e : Expr} {es : List Expr} {t : TA} (F : FnR X.prog X.w X.K X.mg X.base CX k f sp) (hr : Room k X.A) (hg : Gl X x) (hm : X.mg x = some (.ref f)) (hk : PySem.W.keepIn X.K (.ref f) = true) (hx : Passes CX X E)
    (ha : PA X (e :: es) t) (hdb : (x == ("__debug__" : Str)) = false := by decide) (he : starEach (e :: es) X.env = (false, eval e X.env) :: starEach es X.env := by rfl) (hpl : (backTo pos (starEach es X.env)).any (·.1) = false := by rfl) :
    PE X (.Call (.Name x p) (e :: es) [] pos) (tCall sp [] E t) := by
  refine ⟨fun pins s σ H Q I h => ?_⟩
  refine wpAny_Call_Name_kw (ld_glob I hg hm ?_ hdb)
  refine PySem.W.callWith_K (h₀ := X.base) I.ok.mod.kin hk (thn (ha.run pos pins s σ H _ I h) fun us s1 ⟨vs, H1, I1, r, q⟩ => ⟨I1.kIn, ?_⟩) he hpl
  have q : sp (vs ++ []) H1 Q E := q
  rw [List.append_nil] at q
  exact wpAny_call (run_fnR F hr hx I1 r q)
theorem pCall {k : Nat} {fa : Addr} {fn : EvF} {x : Str} {p pos : Pos} {e : Expr} {es : List Expr} {f : EvA} (F : FnR X.prog X.w X.K X.mg X.base CX0 k fa (spF G fn)) (hr : Room k X.A) (hg : Gl X x) (hm : X.mg x = some (.ref fa)) (hk : PySem.W.keepIn X.K (.ref fa) = true)
    (ha : PA X (e :: es) (rdA G f)) (hdb : (x == ("__debug__" : Str)) = false := by decide) (he : starEach (e :: es) X.env = (false, eval e X.env) :: starEach es X.env := by rfl) (hpl : (backTo pos (starEach es X.env)).any (·.1) = false := by rfl) :
    PE X (.Call (.Name x p) (e :: es) [] pos) (rdE G (vCall fn f)) :=
  (pe_callR (E := E0) F hr hg hm hk pass0 ha hdb he hpl).imp fun σ H Q h => rdCall_of h
end
end Pv
/-! Pv4: statements, tests, loops, comprehensions, defs. -/
namespace Pv
open PySem PySem.Spec PyProof.Rows L2
section
variable {X : Cx} {G : Gx}

/-! ### statements -/
def vRet (f : EvE) : EvS := fun env S => bnd (f env S) fun d S => some (.rt d S)
theorem sRet {e : Expr} {f : EvE} {pos : Pos} (h : PE X e (rdE G f)) : PS X (.Return (some e) pos) (rdS G (vRet f)) := (ps_ret h).imp fun D' σ H ⟨r, env, S, fl, hs, e, p⟩ => by
  obtain ⟨d, S1, e1, e⟩ := bnd_some e
  cases e
  exact ⟨r, env, S, d, S1, hs, e1, p⟩
def vExpr (f : EvE) : EvS := fun env S => bnd (f env S) fun _ S => some (.nx env S)
theorem sExpr {e : Expr} {f : EvE} {pos : Pos} (hp : PS X (.Expr e pos) (tDrop (rdE G f))) : PS X (.Expr e pos) (rdS G (vExpr f)) := hp.imp fun D' σ H ⟨r, env, S, fl, hs, e, p⟩ => by
  obtain ⟨d, S1, e1, e⟩ := bnd_some e
  cases e
  exact ⟨r, env, S, d, S1, hs, e1, fun r1 H1 v s1 R1 h1 => p r1 H1 σ s1 R1 (hs.env.step hs.rep s1)⟩
def vSet (i : Nat) (f : EvE) : EvS := fun env S => bnd (f env S) fun d S => some (.nx (env.set i (some d)) S)
theorem tAsg_name {i : Nat} {f : EvE} {D' : Ends} {σ : L2.St} {H : Hp} (h : rdS G (vSet i f) D' σ H) : tAsg (rdE G f) (gName i) D' σ H := by
  obtain ⟨r, env, S, fl, hs, e, p⟩ := h
  obtain ⟨d, S1, e1, e⟩ := bnd_some e
  cases e
  exact ⟨r, env, S, d, S1, hs, e1, fun r1 H1 v s1 R1 h1 => p r1 H1 _ s1 R1 ((hs.env.step hs.rep s1).set h1 i)⟩
theorem sSet {i : Nat} {s : Stmt} {f : EvE} (h : PS X s (tAsg (rdE G f) (gName i))) : PS X s (rdS G (vSet i f)) := h.imp fun _ _ _ q => tAsg_name q
def vSeq (f g : EvS) : EvS := fun env S => match f env S with
  | some (.nx env S) => g env S
  | z => z
def vSkip : EvS := fun env S => some (.nx env S)
theorem tSeq_of {f g : EvS} {D' : Ends} {σ : L2.St} {H : Hp} (h : rdS G (vSeq f g) D' σ H) : tSeq (rdS G f) (rdS G g) D' σ H := by
  obtain ⟨r, env, S, fl, hs, e, p⟩ := h
  unfold vSeq at e
  split at e
  · rename_i env1 S1 e1
    exact ⟨r, env, S, _, hs, e1, fun r1 H1 σ1 s1 R1 h1 => ⟨r1, env1, S1, fl, ⟨R1, h1⟩, e, p.after s1⟩⟩
  · rename_i hne
    refine ⟨r, env, S, fl, hs, e, ?_⟩
    cases fl with
    | nx env1 S1 => exact absurd e (hne env1 S1)
    | rt d S1 => exact p
    | bk env1 S1 => exact p
    | ct env1 S1 => exact p
theorem ssNil : PSs X [] (rdS G vSkip) := pss_nil.imp fun D' σ H ⟨r, env, S, fl, hs, e, p⟩ => by
  cases e
  exact p r H σ (Step.refl _ _ _) hs.rep hs.env
theorem ssCons {s : Stmt} {ss : List Stmt} {f g : EvS} (h : PS X s (rdS G f)) (t : PSs X ss (rdS G g)) : PSs X (s :: ss) (rdS G (vSeq f g)) := (pss_cons h t).imp fun _ _ _ q => tSeq_of q
theorem ssOne {s : Stmt} {f : EvS} (h : PS X s (rdS G f)) : PSs X [s] (rdS G f) := (pss_one h).imp fun _ _ _ q => q
def vIf (c : EvT) (f g : EvS) : EvS := fun env S => bnd (c env S) fun b S => match b with
  | true => f env S
  | false => g env S
theorem sIf {c : Expr} {a b : List Stmt} {fc : EvT} {f g : EvS} {pos : Pos} (hc : PT X c (rdT G fc)) (ha : PSs X a (rdS G f)) (hb : PSs X b (rdS G g)) : PS X (.If c a b pos) (rdS G (vIf fc f g)) := (ps_if hc ha hb).imp fun D' σ H ⟨r, env, S, fl, hs, e, p⟩ => by
  obtain ⟨d, S1, e1, e⟩ := bnd_some e
  refine ⟨r, env, S, d, S1, hs, e1, fun r1 H1 s1 R1 => ?_⟩
  cases d with
  | true => rw [if_pos rfl]; exact ⟨r1, env, S1, fl, ⟨R1, hs.env.step hs.rep s1⟩, e, p.after s1⟩
  | false => rw [if_neg Bool.false_ne_true]; exact ⟨r1, env, S1, fl, ⟨R1, hs.env.step hs.rep s1⟩, e, p.after s1⟩

/-! ### tests -/
def nonE (xs : List D) : Bool := match xs with
  | [] => false
  | _ :: _ => true
def truD (d : D) (S : Sto) : Option Bool := match d with
  | .non => some false
  | .bl b => some b
  | .int i => some (match i with | .ofNat 0 => false | _ => true)
  | .tup xs => some (nonE xs)
  | .obj k => (match S.at k with
    | some (.lst xs) => some (nonE xs)
    | _ => none)
  | _ => none
def vTru (f : EvE) : EvT := fun env S => bnd (f env S) fun d S => match truD d S with
  | some b => some (b, S)
  | none => none
theorem emp_eq {xs : List D} {vs : List V} {r : Loc2} {S : Sto} {H : Hp} (h : RDs G r S H xs vs) : nonE xs = !vs.isEmpty := by
  cases h <;> rfl
theorem truV_of {r : Loc2} {S : Sto} {H : Hp} {d : D} {v : V} {b : Bool} (R : Rep G r S H) (h : RD G r S H d v) (e : truD d S = some b) : TruV G.K v H b := by
  cases h with
  | non => cases e; rfl
  | bl b => cases e; rfl
  | int i =>
    cases e
    show _ = (i != 0)
    cases i with
    | ofNat n => cases n <;> rfl
    | negSucc n => rfl
  | str x => cases e
  | tup hq ht =>
    have e' : some (nonE _) = some b := e
    rw [emp_eq ht] at e'
    cases e'
    exact .inr (.inl ⟨_, hq, rfl⟩)
  | obj k hl =>
    unfold truD at e
    dsimp only at e
    split at e
    · rename_i xs hk
      obtain ⟨vs, h1, h2⟩ := R.obj k _ hk
      rw [emp_eq h2] at e
      cases e
      exact .inl ⟨_, SqL.of h1, rfl⟩
    · cases e
  | ty t => cases e
  | cls c => cases e
  | scr _ => cases e
theorem tTru_of {f : EvE} {σ : L2.St} {H : Hp} {Q : Bool → Hp → Prop} (h : rdT G (vTru f) σ H Q) : rdE G f σ H (fun x H' => ∃ k, TruV G.K x H' k ∧ Q k H') := by
  obtain ⟨r, env, S, d, S', hs, e, p⟩ := h
  obtain ⟨x, S1, e1, e⟩ := bnd_some e
  split at e
  · rename_i b hb
    cases e
    exact ⟨r, env, S, x, _, hs, e1, fun r1 H1 v s1 R1 h1 => ⟨_, truV_of R1 h1 hb, p r1 H1 s1 R1⟩⟩
  · cases e
theorem qTru {a : Expr} {f : EvE} (ha : PE X a (rdE G f)) (he : ∀ whole, isTrue a X.env whole = (do let v ← whole; standAt a.pos; holding [v] (truthy v)) := by intro _; rfl) (hK : X.K = G.K := by rfl) : PT X a (rdT G (vTru f)) :=
  (pt_truth ha he).imp fun σ H Q h => by
    rw [hK]
    exact tTru_of h
def vNotT (c : EvT) : EvT := fun env S => bnd (c env S) fun b S => some (!b, S)
theorem qNot {a : Expr} {c : EvT} {pos : Pos} (h : PT X a (rdT G c)) : PT X (.UnaryOp .Not a pos) (rdT G (vNotT c)) := (pt_not h).imp fun σ H Q ⟨r, env, S, d, S', hs, e, p⟩ => by
  obtain ⟨b, S1, e1, e⟩ := bnd_some e
  cases e
  exact ⟨r, env, S, b, _, hs, e1, p⟩
def vAndT (c d : EvT) : EvT := fun env S => bnd (c env S) fun b S => match b with
  | true => d env S
  | false => some (false, S)
def vOrT (c d : EvT) : EvT := fun env S => bnd (c env S) fun b S => match b with
  | true => some (true, S)
  | false => d env S
theorem wAnd1 {a : Expr} {c : EvT} {pos : Pos} (h : PT X a (rdT G c)) : PW X (.BoolOp .And [a] pos) (rdT G c) := pw_and1 h
theorem wOr1 {a : Expr} {c : EvT} {pos : Pos} (h : PT X a (rdT G c)) : PW X (.BoolOp .Or [a] pos) (rdT G c) := pw_or1 h
theorem _root_.L2.PW.imp {X : Cx} {e : Expr} {t t' : TT} (h : PW X e t) (i : ∀ σ H Q, t' σ H Q → t σ H Q) : PW X e t' := ⟨fun wh pins s σ H Q I q => h.run wh pins s σ H Q I (i σ H Q q)⟩
theorem wAnd {a b : Expr} {rest : List Expr} {c d : EvT} {pos : Pos} (ha : PT X a (rdT G c)) (hb : PW X (.BoolOp .And (b :: rest) pos) (rdT G d)) : PW X (.BoolOp .And (a :: b :: rest) pos) (rdT G (vAndT c d)) := (pw_and ha hb).imp fun σ H Q ⟨r, env, S, z, S', hs, e, p⟩ => by
  obtain ⟨x, S1, e1, e⟩ := bnd_some e
  refine ⟨r, env, S, x, S1, hs, e1, fun r1 H1 s1 R1 => ?_⟩
  cases x with
  | true => rw [if_pos rfl]; exact ⟨r1, env, S1, z, S', ⟨R1, hs.env.step hs.rep s1⟩, e, p.after s1⟩
  | false => rw [if_neg Bool.false_ne_true]; cases e; exact p r1 H1 s1 R1
theorem wOr {a b : Expr} {rest : List Expr} {c d : EvT} {pos : Pos} (ha : PT X a (rdT G c)) (hb : PW X (.BoolOp .Or (b :: rest) pos) (rdT G d)) : PW X (.BoolOp .Or (a :: b :: rest) pos) (rdT G (vOrT c d)) := (pw_or ha hb).imp fun σ H Q ⟨r, env, S, z, S', hs, e, p⟩ => by
  obtain ⟨x, S1, e1, e⟩ := bnd_some e
  refine ⟨r, env, S, x, S1, hs, e1, fun r1 H1 s1 R1 => ?_⟩
  cases x with
  | true => rw [if_pos rfl]; cases e; exact p r1 H1 s1 R1
  | false => rw [if_neg Bool.false_ne_true]; exact ⟨r1, env, S1, z, S', ⟨R1, hs.env.step hs.rep s1⟩, e, p.after s1⟩
/-- a comparison: as a value, as a test -/
def OkC (G : Gx) (o : Op2) (rr : R2) : Prop := OkOp G o rr
def vCmpT (o : Op2) (f g : EvE) : EvT := fun env S => bnd (vOp2 o f g env S) fun d S => match d with
  | .bl b => some (b, S)
  | _ => none
theorem pCmp {a b : Expr} {op : CmpOp} {o : Op2} {rr : R2} {f g : EvE} {pos : Pos} (ho : OpR X (compareOp op) rr) (ok : OkOp G o rr) (ha : PE X a (rdE G f)) (hb : PE X b (rdE G g)) (hm : behindInMarks op b = false) : PE X (.Compare a [op] [b] pos) (rdE G (vOp2 o f g)) :=
  (pe_cmpR ho ha hb hm).imp fun σ H Q h => tOp_of ok h
theorem qCmp {a b : Expr} {op : CmpOp} {o : Op2} {rr : R2} {f g : EvE} {pos : Pos} (ho : OpR X (compareOp op) rr) (ok : OkOp G o rr) (ha : PE X a (rdE G f)) (hb : PE X b (rdE G g)) (hm : behindInMarks op b = false) : PT X (.Compare a [op] [b] pos) (rdT G (vCmpT o f g)) :=
  (pt_cmpR ho ha hb hm).imp fun σ H Q ⟨r, env, S, z, S', hs, e, p⟩ => by
    obtain ⟨d, S1, e1, e⟩ := bnd_some e
    split at e
    · rename_i b'
      cases e
      refine tOp_of ok ⟨r, env, S, _, _, hs, e1, fun r1 H1 v s1 R1 h1 => ?_⟩
      cases h1
      exact ⟨_, rfl, p r1 H1 s1 R1⟩
    · cases e
/-- values: and, or, not of truths -/
def asB (d : D) : Option Bool := match d with
  | .bl b => some b
  | _ => none
def vAndV (f g : EvE) : EvE := fun env S => bnd (f env S) fun d S => match d with
  | .bl true => g env S
  | .bl false => some (.bl false, S)
  | _ => none
def vOrV (f g : EvE) : EvE := fun env S => bnd (f env S) fun d S => match d with
  | .bl true => some (.bl true, S)
  | .bl false => g env S
  | _ => none
def vNotV (f : EvE) : EvE := fun env S => bnd (f env S) fun d S => match d with
  | .bl b => some (.bl (!b), S)
  | _ => none
theorem pAnd {a b : Expr} {rest : List Expr} {f g : EvE} {pos : Pos} (ha : PE X a (rdE G f)) (hb : PE X (.BoolOp .And (b :: rest) pos) (rdE G g)) : PE X (.BoolOp .And (a :: b :: rest) pos) (rdE G (vAndV f g)) := (pe_and ha hb).imp fun σ H Q ⟨r, env, S, z, S', hs, e, p⟩ => by
  obtain ⟨x, S1, e1, e⟩ := bnd_some e
  refine ⟨r, env, S, x, S1, hs, e1, fun r1 H1 v s1 R1 h1 => ?_⟩
  split at e
  · cases h1
    exact ⟨true, rfl, by rw [if_pos rfl]; exact ⟨r1, env, S1, z, S', ⟨R1, hs.env.step hs.rep s1⟩, e, p.after s1⟩⟩
  · cases h1
    cases e
    exact ⟨false, rfl, by rw [if_neg Bool.false_ne_true]; exact p r1 H1 _ s1 R1 (.bl false)⟩
  · cases e
theorem pOr {a b : Expr} {rest : List Expr} {f g : EvE} {pos : Pos} (ha : PE X a (rdE G f)) (hb : PE X (.BoolOp .Or (b :: rest) pos) (rdE G g)) : PE X (.BoolOp .Or (a :: b :: rest) pos) (rdE G (vOrV f g)) := (pe_or ha hb).imp fun σ H Q ⟨r, env, S, z, S', hs, e, p⟩ => by
  obtain ⟨x, S1, e1, e⟩ := bnd_some e
  refine ⟨r, env, S, x, S1, hs, e1, fun r1 H1 v s1 R1 h1 => ?_⟩
  split at e
  · cases h1
    cases e
    exact ⟨true, rfl, by rw [if_pos rfl]; exact p r1 H1 _ s1 R1 (.bl true)⟩
  · cases h1
    exact ⟨false, rfl, by rw [if_neg Bool.false_ne_true]; exact ⟨r1, env, S1, z, S', ⟨R1, hs.env.step hs.rep s1⟩, e, p.after s1⟩⟩
  · cases e
theorem pOne {a : Expr} {op : BoolOp} {f : EvE} {pos : Pos} (ha : PE X a (rdE G f)) : PE X (.BoolOp op [a] pos) (rdE G f) := pe_one ha
theorem pNot {a : Expr} {f : EvE} {pos : Pos} (ha : PE X a (rdE G f)) : PE X (.UnaryOp .Not a pos) (rdE G (vNotV f)) := (pe_not ha).imp fun σ H Q ⟨r, env, S, z, S', hs, e, p⟩ => by
  obtain ⟨x, S1, e1, e⟩ := bnd_some e
  refine ⟨r, env, S, x, S1, hs, e1, fun r1 H1 v s1 R1 h1 => ?_⟩
  split at e
  · cases h1
    cases e
    exact ⟨_, rfl, p r1 H1 _ s1 R1 (.bl _)⟩
  · cases e

/-! ### what is walked -/
inductive Src where
  | tup (xs : List D)
  | lst (k : Nat)
  | rng (lo : Int) (n : Nat)
/-- none: stuck; some none: at the end -/
def Src.item (q : Src) (i : Nat) (S : Sto) : Option (Option D) := match q with
  | .tup xs => some xs[i]?
  | .lst k => (match S.at k with
    | some (.lst xs) => some xs[i]?
    | _ => none)
  | .rng lo n => some (match Nat.blt i n with
    | true => some (.int (lo + i))
    | false => none)
abbrev EvI := En → Sto → Option (Src × Sto)
/-- the walk J serves q -/
structure Serves (G : Gx) (q : Src) (J : It) (r0 : Loc2) (S0 : Sto) (H0 : Hp) : Prop where
  stop : ∀ i r S H, Step r0 S0 H0 r S H → Rep G r S H → q.item i S = some none → J.stop i H
  go : ∀ i r S H d, Step r0 S0 H0 r S H → Rep G r S H → q.item i S = some (some d) → J.go i H ∧ ∀ x H', J.yld i H x H' → H' = H ∧ RD G r S H d x
def rdI (G : Gx) (ev : EvI) : TI := fun σ H R => ∃ r env S q S', Sim G r S H env σ ∧ ev env S = some (q, S') ∧ ∀ r' H' J, Step r S H r' S' H' → Rep G r' S' H' → Serves G q J r' S' H' → R J H'
def vIter (f : EvE) : EvI := fun env S => bnd (f env S) fun d S => match d with
  | .tup xs => some (.tup xs, S)
  | .obj k => (match S.at k with
    | some (.lst _) => some (.lst k, S)
    | _ => none)
  | _ => none
theorem serves_tup {r : Loc2} {S : Sto} {H : Hp} {xs : List D} {vs : List V} {a : Addr} (R : Rep G r S H) (hq : SqT G.K H a vs) (ht : RDs G r S H xs vs) : Serves G (.tup xs) (Itt G.K a) r S H where
  stop := fun i r1 S1 H1 s1 R1 e => ⟨vs, SqT.step R s1 hq, by
    have e : xs[i]? = none := Option.some.inj e
    rw [← ht.length]; exact List.getElem?_eq_none_iff.mp e⟩
  go := fun i r1 S1 H1 d s1 R1 e => by
    have e : xs[i]? = some d := Option.some.inj e
    obtain ⟨v, h1, h2⟩ := ht.get e
    have hq1 := SqT.step R s1 hq
    refine ⟨⟨vs, v, hq1, h1⟩, fun x H' y => ⟨y.1, ?_⟩⟩
    have := y.2 vs hq1
    rw [h1] at this
    cases this
    exact h2.step R s1
theorem serves_lst {r : Loc2} {S : Sto} {H : Hp} {k : Nat} {xs : List D} (R : Rep G r S H) (hk : S.at k = some (.lst xs)) : Serves G (.lst k) (Itl G.K (r.a k)) r S H where
  stop := fun i r1 S1 H1 s1 R1 e => by
    unfold Src.item at e
    dsimp only at e
    split at e
    · rename_i ys hy
      obtain ⟨vs, h1, h2⟩ := R1.obj k _ hy
      rw [(s1.live k ⟨_, hk⟩).2] at h1
      have e : ys[i]? = none := Option.some.inj e
      exact ⟨vs, SqL.of h1, by rw [← h2.length]; exact List.getElem?_eq_none_iff.mp e⟩
    · cases e
  go := fun i r1 S1 H1 d s1 R1 e => by
    unfold Src.item at e
    dsimp only at e
    split at e
    · rename_i ys hy
      obtain ⟨vs, h1, h2⟩ := R1.obj k _ hy
      rw [(s1.live k ⟨_, hk⟩).2] at h1
      have e : ys[i]? = some d := Option.some.inj e
      obtain ⟨v, g1, g2⟩ := h2.get e
      refine ⟨⟨vs, v, SqL.of h1, g1⟩, fun x H' y => ⟨y.1, ?_⟩⟩
      have := y.2 vs (SqL.of h1)
      rw [g1] at this
      cases this
      exact g2
    · cases e
theorem serves_rng {r : Loc2} {S : Sto} {H : Hp} {lo : Int} {n : Nat} : Serves G (.rng lo n) (Itr lo n) r S H where
  stop := fun i r1 S1 H1 s1 R1 e => by
    unfold Src.item at e
    dsimp only at e
    cases hb : Nat.blt i n with
    | true => rw [hb] at e; cases e
    | false =>
      show n ≤ i
      rcases Nat.lt_or_ge i n with h | h
      · rw [show Nat.blt i n = true from Nat.ble_eq_true_of_le h] at hb; cases hb
      · exact h
  go := fun i r1 S1 H1 d s1 R1 e => by
    unfold Src.item at e
    dsimp only at e
    cases hb : Nat.blt i n with
    | true =>
      rw [hb] at e
      cases e
      refine ⟨Nat.le_of_ble_eq_true hb, fun x H' y => ⟨y.1, ?_⟩⟩
      rw [y.2]
      exact .int _
    | false => rw [hb] at e; cases e
end
end Pv
/-! Pv5: for, comprehensions, defs. -/
namespace Pv
open PySem PySem.Spec PyProof.Rows L2
section
variable {X : Cx} {G : Gx}

theorem _root_.L2.PI.imp {tg iter : Expr} {w w' : TI} (h : PI X tg iter w) (i : ∀ σ H R, w' σ H R → w σ H R) : PI X tg iter w' := ⟨fun pins s σ H R I q => h.run pins s σ H R I (i σ H R q)⟩
theorem _root_.L2.PI.or {tg iter : Expr} {w w' : TI} (h : PI X tg iter w) (h' : PI X tg iter w') : PI X tg iter (fun σ H R => w σ H R ∨ w' σ H R) := ⟨fun pins s σ H R I q => by
  rcases q with q | q
  · exact h.run pins s σ H R I q
  · exact h'.run pins s σ H R I q⟩
theorem iVal {tg e : Expr} {f : EvE} (h : PE X e (rdE G f)) (hK : X.K = G.K := by rfl) : PI X tg e (rdI G (vIter f)) :=
  ((pi_list h).or (pi_tup h)).imp fun σ H R ⟨r, env, S, q, S', hs, e, p⟩ => by
    rw [hK]
    obtain ⟨d, S1, e1, e⟩ := bnd_some e
    split at e
    · rename_i xs
      cases e
      refine .inr ⟨r, env, S, _, _, hs, e1, fun r1 H1 v s1 R1 h1 => ?_⟩
      cases h1 with
      | tup hq ht => exact ⟨_, rfl, ⟨_, hq⟩, p r1 H1 _ s1 R1 (serves_tup R1 hq ht)⟩
    · rename_i k
      split at e
      · rename_i xs hk
        cases e
        refine .inl ⟨r, env, S, _, _, hs, e1, fun r1 H1 v s1 R1 h1 => ?_⟩
        cases h1
        obtain ⟨vs, g1, g2⟩ := R1.obj k _ hk
        exact ⟨_, rfl, ⟨_, SqL.of g1⟩, p r1 H1 _ s1 R1 (serves_lst R1 hk)⟩
      · cases e
    · cases e
def inB (i : Int) : Bool := decide (-1000000 ≤ i) && decide (i ≤ 1000000)
theorem inB_ok {i : Int} (h : inB i = true) : -1000000 ≤ i ∧ i ≤ 1000000 := by
  unfold inB at h
  rw [Bool.and_eq_true_iff] at h
  exact ⟨of_decide_eq_true h.1, of_decide_eq_true h.2⟩
def vRange (f : EvA) : EvI := fun env S => bnd (f env S) fun ds S => match ds with
  | [.int j] => gua (inB j) (some (.rng 0 j.toNat, S))
  | _ => none
theorem iRange {tg a : Expr} {f : EvA} {p pos : Pos} (hg : Gl X "range") (hm : X.mg "range" = none) (ha : PA X [a] (rdA G f)) (hs : starEach [a] X.env = [(false, eval a X.env)] := by rfl) : PI X tg (.Call (.Name "range" p) [a] [] pos) (rdI G (vRange f)) :=
  (pi_range1 hg hm ha hs).imp fun σ H R ⟨r, env, S, q, S', hs, e, p⟩ => by
    obtain ⟨ds, S1, e1, e⟩ := bnd_some e
    split at e
    · rename_i j
      obtain ⟨hb, e⟩ := gua_some e
      cases e
      obtain ⟨b1, b2⟩ := inB_ok hb
      refine ⟨r, env, S, _, _, hs, e1, fun r1 H1 vs s1 R1 h1 => ?_⟩
      cases h1 with
      | cons h1 h2 =>
        cases h2
        cases h1
        exact ⟨_, rfl, by omega, by omega, p r1 H1 _ s1 R1 serves_rng⟩
    · cases e

/-! ### targets -/
theorem wipe_set_out {σ : L2.St} {j : Nat} {x : Option V} : ∀ {vs : List Nat}, j ∉ vs → wipe (σ.set j x) vs = (wipe σ vs).set j x
  | [], _ => rfl
  | v :: vs, h => by
    have h1 : j ≠ v := fun z => h (by rw [z]; exact List.mem_cons_self)
    have h2 : j ∉ vs := fun z => h (List.mem_cons_of_mem _ z)
    show (wipe (σ.set j x) vs).set v none = ((wipe σ vs).set v none).set j x
    rw [wipe_set_out h2, List.set_comm _ _ h1]
theorem wipe_set_in {σ : L2.St} {j : Nat} {x : Option V} : ∀ {vs : List Nat}, j ∈ vs → wipe (σ.set j x) vs = wipe σ vs
  | [], h => by cases h
  | v :: vs, h => by
    show (wipe (σ.set j x) vs).set v none = (wipe σ vs).set v none
    by_cases h2 : j ∈ vs
    · rw [wipe_set_in h2]
    · have h1 : j = v := (List.mem_cons.mp h).resolve_right h2
      subst h1
      rw [wipe_set_out h2, List.set_set]
theorem wipe_sub {σ : L2.St} {vs : List Nat} : ∀ {us : List Nat}, (∀ u ∈ us, u ∈ vs) → wipe (wipe σ us) vs = wipe σ vs
  | [], _ => rfl
  | u :: us, h => by
    show wipe ((wipe σ us).set u none) vs = _
    rw [wipe_set_in (h u List.mem_cons_self), wipe_sub fun w hw => h w (List.mem_cons_of_mem _ hw)]
theorem wipe_wipe (σ : L2.St) (vs : List Nat) : wipe (wipe σ vs) vs = wipe σ vs := wipe_sub fun _ h => h
/-- a list that is not the store's is changed -/
theorem sqt_other {H : Hp} {A : Addr} {vs ws : List V} (hA : H A = some (.lst vs)) : ∀ a xs, SqT G.K H a xs → SqT G.K (upd H A (.lst ws)) a xs := fun a xs h => by
  rcases h with (h | ⟨o, h⟩) | h
  · exact .inl (.inl (by rw [upd_ne (ne_of h hA fun z => nomatch z)]; exact h))
  · exact .inl (.inr ⟨o, by rw [upd_ne (ne_of h hA fun z => nomatch z)]; exact h⟩)
  · exact .inr h
theorem kp_other {H : Hp} {A : Addr} {vs ws : List V} (hA : H A = some (.lst vs)) : Kp G H (upd H A (.lst ws)) := ⟨sqt_other hA, fun a o u h => by rw [upd_ne (ne_of h hA fun z => nomatch z)]; exact h⟩
theorem Rep.other {r : Loc2} {S : Sto} {H : Hp} {A : Addr} {vs ws : List V} (R : Rep G r S H) (hA : H A = some (.lst vs)) (nA : ¬ Own r S A) : Rep G r S (upd H A (.lst ws)) := by
  have st := kp_other (G := G) (ws := ws) hA
  refine ⟨fun k o e => ?_, R.inj, R.ad, R.dd⟩
  have na : r.a k ≠ A := fun z => nA ⟨k, .inl ⟨⟨o, e⟩, z.symm⟩⟩
  refine RO.gen st (fun _ h => ⟨h, rfl⟩) rfl (fun u z => by rw [upd_ne na]; exact z) (fun c fs eo => ⟨rfl, fun u z => ?_⟩) (R.obj k o e)
  rw [upd_ne (fun q => nA ⟨k, .inr ⟨⟨c, fs, by rw [e, eo]⟩, q.symm⟩⟩)]
  exact z
theorem Step.other {r1 r : Loc2} {S1 S : Sto} {H1 H : Hp} {A : Addr} {u : HO} (s : Step r1 S1 H1 r S H) (hA : H1 A = none) : Step r1 S1 H1 r S (upd H A u) :=
  ⟨s.live, s.insd, fun b o h n => by rw [upd_ne (ne_of_none h hA)]; exact s.keep b o h n, s.new⟩
abbrev EvG := D → En → Option En
def rdG (G : Gx) (own : List Nat) (ev : EvG) : TG := fun v σ H Q => ∃ r env S d env', Sim G r S H env σ ∧ RD G r S H d v ∧ ev d env = some env' ∧ ∀ σ', RE G r S H env' σ' → wipe σ' own = wipe σ own → Q σ' H
theorem _root_.L2.PG.imp {tg : Expr} {t t' : TG} (h : PG X tg t) (i : ∀ v σ H Q, t' v σ H Q → t v σ H Q) : PG X tg t' := ⟨fun pins s σ H v u Q I r q => h.run pins s σ H v u Q I r (i v σ H Q q)⟩
def gSet (i : Nat) : EvG := fun d env => some (env.set i (some d))
theorem gNm {i : Nat} {own : List Nat} {tg : Expr} (h : PG X tg (gName i)) (ho : i ∈ own) : PG X tg (rdG G own (gSet i)) := h.imp fun v σ H Q ⟨r, env, S, d, env', hs, hd, e, p⟩ => by
  cases e
  exact p _ (hs.env.set hd i) (wipe_set_in ho)
/-- a tuple of names -/
def gSets : List Nat → List D → En → Option En
  | [], [], env => some env
  | i :: is, d :: ds, env => gSets is ds (env.set i (some d))
  | _, _, _ => none
def gTupl (is : List Nat) : EvG := fun d env => match d with
  | .tup xs => gSets is xs env
  | _ => none
def tgNames : List Nat → TGs
  | [] => gNil
  | i :: is => gCons (gName i) (tgNames is)
theorem gSets_of {own : List Nat} {r : Loc2} {S : Sto} {H : Hp} {Q : L2.St → Hp → Prop} : ∀ {is : List Nat} {xs : List D} {vs : List V} {env env' : En} {σ : L2.St}, (∀ i ∈ is, i ∈ own) → RE G r S H env σ → RDs G r S H xs vs → gSets is xs env = some env' →
    (∀ σ', RE G r S H env' σ' → wipe σ' own = wipe σ own → Q σ' H) → tgNames is vs σ H Q
  | [], [], _, env, _, σ, _, re, .nil, e, p => by
    cases e
    exact ⟨rfl, p σ re rfl⟩
  | i :: is, d :: ds, _, env, env', σ, ho, re, .cons h t, e, p => by
    refine ⟨_, _, rfl, ?_⟩
    refine gSets_of (fun j hj => ho j (List.mem_cons_of_mem _ hj)) (re.set h i) t e fun σ' q1 q2 => p σ' q1 ?_
    rw [q2, wipe_set_in (ho i List.mem_cons_self)]
  | [], _ :: _, _, _, _, _, _, _, .cons _ _, e, _ => by cases e
  | _ :: _, [], _, _, _, _, _, _, .nil, e, _ => by cases e
theorem gSets_len : ∀ {is : List Nat} {xs : List D} {env env' : En}, gSets is xs env = some env' → xs.length = is.length
  | [], [], _, _, _ => rfl
  | _ :: is, _ :: ds, env, env', e => congrArg Nat.succ (gSets_len (is := is) (xs := ds) e)
  | [], _ :: _, _, _, e => by cases e
  | _ :: _, [], _, _, e => by cases e
theorem gTp {is own : List Nat} {tg : Expr} (h : PG X tg (gTup X.K is.length (tgNames is))) (ho : ∀ i ∈ is, i ∈ own) (hK : X.K = G.K := by rfl) : PG X tg (rdG G own (gTupl is)) := h.imp fun v σ H Q ⟨r, env, S, d, env', hs, hd, e, p⟩ => by
  rw [hK]
  unfold gTupl at e
  split at e
  · rename_i xs
    cases hd with
    | tup hq ht => exact ⟨_, _, rfl, hq, by rw [← ht.length]; exact gSets_len e, gSets_of ho hs.env ht e p⟩
  · cases e

/-! ### for -/
def vLoop (q : Src) (g : EvG) (b : EvS) : Nat → Nat → En → Sto → Option Fl
  | 0, _, _, _ => none
  | n + 1, i, env, S => match q.item i S with
    | none => none
    | some none => some (.nx env S)
    | some (some d) => match g d env with
      | none => none
      | some env1 => match b env1 S with
        | some (.nx env2 S2) => vLoop q g b n (i + 1) env2 S2
        | some (.ct env2 S2) => vLoop q g b n (i + 1) env2 S2
        | some (.bk env2 S2) => some (.nx env2 S2)
        | z => z
def loopFuel : Nat := 1000000
def vFor (w : EvI) (g : EvG) (b : EvS) : EvS := fun env S => bnd (w env S) fun q S => vLoop q g b loopFuel 0 env S
theorem sFor {own : List Nat} {tg iter : Expr} {body : List Stmt} {w : EvI} {g : EvG} {b : EvS} {pos : Pos} (hp : PassesOwn (model X.prog X.w) X.A X.env X.xe) (hc : X.calm = true) (hi : PI X tg iter (rdI G w)) (hg : PG X tg (rdG G own g)) (hb : PSs X body (rdS G b))
    (hs : ∀ x, foldedSetIterable iter X.env x = pure x := by intro _; rfl) : PS X (.For tg iter body [] pos) (rdS G (vFor w g b)) :=
  (ps_for hp hc hi hg hb hs).imp fun D' σ H ⟨r, env, S, f, hs, e, p⟩ => by
    obtain ⟨q, S1, e1, e⟩ := bnd_some e
    refine ⟨r, env, S, q, S1, hs, e1, fun r1 H1 J s1 R1 sv => ?_⟩
    refine ⟨fun i m σ2 H2 => ∃ r2 env2 S2 f2, Step r1 S1 H1 r2 S2 H2 ∧ Sim G r2 S2 H2 env2 σ2 ∧ vLoop q g b m i env2 S2 = some f2 ∧ PoS G r2 S2 H2 D' f2, ⟨loopFuel, r1, env, S1, f, Step.refl _ _ _, ⟨R1, hs.env.step hs.rep s1⟩, e, p.after s1⟩, ?_⟩
    rintro i m σ2 H2 ⟨r2, env2, S2, f2, s2, sim2, e2, p2⟩
    cases m with
    | zero => cases e2
    | succ n =>
      unfold vLoop at e2
      cases hq : q.item i S2 with
      | none => rw [hq] at e2; cases e2
      | some o =>
        rw [hq] at e2
        cases o with
        | none =>
          cases e2
          exact .inl ⟨sv.stop i r2 S2 H2 s2 sim2.rep hq, p2 r2 H2 σ2 (Step.refl _ _ _) sim2.rep sim2.env⟩
        | some d =>
          obtain ⟨go, yl⟩ := sv.go i r2 S2 H2 d s2 sim2.rep hq
          refine .inr ⟨go, fun σ3 H3 => ∃ r3 env3 S3 f3, Step r1 S1 H1 r3 S3 H3 ∧ Sim G r3 S3 H3 env3 σ3 ∧ vLoop q g b n (i + 1) env3 S3 = some f3 ∧ PoS G r3 S3 H3 D' f3, fun σ3 H3 h3 => ⟨n, Nat.lt_succ_self n, h3⟩, fun x H' y => ?_⟩
          obtain ⟨rfl, hd⟩ := yl x H' y
          dsimp only at e2
          cases hg2 : g d env2 with
          | none => rw [hg2] at e2; cases e2
          | some env3 =>
            rw [hg2] at e2
            refine ⟨r2, env2, S2, d, env3, sim2, hd, hg2, fun σ3 re3 _ => ?_⟩
            dsimp only at e2
            cases hb2 : b env3 S2 with
            | none => rw [hb2] at e2; cases e2
            | some fl =>
              rw [hb2] at e2
              refine ⟨r2, env3, S2, fl, ⟨sim2.rep, re3⟩, hb2, ?_⟩
              cases fl with
              | nx env4 S4 => exact fun r4 H4 σ4 s4 R4 re4 => ⟨r4, env4, S4, f2, s2.trans s4, ⟨R4, re4⟩, e2, p2.after s4⟩
              | ct env4 S4 => exact fun r4 H4 σ4 s4 R4 re4 => ⟨r4, env4, S4, f2, s2.trans s4, ⟨R4, re4⟩, e2, p2.after s4⟩
              | bk env4 S4 => cases e2; exact p2
              | rt d4 S4 => cases e2; exact p2

/-! ### comprehensions -/
def wipeE (env : En) : List Nat → En
  | [] => env
  | v :: vs => (wipeE env vs).set v none
theorem RE.wipeE {r : Loc2} {S : Sto} {H : Hp} {env : En} {σ : L2.St} (h : RE G r S H env σ) : ∀ vs, RE G r S H (Pv.wipeE env vs) (L2.wipe σ vs)
  | [] => h
  | v :: vs => (RE.wipeE h vs).wipe v
def vLcs (q : Src) (g : EvG) (c : EvT) (e : EvE) (env : En) : Nat → Nat → List D → Sto → Option (List D × Sto)
  | 0, _, _, _ => none
  | n + 1, i, acc, S => match q.item i S with
    | none => none
    | some none => some (acc, S)
    | some (some d) => match g d env with
      | none => none
      | some env1 => match c env1 S with
        | none => none
        | some (false, S1) => vLcs q g c e env n (i + 1) acc S1
        | some (true, S1) => match e env1 S1 with
          | none => none
          | some (y, S2) => gua (fits acc.length) (vLcs q g c e env n (i + 1) (acc ++ [y]) S2)
def vLc (w : EvI) (g : EvG) (c : EvT) (e : EvE) (own : List Nat) : EvE := fun env S => bnd (w env S) fun q S => bnd (vLcs q g c e (wipeE env own) loopFuel 0 [] S) fun acc S => some (.obj S.n, S.new (.lst acc))
theorem tLc_of {own : List Nat} {w : EvI} {g : EvG} {c : EvT} {e : EvE} {σ : L2.St} {H : Hp} {Q : VK} (h : rdE G (vLc w g c e own) σ H Q) : tLc (rdI G w) (rdG G own g) (rdT G c) (rdE G e) own σ H Q := by
  obtain ⟨r, env, S, d, S', hs, ee, p⟩ := h
  obtain ⟨q, S1, e1, ee⟩ := bnd_some ee
  obtain ⟨acc, S2, e2, ee⟩ := bnd_some ee
  cases ee
  refine ⟨r, env, S, q, S1, hs, e1, fun r1 H1 J s1 R1 sv A hA => ?_⟩
  have nA := own_free R1 hA
  have step0 : ∀ u, Step r1 S1 H1 r1 S1 (upd H1 A u) := fun u => Step.tup hA
  refine ⟨fun i m H2 => ∃ r2 S3 ac vs, Step r1 S1 H1 r2 S3 H2 ∧ Rep G r2 S3 H2 ∧ H2 A = some (.lst vs) ∧ ¬ Own r2 S3 A ∧ RDs G r2 S3 H2 ac vs ∧ vLcs q g c e (wipeE env own) m i ac S3 = some (acc, S2),
    ⟨loopFuel, r1, S1, [], [], step0 _, R1.tup hA, upd_same, nA, .nil, e2⟩, ?_⟩
  rintro i m H2 ⟨r2, S3, ac, vs, s2, R2, hA2, nA2, hac, e3⟩
  cases m with
  | zero => cases e3
  | succ n =>
    unfold vLcs at e3
    cases hq : q.item i S3 with
    | none => rw [hq] at e3; cases e3
    | some o =>
      rw [hq] at e3
      cases o with
      | none =>
        cases e3
        refine .inl ⟨sv.stop i r2 _ H2 s2 R2 hq, ?_⟩
        -- the list that was made is taken into the store
        have st : Step r1 S1 H1 (r2.put S2.n A (r2.d S2.n)) (S2.new (.lst acc)) H2 := by
          refine ⟨fun k h => ?_, fun k h => ?_, s2.keep, fun b hb => ?_⟩
          · obtain ⟨h1, h2⟩ := s2.live k h
            exact ⟨live_new.mpr (.inl h1), by rw [put_a_ne (Nat.ne_of_lt (live_lt h1))]; exact h2⟩
          · obtain ⟨h1, h2⟩ := s2.insd k h
            exact ⟨isIns_new_lst.mpr h1, by rw [put_d_ne (Nat.ne_of_lt (live_lt h1.live))]; exact h2⟩
          · obtain ⟨k, ⟨h, z⟩ | ⟨h, z⟩⟩ := hb
            · rcases live_new.mp h with h | rfl
              · rw [put_a_ne (Nat.ne_of_lt (live_lt h))] at z
                exact s2.new b ⟨k, .inl ⟨h, z⟩⟩
              · rw [put_a_same] at z
                rw [z]
                exact .inr hA
            · have h := isIns_new_lst.mp h
              rw [put_d_ne (Nat.ne_of_lt (live_lt h.live))] at z
              exact s2.new b ⟨k, .inr ⟨h, z⟩⟩
        have nl : ∀ k, Live S2 k → k ≠ S2.n := fun k h => Nat.ne_of_lt (live_lt h)
        have na : ∀ k, Live S2 k → r2.a k ≠ A := fun k h z => nA2 ⟨k, .inl ⟨h, z.symm⟩⟩
        have nd : ∀ k, IsIns S2 k → r2.d k ≠ A := fun k h z => nA2 ⟨k, .inr ⟨h, z.symm⟩⟩
        have hl : ∀ k, Live S2 k → Live (S2.new (.lst acc)) k ∧ (r2.put S2.n A (r2.d S2.n)).a k = r2.a k := fun k h => ⟨live_new.mpr (.inl h), put_a_ne (nl k h)⟩
        have rd1 : ∀ {d : D} {v : V}, RD G r2 S2 H2 d v → RD G (r2.put S2.n A (r2.d S2.n)) (S2.new (.lst acc)) H2 d v := fun h => h.gen Kp.refl hl
        have rds1 : ∀ {ds : List D} {ws : List V}, RDs G r2 S2 H2 ds ws → RDs G (r2.put S2.n A (r2.d S2.n)) (S2.new (.lst acc)) H2 ds ws := fun h => h.gen Kp.refl hl
        have R3 : Rep G (r2.put S2.n A (r2.d S2.n)) (S2.new (.lst acc)) H2 := by
          refine ⟨fun k o z => ?_, fun j k hj hk z => ?_, fun j k hj hk z => ?_, fun j k hj hk z => ?_⟩
          · rw [Sto.new_at] at z
            by_cases h : k = S2.n
            · subst h
              rw [if_pos rfl] at z
              cases z
              exact ⟨vs, by rw [put_a_same]; exact hA2, rds1 hac⟩
            · rw [if_neg h] at z
              exact RO.gen Kp.refl hl (put_a_ne h) (fun _ z => z) (fun _ _ _ => ⟨put_d_ne h, fun _ z => z⟩) (R2.obj k o z)
          · rcases live_new.mp hj with hj | rfl
            · rcases live_new.mp hk with hk | rfl
              · rw [put_a_ne (nl j hj), put_a_ne (nl k hk)] at z
                exact R2.inj j k hj hk z
              · rw [put_a_ne (nl j hj), put_a_same] at z
                exact absurd z (na j hj)
            · rcases live_new.mp hk with hk | rfl
              · rw [put_a_ne (nl k hk), put_a_same] at z
                exact absurd z.symm (na k hk)
              · rfl
          · have hk := isIns_new_lst.mp hk
            rw [put_d_ne (nl k hk.live)] at z
            rcases live_new.mp hj with hj | rfl
            · rw [put_a_ne (nl j hj)] at z
              exact R2.ad j k hj hk z
            · rw [put_a_same] at z
              exact nd k hk z.symm
          · have hk := isIns_new_lst.mp hk
            have hj := isIns_new_lst.mp hj
            rw [put_d_ne (nl k hk.live), put_d_ne (nl j hj.live)] at z
            exact R2.dd j k hj hk z
        have zz := RD.obj (G := G) (r := r2.put S2.n A (r2.d S2.n)) (S := S2.new (.lst acc)) (H := H2) S2.n ⟨_, at_new_new⟩
        rw [put_a_same] at zz
        exact p _ H2 (.ref A) (s1.trans st) R3 zz
      | some d =>
        obtain ⟨go, yl⟩ := sv.go i r2 S3 H2 d s2 R2 hq
        refine .inr ⟨go, fun H3 => ∃ r3 S4 ac vs, Step r1 S1 H1 r3 S4 H3 ∧ Rep G r3 S4 H3 ∧ H3 A = some (.lst vs) ∧ ¬ Own r3 S4 A ∧ RDs G r3 S4 H3 ac vs ∧ vLcs q g c e (wipeE env own) n (i + 1) ac S4 = some (acc, S2), fun H3 h3 => ⟨n, Nat.lt_succ_self n, h3⟩, fun x H' y => ?_⟩
        obtain ⟨rfl, hd⟩ := yl x H' y
        dsimp only at e3
        cases hg2 : g d (wipeE env own) with
        | none => rw [hg2] at e3; cases e3
        | some env3 =>
          rw [hg2] at e3
          have re2 : RE G r2 S3 H' (wipeE env own) (wipe σ own) := ((hs.env.step hs.rep s1).step R1 s2).wipeE own
          refine ⟨r2, wipeE env own, S3, d, env3, ⟨R2, re2⟩, hd, hg2, fun σ3 re3 hw => ⟨by rw [hw]; exact wipe_wipe σ own, ?_⟩⟩
          dsimp only at e3
          cases hc2 : c env3 S3 with
          | none => rw [hc2] at e3; cases e3
          | some bS =>
            obtain ⟨b, S4⟩ := bS
            rw [hc2] at e3
            refine ⟨r2, env3, S3, b, S4, ⟨R2, re3⟩, hc2, fun r4 H4 s4 R4 => ?_⟩
            have hA4 : H4 A = some (.lst vs) := s4.keep A _ hA2 nA2
            have nA4 : ¬ Own r4 S4 A := fun z => by
              rcases s4.new A z with w | w
              · exact nA2 w
              · rw [hA2] at w; cases w
            cases b with
            | false =>
              dsimp only
              rw [if_neg Bool.false_ne_true]
              exact ⟨r4, S4, ac, vs, s2.trans s4, R4, hA4, nA4, hac.step R2 s4, e3⟩
            | true =>
              dsimp only
              rw [if_pos rfl]
              dsimp only at e3
              cases he2 : e env3 S4 with
              | none => rw [he2] at e3; cases e3
              | some yS =>
                obtain ⟨y', S5⟩ := yS
                rw [he2] at e3
                obtain ⟨hfit, e3⟩ := gua_some e3
                refine ⟨r4, env3, S4, y', S5, ⟨R4, re3.step R2 s4⟩, he2, fun r5 H5 v s5 R5 h5 => ?_⟩
                have hA5 : H5 A = some (.lst vs) := s5.keep A _ hA4 nA4
                have nA5 : ¬ Own r5 S5 A := fun z => by
                  rcases s5.new A z with w | w
                  · exact nA4 w
                  · rw [hA4] at w; cases w
                have hac5 : RDs G r5 S5 H5 ac vs := (hac.step R2 s4).step R4 s5
                refine ⟨vs, hA5, by rw [← hac5.length]; exact fits_lt hfit, ?_⟩
                exact ⟨r5, S5, ac ++ [y'], vs ++ [v], (s2.trans (s4.trans s5)).other hA, R5.other hA5 nA5, upd_same, nA5, (hac5.append (.cons h5 .nil)).gen (kp_other hA5) (fun _ h => ⟨h, rfl⟩), e3⟩
end
end Pv
/-! Pv6: comprehensions as rules, defs, instances with slots. -/
namespace Pv
open PySem PySem.Spec PyProof.Rows L2
section
variable {X : Cx} {G : Gx}

def vYes : EvT := fun _ S => some (true, S)
theorem tsNil : PTs X [] (rdT G vYes) := ⟨fun pins s σ H Q I h => by
  obtain ⟨r, env, S, d, S', hs, e, p⟩ := h
  cases e
  exact (pts_nil (X := X)).run pins s σ H Q I (p r H (Step.refl _ _ _) hs.rep)⟩
theorem tsOne {c : Expr} {f : EvT} (h : PT X c (rdT G f)) : PTs X [c] (rdT G f) := pts_one h
theorem pLc {elt tg iter : Expr} {ifs : List Expr} {scope : Scope} {own : List (Str × Nat)} {pos : Pos} {w : EvI} {g : EvG} {c : EvT} {e : EvE} (hc : X.calm = true) (hN : X.N.Nodup) (hi : PI X tg iter (rdI G w)) (ok : BlkOk X.N X.env.scope scope own)
    (hg : ∀ (s : Shared) (H : Hp) (C : Addr) (cl : List (Str × Addr)) (fp : List Addr), PG (X.blk s H scope (compEnvC scope cl C X.env) fp) tg (rdG G (own.map (·.2)) g)) (ht : ∀ (s : Shared) (H : Hp) (C : Addr) (cl : List (Str × Addr)) (fp : List Addr), PTs (X.blk s H scope (compEnvC scope cl C X.env) fp) ifs (rdT G c))
    (he : ∀ (s : Shared) (H : Hp) (C : Addr) (cl : List (Str × Addr)) (fp : List Addr), PE (X.blk s H scope (compEnvC scope cl C X.env) fp) elt (rdE G e)) (hs : ∀ x, foldedSetIterable iter X.env x = pure x := by intro _; rfl) :
    PE X (.ListComp elt [⟨tg, iter, ifs, 0⟩] scope pos) (rdE G (vLc w g c e (own.map (·.2)))) := (pe_lc hc hN hi ok hg ht he hs).imp fun _ _ _ h => tLc_of h
theorem sSetLc {i : Nat} {y : Str} {py : Pos} {elt tg iter : Expr} {ifs : List Expr} {scope : Scope} {own : List (Str × Nat)} {pos spos : Pos} {w : EvI} {g : EvG} {c : EvT} {e : EvE} (hc : X.calm = true) (hN : X.N.Nodup) (hy : X.N[i]? = some y) (hyl : X.env.scope.names.lookup y = some .local)
    (hsw : swapsWith (.ListComp elt [⟨tg, iter, ifs, 0⟩] scope pos) (some (.Name y py)) spos.line X.env = pure true) (hi : PI X tg iter (rdI G w)) (ok : BlkOk X.N X.env.scope scope own)
    (hg : ∀ (s : Shared) (H : Hp) (C : Addr) (cl : List (Str × Addr)) (fp : List Addr), PG (X.blk s H scope (compEnvC scope cl C X.env) fp) tg (rdG G (own.map (·.2)) g)) (ht : ∀ (s : Shared) (H : Hp) (C : Addr) (cl : List (Str × Addr)) (fp : List Addr), PTs (X.blk s H scope (compEnvC scope cl C X.env) fp) ifs (rdT G c))
    (he : ∀ (s : Shared) (H : Hp) (C : Addr) (cl : List (Str × Addr)) (fp : List Addr), PE (X.blk s H scope (compEnvC scope cl C X.env) fp) elt (rdE G e)) (hs : ∀ x, foldedSetIterable iter X.env x = pure x := by intro _; rfl) :
    PS X (.Assign [.Name y py] (.ListComp elt [⟨tg, iter, ifs, 0⟩] scope pos) spos) (rdS G (vSet i (vLc w g c e (own.map (·.2))))) :=
  (ps_setLc hc hN hy hyl hsw hi ok hg ht he hs).imp fun D' σ H h => tLc_of (show rdE G _ σ H _ from tAsg_name h)

/-! ### a def keeps its promise -/
def vFn (n np : Nat) (ev : EvS) : EvF := fun ds S => gua (Nat.beq ds.length np) (match ev (ds.map some ++ List.replicate (n - np) none) S with
  | some (.nx _ S') => some (.non, S')
  | some (.rt d S') => some (d, S')
  | _ => none)
theorem RE.start {r : Loc2} {S : Sto} {H : Hp} {N : List Str} {ds : List D} {vs : List V} (h : RDs G r S H ds vs) : RE G r S H (ds.map some ++ List.replicate (N.length - ds.length) none) (L2.start N vs) := by
  refine ⟨?_, fun i d e => ?_⟩
  · unfold L2.start
    rw [List.length_append, List.length_append, List.length_map, List.length_map, List.length_replicate, List.length_replicate, h.length]
  · by_cases hi : i < ds.length
    · rw [List.getElem?_append_left (by simpa using hi), List.getElem?_map] at e
      cases q : ds[i]? with
      | none => rw [q] at e; cases e
      | some x =>
        rw [q] at e
        cases e
        obtain ⟨v, h1, h2⟩ := h.get q
        refine ⟨v, ?_, h2⟩
        unfold L2.start
        rw [List.getElem?_append_left (by rw [List.length_map, ← h.length]; exact hi), List.getElem?_map, h1]
        rfl
    · rw [List.getElem?_append_right (by simpa using hi), List.getElem?_replicate] at e
      split at e <;> cases e
section
variable {P : Program} {w : World} {K : PySem.W.Frag} {mg : Str → Option Value} {base : Heap}
theorem fnO {x qual : Str} {params : Arguments} {body : List Stmt} {scope : Scope} {kws : List (Str × V)} {f : Addr} {fd : FuncData} {N ps : List Str} {k : Nat} {ev : EvS} (F : FunD K x qual params body scope [] kws f fd) (Sc : FnScope N ps scope)
    (hbody : ∀ (cdv : Value) (A : Around) (outer : List Env) (s : Shared) (H : Hp) (E : XK), Room k (A.deeper (envOfC qual scope s.heap.objs.size f cdv)) → PSs (cxOf CX0 P w K mg base N qual scope f cdv A outer s H E).nox body (rdS G ev)) :
    FnOk P w K mg base CX0 (k + 1) f fd ps (spF G (vFn N.length ps.length ev)) := by
  refine F.ok Sc (fun vs H Q E h => ?_) (fun cdv A outer s H vs Q E hr h => ⟨rdS G ev, PSs.nox (hbody cdv A outer s H E hr), ?_⟩)
  · obtain ⟨r, ds, S, d, S', R, hd, e, p⟩ := h
    obtain ⟨hl, _⟩ := gua_some e
    rw [← hd.length]
    exact Nat.eq_of_beq_eq_true hl
  · obtain ⟨r, ds, S, d, S', R, hd, e, p⟩ := h
    obtain ⟨hl, e⟩ := gua_some e
    have hl : ds.length = ps.length := Nat.eq_of_beq_eq_true hl
    rw [← hl] at e
    split at e
    · rename_i env1 S1 e1
      cases e
      exact ⟨r, _, S, _, ⟨R, RE.start hd⟩, e1, fun r1 H1 σ1 s1 R1 _ => p r1 H1 _ s1 R1 .non⟩
    · rename_i d1 S1 e1
      cases e
      exact ⟨r, _, S, _, ⟨R, RE.start hd⟩, e1, p⟩
    · cases e
theorem fnF {x qual : Str} {params : Arguments} {body : List Stmt} {scope : Scope} {kws : List (Str × V)} {f : Addr} {fd : FuncData} {N ps : List Str} {k : Nat} {ev : EvS} (F : FunD K x qual params body scope [] kws f fd) (Sc : FnScope N ps scope) (hb : Binds K fd ps [])
    (hbody : ∀ (cdv : Value) (A : Around) (outer : List Env) (s : Shared) (H : Hp) (E : XK), Room k (A.deeper (envOfC qual scope s.heap.objs.size f cdv)) → PSs (cxOf CX0 P w K mg base N qual scope f cdv A outer s H E).nox body (rdS G ev)) :
    FnR P w K mg base CX0 (k + 1) f (spF G (vFn N.length ps.length ev)) := by
  refine ((fnO F Sc hbody).raw hb .nil).imp fun vs H Q E h => ?_
  rw [List.append_nil]
  exact h
end

/-! ### new instances -/
theorem isIns_new_ins {S : Sto} {c : Nat} {fs : List (Option D)} {k : Nat} : IsIns (S.new (.ins c fs)) k ↔ IsIns S k ∨ k = S.n := by
  constructor
  · rintro ⟨c', fs', e⟩
    rw [Sto.new_at] at e
    by_cases h : k = S.n
    · exact .inr h
    · rw [if_neg h] at e; exact .inl ⟨c', fs', e⟩
  · rintro (⟨c', fs', e⟩ | rfl)
    · exact ⟨c', fs', at_new_old e⟩
    · exact ⟨c, fs, at_new_new⟩
theorem newI {r : Loc2} {S : Sto} {H : Hp} {x dx : Addr} {c : Nat} (R : Rep G r S H) (hx : H x = none) (hd : H dx = none) (hne : dx ≠ x) :
    Step r S H (r.put S.n x dx) (S.new (.ins c [])) (upd (upd H dx (.own x)) x (.ins (G.cA c) dx [])) ∧ Rep G (r.put S.n x dx) (S.new (.ins c [])) (upd (upd H dx (.own x)) x (.ins (G.cA c) dx [])) := by
  have nx : ∀ b u, H b = some u → b ≠ x := fun b u h => ne_of_none h hx
  have nd : ∀ b u, H b = some u → b ≠ dx := fun b u h => ne_of_none h hd
  have kp : ∀ b u, H b = some u → upd (upd H dx (.own x)) x (.ins (G.cA c) dx []) b = some u := fun b u h => by rw [upd_ne (nx b u h), upd_ne (nd b u h)]; exact h
  have nl : ∀ k, Live S k → k ≠ S.n := fun k h => Nat.ne_of_lt (live_lt h)
  have st : Step r S H (r.put S.n x dx) (S.new (.ins c [])) (upd (upd H dx (.own x)) x (.ins (G.cA c) dx [])) := by
    refine ⟨fun k h => ⟨live_new.mpr (.inl h), put_a_ne (nl k h)⟩, fun k h => ⟨isIns_new_ins.mpr (.inl h), put_d_ne (nl k h.live)⟩, fun b o h _ => kp b o h, fun b hb => ?_⟩
    obtain ⟨k, ⟨h, z⟩ | ⟨h, z⟩⟩ := hb
    · rcases live_new.mp h with h | rfl
      · rw [put_a_ne (nl k h)] at z
        exact .inl ⟨k, .inl ⟨h, z⟩⟩
      · rw [put_a_same] at z
        rw [z]; exact .inr hx
    · rcases isIns_new_ins.mp h with h | rfl
      · rw [put_d_ne (nl k h.live)] at z
        exact .inl ⟨k, .inr ⟨h, z⟩⟩
      · rw [put_d_same] at z
        rw [z]; exact .inr hd
  have fx := own_free R hx
  have fd := own_free R hd
  have ax : ∀ k, Live S k → r.a k ≠ x := fun k h z => fx ⟨k, .inl ⟨h, z.symm⟩⟩
  have ad : ∀ k, Live S k → r.a k ≠ dx := fun k h z => fd ⟨k, .inl ⟨h, z.symm⟩⟩
  have dx' : ∀ k, IsIns S k → r.d k ≠ x := fun k h z => fx ⟨k, .inr ⟨h, z.symm⟩⟩
  have dd' : ∀ k, IsIns S k → r.d k ≠ dx := fun k h z => fd ⟨k, .inr ⟨h, z.symm⟩⟩
  refine ⟨st, fun k o e => ?_, fun j k hj hk e => ?_, fun j k hj hk e => ?_, fun j k hj hk e => ?_⟩
  · rw [Sto.new_at] at e
    by_cases h : k = S.n
    · subst h
      rw [if_pos rfl] at e
      cases e
      refine ⟨[], .inl ⟨by rw [put_a_same, put_d_same, upd_same], rfl⟩, ⟨.own x, by rw [put_d_same, upd_ne hne, upd_same], fun _ z => (nomatch z), fun _ _ z => (nomatch z)⟩, fun i d z => by simp at z⟩
    · rw [if_neg h] at e
      exact RO.mono R st (put_a_ne h) (fun u q => kp _ u q) (fun _ _ _ => ⟨put_d_ne h, fun u q => kp _ u q⟩) (R.obj k o e)
  · rcases live_new.mp hj with hj | rfl
    · rcases live_new.mp hk with hk | rfl
      · rw [put_a_ne (nl j hj), put_a_ne (nl k hk)] at e
        exact R.inj j k hj hk e
      · rw [put_a_ne (nl j hj), put_a_same] at e
        exact absurd e (ax j hj)
    · rcases live_new.mp hk with hk | rfl
      · rw [put_a_ne (nl k hk), put_a_same] at e
        exact absurd e.symm (ax k hk)
      · rfl
  · rcases live_new.mp hj with hj | rfl
    · rcases isIns_new_ins.mp hk with hk | rfl
      · rw [put_a_ne (nl j hj), put_d_ne (nl k hk.live)] at e
        exact R.ad j k hj hk e
      · rw [put_a_ne (nl j hj), put_d_same] at e
        exact ad j hj e
    · rcases isIns_new_ins.mp hk with hk | rfl
      · rw [put_a_same, put_d_ne (nl k hk.live)] at e
        exact dx' k hk e.symm
      · rw [put_a_same, put_d_same] at e
        exact hne e.symm
  · rcases isIns_new_ins.mp hj with hj | rfl
    · rcases isIns_new_ins.mp hk with hk | rfl
      · rw [put_d_ne (nl j hj.live), put_d_ne (nl k hk.live)] at e
        exact R.dd j k hj hk e
      · rw [put_d_ne (nl j hj.live), put_d_same] at e
        exact absurd e (dd' j hj)
    · rcases isIns_new_ins.mp hk with hk | rfl
      · rw [put_d_ne (nl k hk.live), put_d_same] at e
        exact absurd e.symm (dd' k hk)
      · rfl
def vMake (c : Nat) (init : EvF) (f : EvA) : EvE := fun env S => bnd (f env S) fun ds S => bnd (init (.obj S.n :: ds) (S.new (.ins c []))) fun d S' => match d with
  | .non => some (.obj S.n, S')
  | _ => none
theorem run_makeR {CX : CXT} {k : Nat} {C f : Addr} {sp : Sp} {E : XK} {pins : List (Addr × Obj)} {σ : L2.St} {H : Hp} {s : Shared} {Q : VK} {us : List Value} {vs : List V} (M : Mk X.K C f) (F : FnR X.prog X.w X.K X.mg X.base CX k f sp) (hr : Room (k + 1) X.A)
    (hx : Passes CX X E) (I : Inv X pins σ H s) (r : Vals vs us)
    (h : ∀ x dx, H x = none → H dx = none → dx ≠ x → sp (.ref x :: vs) (upd (upd H dx (.own x)) x (.ins C dx [])) (fun v H2 => v = .non ∧ Q (.ref x) H2) E) :
    wpAny (model X.prog X.w) X.A (call (.ref C) us) (EP X pins σ Q) X.xe s := by
  have hq := h (s.heap.objs.size + 1) s.heap.objs.size (I.hok.fresh (Nat.le_succ _)) (I.hok.fresh (Nat.le_refl _)) (Nat.ne_of_lt (Nat.lt_succ_self _))
  have I2 := Inv.made (C := C) I
  have r2 : Vals (V.ref (s.heap.objs.size + 1) :: vs) (Value.ref (s.heap.objs.size + 1) :: us) := .cons rfl r
  refine wpAny_call (make_map (f := f) I.kIn M.makes M.init (beq_iff_eq.mp M.fn) (codeAny_mono (F _ X.stack _ _ (Value.ref (s.heap.objs.size + 1) :: us) _ _ E (hr.make C us [])
    (I2.env0.make C us []) r2 hq) fun r s' hq' => ?_))
  cases r with
  | error e => exact hx pins σ _ _ e s' I2 hq'
  | ok fl =>
    cases fl with
    | ret u =>
      obtain ⟨v, H', I3, rv, ev, q3⟩ := I2.after hq'
      subst ev
      exact ⟨rv, ⟨V.ref (s.heap.objs.size + 1), H', I3, rfl, q3⟩⟩
    | next => exact False.elim hq'
    | brk => exact False.elim hq'
    | cont => exact False.elim hq'
theorem pMake {k c : Nat} {fi : Addr} {init : EvF} {x : Str} {p pos : Pos} {e : Expr} {es : List Expr} {f : EvA} (M : Mk X.K (G.cA c) fi) (F : FnR X.prog X.w X.K X.mg X.base CX0 k fi (spF G init)) (hr : Room (k + 1) X.A) (hg : Gl X x) (hm : X.mg x = some (.ref (G.cA c)))
    (ha : PA X (e :: es) (rdA G f)) (hdb : (x == ("__debug__" : Str)) = false := by decide) (he : starEach (e :: es) X.env = (false, eval e X.env) :: starEach es X.env := by rfl) (hpl : (backTo pos (starEach es X.env)).any (·.1) = false := by rfl) :
    PE X (.Call (.Name x p) (e :: es) [] pos) (rdE G (vMake c init f)) := by
  refine ⟨fun pins s σ H Q I h => ?_⟩
  obtain ⟨r, env, S, d, S', hs, ee, po⟩ := h
  obtain ⟨ds, S1, e1, ee⟩ := bnd_some ee
  obtain ⟨d2, S2, e2, ee⟩ := bnd_some ee
  split at ee
  · cases ee
    refine wpAny_Call_Name_kw (ld_glob I hg hm ?_ hdb)
    refine PySem.W.callWith_K (h₀ := X.base) I.ok.mod.kin M.kp (thn (ha.run pos pins s σ H (fun vs H1 => ∀ x dx, H1 x = none → H1 dx = none → dx ≠ x → spF G init (.ref x :: vs) (upd (upd H1 dx (.own x)) x (.ins (G.cA c) dx [])) (fun v H2 => v = .non ∧ Q (.ref x) H2) E0) I ?_) fun us s1 ⟨vs, H1, I1, rr, q⟩ => ⟨I1.kIn, ?_⟩) he hpl
    · refine ⟨r, env, S, ds, S1, hs, e1, fun r1 H1 vs s1 R1 h1 x dx hx hd hne => ?_⟩
      obtain ⟨st, R2⟩ := newI (c := c) R1 hx hd hne
      refine ⟨r1.put S1.n x dx, .obj S1.n :: ds, S1.new (.ins c []), _, _, R2, .cons ?_ (h1.step R1 st), e2, fun r3 H3 v s3 R3 h3 => ?_⟩
      · have z := RD.obj (G := G) (r := r1.put S1.n x dx) (S := S1.new (.ins c [])) (H := upd (upd H1 dx (.own x)) x (.ins (G.cA c) dx [])) S1.n ⟨_, at_new_new⟩
        rw [put_a_same] at z
        exact z
      · cases h3
        refine ⟨rfl, po r3 H3 _ (s1.trans (st.trans s3)) R3 ?_⟩
        obtain ⟨hl, ea⟩ := s3.live S1.n ⟨_, at_new_new⟩
        have z := RD.obj (G := G) (r := r3) (H := H3) S1.n hl
        rw [ea, put_a_same] at z
        exact z
    · exact run_makeR M F hr pass0 I1 rr q
  · cases ee

/-! ### slots -/
def putD (i : Nat) (d : D) (fs : List (Option D)) : List (Option D) := (fs ++ List.replicate (i + 1 - fs.length) none).set i (some d)
theorem putD_get (i : Nat) (d : D) (fs : List (Option D)) : (putD i d fs)[i]? = some (some d) := by
  unfold putD
  exact List.getElem?_set_self (by simp only [List.length_append, List.length_replicate]; omega)
theorem putD_ne {i j : Nat} {d x : D} {fs : List (Option D)} (h : j ≠ i) (e : (putD i d fs)[j]? = some (some x)) : fs[j]? = some (some x) := by
  unfold putD at e
  rw [List.getElem?_set_ne (Ne.symm h)] at e
  by_cases hj : j < fs.length
  · rw [List.getElem?_append_left hj] at e; exact e
  · rw [List.getElem?_append_right (by omega), List.getElem?_replicate] at e
    split at e <;> cases e
theorem isIns_put {S : Sto} {k j c c' : Nat} {fs fs' : List (Option D)} (h : S.at k = some (.ins c fs)) : IsIns (S.put k (.ins c' fs')) j ↔ IsIns S j := by
  constructor
  · rintro ⟨c2, f2, e⟩
    rw [Sto.put_at _ _ _ _ (Sto.at_lt h)] at e
    by_cases hj : j = k
    · rw [hj]; exact ⟨c, fs, h⟩
    · rw [if_neg hj] at e; exact ⟨c2, f2, e⟩
  · rintro ⟨c2, f2, e⟩
    by_cases hj : j = k
    · exact ⟨c', fs', by rw [Sto.put_at _ _ _ _ (Sto.at_lt h), if_pos hj]⟩
    · exact ⟨c2, f2, by rw [Sto.put_at _ _ _ _ (Sto.at_lt h), if_neg hj]; exact e⟩
theorem putI {r : Loc2} {S : Sto} {H : Hp} {k c i : Nat} {fs : List (Option D)} {vs : List (Option V)} {d : D} {v : V} (R : Rep G r S H) (h : S.at k = some (.ins c fs)) (hfs : ∀ (i : Nat) (d : D), fs[i]? = some (some d) → ∃ v, vs[i]? = some (some v) ∧ RD G r S H d v) (hd : RD G r S H d v) :
    Step r S H r (S.put k (.ins c (putD i d fs))) (SlX.slH H (r.a k) (G.cA c) (r.d k) (SlX.putS i v vs)) ∧ Rep G r (S.put k (.ins c (putD i d fs))) (SlX.slH H (r.a k) (G.cA c) (r.d k) (SlX.putS i v vs)) := by
  have hi : IsIns S k := ⟨c, fs, h⟩
  have hk : Live S k := hi.live
  have kp : ∀ b, b ≠ r.a k → b ≠ r.d k → SlX.slH H (r.a k) (G.cA c) (r.d k) (SlX.putS i v vs) b = H b := fun b h1 h2 => SlX.slH_ne h1 h2
  have nad : r.d k ≠ r.a k := fun z => R.ad k k hk hi z.symm
  have st : Step r S H r (S.put k (.ins c (putD i d fs))) (SlX.slH H (r.a k) (G.cA c) (r.d k) (SlX.putS i v vs)) := by
    refine ⟨fun j z => ⟨(live_put h).mpr z, rfl⟩, fun j z => ⟨(isIns_put h).mpr z, rfl⟩, fun b o z n => ?_, fun b ⟨j, z⟩ => ?_⟩
    · rw [kp b (fun e => n ⟨k, .inl ⟨hk, e⟩⟩) (fun e => n ⟨k, .inr ⟨hi, e⟩⟩)]; exact z
    · rcases z with ⟨z, e⟩ | ⟨z, e⟩
      · exact .inl ⟨j, .inl ⟨(live_put h).mp z, e⟩⟩
      · exact .inl ⟨j, .inr ⟨(isIns_put h).mp z, e⟩⟩
  refine ⟨st, fun j o e => ?_, fun i j hi hj e => R.inj i j ((live_put h).mp hi) ((live_put h).mp hj) e, fun i j hi hj e => R.ad i j ((live_put h).mp hi) ((isIns_put h).mp hj) e, fun i j hi hj e => R.dd i j ((isIns_put h).mp hi) ((isIns_put h).mp hj) e⟩
  rw [Sto.put_at _ _ _ _ (Sto.at_lt h)] at e
  by_cases hj : j = k
  · subst hj
    rw [if_pos rfl] at e
    cases e
    refine ⟨_, SlX.slH_slt nad, ⟨.xd [], by unfold SlX.slH; rw [upd_ne nad, upd_same], fun _ z => (nomatch z), fun _ _ z => (nomatch z)⟩, fun m x hx => ?_⟩
    by_cases hm : m = i
    · subst hm
      rw [putD_get] at hx
      cases hx
      exact ⟨v, SlX.putS_get _ _ _, hd.step R st⟩
    · obtain ⟨w, g1, g2⟩ := hfs m x (putD_ne hm hx)
      exact ⟨w, (SlX.putS_ne hm).mpr g1, g2.step R st⟩
  · rw [if_neg hj] at e
    have h1 : r.a j ≠ r.a k := fun z => hj (R.inj j k ⟨_, e⟩ hk z)
    have h2 : r.a j ≠ r.d k := fun z => R.ad j k ⟨_, e⟩ hi z
    refine RO.mono R st rfl (fun u z => by rw [kp _ h1 h2]; exact z) (fun c2 f2 eo => ⟨rfl, fun u z => ?_⟩) (R.obj j o e)
    have hj2 : IsIns S j := ⟨c2, f2, by rw [e, eo]⟩
    rw [kp _ (fun z => R.ad k j hk hj2 z.symm) (fun z => hj (R.dd j k hj2 hi z))]
    exact z
/-- the slots of a name: by the class's number -/
def FldOk (G : Gx) (f : Str) (sl : Nat → Option Nat) : Prop := ∀ c i, sl c = some i → SlX.SCls G.K (G.cA c) ∧ ∃ p, SlX.Slot1 G.K (G.cA c) f p i
def vFld (sl : Nat → Option Nat) (f : EvE) : EvE := fun env S => bnd (f env S) fun d S => match d with
  | .obj k => (match S.at k with
    | some (.ins c fs) => (match sl c with
      | some i => (match fs[i]? with
        | some (some x) => some (x, S)
        | _ => none)
      | none => none)
    | _ => none)
  | _ => none
theorem pFld {sl : Nat → Option Nat} {e : Expr} {fl : Str} {f : EvE} {pos : Pos} (ok : FldOk G fl sl) (he : PE X e (rdE G f)) (hb : attributeBase e fl X.env (eval e X.env) = eval e X.env := by rfl) (hK : X.K = G.K := by rfl) : PE X (.Attribute e fl pos) (rdE G (vFld sl f)) :=
  (SlX.pe_sl he hb).imp fun σ H Q ⟨r, env, S, d, S', hs, ee, p⟩ => by
    rw [hK]
    obtain ⟨x, S1, e1, ee⟩ := bnd_some ee
    split at ee
    · rename_i k
      split at ee
      · rename_i c fs hk
        split at ee
        · rename_i i hi
          split at ee
          · rename_i y hy
            cases ee
            refine ⟨r, env, S, _, _, hs, e1, fun r1 H1 v s1 R1 h1 => ?_⟩
            cases h1
            obtain ⟨vs, q1, _, q3⟩ := R1.obj k _ hk
            obtain ⟨w, g1, g2⟩ := q3 i _ hy
            obtain ⟨sc, p', s1'⟩ := ok c i hi
            exact ⟨_, _, _, p', vs, i, w, rfl, q1, sc, s1', g1, p r1 H1 w s1 R1 g2⟩
          · cases ee
        · cases ee
      · cases ee
    · cases ee
def vSetFld (sl : Nat → Option Nat) (o f : EvE) : EvS := fun env S => bnd (f env S) fun d S => bnd (o env S) fun x S => match x with
  | .obj k => (match S.at k with
    | some (.ins c fs) => (match sl c with
      | some i => some (.nx env (S.put k (.ins c (putD i d fs))))
      | none => none)
    | _ => none)
  | _ => none
theorem sSetFld {sl : Nat → Option Nat} {o e : Expr} {fl : Str} {fo f : EvE} {pos pos' : Pos} (ok : FldOk G fl sl) (ho : PE X o (rdE G fo)) (he : PE X e (rdE G f)) (hs : swapsWith e (some (.Attribute o fl pos')) pos.line X.env = pure false := by rfl) (hK : X.K = G.K := by rfl) : PS X (.Assign [.Attribute o fl pos'] e pos) (rdS G (vSetFld sl fo f)) :=
  (SlX.ps_sl ho he hs).imp fun D' σ H ⟨r, env, S, fl', hs, ee, p⟩ => by
    rw [hK]
    obtain ⟨d, S1, e1, ee⟩ := bnd_some ee
    obtain ⟨x, S2, e2, ee⟩ := bnd_some ee
    split at ee
    · rename_i k
      split at ee
      · rename_i c fs hk
        split at ee
        · rename_i i hi
          cases ee
          refine ⟨r, env, S, d, S1, hs, e1, fun r1 H1 v s1 R1 h1 => rdE_next hs s1 R1 e2 fun r2 H2 w s2 R2 h2 => ?_⟩
          cases h2
          obtain ⟨vs, q1, _, q3⟩ := R2.obj k _ hk
          obtain ⟨sc, p', s1'⟩ := ok c i hi
          obtain ⟨st, R3⟩ := putI (i := i) R2 hk q3 (h1.step R1 s2)
          exact ⟨_, _, _, p', vs, i, rfl, q1, sc, s1', p r2 _ σ (s1.trans (s2.trans st)) R3 (((hs.env.step hs.rep s1).step R1 s2).step R2 st)⟩
        · cases ee
      · cases ee
    · cases ee
end
end Pv
/-! Pv7: dicts whose keys are tuples. -/
namespace PySem
section
variable {prog : Program} {w : World} {K : Type} [DecidableEq K] {knd : HeapKind prog w K} {A : Around} {E : Value → Shared → Prop} {s : Shared}
/-- dict(d) -/
theorem pv_call_dictH {o : Addr} {more : List (K × Addr × Value)} {Q : Value → Shared → Prop} (hu : knd.room A.in1.in1) (hoS : (o == sysModules) = false) (ho : s.heap.DictOfH knd o more) (hsz : more.length ≤ sizeLine)
    (st : ∀ (h' : Heap), (∀ b u, s.heap.get? b = some u → h'.get? b = some u) → ∀ x ∈ more, knd.is h' x.1 x.2.1)
    (hap : (∀ x ∈ more, s.TypeIs (.ref x.2.1) "tuple") ∧ (more.map fun x => knd.hash x.1).Nodup)
    (h : ∀ h', h'.DictOfH knd s.heap.objs.size more → (∀ b u, s.heap.get? b = some u → h'.get? b = some u) → Q (.ref s.heap.objs.size) { s with heap := h' }) :
    wpAny (model prog w) A (call (.type "dict") [.ref o]) Q E s := by
  refine callType_codes (Q₁ := fun obj s₁ => obj = .ref s.heap.objs.size ∧ s₁ = { s with heap := s.heap.push { cls := .type "dict", data := .dict #[] } }) F.kt_called_dict (F.kt_typeCall_dict_1 _) F.entry_dict_init (kt_code_dict_new _ ⟨rfl, rfl⟩) ?_
  rintro obj s₁ ⟨rfl, rfl⟩
  have hnew : (s.heap.push { cls := .type "dict", data := .dict #[] }).DictOfH knd s.heap.objs.size [] := Heap.DictOfH.new s.heap
  have kp : ∀ b u, s.heap.get? b = some u → (s.heap.push { cls := .type "dict", data := .dict #[] }).get? b = some u := fun b u e => Heap.get?_push_of_some _ e
  have ho' : (s.heap.push { cls := .type "dict", data := .dict #[] }).DictOfH knd o more := by
    obtain ⟨ob, es, ep, h1, h2, h3, h4, h5, h6⟩ := ho
    exact ⟨ob, es, ep, kp _ _ h1, h2, h3, h4, st _ kp, h6⟩
  have hn : (more.map (·.1)).Nodup := ho.nodup
  have hdo : s.heap.objs.size ≠ o := by
    obtain ⟨_, _, _, hg, _⟩ := ho
    exact fun e => absurd (Heap.lt_size hg) (by rw [e]; exact Nat.lt_irrefl _)
  refine ⟨hnew.typeIs, F.args_dict_init_2 _ _, ?_⟩
  unfold Builtin.«dict.__init__»
  refine wpAny_bind ?_
  unfold Builtin.Dict.selfAndRest
  refine wpAny_bind (wpAny_notOrdered_dict hnew.typeIs ?_)
  show wpAny _ _ (pure (s.heap.objs.size, [Value.ref o])) _ _ _
  refine wpAny_pure ?_
  show wpAny _ _ (Builtin.Dict.updateFrom "dict.__init__" s.heap.objs.size (.ref o) [] .none) _ _ _
  refine updateFrom_dictH (A := A.in1) (s := { s with heap := s.heap.push { cls := .type "dict", data := .dict #[] } }) (kvs := []) (R := wants (fun r s₂ => r = .none ∧ Q (.ref s.heap.objs.size) s₂) E) .none hu hdo hoS hnew ho' (.inr ⟨fun x hx => ?_, hap.2⟩) (by simpa using hsz) fun h' hd' _ hs' => ⟨rfl, ?_⟩
  · obtain ⟨ob, e1, e2⟩ := hap.1 x hx
    exact ⟨ob, kp _ _ e1, e2⟩
  · rw [storedAllH_nil_of_nodup more hn] at hd'
    exact h h' hd' fun b u e => (hs'.2 b (Nat.ne_of_lt (Heap.lt_size e))).trans (kp b u e)
/-- == of two dicts -/
inductive HitsH {K : Type} [DecidableEq K] (prog : Program) (w : World) (A : Around) (s : Shared) (xb : List (K × Addr × Value)) : List (K × Addr × Value) → Bool → Prop
  | nil : HitsH prog w A s xb [] true
  | miss {k : K} {a : Addr} {v : Value} {r : List (K × Addr × Value)} : (∀ (j : Nat) (p : Addr × Value), xb[j]? ≠ some (k, p)) → HitsH prog w A s xb ((k, a, v) :: r) false
  | hit {k : K} {a b : Addr} {v y : Value} {j : Nat} {r : List (K × Addr × Value)} {e c : Bool} : xb[j]? = some (k, b, y) → SeqAt.EqP prog w A s v y e → HitsH prog w A s xb r c → HitsH prog w A s xb ((k, a, v) :: r) (e && c)
theorem key_uniq {xs : List (K × Addr × Value)} (hn : (xs.map (·.1)).Nodup) {i j : Nat} {k : K} {p q : Addr × Value} (hi : xs[i]? = some (k, p)) (hj : xs[j]? = some (k, q)) : i = j ∧ p = q := by
  have e1 : (xs.map (·.1))[i]? = some k := by rw [List.getElem?_map, hi]; rfl
  have e2 : (xs.map (·.1))[j]? = some k := by rw [List.getElem?_map, hj]; rfl
  have hij : i = j := (List.getElem?_inj (List.getElem?_eq_some_iff.mp e1).1 hn).mp (e1.trans e2.symm)
  subst hij
  rw [hi] at hj
  cases hj
  exact ⟨rfl, rfl⟩
theorem samePairsH {nm : String} {a b : Addr} {xa xb : List (K × Addr × Value)} {r : Bool} {Q : Bool → Shared → Prop} (hu : knd.room A) (ha : (a == sysModules) = false) (hb : (b == sysModules) = false)
    (da : s.heap.DictOfH knd a xa) (db : s.heap.DictOfH knd b xb) (hits : xa.length = xb.length → HitsH prog w A s xb xa r) (h : Q (xa.length == xb.length && r) s) :
    wpAny (model prog w) A (Builtin.Dict.samePairs nm a b) Q E s := by
  obtain ⟨oa, es, ep, hoa, _, hda, hea, hia, hna⟩ := da
  obtain ⟨ob, es', ep', hob, _, hdb, heb, hib, hnb⟩ := db
  have hla : xa.length = es.size := (size_of_entries hea).symm
  have hlb : xb.length = es'.size := (size_of_entries heb).symm
  rw [hla, hlb] at h
  unfold Builtin.Dict.samePairs Builtin.Dict.showsAll
  rw [if_neg (show ¬ (a == sysModules) = true by rw [ha]; exact Bool.false_ne_true), if_neg (show ¬ (b == sysModules) = true by rw [hb]; exact Bool.false_ne_true)]
  refine wpAny_bind (wpAny_pure (wpAny_bind (wpAny_pure ?_)))
  refine wpAny_bind (wpAny_dictEntries hoa hda ?_)
  dsimp only
  refine wpAny_bind (wpAny_dictEntries hob hdb ?_)
  by_cases hsz : es.size = es'.size
  case neg =>
    rw [if_pos (by simpa using hsz)]
    have hbf : (es.size == es'.size) = false := by simpa using hsz
    rw [hbf, Bool.false_and] at h
    exact wpAny_bind (wpAny_rule (wpAny_pure h))
  case pos =>
    have h' : Q r s := by simpa [hsz] using h
    have hits' := hits (by rw [hla, hlb]; exact hsz)
    rw [if_neg (by rw [hsz]; simp)]
    refine wpAny_bind (wpAny_dictEpoch hoa hda ?_)
    refine wpAny_bind ?_
    rw [Std.Legacy.Range.forIn_eq_forIn_range']
    simp only [Std.Legacy.Range.size, Nat.sub_zero, Nat.add_sub_cancel, Nat.div_one]
    refine wpAny_forIn_list _
      (fun rest q s' => s' = s ∧ q = (none, ()) ∧ ∃ i, rest = List.range' i (es.size - i) ∧ i ≤ es.size ∧ HitsH prog w A s xb (xa.drop i) r)
      _ ?_ ?_ _ _ ⟨rfl, rfl, 0, by simp, Nat.zero_le _, hits'⟩
    · rintro x rest q s' ⟨rfl, rfl, i, hr, hi, hpre⟩
      have hlt : i < es.size := by
        rcases Nat.lt_or_ge i es.size with h | h
        · exact h
        · rw [Nat.sub_eq_zero_of_le h] at hr; simp at hr
      obtain ⟨rfl, hrest⟩ : x = i ∧ rest = List.range' (i + 1) (es.size - (i + 1)) := by
        have e : es.size - i = (es.size - (i + 1)) + 1 := by omega
        rw [e, List.range'_succ] at hr
        injection hr with h1 h2
        exact ⟨h1, h2⟩
      refine wpAny_bind (wpAny_dictEntries hoa hda ?_)
      have hlt' : x < xa.length := by rw [hla]; exact hlt
      obtain ⟨k, ka, v, hkv⟩ : ∃ k ka v, xa[x] = (k, ka, v) := ⟨_, _, _, rfl⟩
      have hx : xa[x]? = some (k, ka, v) := by rw [List.getElem?_eq_getElem hlt', hkv]
      have hdrop : xa.drop x = (k, ka, v) :: xa.drop (x + 1) := by rw [← hkv]; exact List.drop_eq_getElem_cons hlt'
      rw [entry_at hea x, hx]
      have hkey : knd.is s'.heap k ka := hia (k, ka, v) (List.mem_of_getElem? hx)
      rw [hdrop] at hpre
      show wpAny _ _ (holding [Value.ref ka, v] _ >>= _) _ _ _
      refine wpAny_bind (wpAny_holding (wpAny_bind (wpAny_dictFind_heap hu hkey hob hdb heb hib hnb (fun hno => ?_) fun j p hj => ?_)))
      · cases hpre with
        | miss _ =>
          refine wpAny_pure ?_
          show wpAny _ _ (if (!false) = true then _ else _) _ _ _
          rw [if_pos (by decide)]
          exact wpAny_pure (wpAny_pure h')
        | hit hj _ _ => exact absurd hj (hno _ _)
      · refine wpAny_bind (wpAny_dictEntries hob hdb ?_)
        obtain ⟨pb, py⟩ := p
        rw [entry_at heb j, hj]
        cases hpre with
        | miss hno => exact absurd hj (hno _ _)
        | @hit _ _ b' _ y' j' _ e c hj' he hrr =>
          have e2 := (key_uniq hnb hj hj').2
          cases e2
          refine wpAny_holding (he _ _ ?_)
          cases e with
          | false =>
            show wpAny _ _ (if (!false) = true then _ else _) _ _ _
            rw [if_pos (by decide)]
            exact wpAny_pure (wpAny_pure h')
          | true =>
            show wpAny _ _ (if (!true) = true then _ else _) _ _ _
            rw [if_neg (by decide)]
            refine wpAny_bind (wpAny_dictEpoch hoa hda ?_)
            rw [if_neg (by simp)]
            exact wpAny_pure ⟨rfl, rfl, x + 1, hrest, hlt, by simpa using hrr⟩
    · rintro q s' ⟨rfl, rfl, i, hr, hi, hpre⟩
      have hin : i = es.size := by
        rcases Nat.lt_or_ge i es.size with h | h
        · have e : es.size - i = (es.size - (i + 1)) + 1 := by omega
          rw [e, List.range'_succ] at hr; exact nomatch hr
        · exact Nat.le_antisymm hi h
      refine wpAny_pure ?_
      rw [hin, ← hla, List.drop_length] at hpre
      cases hpre
      exact h'
theorem rcH_dicts {a b : Addr} {xa xb : List (K × Addr × Value)} {r : Bool} (ha : (a == sysModules) = false) (hb : (b == sysModules) = false)
    (da : s.heap.DictOfH knd a xa) (db : s.heap.DictOfH knd b xb) (hu : A.units < cLine) (hu2 : knd.room A.in1) (hits : xa.length = xb.length → HitsH prog w A.in1 s xb xa r) (E Q : Value → Shared → Prop) (h : Q (.bool (xa.length == xb.length && r)) s) : wpAny (model prog w) A (richCompare .Eq (.ref a) (.ref b)) Q E s := by
  refine wpAny_richCompare_same_room (op := .Eq) da.typeIs db.typeIs PySem.F.slot_dict_eq (wpAny_call_entry PySem.F.slot_dict_eq da.typeIs PySem.F.entry_dict_eq ?_ (PySem.F.args_dict_eq_2 _ _)) hu
  show wpAny _ _ (Builtin.Dict.dictSlotArgs "__eq__" ⟨[.ref a, .ref b], []⟩ >>= _) _ _ s
  refine wpAny_bind ?_
  unfold Builtin.Dict.dictSlotArgs
  refine wpAny_bind (wpAny_notOrdered_dict da.typeIs ?_)
  show wpAny _ _ (pure (Value.ref a, Value.ref b)) _ _ s
  refine wpAny_pure ?_
  refine wpAny_bind (wpAny_isInstance (T := "dict") db.typeIs PySem.F.sub_dict_dict ?_)
  simp only [Bool.not_true, Bool.false_eq_true, if_false]
  refine wpAny_bind (wpAny_pure (wpAny_bind (wpAny_pure ?_)))
  refine wpAny_bind (samePairsH hu2 ha hb da db hits ?_)
  refine wpAny_pure ⟨_, rfl, ?_, ?_⟩
  · exact fun x => nomatch x
  · simpa using h
end
end PySem
/-! Pv8: ==, !=, isinstance, list(..), dict(..), len(..) over the plain data. -/
namespace Pv
open PySem PySem.Spec PyProof.Rows L2

/-! ### the data as the library's PyData -/
def mapO {α β : Type} (f : α → Option β) : List α → Option (List β)
  | [] => some []
  | a :: r => match f a with
    | some b => (match mapO f r with
      | some bs => some (b :: bs)
      | none => none)
    | none => none
def toP : Nat → Sto → D → Option PyData
  | 0, _, _ => none
  | n + 1, S, d => match d with
    | .non => some .none
    | .bl b => some (.bool b)
    | .int i => some (.int i)
    | .str x => some (.str ⟨x.toArray⟩)
    | .tup xs => (match mapO (toP n S) xs with
      | some ps => some (.tuple ps)
      | none => none)
    | .obj k => (match S.at k with
      | some (.lst xs) => (match mapO (toP n S) xs with
        | some ps => some (.list ps)
        | none => none)
      | _ => none)
    | .ty _ => none
    | .cls _ => none
    | .scr => none
section
variable {X : Cx} {G : Gx} {pins : List (Addr × Obj)} {σ : L2.St} {r : Loc2} {S : Sto} {H : Hp} {s : Shared}
theorem mapO_reads {n : Nat} (ih : ∀ {d : D} {p : PyData} {v : V} {u : Value}, toP n S d = some p → RD G r S H d v → RelV v u → ∃ as, Reads s.heap u p as ∧ p.plain = true ∧ p.depth ≤ n) :
    ∀ {xs : List D} {ps : List PyData} {vs : List V} {us : List Value}, mapO (toP n S) xs = some ps → RDs G r S H xs vs → Vals vs us → ∃ as, ReadsAll s.heap us ps as ∧ PyData.plainAll ps = true ∧ PyData.depthAll ps ≤ n
  | [], ps, _, _, e, .nil, .nil => by
    cases e
    exact ⟨_, .nil, rfl, Nat.zero_le _⟩
  | x :: xs, ps, _, _, e, .cons h t, .cons q qs => by
    unfold mapO at e
    split at e
    · rename_i b hb
      split at e
      · rename_i bs hbs
        cases e
        obtain ⟨as1, r1, p1, d1⟩ := ih hb h q
        obtain ⟨as2, r2, p2, d2⟩ := mapO_reads ih hbs t qs
        refine ⟨_, .cons r1 r2, ?_, ?_⟩
        · unfold PyData.plainAll
          rw [p1, p2]; rfl
        · unfold PyData.depthAll
          omega
      · cases e
    · cases e
theorem toP_reads (I : Inv X pins σ H s) (hK : X.K = G.K) (R : Rep G r S H) : ∀ (n : Nat) {d : D} {p : PyData} {v : V} {u : Value}, toP n S d = some p → RD G r S H d v → RelV v u → ∃ as, Reads s.heap u p as ∧ p.plain = true ∧ p.depth ≤ n
  | 0, d, p, v, u, e, _, _ => by cases e
  | n + 1, d, p, v, u, e, h, q => by
    have ih := fun {d : D} {p : PyData} {v : V} {u : Value} => toP_reads I hK R n (d := d) (p := p) (v := v) (u := u)
    unfold toP at e
    cases h with
    | non => cases e; cases q; exact ⟨_, .none, rfl, Nat.zero_le _⟩
    | bl b => cases e; cases q; exact ⟨_, .bool b, rfl, Nat.zero_le _⟩
    | int i => cases e; obtain ⟨t, rfl⟩ := q; exact ⟨_, .int i t, rfl, Nat.zero_le _⟩
    | str x => cases e; obtain ⟨t, rfl⟩ := q; exact ⟨_, .str _ t, rfl, Nat.zero_le _⟩
    | tup hq ht =>
      cases q
      dsimp only at e
      split at e
      · rename_i ps hps
        cases e
        rw [← hK] at hq
        obtain ⟨its, rv, ⟨o, ho, hc, m, hd⟩, _⟩ := I.tuple hq
        obtain ⟨as, r1, p1, d1⟩ := mapO_reads ih hps ht rv
        refine ⟨_, .tuple ho hc hd r1, ?_, ?_⟩
        · unfold PyData.plain; exact p1
        · unfold PyData.depth; omega
      · cases e
    | obj k hl =>
      cases q
      dsimp only at e
      split at e
      · rename_i xs hk
        split at e
        · rename_i ps hps
          cases e
          obtain ⟨vs, h1, h2⟩ := R.obj k _ hk
          obtain ⟨its, rv, ⟨o, m, ho, hc, _, hd⟩, _⟩ := I.list (SqL.of h1)
          obtain ⟨as, r1, p1, d1⟩ := mapO_reads ih hps h2 rv
          refine ⟨_, .list ho hc hd r1, ?_, ?_⟩
          · unfold PyData.plain; exact p1
          · unfold PyData.depth; omega
        · cases e
      · cases e
    | ty t => cases e
    | cls c => cases e
    | scr _ => cases e
end

/-! ### operations by their meaning -/
/-- what o does with two data -/
def rd2 (G : Gx) (o : Op2) : R2 := fun x y H Q => ∃ r S a b d S', Rep G r S H ∧ RD G r S H a x ∧ RD G r S H b y ∧ o a b S = some (d, S') ∧ PoE G r S H d S' Q
theorem ok_rd2 {G : Gx} {o : Op2} : OkOp G o (rd2 G o) := fun r S H x y d S' u v Q R hx hy e p => ⟨r, S, x, y, d, S', R, hx, hy, e, p⟩
/-- a built-in function, a built-in's method by its meaning -/
def spB (G : Gx) (o : EvF) : List V → Hp → VK → Prop := fun vs H Q => spF G o vs H Q E0
section
variable {X : Cx} {G : Gx}
theorem pCallB {x : Str} {p pos : Pos} {e : Expr} {es : List Expr} {id : String} {o : EvF} {f : EvA} (hc : CallR X (.builtin id) (spB G o)) (hg : Gl X x) (hm : X.mg x = none) (hv : bootBuiltins x = some (.builtin id)) (ha : PA X (e :: es) (rdA G f)) (hn : x ≠ "__name__" := by decide) (hdb : (x == ("__debug__" : Str)) = false := by decide)
    (he : starEach (e :: es) X.env = (false, eval e X.env) :: starEach es X.env := by rfl) (hpl : (backTo pos (starEach es X.env)).any (·.1) = false := by rfl) : PE X (.Call (.Name x p) (e :: es) [] pos) (rdE G (vCall o f)) :=
  (pe_callB hc hg hm hv ha hn hdb he hpl).imp fun σ H Q h => by
    have q := rdCall_of (E := E0) h
    obtain ⟨r, env, S, ds, S1, hs, e1, k⟩ := q
    exact ⟨r, env, S, ds, S1, hs, e1, fun r1 H1 vs s1 R1 h1 => by have := k r1 H1 vs s1 R1 h1; dsimp only at this; rw [List.append_nil] at this; exact this⟩
theorem pCallTy {x : Str} {p pos : Pos} {e : Expr} {es : List Expr} {T : String} {o : EvF} {f : EvA} (hc : CallR X (.type T) (spB G o)) (hg : Gl X x) (hm : X.mg x = none) (hv : bootBuiltins x = some (.type T)) (ha : PA X (e :: es) (rdA G f)) (hn : x ≠ "__name__" := by decide) (hdb : (x == ("__debug__" : Str)) = false := by decide)
    (he : starEach (e :: es) X.env = (false, eval e X.env) :: starEach es X.env := by rfl) (hpl : (backTo pos (starEach es X.env)).any (·.1) = false := by rfl) : PE X (.Call (.Name x p) (e :: es) [] pos) (rdE G (vCall o f)) :=
  (pe_callTy hc hg hm hv ha hn hdb he hpl).imp fun σ H Q h => by
    have q := rdCall_of (E := E0) h
    obtain ⟨r, env, S, ds, S1, hs, e1, k⟩ := q
    exact ⟨r, env, S, ds, S1, hs, e1, fun r1 H1 vs s1 R1 h1 => by have := k r1 H1 vs s1 R1 h1; dsimp only at this; rw [List.append_nil] at this; exact this⟩

/-! ### == of data -/
def eqFuel : Nat := 40
def oEq : Op2 := fun x y S => match toP eqFuel S x with
  | some a => (match toP eqFuel S y with
    | some b => some (.bl (PyData.eqv a b), S)
    | none => none)
  | none => none
def oNe : Op2 := fun x y S => match toP eqFuel S x with
  | some a => (match toP eqFuel S y with
    | some b => some (.bl (!PyData.eqv a b), S)
    | none => none)
  | none => none
theorem op_eqP {k : Nat} (hr : Room k X.A) (hK : X.K = G.K := by rfl) : OpR X (compareOp .Eq) (rd2 G oEq) := by
  intro pins s σ H x y v u Q I rx ry h
  obtain ⟨r, S, a, b, d, S', R, ha, hb, e, p⟩ := h
  unfold oEq at e
  split at e
  · rename_i pa ea
    split at e
    · rename_i pb eb
      cases e
      obtain ⟨as, r1, p1, d1⟩ := toP_reads I hK R _ ea ha rx
      obtain ⟨bs, r2, p2, d2⟩ := toP_reads I hK R _ eb hb ry
      refine PySem.SeqAt.eq_plain r1 r2 p1 p2 ?_ ⟨.bl _, H, I, rfl, p r H _ (Step.refl _ _ _) R (.bl _)⟩
      have := hr.units
      have hd : pa.depth ≤ 40 := d1
      omega
    · cases e
  · cases e
theorem op_neP {k : Nat} (hr : Room k X.A) (hK : X.K = G.K := by rfl) : OpR X (compareOp .NotEq) (rd2 G oNe) := by
  intro pins s σ H x y v u Q I rx ry h
  obtain ⟨r, S, a, b, d, S', R, ha, hb, e, p⟩ := h
  unfold oNe at e
  split at e
  · rename_i pa ea
    split at e
    · rename_i pb eb
      cases e
      obtain ⟨as, r1, p1, d1⟩ := toP_reads I hK R _ ea ha rx
      obtain ⟨bs, r2, p2, d2⟩ := toP_reads I hK R _ eb hb ry
      refine PySem.SeqAt.ne_plain r1 r2 p1 p2 ?_ ⟨.bl _, H, I, rfl, p r H _ (Step.refl _ _ _) R (.bl _)⟩
      have := hr.units
      have hd : pa.depth ≤ 40 := d1
      omega
    · cases e
  · cases e

/-! ### dicts in the heap -/
mutual
theorem nested_of {pins : List (Addr × Obj)} {σ : L2.St} {r : Loc2} {S : Sto} {H : Hp} {s : Shared} (I : Inv X pins σ H s) (hK : X.K = G.K) : ∀ (d : D) {v : V} {u : Value} {k : NestedKey}, keyOf d = some k → RD G r S H d v → RelV v u → NestedIs s.heap k u
  | .non, _, _, _, e, h, q => by cases h; cases e; cases q; exact .none
  | .bl true, _, _, _, e, h, q => by cases h; cases e; cases q; exact .bool rfl
  | .bl false, _, _, _, e, h, q => by cases h; cases e; cases q; exact .bool rfl
  | .int i, _, _, _, e, h, q => by cases h; cases e; obtain ⟨t, rfl⟩ := q; exact .int i t
  | .str x, _, _, _, e, h, q => by cases h; cases e; obtain ⟨t, rfl⟩ := q; exact .text _ t
  | .tup xs, _, _, _, e, h, q => by
    cases h with
    | tup hq ht =>
      cases q
      unfold keyOf at e
      split at e
      · rename_i ks hks
        cases e
        rw [← hK] at hq
        obtain ⟨its, rv, ⟨o, ho, hc, m, hd⟩, _⟩ := I.tuple hq
        exact .tup ho hc hd (by simpa using nesteds_of I hK xs hks ht rv)
      · cases e
  | .obj _, _, _, _, e, _, _ => by cases e
  | .ty _, _, _, _, e, _, _ => by cases e
  | .cls _, _, _, _, e, _, _ => by cases e
  | .scr, _, _, _, e, _, _ => by cases e
theorem nesteds_of {pins : List (Addr × Obj)} {σ : L2.St} {r : Loc2} {S : Sto} {H : Hp} {s : Shared} (I : Inv X pins σ H s) (hK : X.K = G.K) : ∀ (ds : List D) {vs : List V} {us : List Value} {ks : List NestedKey}, keysOf ds = some ks → RDs G r S H ds vs → Vals vs us → NestedAll s.heap ks us
  | [], _, _, _, e, h, q => by cases h; cases e; cases q; exact .nil
  | d :: ds, _, _, _, e, h, q => by
    cases h with
    | cons h t =>
      cases q with
      | cons q qs =>
        unfold keysOf at e
        split at e
        · rename_i k hk
          split at e
          · rename_i ks hks
            cases e
            exact .cons (nested_of I hK d hk h q) (nesteds_of I hK ds hks t qs)
          · cases e
        · cases e
end
abbrev XY (p : NestedKey × Addr × V) (q : NestedKey × Addr × Value) : Prop := p.1 = q.1 ∧ p.2.1 = q.2.1 ∧ RelV p.2.2 q.2.2
theorem xy_keys : ∀ {xs : List (NestedKey × Addr × V)} {ys : List (NestedKey × Addr × Value)}, Paired XY xs ys → ys.map (·.1) = xs.map (·.1)
  | _, _, .nil => rfl
  | _, _, .cons h t => by rw [List.map_cons, List.map_cons, xy_keys t, h.1]
theorem rkv_is {pins : List (Addr × Obj)} {σ : L2.St} {r : Loc2} {S : Sto} {H : Hp} {s : Shared} (I : Inv X pins σ H s) (hK : X.K = G.K) : ∀ {kvs : List (D × D)} {xs : List (NestedKey × Addr × V)} {ys : List (NestedKey × Addr × Value)}, RKV G r S H kvs xs → Paired XY xs ys → ∀ y ∈ ys, (nestedKind G.P G.w).is s.heap y.1 y.2.1
  | _, _, _, .nil, .nil, y, hy => by cases hy
  | _, _, _, .cons ⟨h1, h2, h3, _⟩ t, .cons ⟨q1, q2, _⟩ u, y, hy => by
    rcases List.mem_cons.mp hy with rfl | hy
    · rw [← q1, ← q2]
      exact ⟨nested_of I hK _ h1 h3 rfl, h2⟩
    · exact rkv_is I hK t u y hy
theorem RDct.heap {pins : List (Addr × Obj)} {σ : L2.St} {r : Loc2} {S : Sto} {H : Hp} {s : Shared} {k : Nat} {kvs : List (D × D)} {xs : List (NestedKey × Addr × V)} (q : RDct G r S H k kvs xs) (I : Inv X pins σ H s) (hK : X.K = G.K) : ∃ ys, Paired XY xs ys ∧ s.heap.DictOfH (nestedKind G.P G.w) (r.a k) ys := by
  have z := I.hok _ _ q.at_
  obtain ⟨⟨ys, h1, o, es, ep, h2, h3, h4, h5⟩, _, _⟩ := z
  exact ⟨ys, h1, o, es, ep, h2, h3, h4, h5, rkv_is I hK q.rel h1, by rw [xy_keys h1]; exact q.nd⟩
theorem DctO.ok {P : Program} {w : World} {H : Hp} {h : Heap} {a : Addr} {xs : List (NestedKey × Addr × V)} {ys : List (NestedKey × Addr × Value)} (p : Paired XY xs ys) (hd : h.DictOfH (nestedKind P w) a ys) : ObjOk P w H h a (DctO P w a xs) := by
  obtain ⟨o, es, ep, h2, h3, h4, h5, _, _⟩ := hd
  exact ⟨⟨ys, p, o, es, ep, h2, h3, h4, h5⟩, ⟨o, h2⟩, fun h1 h2 ⟨ys, p, o, es, ep, g2, g3⟩ k => ⟨ys, p, o, es, ep, k o g2, g3⟩⟩
theorem Paired.len {α β : Type} {F : α → β → Prop} : ∀ {xs : List α} {ys : List β}, Paired F xs ys → xs.length = ys.length
  | _, _, .nil => rfl
  | _, _, .cons _ t => congrArg Nat.succ (Paired.len t)
/-- a new dict in the store -/
theorem isIns_new_dct {S : Sto} {kvs : List (D × D)} {k : Nat} : IsIns (S.new (.dct kvs)) k ↔ IsIns S k := by
  constructor
  · rintro ⟨c, fs, e⟩
    rw [Sto.new_at] at e
    by_cases h : k = S.n
    · rw [if_pos h] at e; cases e
    · rw [if_neg h] at e; exact ⟨c, fs, e⟩
  · rintro ⟨c, fs, e⟩
    exact ⟨c, fs, at_new_old e⟩
theorem newD {r : Loc2} {S : Sto} {H : Hp} {a : Addr} {kvs : List (D × D)} {xs : List (NestedKey × Addr × V)} (R : Rep G r S H) (hn : H a = none) (hsys : (a == sysModules) = false) (hl : xs.length ≤ sizeLine) (nd : (xs.map (·.1)).Nodup) (rel : RKV G r S H kvs xs) :
    Step r S H (r.put S.n a (r.d S.n)) (S.new (.dct kvs)) (upd H a (DctO G.P G.w a xs)) ∧ Rep G (r.put S.n a (r.d S.n)) (S.new (.dct kvs)) (upd H a (DctO G.P G.w a xs)) := by
  have nl : ∀ k, Live S k → k ≠ S.n := fun k h => Nat.ne_of_lt (live_lt h)
  have na : ∀ k, Live S k → r.a k ≠ a := fun k h e => own_free R hn ⟨k, .inl ⟨h, e.symm⟩⟩
  have ndd : ∀ k, IsIns S k → r.d k ≠ a := fun k h e => own_free R hn ⟨k, .inr ⟨h, e.symm⟩⟩
  have st : Step r S H (r.put S.n a (r.d S.n)) (S.new (.dct kvs)) (upd H a (DctO G.P G.w a xs)) := by
    refine ⟨fun k h => ⟨live_new.mpr (.inl h), put_a_ne (nl k h)⟩, fun k h => ⟨isIns_new_dct.mpr h, put_d_ne (nl k h.live)⟩, fun b o h _ => by rw [upd_ne (ne_of_none h hn)]; exact h, fun b hb => ?_⟩
    obtain ⟨k, ⟨h, z⟩ | ⟨h, z⟩⟩ := hb
    · rcases live_new.mp h with h | rfl
      · rw [put_a_ne (nl k h)] at z
        exact .inl ⟨k, .inl ⟨h, z⟩⟩
      · rw [put_a_same] at z
        rw [z]; exact .inr hn
    · have h := isIns_new_dct.mp h
      rw [put_d_ne (nl k h.live)] at z
      exact .inl ⟨k, .inr ⟨h, z⟩⟩
  refine ⟨st, fun k o e => ?_, fun j k hj hk e => ?_, fun j k hj hk e => ?_, fun j k hj hk e => ?_⟩
  · rw [Sto.new_at] at e
    by_cases h : k = S.n
    · subst h
      rw [if_pos rfl] at e
      cases e
      exact ⟨xs, by rw [put_a_same]; exact upd_same, by rw [put_a_same]; exact hsys, hl, nd, rel.gen (Kp.step R st) st.live⟩
    · rw [if_neg h] at e
      exact RO.mono R st (put_a_ne h) (fun u q => by rw [upd_ne (ne_of_none q hn)]; exact q) (fun _ _ _ => ⟨put_d_ne h, fun u q => by rw [upd_ne (ne_of_none q hn)]; exact q⟩) (R.obj k o e)
  · rcases live_new.mp hj with hj | rfl
    · rcases live_new.mp hk with hk | rfl
      · rw [put_a_ne (nl j hj), put_a_ne (nl k hk)] at e
        exact R.inj j k hj hk e
      · rw [put_a_ne (nl j hj), put_a_same] at e
        exact absurd e (na j hj)
    · rcases live_new.mp hk with hk | rfl
      · rw [put_a_ne (nl k hk), put_a_same] at e
        exact absurd e.symm (na k hk)
      · rfl
  · have hk := isIns_new_dct.mp hk
    rw [put_d_ne (nl k hk.live)] at e
    rcases live_new.mp hj with hj | rfl
    · rw [put_a_ne (nl j hj)] at e
      exact R.ad j k hj hk e
    · rw [put_a_same] at e
      exact ndd k hk e.symm
  · have hk := isIns_new_dct.mp hk
    have hj := isIns_new_dct.mp hj
    rw [put_d_ne (nl k hk.live), put_d_ne (nl j hj.live)] at e
    exact R.dd j k hj hk e
theorem PoE.newD {r0 r : Loc2} {S0 S : Sto} {H0 H : Hp} {Q : VK} {kvs : List (D × D)} {xs : List (NestedKey × Addr × V)} {a : Addr} (R : Rep G r S H) (s0 : Step r0 S0 H0 r S H) (p : PoE G r0 S0 H0 (.obj S.n) (S.new (.dct kvs)) Q) (hn : H a = none) (hsys : (a == sysModules) = false) (hl : xs.length ≤ sizeLine) (nd : (xs.map (·.1)).Nodup) (rel : RKV G r S H kvs xs) : Q (.ref a) (upd H a (DctO G.P G.w a xs)) := by
  obtain ⟨st, R2⟩ := Pv.newD R hn hsys hl nd rel
  refine p (r.put S.n a (r.d S.n)) _ (.ref a) (s0.trans st) R2 ?_
  have z := RD.obj (G := G) (r := r.put S.n a (r.d S.n)) (S := S.new (.dct kvs)) (H := upd H a (DctO G.P G.w a xs)) S.n ⟨_, at_new_new⟩
  rw [put_a_same] at z
  exact z
end
end Pv
/-! Pv9: dict(..), == of dicts. -/
namespace Pv
open PySem PySem.Spec PyProof.Rows L2
section
variable {X : Cx} {G : Gx}
def memK (k : NestedKey) : List NestedKey → Bool
  | [] => false
  | a :: r => match NestedKey.beq a k with
    | true => true
    | false => memK k r
def nodupK : List NestedKey → Bool
  | [] => true
  | a :: r => match memK a r with
    | true => false
    | false => nodupK r
theorem memK_ok {k : NestedKey} : ∀ {l : List NestedKey}, memK k l = false → k ∉ l
  | [], _ => by simp
  | a :: r, h => by
    unfold memK at h
    split at h
    · cases h
    · rename_i e
      intro z
      rcases List.mem_cons.mp z with rfl | z
      · rw [NestedKey.beq_self] at e; cases e
      · exact memK_ok h z
theorem nodupK_ok : ∀ {l : List NestedKey}, nodupK l = true → l.Nodup
  | [], _ => List.nodup_nil
  | a :: r, h => by
    unfold nodupK at h
    split at h
    · cases h
    · rename_i e
      exact List.nodup_cons.mpr ⟨memK_ok e, nodupK_ok h⟩
/-- a list of pairs (key, value) -/
def pairsOf : List D → Option (List (D × D) × List NestedKey)
  | [] => some ([], [])
  | .tup [.tup kx, v] :: r => (match keysOf kx with
    | some ks => (match Nat.ble (NestedKey.depth (.tup ks)) 8 with
      | true => (match pairsOf r with
        | some (kvs, l) => some ((.tup kx, v) :: kvs, .tup ks :: l)
        | none => none)
      | false => none)
    | none => none)
  | _ :: _ => none
theorem pairs_ok {pins : List (Addr × Obj)} {σ : L2.St} {r : Loc2} {S : Sto} {H : Hp} {s : Shared} (I : Inv X pins σ H s) (hK : X.K = G.K) : ∀ {xs : List D} {vs : List V} {us : List Value} {kvs : List (D × D)} {ks : List NestedKey}, pairsOf xs = some (kvs, ks) → RDs G r S H xs vs → Vals vs us →
    ∃ (zs : List (NestedKey × Addr × V)) (ys : List (NestedKey × Addr × Value)) (ts : List Addr), RKV G r S H kvs zs ∧ zs.map (·.1) = ks ∧ Paired XY zs ys ∧ us = ts.map Value.ref ∧ Paired (fun (t : Addr) (y : NestedKey × Addr × Value) => PairAt s.heap t (.ref y.2.1) y.2.2) ts ys
  | [], _, _, kvs, ks, e, .nil, .nil => by
    cases e
    exact ⟨[], [], [], .nil, rfl, .nil, rfl, .nil⟩
  | x :: xs, _, _, kvs, ks, e, .cons h t, .cons q qs => by
    unfold pairsOf at e
    split at e
    · rename_i e0; cases e0
    · rename_i kx v r' e0
      cases e0
      split at e
      · rename_i kk hkk
        split at e
        · rename_i hdep
          split at e
          · rename_i kvs' l' hrec
            cases e
            obtain ⟨zs, ys, ts, g1, g2, g3, g4, g5⟩ := pairs_ok I hK hrec t qs
            cases h with
            | tup hq ht =>
              cases ht with
              | cons h1 ht =>
                cases ht with
                | cons h2 ht =>
                  cases ht
                  cases q
                  rw [← hK] at hq
                  obtain ⟨its, rv, pl, _⟩ := I.tuple hq
                  cases rv with
                  | cons r1 rv =>
                    cases rv with
                    | cons r2 rv =>
                      cases rv
                      cases h1 with
                      | @tup _ ka kvv hq1 ht1 =>
                        cases r1
                        refine ⟨(.tup kk, ka, _) :: zs, (.tup kk, ka, _) :: ys, _ :: ts, .cons ⟨?_, Nat.le_of_ble_eq_true hdep, .tup hq1 ht1, h2⟩ g1, by rw [List.map_cons, g2], .cons ⟨rfl, rfl, r2⟩ g3, by rw [List.map_cons, g4], .cons (.inl pl) g5⟩
                        unfold keyOf
                        rw [hkk]
          · cases e
        · cases e
      · cases e
    · cases e
def oDict : EvF := fun ds S => match ds with
  | [.obj k] => (match S.at k with
    | some (.lst xs) => (match pairsOf xs with
      | some (kvs, ks) => gua (nodupK ks && fits ks.length) (some (.obj S.n, S.new (.dct kvs)))
      | none => none)
    | some (.dct kvs) => gua (Nat.ble kvs.length 1) (some (.obj S.n, S.new (.dct kvs)))
    | _ => none)
  | _ => none
theorem paired_get {α β : Type} {F : α → β → Prop} : ∀ {xs : List α} {ys : List β} {i : Nat} {y : β}, Paired F xs ys → ys[i]? = some y → ∃ x, xs[i]? = some x ∧ F x y
  | _, _, _, _, .nil, e => by simp at e
  | _, _, 0, _, .cons h _, e => by simp at e; subst e; exact ⟨_, rfl, h⟩
  | _, _, i + 1, y, .cons _ t, e => by
    obtain ⟨x, h1, h2⟩ := paired_get (i := i) (y := y) t (by simpa using e)
    exact ⟨x, by simpa using h1, h2⟩
theorem nodup1 {α : Type} : ∀ {l : List α}, l.length ≤ 1 → l.Nodup
  | [], _ => List.nodup_nil
  | [y], _ => List.nodup_cons.mpr ⟨by simp, List.nodup_nil⟩
  | _ :: _ :: _, h => absurd h (by simp)
theorem sys_new {pins : List (Addr × Obj)} {σ : L2.St} {H : Hp} {s : Shared} (I : Inv X pins σ H s) : (s.heap.objs.size == sysModules) = false := by
  have h := I.mod.glob
  obtain ⟨o, es, ep, e, _⟩ := h
  have l1 := Heap.lt_size e
  have l2 := Nat.le_trans I.ok.bsz I.sz
  have l3 : mainGlobals < s.heap.objs.size := Nat.lt_of_lt_of_le l1 l2
  refine Bool.eq_false_iff.mpr fun z => ?_
  have z : s.heap.objs.size = sysModules := by simpa using z
  rw [z] at l3
  exact absurd l3 (by decide)
theorem bi_dict {k : Nat} (hr : Room k X.A) (hP : X.prog = G.P := by rfl) (hw : X.w = G.w := by rfl) (hK : X.K = G.K := by rfl) : CallR X (.type "dict") (spB G oDict) := by
  intro pins s σ H xs us Q I rv h
  obtain ⟨r, ds, S, d, S', R, hds, e, p⟩ := h
  have hroom : (nestedKind G.P G.w).room X.A.in1.in1 := by
    have := hr.units
    show X.A.units + 1 + 1 + 8 < cLine
    omega
  have hn : H s.heap.objs.size = none := I.hok.fresh (Nat.le_refl _)
  have hsys := sys_new I
  unfold oDict at e
  split at e
  · rename_i kk
    cases hds with
    | cons hd ht =>
      cases ht
      cases rv with
      | cons q qs =>
        cases qs
        cases hd
        cases q
        split at e
        · rename_i ys hk
          split at e
          · rename_i kvs ks hpk
            obtain ⟨hc, e⟩ := gua_some e
            cases e
            rw [Bool.and_eq_true_iff] at hc
            obtain ⟨hnd, hfit⟩ := hc
            obtain ⟨vs, g1, g2⟩ := R.obj kk _ hk
            obtain ⟨its, rv, pl, hz⟩ := I.list (SqL.of g1)
            obtain ⟨zs, yy, ts, f1, f2, f3, f4, f5⟩ := pairs_ok I hK hpk g2 rv
            have hlen : zs.length = yy.length := Paired.len f3
            have hlt : ts.length = yy.length := Paired.len f5
            rw [hP, hw]
            refine call_dict_pairsH (knd := nestedKind G.P G.w) (ps := yy) (PairArg.list (r.a kk) its.toArray (fun j => ts.getD j 0) (yy.map fun y => (Value.ref y.2.1, y.2.2))) hr.hd hroom ⟨pl, ?_, fun j k v hj => ?_⟩ ⟨by simp, fun i key v hi => ?_⟩ (fun h' hk' x hx => ?_) ?_ fun h' tk hd' hkp => ?_
            · rw [f4]; simp [hlt]
            · rw [List.getElem?_map] at hj
              cases hy : yy[j]? with
              | none => rw [hy] at hj; cases hj
              | some y =>
                rw [hy] at hj
                cases hj
                obtain ⟨t, ht, pa⟩ := paired_get f5 hy
                have e1 : ts.getD j 0 = t := by rw [List.getD_eq_getElem?_getD, ht]; rfl
                dsimp only
                rw [e1]
                refine ⟨?_, pa⟩
                rw [f4]
                simp [ht]
            · have hi : (yy.map fun y => (Value.ref y.2.1, y.2.2))[i]? = some (key, v) := hi
              rw [List.getElem?_map] at hi
              cases hy : yy[i]? with
              | none => rw [hy] at hi; cases hi
              | some y =>
                rw [hy] at hi
                cases hi
                exact ⟨_, _, rfl, rfl⟩
            · have z := rkv_is I hK f1 f3 x hx
              exact ⟨NestedIs.at (fun b o vs n hb _ => hk' b o (Nat.ne_of_lt (Heap.lt_size hb)) (by simp) hb) _ _ z.1, z.2⟩
            · rw [List.length_map, ← hlen]
              have : ks.length = zs.length := by rw [← f2, List.length_map]
              rw [← this]
              exact fits_le hfit
            · have hnd' : (yy.map (·.1)).Nodup := by rw [xy_keys f3, f2]; exact nodupK_ok hnd
              rw [storedAllH_nil_of_nodup yy hnd'] at hd'
              refine ⟨.ref s.heap.objs.size, _, ?_, rfl, PoE.newD (xs := zs) R (Step.refl _ _ _) p hn hsys ?_ ?_ f1⟩
              · refine I.laid (t' := tk) (fun b u z => hkp b u (by simp) z) (Nat.le_refl _) ?_
                rw [hP, hw]
                exact DctO.ok f3 hd'
              · have : ks.length = zs.length := by rw [← f2, List.length_map]
                rw [← this]
                exact fits_le hfit
              · rw [f2]; exact nodupK_ok hnd
          · cases e
        · rename_i kvs hk
          obtain ⟨hc, e⟩ := gua_some e
          cases e
          obtain ⟨zs, q⟩ := R.obj kk _ hk
          obtain ⟨yy, f3, hd⟩ := q.heap I hK
          have hl1 : zs.length ≤ 1 := by
            have : kvs.length = zs.length := Paired.len q.rel
            rw [← this]
            exact Nat.le_of_ble_eq_true hc
          have hly : yy.length ≤ 1 := by rw [← Paired.len f3]; exact hl1
          have his : ∀ (h' : Heap), (∀ b u, s.heap.get? b = some u → h'.get? b = some u) → ∀ x ∈ yy, (nestedKind G.P G.w).is h' x.1 x.2.1 := fun h' kp x hx => by
            have z := rkv_is I hK q.rel f3 x hx
            exact ⟨NestedIs.at (fun b o _ _ hb _ => kp b o hb) _ _ z.1, z.2⟩
          rw [hP, hw]
          refine pv_call_dictH hroom q.sys hd ?_ his ⟨fun x hx => ?_, ?_⟩ fun h' hd' kp => ?_
          · rw [← Paired.len f3]; exact q.len
          · have z := (rkv_is I hK q.rel f3 x hx).1
            obtain ⟨x1, x2, x3⟩ := x
            dsimp only at z
            cases z with
            | tup h1 h2 _ _ => exact ⟨_, h1, h2⟩
          · exact nodup1 (by rw [List.length_map]; exact hly)
          · refine ⟨.ref s.heap.objs.size, _, ?_, rfl, PoE.newD (xs := zs) R (Step.refl _ _ _) p hn hsys q.len q.nd q.rel⟩
            refine I.laid (t' := s.toks) kp (Nat.le_refl _) ?_
            rw [hP, hw]
            exact DctO.ok f3 hd'
        · cases e
  · cases e

/-! ### == of dicts -/
def findK (k : NestedKey) : List (D × D) → Option D
  | [] => none
  | (a, v) :: r => match keyOf a with
    | some k' => (match NestedKey.beq k' k with
      | true => some v
      | false => findK k r)
    | none => findK k r
theorem findK_some {r : Loc2} {S : Sto} {H : Hp} {k : NestedKey} {d : D} : ∀ {kvs : List (D × D)} {xs : List (NestedKey × Addr × V)}, RKV G r S H kvs xs → findK k kvs = some d → ∃ (j : Nat) (a : Addr) (y : V), xs[j]? = some (k, a, y) ∧ RD G r S H d y
  | _, _, .nil, e => by cases e
  | _, _, .cons (a := kv) (b := x) ⟨h1, _, h3, h4⟩ t, e => by
    obtain ⟨kd, vd⟩ := kv
    obtain ⟨k', a, y⟩ := x
    unfold findK at e
    rw [show keyOf kd = some k' from h1] at e
    dsimp only at e
    cases hb : NestedKey.beq k' k with
    | true =>
      rw [hb] at e
      cases e
      have := NestedKey.eq_of_beq _ _ hb
      subst this
      exact ⟨0, a, y, rfl, h4⟩
    | false =>
      rw [hb] at e
      obtain ⟨j, a', y', g1, g2⟩ := findK_some t e
      exact ⟨j + 1, a', y', by simpa using g1, g2⟩
theorem findK_none {r : Loc2} {S : Sto} {H : Hp} {k : NestedKey} : ∀ {kvs : List (D × D)} {xs : List (NestedKey × Addr × V)}, RKV G r S H kvs xs → findK k kvs = none → ∀ (j : Nat) (p : Addr × V), xs[j]? ≠ some (k, p)
  | _, _, .nil, _, j, p => by simp
  | _, _, .cons (a := kv) (b := x) ⟨h1, _, h3, h4⟩ t, e, j, p => by
    obtain ⟨kd, vd⟩ := kv
    obtain ⟨k', a, y⟩ := x
    unfold findK at e
    rw [show keyOf kd = some k' from h1] at e
    dsimp only at e
    cases hb : NestedKey.beq k' k with
    | true => rw [hb] at e; cases e
    | false =>
      rw [hb] at e
      cases j with
      | zero =>
        intro z
        cases z
        rw [NestedKey.beq_self] at hb
        cases hb
      | succ j =>
        intro z
        exact findK_none t e j p (by simpa using z)
def hitsD (S : Sto) (kb : List (D × D)) : List (D × D) → Option Bool
  | [] => some true
  | (k, v) :: r => match keyOf k with
    | none => none
    | some kk => match findK kk kb with
      | none => some false
      | some v' => match toP eqFuel S v with
        | none => none
        | some a => match toP eqFuel S v' with
          | none => none
          | some b => match hitsD S kb r with
            | none => none
            | some c => some (PyData.eqv a b && c)
theorem xy_get : ∀ {xs : List (NestedKey × Addr × V)} {ys : List (NestedKey × Addr × Value)} {j : Nat} {x : NestedKey × Addr × V}, Paired XY xs ys → xs[j]? = some x → ∃ u, ys[j]? = some (x.1, x.2.1, u) ∧ RelV x.2.2 u
  | _, _, _, _, .nil, e => by simp at e
  | _, _, 0, _, .cons (b := y) h _, e => by
    simp at e; subst e
    obtain ⟨y1, y2, y3⟩ := y
    obtain ⟨h1, h2, h3⟩ := h
    exact ⟨y3, by rw [h1, h2]; rfl, h3⟩
  | _, _, j + 1, x, .cons _ t, e => by
    obtain ⟨u, h1, h2⟩ := xy_get (j := j) (x := x) t (by simpa using e)
    exact ⟨u, by simpa using h1, h2⟩
theorem hits_ok {pins : List (Addr × Obj)} {σ : L2.St} {r : Loc2} {S : Sto} {H : Hp} {s : Shared} {A : Around} (I : Inv X pins σ H s) (hK : X.K = G.K) (R : Rep G r S H) (hu : A.units + 40 < cLine) {kb : List (D × D)} {xb : List (NestedKey × Addr × V)} {yb : List (NestedKey × Addr × Value)} (rb : RKV G r S H kb xb) (pb : Paired XY xb yb) :
    ∀ {ka : List (D × D)} {xa : List (NestedKey × Addr × V)} {ya : List (NestedKey × Addr × Value)} {c : Bool}, RKV G r S H ka xa → Paired XY xa ya → hitsD S kb ka = some c → HitsH G.P G.w A s yb ya c
  | _, _, _, c, .nil, .nil, e => by cases e; exact .nil
  | _, _, _, c, .cons (a := kv) (b := x) ⟨h1, _, h3, h4⟩ t, .cons (b := y) ⟨q1, q2, q3⟩ u, e => by
    obtain ⟨kd, vd⟩ := kv
    obtain ⟨k', a, xv⟩ := x
    obtain ⟨y1, y2, y3⟩ := y
    dsimp only at q1 q2 q3 h1 h3 h4
    subst q1 q2
    unfold hitsD at e
    rw [h1] at e
    dsimp only at e
    cases hf : findK k' kb with
    | none =>
      rw [hf] at e
      cases e
      refine .miss fun j p z => ?_
      obtain ⟨xx, g1, g2, g3, g4⟩ := paired_get pb z
      obtain ⟨b1, b2, b3⟩ := xx
      dsimp only at g2 g3 g4
      subst g2
      exact findK_none rb hf j (b2, b3) g1
    | some v' =>
      rw [hf] at e
      dsimp only at e
      split at e
      · cases e
      · rename_i pa ea
        split at e
        · cases e
        · rename_i pb' eb
          split at e
          · cases e
          · rename_i c' ec
            cases e
            obtain ⟨j, ba, by_, g1, g2⟩ := findK_some rb hf
            obtain ⟨w, g3, g4⟩ := xy_get pb g1
            obtain ⟨as, r1, p1, d1⟩ := toP_reads I hK R _ ea h4 q3
            obtain ⟨bs, r2, p2, d2⟩ := toP_reads I hK R _ eb g2 g4
            have hd : pa.depth ≤ 40 := d1
            exact .hit g3 (SeqAt.EqAt.eqP (SeqAt.eqAt_plain pa pb' A s _ _ as bs r1 r2 p1 p2 (by omega))) (hits_ok I hK R hu rb pb t u ec)
def oEqDct : Op2 := fun x y S => match x, y with
  | .obj j, .obj k => (match S.at j, S.at k with
    | some (.dct ka), some (.dct kb) => (match Nat.beq ka.length kb.length with
      | true => (match hitsD S kb ka with
        | some c => some (.bl c, S)
        | none => none)
      | false => some (.bl false, S))
    | _, _ => none)
  | _, _ => none
theorem op_eqDct {k : Nat} (hr : Room k X.A) (hP : X.prog = G.P := by rfl) (hw : X.w = G.w := by rfl) (hK : X.K = G.K := by rfl) : OpR X (compareOp .Eq) (rd2 G oEqDct) := by
  intro pins s σ H x y v u Q I rx ry h
  obtain ⟨r, S, a, b, d, S', R, ha, hb, e, p⟩ := h
  unfold oEqDct at e
  split at e
  · rename_i j k'
    cases ha
    cases hb
    cases rx
    cases ry
    split at e
    · rename_i ka kb hja hkb
      obtain ⟨xa, qa⟩ := R.obj j _ hja
      obtain ⟨xb, qb⟩ := R.obj k' _ hkb
      obtain ⟨ya, pa, da⟩ := qa.heap I hK
      obtain ⟨yb, pb, db⟩ := qb.heap I hK
      have hu := hr.units
      have l1 : ya.length = ka.length := (Paired.len pa).symm.trans (Paired.len qa.rel).symm
      have l2 : yb.length = kb.length := (Paired.len pb).symm.trans (Paired.len qb.rel).symm
      rw [hP, hw]
      show wpAny _ _ (richCompare .Eq _ _) _ _ _
      cases hl : Nat.beq ka.length kb.length with
      | true =>
        rw [hl] at e
        have hl' : ka.length = kb.length := Nat.eq_of_beq_eq_true hl
        dsimp only at e
        split at e
        · rename_i c hc
          cases e
          refine rcH_dicts (r := c) qa.sys qb.sys da db (by omega) (by show X.A.units + 1 + 8 < cLine; omega) (fun _ => hits_ok I hK R (by show X.A.units + 1 + 40 < cLine; omega) qb.rel pb qa.rel pa hc) _ _ ?_
          have e1 : (ya.length == yb.length) = true := by rw [l1, l2, hl']; simp
          rw [e1, Bool.true_and]
          exact ⟨.bl c, H, I, rfl, p r H _ (Step.refl _ _ _) R (.bl _)⟩
        · cases e
      | false =>
        rw [hl] at e
        cases e
        have hne : ka.length ≠ kb.length := fun z => by rw [z] at hl; rw [Nat.beq_refl] at hl; cases hl
        refine rcH_dicts (r := true) qa.sys qb.sys da db (by omega) (by show X.A.units + 1 + 8 < cLine; omega) (fun z => absurd (l1.symm.trans (z.trans l2)) hne) _ _ ?_
        have e1 : (ya.length == yb.length) = false := by rw [l1, l2]; simpa using hne
        rw [e1, Bool.false_and]
        exact ⟨.bl false, H, I, rfl, p r H _ (Step.refl _ _ _) R (.bl _)⟩
    · cases e
  · cases e
end
end Pv
/-! Pv10: isinstance, list(..), len(..), methods of lists and dicts, == and != of instances, stores by place. -/
namespace Pv
open PySem PySem.Spec PyProof.Rows L2

structure ClsOk (G : Gx) (nc : Nat) : Prop where
  sc : ∀ c, c < nc → SlX.SCls G.K (G.cA c)
  si : ∀ c, c < nc → SlX.SIsi G.K (G.cA c)
  oo : ∀ c c', c < nc → c' < nc → PySem.W.kitOne G.K (.ref (G.cA c)) (.ref (G.cA c')) = some (Nat.beq c c')
  ot : ∀ c, c < nc → ∀ t : Tg, PySem.W.kitOne G.K (.ref (G.cA c)) (.type t.name) = some false
  to_ : ∀ c, c < nc → ∀ t : Tg, PySem.W.kitOne G.K (.type t.name) (.ref (G.cA c)) = some false
def tagOf (d : D) (S : Sto) : Option (Sum Tg Nat) := match d with
  | .non => some (.inl .none)
  | .bl _ => some (.inl .bool)
  | .int _ => some (.inl .int)
  | .str _ => some (.inl .str)
  | .tup _ => some (.inl .tuple)
  | .obj k => (match S.at k with
    | some (.lst _) => some (.inl .list)
    | some (.dct _) => some (.inl .dict)
    | some (.ins c _) => some (.inr c)
    | none => none)
  | .ty _ => none
  | .cls _ => none
  | .scr => some (.inl .list)
def tyVal (G : Gx) : Sum Tg Nat → Value
  | .inl t => .type t.name
  | .inr c => .ref (G.cA c)
section
variable {X : Cx} {G : Gx}
theorem kitD {nc : Nat} {pins : List (Addr × Obj)} {σ : L2.St} {r : Loc2} {S : Sto} {H : Hp} {s : Shared} {d : D} {v : V} {u : Value} {t : Sum Tg Nat} (cl : ClsOk G nc) (I : Inv X pins σ H s) (hK : X.K = G.K) (R : Rep G r S H) (h : RD G r S H d v) (q : RelV v u) (e : tagOf d S = some t) (ht : ∀ c, t = .inr c → c < nc) :
    ∃ P : Heap → Prop, PySem.W.KitX X.K u (tyVal G t) P ∧ P s.heap ∧ ∀ b, u ≠ .builtin b := by
  cases h with
  | non => cases e; cases q; exact ⟨_, PySem.W.kitx_none, True.intro, fun _ z => nomatch z⟩
  | bl b => cases e; cases q; exact ⟨_, PySem.W.kitx_bool, True.intro, fun _ z => nomatch z⟩
  | int i => cases e; obtain ⟨t, rfl⟩ := q; exact ⟨_, PySem.W.kitx_int, True.intro, fun _ z => nomatch z⟩
  | str x => cases e; obtain ⟨t, rfl⟩ := q; exact ⟨_, PySem.W.kitx_str, True.intro, fun _ z => nomatch z⟩
  | tup hq ht =>
    cases e; cases q
    rw [← hK] at hq
    obtain ⟨its, rv, ⟨o, ho, hc, m, hd⟩, _⟩ := I.tuple hq
    exact ⟨_, PySem.W.kitx_tuple, ⟨o, ho, hc⟩, fun _ z => nomatch z⟩
  | obj k hl =>
    cases q
    unfold tagOf at e
    dsimp only at e
    split at e
    · rename_i xs hk
      cases e
      obtain ⟨vs, h1, h2⟩ := R.obj k _ hk
      obtain ⟨its, rv, ⟨o, m, ho, hc, _, hd⟩, _⟩ := I.list (SqL.of h1)
      exact ⟨_, PySem.W.kitx_list, ⟨o, ho, hc⟩, fun _ z => nomatch z⟩
    · rename_i kvs hk
      cases e
      obtain ⟨xs, q⟩ := R.obj k _ hk
      obtain ⟨ys, p, o, es, ep, h1, h2, _⟩ := q.heap I hK
      exact ⟨_, PySem.W.kitx_dict, ⟨o, h1, h2.1⟩, fun _ z => nomatch z⟩
    · rename_i c fs hk
      cases e
      obtain ⟨vs, h1, _⟩ := R.obj k _ hk
      have hc := ht c rfl
      obtain ⟨sl, od, _, J, _⟩ := SlX.slt_inst I h1
      have sc := cl.sc c hc
      have si := cl.si c hc
      rw [← hK] at sc si
      exact ⟨_, OwX.kitx_slt sc.ic (sc.get _) si.ca si.cn si.ct si.cm, J, fun _ z => nomatch z⟩
    · cases e
  | ty t => cases e
  | cls c => cases e
  | scr hs =>
    cases e; cases q
    obtain ⟨its, rv, ⟨o, m, ho, hc, _, hd⟩, _⟩ := I.list (show SqL X.K H G.sa _ by rw [hK]; exact hs.sql)
    exact ⟨_, PySem.W.kitx_list, ⟨o, ho, hc⟩, fun _ z => nomatch z⟩
def tgLe : Tg → Tg → Bool
  | .int, .int => true
  | .str, .str => true
  | .bool, .bool => true
  | .bool, .int => true
  | .list, .list => true
  | .tuple, .tuple => true
  | .dict, .dict => true
  | .none, .none => true
  | _, _ => false
theorem tgLe_ok {K : PySem.W.Frag} : ∀ a b : Tg, PySem.W.kitOne K (.type a.name) (.type b.name) = some (tgLe a b) := by
  intro a b
  cases a <;> cases b <;> exact kit_ty (by decide +kernel)
def isaOne (nc : Nat) (t : Sum Tg Nat) (c : D) : Option Bool := match t, c with
  | .inl a, .ty b => some (tgLe a b)
  | .inl _, .cls c => gua (Nat.blt c nc) (some false)
  | .inr c, .ty _ => gua (Nat.blt c nc) (some false)
  | .inr c, .cls c' => gua (Nat.blt c nc) (gua (Nat.blt c' nc) (some (Nat.beq c c')))
  | _, _ => none
def clsVal (G : Gx) : D → Value
  | .ty t => .type t.name
  | .cls c => .ref (G.cA c)
  | _ => .none
theorem isaOne_ok {nc : Nat} {t : Sum Tg Nat} {c : D} {b : Bool} (cl : ClsOk G nc) (h : isaOne nc t c = some b) : PySem.W.kitOne G.K (tyVal G t) (clsVal G c) = some b ∧ ((∃ k, c = .ty k) ∨ ∃ k, c = .cls k) := by
  unfold isaOne at h
  split at h
  · cases h; exact ⟨tgLe_ok _ _, .inl ⟨_, rfl⟩⟩
  · obtain ⟨h1, h⟩ := gua_some h
    cases h; exact ⟨cl.to_ _ (Nat.le_of_ble_eq_true h1) _, .inr ⟨_, rfl⟩⟩
  · obtain ⟨h1, h⟩ := gua_some h
    cases h; exact ⟨cl.ot _ (Nat.le_of_ble_eq_true h1) _, .inl ⟨_, rfl⟩⟩
  · obtain ⟨h1, h⟩ := gua_some h
    obtain ⟨h2, h⟩ := gua_some h
    cases h; exact ⟨cl.oo _ _ (Nat.le_of_ble_eq_true h1) (Nat.le_of_ble_eq_true h2), .inr ⟨_, rfl⟩⟩
  · cases h
def isaAny (nc : Nat) (t : Sum Tg Nat) : List D → Option Bool
  | [] => some false
  | c :: r => match isaOne nc t c with
    | none => none
    | some b => match isaAny nc t r with
      | none => none
      | some b' => some (b || b')
theorem isaAny_ok {nc : Nat} {t : Sum Tg Nat} (cl : ClsOk G nc) : ∀ {cs : List D} {b : Bool}, isaAny nc t cs = some b → PySem.W.kitAny G.K (tyVal G t) (cs.map (clsVal G)) = some b ∧ ∀ c ∈ cs, (∃ k, c = .ty k) ∨ ∃ k, c = .cls k
  | [], b, h => by cases h; exact ⟨rfl, fun _ z => by cases z⟩
  | c :: r, b, h => by
    unfold isaAny at h
    split at h
    · cases h
    · rename_i b1 h1
      split at h
      · cases h
      · rename_i b2 h2
        cases h
        obtain ⟨g1, g2⟩ := isaOne_ok cl h1
        obtain ⟨g3, g4⟩ := isaAny_ok cl h2
        refine ⟨?_, fun x hx => ?_⟩
        · show PySem.W.kitAny G.K (tyVal G t) (clsVal G c :: r.map (clsVal G)) = _
          unfold PySem.W.kitAny
          rw [g1]
          cases b1 with
          | true => rfl
          | false => exact g3
        · rcases List.mem_cons.mp hx with rfl | hx
          · exact g2
          · exact g4 x hx
theorem clsVal_rel {r : Loc2} {S : Sto} {H : Hp} {c : D} {v : V} {u : Value} (h : RD G r S H c v) (q : RelV v u) (hc : (∃ k, c = .ty k) ∨ ∃ k, c = .cls k) : u = clsVal G c := by
  rcases hc with ⟨k, rfl⟩ | ⟨k, rfl⟩
  · cases h; exact q
  · cases h; exact q
theorem clsVal_rels {r : Loc2} {S : Sto} {H : Hp} : ∀ {cs : List D} {vs : List V} {us : List Value}, RDs G r S H cs vs → Vals vs us → (∀ c ∈ cs, (∃ k, c = .ty k) ∨ ∃ k, c = .cls k) → us = cs.map (clsVal G)
  | _, _, _, .nil, .nil, _ => rfl
  | _, _, _, .cons h t, .cons q qs, hc => by
    rw [List.map_cons, ← clsVal_rel h q (hc _ List.mem_cons_self), ← clsVal_rels t qs fun c hm => hc c (List.mem_cons_of_mem _ hm)]
def oIsi (nc : Nat) : EvF := fun ds S => match ds with
  | [x, c] => (match tagOf x S with
    | none => none
    | some t => gua (match t with | .inl _ => true | .inr k => Nat.blt k nc) (match c with
      | .tup cs => (match isaAny nc t cs with
        | some b => some (.bl b, S)
        | none => none)
      | c => (match isaOne nc t c with
        | some b => some (.bl b, S)
        | none => none)))
  | _ => none
theorem bi_isi {nc : Nat} (cl : ClsOk G nc) (hK : X.K = G.K := by rfl) : CallR X (.builtin "isinstance") (spB G (oIsi nc)) := by
  intro pins s σ H xs us Q I rv h
  obtain ⟨r, ds, S, d, S', R, hds, e, p⟩ := h
  unfold oIsi at e
  split at e
  · rename_i x c
    cases hds with
    | cons hx ht =>
      cases ht with
      | cons hc ht =>
        cases ht
        obtain ⟨u1, u2, rfl, r1, r2⟩ := rv.two
        split at e
        · cases e
        · rename_i t et
          obtain ⟨hg, e⟩ := gua_some e
          obtain ⟨P, Z, pp, hne⟩ := kitD cl I hK R hx r1 et (fun c hc => by rw [hc] at hg; exact Nat.le_of_ble_eq_true hg)
          split at e
          · rename_i cs
            split at e
            · rename_i b hb
              cases e
              obtain ⟨g1, g2⟩ := isaAny_ok cl hb
              cases hc with
              | tup hq ht =>
                cases r2
                rw [← hK] at hq
                obtain ⟨its, rv2, ⟨o, ho, hoc, m, hd⟩, _⟩ := I.tuple hq
                have e3 := clsVal_rels ht rv2 g2
                obtain ⟨oc, od, dt, sl⟩ := o
                simp only at hoc hd
                subst hoc hd
                rw [← hK, ← e3] at g1
                exact PySem.W.kia_tup Z I.kIn pp ho g1 (hne _) fun tk => ⟨.bl b, H, I.tok tk, rfl, p r H _ (Step.refl _ _ _) R (.bl b)⟩
            · cases e
          · split at e
            · rename_i b hb
              cases e
              obtain ⟨g1, g2⟩ := isaOne_ok cl hb
              have e3 := clsVal_rel hc r2 g2
              rw [← hK, ← e3] at g1
              exact PySem.W.kia_one Z I.kIn pp g1 (hne _) fun tk => ⟨.bl b, H, I.tok tk, rfl, p r H _ (Step.refl _ _ _) R (.bl b)⟩
            · cases e
  · cases e

/-! ### list(..), len(..) -/
def oList : EvF := fun ds S => match ds with
  | [.tup xs] => some (.obj S.n, S.new (.lst xs))
  | [.obj k] => (match S.at k with
    | some (.lst xs) => some (.obj S.n, S.new (.lst xs))
    | _ => none)
  | _ => none
theorem bi_list (hK : X.K = G.K := by rfl) : CallR X (.type "list") (spB G oList) := by
  intro pins s σ H xs us Q I rv h
  obtain ⟨r, ds, S, d, S', R, hds, e, p⟩ := h
  unfold oList at e
  split at e
  · cases e
    cases hds with
    | cons hx ht =>
      cases ht
      cases hx with
      | tup hq hr =>
        rw [← hK] at hq
        exact call_list_of pins s σ H _ us Q I rv ⟨_, _, rfl, .inr hq, fun l hl => PoE.newL R (Step.refl _ _ _) p hl hr⟩
  · rename_i k
    split at e
    · rename_i ys hk
      cases e
      cases hds with
      | cons hx ht =>
        cases ht
        cases hx
        obtain ⟨vs, h1, h2⟩ := R.obj k _ hk
        exact call_list_of pins s σ H _ us Q I rv ⟨_, _, rfl, .inl (SqL.of h1), fun l hl => PoE.newL R (Step.refl _ _ _) p hl h2⟩
    · cases e
  · cases e
def oLen : EvF := fun ds S => match ds with
  | [.tup xs] => some (.int xs.length, S)
  | [.obj k] => (match S.at k with
    | some (.lst xs) => some (.int xs.length, S)
    | _ => none)
  | _ => none
theorem bi_len (hK : X.K = G.K := by rfl) : CallR X (.builtin "len") (spB G oLen) := by
  intro pins s σ H xs us Q I rv h
  obtain ⟨r, ds, S, d, S', R, hds, e, p⟩ := h
  unfold oLen at e
  split at e
  · cases e
    cases hds with
    | cons hx ht =>
      cases ht
      cases hx with
      | tup hq hr =>
        rw [← hK] at hq
        refine call_len pins s σ H _ us Q I rv ⟨_, _, rfl, .inr ⟨_, hq, rfl⟩, ?_⟩
        rw [← hr.length]
        exact p r H _ (Step.refl _ _ _) R (.int _)
  · rename_i k
    split at e
    · rename_i ys hk
      cases e
      cases hds with
      | cons hx ht =>
        cases ht
        cases hx
        obtain ⟨vs, h1, h2⟩ := R.obj k _ hk
        refine call_len pins s σ H _ us Q I rv ⟨_, _, rfl, .inl ⟨_, SqL.of h1, rfl⟩, ?_⟩
        rw [← h2.length]
        exact p r H _ (Step.refl _ _ _) R (.int _)
    · cases e
  · cases e

/-! ### methods of lists -/
def isL (d : D) (S : Sto) : Bool := match d with
  | .obj k => (match S.at k with
    | some (.lst _) => true
    | _ => false)
  | _ => false
theorem isL_ok {d : D} {S : Sto} (h : isL d S = true) : ∃ k xs, d = .obj k ∧ S.at k = some (.lst xs) := by
  unfold isL at h
  split at h
  · rename_i k
    split at h
    · rename_i xs hk; exact ⟨k, xs, rfl, hk⟩
    · cases h
  · cases h
def vMethL (o : EvF) (f : EvE) (g : EvA) : EvE := fun env S => bnd (f env S) fun d S => gua (isL d S) (bnd (g env S) fun ds S => o (d :: ds) S)
theorem pMethL {name : Str} {id : String} {o : EvF} {ob e : Expr} {es : List Expr} {f : EvE} {g : EvA} {apos cpos : Pos} (slot : Slot "list" name id) (hty : typeOf (.builtin id) = pure (.type "method_descriptor")) (hm : MtR X id (fun x xs H Q => spF G o (x :: xs) H Q E0)) (ho : PE X ob (rdE G f)) (ha : PA X (e :: es) (rdA G g))
    (hbase : attributeBase ob name X.env (eval ob X.env) = eval ob X.env := by rfl)
    (hfew : ((backTo cpos (starEach (e :: es) X.env)).all (fun x => !x.1) && (backToKw cpos (keywordEach [] X.env)).all (fun x => x.1.isSome)
      && decide ((e :: es).length + ([] : List Keyword).length + (if ([] : List Keyword).isEmpty then 0 else 1) < 30)) = true := by rfl)
    (hline : (apos.endLine == cpos.line) = true := by rfl) (hs : starEach (e :: es) X.env = (false, eval e X.env) :: starEach es X.env := by rfl) (hplain : (backTo cpos (starEach es X.env)).any (·.1) = false := by rfl) :
    PE X (.Call (.Attribute ob name apos) (e :: es) [] cpos) (rdE G (vMethL o f g)) :=
  (pe_bm PySem.F.plainAttrs_list slot hty hm ho ha hbase hfew hline hs hplain).imp fun σ H Q ⟨r, env, S, d, S', hs, ee, p⟩ => by
    obtain ⟨x, S1, e1, ee⟩ := bnd_some ee
    obtain ⟨hl, ee⟩ := gua_some ee
    obtain ⟨ds, S2, e2, ee⟩ := bnd_some ee
    obtain ⟨k, xs, rfl, hk⟩ := isL_ok hl
    refine ⟨r, env, S, _, S1, hs, e1, fun r1 H1 v s1 R1 h1 => ?_⟩
    have h1' := h1
    cases h1
    obtain ⟨vs, g1, g2⟩ := R1.obj k _ hk
    refine ⟨.inl ⟨rfl, vs, SqL.of g1⟩, rdA_next hs s1 R1 e2 fun r2 H2 ws s2 R2 h2 => ?_⟩
    exact ⟨r2, .obj k :: ds, S2, d, S', R2, .cons (h1'.step R1 s2) h2, ee, p.after (s1.trans s2)⟩
def vMethL0 (o : EvF) (f : EvE) : EvE := fun env S => bnd (f env S) fun d S => gua (isL d S) (o [d] S)
theorem pMethL0 {name : Str} {id : String} {o : EvF} {ob : Expr} {f : EvE} {apos cpos : Pos} (slot : Slot "list" name id) (hty : typeOf (.builtin id) = pure (.type "method_descriptor")) (hm : MtR X id (fun x xs H Q => spF G o (x :: xs) H Q E0)) (ho : PE X ob (rdE G f))
    (hbase : attributeBase ob name X.env (eval ob X.env) = eval ob X.env := by rfl) (hline : (apos.endLine == cpos.line) = true := by rfl) : PE X (.Call (.Attribute ob name apos) [] [] cpos) (rdE G (vMethL0 o f)) :=
  (pe_bm0 PySem.F.plainAttrs_list slot hty hm ho hbase hline).imp fun σ H Q ⟨r, env, S, d, S', hs, ee, p⟩ => by
    obtain ⟨x, S1, e1, ee⟩ := bnd_some ee
    obtain ⟨hl, ee⟩ := gua_some ee
    obtain ⟨k, xs, rfl, hk⟩ := isL_ok hl
    refine ⟨r, env, S, _, S1, hs, e1, fun r1 H1 v s1 R1 h1 => ?_⟩
    have h1' := h1
    cases h1
    obtain ⟨vs, g1, g2⟩ := R1.obj k _ hk
    exact ⟨.inl ⟨rfl, vs, SqL.of g1⟩, r1, [.obj k], S1, d, S', R1, .cons h1' .nil, ee, p.after s1⟩
def oCount : EvF := fun ds S => match ds with
  | [.obj k, x] => (match S.at k with
    | some (.lst xs) => (match mapO (toP eqFuel S) xs with
      | some ps => (match toP eqFuel S x with
        | some q => some (.int ((ps.countP fun y => PyData.eqv y q : Nat) : Int), S)
        | none => none)
      | none => none)
    | _ => none)
  | _ => none
theorem mt_count {k : Nat} (hr : Room k X.A) (hK : X.K = G.K := by rfl) : MtR X "list.count" (fun x xs H Q => spF G oCount (x :: xs) H Q E0) := by
  intro pins s σ H x xs v us Q I rx rxs h
  obtain ⟨r, ds, S, d, S', R, hds, e, p⟩ := h
  unfold oCount at e
  split at e
  · rename_i kk y
    split at e
    · rename_i ys hk
      split at e
      · rename_i ps hps
        split at e
        · rename_i q hq
          cases e
          cases hds with
          | cons hx ht =>
            cases ht with
            | cons hy ht =>
              cases ht
              cases hx
              cases rx
              obtain ⟨u, rfl, ru⟩ := rxs.one
              obtain ⟨vs, h1, h2⟩ := R.obj kk _ hk
              obtain ⟨its, rv, pl, _⟩ := I.list (SqL.of h1)
              obtain ⟨as, r1, p1, d1⟩ := mapO_reads (n := eqFuel) (fun {d p v u} => toP_reads I hK R eqFuel) hps h2 rv
              obtain ⟨bs, r2, p2, d2⟩ := toP_reads I hK R _ hq hy ru
              have hu := hr.units
              have hd : q.depth ≤ 40 := d2
              refine SeqAt.count_list_data pl.isList (by simpa using r1) r2 p1 p2 (by omega) ⟨.int _, H, I.tok _, ⟨_, rfl⟩, p r H _ (Step.refl _ _ _) R (.int _)⟩
        · cases e
      · cases e
    · cases e
  · cases e

/-! ### d.clear(), xs.clear() -/
theorem isIns_put_dct {S : Sto} {ka kb : List (D × D)} {k j : Nat} (h : S.at k = some (.dct ka)) : IsIns (S.put k (.dct kb)) j ↔ IsIns S j := by
  constructor
  · rintro ⟨c, fs, e⟩
    rw [Sto.put_at _ _ _ _ (Sto.at_lt h)] at e
    by_cases hj : j = k
    · rw [if_pos hj] at e; cases e
    · rw [if_neg hj] at e; exact ⟨c, fs, e⟩
  · rintro ⟨c, fs, e⟩
    refine ⟨c, fs, ?_⟩
    rw [Sto.put_at _ _ _ _ (Sto.at_lt h), if_neg (fun z => by rw [z, h] at e; cases e)]
    exact e
theorem putDct {r : Loc2} {S : Sto} {H : Hp} {k : Nat} {ka kb : List (D × D)} {xa xs : List (NestedKey × Addr × V)} (R : Rep G r S H) (h : S.at k = some (.dct ka)) (q : RDct G r S H k ka xa) (hl : xs.length ≤ sizeLine) (nd : (xs.map (·.1)).Nodup) (rel : RKV G r S H kb xs) :
    Step r S H r (S.put k (.dct kb)) (upd H (r.a k) (DctO G.P G.w (r.a k) xs)) ∧ Rep G r (S.put k (.dct kb)) (upd H (r.a k) (DctO G.P G.w (r.a k) xs)) := by
  have st : Step r S H r (S.put k (.dct kb)) (upd H (r.a k) (DctO G.P G.w (r.a k) xs)) := by
    refine ⟨fun j z => ⟨(live_put h).mpr z, rfl⟩, fun j z => ⟨(isIns_put_dct h).mpr z, rfl⟩, fun b o z n => ?_, fun b ⟨j, z⟩ => ?_⟩
    · rw [upd_ne (fun e => n ⟨k, .inl ⟨⟨_, h⟩, e⟩⟩)]; exact z
    · rcases z with ⟨z, e⟩ | ⟨z, e⟩
      · exact .inl ⟨j, .inl ⟨(live_put h).mp z, e⟩⟩
      · exact .inl ⟨j, .inr ⟨(isIns_put_dct h).mp z, e⟩⟩
  refine ⟨st, fun j o e => ?_, fun i j hi hj e => R.inj i j ((live_put h).mp hi) ((live_put h).mp hj) e, fun i j hi hj e => R.ad i j ((live_put h).mp hi) ((isIns_put_dct h).mp hj) e, fun i j hi hj e => R.dd i j ((isIns_put_dct h).mp hi) ((isIns_put_dct h).mp hj) e⟩
  rw [Sto.put_at _ _ _ _ (Sto.at_lt h)] at e
  by_cases hj : j = k
  · subst hj
    rw [if_pos rfl] at e
    cases e
    exact ⟨xs, upd_same, q.sys, hl, nd, rel.gen (Kp.step R st) st.live⟩
  · rw [if_neg hj] at e
    have h1 : r.a j ≠ r.a k := fun z => hj (R.inj j k ⟨_, e⟩ ⟨_, h⟩ z)
    refine RO.mono R st rfl (fun u z => by rw [upd_ne h1]; exact z) (fun c fs eo => ⟨rfl, fun u z => ?_⟩) (R.obj j o e)
    rw [upd_ne (fun z => R.ad k j ⟨_, h⟩ ⟨c, fs, by rw [e, eo]⟩ z.symm)]
    exact z
def oClear : D → Sto → Option (D × Sto) := fun d S => match d with
  | .obj k => (match S.at k with
    | some (.lst _) => some (.non, S.put k (.lst []))
    | some (.dct _) => some (.non, S.put k (.dct []))
    | _ => none)
  | _ => none
def vClear (f : EvE) : EvE := fun env S => bnd (f env S) fun d S => oClear d S
theorem pClear {ob : Expr} {f : EvE} {apos cpos : Pos} (ho : PE X ob (rdE G f)) (hP : X.prog = G.P := by rfl) (hw : X.w = G.w := by rfl) (hK : X.K = G.K := by rfl)
    (hbase : attributeBase ob "clear" X.env (eval ob X.env) = eval ob X.env := by rfl) (hline : (apos.endLine == cpos.line) = true := by rfl) : PE X (.Call (.Attribute ob "clear" apos) [] [] cpos) (rdE G (vClear f)) := by
  refine ⟨fun pins s σ H Q I h => ?_⟩
  obtain ⟨r, env, S, d, S', hs, ee, p⟩ := h
  obtain ⟨x, S1, e1, ee⟩ := bnd_some ee
  refine wpAny_Call_method0_late hbase hline (thn (ho.run pins s σ H (fun v H1 => ∃ r1, Step r S H r1 S1 H1 ∧ Rep G r1 S1 H1 ∧ RD G r1 S1 H1 x v) I ⟨r, env, S, x, S1, hs, e1, fun r1 H1 v s1 R1 h1 => ⟨r1, s1, R1, h1⟩⟩) fun v s1 hq => ?_)
  obtain ⟨xv, H1, I1, rx, r1, st1, R1, h1⟩ := hq
  unfold oClear at ee
  split at ee
  · rename_i k
    cases h1
    cases rx
    split at ee
    · rename_i xs hk
      cases ee
      obtain ⟨vs, g1, g2⟩ := R1.obj k _ hk
      obtain ⟨z1, z2⟩ := tyV_is (T := "list") I1 (x := .ref (r1.a k)) rfl (.inl ⟨rfl, vs, SqL.of g1⟩)
      refine ⟨"list", "list.clear", PySem.F.plainAttrs_list, PySem.F.slot_list_clear, PySem.F.type_list_clear, z1, z2, Calls.callWith_builtin rfl (PySem.evalArgs_none ?_)⟩
      exact mt_clear pins s1 σ H1 (.ref (r1.a k)) [] _ [] Q I1 rfl .nil ⟨_, _, rfl, rfl, g1, p r1 _ _ (st1.trans (Step.putL R1 hk)) (R1.putL hk .nil) .non⟩
    · rename_i kvs hk
      cases ee
      obtain ⟨xs, q⟩ := R1.obj k _ hk
      obtain ⟨ys, pp, hd⟩ := q.heap I1 hK
      have hd' := hd
      obtain ⟨o, es, ep, h2, h3, h4, h5, h6, h7⟩ := hd'
      refine ⟨"dict", "dict.clear", PySem.F.plainAttrs_dict, PySem.F.slot_dict_clear, PySem.F.type_dict_clear, ⟨o, h2, h3.1⟩, fun a ea => ?_, Calls.callWith_builtin rfl (PySem.evalArgs_none ?_)⟩
      · cases ea
        exact ⟨o, h2, h3.2.1⟩
      · rw [hP, hw]
        refine clear_keyed (knd := nestedKind G.P G.w) (kvs := pairsH ys) ⟨ys, hd, rfl⟩ (hsz := by rw [pairsH_length, ← Paired.len pp]; exact q.len) fun h' hd2 sb => ?_
        obtain ⟨st2, R2⟩ := putDct (kb := []) (xs := []) R1 hk q (Nat.zero_le _) List.nodup_nil .nil
        obtain ⟨zs, hz, ez⟩ := hd2
        have ez : zs = [] := by
          cases zs with
          | nil => rfl
          | cons a b => cases ez
        subst ez
        refine ⟨.non, _, ?_, rfl, p r1 _ _ (st1.trans st2) R2 .non⟩
        refine I1.write (t' := s1.toks) (x := r1.a k) (e := r1.a k) (by rw [q.at_]; trivial) (.inl rfl) (fun b u hb z => (sb.2 b hb).trans z) (let ⟨o', _, _, w, _⟩ := hz; ⟨o', w⟩) ?_
        rw [hP, hw]
        exact DctO.ok (.nil : Paired XY [] []) hz
    · cases ee
  · cases ee

/-! ### xs[i] = e -/
def oSetIx (x i v : D) (S : Sto) : Option Sto := match x with
  | .obj k => (match i with
    | .int n => (match S.at k with
      | some (.lst xs) => (match ixN xs.length n with
        | some j => some (S.put k (.lst (xs.set j v)))
        | none => none)
      | _ => none)
    | _ => none)
  | _ => none
theorem oSetIx_inv {x i v : D} {S S' : Sto} (h : oSetIx x i v S = some S') : ∃ k n xs j, x = .obj k ∧ i = .int n ∧ S.at k = some (.lst xs) ∧ ixN xs.length n = some j ∧ S' = S.put k (.lst (xs.set j v)) := by
  unfold oSetIx at h
  split at h
  · split at h
    · split at h
      · rename_i xs hk
        split at h
        · rename_i j hj
          cases h
          exact ⟨_, _, _, _, rfl, rfl, hk, hj, rfl⟩
        · cases h
      · cases h
    · cases h
  · cases h
def vSetIx (fo fi fe : EvE) : EvS := fun env S => bnd (fe env S) fun v S => bnd (fo env S) fun x S => bnd (fi env S) fun i S => match oSetIx x i v S with
  | some S => some (.nx env S)
  | none => none
theorem sSetIx {o i e : Expr} {fo fi fe : EvE} {p pos : Pos} (ho : PE X o (rdE G fo)) (hi : PE X i (rdE G fi)) (he : PE X e (rdE G fe)) (hs : swapsWithSole [.Subscript o i p] e pos.line X.env = pure false := by rfl) (hw : swappedStores [.Subscript o i p] e X.env = pure none := by rfl)
    (h1 : (assignEach [.Subscript o i p] X.env).map (·.2) = [assign (.Subscript o i p) X.env] := by rfl)
    (ha : ∀ v, assign (.Subscript o i p) X.env v = (do
      let ov ← holding [v] (eval o X.env)
      let iv ← holding [v, ov] (eval i X.env)
      standAt p
      holding [v, ov, iv] (setItem ov iv v)
      release [v, ov, iv] []) := by intro _; rfl) : PS X (.Assign [.Subscript o i p] e pos) (rdS G (vSetIx fo fi fe)) :=
  (ps_asg he (pg_sub ho hi set_list ha) hs hw h1).imp fun D' σ H ⟨r, env, S, fl, hs, ee, p⟩ => by
    obtain ⟨v, S1, e1, ee⟩ := bnd_some ee
    obtain ⟨x, S2, e2, ee⟩ := bnd_some ee
    obtain ⟨n, S3, e3, ee⟩ := bnd_some ee
    cases hset : oSetIx x n v S3 with
    | none => rw [hset] at ee; cases ee
    | some S4 =>
      rw [hset] at ee
      cases ee
      obtain ⟨k, m, xs, j, rfl, rfl, hk, hj, rfl⟩ := oSetIx_inv hset
      refine ⟨r, env, S, v, S1, hs, e1, fun r1 H1 v1 s1 R1 h1 => rdE_next hs s1 R1 e2 fun r2 H2 v2 s2 R2 h2 => ?_⟩
      have sim2 : Sim G r2 S2 H2 env σ := ⟨R2, (hs.env.step hs.rep s1).step R1 s2⟩
      refine rdE_next sim2 (Step.refl _ _ _) R2 e3 fun r3 H3 v3 s3 R3 h3 => ?_
      have h2' := h2.step R2 s3
      cases h2'
      cases h3
      obtain ⟨vs, g1, g2⟩ := R3.obj k _ hk
      have h1' := (h1.step R1 s2).step R2 s3
      exact ⟨_, _, _, j, rfl, rfl, g1, by rw [← g2.length]; exact hj, p r3 _ σ (s1.trans (s2.trans (s3.trans (Step.putL R3 hk)))) (R3.putL hk (g2.set h1' j)) ((sim2.env.step R2 s3).step R3 (Step.putL R3 hk))⟩
end
end Pv
namespace Pv
open PySem PySem.Spec PyProof.Rows L2
section
variable {X : Cx} {G : Gx}
/-- what != asks of the class: its own __eq__, no __ne__ -/
def neB (K : PySem.W.Frag) (C g : Addr) : Bool := match K.lookup C with
  | some ⟨.type tn, _, .cls ⟨_, _, mro, N, _, _, _, _, _, _, hd⟩, sl⟩ => tn == "type" && !hd && decide (mro = [.ref C, .type "object"]) && (match sl.toList with
      | [_, _, _, _, some (.builtin _), _] => true
      | _ => false) && (match K.lookup N with
      | some ⟨_, _, .dict es _, _⟩ => (es.toList.all fun e => match e.key with | .str _ _ => true | _ => false) && decide (nsFind es "__eq__" = some (.ref g)) && decide (nsFind es "__ne__" = none)
      | _ => false)
  | _ => false
/-! ### == and != of instances, by the class's own __eq__ -/
structure EqOk (P : Program) (w : World) (K : PySem.W.Frag) (mg : Str → Option Value) (base : Heap) (G : Gx) (nc n : Nat) (feq : Nat → EvF) : Prop where
  fn : ∀ c, c < nc → ∃ g, PySem.W.findIn K (.ref (G.cA c)) "__eq__" = some (some (.ref g)) ∧ PySem.W.isFn K (.ref g) = true ∧ FnR P w K mg base CX0 n g (spF G (feq c))
  first : ∀ c c', c < nc → c' < nc → PySem.W.notFirst K (G.cA c) (.ref (G.cA c')) = true
def NeOk (K : PySem.W.Frag) (G : Gx) (nc : Nat) : Prop := ∀ c, c < nc → ∀ g, PySem.W.findIn K (.ref (G.cA c)) "__eq__" = some (some (.ref g)) → neB K (G.cA c) g = true ∧ ∃ of, K.lookup g = some of ∧ of.cls = .type "function"
def insOf (d : D) (S : Sto) : Option Nat := match d with
  | .obj k => (match S.at k with
    | some (.ins c _) => some c
    | _ => none)
  | _ => none
theorem insOf_some {d : D} {S : Sto} {c : Nat} (h : insOf d S = some c) : ∃ k fs, d = .obj k ∧ S.at k = some (.ins c fs) := by
  unfold insOf at h
  split at h
  · rename_i k
    split at h
    · rename_i c' fs hk
      cases h
      exact ⟨k, fs, rfl, hk⟩
    · cases h
  · cases h
def oEqI (nc : Nat) (feq : Nat → EvF) : Op2 := fun x y S => match insOf x S with
  | some c => (match insOf y S with
    | some c' => gua (Nat.blt c nc && Nat.blt c' nc) (feq c [x, y] S)
    | none => none)
  | none => none
theorem op_eqI {nc n : Nat} {feq : Nat → EvF} (ok : EqOk X.prog X.w X.K X.mg X.base G nc n feq) (hr : Room n X.A) : OpR X (compareOp .Eq) (rd2 G (oEqI nc feq)) := by
  intro pins s σ H x y v u Q I rx ry h
  obtain ⟨r, S, a, b, d, S', R, ha, hb, e, p⟩ := h
  unfold oEqI at e
  split at e
  · rename_i c hc
    split at e
    · rename_i c' hc'
      obtain ⟨hn, e⟩ := gua_some e
      rw [Bool.and_eq_true_iff] at hn
      have n1 : c < nc := Nat.le_of_ble_eq_true hn.1
      have n2 : c' < nc := Nat.le_of_ble_eq_true hn.2
      obtain ⟨k1, f1, rfl, hk1⟩ := insOf_some hc
      obtain ⟨k2, f2, rfl, hk2⟩ := insOf_some hc'
      obtain ⟨g, g1, g2, g3⟩ := ok.fn c n1
      obtain ⟨vs, q1, _⟩ := R.obj k1 _ hk1
      obtain ⟨ws, q2, _⟩ := R.obj k2 _ hk2
      have ha' := ha
      have hb' := hb
      cases ha
      cases hb
      refine SlX.op_own (E := E0) (fun _ _ => rfl) g1 g2 g3 hr pass0 pins s σ H _ _ v u Q I rx ry ⟨_, _, vs, _, _, _, ws, rfl, rfl, q1, q2, ok.first c c' n1 n2, ?_⟩
      exact ⟨r, _, S, d, S', R, .cons ha' (.cons hb' .nil), e, p⟩
    · cases e
  · cases e
theorem neB_ok {K : PySem.W.Frag} {h : Heap} {C g x : Addr} {o of : Obj} (hb : neB K C g = true) (KX : K.In h) (hx : h.get? x = some o) (hc : o.cls = .ref C) (hg : h.get? g = some of) (hgc : of.cls = .type "function") : h.OwnEqNoNe x C g "object" [.type "object"] := by
  unfold neB at hb
  split at hb
  · rename_i tn dd nm bs mro N q hdct sn sub ab col hd sl hk
    simp only [Bool.and_eq_true, decide_eq_true_eq] at hb
    obtain ⟨⟨⟨⟨h1, h2⟩, h3⟩, h4⟩, h5⟩ := hb
    have e1 : tn = "type" := by simpa using h1
    have e2 : hd = false := by simpa using h2
    subst e1 e2 h3
    split at h4
    · rename_i k0 k1 k2 k3 nid k5 hsl
      split at h5
      · rename_i cN dN es ep slN hN
        simp only [Bool.and_eq_true, decide_eq_true_eq, List.all_eq_true] at h5
        obtain ⟨⟨g1, g2⟩, g3⟩ := h5
        have esl : sl = #[k0, k1, k2, k3, some (.builtin nid), k5] := by
          cases sl
          simp only at hsl
          rw [hsl]
        subst esl
        obtain ⟨y, hy⟩ : ∃ y, typeLookup (.type "object") "__eq__" = pure y := ⟨_, PySem.F.cmp_object.eq.lookup⟩
        refine ⟨o, of, nm, q, N, bs, hdct, sn, sub, ab, col, dd, k0, k1, k2, k3, k5, nid, nsFind es, y, hx, hc, KX _ _ hk, ⟨_, es, ep, KX _ _ hN, rfl, ?_, fun _ => rfl⟩, g2, hg, hgc, PySem.F.cmp_object.mro, hy, g3⟩
        intro e he
        have := g1 e (by simpa using he)
        split at this
        · rename_i z t ez; exact ⟨z, t, ez⟩
        · cases this
      · cases h5
    · cases h4
  · cases hb
def oNeI (nc : Nat) (feq : Nat → EvF) : Op2 := fun x y S => match insOf x S with
  | some c => (match insOf y S with
    | some c' => gua (Nat.blt c nc && Nat.beq c c') (bnd (feq c [x, y] S) fun d S => match d with
      | .bl b => some (.bl (!b), S)
      | _ => none)
    | none => none)
  | none => none
theorem op_neI {nc n : Nat} {feq : Nat → EvF} (ok : EqOk X.prog X.w X.K X.mg X.base G nc n feq) (hne : NeOk X.K G nc) (hr : Room (n + 1) X.A) : OpR X (compareOp .NotEq) (rd2 G (oNeI nc feq)) := by
  intro pins s σ H x y v u Q I rx ry h
  obtain ⟨r, S, a, b, d, S', R, ha, hb, e, p⟩ := h
  unfold oNeI at e
  split at e
  · rename_i c hc
    split at e
    · rename_i c' hc'
      obtain ⟨hn, e9⟩ := gua_some e
      clear e
      rw [Bool.and_eq_true_iff] at hn
      have n1 : c < nc := Nat.le_of_ble_eq_true hn.1
      have n2 : c = c' := Nat.eq_of_beq_eq_true hn.2
      subst n2
      obtain ⟨d1, S1, e1, e10⟩ := bnd_some e9
      clear e9
      split at e10
      · rename_i bb
        cases e10
        obtain ⟨k1, f1, rfl, hk1⟩ := insOf_some hc
        obtain ⟨k2, f2, rfl, hk2⟩ := insOf_some hc'
        obtain ⟨g, g1, g2, g3⟩ := ok.fn c n1
        obtain ⟨m1, of, m2, m3⟩ := hne c n1 g g1
        obtain ⟨vs, q1, _⟩ := R.obj k1 _ hk1
        obtain ⟨ws, q2, _⟩ := R.obj k2 _ hk2
        have ha' := ha
        have hb' := hb
        cases ha
        cases hb
        cases rx
        cases ry
        obtain ⟨_, sl1, _, o1, _⟩ := SlX.slt_at I q1
        obtain ⟨_, sl2, _, o2, _⟩ := SlX.slt_at I q2
        have hu := hr.units
        obtain ⟨h0, gs, dr, tk, os⟩ := s
        refine compareOp_ne_ownEq PySem.F.cmp_object (neB_ok m1 I.kIn o1 rfl (I.kIn _ _ m2) m3) o2 rfl (by omega) ?_
        have hr1 : Room n X.A.in1 := hr.in1
        refine wpAny_mono (wpAny_call (SlX.run_at (E := E0) (us := [.ref (r.a k1), .ref (r.a k2)]) (ws := [.ref (r.a k1), .ref (r.a k2)]) (Q := fun z H' => ∃ r' b', z = .bl b' ∧ b' = bb ∧ Step r S H r' S' H' ∧ Rep G r' S' H') g3 hr1 I.env0.in1 pass0 I (.cons rfl (.cons rfl .nil)) ⟨r, _, S, _, _, R, .cons ha' (.cons hb' .nil), e1, fun r' H' z st' R' hz => ?_⟩)) (fun z s' hz => ?_) fun _ _ q => q
        · cases hz
          exact ⟨r', _, rfl, rfl, st', R'⟩
        · obtain ⟨zv, H', I', rz, r', b', ez, eb, st', R'⟩ := hz
          subst ez eb
          cases rz
          exact ⟨_, rfl, ⟨.bl _, H', I', rfl, p r' H' _ st' R' (.bl _)⟩⟩
      · cases e10
    · cases e
  · cases e
/-! ### == of data or dicts -/
def isDct (d : D) (S : Sto) : Bool := match d with
  | .obj k => (match S.at k with
    | some (.dct _) => true
    | _ => false)
  | _ => false
def oEqU : Op2 := fun x y S => match isDct x S with
  | true => oEqDct x y S
  | false => oEq x y S
theorem op_eqU {k : Nat} (hr : Room k X.A) (hP : X.prog = G.P := by rfl) (hw : X.w = G.w := by rfl) (hK : X.K = G.K := by rfl) : OpR X (compareOp .Eq) (rd2 G oEqU) := by
  intro pins s σ H x y v u Q I rx ry h
  obtain ⟨r, S, a, b, d, S', R, ha, hb, e, p⟩ := h
  unfold oEqU at e
  split at e
  · exact op_eqDct hr hP hw hK pins s σ H x y v u Q I rx ry ⟨r, S, a, b, d, S', R, ha, hb, e, p⟩
  · exact op_eqP hr hK pins s σ H x y v u Q I rx ry ⟨r, S, a, b, d, S', R, ha, hb, e, p⟩
end
end Pv
/-! Pv11: what the head is asked of the program's classes, as one Bool. -/
namespace Pv
open PySem PySem.Spec PyProof.Rows L2
def sclsB (K : PySem.W.Frag) (C : Addr) : Bool := PySem.W.plainGet K C Str.empty && PySem.W.isClsIn K C && PySem.W.plainOver K C && He.eqO (PySem.W.findIn K (.ref C) "__setattr__") (some (some (.builtin "object.__setattr__")))
def sisiB (K : PySem.W.Frag) (C : Addr) : Bool := He.eqO (PySem.W.findIn K (.ref C) "__class__") (some (some (.builtin "object.__class__"))) && He.eqO (PySem.W.specialIn K (.builtin "object.__class__") "__get__") (some (some (.builtin "getset_descriptor.__get__"))) && decide (PySem.W.takesIn K (.builtin "object.__class__") = some true) && decide (PySem.W.mroIn K C (.type "object") = some true)
def allTg : List Tg := [.int, .str, .bool, .list, .tuple, .dict, .none]
theorem mem_allTg (t : Tg) : t ∈ allTg := by cases t <;> simp [allTg]
def tysB (K : PySem.W.Frag) (C : Addr) : Bool := allTg.all fun t => decide (PySem.W.kitOne K (.ref C) (.type t.name) = some false) && decide (PySem.W.kitOne K (.type t.name) (.ref C) = some false)
def eqB (K : PySem.W.Frag) (C : Addr) : Bool := He.eqO (PySem.W.findIn K (.ref C) "__eq__") (some (some (.ref (He.ma K C "__eq__")))) && PySem.W.isFn K (.ref (He.ma K C "__eq__")) && neB K C (He.ma K C "__eq__") && (match K.lookup (He.ma K C "__eq__") with
  | some o => decide (o.cls = .type "function")
  | none => false)
def slotB (K : PySem.W.Frag) (C : Addr) (f : Str) (i : Nat) : Bool := He.eqO (PySem.W.findIn K (.ref C) f) (some (some (.ref (He.ma K C f)))) && He.eqO (PySem.W.specialIn K (.ref (He.ma K C f)) "__get__") (some (some (.builtin "member_descriptor.__get__"))) && decide (PySem.W.takesIn K (.ref (He.ma K C f)) = some true) && decide (PySem.W.typeIn K (.ref (He.ma K C f)) = some (.type "member_descriptor")) && decide (PySem.W.slotIn K (He.ma K C f) C = some i) && Nat.blt i 1000
def clsB (K : PySem.W.Frag) (cA : Nat → Addr) (nc : Nat) : Bool := ((List.range nc).all fun c => sclsB K (cA c) && sisiB K (cA c) && tysB K (cA c)) && (List.range nc).all fun c => (List.range nc).all fun c' => decide (PySem.W.kitOne K (.ref (cA c)) (.ref (cA c')) = some (Nat.beq c c')) && PySem.W.notFirst K (cA c) (.ref (cA c'))
def eqsB (K : PySem.W.Frag) (cA : Nat → Addr) (nc : Nat) : Bool := (List.range nc).all fun c => eqB K (cA c)
def fldB (K : PySem.W.Frag) (cA : Nat → Addr) (nc : Nat) (f : Str) (sl : Nat → Option Nat) : Bool := (List.range nc).all fun c => match sl c with
  | some i => slotB K (cA c) f i
  | none => true
section
variable {K : PySem.W.Frag} {cA : Nat → Addr} {nc : Nat}
theorem scls_ok {C : Addr} (h : sclsB K C = true) : SlX.SCls K C := by
  unfold sclsB at h
  simp only [Bool.and_eq_true] at h
  obtain ⟨⟨⟨h1, h2⟩, h3⟩, h4⟩ := h
  exact ⟨h1, h2, h3, He.eqO_ok h4⟩
theorem sisi_ok {C : Addr} (h : sisiB K C = true) : SlX.SIsi K C := by
  unfold sisiB at h
  simp only [Bool.and_eq_true, decide_eq_true_eq] at h
  obtain ⟨⟨⟨h1, h2⟩, h3⟩, h4⟩ := h
  exact ⟨He.eqO_ok h1, He.eqO_ok h2, h3, h4⟩
theorem slot_ok {C : Addr} {f : Str} {i : Nat} (h : slotB K C f i = true) : SlX.Slot1 K C f (He.ma K C f) i := by
  unfold slotB at h
  simp only [Bool.and_eq_true, decide_eq_true_eq] at h
  obtain ⟨⟨⟨⟨⟨h1, h2⟩, h3⟩, h4⟩, h5⟩, h6⟩ := h
  exact ⟨He.eqO_ok h1, He.eqO_ok h2, h3, h4, h5, Nat.le_of_ble_eq_true h6⟩
theorem clsB_ok (h : clsB K cA nc = true) (P : Program) (w : World) (sa : Addr) (ns : List Int) : ClsOk ⟨P, w, K, cA, sa, ns⟩ nc := by
  unfold clsB at h
  simp only [Bool.and_eq_true, List.all_eq_true, List.mem_range, decide_eq_true_eq] at h
  obtain ⟨h1, h2⟩ := h
  refine ⟨fun c hc => scls_ok (h1 c hc).1.1, fun c hc => sisi_ok (h1 c hc).1.2, fun c c' hc hc' => (h2 c hc c' hc').1, fun c hc t => ?_, fun c hc t => ?_⟩
  · have z := (h1 c hc).2
    unfold tysB at z
    simp only [Bool.and_eq_true, List.all_eq_true, decide_eq_true_eq] at z
    exact (z t (mem_allTg t)).1
  · have z := (h1 c hc).2
    unfold tysB at z
    simp only [Bool.and_eq_true, List.all_eq_true, decide_eq_true_eq] at z
    exact (z t (mem_allTg t)).2
theorem first_ok (h : clsB K cA nc = true) : ∀ c c', c < nc → c' < nc → PySem.W.notFirst K (cA c) (.ref (cA c')) = true := by
  unfold clsB at h
  simp only [Bool.and_eq_true, List.all_eq_true, List.mem_range, decide_eq_true_eq] at h
  exact fun c c' hc hc' => (h.2 c hc c' hc').2
theorem eqs_ok (h : eqsB K cA nc = true) : ∀ c, c < nc → PySem.W.findIn K (.ref (cA c)) "__eq__" = some (some (.ref (He.ma K (cA c) "__eq__"))) ∧ PySem.W.isFn K (.ref (He.ma K (cA c) "__eq__")) = true := by
  unfold eqsB eqB at h
  simp only [Bool.and_eq_true, List.all_eq_true, List.mem_range] at h
  exact fun c hc => ⟨He.eqO_ok (h c hc).1.1.1, (h c hc).1.1.2⟩
theorem ne_ok (h : eqsB K cA nc = true) (P : Program) (w : World) (sa : Addr) (ns : List Int) : NeOk K ⟨P, w, K, cA, sa, ns⟩ nc := by
  intro c hc g hg
  have e := (eqs_ok h c hc).1
  have e2 : g = He.ma K (cA c) "__eq__" := by
    have z := hg.symm.trans e
    cases z
    rfl
  subst e2
  unfold eqsB eqB at h
  simp only [Bool.and_eq_true, List.all_eq_true, List.mem_range] at h
  refine ⟨(h c hc).1.2, ?_⟩
  have z := (h c hc).2
  split at z
  · rename_i o ho
    exact ⟨o, ho, of_decide_eq_true z⟩
  · cases z
theorem fld_ok {f : Str} {sl : Nat → Option Nat} (hc : clsB K cA nc = true) (h : fldB K cA nc f sl = true) (hn : ∀ c, nc ≤ c → sl c = none) (P : Program) (w : World) (sa : Addr) (ns : List Int) : FldOk ⟨P, w, K, cA, sa, ns⟩ f sl := by
  intro c i e
  have hl : c < nc := by
    rcases Nat.lt_or_ge c nc with z | z
    · exact z
    · rw [hn c z] at e; cases e
  unfold fldB at h
  simp only [List.all_eq_true, List.mem_range] at h
  have z := h c hl
  rw [e] at z
  exact ⟨(clsB_ok hc P w sa ns).sc c hl, _, slot_ok z⟩
end
/-! ### the head's facts over a written list of addresses -/
abbrev AlL : Type := He.AlD × Bool
def obsL (as : List Addr) (fa : List He.Fa) (fn : List He.DefD) (ex : PySem.W.Frag → Bool) (g : Addr → Option Obj) : AlL := (He.obsD fa fn (He.frG g as), ex (He.frG g as))
structure SaysL (fa : List He.Fa) (fn : List He.DefD) (ex : PySem.W.Frag → Bool) (K : PySem.W.Frag) : Prop where
  d : He.SaysD fa fn K
  more : ex K = true
def hookL (as : List Addr) (fa : List He.Fa) (fn : List He.DefD) (ex : PySem.W.Frag → Bool) : PySem.W.Hook where
  α := AlL
  obs := fun s => obsL as fa fn ex s.heap.get?
  val := fun _ => (He.valD fn, true)
  says := fun _ h => ∃ K : PySem.W.Frag, K.In h ∧ SaysL fa fn ex K
  of := fun _ s e => ⟨He.frG s.heap.get? as, He.frG_in, ⟨congrArg (fun z : AlL => z.1) e, congrArg (fun z : AlL => z.2) e⟩⟩
  keeps := fun _ _ _ ⟨K, hK, c⟩ k => ⟨K, PySem.W.Frag.In.keeps hK k, c⟩
theorem obsL_eq {as : List Addr} {fa : List He.Fa} {fn : List He.DefD} {ex : PySem.W.Frag → Bool} {g : Addr → Option Obj} {s : Shared} (h : ∀ a, g a = s.heap.get? a) : obsL as fa fn ex g = (hookL as fa fn ex).obs s := by
  have e : g = s.heap.get? := funext h
  rw [e] <;> rfl
end Pv
namespace K45
open PySem PySem.Spec PyProof.Rows L2 Pv
def top (i : Nat) : Stmt := PySem.Challenge.pw_midlooks_k45_known_equal.main.body.getD i (.Pass ⟨0, 0, 0, 0⟩)
abbrev s_Kept___eq__ : Stmt := inClass (top 49) 3
abbrev N_Kept___eq__ : List Str := ["self", "other"]
theorem sc_Kept___eq__ : FnScope N_Kept___eq__ ["self", "other"] (defScope s_Kept___eq__) := ⟨rfl, rfl, rfl, by decide +kernel, rfl, by decide +kernel, by decide +kernel⟩
abbrev s_Broken___eq__ : Stmt := inClass (top 50) 2
abbrev N_Broken___eq__ : List Str := ["self", "other"]
theorem sc_Broken___eq__ : FnScope N_Broken___eq__ ["self", "other"] (defScope s_Broken___eq__) := ⟨rfl, rfl, rfl, by decide +kernel, rfl, by decide +kernel, by decide +kernel⟩
abbrev s_Cheapest___eq__ : Stmt := inClass (top 80) 3
abbrev N_Cheapest___eq__ : List Str := ["self", "other"]
theorem sc_Cheapest___eq__ : FnScope N_Cheapest___eq__ ["self", "other"] (defScope s_Cheapest___eq__) := ⟨rfl, rfl, rfl, by decide +kernel, rfl, by decide +kernel, by decide +kernel⟩
abbrev s_NoPlan___eq__ : Stmt := inClass (top 81) 3
abbrev N_NoPlan___eq__ : List Str := ["self", "other"]
theorem sc_NoPlan___eq__ : FnScope N_NoPlan___eq__ ["self", "other"] (defScope s_NoPlan___eq__) := ⟨rfl, rfl, rfl, by decide +kernel, rfl, by decide +kernel, by decide +kernel⟩
abbrev s_Discreet___eq__ : Stmt := inClass (top 57) 2
abbrev N_Discreet___eq__ : List Str := ["self", "other"]
theorem sc_Discreet___eq__ : FnScope N_Discreet___eq__ ["self", "other"] (defScope s_Discreet___eq__) := ⟨rfl, rfl, rfl, by decide +kernel, rfl, by decide +kernel, by decide +kernel⟩
abbrev s_Indiscreet___eq__ : Stmt := inClass (top 58) 2
abbrev N_Indiscreet___eq__ : List Str := ["self", "other"]
theorem sc_Indiscreet___eq__ : FnScope N_Indiscreet___eq__ ["self", "other"] (defScope s_Indiscreet___eq__) := ⟨rfl, rfl, rfl, by decide +kernel, rfl, by decide +kernel, by decide +kernel⟩
abbrev s_Route___eq__ : Stmt := inClass (top 67) 2
abbrev N_Route___eq__ : List Str := ["self", "other"]
theorem sc_Route___eq__ : FnScope N_Route___eq__ ["self", "other"] (defScope s_Route___eq__) := ⟨rfl, rfl, rfl, by decide +kernel, rfl, by decide +kernel, by decide +kernel⟩
abbrev s_NoRoute___eq__ : Stmt := inClass (top 68) 2
abbrev N_NoRoute___eq__ : List Str := ["self", "other"]
theorem sc_NoRoute___eq__ : FnScope N_NoRoute___eq__ ["self", "other"] (defScope s_NoRoute___eq__) := ⟨rfl, rfl, rfl, by decide +kernel, rfl, by decide +kernel, by decide +kernel⟩
abbrev s_Batched___eq__ : Stmt := inClass (top 76) 4
abbrev N_Batched___eq__ : List Str := ["self", "other"]
theorem sc_Batched___eq__ : FnScope N_Batched___eq__ ["self", "other"] (defScope s_Batched___eq__) := ⟨rfl, rfl, rfl, by decide +kernel, rfl, by decide +kernel, by decide +kernel⟩
abbrev s_NoBatch___eq__ : Stmt := inClass (top 77) 2
abbrev N_NoBatch___eq__ : List Str := ["self", "other"]
theorem sc_NoBatch___eq__ : FnScope N_NoBatch___eq__ ["self", "other"] (defScope s_NoBatch___eq__) := ⟨rfl, rfl, rfl, by decide +kernel, rfl, by decide +kernel, by decide +kernel⟩
abbrev s_Alike___eq__ : Stmt := inClass (top 86) 3
abbrev N_Alike___eq__ : List Str := ["self", "other"]
theorem sc_Alike___eq__ : FnScope N_Alike___eq__ ["self", "other"] (defScope s_Alike___eq__) := ⟨rfl, rfl, rfl, by decide +kernel, rfl, by decide +kernel, by decide +kernel⟩
abbrev s_Parted___eq__ : Stmt := inClass (top 87) 2
abbrev N_Parted___eq__ : List Str := ["self", "other"]
theorem sc_Parted___eq__ : FnScope N_Parted___eq__ ["self", "other"] (defScope s_Parted___eq__) := ⟨rfl, rfl, rfl, by decide +kernel, rfl, by decide +kernel, by decide +kernel⟩
abbrev s_Kept___init__ : Stmt := inClass (top 49) 1
abbrev N_Kept___init__ : List Str := ["self", "scenes"]
theorem sc_Kept___init__ : FnScope N_Kept___init__ ["self", "scenes"] (defScope s_Kept___init__) := ⟨rfl, rfl, rfl, by decide +kernel, rfl, by decide +kernel, by decide +kernel⟩
abbrev s_Broken___init__ : Stmt := inClass (top 50) 1
abbrev N_Broken___init__ : List Str := ["self", "deeds"]
theorem sc_Broken___init__ : FnScope N_Broken___init__ ["self", "deeds"] (defScope s_Broken___init__) := ⟨rfl, rfl, rfl, by decide +kernel, rfl, by decide +kernel, by decide +kernel⟩
abbrev s_Cheapest___init__ : Stmt := inClass (top 80) 1
abbrev N_Cheapest___init__ : List Str := ["self", "best", "scenes", "runs"]
theorem sc_Cheapest___init__ : FnScope N_Cheapest___init__ ["self", "best", "scenes", "runs"] (defScope s_Cheapest___init__) := ⟨rfl, rfl, rfl, by decide +kernel, rfl, by decide +kernel, by decide +kernel⟩
abbrev s_NoPlan___init__ : Stmt := inClass (top 81) 1
abbrev N_NoPlan___init__ : List Str := ["self", "runs"]
theorem sc_NoPlan___init__ : FnScope N_NoPlan___init__ ["self", "runs"] (defScope s_NoPlan___init__) := ⟨rfl, rfl, rfl, by decide +kernel, rfl, by decide +kernel, by decide +kernel⟩
abbrev s_Discreet___init__ : Stmt := inClass (top 57) 1
abbrev N_Discreet___init__ : List Str := ["self", "scenes", "rests"]
theorem sc_Discreet___init__ : FnScope N_Discreet___init__ ["self", "scenes", "rests"] (defScope s_Discreet___init__) := ⟨rfl, rfl, rfl, by decide +kernel, rfl, by decide +kernel, by decide +kernel⟩
abbrev s_Indiscreet___init__ : Stmt := inClass (top 58) 1
abbrev N_Indiscreet___init__ : List Str := ["self", "deeds", "scenes"]
theorem sc_Indiscreet___init__ : FnScope N_Indiscreet___init__ ["self", "deeds", "scenes"] (defScope s_Indiscreet___init__) := ⟨rfl, rfl, rfl, by decide +kernel, rfl, by decide +kernel, by decide +kernel⟩
abbrev s_Route___init__ : Stmt := inClass (top 67) 1
abbrev N_Route___init__ : List Str := ["self", "calls"]
theorem sc_Route___init__ : FnScope N_Route___init__ ["self", "calls"] (defScope s_Route___init__) := ⟨rfl, rfl, rfl, by decide +kernel, rfl, by decide +kernel, by decide +kernel⟩
abbrev s_NoRoute___init__ : Stmt := inClass (top 68) 1
abbrev N_NoRoute___init__ : List Str := ["self", "rests"]
theorem sc_NoRoute___init__ : FnScope N_NoRoute___init__ ["self", "rests"] (defScope s_NoRoute___init__) := ⟨rfl, rfl, rfl, by decide +kernel, rfl, by decide +kernel, by decide +kernel⟩
abbrev s_Batched___init__ : Stmt := inClass (top 76) 1
abbrev N_Batched___init__ : List Str := ["self", "batches", "levels"]
theorem sc_Batched___init__ : FnScope N_Batched___init__ ["self", "batches", "levels"] (defScope s_Batched___init__) := ⟨rfl, rfl, rfl, by decide +kernel, rfl, by decide +kernel, by decide +kernel⟩
abbrev s_NoBatch___init__ : Stmt := inClass (top 77) 1
abbrev N_NoBatch___init__ : List Str := ["self", "rests"]
theorem sc_NoBatch___init__ : FnScope N_NoBatch___init__ ["self", "rests"] (defScope s_NoBatch___init__) := ⟨rfl, rfl, rfl, by decide +kernel, rfl, by decide +kernel, by decide +kernel⟩
abbrev s_Alike___init__ : Stmt := inClass (top 86) 1
abbrev N_Alike___init__ : List Str := ["self", "pairs"]
theorem sc_Alike___init__ : FnScope N_Alike___init__ ["self", "pairs"] (defScope s_Alike___init__) := ⟨rfl, rfl, rfl, by decide +kernel, rfl, by decide +kernel, by decide +kernel⟩
abbrev s_Parted___init__ : Stmt := inClass (top 87) 1
abbrev N_Parted___init__ : List Str := ["self", "deeds"]
theorem sc_Parted___init__ : FnScope N_Parted___init__ ["self", "deeds"] (defScope s_Parted___init__) := ⟨rfl, rfl, rfl, by decide +kernel, rfl, by decide +kernel, by decide +kernel⟩
abbrev s_law_parts_two : Stmt := top 92
abbrev N_law_parts_two : List Str := ["_law_at"]
theorem sc_law_parts_two : FnScope N_law_parts_two ["_law_at"] (defScope s_law_parts_two) := ⟨rfl, rfl, rfl, by decide +kernel, rfl, by decide +kernel, by decide +kernel⟩
abbrev s_law_parts : Stmt := top 91
abbrev N_law_parts : List Str := ["_law_at"]
theorem sc_law_parts : FnScope N_law_parts ["_law_at"] (defScope s_law_parts) := ⟨rfl, rfl, rfl, by decide +kernel, rfl, by decide +kernel, by decide +kernel⟩
abbrev s_law_fresh : Stmt := top 93
abbrev N_law_fresh : List Str := ["_law_at", "_law_pair"]
theorem sc_law_fresh : FnScope N_law_fresh ["_law_at"] (defScope s_law_fresh) := ⟨rfl, rfl, rfl, by decide +kernel, rfl, by decide +kernel, by decide +kernel⟩
abbrev s_law_make_two : Stmt := top 90
abbrev N_law_make_two : List Str := ["_law_at", "_law_parts_here"]
theorem sc_law_make_two : FnScope N_law_make_two ["_law_at", "_law_parts_here"] (defScope s_law_make_two) := ⟨rfl, rfl, rfl, by decide +kernel, rfl, by decide +kernel, by decide +kernel⟩
abbrev s_law_make : Stmt := top 89
abbrev N_law_make : List Str := ["_law_at", "_law_parts_here"]
theorem sc_law_make : FnScope N_law_make ["_law_at", "_law_parts_here"] (defScope s_law_make) := ⟨rfl, rfl, rfl, by decide +kernel, rfl, by decide +kernel, by decide +kernel⟩
abbrev s_law : Stmt := top 94
abbrev N_law : List Str := ["_law_script", "_law_at", "_law_parts_here", "_law_mine", "_law_part", "_law_spot", "_law_late", "_law_by"]
theorem sc_law : FnScope N_law ["_law_script"] (defScope s_law) := ⟨rfl, rfl, rfl, by decide +kernel, rfl, by decide +kernel, by decide +kernel⟩
def ncls : Nat := 12
def cA (K : PySem.W.Frag) : Nat → Addr
  | 0 => He.ga K "Kept"
  | 1 => He.ga K "Broken"
  | 2 => He.ga K "Cheapest"
  | 3 => He.ga K "NoPlan"
  | 4 => He.ga K "Discreet"
  | 5 => He.ga K "Indiscreet"
  | 6 => He.ga K "Route"
  | 7 => He.ga K "NoRoute"
  | 8 => He.ga K "Batched"
  | 9 => He.ga K "NoBatch"
  | 10 => He.ga K "Alike"
  | 11 => He.ga K "Parted"
  | _ => 0
def gx (P : Program) (w : World) (K : PySem.W.Frag) (sa : Addr) (ns : List Int) : Gx := ⟨P, w, K, cA K, sa, ns⟩
def sl_batches : Nat → Option Nat
  | 8 => some 0
  | _ => none
def sl_best : Nat → Option Nat
  | 2 => some 0
  | _ => none
def sl_calls : Nat → Option Nat
  | 6 => some 0
  | _ => none
def sl_deeds : Nat → Option Nat
  | 1 => some 0
  | 5 => some 0
  | 11 => some 0
  | _ => none
def sl_levels : Nat → Option Nat
  | 8 => some 1
  | _ => none
def sl_pairs : Nat → Option Nat
  | 10 => some 0
  | _ => none
def sl_rests : Nat → Option Nat
  | 4 => some 0
  | 7 => some 0
  | 9 => some 0
  | _ => none
def sl_runs : Nat → Option Nat
  | 2 => some 1
  | 3 => some 0
  | _ => none
def sl_scenes : Nat → Option Nat
  | 0 => some 0
  | 2 => some 2
  | 4 => some 1
  | 5 => some 1
  | _ => none
def fn_Kept___eq__ : EvF := vFn 2 2 (vRet (vAndV (vCall (oIsi ncls) (vCons (vVar 1) (vCons (vCon (.cls 0)) vNil))) (vOp2 oEqU (vFld sl_scenes (vVar 0)) (vFld sl_scenes (vVar 1)))))
def fn_Broken___eq__ : EvF := vFn 2 2 (vRet (vAndV (vCall (oIsi ncls) (vCons (vVar 1) (vCons (vCon (.cls 1)) vNil))) (vOp2 oEqU (vFld sl_deeds (vVar 0)) (vFld sl_deeds (vVar 1)))))
def fn_Cheapest___eq__ : EvF := vFn 2 2 (vRet (vAndV (vCall (oIsi ncls) (vCons (vVar 1) (vCons (vCon (.cls 2)) vNil))) (vAndV (vOp2 oEqU (vFld sl_best (vVar 0)) (vFld sl_best (vVar 1))) (vAndV (vOp2 oEqU (vFld sl_scenes (vVar 0)) (vFld sl_scenes (vVar 1))) (vOp2 oEqU (vFld sl_runs (vVar 0)) (vFld sl_runs (vVar 1)))))))
def fn_NoPlan___eq__ : EvF := vFn 2 2 (vRet (vAndV (vCall (oIsi ncls) (vCons (vVar 1) (vCons (vCon (.cls 3)) vNil))) (vOp2 oEqU (vFld sl_runs (vVar 0)) (vFld sl_runs (vVar 1)))))
def fn_Discreet___eq__ : EvF := vFn 2 2 (vRet (vAndV (vCall (oIsi ncls) (vCons (vVar 1) (vCons (vCon (.cls 4)) vNil))) (vAndV (vOp2 oEqU (vFld sl_scenes (vVar 0)) (vFld sl_scenes (vVar 1))) (vOp2 oEqU (vFld sl_rests (vVar 0)) (vFld sl_rests (vVar 1))))))
def fn_Indiscreet___eq__ : EvF := vFn 2 2 (vRet (vAndV (vCall (oIsi ncls) (vCons (vVar 1) (vCons (vCon (.cls 5)) vNil))) (vAndV (vOp2 oEqU (vFld sl_deeds (vVar 0)) (vFld sl_deeds (vVar 1))) (vOp2 oEqU (vFld sl_scenes (vVar 0)) (vFld sl_scenes (vVar 1))))))
def fn_Route___eq__ : EvF := vFn 2 2 (vRet (vAndV (vCall (oIsi ncls) (vCons (vVar 1) (vCons (vCon (.cls 6)) vNil))) (vOp2 oEqU (vFld sl_calls (vVar 0)) (vFld sl_calls (vVar 1)))))
def fn_NoRoute___eq__ : EvF := vFn 2 2 (vRet (vAndV (vCall (oIsi ncls) (vCons (vVar 1) (vCons (vCon (.cls 7)) vNil))) (vOp2 oEqU (vFld sl_rests (vVar 0)) (vFld sl_rests (vVar 1)))))
def fn_Batched___eq__ : EvF := vFn 2 2 (vRet (vAndV (vCall (oIsi ncls) (vCons (vVar 1) (vCons (vCon (.cls 8)) vNil))) (vAndV (vOp2 oEqU (vFld sl_batches (vVar 0)) (vFld sl_batches (vVar 1))) (vOp2 oEqU (vFld sl_levels (vVar 0)) (vFld sl_levels (vVar 1))))))
def fn_NoBatch___eq__ : EvF := vFn 2 2 (vRet (vAndV (vCall (oIsi ncls) (vCons (vVar 1) (vCons (vCon (.cls 9)) vNil))) (vOp2 oEqU (vFld sl_rests (vVar 0)) (vFld sl_rests (vVar 1)))))
def fn_Alike___eq__ : EvF := vFn 2 2 (vRet (vAndV (vCall (oIsi ncls) (vCons (vVar 1) (vCons (vCon (.cls 10)) vNil))) (vOp2 oEqU (vFld sl_pairs (vVar 0)) (vFld sl_pairs (vVar 1)))))
def fn_Parted___eq__ : EvF := vFn 2 2 (vRet (vAndV (vCall (oIsi ncls) (vCons (vVar 1) (vCons (vCon (.cls 11)) vNil))) (vOp2 oEqU (vFld sl_deeds (vVar 0)) (vFld sl_deeds (vVar 1)))))
def fn_Kept___init__ : EvF := vFn 2 2 (vSetFld sl_scenes (vVar 0) (vCall oList (vCons (vVar 1) vNil)))
def fn_Broken___init__ : EvF := vFn 2 2 (vSetFld sl_deeds (vVar 0) (vVar 1))
def fn_Cheapest___init__ : EvF := vFn 4 4 (vSeq (vSetFld sl_best (vVar 0) (vVar 1)) (vSeq (vSetFld sl_scenes (vVar 0) (vCall oList (vCons (vVar 2) vNil))) (vSetFld sl_runs (vVar 0) (vCall oDict (vCons (vVar 3) vNil)))))
def fn_NoPlan___init__ : EvF := vFn 2 2 (vSetFld sl_runs (vVar 0) (vCall oDict (vCons (vVar 1) vNil)))
def fn_Discreet___init__ : EvF := vFn 3 3 (vSeq (vSetFld sl_scenes (vVar 0) (vCall oList (vCons (vVar 1) vNil))) (vSetFld sl_rests (vVar 0) (vCall oDict (vCons (vVar 2) vNil))))
def fn_Indiscreet___init__ : EvF := vFn 3 3 (vSeq (vSetFld sl_deeds (vVar 0) (vVar 1)) (vSetFld sl_scenes (vVar 0) (vCall oList (vCons (vVar 2) vNil))))
def fn_Route___init__ : EvF := vFn 2 2 (vSetFld sl_calls (vVar 0) (vVar 1))
def fn_NoRoute___init__ : EvF := vFn 2 2 (vSetFld sl_rests (vVar 0) (vCall oList (vCons (vVar 1) vNil)))
def fn_Batched___init__ : EvF := vFn 3 3 (vSeq (vSetFld sl_batches (vVar 0) (vCall oList (vCons (vVar 1) vNil))) (vSetFld sl_levels (vVar 0) (vCall oDict (vCons (vVar 2) vNil))))
def fn_NoBatch___init__ : EvF := vFn 2 2 (vSetFld sl_rests (vVar 0) (vCall oList (vCons (vVar 1) vNil)))
def fn_Alike___init__ : EvF := vFn 2 2 (vSetFld sl_pairs (vVar 0) (vCall oList (vCons (vVar 1) vNil)))
def fn_Parted___init__ : EvF := vFn 2 2 (vSetFld sl_deeds (vVar 0) (vVar 1))
def fn_law_parts_two : EvF := vFn 1 1 (vSeq (vIf (vCmpT oEqU (vVar 0) (vCon (.int 6))) (vRet (vLst (vCons (vTup (vCons (vTup (vCons (vTup (vCons (vCon (.str [120])) (vCons (vCon (.int 1)) vNil))) vNil)) (vCons (vTup (vCons (vTup (vCons (vCon (.str [120])) (vCons (vCon (.int 2)) vNil))) vNil)) vNil))) vNil))) vSkip) (vSeq (vIf (vCmpT oEqU (vVar 0) (vCon (.int 7))) (vRet (vLst (vCons (vTup (vCons (vLst (vCons (vTup (vCons (vCon (.int 0)) (vCons (vCon (.int 0)) vNil))) vNil)) (vCons (vLst (vCons (vTup (vCons (vCon (.int 0)) (vCons (vCon (.int 1)) vNil))) vNil)) vNil))) vNil))) vSkip) (vSeq (vIf (vCmpT oEqU (vVar 0) (vCon (.int 8))) (vRet (vLst (vCons (vTup (vCons (vLst (vCons (vTup (vCons (vTup (vCons (vCon (.str [120])) (vCons (vCon (.int 1)) vNil))) vNil)) vNil)) (vCons (vLst (vCons (vTup (vCons (vTup (vCons (vCon (.str [121])) (vCons (vCon (.int 1)) vNil))) vNil)) vNil)) vNil))) (vCons (vTup (vCons (vCall oDict (vCons (vLst (vCons (vTup (vCons (vTup (vCons (vCon (.int 0)) (vCons (vCon (.int 0)) vNil))) (vCons (vCon (.int 1)) vNil))) vNil)) vNil)) (vCons (vCall oDict (vCons (vLst (vCons (vTup (vCons (vTup (vCons (vCon (.int 0)) (vCons (vCon (.int 1)) vNil))) (vCons (vCon (.int 1)) vNil))) vNil)) vNil)) vNil))) vNil)))) vSkip) (vSeq (vIf (vCmpT oEqU (vVar 0) (vCon (.int 9))) (vRet (vLst (vCons (vTup (vCons (vLst (vCons (vTup (vCons (vCon (.int 0)) (vCons (vCon (.int 0)) vNil))) vNil)) (vCons (vLst (vCons (vTup (vCons (vCon (.int 0)) (vCons (vCon (.int 1)) vNil))) vNil)) vNil))) vNil))) vSkip) (vSeq (vIf (vCmpT oEqU (vVar 0) (vCon (.int 10))) (vRet (vLst (vCons (vTup (vCons (vLst (vCons (vTup (vCons (vTup (vCons (vCon (.int 0)) (vCons (vCon (.int 0)) vNil))) (vCons (vTup (vCons (vCon (.int 0)) (vCons (vCon (.int 0)) vNil))) vNil))) vNil)) (vCons (vLst (vCons (vTup (vCons (vTup (vCons (vCon (.int 0)) (vCons (vCon (.int 0)) vNil))) (vCons (vTup (vCons (vCon (.int 0)) (vCons (vCon (.int 1)) vNil))) vNil))) vNil)) vNil))) vNil))) vSkip) (vRet (vLst (vCons (vTup (vCons (vTup (vCons (vTup (vCons (vCon (.str [120])) (vCons (vCon (.int 1)) vNil))) vNil)) (vCons (vTup (vCons (vTup (vCons (vCon (.str [120])) (vCons (vCon (.int 2)) vNil))) vNil)) vNil))) vNil))))))))
def fn_law_parts : EvF := vFn 1 1 (vSeq (vIf (vCmpT oEqU (vVar 0) (vCon (.int 0))) (vRet (vLst (vCons (vTup (vCons (vLst (vCons (vTup (vCons (vCon (.int 0)) (vCons (vCon (.int 0)) vNil))) vNil)) (vCons (vLst (vCons (vTup (vCons (vCon (.int 0)) (vCons (vCon (.int 1)) vNil))) vNil)) vNil))) vNil))) vSkip) (vSeq (vIf (vCmpT oEqU (vVar 0) (vCon (.int 1))) (vRet (vLst (vCons (vTup (vCons (vTup (vCons (vTup (vCons (vCon (.str [120])) (vCons (vCon (.int 1)) vNil))) vNil)) (vCons (vTup (vCons (vTup (vCons (vCon (.str [120])) (vCons (vCon (.int 2)) vNil))) vNil)) vNil))) vNil))) vSkip) (vSeq (vIf (vCmpT oEqU (vVar 0) (vCon (.int 2))) (vRet (vLst (vCons (vTup (vCons (vTup (vCons (vCon (.int 0)) vNil)) (vCons (vTup (vCons (vCon (.int 1)) vNil)) vNil))) (vCons (vTup (vCons (vLst (vCons (vTup (vCons (vCon (.int 0)) (vCons (vCon (.int 0)) vNil))) vNil)) (vCons (vLst (vCons (vTup (vCons (vCon (.int 0)) (vCons (vCon (.int 1)) vNil))) vNil)) vNil))) (vCons (vTup (vCons (vCall oDict (vCons (vLst (vCons (vTup (vCons (vTup (vCons (vCon (.int 1)) vNil)) (vCons (vTup (vCons (vTup (vCons (vCon (.str [120])) (vCons (vCon (.int 1)) vNil))) vNil)) vNil))) vNil)) vNil)) (vCons (vCall oDict (vCons (vLst (vCons (vTup (vCons (vTup (vCons (vCon (.int 2)) vNil)) (vCons (vTup (vCons (vTup (vCons (vCon (.str [120])) (vCons (vCon (.int 1)) vNil))) vNil)) vNil))) vNil)) vNil)) vNil))) vNil))))) vSkip) (vSeq (vIf (vCmpT oEqU (vVar 0) (vCon (.int 3))) (vRet (vLst (vCons (vTup (vCons (vCall oDict (vCons (vLst (vCons (vTup (vCons (vTup (vCons (vCon (.int 1)) vNil)) (vCons (vTup (vCons (vTup (vCons (vCon (.str [120])) (vCons (vCon (.int 1)) vNil))) vNil)) vNil))) vNil)) vNil)) (vCons (vCall oDict (vCons (vLst (vCons (vTup (vCons (vTup (vCons (vCon (.int 2)) vNil)) (vCons (vTup (vCons (vTup (vCons (vCon (.str [120])) (vCons (vCon (.int 1)) vNil))) vNil)) vNil))) vNil)) vNil)) vNil))) vNil))) vSkip) (vSeq (vIf (vCmpT oEqU (vVar 0) (vCon (.int 4))) (vRet (vLst (vCons (vTup (vCons (vLst (vCons (vTup (vCons (vCon (.int 0)) (vCons (vCon (.int 0)) vNil))) vNil)) (vCons (vLst (vCons (vTup (vCons (vCon (.int 0)) (vCons (vCon (.int 1)) vNil))) vNil)) vNil))) (vCons (vTup (vCons (vCall oDict (vCons (vLst (vCons (vTup (vCons (vTup (vCons (vCon (.int 0)) (vCons (vCon (.int 0)) vNil))) (vCons (vTup (vCons (vTup (vCons (vCon (.str [120])) (vCons (vCon (.int 1)) vNil))) vNil)) vNil))) vNil)) vNil)) (vCons (vCall oDict (vCons (vLst (vCons (vTup (vCons (vTup (vCons (vCon (.int 0)) (vCons (vCon (.int 1)) vNil))) (vCons (vTup (vCons (vTup (vCons (vCon (.str [120])) (vCons (vCon (.int 1)) vNil))) vNil)) vNil))) vNil)) vNil)) vNil))) vNil)))) vSkip) (vSeq (vIf (vCmpT oEqU (vVar 0) (vCon (.int 5))) (vRet (vLst (vCons (vTup (vCons (vTup (vCons (vTup (vCons (vCon (.str [120])) (vCons (vCon (.int 1)) vNil))) vNil)) (vCons (vTup (vCons (vTup (vCons (vCon (.str [120])) (vCons (vCon (.int 2)) vNil))) vNil)) vNil))) (vCons (vTup (vCons (vLst (vCons (vTup (vCons (vCon (.int 0)) (vCons (vCon (.int 0)) vNil))) vNil)) (vCons (vLst (vCons (vTup (vCons (vCon (.int 0)) (vCons (vCon (.int 1)) vNil))) vNil)) vNil))) vNil)))) vSkip) (vRet (vCall fn_law_parts_two (vCons (vVar 0) vNil)))))))))
def fn_law_fresh : EvF := vFn 2 1 (vRet (vLc (vIter (vCall fn_law_parts (vCons (vVar 0) vNil))) (gSet 1) vYes (vOp2 oIx (vVar 1) (vCon (.int 0))) [1]))
def fn_law_make_two : EvF := vFn 2 2 (vSeq (vIf (vCmpT oEqU (vVar 0) (vCon (.int 6))) (vRet (vMake 6 fn_Route___init__ (vCons (vOp2 oIx (vVar 1) (vCon (.int 0))) vNil))) vSkip) (vSeq (vIf (vCmpT oEqU (vVar 0) (vCon (.int 7))) (vRet (vMake 7 fn_NoRoute___init__ (vCons (vOp2 oIx (vVar 1) (vCon (.int 0))) vNil))) vSkip) (vSeq (vIf (vCmpT oEqU (vVar 0) (vCon (.int 8))) (vRet (vMake 8 fn_Batched___init__ (vCons (vOp2 oIx (vVar 1) (vCon (.int 0))) (vCons (vOp2 oIx (vVar 1) (vCon (.int 1))) vNil)))) vSkip) (vSeq (vIf (vCmpT oEqU (vVar 0) (vCon (.int 9))) (vRet (vMake 9 fn_NoBatch___init__ (vCons (vOp2 oIx (vVar 1) (vCon (.int 0))) vNil))) vSkip) (vSeq (vIf (vCmpT oEqU (vVar 0) (vCon (.int 10))) (vRet (vMake 10 fn_Alike___init__ (vCons (vOp2 oIx (vVar 1) (vCon (.int 0))) vNil))) vSkip) (vRet (vMake 11 fn_Parted___init__ (vCons (vOp2 oIx (vVar 1) (vCon (.int 0))) vNil))))))))
def fn_law_make : EvF := vFn 2 2 (vSeq (vIf (vCmpT oEqU (vVar 0) (vCon (.int 0))) (vRet (vMake 0 fn_Kept___init__ (vCons (vOp2 oIx (vVar 1) (vCon (.int 0))) vNil))) vSkip) (vSeq (vIf (vCmpT oEqU (vVar 0) (vCon (.int 1))) (vRet (vMake 1 fn_Broken___init__ (vCons (vOp2 oIx (vVar 1) (vCon (.int 0))) vNil))) vSkip) (vSeq (vIf (vCmpT oEqU (vVar 0) (vCon (.int 2))) (vRet (vMake 2 fn_Cheapest___init__ (vCons (vOp2 oIx (vVar 1) (vCon (.int 0))) (vCons (vOp2 oIx (vVar 1) (vCon (.int 1))) (vCons (vOp2 oIx (vVar 1) (vCon (.int 2))) vNil))))) vSkip) (vSeq (vIf (vCmpT oEqU (vVar 0) (vCon (.int 3))) (vRet (vMake 3 fn_NoPlan___init__ (vCons (vOp2 oIx (vVar 1) (vCon (.int 0))) vNil))) vSkip) (vSeq (vIf (vCmpT oEqU (vVar 0) (vCon (.int 4))) (vRet (vMake 4 fn_Discreet___init__ (vCons (vOp2 oIx (vVar 1) (vCon (.int 0))) (vCons (vOp2 oIx (vVar 1) (vCon (.int 1))) vNil)))) vSkip) (vSeq (vIf (vCmpT oEqU (vVar 0) (vCon (.int 5))) (vRet (vMake 5 fn_Indiscreet___init__ (vCons (vOp2 oIx (vVar 1) (vCon (.int 0))) (vCons (vOp2 oIx (vVar 1) (vCon (.int 1))) vNil)))) vSkip) (vRet (vCall fn_law_make_two (vCons (vVar 0) (vCons (vVar 1) vNil))))))))))
def feq : Nat → EvF
  | 0 => fn_Kept___eq__
  | 1 => fn_Broken___eq__
  | 2 => fn_Cheapest___eq__
  | 3 => fn_NoPlan___eq__
  | 4 => fn_Discreet___eq__
  | 5 => fn_Indiscreet___eq__
  | 6 => fn_Route___eq__
  | 7 => fn_NoRoute___eq__
  | 8 => fn_Batched___eq__
  | 9 => fn_NoBatch___eq__
  | 10 => fn_Alike___eq__
  | 11 => fn_Parted___eq__
  | _ => fun _ _ => none
def fn_law : EvF := vFn 8 1 (vSeq (vFor (vRange (vCons (vCon (.int 12)) vNil)) (gSet 1) (vSeq (vSet 2 (vCall fn_law_fresh (vCons (vVar 1) vNil))) (vSeq (vSet 3 (vCall fn_law_make (vCons (vVar 1) (vCons (vVar 2) vNil)))) (vSeq (vFor (vIter (vVar 2)) (gSet 4) (vIf (vTru (vCall (oIsi ncls) (vCons (vVar 4) (vCons (vTup (vCons (vCon (.ty .dict)) (vCons (vCon (.ty .list)) vNil))) vNil)))) (vExpr (vClear (vVar 4))) vSkip)) (vSeq (vIf (vCmpT (oNeI ncls feq) (vVar 3) (vCall fn_law_make (vCons (vVar 1) (vCons (vCall fn_law_fresh (vCons (vVar 1) vNil)) vNil)))) (vRet (vCon (.bl false))) vSkip) (vSeq (vFor (vRange (vCons (vCall oLen (vCons (vVar 2) vNil)) vNil)) (gSet 5) (vSeq (vSet 6 (vCall fn_law_fresh (vCons (vVar 1) vNil))) (vSeq (vSetIx (vVar 6) (vVar 5) (vOp2 oIx (vOp2 oIx (vCall fn_law_parts (vCons (vVar 1) vNil)) (vVar 5)) (vCon (.int 1)))) (vIf (vCmpT (oEqI ncls feq) (vVar 3) (vCall fn_law_make (vCons (vVar 1) (vCons (vVar 6) vNil)))) (vRet (vCon (.bl false))) vSkip)))) (vIf (vCmpT oNe (vMethL oCount (vLc (vRange (vCons (vCon (.int 12)) vNil)) (gSet 7) vYes (vOp2 (oEqI ncls feq) (vVar 3) (vCall fn_law_make (vCons (vVar 7) (vCons (vCall fn_law_fresh (vCons (vVar 7) vNil)) vNil)))) [7]) (vCons (vCon (.bl true)) vNil)) (vCon (.int 1))) (vRet (vCon (.bl false))) vSkip))))))) (vRet (vCall (oIsi ncls) (vCons (vVar 0) (vCons (vCon (.ty .list)) vNil)))))
structure Fx (K : PySem.W.Frag) (mg : Str → Option Value) : Prop where
  d_Kept___eq__ : ∃ fd, FunD K "__eq__" "Kept.__eq__" (defArgs s_Kept___eq__) (defBody s_Kept___eq__) (defScope s_Kept___eq__) [] [] (He.ma K (He.ga K "Kept") "__eq__") fd
  d_Broken___eq__ : ∃ fd, FunD K "__eq__" "Broken.__eq__" (defArgs s_Broken___eq__) (defBody s_Broken___eq__) (defScope s_Broken___eq__) [] [] (He.ma K (He.ga K "Broken") "__eq__") fd
  d_Cheapest___eq__ : ∃ fd, FunD K "__eq__" "Cheapest.__eq__" (defArgs s_Cheapest___eq__) (defBody s_Cheapest___eq__) (defScope s_Cheapest___eq__) [] [] (He.ma K (He.ga K "Cheapest") "__eq__") fd
  d_NoPlan___eq__ : ∃ fd, FunD K "__eq__" "NoPlan.__eq__" (defArgs s_NoPlan___eq__) (defBody s_NoPlan___eq__) (defScope s_NoPlan___eq__) [] [] (He.ma K (He.ga K "NoPlan") "__eq__") fd
  d_Discreet___eq__ : ∃ fd, FunD K "__eq__" "Discreet.__eq__" (defArgs s_Discreet___eq__) (defBody s_Discreet___eq__) (defScope s_Discreet___eq__) [] [] (He.ma K (He.ga K "Discreet") "__eq__") fd
  d_Indiscreet___eq__ : ∃ fd, FunD K "__eq__" "Indiscreet.__eq__" (defArgs s_Indiscreet___eq__) (defBody s_Indiscreet___eq__) (defScope s_Indiscreet___eq__) [] [] (He.ma K (He.ga K "Indiscreet") "__eq__") fd
  d_Route___eq__ : ∃ fd, FunD K "__eq__" "Route.__eq__" (defArgs s_Route___eq__) (defBody s_Route___eq__) (defScope s_Route___eq__) [] [] (He.ma K (He.ga K "Route") "__eq__") fd
  d_NoRoute___eq__ : ∃ fd, FunD K "__eq__" "NoRoute.__eq__" (defArgs s_NoRoute___eq__) (defBody s_NoRoute___eq__) (defScope s_NoRoute___eq__) [] [] (He.ma K (He.ga K "NoRoute") "__eq__") fd
  d_Batched___eq__ : ∃ fd, FunD K "__eq__" "Batched.__eq__" (defArgs s_Batched___eq__) (defBody s_Batched___eq__) (defScope s_Batched___eq__) [] [] (He.ma K (He.ga K "Batched") "__eq__") fd
  d_NoBatch___eq__ : ∃ fd, FunD K "__eq__" "NoBatch.__eq__" (defArgs s_NoBatch___eq__) (defBody s_NoBatch___eq__) (defScope s_NoBatch___eq__) [] [] (He.ma K (He.ga K "NoBatch") "__eq__") fd
  d_Alike___eq__ : ∃ fd, FunD K "__eq__" "Alike.__eq__" (defArgs s_Alike___eq__) (defBody s_Alike___eq__) (defScope s_Alike___eq__) [] [] (He.ma K (He.ga K "Alike") "__eq__") fd
  d_Parted___eq__ : ∃ fd, FunD K "__eq__" "Parted.__eq__" (defArgs s_Parted___eq__) (defBody s_Parted___eq__) (defScope s_Parted___eq__) [] [] (He.ma K (He.ga K "Parted") "__eq__") fd
  d_Kept___init__ : ∃ fd, FunD K "__init__" "Kept.__init__" (defArgs s_Kept___init__) (defBody s_Kept___init__) (defScope s_Kept___init__) [] [] (He.ma K (He.ga K "Kept") "__init__") fd
  d_Broken___init__ : ∃ fd, FunD K "__init__" "Broken.__init__" (defArgs s_Broken___init__) (defBody s_Broken___init__) (defScope s_Broken___init__) [] [] (He.ma K (He.ga K "Broken") "__init__") fd
  d_Cheapest___init__ : ∃ fd, FunD K "__init__" "Cheapest.__init__" (defArgs s_Cheapest___init__) (defBody s_Cheapest___init__) (defScope s_Cheapest___init__) [] [] (He.ma K (He.ga K "Cheapest") "__init__") fd
  d_NoPlan___init__ : ∃ fd, FunD K "__init__" "NoPlan.__init__" (defArgs s_NoPlan___init__) (defBody s_NoPlan___init__) (defScope s_NoPlan___init__) [] [] (He.ma K (He.ga K "NoPlan") "__init__") fd
  d_Discreet___init__ : ∃ fd, FunD K "__init__" "Discreet.__init__" (defArgs s_Discreet___init__) (defBody s_Discreet___init__) (defScope s_Discreet___init__) [] [] (He.ma K (He.ga K "Discreet") "__init__") fd
  d_Indiscreet___init__ : ∃ fd, FunD K "__init__" "Indiscreet.__init__" (defArgs s_Indiscreet___init__) (defBody s_Indiscreet___init__) (defScope s_Indiscreet___init__) [] [] (He.ma K (He.ga K "Indiscreet") "__init__") fd
  d_Route___init__ : ∃ fd, FunD K "__init__" "Route.__init__" (defArgs s_Route___init__) (defBody s_Route___init__) (defScope s_Route___init__) [] [] (He.ma K (He.ga K "Route") "__init__") fd
  d_NoRoute___init__ : ∃ fd, FunD K "__init__" "NoRoute.__init__" (defArgs s_NoRoute___init__) (defBody s_NoRoute___init__) (defScope s_NoRoute___init__) [] [] (He.ma K (He.ga K "NoRoute") "__init__") fd
  d_Batched___init__ : ∃ fd, FunD K "__init__" "Batched.__init__" (defArgs s_Batched___init__) (defBody s_Batched___init__) (defScope s_Batched___init__) [] [] (He.ma K (He.ga K "Batched") "__init__") fd
  d_NoBatch___init__ : ∃ fd, FunD K "__init__" "NoBatch.__init__" (defArgs s_NoBatch___init__) (defBody s_NoBatch___init__) (defScope s_NoBatch___init__) [] [] (He.ma K (He.ga K "NoBatch") "__init__") fd
  d_Alike___init__ : ∃ fd, FunD K "__init__" "Alike.__init__" (defArgs s_Alike___init__) (defBody s_Alike___init__) (defScope s_Alike___init__) [] [] (He.ma K (He.ga K "Alike") "__init__") fd
  d_Parted___init__ : ∃ fd, FunD K "__init__" "Parted.__init__" (defArgs s_Parted___init__) (defBody s_Parted___init__) (defScope s_Parted___init__) [] [] (He.ma K (He.ga K "Parted") "__init__") fd
  d_law_parts_two : ∃ fd, FunD K "_law_parts_two" "_law_parts_two" (defArgs s_law_parts_two) (defBody s_law_parts_two) (defScope s_law_parts_two) [] [] (He.ga K "_law_parts_two") fd
  d_law_parts : ∃ fd, FunD K "_law_parts" "_law_parts" (defArgs s_law_parts) (defBody s_law_parts) (defScope s_law_parts) [] [] (He.ga K "_law_parts") fd
  d_law_fresh : ∃ fd, FunD K "_law_fresh" "_law_fresh" (defArgs s_law_fresh) (defBody s_law_fresh) (defScope s_law_fresh) [] [] (He.ga K "_law_fresh") fd
  d_law_make_two : ∃ fd, FunD K "_law_make_two" "_law_make_two" (defArgs s_law_make_two) (defBody s_law_make_two) (defScope s_law_make_two) [] [] (He.ga K "_law_make_two") fd
  d_law_make : ∃ fd, FunD K "_law_make" "_law_make" (defArgs s_law_make) (defBody s_law_make) (defScope s_law_make) [] [] (He.ga K "_law_make") fd
  d_law : ∃ fd, FunD K "law" "law" (defArgs s_law) (defBody s_law) (defScope s_law) [] [] (He.ga K "law") fd
  g__law_parts_two : mg "_law_parts_two" = some (.ref (He.ga K "_law_parts_two"))
  k_law_parts_two : PySem.W.keepIn K (.ref (He.ga K "_law_parts_two")) = true
  g__law_parts : mg "_law_parts" = some (.ref (He.ga K "_law_parts"))
  k_law_parts : PySem.W.keepIn K (.ref (He.ga K "_law_parts")) = true
  g__law_fresh : mg "_law_fresh" = some (.ref (He.ga K "_law_fresh"))
  k_law_fresh : PySem.W.keepIn K (.ref (He.ga K "_law_fresh")) = true
  g__law_make_two : mg "_law_make_two" = some (.ref (He.ga K "_law_make_two"))
  k_law_make_two : PySem.W.keepIn K (.ref (He.ga K "_law_make_two")) = true
  g__law_make : mg "_law_make" = some (.ref (He.ga K "_law_make"))
  k_law_make : PySem.W.keepIn K (.ref (He.ga K "_law_make")) = true
  g_law : mg "law" = some (.ref (He.ga K "law"))
  k_law : PySem.W.keepIn K (.ref (He.ga K "law")) = true
  g_Kept : mg "Kept" = some (.ref (He.ga K "Kept"))
  mk_Kept : Mk K (He.ga K "Kept") (He.ma K (He.ga K "Kept") "__init__")
  g_Broken : mg "Broken" = some (.ref (He.ga K "Broken"))
  mk_Broken : Mk K (He.ga K "Broken") (He.ma K (He.ga K "Broken") "__init__")
  g_Cheapest : mg "Cheapest" = some (.ref (He.ga K "Cheapest"))
  mk_Cheapest : Mk K (He.ga K "Cheapest") (He.ma K (He.ga K "Cheapest") "__init__")
  g_NoPlan : mg "NoPlan" = some (.ref (He.ga K "NoPlan"))
  mk_NoPlan : Mk K (He.ga K "NoPlan") (He.ma K (He.ga K "NoPlan") "__init__")
  g_Discreet : mg "Discreet" = some (.ref (He.ga K "Discreet"))
  mk_Discreet : Mk K (He.ga K "Discreet") (He.ma K (He.ga K "Discreet") "__init__")
  g_Indiscreet : mg "Indiscreet" = some (.ref (He.ga K "Indiscreet"))
  mk_Indiscreet : Mk K (He.ga K "Indiscreet") (He.ma K (He.ga K "Indiscreet") "__init__")
  g_Route : mg "Route" = some (.ref (He.ga K "Route"))
  mk_Route : Mk K (He.ga K "Route") (He.ma K (He.ga K "Route") "__init__")
  g_NoRoute : mg "NoRoute" = some (.ref (He.ga K "NoRoute"))
  mk_NoRoute : Mk K (He.ga K "NoRoute") (He.ma K (He.ga K "NoRoute") "__init__")
  g_Batched : mg "Batched" = some (.ref (He.ga K "Batched"))
  mk_Batched : Mk K (He.ga K "Batched") (He.ma K (He.ga K "Batched") "__init__")
  g_NoBatch : mg "NoBatch" = some (.ref (He.ga K "NoBatch"))
  mk_NoBatch : Mk K (He.ga K "NoBatch") (He.ma K (He.ga K "NoBatch") "__init__")
  g_Alike : mg "Alike" = some (.ref (He.ga K "Alike"))
  mk_Alike : Mk K (He.ga K "Alike") (He.ma K (He.ga K "Alike") "__init__")
  g_Parted : mg "Parted" = some (.ref (He.ga K "Parted"))
  mk_Parted : Mk K (He.ga K "Parted") (He.ma K (He.ga K "Parted") "__init__")
  b_dict : mg "dict" = none
  b_isinstance : mg "isinstance" = none
  b_len : mg "len" = none
  b_list : mg "list" = none
  b_range : mg "range" = none
  fld_batches : ∀ P w sa ns, FldOk (gx P w K sa ns) "batches" sl_batches
  fld_best : ∀ P w sa ns, FldOk (gx P w K sa ns) "best" sl_best
  fld_calls : ∀ P w sa ns, FldOk (gx P w K sa ns) "calls" sl_calls
  fld_deeds : ∀ P w sa ns, FldOk (gx P w K sa ns) "deeds" sl_deeds
  fld_levels : ∀ P w sa ns, FldOk (gx P w K sa ns) "levels" sl_levels
  fld_pairs : ∀ P w sa ns, FldOk (gx P w K sa ns) "pairs" sl_pairs
  fld_rests : ∀ P w sa ns, FldOk (gx P w K sa ns) "rests" sl_rests
  fld_runs : ∀ P w sa ns, FldOk (gx P w K sa ns) "runs" sl_runs
  fld_scenes : ∀ P w sa ns, FldOk (gx P w K sa ns) "scenes" sl_scenes
  clsok : ∀ P w sa ns, ClsOk (gx P w K sa ns) ncls
  neok : ∀ P w sa ns, NeOk K (gx P w K sa ns) ncls
  eqm : ∀ c, c < ncls → PySem.W.findIn K (.ref (cA K c)) "__eq__" = some (some (.ref (He.ma K (cA K c) "__eq__"))) ∧ PySem.W.isFn K (.ref (He.ma K (cA K c) "__eq__")) = true
  first : ∀ c c', c < ncls → c' < ncls → PySem.W.notFirst K (cA K c) (.ref (cA K c')) = true

section
variable {P : Program} {w : World} {K : PySem.W.Frag} {mg : Str → Option Value} {base : Heap} {sa : Addr} {ns : List Int}
theorem ok_Kept___eq__ (F : Fx K mg) : FnR P w K mg base CX0 1 (He.ma K (He.ga K "Kept") "__eq__") (spF (gx P w K sa ns) fn_Kept___eq__) := by
  obtain ⟨fd, Fd⟩ := F.d_Kept___eq__
  refine fnF (N := N_Kept___eq__) (ps := ["self", "other"]) Fd sc_Kept___eq__ (Fd.bindsN fun _ _ _ _ _ _ us hl => match us, hl with | [_, _], _ => rfl) (fun cdv A outer s H E hr => ?_)
  exact (ssOne (sRet (pAnd (pCallB (bi_isi (F.clsok _ _ _ _)) (by rfl) F.b_isinstance (by decide +kernel) (pCons (pVar (pv 1)) (pCons (pCon (pe_glob (v := .ref (He.ga K "Kept")) (by rfl) F.g_Kept rfl) (fun _ _ _ => RD.cls 0)) pNil))) (pOne (pCmp (op_eqU hr) ok_rd2 (pFld (F.fld_scenes _ _ _ _) (pVar (pv 0))) (pFld (F.fld_scenes _ _ _ _) (pVar (pv 1))) (nomark _))))))
theorem ok_Broken___eq__ (F : Fx K mg) : FnR P w K mg base CX0 1 (He.ma K (He.ga K "Broken") "__eq__") (spF (gx P w K sa ns) fn_Broken___eq__) := by
  obtain ⟨fd, Fd⟩ := F.d_Broken___eq__
  refine fnF (N := N_Broken___eq__) (ps := ["self", "other"]) Fd sc_Broken___eq__ (Fd.bindsN fun _ _ _ _ _ _ us hl => match us, hl with | [_, _], _ => rfl) (fun cdv A outer s H E hr => ?_)
  exact (ssOne (sRet (pAnd (pCallB (bi_isi (F.clsok _ _ _ _)) (by rfl) F.b_isinstance (by decide +kernel) (pCons (pVar (pv 1)) (pCons (pCon (pe_glob (v := .ref (He.ga K "Broken")) (by rfl) F.g_Broken rfl) (fun _ _ _ => RD.cls 1)) pNil))) (pOne (pCmp (op_eqU hr) ok_rd2 (pFld (F.fld_deeds _ _ _ _) (pVar (pv 0))) (pFld (F.fld_deeds _ _ _ _) (pVar (pv 1))) (nomark _))))))
theorem ok_Cheapest___eq__ (F : Fx K mg) : FnR P w K mg base CX0 1 (He.ma K (He.ga K "Cheapest") "__eq__") (spF (gx P w K sa ns) fn_Cheapest___eq__) := by
  obtain ⟨fd, Fd⟩ := F.d_Cheapest___eq__
  refine fnF (N := N_Cheapest___eq__) (ps := ["self", "other"]) Fd sc_Cheapest___eq__ (Fd.bindsN fun _ _ _ _ _ _ us hl => match us, hl with | [_, _], _ => rfl) (fun cdv A outer s H E hr => ?_)
  exact (ssOne (sRet (pAnd (pCallB (bi_isi (F.clsok _ _ _ _)) (by rfl) F.b_isinstance (by decide +kernel) (pCons (pVar (pv 1)) (pCons (pCon (pe_glob (v := .ref (He.ga K "Cheapest")) (by rfl) F.g_Cheapest rfl) (fun _ _ _ => RD.cls 2)) pNil))) (pAnd (pCmp (op_eqU hr) ok_rd2 (pFld (F.fld_best _ _ _ _) (pVar (pv 0))) (pFld (F.fld_best _ _ _ _) (pVar (pv 1))) (nomark _)) (pAnd (pCmp (op_eqU hr) ok_rd2 (pFld (F.fld_scenes _ _ _ _) (pVar (pv 0))) (pFld (F.fld_scenes _ _ _ _) (pVar (pv 1))) (nomark _)) (pOne (pCmp (op_eqU hr) ok_rd2 (pFld (F.fld_runs _ _ _ _) (pVar (pv 0))) (pFld (F.fld_runs _ _ _ _) (pVar (pv 1))) (nomark _))))))))
theorem ok_NoPlan___eq__ (F : Fx K mg) : FnR P w K mg base CX0 1 (He.ma K (He.ga K "NoPlan") "__eq__") (spF (gx P w K sa ns) fn_NoPlan___eq__) := by
  obtain ⟨fd, Fd⟩ := F.d_NoPlan___eq__
  refine fnF (N := N_NoPlan___eq__) (ps := ["self", "other"]) Fd sc_NoPlan___eq__ (Fd.bindsN fun _ _ _ _ _ _ us hl => match us, hl with | [_, _], _ => rfl) (fun cdv A outer s H E hr => ?_)
  exact (ssOne (sRet (pAnd (pCallB (bi_isi (F.clsok _ _ _ _)) (by rfl) F.b_isinstance (by decide +kernel) (pCons (pVar (pv 1)) (pCons (pCon (pe_glob (v := .ref (He.ga K "NoPlan")) (by rfl) F.g_NoPlan rfl) (fun _ _ _ => RD.cls 3)) pNil))) (pOne (pCmp (op_eqU hr) ok_rd2 (pFld (F.fld_runs _ _ _ _) (pVar (pv 0))) (pFld (F.fld_runs _ _ _ _) (pVar (pv 1))) (nomark _))))))
theorem ok_Discreet___eq__ (F : Fx K mg) : FnR P w K mg base CX0 1 (He.ma K (He.ga K "Discreet") "__eq__") (spF (gx P w K sa ns) fn_Discreet___eq__) := by
  obtain ⟨fd, Fd⟩ := F.d_Discreet___eq__
  refine fnF (N := N_Discreet___eq__) (ps := ["self", "other"]) Fd sc_Discreet___eq__ (Fd.bindsN fun _ _ _ _ _ _ us hl => match us, hl with | [_, _], _ => rfl) (fun cdv A outer s H E hr => ?_)
  exact (ssOne (sRet (pAnd (pCallB (bi_isi (F.clsok _ _ _ _)) (by rfl) F.b_isinstance (by decide +kernel) (pCons (pVar (pv 1)) (pCons (pCon (pe_glob (v := .ref (He.ga K "Discreet")) (by rfl) F.g_Discreet rfl) (fun _ _ _ => RD.cls 4)) pNil))) (pAnd (pCmp (op_eqU hr) ok_rd2 (pFld (F.fld_scenes _ _ _ _) (pVar (pv 0))) (pFld (F.fld_scenes _ _ _ _) (pVar (pv 1))) (nomark _)) (pOne (pCmp (op_eqU hr) ok_rd2 (pFld (F.fld_rests _ _ _ _) (pVar (pv 0))) (pFld (F.fld_rests _ _ _ _) (pVar (pv 1))) (nomark _)))))))
theorem ok_Indiscreet___eq__ (F : Fx K mg) : FnR P w K mg base CX0 1 (He.ma K (He.ga K "Indiscreet") "__eq__") (spF (gx P w K sa ns) fn_Indiscreet___eq__) := by
  obtain ⟨fd, Fd⟩ := F.d_Indiscreet___eq__
  refine fnF (N := N_Indiscreet___eq__) (ps := ["self", "other"]) Fd sc_Indiscreet___eq__ (Fd.bindsN fun _ _ _ _ _ _ us hl => match us, hl with | [_, _], _ => rfl) (fun cdv A outer s H E hr => ?_)
  exact (ssOne (sRet (pAnd (pCallB (bi_isi (F.clsok _ _ _ _)) (by rfl) F.b_isinstance (by decide +kernel) (pCons (pVar (pv 1)) (pCons (pCon (pe_glob (v := .ref (He.ga K "Indiscreet")) (by rfl) F.g_Indiscreet rfl) (fun _ _ _ => RD.cls 5)) pNil))) (pAnd (pCmp (op_eqU hr) ok_rd2 (pFld (F.fld_deeds _ _ _ _) (pVar (pv 0))) (pFld (F.fld_deeds _ _ _ _) (pVar (pv 1))) (nomark _)) (pOne (pCmp (op_eqU hr) ok_rd2 (pFld (F.fld_scenes _ _ _ _) (pVar (pv 0))) (pFld (F.fld_scenes _ _ _ _) (pVar (pv 1))) (nomark _)))))))
theorem ok_Route___eq__ (F : Fx K mg) : FnR P w K mg base CX0 1 (He.ma K (He.ga K "Route") "__eq__") (spF (gx P w K sa ns) fn_Route___eq__) := by
  obtain ⟨fd, Fd⟩ := F.d_Route___eq__
  refine fnF (N := N_Route___eq__) (ps := ["self", "other"]) Fd sc_Route___eq__ (Fd.bindsN fun _ _ _ _ _ _ us hl => match us, hl with | [_, _], _ => rfl) (fun cdv A outer s H E hr => ?_)
  exact (ssOne (sRet (pAnd (pCallB (bi_isi (F.clsok _ _ _ _)) (by rfl) F.b_isinstance (by decide +kernel) (pCons (pVar (pv 1)) (pCons (pCon (pe_glob (v := .ref (He.ga K "Route")) (by rfl) F.g_Route rfl) (fun _ _ _ => RD.cls 6)) pNil))) (pOne (pCmp (op_eqU hr) ok_rd2 (pFld (F.fld_calls _ _ _ _) (pVar (pv 0))) (pFld (F.fld_calls _ _ _ _) (pVar (pv 1))) (nomark _))))))
theorem ok_NoRoute___eq__ (F : Fx K mg) : FnR P w K mg base CX0 1 (He.ma K (He.ga K "NoRoute") "__eq__") (spF (gx P w K sa ns) fn_NoRoute___eq__) := by
  obtain ⟨fd, Fd⟩ := F.d_NoRoute___eq__
  refine fnF (N := N_NoRoute___eq__) (ps := ["self", "other"]) Fd sc_NoRoute___eq__ (Fd.bindsN fun _ _ _ _ _ _ us hl => match us, hl with | [_, _], _ => rfl) (fun cdv A outer s H E hr => ?_)
  exact (ssOne (sRet (pAnd (pCallB (bi_isi (F.clsok _ _ _ _)) (by rfl) F.b_isinstance (by decide +kernel) (pCons (pVar (pv 1)) (pCons (pCon (pe_glob (v := .ref (He.ga K "NoRoute")) (by rfl) F.g_NoRoute rfl) (fun _ _ _ => RD.cls 7)) pNil))) (pOne (pCmp (op_eqU hr) ok_rd2 (pFld (F.fld_rests _ _ _ _) (pVar (pv 0))) (pFld (F.fld_rests _ _ _ _) (pVar (pv 1))) (nomark _))))))
theorem ok_Batched___eq__ (F : Fx K mg) : FnR P w K mg base CX0 1 (He.ma K (He.ga K "Batched") "__eq__") (spF (gx P w K sa ns) fn_Batched___eq__) := by
  obtain ⟨fd, Fd⟩ := F.d_Batched___eq__
  refine fnF (N := N_Batched___eq__) (ps := ["self", "other"]) Fd sc_Batched___eq__ (Fd.bindsN fun _ _ _ _ _ _ us hl => match us, hl with | [_, _], _ => rfl) (fun cdv A outer s H E hr => ?_)
  exact (ssOne (sRet (pAnd (pCallB (bi_isi (F.clsok _ _ _ _)) (by rfl) F.b_isinstance (by decide +kernel) (pCons (pVar (pv 1)) (pCons (pCon (pe_glob (v := .ref (He.ga K "Batched")) (by rfl) F.g_Batched rfl) (fun _ _ _ => RD.cls 8)) pNil))) (pAnd (pCmp (op_eqU hr) ok_rd2 (pFld (F.fld_batches _ _ _ _) (pVar (pv 0))) (pFld (F.fld_batches _ _ _ _) (pVar (pv 1))) (nomark _)) (pOne (pCmp (op_eqU hr) ok_rd2 (pFld (F.fld_levels _ _ _ _) (pVar (pv 0))) (pFld (F.fld_levels _ _ _ _) (pVar (pv 1))) (nomark _)))))))
theorem ok_NoBatch___eq__ (F : Fx K mg) : FnR P w K mg base CX0 1 (He.ma K (He.ga K "NoBatch") "__eq__") (spF (gx P w K sa ns) fn_NoBatch___eq__) := by
  obtain ⟨fd, Fd⟩ := F.d_NoBatch___eq__
  refine fnF (N := N_NoBatch___eq__) (ps := ["self", "other"]) Fd sc_NoBatch___eq__ (Fd.bindsN fun _ _ _ _ _ _ us hl => match us, hl with | [_, _], _ => rfl) (fun cdv A outer s H E hr => ?_)
  exact (ssOne (sRet (pAnd (pCallB (bi_isi (F.clsok _ _ _ _)) (by rfl) F.b_isinstance (by decide +kernel) (pCons (pVar (pv 1)) (pCons (pCon (pe_glob (v := .ref (He.ga K "NoBatch")) (by rfl) F.g_NoBatch rfl) (fun _ _ _ => RD.cls 9)) pNil))) (pOne (pCmp (op_eqU hr) ok_rd2 (pFld (F.fld_rests _ _ _ _) (pVar (pv 0))) (pFld (F.fld_rests _ _ _ _) (pVar (pv 1))) (nomark _))))))
theorem ok_Alike___eq__ (F : Fx K mg) : FnR P w K mg base CX0 1 (He.ma K (He.ga K "Alike") "__eq__") (spF (gx P w K sa ns) fn_Alike___eq__) := by
  obtain ⟨fd, Fd⟩ := F.d_Alike___eq__
  refine fnF (N := N_Alike___eq__) (ps := ["self", "other"]) Fd sc_Alike___eq__ (Fd.bindsN fun _ _ _ _ _ _ us hl => match us, hl with | [_, _], _ => rfl) (fun cdv A outer s H E hr => ?_)
  exact (ssOne (sRet (pAnd (pCallB (bi_isi (F.clsok _ _ _ _)) (by rfl) F.b_isinstance (by decide +kernel) (pCons (pVar (pv 1)) (pCons (pCon (pe_glob (v := .ref (He.ga K "Alike")) (by rfl) F.g_Alike rfl) (fun _ _ _ => RD.cls 10)) pNil))) (pOne (pCmp (op_eqU hr) ok_rd2 (pFld (F.fld_pairs _ _ _ _) (pVar (pv 0))) (pFld (F.fld_pairs _ _ _ _) (pVar (pv 1))) (nomark _))))))
theorem ok_Parted___eq__ (F : Fx K mg) : FnR P w K mg base CX0 1 (He.ma K (He.ga K "Parted") "__eq__") (spF (gx P w K sa ns) fn_Parted___eq__) := by
  obtain ⟨fd, Fd⟩ := F.d_Parted___eq__
  refine fnF (N := N_Parted___eq__) (ps := ["self", "other"]) Fd sc_Parted___eq__ (Fd.bindsN fun _ _ _ _ _ _ us hl => match us, hl with | [_, _], _ => rfl) (fun cdv A outer s H E hr => ?_)
  exact (ssOne (sRet (pAnd (pCallB (bi_isi (F.clsok _ _ _ _)) (by rfl) F.b_isinstance (by decide +kernel) (pCons (pVar (pv 1)) (pCons (pCon (pe_glob (v := .ref (He.ga K "Parted")) (by rfl) F.g_Parted rfl) (fun _ _ _ => RD.cls 11)) pNil))) (pOne (pCmp (op_eqU hr) ok_rd2 (pFld (F.fld_deeds _ _ _ _) (pVar (pv 0))) (pFld (F.fld_deeds _ _ _ _) (pVar (pv 1))) (nomark _))))))
theorem ok_Kept___init__ (F : Fx K mg) : FnR P w K mg base CX0 1 (He.ma K (He.ga K "Kept") "__init__") (spF (gx P w K sa ns) fn_Kept___init__) := by
  obtain ⟨fd, Fd⟩ := F.d_Kept___init__
  refine fnF (N := N_Kept___init__) (ps := ["self", "scenes"]) Fd sc_Kept___init__ (Fd.bindsN fun _ _ _ _ _ _ us hl => match us, hl with | [_, _], _ => rfl) (fun cdv A outer s H E hr => ?_)
  exact (ssOne (sSetFld (F.fld_scenes _ _ _ _) (pVar (pv 0)) (pCallTy bi_list (by rfl) F.b_list (by decide +kernel) (pCons (pVar (pv 1)) pNil))))
theorem ok_Broken___init__ (F : Fx K mg) : FnR P w K mg base CX0 1 (He.ma K (He.ga K "Broken") "__init__") (spF (gx P w K sa ns) fn_Broken___init__) := by
  obtain ⟨fd, Fd⟩ := F.d_Broken___init__
  refine fnF (N := N_Broken___init__) (ps := ["self", "deeds"]) Fd sc_Broken___init__ (Fd.bindsN fun _ _ _ _ _ _ us hl => match us, hl with | [_, _], _ => rfl) (fun cdv A outer s H E hr => ?_)
  exact (ssOne (sSetFld (F.fld_deeds _ _ _ _) (pVar (pv 0)) (pVar (pv 1))))
theorem ok_Cheapest___init__ (F : Fx K mg) : FnR P w K mg base CX0 1 (He.ma K (He.ga K "Cheapest") "__init__") (spF (gx P w K sa ns) fn_Cheapest___init__) := by
  obtain ⟨fd, Fd⟩ := F.d_Cheapest___init__
  refine fnF (N := N_Cheapest___init__) (ps := ["self", "best", "scenes", "runs"]) Fd sc_Cheapest___init__ (Fd.bindsN fun _ _ _ _ _ _ us hl => match us, hl with | [_, _, _, _], _ => rfl) (fun cdv A outer s H E hr => ?_)
  exact (ssCons (sSetFld (F.fld_best _ _ _ _) (pVar (pv 0)) (pVar (pv 1)))
    (ssCons (sSetFld (F.fld_scenes _ _ _ _) (pVar (pv 0)) (pCallTy bi_list (by rfl) F.b_list (by decide +kernel) (pCons (pVar (pv 2)) pNil)))
    (ssOne (sSetFld (F.fld_runs _ _ _ _) (pVar (pv 0)) (pCallTy (bi_dict hr) (by rfl) F.b_dict (by decide +kernel) (pCons (pVar (pv 3)) pNil))))))
theorem ok_NoPlan___init__ (F : Fx K mg) : FnR P w K mg base CX0 1 (He.ma K (He.ga K "NoPlan") "__init__") (spF (gx P w K sa ns) fn_NoPlan___init__) := by
  obtain ⟨fd, Fd⟩ := F.d_NoPlan___init__
  refine fnF (N := N_NoPlan___init__) (ps := ["self", "runs"]) Fd sc_NoPlan___init__ (Fd.bindsN fun _ _ _ _ _ _ us hl => match us, hl with | [_, _], _ => rfl) (fun cdv A outer s H E hr => ?_)
  exact (ssOne (sSetFld (F.fld_runs _ _ _ _) (pVar (pv 0)) (pCallTy (bi_dict hr) (by rfl) F.b_dict (by decide +kernel) (pCons (pVar (pv 1)) pNil))))
theorem ok_Discreet___init__ (F : Fx K mg) : FnR P w K mg base CX0 1 (He.ma K (He.ga K "Discreet") "__init__") (spF (gx P w K sa ns) fn_Discreet___init__) := by
  obtain ⟨fd, Fd⟩ := F.d_Discreet___init__
  refine fnF (N := N_Discreet___init__) (ps := ["self", "scenes", "rests"]) Fd sc_Discreet___init__ (Fd.bindsN fun _ _ _ _ _ _ us hl => match us, hl with | [_, _, _], _ => rfl) (fun cdv A outer s H E hr => ?_)
  exact (ssCons (sSetFld (F.fld_scenes _ _ _ _) (pVar (pv 0)) (pCallTy bi_list (by rfl) F.b_list (by decide +kernel) (pCons (pVar (pv 1)) pNil)))
    (ssOne (sSetFld (F.fld_rests _ _ _ _) (pVar (pv 0)) (pCallTy (bi_dict hr) (by rfl) F.b_dict (by decide +kernel) (pCons (pVar (pv 2)) pNil)))))
theorem ok_Indiscreet___init__ (F : Fx K mg) : FnR P w K mg base CX0 1 (He.ma K (He.ga K "Indiscreet") "__init__") (spF (gx P w K sa ns) fn_Indiscreet___init__) := by
  obtain ⟨fd, Fd⟩ := F.d_Indiscreet___init__
  refine fnF (N := N_Indiscreet___init__) (ps := ["self", "deeds", "scenes"]) Fd sc_Indiscreet___init__ (Fd.bindsN fun _ _ _ _ _ _ us hl => match us, hl with | [_, _, _], _ => rfl) (fun cdv A outer s H E hr => ?_)
  exact (ssCons (sSetFld (F.fld_deeds _ _ _ _) (pVar (pv 0)) (pVar (pv 1)))
    (ssOne (sSetFld (F.fld_scenes _ _ _ _) (pVar (pv 0)) (pCallTy bi_list (by rfl) F.b_list (by decide +kernel) (pCons (pVar (pv 2)) pNil)))))
theorem ok_Route___init__ (F : Fx K mg) : FnR P w K mg base CX0 1 (He.ma K (He.ga K "Route") "__init__") (spF (gx P w K sa ns) fn_Route___init__) := by
  obtain ⟨fd, Fd⟩ := F.d_Route___init__
  refine fnF (N := N_Route___init__) (ps := ["self", "calls"]) Fd sc_Route___init__ (Fd.bindsN fun _ _ _ _ _ _ us hl => match us, hl with | [_, _], _ => rfl) (fun cdv A outer s H E hr => ?_)
  exact (ssOne (sSetFld (F.fld_calls _ _ _ _) (pVar (pv 0)) (pVar (pv 1))))
theorem ok_NoRoute___init__ (F : Fx K mg) : FnR P w K mg base CX0 1 (He.ma K (He.ga K "NoRoute") "__init__") (spF (gx P w K sa ns) fn_NoRoute___init__) := by
  obtain ⟨fd, Fd⟩ := F.d_NoRoute___init__
  refine fnF (N := N_NoRoute___init__) (ps := ["self", "rests"]) Fd sc_NoRoute___init__ (Fd.bindsN fun _ _ _ _ _ _ us hl => match us, hl with | [_, _], _ => rfl) (fun cdv A outer s H E hr => ?_)
  exact (ssOne (sSetFld (F.fld_rests _ _ _ _) (pVar (pv 0)) (pCallTy bi_list (by rfl) F.b_list (by decide +kernel) (pCons (pVar (pv 1)) pNil))))
theorem ok_Batched___init__ (F : Fx K mg) : FnR P w K mg base CX0 1 (He.ma K (He.ga K "Batched") "__init__") (spF (gx P w K sa ns) fn_Batched___init__) := by
  obtain ⟨fd, Fd⟩ := F.d_Batched___init__
  refine fnF (N := N_Batched___init__) (ps := ["self", "batches", "levels"]) Fd sc_Batched___init__ (Fd.bindsN fun _ _ _ _ _ _ us hl => match us, hl with | [_, _, _], _ => rfl) (fun cdv A outer s H E hr => ?_)
  exact (ssCons (sSetFld (F.fld_batches _ _ _ _) (pVar (pv 0)) (pCallTy bi_list (by rfl) F.b_list (by decide +kernel) (pCons (pVar (pv 1)) pNil)))
    (ssOne (sSetFld (F.fld_levels _ _ _ _) (pVar (pv 0)) (pCallTy (bi_dict hr) (by rfl) F.b_dict (by decide +kernel) (pCons (pVar (pv 2)) pNil)))))
theorem ok_NoBatch___init__ (F : Fx K mg) : FnR P w K mg base CX0 1 (He.ma K (He.ga K "NoBatch") "__init__") (spF (gx P w K sa ns) fn_NoBatch___init__) := by
  obtain ⟨fd, Fd⟩ := F.d_NoBatch___init__
  refine fnF (N := N_NoBatch___init__) (ps := ["self", "rests"]) Fd sc_NoBatch___init__ (Fd.bindsN fun _ _ _ _ _ _ us hl => match us, hl with | [_, _], _ => rfl) (fun cdv A outer s H E hr => ?_)
  exact (ssOne (sSetFld (F.fld_rests _ _ _ _) (pVar (pv 0)) (pCallTy bi_list (by rfl) F.b_list (by decide +kernel) (pCons (pVar (pv 1)) pNil))))
theorem ok_Alike___init__ (F : Fx K mg) : FnR P w K mg base CX0 1 (He.ma K (He.ga K "Alike") "__init__") (spF (gx P w K sa ns) fn_Alike___init__) := by
  obtain ⟨fd, Fd⟩ := F.d_Alike___init__
  refine fnF (N := N_Alike___init__) (ps := ["self", "pairs"]) Fd sc_Alike___init__ (Fd.bindsN fun _ _ _ _ _ _ us hl => match us, hl with | [_, _], _ => rfl) (fun cdv A outer s H E hr => ?_)
  exact (ssOne (sSetFld (F.fld_pairs _ _ _ _) (pVar (pv 0)) (pCallTy bi_list (by rfl) F.b_list (by decide +kernel) (pCons (pVar (pv 1)) pNil))))
theorem ok_Parted___init__ (F : Fx K mg) : FnR P w K mg base CX0 1 (He.ma K (He.ga K "Parted") "__init__") (spF (gx P w K sa ns) fn_Parted___init__) := by
  obtain ⟨fd, Fd⟩ := F.d_Parted___init__
  refine fnF (N := N_Parted___init__) (ps := ["self", "deeds"]) Fd sc_Parted___init__ (Fd.bindsN fun _ _ _ _ _ _ us hl => match us, hl with | [_, _], _ => rfl) (fun cdv A outer s H E hr => ?_)
  exact (ssOne (sSetFld (F.fld_deeds _ _ _ _) (pVar (pv 0)) (pVar (pv 1))))
theorem ok_law_parts_two (F : Fx K mg) : FnR P w K mg base CX0 1 (He.ga K "_law_parts_two") (spF (gx P w K sa ns) fn_law_parts_two) := by
  obtain ⟨fd, Fd⟩ := F.d_law_parts_two
  refine fnF (N := N_law_parts_two) (ps := ["_law_at"]) Fd sc_law_parts_two (Fd.bindsN fun _ _ _ _ _ _ us hl => match us, hl with | [_], _ => rfl) (fun cdv A outer s H E hr => ?_)
  exact (ssCons (sIf (qCmp (op_eqU hr) ok_rd2 (pVar (pv 0)) pInt (nomark _)) (ssOne (sRet (pLst (pCons (pTup (pCons (pTup (pCons (pTup (pCons (pStr (l := [120]) (by decide +kernel)) (pCons pInt pNil))) pNil)) (pCons (pTup (pCons (pTup (pCons (pStr (l := [120]) (by decide +kernel)) (pCons pInt pNil))) pNil)) pNil))) pNil)))) ssNil)
    (ssCons (sIf (qCmp (op_eqU hr) ok_rd2 (pVar (pv 0)) pInt (nomark _)) (ssOne (sRet (pLst (pCons (pTup (pCons (pLst (pCons (pTup (pCons pInt (pCons pInt pNil))) pNil)) (pCons (pLst (pCons (pTup (pCons pInt (pCons pInt pNil))) pNil)) pNil))) pNil)))) ssNil)
    (ssCons (sIf (qCmp (op_eqU hr) ok_rd2 (pVar (pv 0)) pInt (nomark _)) (ssOne (sRet (pLst (pCons (pTup (pCons (pLst (pCons (pTup (pCons (pTup (pCons (pStr (l := [120]) (by decide +kernel)) (pCons pInt pNil))) pNil)) pNil)) (pCons (pLst (pCons (pTup (pCons (pTup (pCons (pStr (l := [121]) (by decide +kernel)) (pCons pInt pNil))) pNil)) pNil)) pNil))) (pCons (pTup (pCons (pCallTy (bi_dict hr) (by rfl) F.b_dict (by decide +kernel) (pCons (pLst (pCons (pTup (pCons (pTup (pCons pInt (pCons pInt pNil))) (pCons pInt pNil))) pNil)) pNil)) (pCons (pCallTy (bi_dict hr) (by rfl) F.b_dict (by decide +kernel) (pCons (pLst (pCons (pTup (pCons (pTup (pCons pInt (pCons pInt pNil))) (pCons pInt pNil))) pNil)) pNil)) pNil))) pNil))))) ssNil)
    (ssCons (sIf (qCmp (op_eqU hr) ok_rd2 (pVar (pv 0)) pInt (nomark _)) (ssOne (sRet (pLst (pCons (pTup (pCons (pLst (pCons (pTup (pCons pInt (pCons pInt pNil))) pNil)) (pCons (pLst (pCons (pTup (pCons pInt (pCons pInt pNil))) pNil)) pNil))) pNil)))) ssNil)
    (ssCons (sIf (qCmp (op_eqU hr) ok_rd2 (pVar (pv 0)) pInt (nomark _)) (ssOne (sRet (pLst (pCons (pTup (pCons (pLst (pCons (pTup (pCons (pTup (pCons pInt (pCons pInt pNil))) (pCons (pTup (pCons pInt (pCons pInt pNil))) pNil))) pNil)) (pCons (pLst (pCons (pTup (pCons (pTup (pCons pInt (pCons pInt pNil))) (pCons (pTup (pCons pInt (pCons pInt pNil))) pNil))) pNil)) pNil))) pNil)))) ssNil)
    (ssOne (sRet (pLst (pCons (pTup (pCons (pTup (pCons (pTup (pCons (pStr (l := [120]) (by decide +kernel)) (pCons pInt pNil))) pNil)) (pCons (pTup (pCons (pTup (pCons (pStr (l := [120]) (by decide +kernel)) (pCons pInt pNil))) pNil)) pNil))) pNil)))))))))
theorem ok_law_parts (F : Fx K mg) : FnR P w K mg base CX0 2 (He.ga K "_law_parts") (spF (gx P w K sa ns) fn_law_parts) := by
  obtain ⟨fd, Fd⟩ := F.d_law_parts
  refine fnF (N := N_law_parts) (ps := ["_law_at"]) Fd sc_law_parts (Fd.bindsN fun _ _ _ _ _ _ us hl => match us, hl with | [_], _ => rfl) (fun cdv A outer s H E hr => ?_)
  exact (ssCons (sIf (qCmp (op_eqU hr) ok_rd2 (pVar (pv 0)) pInt (nomark _)) (ssOne (sRet (pLst (pCons (pTup (pCons (pLst (pCons (pTup (pCons pInt (pCons pInt pNil))) pNil)) (pCons (pLst (pCons (pTup (pCons pInt (pCons pInt pNil))) pNil)) pNil))) pNil)))) ssNil)
    (ssCons (sIf (qCmp (op_eqU hr) ok_rd2 (pVar (pv 0)) pInt (nomark _)) (ssOne (sRet (pLst (pCons (pTup (pCons (pTup (pCons (pTup (pCons (pStr (l := [120]) (by decide +kernel)) (pCons pInt pNil))) pNil)) (pCons (pTup (pCons (pTup (pCons (pStr (l := [120]) (by decide +kernel)) (pCons pInt pNil))) pNil)) pNil))) pNil)))) ssNil)
    (ssCons (sIf (qCmp (op_eqU hr) ok_rd2 (pVar (pv 0)) pInt (nomark _)) (ssOne (sRet (pLst (pCons (pTup (pCons (pTup (pCons pInt pNil)) (pCons (pTup (pCons pInt pNil)) pNil))) (pCons (pTup (pCons (pLst (pCons (pTup (pCons pInt (pCons pInt pNil))) pNil)) (pCons (pLst (pCons (pTup (pCons pInt (pCons pInt pNil))) pNil)) pNil))) (pCons (pTup (pCons (pCallTy (bi_dict hr) (by rfl) F.b_dict (by decide +kernel) (pCons (pLst (pCons (pTup (pCons (pTup (pCons pInt pNil)) (pCons (pTup (pCons (pTup (pCons (pStr (l := [120]) (by decide +kernel)) (pCons pInt pNil))) pNil)) pNil))) pNil)) pNil)) (pCons (pCallTy (bi_dict hr) (by rfl) F.b_dict (by decide +kernel) (pCons (pLst (pCons (pTup (pCons (pTup (pCons pInt pNil)) (pCons (pTup (pCons (pTup (pCons (pStr (l := [120]) (by decide +kernel)) (pCons pInt pNil))) pNil)) pNil))) pNil)) pNil)) pNil))) pNil)))))) ssNil)
    (ssCons (sIf (qCmp (op_eqU hr) ok_rd2 (pVar (pv 0)) pInt (nomark _)) (ssOne (sRet (pLst (pCons (pTup (pCons (pCallTy (bi_dict hr) (by rfl) F.b_dict (by decide +kernel) (pCons (pLst (pCons (pTup (pCons (pTup (pCons pInt pNil)) (pCons (pTup (pCons (pTup (pCons (pStr (l := [120]) (by decide +kernel)) (pCons pInt pNil))) pNil)) pNil))) pNil)) pNil)) (pCons (pCallTy (bi_dict hr) (by rfl) F.b_dict (by decide +kernel) (pCons (pLst (pCons (pTup (pCons (pTup (pCons pInt pNil)) (pCons (pTup (pCons (pTup (pCons (pStr (l := [120]) (by decide +kernel)) (pCons pInt pNil))) pNil)) pNil))) pNil)) pNil)) pNil))) pNil)))) ssNil)
    (ssCons (sIf (qCmp (op_eqU hr) ok_rd2 (pVar (pv 0)) pInt (nomark _)) (ssOne (sRet (pLst (pCons (pTup (pCons (pLst (pCons (pTup (pCons pInt (pCons pInt pNil))) pNil)) (pCons (pLst (pCons (pTup (pCons pInt (pCons pInt pNil))) pNil)) pNil))) (pCons (pTup (pCons (pCallTy (bi_dict hr) (by rfl) F.b_dict (by decide +kernel) (pCons (pLst (pCons (pTup (pCons (pTup (pCons pInt (pCons pInt pNil))) (pCons (pTup (pCons (pTup (pCons (pStr (l := [120]) (by decide +kernel)) (pCons pInt pNil))) pNil)) pNil))) pNil)) pNil)) (pCons (pCallTy (bi_dict hr) (by rfl) F.b_dict (by decide +kernel) (pCons (pLst (pCons (pTup (pCons (pTup (pCons pInt (pCons pInt pNil))) (pCons (pTup (pCons (pTup (pCons (pStr (l := [120]) (by decide +kernel)) (pCons pInt pNil))) pNil)) pNil))) pNil)) pNil)) pNil))) pNil))))) ssNil)
    (ssCons (sIf (qCmp (op_eqU hr) ok_rd2 (pVar (pv 0)) pInt (nomark _)) (ssOne (sRet (pLst (pCons (pTup (pCons (pTup (pCons (pTup (pCons (pStr (l := [120]) (by decide +kernel)) (pCons pInt pNil))) pNil)) (pCons (pTup (pCons (pTup (pCons (pStr (l := [120]) (by decide +kernel)) (pCons pInt pNil))) pNil)) pNil))) (pCons (pTup (pCons (pLst (pCons (pTup (pCons pInt (pCons pInt pNil))) pNil)) (pCons (pLst (pCons (pTup (pCons pInt (pCons pInt pNil))) pNil)) pNil))) pNil))))) ssNil)
    (ssOne (sRet (pCall (ok_law_parts_two F) (hr.mono (by decide)) (by rfl) F.g__law_parts_two F.k_law_parts_two (pCons (pVar (pv 0)) pNil))))))))))
theorem ok_law_fresh (F : Fx K mg) : FnR P w K mg base CX0 3 (He.ga K "_law_fresh") (spF (gx P w K sa ns) fn_law_fresh) := by
  obtain ⟨fd, Fd⟩ := F.d_law_fresh
  refine fnF (N := N_law_fresh) (ps := ["_law_at"]) Fd sc_law_fresh (Fd.bindsN fun _ _ _ _ _ _ us hl => match us, hl with | [_], _ => rfl) (fun cdv A outer s H E hr => ?_)
  exact (ssOne (sRet (pLc (own := [("_law_pair", 1)]) rfl sc_law_fresh.nd (iVal (pCall (ok_law_parts F) (hr.mono (by decide)) (by rfl) F.g__law_parts F.k_law_parts (pCons (pVar (pv 0)) pNil))) (blkOk_by (own := [("_law_pair", 1)]) (N := N_law_fresh) (sc := defScope s_law_fresh) (by decide +kernel)) (fun _ _ _ _ _ => (gNm (pg_name (i := 1) sc_law_fresh.nd rfl (by first | exact Or.inl rfl | exact Or.inr rfl)) (by decide))) (fun _ _ _ _ _ => tsNil) (fun _ _ _ _ _ => (pIx (pVar (pv 1)) pInt)))))
theorem ok_law_make_two (F : Fx K mg) : FnR P w K mg base CX0 3 (He.ga K "_law_make_two") (spF (gx P w K sa ns) fn_law_make_two) := by
  obtain ⟨fd, Fd⟩ := F.d_law_make_two
  refine fnF (N := N_law_make_two) (ps := ["_law_at", "_law_parts_here"]) Fd sc_law_make_two (Fd.bindsN fun _ _ _ _ _ _ us hl => match us, hl with | [_, _], _ => rfl) (fun cdv A outer s H E hr => ?_)
  exact (ssCons (sIf (qCmp (op_eqU hr) ok_rd2 (pVar (pv 0)) pInt (nomark _)) (ssOne (sRet (pMake (c := 6) F.mk_Route (ok_Route___init__ F) (hr.mono (by decide)) (by rfl) F.g_Route (pCons (pIx (pVar (pv 1)) pInt) pNil)))) ssNil)
    (ssCons (sIf (qCmp (op_eqU hr) ok_rd2 (pVar (pv 0)) pInt (nomark _)) (ssOne (sRet (pMake (c := 7) F.mk_NoRoute (ok_NoRoute___init__ F) (hr.mono (by decide)) (by rfl) F.g_NoRoute (pCons (pIx (pVar (pv 1)) pInt) pNil)))) ssNil)
    (ssCons (sIf (qCmp (op_eqU hr) ok_rd2 (pVar (pv 0)) pInt (nomark _)) (ssOne (sRet (pMake (c := 8) F.mk_Batched (ok_Batched___init__ F) (hr.mono (by decide)) (by rfl) F.g_Batched (pCons (pIx (pVar (pv 1)) pInt) (pCons (pIx (pVar (pv 1)) pInt) pNil))))) ssNil)
    (ssCons (sIf (qCmp (op_eqU hr) ok_rd2 (pVar (pv 0)) pInt (nomark _)) (ssOne (sRet (pMake (c := 9) F.mk_NoBatch (ok_NoBatch___init__ F) (hr.mono (by decide)) (by rfl) F.g_NoBatch (pCons (pIx (pVar (pv 1)) pInt) pNil)))) ssNil)
    (ssCons (sIf (qCmp (op_eqU hr) ok_rd2 (pVar (pv 0)) pInt (nomark _)) (ssOne (sRet (pMake (c := 10) F.mk_Alike (ok_Alike___init__ F) (hr.mono (by decide)) (by rfl) F.g_Alike (pCons (pIx (pVar (pv 1)) pInt) pNil)))) ssNil)
    (ssOne (sRet (pMake (c := 11) F.mk_Parted (ok_Parted___init__ F) (hr.mono (by decide)) (by rfl) F.g_Parted (pCons (pIx (pVar (pv 1)) pInt) pNil)))))))))
theorem ok_law_make (F : Fx K mg) : FnR P w K mg base CX0 4 (He.ga K "_law_make") (spF (gx P w K sa ns) fn_law_make) := by
  obtain ⟨fd, Fd⟩ := F.d_law_make
  refine fnF (N := N_law_make) (ps := ["_law_at", "_law_parts_here"]) Fd sc_law_make (Fd.bindsN fun _ _ _ _ _ _ us hl => match us, hl with | [_, _], _ => rfl) (fun cdv A outer s H E hr => ?_)
  exact (ssCons (sIf (qCmp (op_eqU hr) ok_rd2 (pVar (pv 0)) pInt (nomark _)) (ssOne (sRet (pMake (c := 0) F.mk_Kept (ok_Kept___init__ F) (hr.mono (by decide)) (by rfl) F.g_Kept (pCons (pIx (pVar (pv 1)) pInt) pNil)))) ssNil)
    (ssCons (sIf (qCmp (op_eqU hr) ok_rd2 (pVar (pv 0)) pInt (nomark _)) (ssOne (sRet (pMake (c := 1) F.mk_Broken (ok_Broken___init__ F) (hr.mono (by decide)) (by rfl) F.g_Broken (pCons (pIx (pVar (pv 1)) pInt) pNil)))) ssNil)
    (ssCons (sIf (qCmp (op_eqU hr) ok_rd2 (pVar (pv 0)) pInt (nomark _)) (ssOne (sRet (pMake (c := 2) F.mk_Cheapest (ok_Cheapest___init__ F) (hr.mono (by decide)) (by rfl) F.g_Cheapest (pCons (pIx (pVar (pv 1)) pInt) (pCons (pIx (pVar (pv 1)) pInt) (pCons (pIx (pVar (pv 1)) pInt) pNil)))))) ssNil)
    (ssCons (sIf (qCmp (op_eqU hr) ok_rd2 (pVar (pv 0)) pInt (nomark _)) (ssOne (sRet (pMake (c := 3) F.mk_NoPlan (ok_NoPlan___init__ F) (hr.mono (by decide)) (by rfl) F.g_NoPlan (pCons (pIx (pVar (pv 1)) pInt) pNil)))) ssNil)
    (ssCons (sIf (qCmp (op_eqU hr) ok_rd2 (pVar (pv 0)) pInt (nomark _)) (ssOne (sRet (pMake (c := 4) F.mk_Discreet (ok_Discreet___init__ F) (hr.mono (by decide)) (by rfl) F.g_Discreet (pCons (pIx (pVar (pv 1)) pInt) (pCons (pIx (pVar (pv 1)) pInt) pNil))))) ssNil)
    (ssCons (sIf (qCmp (op_eqU hr) ok_rd2 (pVar (pv 0)) pInt (nomark _)) (ssOne (sRet (pMake (c := 5) F.mk_Indiscreet (ok_Indiscreet___init__ F) (hr.mono (by decide)) (by rfl) F.g_Indiscreet (pCons (pIx (pVar (pv 1)) pInt) (pCons (pIx (pVar (pv 1)) pInt) pNil))))) ssNil)
    (ssOne (sRet (pCall (ok_law_make_two F) (hr.mono (by decide)) (by rfl) F.g__law_make_two F.k_law_make_two (pCons (pVar (pv 0)) (pCons (pVar (pv 1)) pNil)))))))))))
theorem eqok (F : Fx K mg) : EqOk P w K mg base (gx P w K sa ns) ncls 1 feq := by
  refine ⟨fun c hc => ?_, F.first⟩
  obtain ⟨h1, h2⟩ := F.eqm c hc
  refine ⟨_, h1, h2, ?_⟩
  match c, hc with
  | 0, _ => exact (ok_Kept___eq__ F).mono (by decide)
  | 1, _ => exact (ok_Broken___eq__ F).mono (by decide)
  | 2, _ => exact (ok_Cheapest___eq__ F).mono (by decide)
  | 3, _ => exact (ok_NoPlan___eq__ F).mono (by decide)
  | 4, _ => exact (ok_Discreet___eq__ F).mono (by decide)
  | 5, _ => exact (ok_Indiscreet___eq__ F).mono (by decide)
  | 6, _ => exact (ok_Route___eq__ F).mono (by decide)
  | 7, _ => exact (ok_NoRoute___eq__ F).mono (by decide)
  | 8, _ => exact (ok_Batched___eq__ F).mono (by decide)
  | 9, _ => exact (ok_NoBatch___eq__ F).mono (by decide)
  | 10, _ => exact (ok_Alike___eq__ F).mono (by decide)
  | 11, _ => exact (ok_Parted___eq__ F).mono (by decide)
  | n + 12, h => exact absurd h (Nat.not_lt.mpr (Nat.le_add_left _ _))
theorem ok_law' {fd : FuncData} (Fd : FunD K "law" "law" (defArgs s_law) (defBody s_law) (defScope s_law) [] [] (He.ga K "law") fd) (F : Fx K mg) : FnOk P w K mg base CX0 5 (He.ga K "law") fd ["_law_script"] (spF (gx P w K sa ns) fn_law) := by
  refine fnO (N := N_law) (ps := ["_law_script"]) Fd sc_law (fun cdv A outer s H E hr => ?_)
  exact (ssCons (sFor (own := [1]) PassesOwn.never rfl (iRange (by rfl) F.b_range (pCons pInt pNil)) (gNm (pg_name (i := 1) sc_law.nd rfl (by first | exact Or.inl rfl | exact Or.inr rfl)) (by decide)) (ssCons (sSet (ps_set (i := 2) sc_law.nd rfl (by first | exact Or.inl rfl | exact Or.inr rfl) (pCall (ok_law_fresh F) (hr.mono (by decide)) (by rfl) F.g__law_fresh F.k_law_fresh (pCons (pVar (pv 1)) pNil))))
    (ssCons (sSet (ps_set (i := 3) sc_law.nd rfl (by first | exact Or.inl rfl | exact Or.inr rfl) (pCall (ok_law_make F) (hr.mono (by decide)) (by rfl) F.g__law_make F.k_law_make (pCons (pVar (pv 1)) (pCons (pVar (pv 2)) pNil)))))
    (ssCons (sFor (own := [4]) PassesOwn.never rfl (iVal (pVar (pv 2))) (gNm (pg_name (i := 4) sc_law.nd rfl (by first | exact Or.inl rfl | exact Or.inr rfl)) (by decide)) (ssOne (sIf (qTru (pCallB (bi_isi (F.clsok _ _ _ _)) (by rfl) F.b_isinstance (by decide +kernel) (pCons (pVar (pv 4)) (pCons (pTup (pCons (pCon (pe_bltn (v := .ty "dict") (by rfl) F.b_dict (by decide +kernel) rfl) (fun _ _ _ => RD.ty .dict)) (pCons (pCon (pe_bltn (v := .ty "list") (by rfl) F.b_list (by decide +kernel) rfl) (fun _ _ _ => RD.ty .list)) pNil))) pNil)))) (ssOne (sExpr (ps_expr (pClear (pVar (pv 4)))))) ssNil)))
    (ssCons (sIf (qCmp (op_neI (eqok F) (F.neok _ _ _ _) (hr.mono (by decide))) ok_rd2 (pVar (pv 3)) (pCall (ok_law_make F) (hr.mono (by decide)) (by rfl) F.g__law_make F.k_law_make (pCons (pVar (pv 1)) (pCons (pCall (ok_law_fresh F) (hr.mono (by decide)) (by rfl) F.g__law_fresh F.k_law_fresh (pCons (pVar (pv 1)) pNil)) pNil))) (nomark _)) (ssOne (sRet pBl)) ssNil)
    (ssCons (sFor (own := [5]) PassesOwn.never rfl (iRange (by rfl) F.b_range (pCons (pCallB bi_len (by rfl) F.b_len (by decide +kernel) (pCons (pVar (pv 2)) pNil)) pNil)) (gNm (pg_name (i := 5) sc_law.nd rfl (by first | exact Or.inl rfl | exact Or.inr rfl)) (by decide)) (ssCons (sSet (ps_set (i := 6) sc_law.nd rfl (by first | exact Or.inl rfl | exact Or.inr rfl) (pCall (ok_law_fresh F) (hr.mono (by decide)) (by rfl) F.g__law_fresh F.k_law_fresh (pCons (pVar (pv 1)) pNil))))
    (ssCons (sSetIx (pVar (pv 6)) (pVar (pv 5)) (pIx (pIx (pCall (ok_law_parts F) (hr.mono (by decide)) (by rfl) F.g__law_parts F.k_law_parts (pCons (pVar (pv 1)) pNil)) (pVar (pv 5))) pInt))
    (ssOne (sIf (qCmp (op_eqI (eqok F) (hr.mono (by decide))) ok_rd2 (pVar (pv 3)) (pCall (ok_law_make F) (hr.mono (by decide)) (by rfl) F.g__law_make F.k_law_make (pCons (pVar (pv 1)) (pCons (pVar (pv 6)) pNil))) (nomark _)) (ssOne (sRet pBl)) ssNil)))))
    (ssOne (sIf (qCmp (op_neP hr) ok_rd2 (pMethL PySem.F.slot_list_count PySem.F.type_list_count (mt_count hr) (pLc (own := [("_law_by", 7)]) rfl sc_law.nd (iRange (by rfl) F.b_range (pCons pInt pNil)) (blkOk_by (own := [("_law_by", 7)]) (N := N_law) (sc := defScope s_law) (by decide +kernel)) (fun _ _ _ _ _ => (gNm (pg_name (i := 7) sc_law.nd rfl (by first | exact Or.inl rfl | exact Or.inr rfl)) (by decide))) (fun _ _ _ _ _ => tsNil) (fun _ _ _ _ _ => (pCmp (op_eqI (eqok F) (hr.mono (by decide))) ok_rd2 (pVar (pv 3)) (pCall (ok_law_make F) (hr.mono (by decide)) (by rfl) F.g__law_make F.k_law_make (pCons (pVar (pv 7)) (pCons (pCall (ok_law_fresh F) (hr.mono (by decide)) (by rfl) F.g__law_fresh F.k_law_fresh (pCons (pVar (pv 7)) pNil)) pNil))) (nomark _)))) (pCons pBl pNil)) pInt (nomark _)) (ssOne (sRet pBl)) ssNil))))))))
    (ssOne (sRet (pCallB (bi_isi (F.clsok _ _ _ _)) (by rfl) F.b_isinstance (by decide +kernel) (pCons (pVar (pv 0)) (pCons (pCon (pe_bltn (v := .ty "list") (by rfl) F.b_list (by decide +kernel) rfl) (fun _ _ _ => RD.ty .list)) pNil))))))
end
end K45
namespace K45
open PySem PySem.Spec PyProof.Rows L2 Pv
def addrs : List Addr := [3, 1031, 1030, 1024, 1023, 1036, 1035, 1017, 1016, 1010, 1009, 1041, 1040, 445, 444, 446, 420, 419, 434, 433, 481, 480, 482, 463, 462, 470, 469, 853, 852, 854, 856, 855, 829, 828, 843, 842, 899, 898, 900, 873, 872, 887, 886, 537, 536, 539, 538, 521, 520, 528, 527, 574, 573, 575, 576, 556, 555, 563, 562, 659, 658, 660, 640, 639, 647, 646, 694, 693, 695, 677, 676, 684, 683, 771, 770, 772, 773, 736, 735, 757, 756, 806, 805, 807, 790, 789, 797, 796, 964, 963, 965, 936, 935, 950, 949, 1000, 999, 1001, 982, 981, 989, 988]
def fa0 : List He.Fa := [.glo "_law_parts_two", .keep "_law_parts_two", .glo "_law_parts", .keep "_law_parts", .glo "_law_fresh", .keep "_law_fresh", .glo "_law_make_two", .keep "_law_make_two", .glo "_law_make", .keep "_law_make", .glo "law", .keep "law", .glo "Kept", .mkr "Kept", .glo "Broken", .mkr "Broken", .glo "Cheapest", .mkr "Cheapest", .glo "NoPlan", .mkr "NoPlan"]
def fa1 : List He.Fa := [.glo "Discreet", .mkr "Discreet", .glo "Indiscreet", .mkr "Indiscreet", .glo "Route", .mkr "Route", .glo "NoRoute", .mkr "NoRoute", .glo "Batched", .mkr "Batched", .glo "NoBatch", .mkr "NoBatch", .glo "Alike", .mkr "Alike", .glo "Parted", .mkr "Parted", .free "dict", .free "isinstance", .free "len", .free "list"]
def fa2 : List He.Fa := [.free "range"]
def fa : List He.Fa := fa0 ++ fa1 ++ fa2
def dd_Kept___eq__ : He.DefD := ⟨("Kept", some "__eq__"), "__eq__", "Kept.__eq__", defArgs s_Kept___eq__, defBody s_Kept___eq__, defScope s_Kept___eq__, [], []⟩
def dd_Broken___eq__ : He.DefD := ⟨("Broken", some "__eq__"), "__eq__", "Broken.__eq__", defArgs s_Broken___eq__, defBody s_Broken___eq__, defScope s_Broken___eq__, [], []⟩
def dd_Cheapest___eq__ : He.DefD := ⟨("Cheapest", some "__eq__"), "__eq__", "Cheapest.__eq__", defArgs s_Cheapest___eq__, defBody s_Cheapest___eq__, defScope s_Cheapest___eq__, [], []⟩
def dd_NoPlan___eq__ : He.DefD := ⟨("NoPlan", some "__eq__"), "__eq__", "NoPlan.__eq__", defArgs s_NoPlan___eq__, defBody s_NoPlan___eq__, defScope s_NoPlan___eq__, [], []⟩
def dd_Discreet___eq__ : He.DefD := ⟨("Discreet", some "__eq__"), "__eq__", "Discreet.__eq__", defArgs s_Discreet___eq__, defBody s_Discreet___eq__, defScope s_Discreet___eq__, [], []⟩
def dd_Indiscreet___eq__ : He.DefD := ⟨("Indiscreet", some "__eq__"), "__eq__", "Indiscreet.__eq__", defArgs s_Indiscreet___eq__, defBody s_Indiscreet___eq__, defScope s_Indiscreet___eq__, [], []⟩
def dd_Route___eq__ : He.DefD := ⟨("Route", some "__eq__"), "__eq__", "Route.__eq__", defArgs s_Route___eq__, defBody s_Route___eq__, defScope s_Route___eq__, [], []⟩
def dd_NoRoute___eq__ : He.DefD := ⟨("NoRoute", some "__eq__"), "__eq__", "NoRoute.__eq__", defArgs s_NoRoute___eq__, defBody s_NoRoute___eq__, defScope s_NoRoute___eq__, [], []⟩
def dd_Batched___eq__ : He.DefD := ⟨("Batched", some "__eq__"), "__eq__", "Batched.__eq__", defArgs s_Batched___eq__, defBody s_Batched___eq__, defScope s_Batched___eq__, [], []⟩
def dd_NoBatch___eq__ : He.DefD := ⟨("NoBatch", some "__eq__"), "__eq__", "NoBatch.__eq__", defArgs s_NoBatch___eq__, defBody s_NoBatch___eq__, defScope s_NoBatch___eq__, [], []⟩
def dd_Alike___eq__ : He.DefD := ⟨("Alike", some "__eq__"), "__eq__", "Alike.__eq__", defArgs s_Alike___eq__, defBody s_Alike___eq__, defScope s_Alike___eq__, [], []⟩
def dd_Parted___eq__ : He.DefD := ⟨("Parted", some "__eq__"), "__eq__", "Parted.__eq__", defArgs s_Parted___eq__, defBody s_Parted___eq__, defScope s_Parted___eq__, [], []⟩
def dd_Kept___init__ : He.DefD := ⟨("Kept", some "__init__"), "__init__", "Kept.__init__", defArgs s_Kept___init__, defBody s_Kept___init__, defScope s_Kept___init__, [], []⟩
def dd_Broken___init__ : He.DefD := ⟨("Broken", some "__init__"), "__init__", "Broken.__init__", defArgs s_Broken___init__, defBody s_Broken___init__, defScope s_Broken___init__, [], []⟩
def dd_Cheapest___init__ : He.DefD := ⟨("Cheapest", some "__init__"), "__init__", "Cheapest.__init__", defArgs s_Cheapest___init__, defBody s_Cheapest___init__, defScope s_Cheapest___init__, [], []⟩
def dd_NoPlan___init__ : He.DefD := ⟨("NoPlan", some "__init__"), "__init__", "NoPlan.__init__", defArgs s_NoPlan___init__, defBody s_NoPlan___init__, defScope s_NoPlan___init__, [], []⟩
def dd_Discreet___init__ : He.DefD := ⟨("Discreet", some "__init__"), "__init__", "Discreet.__init__", defArgs s_Discreet___init__, defBody s_Discreet___init__, defScope s_Discreet___init__, [], []⟩
def dd_Indiscreet___init__ : He.DefD := ⟨("Indiscreet", some "__init__"), "__init__", "Indiscreet.__init__", defArgs s_Indiscreet___init__, defBody s_Indiscreet___init__, defScope s_Indiscreet___init__, [], []⟩
def dd_Route___init__ : He.DefD := ⟨("Route", some "__init__"), "__init__", "Route.__init__", defArgs s_Route___init__, defBody s_Route___init__, defScope s_Route___init__, [], []⟩
def dd_NoRoute___init__ : He.DefD := ⟨("NoRoute", some "__init__"), "__init__", "NoRoute.__init__", defArgs s_NoRoute___init__, defBody s_NoRoute___init__, defScope s_NoRoute___init__, [], []⟩
def dd_Batched___init__ : He.DefD := ⟨("Batched", some "__init__"), "__init__", "Batched.__init__", defArgs s_Batched___init__, defBody s_Batched___init__, defScope s_Batched___init__, [], []⟩
def dd_NoBatch___init__ : He.DefD := ⟨("NoBatch", some "__init__"), "__init__", "NoBatch.__init__", defArgs s_NoBatch___init__, defBody s_NoBatch___init__, defScope s_NoBatch___init__, [], []⟩
def dd_Alike___init__ : He.DefD := ⟨("Alike", some "__init__"), "__init__", "Alike.__init__", defArgs s_Alike___init__, defBody s_Alike___init__, defScope s_Alike___init__, [], []⟩
def dd_Parted___init__ : He.DefD := ⟨("Parted", some "__init__"), "__init__", "Parted.__init__", defArgs s_Parted___init__, defBody s_Parted___init__, defScope s_Parted___init__, [], []⟩
def dd_law_parts_two : He.DefD := ⟨("_law_parts_two", none), "_law_parts_two", "_law_parts_two", defArgs s_law_parts_two, defBody s_law_parts_two, defScope s_law_parts_two, [], []⟩
def dd_law_parts : He.DefD := ⟨("_law_parts", none), "_law_parts", "_law_parts", defArgs s_law_parts, defBody s_law_parts, defScope s_law_parts, [], []⟩
def dd_law_fresh : He.DefD := ⟨("_law_fresh", none), "_law_fresh", "_law_fresh", defArgs s_law_fresh, defBody s_law_fresh, defScope s_law_fresh, [], []⟩
def dd_law_make_two : He.DefD := ⟨("_law_make_two", none), "_law_make_two", "_law_make_two", defArgs s_law_make_two, defBody s_law_make_two, defScope s_law_make_two, [], []⟩
def dd_law_make : He.DefD := ⟨("_law_make", none), "_law_make", "_law_make", defArgs s_law_make, defBody s_law_make, defScope s_law_make, [], []⟩
def dd_law : He.DefD := ⟨("law", none), "law", "law", defArgs s_law, defBody s_law, defScope s_law, [], []⟩
def fn0 : List He.DefD := [dd_Kept___eq__, dd_Broken___eq__, dd_Cheapest___eq__, dd_NoPlan___eq__, dd_Discreet___eq__, dd_Indiscreet___eq__, dd_Route___eq__, dd_NoRoute___eq__, dd_Batched___eq__, dd_NoBatch___eq__, dd_Alike___eq__, dd_Parted___eq__, dd_Kept___init__, dd_Broken___init__, dd_Cheapest___init__, dd_NoPlan___init__, dd_Discreet___init__, dd_Indiscreet___init__, dd_Route___init__, dd_NoRoute___init__]
def fn1 : List He.DefD := [dd_Batched___init__, dd_NoBatch___init__, dd_Alike___init__, dd_Parted___init__, dd_law_parts_two, dd_law_parts, dd_law_fresh, dd_law_make_two, dd_law_make, dd_law]
def fn : List He.DefD := fn0 ++ fn1
def ex (K : PySem.W.Frag) : Bool := clsB K (cA K) ncls && (eqsB K (cA K) ncls && (fldB K (cA K) ncls "batches" sl_batches && (fldB K (cA K) ncls "best" sl_best && (fldB K (cA K) ncls "calls" sl_calls && (fldB K (cA K) ncls "deeds" sl_deeds && (fldB K (cA K) ncls "levels" sl_levels && (fldB K (cA K) ncls "pairs" sl_pairs && (fldB K (cA K) ncls "rests" sl_rests && (fldB K (cA K) ncls "runs" sl_runs && (fldB K (cA K) ncls "scenes" sl_scenes))))))))))
theorem mem_of {α : Type} {l : List α} {i : Nat} {x : α} (h : l[i]? = some x) : x ∈ l := List.mem_of_getElem? h
theorem fx_of {K : PySem.W.Frag} {h : Heap} {mg : Str → Option Value} (X : K.In h) (G : h.Ns mainGlobals mg) (c : SaysL fa fn ex K) : Fx K mg := by
  have d := c.d
  have hex : ex K = true := c.more
  unfold ex at hex
  obtain ⟨c1, hex⟩ := He.ba hex
  obtain ⟨c2, hex⟩ := He.ba hex
  obtain ⟨f_batches, hex⟩ := He.ba hex
  obtain ⟨f_best, hex⟩ := He.ba hex
  obtain ⟨f_calls, hex⟩ := He.ba hex
  obtain ⟨f_deeds, hex⟩ := He.ba hex
  obtain ⟨f_levels, hex⟩ := He.ba hex
  obtain ⟨f_pairs, hex⟩ := He.ba hex
  obtain ⟨f_rests, hex⟩ := He.ba hex
  obtain ⟨f_runs, hex⟩ := He.ba hex
  have f_scenes := hex
  exact {
    d_Kept___eq__ := d.def_ 0 (d := dd_Kept___eq__) (by rfl)
    d_Broken___eq__ := d.def_ 1 (d := dd_Broken___eq__) (by rfl)
    d_Cheapest___eq__ := d.def_ 2 (d := dd_Cheapest___eq__) (by rfl)
    d_NoPlan___eq__ := d.def_ 3 (d := dd_NoPlan___eq__) (by rfl)
    d_Discreet___eq__ := d.def_ 4 (d := dd_Discreet___eq__) (by rfl)
    d_Indiscreet___eq__ := d.def_ 5 (d := dd_Indiscreet___eq__) (by rfl)
    d_Route___eq__ := d.def_ 6 (d := dd_Route___eq__) (by rfl)
    d_NoRoute___eq__ := d.def_ 7 (d := dd_NoRoute___eq__) (by rfl)
    d_Batched___eq__ := d.def_ 8 (d := dd_Batched___eq__) (by rfl)
    d_NoBatch___eq__ := d.def_ 9 (d := dd_NoBatch___eq__) (by rfl)
    d_Alike___eq__ := d.def_ 10 (d := dd_Alike___eq__) (by rfl)
    d_Parted___eq__ := d.def_ 11 (d := dd_Parted___eq__) (by rfl)
    d_Kept___init__ := d.def_ 12 (d := dd_Kept___init__) (by rfl)
    d_Broken___init__ := d.def_ 13 (d := dd_Broken___init__) (by rfl)
    d_Cheapest___init__ := d.def_ 14 (d := dd_Cheapest___init__) (by rfl)
    d_NoPlan___init__ := d.def_ 15 (d := dd_NoPlan___init__) (by rfl)
    d_Discreet___init__ := d.def_ 16 (d := dd_Discreet___init__) (by rfl)
    d_Indiscreet___init__ := d.def_ 17 (d := dd_Indiscreet___init__) (by rfl)
    d_Route___init__ := d.def_ 18 (d := dd_Route___init__) (by rfl)
    d_NoRoute___init__ := d.def_ 19 (d := dd_NoRoute___init__) (by rfl)
    d_Batched___init__ := d.def_ 20 (d := dd_Batched___init__) (by rfl)
    d_NoBatch___init__ := d.def_ 21 (d := dd_NoBatch___init__) (by rfl)
    d_Alike___init__ := d.def_ 22 (d := dd_Alike___init__) (by rfl)
    d_Parted___init__ := d.def_ 23 (d := dd_Parted___init__) (by rfl)
    d_law_parts_two := d.def_ 24 (d := dd_law_parts_two) (by rfl)
    d_law_parts := d.def_ 25 (d := dd_law_parts) (by rfl)
    d_law_fresh := d.def_ 26 (d := dd_law_fresh) (by rfl)
    d_law_make_two := d.def_ 27 (d := dd_law_make_two) (by rfl)
    d_law_make := d.def_ 28 (d := dd_law_make) (by rfl)
    d_law := d.def_ 29 (d := dd_law) (by rfl)
    g__law_parts_two := He.glo_ok X G (d.fact 0 (f := .glo "_law_parts_two") (by rfl))
    k_law_parts_two := He.keep_ok (d.fact 1 (f := .keep "_law_parts_two") (by rfl))
    g__law_parts := He.glo_ok X G (d.fact 2 (f := .glo "_law_parts") (by rfl))
    k_law_parts := He.keep_ok (d.fact 3 (f := .keep "_law_parts") (by rfl))
    g__law_fresh := He.glo_ok X G (d.fact 4 (f := .glo "_law_fresh") (by rfl))
    k_law_fresh := He.keep_ok (d.fact 5 (f := .keep "_law_fresh") (by rfl))
    g__law_make_two := He.glo_ok X G (d.fact 6 (f := .glo "_law_make_two") (by rfl))
    k_law_make_two := He.keep_ok (d.fact 7 (f := .keep "_law_make_two") (by rfl))
    g__law_make := He.glo_ok X G (d.fact 8 (f := .glo "_law_make") (by rfl))
    k_law_make := He.keep_ok (d.fact 9 (f := .keep "_law_make") (by rfl))
    g_law := He.glo_ok X G (d.fact 10 (f := .glo "law") (by rfl))
    k_law := He.keep_ok (d.fact 11 (f := .keep "law") (by rfl))
    g_Kept := He.glo_ok X G (d.fact 12 (f := .glo "Kept") (by rfl))
    mk_Kept := He.mkr_ok (d.fact 13 (f := .mkr "Kept") (by rfl))
    g_Broken := He.glo_ok X G (d.fact 14 (f := .glo "Broken") (by rfl))
    mk_Broken := He.mkr_ok (d.fact 15 (f := .mkr "Broken") (by rfl))
    g_Cheapest := He.glo_ok X G (d.fact 16 (f := .glo "Cheapest") (by rfl))
    mk_Cheapest := He.mkr_ok (d.fact 17 (f := .mkr "Cheapest") (by rfl))
    g_NoPlan := He.glo_ok X G (d.fact 18 (f := .glo "NoPlan") (by rfl))
    mk_NoPlan := He.mkr_ok (d.fact 19 (f := .mkr "NoPlan") (by rfl))
    g_Discreet := He.glo_ok X G (d.fact 20 (f := .glo "Discreet") (by rfl))
    mk_Discreet := He.mkr_ok (d.fact 21 (f := .mkr "Discreet") (by rfl))
    g_Indiscreet := He.glo_ok X G (d.fact 22 (f := .glo "Indiscreet") (by rfl))
    mk_Indiscreet := He.mkr_ok (d.fact 23 (f := .mkr "Indiscreet") (by rfl))
    g_Route := He.glo_ok X G (d.fact 24 (f := .glo "Route") (by rfl))
    mk_Route := He.mkr_ok (d.fact 25 (f := .mkr "Route") (by rfl))
    g_NoRoute := He.glo_ok X G (d.fact 26 (f := .glo "NoRoute") (by rfl))
    mk_NoRoute := He.mkr_ok (d.fact 27 (f := .mkr "NoRoute") (by rfl))
    g_Batched := He.glo_ok X G (d.fact 28 (f := .glo "Batched") (by rfl))
    mk_Batched := He.mkr_ok (d.fact 29 (f := .mkr "Batched") (by rfl))
    g_NoBatch := He.glo_ok X G (d.fact 30 (f := .glo "NoBatch") (by rfl))
    mk_NoBatch := He.mkr_ok (d.fact 31 (f := .mkr "NoBatch") (by rfl))
    g_Alike := He.glo_ok X G (d.fact 32 (f := .glo "Alike") (by rfl))
    mk_Alike := He.mkr_ok (d.fact 33 (f := .mkr "Alike") (by rfl))
    g_Parted := He.glo_ok X G (d.fact 34 (f := .glo "Parted") (by rfl))
    mk_Parted := He.mkr_ok (d.fact 35 (f := .mkr "Parted") (by rfl))
    b_dict := He.free_ok X G (d.fact 36 (f := .free "dict") (by rfl))
    b_isinstance := He.free_ok X G (d.fact 37 (f := .free "isinstance") (by rfl))
    b_len := He.free_ok X G (d.fact 38 (f := .free "len") (by rfl))
    b_list := He.free_ok X G (d.fact 39 (f := .free "list") (by rfl))
    b_range := He.free_ok X G (d.fact 40 (f := .free "range") (by rfl))
    fld_batches := fld_ok c1 f_batches (fun c h => by unfold sl_batches; split <;> first | rfl | exact absurd h (by decide))
    fld_best := fld_ok c1 f_best (fun c h => by unfold sl_best; split <;> first | rfl | exact absurd h (by decide))
    fld_calls := fld_ok c1 f_calls (fun c h => by unfold sl_calls; split <;> first | rfl | exact absurd h (by decide))
    fld_deeds := fld_ok c1 f_deeds (fun c h => by unfold sl_deeds; split <;> first | rfl | exact absurd h (by decide))
    fld_levels := fld_ok c1 f_levels (fun c h => by unfold sl_levels; split <;> first | rfl | exact absurd h (by decide))
    fld_pairs := fld_ok c1 f_pairs (fun c h => by unfold sl_pairs; split <;> first | rfl | exact absurd h (by decide))
    fld_rests := fld_ok c1 f_rests (fun c h => by unfold sl_rests; split <;> first | rfl | exact absurd h (by decide))
    fld_runs := fld_ok c1 f_runs (fun c h => by unfold sl_runs; split <;> first | rfl | exact absurd h (by decide))
    fld_scenes := fld_ok c1 f_scenes (fun c h => by unfold sl_scenes; split <;> first | rfl | exact absurd h (by decide))
    clsok := clsB_ok c1
    neok := ne_ok c2
    eqm := eqs_ok c2
    first := first_ok c1 }
abbrev R : PySem.W.OpenRow := PySem.W.OpenLaw.row PySem.Challenge.rw_midlooks_k45_known_equal
abbrev hk : PySem.W.Hook := hookL addrs fa fn ex
def ob (s : PySem.W.SharedT) : AlL := obsL addrs fa fn ex (HandSHeadRun.getT s)
theorem ob_eq (s : PySem.W.SharedT) : ob s = hk.obs s.abs := obsL_eq (HandSHeadRun.getT_eq s)
def names : List PySem.Str := ([PySem.Str.ofString "SetterError", PySem.Str.ofString "BadDesign", PySem.Str.ofString "BadPlan", PySem.Str.ofString "BadPrices", PySem.Str.ofString "BadFields", PySem.Str.ofString "Unlike", PySem.Str.ofString "NAMES", PySem.Str.ofString "NEW", PySem.Str.ofString "MAX_TOP", PySem.Str.ofString "MAX_RULES", PySem.Str.ofString "MAX_ACTS", PySem.Str.ofString "MAX_WEIGHT", PySem.Str.ofString "MAX_MOST", PySem.Str.ofString "MAX_ADD", PySem.Str.ofString "MAX_PRICE", PySem.Str.ofString "is_number", PySem.Str.ofString "are_numbers", PySem.Str.ofString "are_tops", PySem.Str.ofString "is_condition", PySem.Str.ofString "are_rules", PySem.Str.ofString "keeps", PySem.Str.ofString "keeps_all", PySem.Str.ofString "are_fields", PySem.Str.ofString "is_name", PySem.Str.ofString "is_source", PySem.Str.ofString "is_act", PySem.Str.ofString "are_acts", PySem.Str.ofString "are_setters", PySem.Str.ofString "Design", PySem.Str.ofString "check_design"] : List PySem.Str) ++ ([PySem.Str.ofString "check_plan", PySem.Str.ofString "checked_prices", PySem.Str.ofString "price_of", PySem.Str.ofString "plans_of", PySem.Str.ofString "MAX_OPEN", PySem.Str.ofString "index_of", PySem.Str.ofString "act_at", PySem.Str.ofString "start_of", PySem.Str.ofString "breaks", PySem.Str.ofString "all_deeds", PySem.Str.ofString "is_deed", PySem.Str.ofString "Machine", PySem.Str.ofString "after", PySem.Str.ofString "are_closed", PySem.Str.ofString "ends_broken", PySem.Str.ofString "Kept", PySem.Str.ofString "Broken", PySem.Str.ofString "next_ones", PySem.Str.ofString "end_of", PySem.Str.ofString "end_of_glimpses", PySem.Str.ofString "has_all", PySem.Str.ofString "fields_in", PySem.Str.ofString "Discreet", PySem.Str.ofString "Indiscreet", PySem.Str.ofString "calls_of", PySem.Str.ofString "is_call", PySem.Str.ofString "check_fields", PySem.Str.ofString "plain_after", PySem.Str.ofString "routes_from", PySem.Str.ofString "checked_origin"] : List PySem.Str) ++ ([PySem.Str.ofString "check_goal", PySem.Str.ofString "Route", PySem.Str.ofString "NoRoute", PySem.Str.ofString "MAX_CALLS", PySem.Str.ofString "is_batch", PySem.Str.ofString "batches_of", PySem.Str.ofString "end_of_batches", PySem.Str.ofString "ends_of", PySem.Str.ofString "Batched", PySem.Str.ofString "NoBatch", PySem.Str.ofString "are_runs", PySem.Str.ofString "Cheapest", PySem.Str.ofString "NoPlan", PySem.Str.ofString "check_both", PySem.Str.ofString "are_seen_alike", PySem.Str.ofString "pair_after", PySem.Str.ofString "Alike", PySem.Str.ofString "Parted", PySem.Str.ofString "_law_make", PySem.Str.ofString "_law_make_two", PySem.Str.ofString "_law_parts", PySem.Str.ofString "_law_parts_two", PySem.Str.ofString "_law_fresh"] : List PySem.Str)
theorem run (w : World) : HandSHeadRun.RunEq R (PySem.W.view R.prog [94]) hk ob 9000 names w := by
  intro os
  kernel_rfl
def isT (x : Option (D × Sto)) : Bool := match x with
  | some (.bl true, _) => true
  | _ => false
theorem isT_ok {x : Option (D × Sto)} (h : isT x = true) : ∃ S, x = some (.bl true, S) := by
  unfold isT at h
  split at h
  · exact ⟨_, rfl⟩
  · cases h
theorem runs : isT (fn_law [.scr] Sto.empty) = true := by decide +kernel
def spLaw (P : Program) (w : World) (K : PySem.W.Frag) : Sp := fun vs H Q E => ∃ sa ns, spF (gx P w K sa ns) fn_law vs H Q E
theorem rep_empty {G : Gx} {r : Loc2} {H : Hp} : Rep G r Sto.empty H := by
  have no : ∀ k o, ¬ Sto.empty.at k = some o := fun k o e => absurd (Sto.at_lt e) (Nat.not_lt_zero k)
  exact ⟨fun k o e => absurd e (no k o), fun j k ⟨o, e⟩ => absurd e (no j o), fun j k ⟨o, e⟩ => absurd e (no j o), fun j k ⟨c, f, e⟩ => absurd e (no j _)⟩
theorem facts {w : World} {K : PySem.W.Frag} {h : Heap} {mg : Str → Option Value} {f : Addr} (X : K.In h) (G : h.Ns mainGlobals mg) (hfa : mg ("law" : Str) = some (.ref f)) (c : SaysL fa fn ex K) (P : Program) :
    ∃ fd : FuncData, (∀ (s : Shared) (v : Value), BindsTo s fd ⟨[v], []⟩ [("_law_script", v)]) ∧ ∀ base : Heap, K.In base → base.Ns mainGlobals mg → FnOk P w K mg base CX0 5 f fd ["_law_script"] (spLaw P w K) := by
  have F := fx_of X G c
  have e := hfa.symm.trans F.g_law
  cases e
  obtain ⟨fd, Fd⟩ := F.d_law
  have b := FunD.bindsA (ps := ["_law_script"]) Fd fun _ _ _ _ _ _ us hl => match us, hl with | [_], _ => rfl
  refine ⟨fd, fun s v => b s [v] rfl, fun base _ _ => ?_⟩
  have key : ∀ sa ns, FnOk P w K mg base CX0 5 (He.ga K "law") fd ["_law_script"] (spF (gx P w K sa ns) fn_law) := fun sa ns => ok_law' Fd F
  refine ⟨fun vs H Q E ⟨sa, ns, h⟩ => (key sa ns).len vs H Q E h, fun A outer s H args us vs Q E hr he hb hv ⟨sa, ns, h⟩ => (key sa ns).run A outer s H args us vs Q E hr he hb hv h⟩
end K45
open PySem PySem.W PySem.Calls PyProof.Rows
set_option maxRecDepth 100000 in
set_option maxHeartbeats 8000000 in
theorem PySem.Challenge.cw_midlooks_k45_known_equal_holds : PySem.Challenge.rw_midlooks_k45_known_equal.Holds := by
  w_on; o_law
  refine HandSHeadRun.head_any (r := OpenLaw.row PySem.Challenge.rw_midlooks_k45_known_equal) (q := view (OpenLaw.row PySem.Challenge.rw_midlooks_k45_known_equal).prog [94]) (H := K45.hk) (ob := K45.ob) (M := 9000) (loose := K45.names) (d := HandSHeadRun.topDef (OpenLaw.row PySem.Challenge.rw_midlooks_k45_known_equal).prog 94) (kwd := []) K45.ob_eq
    (by kernel_rfl) (fun s => by kernel_rfl) K45.run (by kernel_rfl) (by kernel_rfl) (by kernel_rfl) (by rfl) (by first | assumption | decide +kernel) (by decide +kernel) ⟨rfl, rfl, rfl, rfl, rfl, by decide +kernel⟩ ?hw ?hc
  case hw => w_witness2
  case hc =>
    refine L2.walk_ofE (l := PySem.Challenge.rw_midlooks_k45_known_equal) (n := 63) (k := 5) (x := "_law_script") (CX := L2.CX0) rfl (by decide) (by kernel_rfl) ⟨rfl, by decide, by decide⟩ ?F (fun _ _ _ _ z => z)
    intro w mg fa h Y G hmg0
    obtain ⟨K, KX, c⟩ := Y
    have hmg : mg ("law" : PySem.Str) = some (.ref fa) := by
      have e : (HandSHeadRun.topDef (OpenLaw.row PySem.Challenge.rw_midlooks_k45_known_equal).prog 94).name = ("law" : PySem.Str) := by kernel_rfl
      rw [← e]
      exact hmg0
    obtain ⟨fd, hb, hF⟩ := K45.facts KX G hmg c (PySem.Challenge.rw_midlooks_k45_known_equal).prog
    refine ⟨K, fd, K45.spLaw (PySem.Challenge.rw_midlooks_k45_known_equal).prog w K, KX, hb, fun H a ns hl hO hS => ?_, hF⟩
    obtain ⟨S, e⟩ := K45.isT_ok K45.runs
    refine ⟨a, ns, ⟨fun _ => 0, fun _ => 0⟩, [.scr], Pv.Sto.empty, .bl true, S, K45.rep_empty, .cons (.scr (Pv.Scr.of hO hS)) .nil, e, fun r' H' v _ _ hv => ?_⟩
    cases hv
    rfl
