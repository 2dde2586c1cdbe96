import PyProof.Rows.All
import Wide.All
import OpenK.AllK
import Wide.FinOn
import HandS.ForMost
import HandS.Exc
import HandS.Slots
import HandS.Wide
import HandS.TupAny
import HandS.TupMul
import HandS.Deep
import HandS.Text
import HandS.IsInst
import HandS.SlotsOwn
import HandS.RaiseMore
import HandS.Conv
import PyProof.ListStr
import HandS.Walk
import HandS.Zip
import HandS.CallSlots
import HandS.ExcOwn
import HandS.Defaults
import HandS.Replace
import HandS.Star
import HandS.MakeKwOnly
import HandS.TryOnly
import HandS.ExcField
import KE.KExcSuper
import HandS.ExcInit
import KE.GoesEnum
import KE.GoesMore
import HandS.Style
import HandS.HeadHook2
import HandS.HeadHook4
import HandS.HeadEnd
import HandS.Head0
import HandS.Head1
import HandS.Head2
import PySem.Challenge.RW_lackmark_k39_whole_data_texts
section
/-! E0: a small evaluator of the program's own language, over trees of values; plain Lean, no library. -/
set_option Elab.async false
set_option linter.all false
namespace Lk

/-- values: tuples are trees; fl, dc, ob: a list, a dict, an instance that nothing changes any more; sc: the script; ref: what stands in the store -/
inductive D where
  | non | bl (b : Bool) | int (i : Int) | str (s : List Nat) | tup (xs : List D) | fl (xs : List D) | sc (xs : List D) | dc (kvs : List (D × D)) | ob (c : Nat) (fs : List D) | ref (n : Nat)

inductive Ob where
  | lst (xs : List D)
  | dic (kvs : List (D × D))
  | ins (c : Nat) (fs : List D)

/-! ### the store: a tree by the bits of the place -/
inductive Tr where
  | nil | node (v : Option Ob) (l r : Tr)
def Tr.v : Tr → Option Ob
  | .nil => none
  | .node v _ _ => v
def Tr.l : Tr → Tr
  | .nil => .nil
  | .node _ l _ => l
def Tr.r : Tr → Tr
  | .nil => .nil
  | .node _ _ r => r
def Tr.get : Tr → Nat → Option Ob
  | .nil, _ => none
  | .node v l r, n => match n with
    | 0 => v
    | n + 1 => match n % 2 with
      | 0 => l.get (n / 2)
      | _ => r.get (n / 2)
def Tr.put : Nat → Tr → Nat → Ob → Tr
  | 0, t, _, _ => t
  | f + 1, t, n, o => match n with
    | 0 => .node (some o) t.l t.r
    | n + 1 => match n % 2 with
      | 0 => .node t.v (t.l.put f (n / 2) o) t.r
      | _ => .node t.v t.l (t.r.put f (n / 2) o)
theorem Tr.get_put : ∀ (f : Nat) (t : Tr) (n m : Nat) (o : Ob), n < f → (t.put f n o).get m = if m = n then some o else t.get m
  | 0, _, _, _, _, h => absurd h (Nat.not_lt_zero _)
  | f + 1, t, 0, m, o, _ => by
    cases m with
    | zero => simp [Tr.put, Tr.get]
    | succ m =>
      cases t with
      | nil => simp only [Tr.put, Tr.get, Tr.l, Tr.r]; split <;> simp [Tr.get]
      | node v l r => simp only [Tr.put, Tr.get, Tr.l, Tr.r]; simp
  | f + 1, t, n + 1, m, o, h => by
    have hf : n / 2 < f := by omega
    have key : ∀ (a b : Nat), a % 2 = b % 2 → (a / 2 = b / 2 ↔ a = b) := fun a b e => by omega
    rcases Nat.mod_two_eq_zero_or_one n with hn | hn
    · have e : Tr.put (f + 1) t (n + 1) o = .node t.v (t.l.put f (n / 2) o) t.r := by simp [Tr.put, hn]
      rw [e]
      cases m with
      | zero => cases t <;> simp [Tr.get, Tr.v]
      | succ m =>
        rcases Nat.mod_two_eq_zero_or_one m with hm | hm
        · have := key m n (by omega)
          simp only [Tr.get, hm]
          rw [Tr.get_put f t.l (n / 2) (m / 2) o hf]
          simp only [Nat.add_right_cancel_iff, this]
          cases t <;> simp [Tr.get, Tr.l, hm]
        · have : m ≠ n := by omega
          simp only [Tr.get, hm]
          cases t <;> simp [Tr.get, Tr.r, hm, this]
    · have e : Tr.put (f + 1) t (n + 1) o = .node t.v t.l (t.r.put f (n / 2) o) := by simp [Tr.put, hn]
      rw [e]
      cases m with
      | zero => cases t <;> simp [Tr.get, Tr.v]
      | succ m =>
        rcases Nat.mod_two_eq_zero_or_one m with hm | hm
        · have : m ≠ n := by omega
          simp only [Tr.get, hm]
          cases t <;> simp [Tr.get, Tr.l, hm, this]
        · have := key m n (by omega)
          simp only [Tr.get, hm]
          rw [Tr.get_put f t.r (n / 2) (m / 2) o hf]
          simp only [Nat.add_right_cancel_iff, this]
          cases t <;> simp [Tr.get, Tr.r, hm]

structure Store where
  next : Nat
  mem : Tr
def Store.get (S : Store) (n : Nat) : Option Ob := S.mem.get n
def Store.put (S : Store) (n : Nat) (o : Ob) : Store := ⟨S.next, S.mem.put (n + 1) n o⟩
def Store.new (S : Store) (o : Ob) : Store := ⟨S.next + 1, S.mem.put (S.next + 1) S.next o⟩
@[simp] theorem Store.get_put (S : Store) (n m : Nat) (o : Ob) : (S.put n o).get m = if m = n then some o else S.get m := Tr.get_put _ _ _ _ _ (Nat.lt_succ_self _)
@[simp] theorem Store.get_new (S : Store) (m : Nat) (o : Ob) : (S.new o).get m = if m = S.next then some o else S.get m := Tr.get_put _ _ _ _ _ (Nat.lt_succ_self _)
@[simp] theorem Store.next_put (S : Store) (n : Nat) (o : Ob) : (S.put n o).next = S.next := rfl
@[simp] theorem Store.next_new (S : Store) (o : Ob) : (S.new o).next = S.next + 1 := rfl

/-! ### what a run comes to -/
inductive Res (α : Type) where
  | ok (a : α) (S : Store)
  | exc (c : Nat) (p : List D) (S : Store)
  | bad
abbrev M (α : Type) := Store → Res α
def M.pure {α : Type} (a : α) : M α := fun S => .ok a S
def M.bad {α : Type} : M α := fun _ => .bad
def M.bind {α β : Type} (m : M α) (k : α → M β) : M β := fun S => match m S with
  | .ok a S' => k a S'
  | .exc c p S' => .exc c p S'
  | .bad => .bad
/-- without errors -/
def M.calm {α : Type} (m : M α) : M α := fun S => match m S with
  | .exc _ _ _ => .bad
  | r => r
def M.opt {α : Type} : Option α → M α
  | some a => M.pure a
  | none => M.bad
theorem M.bind_assoc {α β γ : Type} (m : M α) (k : α → M β) (l : β → M γ) : M.bind (M.bind m k) l = M.bind m fun a => M.bind (k a) l := by
  funext S
  simp only [M.bind]
  cases m S <;> rfl
theorem M.bind_bad {α β : Type} {m : M α} {k : α → M β} {S : Store} (h : m S = .bad) : M.bind m k S = .bad := by simp [M.bind, h]
theorem M.bind_ok {α β : Type} {m : M α} {k : α → M β} {S S' : Store} {a : α} (h : m S = .ok a S') : M.bind m k S = k a S' := by simp [M.bind, h]

/-! ### the language -/
inductive Bop where
  | add | sub | mul | fdiv | mod | pow
inductive Cop where
  | eq | ne | lt | le | gt | ge | inn | nin
inductive Kd where
  | int | bool | str | tup | lst | dic | own (c : Nat)
inductive Bi where
  | len | all | any | sum | tuple | list | int | str | abs
inductive Bm where
  | append | extend | insert | index | split | join | get | none
inductive Att where
  | slot (i : Nat) | prop (f : Nat)
/-- a parameter's value: the i-th of the evaluated arguments, or a default -/
inductive Pl where
  | arg (i : Nat) | dfl (d : D)
mutual
inductive Tg where
  | nm (i : Nat) | tp (ts : Tgs)
inductive Tgs where
  | nil | cons (t : Tg) (r : Tgs)
end
mutual
inductive XE where
  | var (i : Nat)
  | con (d : D)
  | tup (es : XEs)
  | lst (es : XEs)
  | bin (o : Bop) (a b : XE)
  | neg (a : XE)
  | cmp (o : Cop) (tb : List (Nat × Nat)) (a b : XE)
  | isN (a : XE)
  | noN (a : XE)
  | chn (o p : Cop) (a b c : XE)
  | and (a b : XE)
  | or (a b : XE)
  | not (a : XE)
  | ite (t a b : XE)
  | idx (a i : XE)
  | slc (a : XE) (lo hi : XB)
  | att (tb : List (Nat × Att)) (a : XE)
  | call (f : Nat) (es : XEs) (pl : List Pl)
  | make (c f n : Nat) (es : XEs) (pl : List Pl)
  | mth (m : Bm) (o : XE) (es : XEs)
  | bi (b : Bi) (es : XEs)
  | isi (n : Nat) (ks : List Kd) (a : XE)
  | lcm (own : List Nat) (tg : Tg) (it : XI) (t e : XE)
  | yes
  | mat (a : XE)
  | lrng (es : XEs)
/-- a slice's end -/
inductive XB where
  | no
  | so (e : XE)
/-- what is walked -/
inductive XI where
  | of (a : XE)
  | rng (es : XEs)
  | enm (a : XE)
  | zip (a b : XE)
inductive XEs where
  | nil
  | cons (e : XE) (r : XEs)
end
mutual
inductive XS where
  | pass
  | expr (e : XE)
  | set (t : Tg) (e : XE)
  | setIx (a i e : XE)
  | aug (i : Nat) (o : Bop) (e : XE)
  | ret (e : XE)
  | ite (c : XE) (a b : XSs)
  | whl (c : XE) (b : XSs)
  | for (tg : Tg) (it : XI) (b : XSs)
  | brk
  | cnt
  | raise (c : Nat) (es : XEs)
  | tryy (b : XSs) (hs : XHs)
inductive XSs where
  | nil
  | cons (s : XS) (r : XSs)
/-- except clauses: the classes that it takes, those that it lets pass, its suite; fld: 'as e: return e.f' -/
inductive XHs where
  | nil
  | cons (yes no : List Nat) (b : XSs) (r : XHs)
  | fld (c i : Nat) (no : List Nat) (r : XHs)
end
abbrev Env := List (Option D)
/-- where a statement goes; xc: an error of the class c with its fields p -/
inductive Flow where
  | nx (σ : Env) | rt (d : D) | bk (σ : Env) | ct (σ : Env) | xc (c : Nat) (p : List D) (σ : Env)
def slotOf (σ : Env) (i : Nat) : Option D := match σ[i]? with
  | some (some d) => some d
  | _ => none
theorem slotOf_some {σ : Env} {i : Nat} {d : D} (h : slotOf σ i = some d) : σ[i]? = some (some d) := by
  unfold slotOf at h
  split at h
  · rename_i e; cases h; exact e
  · cases h
/-- an expression in a statement: its error flows -/
def M.at {α : Type} (σ : Env) (m : M α) (k : α → M Flow) : M Flow := fun S => match m S with
  | .ok a S' => k a S'
  | .exc c p S' => .ok (.xc c p σ) S'
  | .bad => .bad

/-! ### values -/
mutual
def eqD : D → D → Bool
  | .non, .non => true
  | .bl a, .bl b => a == b
  | .bl a, .int j => (if a then (1 : Int) else 0) == j
  | .int i, .bl b => i == (if b then (1 : Int) else 0)
  | .int i, .int j => i == j
  | .str x, .str y => x == y
  | .tup xs, .tup ys => eqDs xs ys
  | .fl xs, .fl ys => eqDs xs ys
  | _, _ => false
def eqDs : List D → List D → Bool
  | [], [] => true
  | x :: xs, y :: ys => eqD x y && eqDs xs ys
  | _, _ => false
end
mutual
def same : D → D → Bool
  | .non, .non => true
  | .bl a, .bl b => a == b
  | .int i, .int j => i == j
  | .str x, .str y => x == y
  | .tup xs, .tup ys => sames xs ys
  | .fl xs, .fl ys => sames xs ys
  | .sc xs, .sc ys => sames xs ys
  | .dc xs, .dc ys => sameK xs ys
  | .ob c xs, .ob e ys => c == e && sames xs ys
  | .ref a, .ref b => a == b
  | _, _ => false
def sames : List D → List D → Bool
  | [], [] => true
  | x :: xs, y :: ys => same x y && sames xs ys
  | _, _ => false
def sameK : List (D × D) → List (D × D) → Bool
  | [], [] => true
  | (x, u) :: xs, (y, v) :: ys => same x y && same u v && sameK xs ys
  | _, _ => false
end
mutual
theorem same_eq : ∀ {a b : D}, same a b = true → a = b
  | .non, b, h => by cases b <;> simp_all [same]
  | .bl _, b, h => by cases b <;> simp_all [same]
  | .int _, b, h => by cases b <;> simp_all [same]
  | .str _, b, h => by cases b <;> simp_all [same]
  | .tup xs, b, h => by cases b <;> simp [same] at h; rw [sames_eq h]
  | .fl xs, b, h => by cases b <;> simp [same] at h; rw [sames_eq h]
  | .sc xs, b, h => by cases b <;> simp [same] at h; rw [sames_eq h]
  | .dc xs, b, h => by cases b <;> simp [same] at h; rw [sameK_eq h]
  | .ob c xs, b, h => by cases b <;> simp [same] at h; rw [h.1, sames_eq h.2]
  | .ref _, b, h => by cases b <;> simp_all [same]
theorem sames_eq : ∀ {a b : List D}, sames a b = true → a = b
  | [], b, h => by cases b <;> simp_all [sames]
  | x :: xs, b, h => by
    cases b with
    | nil => simp [sames] at h
    | cons y ys => simp [sames] at h; rw [same_eq h.1, sames_eq h.2]
theorem sameK_eq : ∀ {a b : List (D × D)}, sameK a b = true → a = b
  | [], b, h => by cases b <;> simp_all [sameK]
  | (x, u) :: xs, b, h => by
    cases b with
    | nil => simp [sameK] at h
    | cons y ys => obtain ⟨y, v⟩ := y; simp [sameK] at h; rw [same_eq h.1.1, same_eq h.1.2, sameK_eq h.2]
end
mutual
theorem same_refl : ∀ a : D, same a a = true
  | .non => rfl
  | .bl _ => by simp [same]
  | .int _ => by simp [same]
  | .str _ => by simp [same]
  | .tup xs => by simp [same, sames_refl xs]
  | .fl xs => by simp [same, sames_refl xs]
  | .sc xs => by simp [same, sames_refl xs]
  | .dc xs => by simp [same, sameK_refl xs]
  | .ob c xs => by simp [same, sames_refl xs]
  | .ref _ => by simp [same]
theorem sames_refl : ∀ a : List D, sames a a = true
  | [] => rfl
  | x :: xs => by simp [sames, same_refl x, sames_refl xs]
theorem sameK_refl : ∀ a : List (D × D), sameK a a = true
  | [] => rfl
  | (x, u) :: xs => by simp [sameK, same_refl x, same_refl u, sameK_refl xs]
end
/-- a list of options, all there -/
def allSome {α β : Type} (f : α → Option β) : List α → Option (List β)
  | [] => some []
  | x :: xs => match f x with
    | none => none
    | some y => match allSome f xs with
      | none => none
      | some ys => some (y :: ys)
/-- data, its lists read off the store -/
def rsv (S : Store) : Nat → D → Option D
  | 0, _ => none
  | n + 1, d => match d with
    | .non => some .non
    | .bl b => some (.bl b)
    | .int i => some (.int i)
    | .str s => if s.all (· < 1114112) then some (.str s) else none
    | .tup xs => (allSome (rsv S n) xs).map .tup
    | .fl xs => (allSome (rsv S n) xs).map .fl
    | .ref a => match S.get a with
      | some (.lst xs) => (allSome (rsv S n) xs).map .fl
      | _ => none
    | _ => none
def eqS (S : Store) (a b : D) : Option Bool := match rsv S 60 a with
  | none => none
  | some x => match rsv S 60 b with
    | none => none
    | some y => some (eqD x y)
/-- the items of a list or tuple -/
def itemsOf (S : Store) : D → Option (List D)
  | .tup xs => some xs
  | .fl xs => some xs
  | .sc xs => some xs
  | .ref a => match S.get a with
    | some (.lst xs) => some xs
    | _ => none
  | _ => none
/-- the items of a list -/
def seqOf (S : Store) : D → Option (List D)
  | .tup _ => none
  | d => itemsOf S d
/-- what a walk over a value gives -/
def walkOf (S : Store) : D → Option (List D)
  | .str z => some (z.map fun c => .str [c])
  | d => itemsOf S d
def intOf : D → Option Int
  | .int i => some i
  | _ => none
def isNon : D → Bool
  | .non => true
  | _ => false
def truth : D → Option Bool
  | .bl b => some b
  | _ => none
/-- the index i of n things, as Python has it -/
def ixOf (n : Nat) (i : Int) : Option Nat := if 0 ≤ i then (if i < n then some i.toNat else none) else if -(n : Int) ≤ i then some (i + n).toNat else none
/-- an end of a slice -/
def cutAt (n d : Nat) : Option Int → Nat
  | none => d
  | some v => if v < 0 then (v + (n : Int)).toNat else min v.toNat n
def cut {α : Type} (xs : List α) (lo hi : Option Int) : List α := (xs.drop (cutAt xs.length 0 lo)).take (cutAt xs.length xs.length hi - cutAt xs.length 0 lo)
def kindIs : Kd → D → Bool
  | .int, .int _ => true
  | .int, .bl _ => true
  | .bool, .bl _ => true
  | .str, .str _ => true
  | .tup, .tup _ => true
  | .lst, .fl _ => true
  | .lst, .sc _ => true
  | .dic, .dc _ => true
  | .own c, .ob k _ => c == k
  | _, _ => false
def kindOf (S : Store) (n : Nat) (ks : List Kd) : D → Option Bool
  | .sc _ => none
  | .ob c _ => if c < n then some (ks.any fun k => match k with | .own k => k == c | _ => false) else none
  | .ref a => match S.get a with
    | some (.lst _) => some (ks.any fun k => match k with | .lst => true | _ => false)
    | some (.dic _) => some (ks.any fun k => match k with | .dic => true | _ => false)
    | some (.ins c _) => some (ks.any fun k => match k with | .own k => c == k | _ => false)
    | none => none
  | d => some (ks.any fun k => kindIs k d)
def intBin : Bop → Int → Int → Option Int
  | .add, i, j => some (i + j)
  | .sub, i, j => some (i - j)
  | .mul, i, j => if (-(2 ^ 64) < i ∧ i < 2 ^ 64) ∨ (-(2 ^ 64) < j ∧ j < 2 ^ 64) then some (i * j) else none
  | .fdiv, i, j => if 0 < j ∧ j.natAbs.log2 < 9000 then some (i / j) else none
  | .mod, i, j => if j ≠ 0 then some (i.fmod j) else none
  | .pow, i, j => if 0 ≤ j ∧ j ≤ 1000000 ∧ i.natAbs < 2 ^ 64 then some (i ^ j.toNat) else none
def sizeMax : Nat := 1000000
/-- the items of a list that may be changed, or nothing changes -/
def listOf (S : Store) : D → Option (List D)
  | .fl xs => some xs
  | .ref a => match S.get a with
    | some (.lst xs) => some xs
    | _ => none
  | _ => none
def binD (S : Store) : Bop → D → D → Option D
  | o, .int i, .int j => (intBin o i j).map .int
  | .add, .str a, .str b => if a.length + b.length ≤ sizeMax then some (.str (a ++ b)) else none
  | .add, .tup a, .tup b => if a.length + b.length ≤ sizeMax then some (.tup (a ++ b)) else none
  | .mul, .tup a, .int i => if 0 ≤ i ∧ i < 2 ^ 62 ∧ a.length * i.toNat ≤ sizeMax then some (.tup (List.replicate i.toNat a).flatten) else none
  | .mul, .str a, .int i => if 0 ≤ i ∧ i < 2 ^ 62 ∧ a.length * i.toNat ≤ sizeMax then some (.str (List.replicate i.toNat a).flatten) else none
  | .add, a, b => match listOf S a, listOf S b with
    | some x, some y => if x.length + y.length ≤ sizeMax then some (.fl (x ++ y)) else none
    | _, _ => none
  | .mul, .fl a, .int i => if 0 ≤ i ∧ i < 2 ^ 62 ∧ a.length * i.toNat ≤ sizeMax then some (.fl (List.replicate i.toNat a).flatten) else none
  | _, _, _ => none
def cmpI : Cop → Int → Int → Option Bool
  | .lt, i, j => some (decide (i < j))
  | .le, i, j => some (decide (i ≤ j))
  | .gt, i, j => some (decide (j < i))
  | .ge, i, j => some (decide (j ≤ i))
  | _, _, _ => none
def memD (S : Store) (x : D) (ys : List D) : Option Bool := match rsv S 60 x with
  | none => none
  | some x => match allSome (rsv S 60) ys with
    | none => none
    | some ys => some (ys.any fun y => eqD y x)
def inD (S : Store) (x : D) : D → Option Bool
  | .str z => match x with
    | .str [c] => some (decide (c ∈ z))
    | _ => none
  | y => match itemsOf S y with
    | some ys => memD S x ys
    | none => none
/-- a comparison of data -/
def cmpD (S : Store) : Cop → D → D → Option Bool
  | .eq, a, b => eqS S a b
  | .ne, a, b => (eqS S a b).map (!·)
  | .inn, a, b => inD S a b
  | .nin, a, b => (inD S a b).map (!·)
  | o, .int i, .int j => cmpI o i j
  | _, _, _ => none
def idxD (S : Store) (a : D) (i : Int) : Option D := match a with
  | .str z => if z.length ≤ sizeMax then (ixOf z.length i).bind fun k => (z[k]?).map fun c => .str [c] else none
  | a => (itemsOf S a).bind fun xs => (ixOf xs.length i).bind fun k => xs[k]?
def slcD (S : Store) (a : D) (lo hi : Option Int) : Option D := match a with
  | .str z => if z.length ≤ sizeMax then some (.str (cut z lo hi)) else none
  | .tup xs => some (.tup (cut xs lo hi))
  | a => (seqOf S a).map fun xs => .fl (cut xs lo hi)
/-- a text's parts between a sign -/
def splitOn (c : Nat) : List Nat → List (List Nat)
  | [] => [[]]
  | x :: xs => if x = c then [] :: splitOn c xs else match splitOn c xs with
    | [] => [[x]]
    | w :: ws => (x :: w) :: ws
def joinOn (c : List Nat) : List (List Nat) → List Nat
  | [] => []
  | [w] => w
  | w :: ws => w ++ c ++ joinOn c ws
/-- the signs of a number that is not negative -/
def digits : Nat → Nat → List Nat
  | 0, _ => []
  | f + 1, n => if n < 10 then [48 + n] else digits f (n / 10) ++ [48 + n % 10]
def textOf : D → Option (List Nat)
  | .int i => if 0 ≤ i ∧ i < 10 then some [48 + i.toNat] else none
  | .str s => some s
  | _ => none
def numOf : D → Option Int
  | .int i => some i
  | .bl b => some (if b then 1 else 0)
  | .str [c] => if 48 ≤ c ∧ c ≤ 57 then some (c - 48 : Nat) else none
  | _ => none
def lenOf (S : Store) : D → Option Nat
  | .str z => if z.length ≤ sizeMax then some z.length else none
  | d => (itemsOf S d).map (·.length)
def biD (S : Store) : Bi → List D → Option D
  | .len, [d] => (lenOf S d).map fun (n : Nat) => .int n
  | .all, [d] => (seqOf S d).bind fun xs => (allSome truth xs).map fun bs => .bl (bs.all id)
  | .any, [d] => (seqOf S d).bind fun xs => (allSome truth xs).map fun bs => .bl (bs.any id)
  | .sum, [d] => (seqOf S d).bind fun xs => (allSome intOf xs).map fun is => .int is.sum
  | .tuple, [d] => (itemsOf S d).map .tup
  | .list, [.str z] => if z.length ≤ sizeMax then some (.fl (z.map fun c => .str [c])) else none
  | .list, [d] => (itemsOf S d).map .fl
  | .int, [d] => (numOf d).map .int
  | .str, [d] => (textOf d).map .str
  | .abs, [d] => (intOf d).map fun i => .int (if i < 0 then -i else i)
  | _, _ => none
def strsOf : List D → Option (List (List Nat)) := allSome fun d => match d with | .str s => some s | _ => none
def indexD (S : Store) (x : D) (ys : List D) : Option Nat := match memD S x ys with
  | some true => match rsv S 60 x, allSome (rsv S 60) ys with
    | some x, some ys => ys.findIdx? fun y => eqD y x
    | _, _ => none
  | _ => none
/-- the thing has the method -/
def mthFits (S : Store) : Bm → D → Bool
  | .append, .ref a => (match S.get a with
    | some (.lst _) => true
    | _ => false)
  | .split, .str _ => true
  | .join, .str _ => true
  | .index, .str _ => true
  | .index, .fl _ => true
  | .index, .ref a => (match S.get a with
    | some (.lst _) => true
    | _ => false)
  | _, _ => false
/-- methods of built-in things -/
def mthD (m : Bm) (o : D) (as : List D) : M D := fun S => match m with
  | .append => match o, as with
    | .ref a, [x] => match S.get a with
      | some (.lst xs) => if xs.length < sizeMax then .ok .non (S.put a (.lst (xs ++ [x]))) else .bad
      | _ => .bad
    | _, _ => .bad
  | .split => match o, as with
    | .str z, [.str [c]] => if z.length ≤ sizeMax ∧ c < 128 then .ok (.fl ((splitOn c z).map .str)) S else .bad
    | _, _ => .bad
  | .join => match o, as with
    | .str c, [d] => match itemsOf S d with
      | some xs => match strsOf xs with
        | some ws => if (ws.map (·.length)).sum + ws.length * c.length ≤ sizeMax then .ok (.str (joinOn c ws)) S else .bad
        | none => .bad
      | none => .bad
    | _, _ => .bad
  | .index => match o, as with
    | .str z, [.str [c]] => if z = [97, 98, 99] then (if c = 97 then .ok (.int 0) S else if c = 98 then .ok (.int 1) S else if c = 99 then .ok (.int 2) S else .bad) else .bad
    | .str _, _ => .bad
    | d, [x] => match seqOf S d with
      | some ys => match indexD S x ys with
        | some k => .ok (.int k) S
        | none => .bad
      | none => .bad
    | _, _ => .bad
  | _ => .bad
mutual
def setTg : Tg → D → Env → Option Env
  | .nm i, d, σ => some (σ.set i (some d))
  | .tp ts, d, σ => match d with
    | .tup xs => setTgs ts xs σ
    | _ => none
def setTgs : Tgs → List D → Env → Option Env
  | .nil, xs, σ => match xs with
    | [] => some σ
    | _ => none
  | .cons t r, xs, σ => match xs with
    | x :: xs => match setTg t x σ with
      | some σ2 => setTgs r xs σ2
      | none => none
    | [] => none
end
mutual
/-- its slots are among these -/
def Tg.sub : Tg → List Nat → Bool
  | .nm i, vs => vs.contains i
  | .tp ts, vs => ts.sub vs
def Tgs.sub : Tgs → List Nat → Bool
  | .nil, _ => true
  | .cons t r, vs => t.sub vs && r.sub vs
end
def Tgs.len : Tgs → Nat
  | .nil => 0
  | .cons _ r => r.len + 1
def wipeE (σ : Env) : List Nat → Env
  | [] => σ
  | v :: vs => (wipeE σ vs).set v none
def planned (pl : List Pl) (as : List D) : Option (List D) := allSome (fun p => match p with | .arg i => as[i]? | .dfl d => some d) pl
def rangeD : List D → Option (List D)
  | [.int n] => if n < 1000000 ∧ -1000000 < n then some ((List.range n.toNat).map fun (k : Nat) => .int k) else none
  | [.int a, .int b] => if b < 1000000 ∧ -1000000 < b ∧ -1000000 < a ∧ a < 1000000 then some ((List.range (b - a).toNat).map fun (k : Nat) => .int (a + k)) else none
  | _ => none
def pairs : List D → List D → List D
  | x :: xs, y :: ys => .tup [x, y] :: pairs xs ys
  | _, _ => []
def numbered (k : Nat) : List D → List D
  | [] => []
  | x :: xs => .tup [.int k, x] :: numbered (k + 1) xs

/-- the lists that are walked stand as they stood -/
abbrev Gd := List (Nat × List D)
def stands (S : Store) : Gd → Bool
  | [] => true
  | (a, xs) :: r => (match S.get a with
    | some (.lst ys) => sames ys xs
    | _ => false) && stands S r
def guardOf (S : Store) : D → Gd
  | .ref a => match S.get a with
    | some (.lst xs) => [(a, xs)]
    | _ => []
  | _ => []
def M.chk (g : Gd) : M Unit := fun S => match stands S g with
  | true => .ok () S
  | false => .bad

def augD : Bop → D → D → Option D
  | .add, .int a, .int b => some (.int (a + b))
  | .sub, .int a, .int b => some (.int (a - b))
  | _, _, _ => none
/-- xs[k] = d -/
def setD (x k d : D) : M Unit := fun S => match x with
  | .ref n => match S.get n with
    | some (.lst xs) => match (intOf k).bind (ixOf xs.length) with
      | some j => .ok () (S.put n (.lst (xs.set j d)))
      | none => .bad
    | _ => .bad
  | _ => .bad

/-! ### the run -/
section
variable (cal : Nat → List D → M D)
/-- a comprehension's turns -/
def lcGo (g : Gd) (tg : Tg) (own : List Nat) (σ : Env) (t : Env → M Bool) (e : Env → M D) : List D → M (List D)
  | [] => M.bind (M.chk g) fun _ => M.pure []
  | x :: xs => M.bind (M.chk g) fun _ => M.bind (M.opt (setTg tg x (wipeE σ own))) fun σ2 => M.bind (M.calm (t σ2)) fun b => match b with
    | true => M.bind (M.calm (e σ2)) fun y => M.bind (lcGo g tg own σ t e xs) fun ys => M.pure (y :: ys)
    | false => lcGo g tg own σ t e xs
def lcAll (p : List D × Gd) (tg : Tg) (own : List Nat) (σ : Env) (t : Env → M Bool) (e : Env → M D) : M (List D) := match decide (p.1.length ≤ sizeMax) with
  | true => lcGo p.2 tg own σ t e p.1
  | false => M.bad
/-- what an own comparison may meet at its right -/
def okR (S : Store) (tb : List (Nat × Nat)) : D → Bool
  | .ref a => match S.get a with
    | some (.lst _) => true
    | _ => false
  | .ob e _ => (tb.lookup e).isSome
  | .dc _ => false
  | _ => true
/-- a comparison, the left one an instance perhaps -/
def cmpC (o : Cop) (tb : List (Nat × Nat)) (x y : D) : M D := match x with
  | .ob c _ => fun S => match okR S tb y, tb.lookup c, o with
    | true, some f, .eq => M.calm (M.bind (cal f [x, y]) fun r => M.opt ((truth r).map .bl)) S
    | true, some f, .ne => M.calm (M.bind (cal f [x, y]) fun r => M.opt ((truth r).map fun b => .bl (!b))) S
    | _, _, _ => .bad
  | _ => fun S => M.opt ((cmpD S o x y).map .bl) S
mutual
def ev : XE → Env → M D
  | .var i, σ => M.opt (slotOf σ i)
  | .con d, _ => M.pure d
  | .tup es, σ => M.bind (evs es σ) fun ds => M.pure (.tup ds)
  | .lst es, σ => M.bind (evs es σ) fun ds => M.pure (.fl ds)
  | .bin o a b, σ => M.bind (ev a σ) fun x => M.bind (ev b σ) fun y => fun S => M.opt (binD S o x y) S
  | .neg a, σ => M.bind (ev a σ) fun x => M.opt ((intOf x).map fun i => .int (-i))
  | .cmp o tb a b, σ => M.bind (ev a σ) fun x => M.bind (ev b σ) fun y => cmpC cal o tb x y
  | .isN a, σ => M.bind (ev a σ) fun x => M.pure (.bl (isNon x))
  | .noN a, σ => M.bind (ev a σ) fun x => M.pure (.bl (!isNon x))
  | .chn o p a b c, σ => M.bind (ev a σ) fun x => M.bind (ev b σ) fun y => fun S => M.bind (M.opt (cmpD S o x y)) (fun k => match k with
    | true => M.bind (ev c σ) fun z => fun S => M.opt ((cmpD S p y z).map .bl) S
    | false => M.pure (.bl false)) S
  | .and a b, σ => M.bind (ev a σ) fun x => match x with
    | .bl true => ev b σ
    | .bl false => M.pure (.bl false)
    | _ => M.bad
  | .or a b, σ => M.bind (ev a σ) fun x => match x with
    | .bl true => M.pure (.bl true)
    | .bl false => ev b σ
    | _ => M.bad
  | .not a, σ => M.bind (ev a σ) fun x => match x with
    | .bl b => M.pure (.bl (!b))
    | _ => M.bad
  | .ite t a b, σ => M.bind (ev t σ) fun x => match x with
    | .bl true => ev a σ
    | .bl false => ev b σ
    | _ => M.bad
  | .idx a i, σ => M.bind (ev a σ) fun x => M.bind (ev i σ) fun y => fun S => M.opt ((intOf y).bind (idxD S x)) S
  | .slc a lo hi, σ => M.bind (ev a σ) fun x => M.bind (evB lo σ) fun l => M.bind (evB hi σ) fun h => fun S => M.opt (slcD S x l h) S
  | .att tb a, σ => M.bind (ev a σ) fun x => match x with
    | .ob c fs => match tb.lookup c with
      | some (.slot i) => M.opt fs[i]?
      | some (.prop f) => M.calm (cal f [x])
      | none => M.bad
    | _ => M.bad
  | .call f es pl, σ => M.bind (evs es σ) fun as => M.bind (M.opt (planned pl as)) fun ps => cal f ps
  | .make _ f _ es pl, σ => M.bind (evs es σ) fun as => M.bind (M.opt (planned pl as)) fun ps => cal f ps
  | .mth m o es, σ => M.bind (ev o σ) fun x => fun S => match mthFits S m x with
    | true => M.bind (evs es σ) (fun as => mthD m x as) S
    | false => .bad
  | .bi b es, σ => M.bind (evs es σ) fun as => fun S => M.opt (biD S b as) S
  | .isi n ks a, σ => M.bind (ev a σ) fun x => fun S => M.opt ((kindOf S n ks x).map .bl) S
  | .lcm own tg it t e, σ => M.bind (M.bind (evI it σ) fun p => lcAll p tg own σ (fun σ => M.bind (ev t σ) fun x => M.opt (truth x)) (fun σ => ev e σ)) fun ys => M.pure (.fl ys)
  | .yes, _ => M.pure (.bl true)
  | .mat a, σ => M.bind (ev a σ) fun x => fun S => match x with
    | .fl xs => .ok (.ref S.next) (S.new (.lst xs))
    | _ => .bad
  | .lrng es, σ => M.bind (M.bind (evs es σ) fun as => M.opt (rangeD as)) fun xs => M.pure (.fl xs)
def evB : XB → Env → M (Option Int)
  | .no, _ => M.pure none
  | .so e, σ => M.bind (ev e σ) fun x => M.opt ((intOf x).map some)
/-- what is walked -/
def evI : XI → Env → M (List D × Gd)
  | .rng es, σ => M.bind (evs es σ) fun as => M.opt ((rangeD as).map fun xs => (xs, []))
  | .enm a, σ => M.bind (ev a σ) fun x => fun S => M.opt ((walkOf S x).map fun xs => (numbered 0 xs, guardOf S x)) S
  | .zip a b, σ => M.bind (ev a σ) fun x => M.bind (ev b σ) fun y => fun S => M.opt (match walkOf S x, walkOf S y with
    | some xs, some ys => some (pairs xs ys, guardOf S x ++ guardOf S y)
    | _, _ => none) S
  | .of a, σ => M.bind (ev a σ) fun x => fun S => M.opt ((walkOf S x).map fun xs => (xs, guardOf S x)) S
def evs : XEs → Env → M (List D)
  | .nil, _ => M.pure []
  | .cons e r, σ => M.bind (ev e σ) fun x => M.bind (evs r σ) fun xs => M.pure (x :: xs)
end
/-- a for's turns -/
def forGo (g : Gd) (tg : Tg) (b : Env → M Flow) : List D → Env → M Flow
  | [], σ => M.bind (M.chk g) fun _ => M.pure (.nx σ)
  | x :: xs, σ => M.bind (M.chk g) fun _ => M.bind (M.opt (setTg tg x σ)) fun σ2 => M.bind (b σ2) fun f => match f with
    | .nx σ3 => forGo g tg b xs σ3
    | .ct σ3 => forGo g tg b xs σ3
    | .bk σ3 => M.pure (.nx σ3)
    | .rt d => M.pure (.rt d)
    | .xc c p σ3 => M.pure (.xc c p σ3)
/-- a while's turns, so many at most -/
def whlGo (c : Env → M Bool) (b : Env → M Flow) : Nat → Env → M Flow
  | 0, _ => M.bad
  | n + 1, σ => M.at σ (c σ) fun k => match k with
    | false => M.pure (.nx σ)
    | true => M.bind (b σ) fun f => match f with
      | .nx σ3 => whlGo c b n σ3
      | .ct σ3 => whlGo c b n σ3
      | .bk σ3 => M.pure (.nx σ3)
      | .rt d => M.pure (.rt d)
      | .xc c p σ3 => M.pure (.xc c p σ3)
def tst (c : XE) (σ : Env) : M Bool := M.bind (ev cal c σ) fun x => M.opt (truth x)
def turns : Nat := 100000
mutual
def ex : XS → Env → M Flow
  | .pass, σ => M.pure (.nx σ)
  | .expr e, σ => M.at σ (ev cal e σ) fun _ => M.pure (.nx σ)
  | .set t e, σ => M.at σ (ev cal e σ) fun d => M.bind (M.opt (setTg t d σ)) fun σ2 => M.pure (.nx σ2)
  | .setIx a i e, σ => M.at σ (ev cal e σ) fun d => M.at σ (ev cal a σ) fun x => M.at σ (ev cal i σ) fun k => M.bind (setD x k d) fun _ => M.pure (.nx σ)
  | .aug i o e, σ => M.bind (M.opt (slotOf σ i)) fun x => M.at σ (ev cal e σ) fun y => M.bind (M.opt (augD o x y)) fun z => M.pure (.nx (σ.set i (some z)))
  | .ret e, σ => M.at σ (ev cal e σ) fun d => M.pure (.rt d)
  | .ite c a b, σ => M.at σ (tst cal c σ) fun k => match k with
    | true => exs a σ
    | false => exs b σ
  | .whl c b, σ => whlGo (tst cal c) (exs b) turns σ
  | .for tg it b, σ => M.at σ (evI cal it σ) fun p => forGo p.2 tg (exs b) p.1 σ
  | .brk, σ => M.pure (.bk σ)
  | .cnt, σ => M.pure (.ct σ)
  | .raise c es, σ => M.at σ (evs cal es σ) fun ds => M.pure (.xc c ds σ)
  | .tryy b hs, σ => M.bind (exs b σ) fun f => match f with
    | .xc c p σ2 => hnd hs c p σ2
    | f => M.pure f
def exs : XSs → Env → M Flow
  | .nil, σ => M.pure (.nx σ)
  | .cons s r, σ => M.bind (ex s σ) fun f => match f with
    | .nx σ2 => exs r σ2
    | f => M.pure f
def hnd : XHs → Nat → List D → Env → M Flow
  | .nil, c, p, σ => M.pure (.xc c p σ)
  | .cons yes no b r, c, p, σ => match yes.contains c, no.contains c with
    | true, _ => M.bind (exs b σ) fun f => match f with
      | .xc _ _ _ => M.bad
      | f => M.pure f
    | false, true => hnd r c p σ
    | false, false => M.bad
  | .fld c0 i no r, c, p, σ => match decide (c = c0 ∧ i < σ.length), no.contains c with
    | true, _ => match p with
      | [x] => M.pure (.rt x)
      | _ => M.bad
    | false, true => hnd r c p σ
    | false, false => M.bad
end
/-- a def's parameters, its other names; of an __init__ (then the parameters are counted without self) the object's class, and what its slots are set to at the end, in order -/
structure Def where
  par : Nat
  loc : Nat
  ini : Option (Nat × XEs)
  body : XSs
def runDef (d : Def) (as : List D) : M D := match decide (as.length = d.par) with
  | false => M.bad
  | true => match d.ini with
    | none => M.bind (M.calm (exs cal d.body (as.map some ++ List.replicate d.loc none))) fun f => match f with
      | .nx _ => M.pure .non
      | .rt v => M.pure v
      | .xc c p _ => fun S => .exc c p S
      | _ => M.bad
    | some (c, es) => M.bind (M.calm (exs cal d.body (none :: (as.map some ++ List.replicate d.loc none)))) fun f => match f with
      | .nx σ => match σ with
        | none :: _ => M.bind (evs cal es σ) fun ds => M.pure (.ob c ds)
        | _ => M.bad
      | .xc c p _ => fun S => .exc c p S
      | _ => M.bad
end
/-- the defs' meaning, calls in calls so deep at most -/
example (cal : Nat → List D → M D) (i : Nat) (σ : Env) : ev cal (.var i) σ = M.opt (slotOf σ i) := rfl
def sem (ds : List Def) : Nat → Nat → List D → M D
  | 0, _, _ => M.bad
  | k + 1, f, as => match ds[f]? with
    | some d => runDef (sem ds k) d as
    | none => M.bad
end Lk
end
section
/-! E1: what the evaluator's values and store are in the model, and runs. -/
set_option Elab.async false
set_option linter.all false
set_option maxRecDepth 100000
set_option maxHeartbeats 2000000
namespace Lk
open PySem PySem.Spec PyProof.Rows L2 SlX

/-- where the store's things stand; the lists that the values may name -/
structure Pm where
  f : Nat → Option Addr
  kn : Addr → Prop
instance : CoeFun Pm (fun _ => Nat → Option Addr) := ⟨Pm.f⟩
/-- the script: a list that nobody changes -/
def ScL (K : PySem.W.Frag) (H : Hp) (a : Addr) (xs : List V) : Prop := (∃ o, H a = some (.frz o (.lst xs))) ∨
  ∃ (o : Obj) (its : Array Value) (n : Nat), K.lookup a = some o ∧ o.cls = .type "list" ∧ o.dict = none ∧ o.data = .seq its n ∧ its.size ≤ sizeLine ∧ Vals xs its.toList
theorem ScL.sq {K : PySem.W.Frag} {H : Hp} {a : Addr} {xs : List V} (h : ScL K H a xs) : SqL K H a xs := h.imp (fun ⟨o, h⟩ => .inr ⟨o, h⟩) id
theorem ScL.mono {K : PySem.W.Frag} {H H' : Hp} {a : Addr} {xs : List V} (h : ScL K H a xs) (k : ∀ o, H a = some (.frz o (.lst xs)) → H' a = some (.frz o (.lst xs))) : ScL K H' a xs := h.imp (fun ⟨o, h⟩ => ⟨o, k o h⟩) id
section
variable (K : PySem.W.Frag) (T : Nat → Addr)
/-- apart from the store -/
def Out (ρ : Pm) (a : Addr) : Prop := ∀ n, ρ n ≠ some a
mutual
/-- a value in the model -/
inductive RD (ρ : Pm) (H : Hp) : D → V → Prop
  | non : RD ρ H .non .non
  | bl (b : Bool) : RD ρ H (.bl b) (.bl b)
  | int (i : Int) : RD ρ H (.int i) (.int i)
  | str (s : List Nat) : RD ρ H (.str s) (.str ⟨s.toArray⟩)
  | tup {a : Addr} {xs : List D} {vs : List V} : SqT K H a vs → RDs ρ H xs vs → RD ρ H (.tup xs) (.ref a)
  | fl {a : Addr} {xs : List D} {vs : List V} : H a = some (.lst vs) → Out ρ a → ρ.kn a → RDs ρ H xs vs → RD ρ H (.fl xs) (.ref a)
  | sc {a : Addr} {xs : List D} {vs : List V} : ScL K H a vs → RDs ρ H xs vs → RD ρ H (.sc xs) (.ref a)
  | ob {a dx : Addr} {c : Nat} {fs : List D} {vs : List V} : H a = some (SlO a (T c) dx (vs.map some)) → H dx = some (.xd []) → Out ρ a → Out ρ dx → ρ.kn a → ρ.kn dx → RDs ρ H fs vs → RD ρ H (.ob c fs) (.ref a)
  | ref {n : Nat} {a : Addr} : ρ n = some a → RD ρ H (.ref n) (.ref a)
inductive RDs (ρ : Pm) (H : Hp) : List D → List V → Prop
  | nil : RDs ρ H [] []
  | cons {d : D} {ds : List D} {v : V} {vs : List V} : RD ρ H d v → RDs ρ H ds vs → RDs ρ H (d :: ds) (v :: vs)
end
/-- what stands in the store -/
def RO (ρ : Pm) (H : Hp) (a : Addr) : Ob → Prop
  | .lst xs => ∃ vs, H a = some (.lst vs) ∧ RDs K T ρ H xs vs
  | _ => False
structure RS (ρ : Pm) (S : Store) (H : Hp) : Prop where
  dom : ∀ n a, ρ n = some a → n < S.next
  inj : ∀ n m a, ρ n = some a → ρ m = some a → n = m
  mu : ∀ n a, ρ n = some a → Mut (H a)
  at_ : ∀ n o, S.get n = some o → ∃ a, ρ n = some a ∧ RO K T ρ H a o
  kd : ∀ b, ρ.kn b → ∃ o, H b = some o
end
/-- a later state: the store's own things may have changed, the rest stands -/
structure Ext (ρ : Pm) (H : Hp) (ρ' : Pm) (H' : Hp) : Prop where
  le : ∀ n a, ρ n = some a → ρ' n = some a
  fr : ∀ b o, H b = some o → Out ρ b → H' b = some o
  nw : ∀ n b, ρ' n = some b → ρ n = some b ∨ H b = none
  kl : ∀ b, ρ.kn b → ρ'.kn b
  kw : ∀ b, ρ'.kn b → ρ.kn b ∨ H b = none
theorem Ext.refl {ρ : Pm} {H : Hp} : Ext ρ H ρ H := ⟨fun _ _ h => h, fun _ _ h _ => h, fun _ _ h => .inl h, fun _ h => h, fun _ h => .inl h⟩
theorem Ext.out {ρ ρ' : Pm} {H H' : Hp} (e : Ext ρ H ρ' H') {a : Addr} {o : HO} (h : H a = some o) (q : Out ρ a) : Out ρ' a := fun n z => by
  rcases e.nw n a z with z | z
  · exact q n z
  · rw [h] at z; cases z
theorem mut_some {o : Option HO} (h : Mut o) : ∃ u, o = some u := by
  cases o with
  | none => exact h.elim
  | some u => exact ⟨u, rfl⟩
section
variable {K : PySem.W.Frag} {T : Nat → Addr} {ρ ρ' ρ'' : Pm} {H H' H'' : Hp} {S S' : Store}
theorem Ext.was (e : Ext ρ H ρ' H') (m : RS K T ρ' S' H') {b : Addr} (z : H' b = none) : H b = none := by
  cases w : H b with
  | none => rfl
  | some o =>
    exfalso
    by_cases q : Out ρ b
    · rw [e.fr b o w q] at z; cases z
    · unfold Out at q
      simp only [ne_eq, Classical.not_forall, Classical.not_not] at q
      obtain ⟨k, hk⟩ := q
      obtain ⟨u, hu⟩ := mut_some (m.mu k b (e.le k b hk))
      rw [hu] at z; cases z
theorem Ext.trans (e : Ext ρ H ρ' H') (f : Ext ρ' H' ρ'' H'') (m : RS K T ρ' S' H') : Ext ρ H ρ'' H'' where
  le := fun n a h => f.le n a (e.le n a h)
  fr := fun b o h q => f.fr b o (e.fr b o h q) (e.out h q)
  nw := fun n b h => by
    rcases f.nw n b h with z | z
    · exact e.nw n b z
    · exact .inr (e.was m z)
  kl := fun b h => f.kl b (e.kl b h)
  kw := fun b h => by
    rcases f.kw b h with z | z
    · exact e.kw b z
    · exact .inr (e.was m z)
theorem rd_out {a : Addr} {u : HO} (m : RS K T ρ S H) (h : H a = some u) (n : ¬ Mut (some u)) : Out ρ a := fun k z => n (by have := m.mu k a z; rw [h] at this; exact this)
theorem rdT (m : RS K T ρ S H) (e : Ext ρ H ρ' H') {a : Addr} {vs : List V} (h : SqT K H a vs) : SqT K H' a vs := by
  unfold SqT at h ⊢
  rcases h with h | h
  · refine .inl ?_
    rcases h with h | ⟨o, h⟩
    · exact .inl (e.fr _ _ h (rd_out m h fun z => z))
    · exact .inr ⟨o, e.fr _ _ h (rd_out m h fun z => z)⟩
  · exact .inr h
mutual
theorem RD.mono (m : RS K T ρ S H) (e : Ext ρ H ρ' H') : ∀ {d : D} {v : V}, RD K T ρ H d v → RD K T ρ' H' d v
  | _, _, .non => .non
  | _, _, .bl b => .bl b
  | _, _, .int i => .int i
  | _, _, .str s => .str s
  | _, _, .tup h r => .tup (rdT m e h) (RDs.mono m e r)
  | _, _, .fl h q k r => .fl (e.fr _ _ h q) (e.out h q) (e.kl _ k) (RDs.mono m e r)
  | _, _, .sc h r => .sc (h.mono fun o h => e.fr _ _ h (rd_out m h fun z => z)) (RDs.mono m e r)
  | _, _, .ob h1 h2 q1 q2 k1 k2 r => .ob (e.fr _ _ h1 q1) (e.fr _ _ h2 q2) (e.out h1 q1) (e.out h2 q2) (e.kl _ k1) (e.kl _ k2) (RDs.mono m e r)
  | _, _, .ref h => .ref (e.le _ _ h)
theorem RDs.mono (m : RS K T ρ S H) (e : Ext ρ H ρ' H') : ∀ {ds : List D} {vs : List V}, RDs K T ρ H ds vs → RDs K T ρ' H' ds vs
  | _, _, .nil => .nil
  | _, _, .cons r t => .cons (RD.mono m e r) (RDs.mono m e t)
end
theorem RDs.length : ∀ {ds : List D} {vs : List V}, RDs K T ρ H ds vs → ds.length = vs.length
  | _, _, .nil => rfl
  | _, _, .cons _ t => by simp [RDs.length t]
theorem RDs.get : ∀ {ds : List D} {vs : List V} {i : Nat} {d : D}, RDs K T ρ H ds vs → ds[i]? = some d → ∃ v, vs[i]? = some v ∧ RD K T ρ H d v
  | _, _, _, _, .nil, h => by simp at h
  | _, _, 0, _, .cons r _, h => by simp at h; subst h; exact ⟨_, rfl, r⟩
  | _, _, i + 1, d, .cons _ t, h => by
    obtain ⟨v, h1, h2⟩ := RDs.get (i := i) (d := d) t (by simpa using h)
    exact ⟨v, by simpa using h1, h2⟩
theorem RDs.append : ∀ {ds es : List D} {vs ws : List V}, RDs K T ρ H ds vs → RDs K T ρ H es ws → RDs K T ρ H (ds ++ es) (vs ++ ws)
  | _, _, _, _, .nil, s => s
  | _, _, _, _, .cons r t, s => .cons r (RDs.append t s)
theorem RDs.set {d : D} {v : V} (r : RD K T ρ H d v) : ∀ {ds : List D} {vs : List V} (i : Nat), RDs K T ρ H ds vs → RDs K T ρ H (ds.set i d) (vs.set i v)
  | _, _, _, .nil => .nil
  | _, _, 0, .cons _ t => .cons r t
  | _, _, i + 1, .cons q t => .cons q (RDs.set r i t)
theorem RDs.take : ∀ {ds : List D} {vs : List V} (n : Nat), RDs K T ρ H ds vs → RDs K T ρ H (ds.take n) (vs.take n)
  | _, _, 0, _ => .nil
  | _, _, _ + 1, .nil => .nil
  | _, _, n + 1, .cons r t => .cons r (RDs.take n t)
theorem RDs.drop : ∀ {ds : List D} {vs : List V} (n : Nat), RDs K T ρ H ds vs → RDs K T ρ H (ds.drop n) (vs.drop n)
  | _, _, 0, r => r
  | _, _, _ + 1, .nil => .nil
  | _, _, n + 1, .cons _ t => RDs.drop n t
theorem RO.mono (m : RS K T ρ S H) (e : Ext ρ H ρ' H') {a : Addr} {o : Ob} (h : RO K T ρ H a o) (s : H' a = H a) : RO K T ρ' H' a o := by
  cases o with
  | lst xs =>
    obtain ⟨vs, h1, h2⟩ := h
    exact ⟨vs, s.trans h1, h2.mono m e⟩
  | dic _ => exact h.elim
  | ins _ _ => exact h.elim

/-! ### new things -/
theorem ext_new {p : Addr} {o : HO} (hp : H p = none) : Ext ρ H ρ (upd H p o) where
  le := fun _ _ h => h
  fr := fun b u h _ => by rw [upd_ne (ne_of_none h hp)]; exact h
  nw := fun _ _ h => .inl h
  kl := fun _ h => h
  kw := fun _ h => .inl h
theorem RS.out_new (m : RS K T ρ S H) {p : Addr} (hp : H p = none) : Out ρ p := fun n z => by
  obtain ⟨u, hu⟩ := mut_some (m.mu n p z)
  rw [hp] at hu; cases hu
/-- a new thing that the store does not know -/
theorem RS.new (m : RS K T ρ S H) {p : Addr} {o : HO} (hp : H p = none) : RS K T ρ S (upd H p o) where
  dom := m.dom
  inj := m.inj
  mu := fun n a h => by
    have ne : a ≠ p := fun z => m.out_new hp n (by rw [← z]; exact h)
    rw [upd_ne ne]; exact m.mu n a h
  at_ := fun n o' h => by
    obtain ⟨a, h1, h2⟩ := m.at_ n o' h
    exact ⟨a, h1, h2.mono m (ext_new hp) (upd_ne fun z => m.out_new hp n (by rw [← z]; exact h1))⟩
  kd := fun b h => by
    obtain ⟨u, hu⟩ := m.kd b h
    exact ⟨u, by rw [upd_ne (ne_of_none hu hp)]; exact hu⟩
/-- one more list that the values may name -/
def Pm.know (ρ : Pm) (p : Addr) : Pm := ⟨ρ.f, fun b => ρ.kn b ∨ b = p⟩
mutual
theorem RD.know (p : Addr) : ∀ {d : D} {v : V}, RD K T ρ H d v → RD K T (ρ.know p) H d v
  | _, _, .non => .non
  | _, _, .bl b => .bl b
  | _, _, .int i => .int i
  | _, _, .str s => .str s
  | _, _, .tup h r => .tup h (RDs.know p r)
  | _, _, .fl h q k r => .fl h q (.inl k) (RDs.know p r)
  | _, _, .sc h r => .sc h (RDs.know p r)
  | _, _, .ob h1 h2 q1 q2 k1 k2 r => .ob h1 h2 q1 q2 (.inl k1) (.inl k2) (RDs.know p r)
  | _, _, .ref h => .ref h
theorem RDs.know (p : Addr) : ∀ {ds : List D} {vs : List V}, RDs K T ρ H ds vs → RDs K T (ρ.know p) H ds vs
  | _, _, .nil => .nil
  | _, _, .cons r t => .cons (RD.know p r) (RDs.know p t)
end
theorem RS.know (m : RS K T ρ S H) {p : Addr} {o : HO} (hp : H p = some o) : RS K T (ρ.know p) S H where
  dom := m.dom
  inj := m.inj
  mu := m.mu
  at_ := fun n o h => by
    obtain ⟨a, h1, h2⟩ := m.at_ n o h
    refine ⟨a, h1, ?_⟩
    cases o with
    | lst xs =>
      obtain ⟨vs, h3, h4⟩ := h2
      exact ⟨vs, h3, h4.know p⟩
    | dic _ => exact h2.elim
    | ins _ _ => exact h2.elim
  kd := fun b h => by
    rcases h with h | h
    · exact m.kd b h
    · rw [h]; exact ⟨o, hp⟩
theorem Ext.know {p : Addr} (e : Ext ρ H ρ' H') (hp : H p = none) : Ext ρ H (ρ'.know p) H' := ⟨e.le, e.fr, e.nw, fun b h => .inl (e.kl b h), fun b h => by
  rcases h with h | h
  · exact e.kw b h
  · rw [h]; exact .inr hp⟩
/-- a new list that nothing changes -/
theorem new_fl (m : RS K T ρ S H) {p : Addr} (hp : H p = none) {ds : List D} {vs : List V} (r : RDs K T ρ H ds vs) : Ext ρ H (ρ.know p) (upd H p (.lst vs)) ∧ RS K T (ρ.know p) S (upd H p (.lst vs)) ∧ RD K T (ρ.know p) (upd H p (.lst vs)) (.fl ds) (.ref p) :=
  ⟨(ext_new hp).know hp, (m.new hp).know upd_same, .fl upd_same (m.out_new hp) (.inr rfl) ((r.mono m (ext_new hp)).know p)⟩
theorem RD.new_tup (m : RS K T ρ S H) {p : Addr} (hp : H p = none) {ds : List D} {vs : List V} (r : RDs K T ρ H ds vs) : RD K T ρ (upd H p (.tup vs)) (.tup ds) (.ref p) :=
  .tup (.inl (.inl upd_same)) (r.mono m (ext_new hp))
/-- the store's list is stored into -/
theorem ext_put {n : Nat} {a : Addr} {o : HO} (h : ρ n = some a) : Ext ρ H ρ (upd H a o) where
  le := fun _ _ h => h
  fr := fun b u hb q => by
    have ne : b ≠ a := fun z => q n (by rw [z]; exact h)
    rw [upd_ne ne]; exact hb
  nw := fun _ _ h => .inl h
  kl := fun _ h => h
  kw := fun _ h => .inl h
theorem RS.put (m : RS K T ρ S H) {n : Nat} {a : Addr} {o : HO} {ob : Ob} (h : ρ n = some a) (mu : Mut (some o)) (r : RO K T ρ (upd H a o) a ob) : RS K T ρ (S.put n ob) (upd H a o) where
  dom := m.dom
  inj := m.inj
  mu := fun k b hb => by
    by_cases e : b = a
    · rw [e, upd_same]; exact mu
    · rw [upd_ne e]; exact m.mu k b hb
  at_ := fun k o' hk => by
    rw [Store.get_put] at hk
    by_cases e : k = n
    · rw [if_pos e] at hk
      cases hk
      exact ⟨a, e ▸ h, r⟩
    · rw [if_neg e] at hk
      obtain ⟨b, h1, h2⟩ := m.at_ k o' hk
      exact ⟨b, h1, h2.mono m (ext_put h) (upd_ne fun z => e (m.inj k n a (by rw [← z]; exact h1) h))⟩
  kd := fun b hb => by
    by_cases e : b = a
    · exact ⟨o, by rw [e, upd_same]⟩
    · obtain ⟨u, hu⟩ := m.kd b hb
      exact ⟨u, by rw [upd_ne e]; exact hu⟩
/-- a list that no value names comes into the store -/
def put1 (ρ : Pm) (n : Nat) (a : Addr) : Pm := ⟨fun k => if k = n then some a else ρ k, ρ.kn⟩
section
variable {p : Addr} {n : Nat} {vs : List V}
mutual
theorem RD.put1 (hp : H p = some (.lst vs)) (hk : ¬ ρ.kn p) (hn : ∀ a, ρ n ≠ some a) : ∀ {d : D} {v : V}, RD K T ρ H d v → RD K T (put1 ρ n p) H d v
  | _, _, .non => .non
  | _, _, .bl b => .bl b
  | _, _, .int i => .int i
  | _, _, .str s => .str s
  | _, _, .tup h r => .tup h (RDs.put1 hp hk hn r)
  | _, _, .fl h q k r => .fl h (fun j z => by
      unfold Lk.put1 at z
      simp only at z
      split at z
      · cases z; exact hk k
      · exact q j z) k (RDs.put1 hp hk hn r)
  | _, _, .sc h r => .sc h (RDs.put1 hp hk hn r)
  | _, _, .ob h1 h2 q1 q2 k1 k2 r => .ob h1 h2 (fun j z => by
      unfold Lk.put1 at z
      simp only at z
      split at z
      · cases z; rw [h1] at hp; unfold SlO at hp; cases hp
      · exact q1 j z) (fun j z => by
      unfold Lk.put1 at z
      simp only at z
      split at z
      · cases z; rw [h2] at hp; cases hp
      · exact q2 j z) k1 k2 (RDs.put1 hp hk hn r)
  | _, _, .ref (n := j) h => .ref (by
      unfold Lk.put1
      simp only
      split
      · rename_i e; rw [e] at h; exact absurd h (hn _)
      · exact h)
theorem RDs.put1 (hp : H p = some (.lst vs)) (hk : ¬ ρ.kn p) (hn : ∀ a, ρ n ≠ some a) : ∀ {ds : List D} {ws : List V}, RDs K T ρ H ds ws → RDs K T (put1 ρ n p) H ds ws
  | _, _, .nil => .nil
  | _, _, .cons r t => .cons (RD.put1 hp hk hn r) (RDs.put1 hp hk hn t)
end
end
theorem RS.adopt (m : RS K T ρ S H) {p : Addr} {xs : List D} {vs : List V} (hp : H p = some (.lst vs)) (op : Out ρ p) (hk : ¬ ρ.kn p) (r : RDs K T ρ H xs vs) : RS K T (put1 ρ S.next p) (S.new (.lst xs)) H := by
  have nn : ∀ k b, ρ k = some b → k ≠ S.next := fun k b hk z => absurd (m.dom k b hk) (by omega)
  have hn : ∀ a, ρ S.next ≠ some a := fun a z => nn _ _ z rfl
  refine ⟨fun k b hk => ?_, fun k j b hk hj => ?_, fun k b hk => ?_, fun k o hk' => ?_, m.kd⟩
  · simp only [put1] at hk
    split at hk
    · rename_i z; rw [z]; exact Nat.lt_succ_self _
    · exact Nat.lt_succ_of_lt (m.dom k b hk)
  · simp only [put1] at hk hj
    split at hk
    · rename_i z
      cases hk
      split at hj
      · rename_i z'; rw [z, z']
      · exact absurd hj (op j)
    · split at hj
      · cases hj; exact absurd hk (op k)
      · exact m.inj k j b hk hj
  · simp only [put1] at hk
    split at hk
    · cases hk; rw [hp]; trivial
    · exact m.mu k b hk
  · rw [Store.get_new] at hk'
    by_cases z : k = S.next
    · rw [if_pos z] at hk'
      cases hk'
      exact ⟨p, by simp only [put1]; rw [if_pos z], vs, hp, r.put1 hp hk hn⟩
    · rw [if_neg z] at hk'
      obtain ⟨b, h1, h2⟩ := m.at_ k o hk'
      refine ⟨b, by simp only [put1]; rw [if_neg z]; exact h1, ?_⟩
      cases o with
      | lst ys =>
        obtain ⟨ws, h3, h4⟩ := h2
        exact ⟨ws, h3, h4.put1 hp hk hn⟩
      | dic _ => exact h2.elim
      | ins _ _ => exact h2.elim
theorem Ext.adopt {p : Addr} {n : Nat} (e : Ext ρ H ρ' H') (hp : H p = none) (hn : ∀ a, ρ' n ≠ some a) : Ext ρ H (put1 ρ' n p) H' := ⟨fun k a h => by
  have h1 := e.le k a h
  simp only [put1]
  split
  · rename_i z; rw [z] at h1; exact absurd h1 (hn a)
  · exact h1, e.fr, fun k b h => by
  simp only [put1] at h
  split at h
  · cases h; exact .inr hp
  · exact e.nw k b h, e.kl, e.kw⟩

/-! ### environments -/
/-- the object that an __init__ is making -/
structure Slf where
  x : Addr
  dx : Addr
  C : Addr
/-- in an __init__ the first slot stands for it as long as the evaluator has nothing there -/
def SelfR (Y : Option Slf) (σ : Env) (σV : L2.St) : Prop := ∀ y, Y = some y → σ[0]? = some none → σV[0]? = some (some (.ref y.x))
def EnvR (K : PySem.W.Frag) (T : Nat → Addr) (Y : Option Slf) (ρ : Pm) (H : Hp) (σ : Env) (σV : L2.St) : Prop := σV.length = σ.length ∧ SelfR Y σ σV ∧ ∀ (i : Nat) (d : D), i < σV.length → σ[i]? = some (some d) → ∃ v, σV[i]? = some (some v) ∧ RD K T ρ H d v
variable {Y : Option Slf}
theorem EnvR.mono (m : RS K T ρ S H) (e : Ext ρ H ρ' H') {σ : Env} {σV : L2.St} (h : EnvR K T Y ρ H σ σV) : EnvR K T Y ρ' H' σ σV :=
  ⟨h.1, h.2.1, fun i d l q => let ⟨v, h1, h2⟩ := h.2.2 i d l q; ⟨v, h1, h2.mono m e⟩⟩
theorem EnvR.set {σ : Env} {σV : L2.St} {d : D} {v : V} (h : EnvR K T Y ρ H σ σV) (i : Nat) (hi : i < σV.length) (r : RD K T ρ H d v) : EnvR K T Y ρ H (σ.set i (some d)) (σV.set i (some v)) := by
  refine ⟨by simp [h.1], ?_, fun j e l q => ?_⟩
  · intro y hy q
    cases i with
    | zero =>
      rw [List.getElem?_set_self (Nat.lt_of_lt_of_le hi (Nat.le_of_eq h.1))] at q
      cases q
    | succ i =>
      rw [List.getElem?_set_ne (by omega)] at q ⊢
      exact h.2.1 y hy q
  · rw [List.length_set] at l
    by_cases z : i = j
    · subst z
      rw [List.getElem?_set_self (Nat.lt_of_lt_of_le hi (Nat.le_of_eq h.1))] at q
      cases q
      exact ⟨v, by rw [List.getElem?_set_self hi], r⟩
    · rw [List.getElem?_set_ne z] at q ⊢
      exact h.2.2 j e l q
theorem EnvR.wipe1 {σ : Env} {σV : L2.St} (h : EnvR K T Y ρ H σ σV) (i : Nat) (hi : i < σV.length) (hz : Y = none ∨ i ≠ 0) : EnvR K T Y ρ H (σ.set i none) (σV.set i none) := by
  refine ⟨by simp [h.1], ?_, fun j e l q => ?_⟩
  · intro y hy q
    rcases hz with hz | hz
    · rw [hz] at hy; cases hy
    · rw [List.getElem?_set_ne hz] at q ⊢
      exact h.2.1 y hy q
  · rw [List.length_set] at l
    by_cases z : i = j
    · subst z
      rw [List.getElem?_set_self (Nat.lt_of_lt_of_le hi (Nat.le_of_eq h.1))] at q
      cases q
    · rw [List.getElem?_set_ne z] at q ⊢
      exact h.2.2 j e l q
theorem EnvR.wipe {σ : Env} {σV : L2.St} (h : EnvR K T Y ρ H σ σV) : ∀ vs : List Nat, (∀ v ∈ vs, v < σV.length) → (Y = none ∨ ∀ v ∈ vs, v ≠ 0) → EnvR K T Y ρ H (wipeE σ vs) (L2.wipe σV vs)
  | [], _, _ => h
  | v :: vs, hv, hz => by
    have ih := EnvR.wipe h vs (fun w hw => hv w (by simp [hw])) (hz.imp id fun q w hw => q w (by simp [hw]))
    exact ih.wipe1 v (by rw [L2.wipe_length]; exact hv v (by simp)) (hz.imp id fun q => q v (by simp))

/-! ### runs -/
/-- an error: its class at A c; its fields: none, or one -/
structure Xs where
  adr : Nat → Addr
  fld : Nat → Option Str
def XR (K : PySem.W.Frag) (T : Nat → Addr) (Z : Xs) (ρ : Pm) (H : Hp) (c : Nat) (p : List D) (cls : Value) (d : Option Addr) : Prop :=
  cls = .ref (Z.adr c) ∧ match Z.fld c, p with
    | none, [] => d = none
    | some f, [x] => ∃ a v, d = some a ∧ H a = some (.xd [(f, v)]) ∧ RD K T ρ H x v
    | _, _ => False
end
section
variable {K : PySem.W.Frag} {T : Nat → Addr} {Z : Xs}
/-- what is wanted of an error: class, dict, heap -/
def Run {α β : Type} (K : PySem.W.Frag) (T : Nat → Addr) (Z : Xs) (rel : Pm → Hp → α → β → Prop) (W : XK) (ρ : Pm) (H : Hp) (r : Res α) (Q : β → Hp → Prop) : Prop := match r with
  | .ok a S => ∀ ρ' H' v, Ext ρ H ρ' H' → RS K T ρ' S H' → rel ρ' H' a v → Q v H'
  | .exc c p S => ∀ ρ' H' cls d, Ext ρ H ρ' H' → RS K T ρ' S H' → XR K T Z ρ' H' c p cls d → W cls d H'
  | .bad => False
theorem Run.shift {α β : Type} {rel : Pm → Hp → α → β → Prop} {W : XK} {ρ ρ1 : Pm} {H H1 : Hp} {S1 : Store} {r : Res α} {Q : β → Hp → Prop} (e1 : Ext ρ H ρ1 H1) (m1 : RS K T ρ1 S1 H1) (h : Run K T Z rel W ρ H r Q) : Run K T Z rel W ρ1 H1 r Q := by
  cases r with
  | bad => exact h
  | exc c p S2 => exact fun ρ2 H2 cls d e2 m2 x => h ρ2 H2 cls d (e1.trans e2 m1) m2 x
  | ok b S2 => exact fun ρ2 H2 v e2 m2 x => h ρ2 H2 v (e1.trans e2 m1) m2 x
theorem Run.bind {α β γ δ : Type} {rA : Pm → Hp → α → γ → Prop} {rB : Pm → Hp → β → δ → Prop} {W : XK} {ρ : Pm} {H : Hp} {m : M α} {k : α → M β} {S : Store} {Q : δ → Hp → Prop} (h : Run K T Z rB W ρ H (M.bind m k S) Q) :
    Run K T Z rA W ρ H (m S) fun v H1 => ∃ ρ1 a S1, m S = .ok a S1 ∧ Ext ρ H ρ1 H1 ∧ RS K T ρ1 S1 H1 ∧ rA ρ1 H1 a v ∧ Run K T Z rB W ρ1 H1 (k a S1) Q := by
  unfold M.bind at h
  cases e : m S with
  | bad => rw [e] at h; exact h
  | exc c p S' => rw [e] at h; exact h
  | ok a S1 =>
    rw [e] at h
    have h' : Run K T Z rB W ρ H (k a S1) Q := h
    exact fun ρ1 H1 v e1 m1 r1 => ⟨ρ1, a, S1, rfl, e1, m1, r1, h'.shift e1 m1⟩
theorem Run.mono {α β : Type} {rel : Pm → Hp → α → β → Prop} {W : XK} {ρ : Pm} {H : Hp} {r : Res α} {Q Q' : β → Hp → Prop} (h : Run K T Z rel W ρ H r Q) (i : ∀ v H, Q v H → Q' v H) : Run K T Z rel W ρ H r Q' := by
  unfold Run at h ⊢
  cases r with
  | bad => exact h
  | exc c p S => exact h
  | ok a S => exact fun ρ' H' v e m r => i _ _ (h ρ' H' v e m r)
/-- a value that is there -/
theorem Run.opt {α β : Type} {rel : Pm → Hp → α → β → Prop} {W : XK} {ρ : Pm} {H : Hp} {o : Option α} {S : Store} {Q : β → Hp → Prop} (h : Run K T Z rel W ρ H (M.opt o S) Q) : ∃ a, o = some a ∧ Run K T Z rel W ρ H (.ok a S) Q := by
  cases o with
  | none => exact h.elim
  | some a => exact ⟨a, rfl, h⟩
end
end Lk
end
section
/-! E2: the evaluator's expressions are the model's. -/
set_option Elab.async false
set_option linter.all false
set_option maxRecDepth 100000
set_option maxHeartbeats 2000000
namespace Lk
open PySem PySem.Spec PyProof.Rows L2 SlX

theorem PEw {X : Cx} {e : Expr} {t t' : TE} (h : PE X e t) (i : ∀ σ H Q, t' σ H Q → t σ H Q) : PE X e t' := ⟨fun pins s σ H Q I q => h.run pins s σ H Q I (i σ H Q q)⟩
theorem PEl {X : Cx} {e : Expr} {t t' : TE} (h : PE X e t) (i : ∀ σ H Q, σ.length = X.N.length → t' σ H Q → t σ H Q) : PE X e t' := ⟨fun pins s σ H Q I q => h.run pins s σ H Q I (i σ H Q I.len q)⟩
theorem PSl {X : Cx} {e : Stmt} {t t' : TS} (h : PS X e t) (i : ∀ D σ H, σ.length = X.N.length → t' D σ H → t D σ H) : PS X e t' := ⟨fun pins s σ H D I q => h.run pins s σ H D I (i D σ H I.len q)⟩
theorem ix_lt {N : List Str} {i : Nat} {x : Str} (h : N[i]? = some x) : i < N.length := (List.getElem?_eq_some_iff.mp h).1
theorem PTw {X : Cx} {e : Expr} {t t' : TT} (h : PT X e t) (i : ∀ σ H Q, t' σ H Q → t σ H Q) : PT X e t' := ⟨fun pins s σ H Q I q => h.run pins s σ H Q I (i σ H Q q)⟩
theorem PWw {X : Cx} {e : Expr} {t t' : TT} (h : PW X e t) (i : ∀ σ H Q, t' σ H Q → t σ H Q) : PW X e t' := ⟨fun wh pins s σ H Q I q => h.run wh pins s σ H Q I (i σ H Q q)⟩
theorem PAw {X : Cx} {es : List Expr} {t t' : TA} (h : PA X es t) (i : ∀ σ H Q, t' σ H Q → t σ H Q) : PA X es t' := ⟨fun pos pins s σ H Q I q => h.run pos pins s σ H Q I (i σ H Q q)⟩
theorem PSw {X : Cx} {e : Stmt} {t t' : TS} (h : PS X e t) (i : ∀ D σ H, t' D σ H → t D σ H) : PS X e t' := ⟨fun pins s σ H D I q => h.run pins s σ H D I (i D σ H q)⟩
theorem PSsw {X : Cx} {e : List Stmt} {t t' : TS} (h : PSs X e t) (i : ∀ D σ H, t' D σ H → t D σ H) : PSs X e t' := ⟨fun pins s σ H D I q => h.run pins s σ H D I (i D σ H q)⟩

/-- what is fixed through a law: the classes, the errors, the defs' meaning -/
structure Fx where
  T : Nat → Addr
  Z : Xs
  cal : Nat → List D → M D
  Y : Option Slf := none
section
variable (X : Cx) (F : Fx) (W : WX)
/-- a run from here, of any kind -/
def Go {α β : Type} (rel : Pm → Hp → α → β → Prop) (m : Env → M α) (σV : L2.St) (H : Hp) (Q : β → Hp → Prop) : Prop :=
  ∃ ρ σ S, RS X.K F.T ρ S H ∧ EnvR X.K F.T F.Y ρ H σ σV ∧ Run X.K F.T F.Z rel (fun c d H => W c d σV H) ρ H (m σ S) Q
abbrev rdR : Pm → Hp → D → V → Prop := RD X.K F.T
def tE (x : XE) : TE := fun σV H Q => Go X F W (rdR X F) (ev F.cal x) σV H Q
def tT (x : XE) : TT := fun σV H Q => Go X F W (fun _ _ (a b : Bool) => a = b) (tst F.cal x) σV H Q
def tAs (x : XEs) : TA := fun σV H Q => Go X F W (RDs X.K F.T) (evs F.cal x) σV H Q
end
section
variable {X : Cx} {F : Fx} {W : WX}
theorem Go.bind {α β γ δ : Type} {rA : Pm → Hp → α → γ → Prop} {rB : Pm → Hp → β → δ → Prop} {m : Env → M α} {k : Env → α → M β} {σV : L2.St} {H : Hp} {Q : δ → Hp → Prop} (h : Go X F W rB (fun σ => M.bind (m σ) (k σ)) σV H Q) :
    Go X F W rA m σV H fun v H1 => ∃ ρ σ a S S0, m σ S0 = .ok a S ∧ RS X.K F.T ρ S H1 ∧ EnvR X.K F.T F.Y ρ H1 σ σV ∧ rA ρ H1 a v ∧ Run X.K F.T F.Z rB (fun c d H => W c d σV H) ρ H1 (k σ a S) Q := by
  obtain ⟨ρ, σ, S, m0, e0, r0⟩ := h
  refine ⟨ρ, σ, S, m0, e0, ?_⟩
  refine Run.mono (Run.bind (rA := rA) r0) ?_
  rintro v H1 ⟨ρ1, a, S1, o1, e1, m1, r1, q⟩
  exact ⟨ρ1, σ, a, S1, S, o1, m1, e0.mono m0 e1, r1, q⟩
theorem Go.mono {α β : Type} {rel : Pm → Hp → α → β → Prop} {m : Env → M α} {σV : L2.St} {H : Hp} {Q Q' : β → Hp → Prop} (h : Go X F W rel m σV H Q) (i : ∀ v H, Q v H → Q' v H) : Go X F W rel m σV H Q' := by
  obtain ⟨ρ, σ, S, m0, e0, r0⟩ := h
  exact ⟨ρ, σ, S, m0, e0, r0.mono i⟩
/-- two in a row -/
theorem Go.bind2 {β δ : Type} {rB : Pm → Hp → β → δ → Prop} {a b : XE} {k : Env → D → D → M β} {σV : L2.St} {H : Hp} {Q : δ → Hp → Prop} (h : Go X F W rB (fun σ => M.bind (ev F.cal a σ) fun x => M.bind (ev F.cal b σ) fun y => k σ x y) σV H Q) :
    tE X F W a σV H fun v H1 => tE X F W b σV H1 fun w H2 => ∃ ρ σ x y S, RS X.K F.T ρ S H2 ∧ EnvR X.K F.T F.Y ρ H2 σ σV ∧ RD X.K F.T ρ H2 x v ∧ RD X.K F.T ρ H2 y w ∧ Run X.K F.T F.Z rB (fun c d H => W c d σV H) ρ H2 (k σ x y S) Q := by
  obtain ⟨ρ, σ, S, m0, e0, r0⟩ := Go.bind (rA := rdR X F) h
  refine ⟨ρ, σ, S, m0, e0, Run.mono r0 ?_⟩
  rintro v H1 ⟨ρ1, σ1, x, S1, _, _, m1, e1, r1, q1⟩
  refine ⟨ρ1, σ1, S1, m1, e1, Run.mono (Run.bind (rA := rdR X F) q1) ?_⟩
  rintro w H2 ⟨ρ2, y, S2, _, x2, m2, r2, q2⟩
  exact ⟨ρ2, σ1, x, y, S2, m2, e1.mono m1 x2, r1.mono m1 x2, r2, q2⟩

/-! ### names, constants -/
theorem sE_var {i : Nat} {x : Str} {pos : Pos} (hN : X.N[i]? = some x) (hv : Vis X.env.scope x) (hd : (x == ("__debug__" : Str)) = false) (hcd : (x == ("__classdict__" : Str)) = false) : PE X (.Name x pos) (tE X F W (.var i)) := by
  refine PEl (pe_var hN hv hd hcd) fun σ H Q hl h => ?_
  have hl : i < σ.length := by rw [hl]; exact ix_lt hN
  obtain ⟨ρ, s, S, m, e, r⟩ := h
  obtain ⟨d, hd, r⟩ := Run.opt (o := slotOf s i) r
  have hs := slotOf_some hd
  obtain ⟨v, hv, rv⟩ := e.2.2 i d hl hs
  exact ⟨v, hv, r ρ H v .refl m rv⟩
theorem Run.here {α β : Type} {rel : Pm → Hp → α → β → Prop} {K : PySem.W.Frag} {T : Nat → Addr} {Z : Xs} {W : XK} {ρ : Pm} {H : Hp} {S : Store} {a : α} {v : β} {Q : β → Hp → Prop} (m : RS K T ρ S H) (h : Run K T Z rel W ρ H (.ok a S) Q) (r : rel ρ H a v) : Q v H := h ρ H v .refl m r
theorem sE_int {i : Int} {j : Nat} {pos : Pos} : PE X (.Constant (.int i) j pos) (tE X F W (.con (.int i))) := PEw pe_int fun σ H Q h => by
  obtain ⟨ρ, s, S, m, e, r⟩ := h
  exact Run.here (a := D.int i) m r (RD.int i)
theorem sE_bl {b : Bool} {j : Nat} {pos : Pos} : PE X (.Constant (.bool b) j pos) (tE X F W (.con (.bl b))) := PEw pe_bl fun σ H Q h => by
  obtain ⟨ρ, s, S, m, e, r⟩ := h
  exact Run.here (a := D.bl b) m r (RD.bl b)
theorem sE_non {j : Nat} {pos : Pos} : PE X (.Constant .none j pos) (tE X F W (.con .non)) := PEw pe_non fun σ H Q h => by
  obtain ⟨ρ, s, S, m, e, r⟩ := h
  exact Run.here (a := D.non) m r RD.non
theorem sE_str {x : Str} {j : Nat} {pos : Pos} : PE X (.Constant (.str x) j pos) (tE X F W (.con (.str x.cps.toList))) := PEw pe_str fun σ H Q h => by
  obtain ⟨ρ, s, S, m, e, r⟩ := h
  exact Run.here (a := D.str x.cps.toList) m r (by have := RD.str (K := X.K) (T := F.T) (ρ := ρ) (H := H) x.cps.toList; simpa using this)

/-! ### argument lists, displays -/
def XEs.len : XEs → Nat
  | .nil => 0
  | .cons _ r => r.len + 1
theorem evs_len {cal : Nat → List D → M D} : ∀ {xs : XEs} {σ : Env} {S S' : Store} {ds : List D}, evs cal xs σ S = .ok ds S' → ds.length = xs.len
  | .nil, σ, S, S', ds, h => by
    have h : Res.ok [] S = .ok ds S' := h
    cases h; rfl
  | .cons e r, σ, S, S', ds, h => by
    have h : M.bind (ev cal e σ) (fun x => M.bind (evs cal r σ) fun xs => M.pure (x :: xs)) S = .ok ds S' := h
    unfold M.bind at h
    cases e1 : ev cal e σ S with
    | bad => rw [e1] at h; cases h
    | exc _ _ _ => rw [e1] at h; cases h
    | ok x S1 =>
      rw [e1] at h
      simp only at h
      cases e2 : evs cal r σ S1 with
      | bad => rw [e2] at h; cases h
      | exc _ _ _ => rw [e2] at h; cases h
      | ok xs S2 =>
        rw [e2] at h
        have h : Res.ok (x :: xs) S2 = .ok ds S' := h
        cases h
        rw [List.length_cons, evs_len e2]; rfl
theorem sA_nil : PA X [] (tAs X F W .nil) := PAw pa_nil fun σ H Q h => by
  obtain ⟨ρ, s, S, m, e, r⟩ := h
  exact Run.here (a := []) m r RDs.nil
theorem sA_cons {e : Expr} {es : List Expr} {x : XE} {xs : XEs} (he : PE X e (tE X F W x)) (hr : PA X es (tAs X F W xs)) (hs : starEach (e :: es) X.env = (false, eval e X.env) :: starEach es X.env) : PA X (e :: es) (tAs X F W (.cons x xs)) := by
  refine PAw (pa_cons he hr hs) fun σ H Q h => ?_
  obtain ⟨ρ, s, S, m, e, r⟩ := Go.bind (rA := rdR X F) h
  refine ⟨ρ, s, S, m, e, r.mono ?_⟩
  rintro v H1 ⟨ρ1, s1, a, S1, _, _, m1, e1, r1, q1⟩
  refine ⟨ρ1, s1, S1, m1, e1, (Run.bind (rA := RDs X.K F.T) q1).mono ?_⟩
  rintro vs H2 ⟨ρ2, as, S2, _, x2, m2, r2, q2⟩
  exact Run.here (a := a :: as) m2 q2 (RDs.cons (r1.mono m1 x2) r2)
theorem le_size {n : Nat} (h : n ≤ 1000000) : n ≤ sizeLine := by rw [sizeLine_eq]; omega
theorem sE_tup {es : List Expr} {k : Nat} {pos : Pos} {xs : XEs} (h : PA X es (tAs X F W xs)) (hl : xs.len ≤ 1000000) : PE X (.Tuple es k pos) (tE X F W (.tup xs)) := by
  refine PEw (pe_tup h) fun σ H Q q => ?_
  obtain ⟨ρ, s, S, m, e, r⟩ := Go.bind (rA := RDs X.K F.T) q
  refine ⟨ρ, s, S, m, e, r.mono ?_⟩
  rintro vs H1 ⟨ρ1, s1, ds, S1, S0, o1, m1, e1, r1, q1⟩
  refine ⟨le_size (by rw [← r1.length, evs_len o1]; exact hl), fun p hp => ?_⟩
  exact q1 ρ1 _ (.ref p) (ext_new hp) (m1.new hp) (RD.new_tup m1 hp r1)

/-- a run to a list that is new, and that no value names -/
def RunF (K : PySem.W.Frag) (T : Nat → Addr) (Z : Xs) (W : XK) (ρ : Pm) (H : Hp) (r : Res (List D)) (Q : VK) : Prop := match r with
  | .ok xs S => ∀ ρ' H' p vs, Ext ρ H ρ' H' → RS K T ρ' S H' → RDs K T ρ' H' xs vs → H' p = some (.lst vs) → Out ρ' p → ¬ ρ'.kn p → H p = none → Q (.ref p) H'
  | .exc c p S => ∀ ρ' H' cls d, Ext ρ H ρ' H' → RS K T ρ' S H' → XR K T Z ρ' H' c p cls d → W cls d H'
  | .bad => False
def tF (X : Cx) (F : Fx) (W : WX) (m : Env → M (List D)) : TE := fun σV H Q => ∃ ρ σ S, RS X.K F.T ρ S H ∧ EnvR X.K F.T F.Y ρ H σ σV ∧ RunF X.K F.T F.Z (fun c d H => W c d σV H) ρ H (m σ S) Q
/-- .. laid just now -/
theorem RunF.laid {K : PySem.W.Frag} {T : Nat → Addr} {Z : Xs} {W : XK} {ρ : Pm} {H : Hp} {xs : List D} {S : Store} {Q : VK} (h : RunF K T Z W ρ H (.ok xs S) Q) {ρ' : Pm} {H' : Hp} {p : Addr} {vs : List V} (e : Ext ρ H ρ' H') (m : RS K T ρ' S H') (r : RDs K T ρ' H' xs vs) (hp : H' p = none) : Q (.ref p) (upd H' p (.lst vs)) := by
  have nk : ¬ ρ'.kn p := fun k => by
    obtain ⟨u, hu⟩ := m.kd p k
    rw [hp] at hu; cases hu
  exact h ρ' _ p vs (e.trans (ext_new hp) m) (m.new hp) (r.mono m (ext_new hp)) upd_same (m.out_new hp) nk (e.was m hp)
/-- a new list that nothing changes -/
theorem fl_of {m : Env → M (List D)} {x : XE} (hx : ∀ σ, ev F.cal x σ = M.bind (m σ) fun ds => M.pure (.fl ds)) {σV : L2.St} {H : Hp} {Q : VK} (q : tE X F W x σV H Q) : tF X F W m σV H Q := by
  obtain ⟨ρ, σ, S, m0, e0, r⟩ := q
  refine ⟨ρ, σ, S, m0, e0, ?_⟩
  rw [hx] at r
  unfold M.bind at r
  unfold RunF
  cases z : m σ S with
  | bad => rw [z] at r; exact r
  | exc c p S1 => rw [z] at r; exact r
  | ok xs S1 =>
    rw [z] at r
    exact fun ρ' H' p vs e1 m1 r1 hp o k hn => r (ρ'.know p) H' (.ref p) (e1.know hn) (m1.know hp) (.fl hp o (.inr rfl) (r1.know p))
/-- a new list that comes into the store -/
theorem mat_of {m : Env → M (List D)} {x : XE} (hx : ∀ σ, ev F.cal x σ = M.bind (m σ) fun ds => M.pure (.fl ds)) {σV : L2.St} {H : Hp} {Q : VK} (q : tE X F W (.mat x) σV H Q) : tF X F W m σV H Q := by
  obtain ⟨ρ, σ, S, m0, e0, r⟩ := q
  refine ⟨ρ, σ, S, m0, e0, ?_⟩
  have r : Run X.K F.T F.Z (rdR X F) (fun c d H => W c d σV H) ρ H (M.bind (ev F.cal x σ) (fun x => fun S => match x with
    | .fl xs => .ok (.ref S.next) (S.new (.lst xs))
    | _ => .bad) S) Q := r
  rw [hx] at r
  unfold M.bind at r
  unfold RunF
  cases z : m σ S with
  | bad => rw [z] at r; exact r
  | exc c p S1 => rw [z] at r; exact r
  | ok xs S1 =>
    rw [z] at r
    intro ρ' H' p vs e1 m1 r1 hp o k hn
    have nn : ∀ a, ρ' S1.next ≠ some a := fun a z => absurd (m1.dom _ _ z) (by omega)
    exact r (put1 ρ' S1.next p) H' (.ref p) (e1.adopt hn nn) (m1.adopt hp o k r1) (.ref (by simp [put1]))
theorem fresh_fl {m : Env → M (List D)} {e : Expr} (h : PE X e (tF X F W m)) {x : XE} (hx : ∀ σ, ev F.cal x σ = M.bind (m σ) fun ds => M.pure (.fl ds)) : PE X e (tE X F W x) := PEw h fun _ _ _ q => fl_of hx q
theorem fresh_mat {m : Env → M (List D)} {e : Expr} (h : PE X e (tF X F W m)) {x : XE} (hx : ∀ σ, ev F.cal x σ = M.bind (m σ) fun ds => M.pure (.fl ds)) : PE X e (tE X F W (.mat x)) := PEw h fun _ _ _ q => mat_of hx q
theorem sF_lst {es : List Expr} {pos : Pos} {xs : XEs} (h : PA X es (tAs X F W xs)) (hl : xs.len ≤ 1000000) : PE X (.List es pos) (tF X F W (evs F.cal xs)) := by
  refine PEw (pe_lst h) fun σ H Q q => ?_
  obtain ⟨ρ, s, S, m, e, r⟩ := q
  refine ⟨ρ, s, S, m, e, ?_⟩
  unfold Run
  cases z : evs F.cal xs s S with
  | bad => rw [z] at r; exact r
  | exc c p S1 => rw [z] at r; exact r
  | ok ds S1 =>
    rw [z] at r
    exact fun ρ' H' vs e1 m1 r1 => ⟨le_size (by rw [← r1.length, evs_len z]; exact hl), fun p hp => r.laid e1 m1 r1 hp⟩
theorem sE_lst {es : List Expr} {pos : Pos} {xs : XEs} (h : PA X es (tAs X F W xs)) (hl : xs.len ≤ 1000000) : PE X (.List es pos) (tE X F W (.lst xs)) := fresh_fl (sF_lst h hl) fun _ => rfl
theorem sE_mlst {es : List Expr} {pos : Pos} {xs : XEs} (h : PA X es (tAs X F W xs)) (hl : xs.len ≤ 1000000) : PE X (.List es pos) (tE X F W (.mat (.lst xs))) := fresh_mat (sF_lst h hl) fun _ => rfl

/-! ### operators -/
/-- an operator on values of the evaluator, by cases -/
def BinR (X : Cx) (F : Fx) (o : Bop) : R2 := fun v w H Q => ∃ ρ x y S z, RS X.K F.T ρ S H ∧ RD X.K F.T ρ H x v ∧ RD X.K F.T ρ H y w ∧ binD S o x y = some z ∧ ∀ ρ' H' u, Ext ρ H ρ' H' → RS X.K F.T ρ' S H' → RD X.K F.T ρ' H' z u → Q u H'
theorem OpRw {X : Cx} {f : Value → Value → Sem Value} {r r' : R2} (h : OpR X f r) (i : ∀ x y H Q, r' x y H Q → r x y H Q) : OpR X f r' := fun pins s σ H x y v u Q I rx ry q => h pins s σ H x y v u Q I rx ry (i _ _ _ _ q)
theorem sE_bin {op : Operator} {o : Bop} {a b : Expr} {x y : XE} {pos : Pos} (ho : OpR X (binaryOp op) (BinR X F o)) (ha : PE X a (tE X F W x)) (hb : PE X b (tE X F W y)) : PE X (.BinOp a op b pos) (tE X F W (.bin o x y)) := by
  refine PEw (pe_op ho ha hb) fun σ H Q q => ?_
  refine Go.mono (Go.bind2 q) fun v H1 q1 => Go.mono q1 fun w H2 q2 => ?_
  obtain ⟨ρ, s, x, y, S, m, e, r1, r2, r⟩ := q2
  obtain ⟨z, hz, r⟩ := Run.opt (o := binD S o x y) r
  exact ⟨ρ, x, y, S, z, m, r1, r2, hz, r⟩
end
end Lk
end
section
/-! E3: operators, comparisons, subscripts, built-ins of the evaluator in the model. -/
set_option Elab.async false
set_option linter.all false
set_option maxRecDepth 100000
set_option maxHeartbeats 2000000
namespace Lk
open PySem PySem.Spec PyProof.Rows L2 SlX

theorem ite_some {α : Type} {c : Prop} [Decidable c] {a b : α} (h : (if c then some a else none) = some b) : c ∧ a = b := by
  split at h
  · exact ⟨by assumption, Option.some.inj h⟩
  · cases h
theorem map_some {α β : Type} {f : α → β} {o : Option α} {b : β} (h : o.map f = some b) : ∃ a, o = some a ∧ f a = b := by
  cases o with
  | none => cases h
  | some a => exact ⟨a, rfl, Option.some.inj h⟩
theorem bind_some {α β : Type} {f : α → Option β} {o : Option α} {b : β} (h : o.bind f = some b) : ∃ a, o = some a ∧ f a = some b := by
  cases o with
  | none => cases h
  | some a => exact ⟨a, rfl, h⟩

theorem binD_add {S : Store} {x y z : D} (h : binD S .add x y = some z) : (∃ i j, x = .int i ∧ y = .int j ∧ z = .int (i + j)) ∨ (∃ a b, x = .str a ∧ y = .str b ∧ a.length + b.length ≤ sizeMax ∧ z = .str (a ++ b)) ∨
    (∃ a b, x = .tup a ∧ y = .tup b ∧ a.length + b.length ≤ sizeMax ∧ z = .tup (a ++ b)) ∨ ∃ a b, listOf S x = some a ∧ listOf S y = some b ∧ a.length + b.length ≤ sizeMax ∧ z = .fl (a ++ b) := by
  unfold binD at h
  split at h
  · obtain ⟨k, h1, h2⟩ := map_some h
    cases h1
    exact .inl ⟨_, _, rfl, rfl, h2.symm⟩
  · obtain ⟨h1, h2⟩ := ite_some h
    exact .inr (.inl ⟨_, _, rfl, rfl, h1, h2.symm⟩)
  · obtain ⟨h1, h2⟩ := ite_some h
    exact .inr (.inr (.inl ⟨_, _, rfl, rfl, h1, h2.symm⟩))
  · rename_i e; cases e
  · rename_i e; cases e
  · split at h
    · rename_i a b ha hb
      obtain ⟨h1, h2⟩ := ite_some h
      exact .inr (.inr (.inr ⟨_, _, ha, hb, h1, h2.symm⟩))
    · cases h
  · rename_i e; cases e
  · cases h
theorem binD_int {S : Store} {o : Bop} {x y z : D} (ho : o = .sub ∨ o = .fdiv ∨ o = .mod ∨ o = .pow) (h : binD S o x y = some z) : ∃ i j k, x = .int i ∧ y = .int j ∧ intBin o i j = some k ∧ z = .int k := by
  unfold binD at h
  split at h
  · obtain ⟨k, h1, h2⟩ := map_some h
    exact ⟨_, _, k, rfl, rfl, h1, h2.symm⟩
  all_goals first
    | (cases h; done)
    | (exfalso; rcases ho with ho | ho | ho | ho <;> cases ho; done)
theorem binD_mul {S : Store} {x y z : D} (h : binD S .mul x y = some z) : (∃ i j k, x = .int i ∧ y = .int j ∧ intBin .mul i j = some k ∧ z = .int k) ∨ (∃ a i, x = .tup a ∧ y = .int i ∧ (0 ≤ i ∧ i < 2 ^ 62 ∧ a.length * i.toNat ≤ sizeMax) ∧ z = .tup (List.replicate i.toNat a).flatten) ∨
    (∃ a i, x = .str a ∧ y = .int i ∧ (0 ≤ i ∧ i < 2 ^ 62 ∧ a.length * i.toNat ≤ sizeMax) ∧ z = .str (List.replicate i.toNat a).flatten) ∨ ∃ a i, x = .fl a ∧ y = .int i ∧ (0 ≤ i ∧ i < 2 ^ 62 ∧ a.length * i.toNat ≤ sizeMax) ∧ z = .fl (List.replicate i.toNat a).flatten := by
  unfold binD at h
  split at h
  · obtain ⟨k, h1, h2⟩ := map_some h
    exact .inl ⟨_, _, k, rfl, rfl, h1, h2.symm⟩
  · rename_i e; cases e
  · rename_i e; cases e
  · obtain ⟨h1, h2⟩ := ite_some h
    exact .inr (.inl ⟨_, _, rfl, rfl, h1, h2.symm⟩)
  · obtain ⟨h1, h2⟩ := ite_some h
    exact .inr (.inr (.inl ⟨_, _, rfl, rfl, h1, h2.symm⟩))
  · exfalso; simp_all
  · obtain ⟨h1, h2⟩ := ite_some h
    exact .inr (.inr (.inr ⟨_, _, rfl, rfl, h1, h2.symm⟩))
  · cases h
section
variable {X : Cx} {F : Fx} {W : WX} {K : PySem.W.Frag} {T : Nat → Addr} {ρ : Pm} {H : Hp} {S : Store}
theorem RD.int_inv {i : Int} {v : V} (h : RD K T ρ H (.int i) v) : v = .int i := by cases h; rfl
theorem RD.str_inv {s : List Nat} {v : V} (h : RD K T ρ H (.str s) v) : v = .str ⟨s.toArray⟩ := by cases h; rfl
theorem RD.bl_inv {b : Bool} {v : V} (h : RD K T ρ H (.bl b) v) : v = .bl b := by cases h; rfl
theorem RD.tup_inv {xs : List D} {v : V} (h : RD K T ρ H (.tup xs) v) : ∃ a vs, v = .ref a ∧ SqT K H a vs ∧ RDs K T ρ H xs vs := by cases h with | tup h r => exact ⟨_, _, rfl, h, r⟩
/-- a list in the model -/
theorem listOf_inv (m : RS K T ρ S H) {d : D} {xs : List D} {v : V} (e : listOf S d = some xs) (h : RD K T ρ H d v) : ∃ a vs, v = .ref a ∧ H a = some (.lst vs) ∧ RDs K T ρ H xs vs := by
  unfold listOf at e
  split at e
  · cases e
    cases h with | fl h q k r => exact ⟨_, _, rfl, h, r⟩
  · split at e
    · rename_i n _ g
      cases e
      cases h with
      | ref h =>
        obtain ⟨a, h1, vs, h2, h3⟩ := m.at_ _ _ g
        rw [h] at h1
        cases h1
        exact ⟨_, vs, rfl, h2, h3⟩
    · cases e
  · cases e
/-- a list or a tuple in the model -/
theorem itemsOf_inv (m : RS K T ρ S H) {d : D} {xs : List D} {v : V} (e : itemsOf S d = some xs) (h : RD K T ρ H d v) : ∃ a vs, v = .ref a ∧ (SqL K H a vs ∨ SqT K H a vs) ∧ RDs K T ρ H xs vs := by
  unfold itemsOf at e
  split at e
  · cases e
    obtain ⟨a, vs, e1, h1, r⟩ := h.tup_inv
    exact ⟨a, vs, e1, .inr h1, r⟩
  · cases e
    cases h with | fl h q k r => exact ⟨_, _, rfl, .inl (.inl (.inl h)), r⟩
  · cases e
    cases h with | sc h r => exact ⟨_, _, rfl, .inl h.sq, r⟩
  · split at e
    · rename_i n _ g
      cases e
      cases h with
      | ref h =>
        obtain ⟨a, h1, vs, h2, h3⟩ := m.at_ _ _ g
        rw [h] at h1
        cases h1
        exact ⟨_, vs, rfl, .inl (.inl (.inl h2)), h3⟩
    · cases e
  · cases e
theorem seqOf_inv (m : RS K T ρ S H) {d : D} {xs : List D} {v : V} (e : seqOf S d = some xs) (h : RD K T ρ H d v) : ∃ a vs, v = .ref a ∧ SqL K H a vs ∧ RDs K T ρ H xs vs := by
  cases d with
  | tup _ => cases e
  | fl ys =>
    cases e
    cases h with | fl h q k r => exact ⟨_, _, rfl, .inl (.inl h), r⟩
  | sc ys =>
    cases e
    cases h with | sc h r => exact ⟨_, _, rfl, h.sq, r⟩
  | ref n =>
    obtain ⟨a, vs, e1, h1, r⟩ := listOf_inv m (show listOf S (.ref n) = some xs from e) h
    exact ⟨a, vs, e1, .inl (.inl h1), r⟩
  | _ => cases e
theorem sizeMax_le {n : Nat} (h : n ≤ sizeMax) : n ≤ sizeLine := le_size h
theorem str_app (a b : List Nat) : (⟨a.toArray⟩ ++ ⟨b.toArray⟩ : Str) = ⟨(a ++ b).toArray⟩ := by
  show Str.append _ _ = _
  unfold Str.append
  simp
theorem op_addE : OpR X (binaryOp .Add) (BinR X F .add) := by
  refine OpRw (op_add.or (op_add_str.or (op_catA.or op_cat))) fun v w H Q h => ?_
  obtain ⟨ρ, x, y, S, z, m, rx, ry, e, q⟩ := h
  rcases binD_add e with ⟨i, j, rfl, rfl, rfl⟩ | ⟨a, b, rfl, rfl, hl, rfl⟩ | ⟨a, b, rfl, rfl, hl, rfl⟩ | ⟨a, b, ha, hb, hl, rfl⟩
  · exact .inl ⟨i, j, rx.int_inv, ry.int_inv, q ρ H _ .refl m (.int _)⟩
  · refine .inr (.inl ⟨_, _, rx.str_inv, ry.str_inv, sizeMax_le (by simpa [Str.length] using hl), ?_⟩)
    rw [str_app]
    exact q ρ H _ .refl m (.str _)
  · obtain ⟨a1, vs, rfl, h1, r1⟩ := rx.tup_inv
    obtain ⟨b1, ws, rfl, h2, r2⟩ := ry.tup_inv
    refine .inr (.inr (.inl ⟨a1, b1, vs, ws, rfl, rfl, h1, h2, sizeMax_le (by rw [← r1.length, ← r2.length]; exact hl), fun z => ?_, fun _ z => ?_, fun _ _ p hp => ?_⟩))
    · subst z
      cases r1
      exact q ρ H _ .refl m (by simpa using ry)
    · subst z
      cases r2
      exact q ρ H _ .refl m (by simpa using rx)
    · exact q ρ _ _ (ext_new hp) (m.new hp) (RD.new_tup m hp (r1.append r2))
  · obtain ⟨a1, vs, rfl, h1, r1⟩ := listOf_inv m ha rx
    obtain ⟨b1, ws, rfl, h2, r2⟩ := listOf_inv m hb ry
    exact .inr (.inr (.inr ⟨a1, b1, vs, ws, rfl, rfl, h1, h2, sizeMax_le (by rw [← r1.length, ← r2.length]; exact hl), fun p hp => have n := new_fl m hp (r1.append r2); q _ _ _ n.1 n.2.1 n.2.2⟩))
theorem op_subE : OpR X (binaryOp .Sub) (BinR X F .sub) := by
  refine OpRw op_sub fun v w H Q h => ?_
  obtain ⟨ρ, x, y, S, z, m, rx, ry, e, q⟩ := h
  obtain ⟨i, j, k, rfl, rfl, hk, rfl⟩ := binD_int (.inl rfl) e
  cases hk
  exact ⟨i, j, rx.int_inv, ry.int_inv, q ρ H _ .refl m (.int _)⟩
theorem op_fdivE : OpR X (binaryOp .FloorDiv) (BinR X F .fdiv) := by
  refine OpRw op_fdivW fun v w H Q h => ?_
  obtain ⟨ρ, x, y, S, z, m, rx, ry, e, q⟩ := h
  obtain ⟨i, j, k, rfl, rfl, hk, rfl⟩ := binD_int (.inr (.inl rfl)) e
  obtain ⟨h1, rfl⟩ := ite_some hk
  exact ⟨i, j, rx.int_inv, ry.int_inv, h1, q ρ H _ .refl m (.int _)⟩
theorem op_modE : OpR X (binaryOp .Mod) (BinR X F .mod) := by
  refine OpRw op_modN fun v w H Q h => ?_
  obtain ⟨ρ, x, y, S, z, m, rx, ry, e, q⟩ := h
  obtain ⟨i, j, k, rfl, rfl, hk, rfl⟩ := binD_int (.inr (.inr (.inl rfl))) e
  obtain ⟨h1, rfl⟩ := ite_some hk
  exact ⟨i, j, rx.int_inv, ry.int_inv, h1, q ρ H _ .refl m (.int _)⟩
theorem op_powE : OpR X (binaryOp .Pow) (BinR X F .pow) := by
  refine OpRw op_pow fun v w H Q h => ?_
  obtain ⟨ρ, x, y, S, z, m, rx, ry, e, q⟩ := h
  obtain ⟨i, j, k, rfl, rfl, hk, rfl⟩ := binD_int (.inr (.inr (.inr rfl))) e
  obtain ⟨h1, rfl⟩ := ite_some hk
  exact ⟨i, j, rx.int_inv, ry.int_inv, h1, q ρ H _ .refl m (.int _)⟩
/-! ### data -/
theorem allSome_len {α β : Type} {f : α → Option β} : ∀ {xs : List α} {ys : List β}, allSome f xs = some ys → xs.length = ys.length
  | [], _, h => by cases h; rfl
  | x :: xs, ys, h => by
    unfold allSome at h
    split at h
    · cases h
    · split at h
      · cases h
      · rename_i e; cases h; simp [allSome_len e]
/-- the model's data of a value -/
def pdL (f : D → PyData) : List D → List PyData
  | [] => []
  | x :: xs => f x :: pdL f xs
mutual
def pd : D → PyData
  | .non => .none
  | .bl b => .bool b
  | .int i => .int i
  | .str s => .str ⟨s.toArray⟩
  | .tup xs => .tuple (pds xs)
  | .fl xs => .list (pds xs)
  | _ => .none
def pds : List D → List PyData
  | [] => []
  | x :: xs => pd x :: pds xs
end
/-- plain data, so deep at most -/
def plain : Nat → D → Bool
  | 0, _ => false
  | n + 1, d => match d with
    | .non => true
    | .bl _ => true
    | .int _ => true
    | .str s => s.all (· < 1114112)
    | .tup xs => xs.all (plain n)
    | .fl xs => xs.all (plain n)
    | _ => false
theorem rsv_all {S : Store} {n : Nat} (ih : ∀ d e, rsv S n d = some e → plain n e = true) : ∀ {xs ys : List D}, allSome (rsv S n) xs = some ys → ys.all (plain n) = true
  | [], _, h => by cases h; rfl
  | x :: xs, ys, h => by
    unfold allSome at h
    split at h
    · cases h
    · rename_i y e
      split at h
      · cases h
      · rename_i zs e2
        cases h
        simp only [List.all_cons, Bool.and_eq_true]
        exact ⟨ih _ _ e, rsv_all ih e2⟩
theorem rsv_plain {S : Store} : ∀ (n : Nat) (d e : D), rsv S n d = some e → plain n e = true
  | 0, _, _, h => by cases h
  | n + 1, d, e, h => by
    unfold rsv at h
    split at h
    · cases h; rfl
    · cases h; rfl
    · cases h; rfl
    · obtain ⟨h1, h2⟩ := ite_some h
      subst h2
      exact h1
    · obtain ⟨ys, h1, h2⟩ := map_some h
      subst h2
      exact rsv_all (rsv_plain n) h1
    · obtain ⟨ys, h1, h2⟩ := map_some h
      subst h2
      exact rsv_all (rsv_plain n) h1
    · split at h
      · obtain ⟨ys, h1, h2⟩ := map_some h
        subst h2
        exact rsv_all (rsv_plain n) h1
      · cases h
    · cases h
theorem dp_all (m : RS K T ρ S H) {n : Nat} (ih : ∀ d e v, rsv S n d = some e → RD K T ρ H d v → Dp K H v (pd e)) : ∀ {xs ys : List D} {vs : List V}, allSome (rsv S n) xs = some ys → RDs K T ρ H xs vs → DpAll K H vs (pds ys)
  | [], _, _, h, r => by cases h; cases r; exact .nil
  | x :: xs, ys, vs, h, r => by
    unfold allSome at h
    split at h
    · cases h
    · rename_i y e
      split at h
      · cases h
      · rename_i zs e2
        cases h
        cases r with
        | cons r1 r2 => exact .cons (ih _ _ _ e r1) (dp_all m ih e2 r2)
theorem rsv_dp (m : RS K T ρ S H) : ∀ (n : Nat) (d e : D) (v : V), rsv S n d = some e → RD K T ρ H d v → Dp K H v (pd e)
  | 0, _, _, _, h, _ => by cases h
  | n + 1, d, e, v, h, r => by
    unfold rsv at h
    split at h
    · cases h; cases r; exact .non
    · cases h; cases r; exact .bl _
    · cases h; cases r; exact .int _
    · obtain ⟨_, h2⟩ := ite_some h
      subst h2
      cases r; exact .str _
    · obtain ⟨ys, h1, h2⟩ := map_some h
      subst h2
      cases r with | tup q r => exact .tup q (dp_all m (rsv_dp m n) h1 r)
    · obtain ⟨ys, h1, h2⟩ := map_some h
      subst h2
      cases r with | fl q o k r => exact .lst (.inl (.inl q)) (dp_all m (rsv_dp m n) h1 r)
    · split at h
      · rename_i g
        obtain ⟨ys, h1, h2⟩ := map_some h
        subst h2
        cases r with
        | ref q =>
          obtain ⟨a, z1, vs, z2, z3⟩ := m.at_ _ _ g
          rw [q] at z1
          cases z1
          exact .lst (.inl (.inl z2)) (dp_all m (rsv_dp m n) h1 z3)
      · cases h
    · cases h
mutual
theorem eqD_pd : ∀ (n : Nat) (x y : D), plain n x = true → plain n y = true → eqD x y = PyData.eqv (pd x) (pd y)
  | 0, _, _, h, _ => by cases h
  | n + 1, x, y, hx, hy => by
    cases x <;> cases y <;> first
      | (cases hx; done)
      | (cases hy; done)
      | (simp [eqD, pd, PyData.eqv]; done)
      | (simp only [eqD, pd, PyData.eqv]; exact eqDs_pd n _ _ hx hy)
      | (rename_i a b; simp only [eqD, pd, PyData.eqv]; rw [Bool.eq_iff_iff]; simp)
theorem eqDs_pd : ∀ (n : Nat) (xs ys : List D), xs.all (plain n) = true → ys.all (plain n) = true → eqDs xs ys = PyData.eqvAll (pds xs) (pds ys)
  | n, [], [], _, _ => by simp [eqDs, pds, PyData.eqvAll]
  | n, [], _ :: _, _, _ => by simp [eqDs, pds, PyData.eqvAll]
  | n, _ :: _, [], _, _ => by simp [eqDs, pds, PyData.eqvAll]
  | n, x :: xs, y :: ys, hx, hy => by
    simp only [List.all_cons, Bool.and_eq_true] at hx hy
    simp only [eqDs, pds, PyData.eqvAll]
    rw [eqD_pd n x y hx.1 hy.1, eqDs_pd n xs ys hx.2 hy.2]
end
theorem plain_lays {n : Nat} (ih : ∀ x : D, plain n x = true → (pd x).canLay0 = true ∧ (pd x).depth ≤ n) : ∀ (xs : List D), xs.all (plain n) = true → PyData.canLayAll0 (pds xs) = true ∧ PyData.depthAll (pds xs) ≤ n
  | [], _ => ⟨rfl, Nat.zero_le _⟩
  | x :: xs, h => by
    simp only [List.all_cons, Bool.and_eq_true] at h
    have h1 := ih x h.1
    have h2 := plain_lays ih xs h.2
    refine ⟨?_, ?_⟩
    · simp only [pds, PyData.canLayAll0, Bool.and_eq_true]
      exact ⟨h1.1, h2.1⟩
    · simp only [pds, PyData.depthAll]
      omega
theorem plain_lay : ∀ (n : Nat) (x : D), plain n x = true → (pd x).canLay0 = true ∧ (pd x).depth ≤ n
  | 0, _, h => by cases h
  | n + 1, x, h => by
    cases x with
    | non => exact ⟨rfl, Nat.zero_le _⟩
    | bl b => exact ⟨rfl, Nat.zero_le _⟩
    | int b => exact ⟨rfl, Nat.zero_le _⟩
    | str b =>
      refine ⟨?_, Nat.zero_le _⟩
      show PyData.strOk ⟨b.toArray⟩ = true
      unfold PyData.strOk
      have h : b.all (· < 1114112) = true := h
      rw [← h]
      simp
    | tup xs =>
      have := plain_lays (plain_lay n) xs h
      refine ⟨?_, ?_⟩
      · simp only [pd, PyData.canLay0]; exact this.1
      · simp only [pd, PyData.depth]; exact Nat.succ_le_succ this.2
    | fl xs =>
      have := plain_lays (plain_lay n) xs h
      refine ⟨?_, ?_⟩
      · simp only [pd, PyData.canLay0]; exact this.1
      · simp only [pd, PyData.depth]; exact Nat.succ_le_succ this.2
    | _ => cases h
theorem rsv_shaped {d e : D} (h : rsv S 60 d = some e) : SeqAt.shaped (pd e) = true := by
  have := plain_lay 60 e (rsv_plain 60 d e h)
  unfold SeqAt.shaped
  rw [Bool.and_eq_true]
  exact ⟨this.1, decide_eq_true (by omega)⟩
/-- a comparison of the evaluator's -/
def CmpR (X : Cx) (F : Fx) (o : Cop) : R2 := fun v w H Q => ∃ ρ x y S b, RS X.K F.T ρ S H ∧ RD X.K F.T ρ H x v ∧ RD X.K F.T ρ H y w ∧ cmpD S o x y = some b ∧ Q (.bl b) H
theorem eqS_inv (m : RS K T ρ S H) {x y : D} {v w : V} {b : Bool} (h : eqS S x y = some b) (rx : RD K T ρ H x v) (ry : RD K T ρ H y w) :
    ∃ d e, Dp K H v d ∧ Dp K H w e ∧ SeqAt.shaped d = true ∧ SeqAt.shaped e = true ∧ PyData.eqv d e = b := by
  unfold eqS at h
  split at h
  · cases h
  · rename_i x' hx
    split at h
    · cases h
    · rename_i y' hy
      cases h
      exact ⟨pd x', pd y', rsv_dp m 60 _ _ _ hx rx, rsv_dp m 60 _ _ _ hy ry, rsv_shaped hx, rsv_shaped hy, (eqD_pd 60 _ _ (rsv_plain _ _ _ hx) (rsv_plain _ _ _ hy)).symm⟩
theorem op_eqE (hu : X.A.units + 64 < cLine) : OpR X (compareOp .Eq) (CmpR X F .eq) := by
  refine OpRw (op_eqD hu) fun v w H Q h => ?_
  obtain ⟨ρ, x, y, S, b, m, rx, ry, e, q⟩ := h
  obtain ⟨d, e', h1, h2, h3, h4, h5⟩ := eqS_inv m e rx ry
  exact ⟨d, e', h1, h2, h3, h4, by rw [h5]; exact q⟩
theorem op_neE (hu : X.A.units + 64 < cLine) : OpR X (compareOp .NotEq) (CmpR X F .ne) := by
  refine OpRw (op_neD hu) fun v w H Q h => ?_
  obtain ⟨ρ, x, y, S, b, m, rx, ry, e, q⟩ := h
  obtain ⟨k, hk, rfl⟩ := map_some e
  obtain ⟨d, e', h1, h2, h3, h4, h5⟩ := eqS_inv m hk rx ry
  exact ⟨d, e', h1, h2, h3, h4, by rw [h5]; exact q⟩
theorem cmpD_int {o : Cop} {x y : D} {b : Bool} (ho : o = .lt ∨ o = .le ∨ o = .gt ∨ o = .ge) (h : cmpD S o x y = some b) : ∃ i j, x = .int i ∧ y = .int j ∧ cmpI o i j = some b := by
  unfold cmpD at h
  split at h
  all_goals first
    | (exfalso; rcases ho with ho | ho | ho | ho <;> cases ho; done)
    | exact ⟨_, _, rfl, rfl, h⟩
    | cases h
theorem op_ltE : OpR X (compareOp .Lt) (CmpR X F .lt) := by
  refine OpRw op_lt fun v w H Q h => ?_
  obtain ⟨ρ, x, y, S, b, m, rx, ry, e, q⟩ := h
  obtain ⟨i, j, rfl, rfl, e⟩ := cmpD_int (.inl rfl) e
  cases e
  exact ⟨i, j, rx.int_inv, ry.int_inv, q⟩
theorem op_leE : OpR X (compareOp .LtE) (CmpR X F .le) := by
  refine OpRw op_le fun v w H Q h => ?_
  obtain ⟨ρ, x, y, S, b, m, rx, ry, e, q⟩ := h
  obtain ⟨i, j, rfl, rfl, e⟩ := cmpD_int (.inr (.inl rfl)) e
  cases e
  exact ⟨i, j, rx.int_inv, ry.int_inv, q⟩
theorem op_gtE : OpR X (compareOp .Gt) (CmpR X F .gt) := by
  refine OpRw op_gt fun v w H Q h => ?_
  obtain ⟨ρ, x, y, S, b, m, rx, ry, e, q⟩ := h
  obtain ⟨i, j, rfl, rfl, e⟩ := cmpD_int (.inr (.inr (.inl rfl))) e
  cases e
  exact ⟨i, j, rx.int_inv, ry.int_inv, q⟩
theorem op_geE : OpR X (compareOp .GtE) (CmpR X F .ge) := by
  refine OpRw op_ge fun v w H Q h => ?_
  obtain ⟨ρ, x, y, S, b, m, rx, ry, e, q⟩ := h
  obtain ⟨i, j, rfl, rfl, e⟩ := cmpD_int (.inr (.inr (.inr rfl))) e
  cases e
  exact ⟨i, j, rx.int_inv, ry.int_inv, q⟩
end
end Lk
end
section
/-! E4: in, comparisons, truth, and | or | not, the conditional expression. -/
set_option Elab.async false
set_option linter.all false
set_option maxRecDepth 100000
set_option maxHeartbeats 2000000
namespace Lk
open PySem PySem.Spec PyProof.Rows L2 SlX
section
variable {X : Cx} {F : Fx} {W : WX} {K : PySem.W.Frag} {T : Nat → Addr} {ρ : Pm} {H : Hp} {S : Store}
theorem allSome_any : ∀ {xs ys : List D} {x : D} (n : Nat), (∀ d e, rsv S n d = some e → plain n e = true) → plain n x = true → allSome (rsv S n) xs = some ys → (ys.any fun y => eqD y x) = ((pds ys).any fun z => PyData.eqv z (pd x))
  | [], ys, x, n, _, _, h => by cases h; rfl
  | d :: xs, ys, x, n, ih, hx, h => by
    unfold allSome at h
    split at h
    · cases h
    · rename_i y e
      split at h
      · cases h
      · rename_i zs e2
        cases h
        simp only [List.any_cons, pds]
        rw [allSome_any n ih hx e2, eqD_pd n y x (ih _ _ e) hx]
theorem pds_shaped {n : Nat} (hn : n ≤ 63) {ys : List D} (h : ys.all (plain n) = true) : SeqAt.shaped (.list (pds ys)) = true ∧ SeqAt.shaped (.tuple (pds ys)) = true := by
  have := plain_lays (plain_lay n) ys h
  constructor
  · unfold SeqAt.shaped
    rw [Bool.and_eq_true]
    refine ⟨by simp only [PyData.canLay0]; exact this.1, decide_eq_true ?_⟩
    simp only [PyData.depth]; omega
  · unfold SeqAt.shaped
    rw [Bool.and_eq_true]
    refine ⟨by simp only [PyData.canLay0]; exact this.1, decide_eq_true ?_⟩
    simp only [PyData.depth]; omega
def rInT (K : PySem.W.Frag) : R2 := fun x y H Q => ∃ d ds, Dp K H x d ∧ Dp K H y (.tuple ds) ∧ SeqAt.shaped d = true ∧ SeqAt.shaped (.tuple ds) = true ∧ Q (.bl (ds.any fun z => PyData.eqv z d)) H
def rNotInT (K : PySem.W.Frag) : R2 := fun x y H Q => ∃ d ds, Dp K H x d ∧ Dp K H y (.tuple ds) ∧ SeqAt.shaped d = true ∧ SeqAt.shaped (.tuple ds) = true ∧ Q (.bl (!ds.any fun z => PyData.eqv z d)) H
theorem op_inT (hu : X.A.units + 65 < cLine) : OpR X (compareOp .In) (rInT X.K) := by
  intro pins s σ H x y v u Q I rx ry h
  obtain ⟨d, ds, hd, he, sd, se, q⟩ := h
  obtain ⟨as, r1⟩ := Dp.reads I d x v hd rx
  obtain ⟨bs, r2⟩ := Dp.reads I (.tuple ds) y u he ry
  exact SeqAt.in_tuple_reads r2 r1 (SeqAt.canLay_of_shaped se) (SeqAt.canLay_of_shaped sd) (room_in_shaped sd hu) ⟨.bl _, H, I, rfl, q⟩
theorem op_notInT (hu : X.A.units + 65 < cLine) : OpR X (compareOp .NotIn) (rNotInT X.K) := by
  intro pins s σ H x y v u Q I rx ry h
  obtain ⟨d, ds, hd, he, sd, se, q⟩ := h
  obtain ⟨as, r1⟩ := Dp.reads I d x v hd rx
  obtain ⟨bs, r2⟩ := Dp.reads I (.tuple ds) y u he ry
  exact SeqAt.notIn_tuple_reads r2 r1 (SeqAt.canLay_of_shaped se) (SeqAt.canLay_of_shaped sd) (room_in_shaped sd hu) ⟨.bl _, H, I, rfl, q⟩
theorem inD_inv (m : RS K T ρ S H) {x y : D} {v w : V} {b : Bool} (h : inD S x y = some b) (rx : RD K T ρ H x v) (ry : RD K T ρ H y w) :
    (∃ (c : Nat) (z : Str), v = .str ⟨#[c]⟩ ∧ w = .str z ∧ decide (c ∈ z.cps.toList) = b) ∨ ∃ d ds, Dp K H v d ∧ (Dp K H w (.list ds) ∨ Dp K H w (.tuple ds)) ∧ SeqAt.shaped d = true ∧ SeqAt.shaped (.list ds) = true ∧ SeqAt.shaped (.tuple ds) = true ∧ (ds.any fun z => PyData.eqv z d) = b := by
  unfold inD at h
  split at h
  · split at h
    · cases h
      exact .inl ⟨_, _, rx.str_inv, ry.str_inv, by simp⟩
    · cases h
  · split at h
    · rename_i ys hy
      unfold memD at h
      split at h
      · cases h
      · rename_i x' hx
        split at h
        · cases h
        · rename_i zs hz
          cases h
          have sh := pds_shaped (n := 60) (by decide) (rsv_all (rsv_plain 60) hz)
          refine .inr ⟨pd x', pds zs, rsv_dp m 60 _ _ _ hx rx, ?_, rsv_shaped hx, sh.1, sh.2, (allSome_any 60 (rsv_plain 60) (rsv_plain _ _ _ hx) hz).symm⟩
          obtain ⟨a, vs, rfl, ha, rs⟩ := itemsOf_inv m hy ry
          rcases ha with ha | ha
          · exact .inl (.lst ha (dp_all m (rsv_dp m 60) hz rs))
          · exact .inr (.tup ha (dp_all m (rsv_dp m 60) hz rs))
    · cases h
theorem op_inE (hu : X.A.units + 65 < cLine) : OpR X (compareOp .In) (CmpR X F .inn) := by
  refine OpRw (op_in_sign.or ((op_inD hu).or (op_inT hu))) fun v w H Q h => ?_
  obtain ⟨ρ, x, y, S, b, m, rx, ry, e, q⟩ := h
  rcases inD_inv m (show inD S x y = some b from e) rx ry with ⟨c, z, h1, h2, h3⟩ | ⟨d, ds, h1, h2, h3, h4, h5, h6⟩
  · exact .inl ⟨c, z, h1, h2, by rw [h3]; exact q⟩
  · rcases h2 with h2 | h2
    · exact .inr (.inl ⟨d, ds, h1, h2, h3, h4, by rw [h6]; exact q⟩)
    · exact .inr (.inr ⟨d, ds, h1, h2, h3, h5, by rw [h6]; exact q⟩)
theorem op_ninE (hu : X.A.units + 65 < cLine) : OpR X (compareOp .NotIn) (CmpR X F .nin) := by
  refine OpRw (op_notIn_sign.or ((op_notInD hu).or (op_notInT hu))) fun v w H Q h => ?_
  obtain ⟨ρ, x, y, S, b, m, rx, ry, e, q⟩ := h
  obtain ⟨k, hk, rfl⟩ := map_some (show (inD S x y).map (!·) = some b from e)
  rcases inD_inv m hk rx ry with ⟨c, z, h1, h2, h3⟩ | ⟨d, ds, h1, h2, h3, h4, h5, h6⟩
  · exact .inl ⟨c, z, h1, h2, by rw [h3]; exact q⟩
  · rcases h2 with h2 | h2
    · exact .inr (.inl ⟨d, ds, h1, h2, h3, h4, by rw [h6]; exact q⟩)
    · exact .inr (.inr ⟨d, ds, h1, h2, h3, h5, by rw [h6]; exact q⟩)

/-! ### a comparison, as a value and as a test -/
/-- a comparison's rule, of data or of an instance -/
def CmpC (X : Cx) (F : Fx) (W : XK) (o : Cop) (tb : List (Nat × Nat)) : R2 := fun v w H Q => ∃ ρ x y S, RS X.K F.T ρ S H ∧ RD X.K F.T ρ H x v ∧ RD X.K F.T ρ H y w ∧ Run X.K F.T F.Z (rdR X F) W ρ H (cmpC F.cal o tb x y S) Q
theorem cmpC_data {f : Value → Value → Sem Value} {o : Cop} {W' : XK} (h : OpR X f (CmpR X F o)) : OpR X f (CmpC X F W' o []) := OpRw h fun v w H Q q => by
  obtain ⟨ρ, x, y, S, m, rx, ry, r⟩ := q
  by_cases hx : ∃ c fs, x = .ob c fs
  · obtain ⟨c, fs, rfl⟩ := hx
    have e : cmpC F.cal o [] (.ob c fs) y S = .bad := by
      simp only [cmpC, List.lookup]
      cases okR S [] y <;> cases o <;> rfl
    rw [e] at r
    exact r.elim
  · have e : cmpC F.cal o [] x y S = M.opt ((cmpD S o x y).map .bl) S := by cases x <;> first | rfl | exact absurd ⟨_, _, rfl⟩ hx
    rw [e] at r
    obtain ⟨z, hz, r⟩ := Run.opt r
    obtain ⟨b, hb, rfl⟩ := map_some hz
    exact ⟨ρ, x, y, S, b, m, rx, ry, hb, Run.here m r (.bl b)⟩
theorem sE_cmp {op : CmpOp} {o : Cop} {tb : List (Nat × Nat)} {a b : Expr} {x y : XE} {pos : Pos} (ho : ∀ σ, OpR X (compareOp op) (CmpC X F (fun c d H => W c d σ H) o tb)) (ha : PE X a (tE X F W x)) (hb : PE X b (tE X F W y)) (hm : behindInMarks op b = false) :
    PE X (.Compare a [op] [b] pos) (tE X F W (.cmp o tb x y)) := by
  refine ⟨fun pins s σ H Q I h => ?_⟩
  refine (pe_cmpR (ho σ) ha hb hm).run pins s σ H Q I ?_
  refine Go.mono (Go.bind2 h) fun v H1 q1 => Go.mono q1 fun w H2 q2 => ?_
  obtain ⟨ρ, s, x, y, S, m, e, r1, r2, r⟩ := q2
  exact ⟨ρ, x, y, S, m, r1, r2, r⟩
/-- the truth of what comes -/
theorem tT_tE {x : XE} {σ : L2.St} {H : Hp} {Q : Bool → Hp → Prop} (h : tT X F W x σ H Q) : tE X F W x σ H fun v H1 => ∃ k, v = .bl k ∧ Q k H1 := by
  refine Go.mono (Go.bind (rA := rdR X F) h) fun v H1 q => ?_
  obtain ⟨ρ, s, a, S, S0, _, m, e, r, q⟩ := q
  obtain ⟨k, hk, q⟩ := Run.opt q
  cases a <;> cases hk
  exact ⟨k, r.bl_inv, Run.here m q rfl⟩
theorem sT_cmp {op : CmpOp} {o : Cop} {tb : List (Nat × Nat)} {a b : Expr} {x y : XE} {pos : Pos} (ho : ∀ σ, OpR X (compareOp op) (CmpC X F (fun c d H => W c d σ H) o tb)) (ha : PE X a (tE X F W x)) (hb : PE X b (tE X F W y)) (hm : behindInMarks op b = false) :
    PT X (.Compare a [op] [b] pos) (tT X F W (.cmp o tb x y)) := by
  refine ⟨fun pins s σ H Q I h => ?_⟩
  refine (pt_cmpR (ho σ) ha hb hm).run pins s σ H Q I ?_
  refine Go.mono (Go.bind2 (tT_tE h)) fun v H1 q1 => Go.mono q1 fun w H2 q2 => ?_
  obtain ⟨ρ, s, x, y, S, m, e, r1, r2, r⟩ := q2
  exact ⟨ρ, x, y, S, m, r1, r2, r⟩
/-- a plain expression as a test -/
theorem sT_val {e : Expr} {x : XE} (h : PE X e (tE X F W x)) (he : ∀ whole, isTrue e X.env whole = (do let v ← whole; standAt e.pos; holding [v] (truthy v))) : PT X e (tT X F W x) :=
  PTw (pt_val h he) fun σ H Q q => tT_tE q
theorem sE_isN {a : Expr} {x : XE} {j : Nat} {pos pos' : Pos} (ha : PE X a (tE X F W x)) : PE X (.Compare a [.Is] [.Constant .none j pos'] pos) (tE X F W (.isN x)) := by
  refine PEw (pe_cmp (pc_isN ha)) fun σ H Q q => ?_
  refine Go.mono (Go.bind (rA := rdR X F) q) fun v H1 q => ?_
  obtain ⟨ρ, s, a, S, S0, _, m, e, r, q⟩ := q
  have e : isNon a = decide (v = .non) := by
    cases r <;> simp [isNon]
  rw [← e]
  exact Run.here (a := D.bl _) m q (RD.bl _)
theorem sE_noN {a : Expr} {x : XE} {j : Nat} {pos pos' : Pos} (ha : PE X a (tE X F W x)) : PE X (.Compare a [.IsNot] [.Constant .none j pos'] pos) (tE X F W (.noN x)) := by
  refine PEw (pe_cmp (pc_notN ha)) fun σ H Q q => ?_
  refine Go.mono (Go.bind (rA := rdR X F) q) fun v H1 q => ?_
  obtain ⟨ρ, s, a, S, S0, _, m, e, r, q⟩ := q
  have e : (!isNon a) = !decide (v = .non) := by
    cases r <;> simp [isNon]
  rw [← e]
  exact Run.here (a := D.bl _) m q (RD.bl _)
theorem sT_isN {a : Expr} {x : XE} {j : Nat} {pos pos' : Pos} (ha : PE X a (tE X F W x)) : PT X (.Compare a [.Is] [.Constant .none j pos'] pos) (tT X F W (.isN x)) := by
  refine PTw (pt_cmp (pc_isN ha)) fun σ H Q q => ?_
  refine Go.mono (Go.bind (rA := rdR X F) (tT_tE q)) fun v H1 q => ?_
  obtain ⟨ρ, s, a, S, S0, _, m, e, r, q⟩ := q
  have e : isNon a = decide (v = .non) := by
    cases r <;> simp [isNon]
  rw [← e]
  exact Run.here (a := D.bl _) m q (RD.bl _)
theorem sT_noN {a : Expr} {x : XE} {j : Nat} {pos pos' : Pos} (ha : PE X a (tE X F W x)) : PT X (.Compare a [.IsNot] [.Constant .none j pos'] pos) (tT X F W (.noN x)) := by
  refine PTw (pt_cmp (pc_notN ha)) fun σ H Q q => ?_
  refine Go.mono (Go.bind (rA := rdR X F) (tT_tE q)) fun v H1 q => ?_
  obtain ⟨ρ, s, a, S, S0, _, m, e, r, q⟩ := q
  have e : (!isNon a) = !decide (v = .non) := by
    cases r <;> simp [isNon]
  rw [← e]
  exact Run.here (a := D.bl _) m q (RD.bl _)

/-! ### and, or, not -/
/-- a step that is a bool: two ways -/
theorem Go.bool {β δ : Type} {rB : Pm → Hp → β → δ → Prop} {a : XE} {k : Env → D → M β} {σV : L2.St} {H : Hp} {Q : δ → Hp → Prop} (h : Go X F W rB (fun σ => M.bind (ev F.cal a σ) (k σ)) σV H Q) (hk : ∀ σ d S, (∀ b, d ≠ .bl b) → k σ d S = .bad) :
    tE X F W a σV H fun v H1 => ∃ c, v = .bl c ∧ Go X F W rB (fun σ => k σ (.bl c)) σV H1 Q := by
  refine Go.mono (Go.bind (rA := rdR X F) h) fun v H1 q => ?_
  obtain ⟨ρ, s, a, S, S0, _, m, e, r, q⟩ := q
  by_cases hb : ∃ b, a = .bl b
  · obtain ⟨b, rfl⟩ := hb
    exact ⟨b, r.bl_inv, ρ, s, S, m, e, q⟩
  · rw [hk s a S fun b z => hb ⟨b, z⟩] at q
    exact q.elim
theorem Go.boolT {β δ : Type} {rB : Pm → Hp → β → δ → Prop} {a : XE} {k : Env → D → M β} {σV : L2.St} {H : Hp} {Q : δ → Hp → Prop} (h : Go X F W rB (fun σ => M.bind (ev F.cal a σ) (k σ)) σV H Q) (hk : ∀ σ d S, (∀ b, d ≠ .bl b) → k σ d S = .bad) :
    tT X F W a σV H fun c H1 => Go X F W rB (fun σ => k σ (.bl c)) σV H1 Q := by
  obtain ⟨ρ, s, S, m, e, r⟩ := h
  refine ⟨ρ, s, S, m, e, ?_⟩
  have r : Run X.K F.T F.Z rB (fun c d H => W c d σV H) ρ H (M.bind (ev F.cal a s) (k s) S) Q := r
  unfold M.bind at r
  unfold tst M.bind
  cases z : ev F.cal a s S with
  | bad => rw [z] at r; exact r
  | exc c p S1 => rw [z] at r; exact r
  | ok d S1 =>
    rw [z] at r
    by_cases hb : ∃ b, d = .bl b
    · obtain ⟨b, rfl⟩ := hb
      intro ρ' H' v x1 m1 hv
      cases hv
      exact ⟨ρ', s, S1, m1, e.mono m x1, Run.shift x1 m1 r⟩
    · have : k s d S1 = .bad := hk s d S1 fun b z => hb ⟨b, z⟩
      simp only [this] at r
      exact r.elim
theorem sE_and {a b : Expr} {rest : List Expr} {pos : Pos} {x y : XE} (ha : PE X a (tE X F W x)) (hb : PE X (.BoolOp .And (b :: rest) pos) (tE X F W y)) : PE X (.BoolOp .And (a :: b :: rest) pos) (tE X F W (.and x y)) := by
  refine PEw (pe_and ha hb) fun σ H Q q => ?_
  refine Go.mono (Go.bool q fun σ d S hd => ?_) fun v H1 q => ?_
  · cases d <;> first | rfl | exact absurd rfl (hd _)
  · obtain ⟨c, rfl, q⟩ := q
    refine ⟨c, rfl, ?_⟩
    cases c with
    | true => exact q
    | false =>
      obtain ⟨ρ, s, S, m, e, r⟩ := q
      exact Run.here (a := D.bl false) m r (RD.bl _)
theorem sE_or {a b : Expr} {rest : List Expr} {pos : Pos} {x y : XE} (ha : PE X a (tE X F W x)) (hb : PE X (.BoolOp .Or (b :: rest) pos) (tE X F W y)) : PE X (.BoolOp .Or (a :: b :: rest) pos) (tE X F W (.or x y)) := by
  refine PEw (pe_or ha hb) fun σ H Q q => ?_
  refine Go.mono (Go.bool q fun σ d S hd => ?_) fun v H1 q => ?_
  · cases d <;> first | rfl | exact absurd rfl (hd _)
  · obtain ⟨c, rfl, q⟩ := q
    refine ⟨c, rfl, ?_⟩
    cases c with
    | false => exact q
    | true =>
      obtain ⟨ρ, s, S, m, e, r⟩ := q
      exact Run.here (a := D.bl true) m r (RD.bl _)
theorem sE_one {op : BoolOp} {a : Expr} {pos : Pos} {x : XE} (ha : PE X a (tE X F W x)) : PE X (.BoolOp op [a] pos) (tE X F W x) := pe_one ha
theorem sE_not {a : Expr} {pos : Pos} {x : XE} (ha : PE X a (tE X F W x)) : PE X (.UnaryOp .Not a pos) (tE X F W (.not x)) := by
  refine PEw (pe_not ha) fun σ H Q q => ?_
  refine Go.mono (Go.bool q fun σ d S hd => ?_) fun v H1 q => ?_
  · cases d <;> first | rfl | exact absurd rfl (hd _)
  · obtain ⟨c, rfl, q⟩ := q
    obtain ⟨ρ, s, S, m, e, r⟩ := q
    exact ⟨c, rfl, Run.here (a := D.bl (!c)) m r (RD.bl _)⟩
/-- a test's run, the answer known -/
theorem tT_assoc {x : XE} {a : XE} {k : Env → D → M D} (hx : ∀ σ, ev F.cal x σ = M.bind (ev F.cal a σ) (k σ)) {σ : L2.St} {H : Hp} {Q : Bool → Hp → Prop} (h : tT X F W x σ H Q) :
    Go X F W (fun _ _ (a b : Bool) => a = b) (fun σ => M.bind (ev F.cal a σ) fun d => M.bind (k σ d) fun z => M.opt (truth z)) σ H Q := by
  obtain ⟨ρ, s, S, m, e, r⟩ := h
  refine ⟨ρ, s, S, m, e, ?_⟩
  unfold tst at r
  rw [hx, M.bind_assoc] at r
  exact r
theorem sW_and1 {a : Expr} {pos : Pos} {x : XE} (ha : PT X a (tT X F W x)) : PW X (.BoolOp .And [a] pos) (tT X F W x) := pw_and1 ha
theorem sW_or1 {a : Expr} {pos : Pos} {x : XE} (ha : PT X a (tT X F W x)) : PW X (.BoolOp .Or [a] pos) (tT X F W x) := pw_or1 ha
theorem sW_and {a b : Expr} {rest : List Expr} {pos : Pos} {x y : XE} (ha : PT X a (tT X F W x)) (hb : PW X (.BoolOp .And (b :: rest) pos) (tT X F W y)) : PW X (.BoolOp .And (a :: b :: rest) pos) (tT X F W (.and x y)) := by
  refine PWw (pw_and ha hb) fun σ H Q q => ?_
  refine Go.mono (Go.boolT (tT_assoc (fun _ => rfl) q) fun σ d S hd => ?_) fun c H1 q => ?_
  · cases d <;> first | rfl | exact absurd rfl (hd _)
  · cases c with
    | true => exact q
    | false =>
      obtain ⟨ρ, s, S, m, e, r⟩ := q
      exact Run.here (a := false) (v := false) m r rfl
theorem sW_or {a b : Expr} {rest : List Expr} {pos : Pos} {x y : XE} (ha : PT X a (tT X F W x)) (hb : PW X (.BoolOp .Or (b :: rest) pos) (tT X F W y)) : PW X (.BoolOp .Or (a :: b :: rest) pos) (tT X F W (.or x y)) := by
  refine PWw (pw_or ha hb) fun σ H Q q => ?_
  refine Go.mono (Go.boolT (tT_assoc (fun _ => rfl) q) fun σ d S hd => ?_) fun c H1 q => ?_
  · cases d <;> first | rfl | exact absurd rfl (hd _)
  · cases c with
    | false => exact q
    | true =>
      obtain ⟨ρ, s, S, m, e, r⟩ := q
      exact Run.here (a := true) (v := true) m r rfl
theorem sT_not {a : Expr} {pos : Pos} {x : XE} (ha : PT X a (tT X F W x)) : PT X (.UnaryOp .Not a pos) (tT X F W (.not x)) := by
  refine PTw (pt_not ha) fun σ H Q q => ?_
  refine Go.mono (Go.boolT (tT_assoc (fun _ => rfl) q) fun σ d S hd => ?_) fun c H1 q => ?_
  · cases d <;> first | rfl | exact absurd rfl (hd _)
  · obtain ⟨ρ, s, S, m, e, r⟩ := q
    exact Run.here (a := !c) (v := !c) m r rfl
theorem sE_ite {t a b : Expr} {pos : Pos} {x y z : XE} (ht : PT X t (tT X F W x)) (ha : PE X a (tE X F W y)) (hb : PE X b (tE X F W z)) : PE X (.IfExp t a b pos) (tE X F W (.ite x y z)) := by
  refine PEw (pe_ifExp ht ha hb) fun σ H Q q => ?_
  refine Go.mono (Go.boolT q fun σ d S hd => ?_) fun c H1 q => ?_
  · cases d <;> first | rfl | exact absurd rfl (hd _)
  · cases c <;> exact q
end
end Lk
end
section
/-! E5: subscripts, slices, built-ins. -/
set_option Elab.async false
set_option linter.all false
set_option maxRecDepth 100000
set_option maxHeartbeats 2000000
namespace Lk
open PySem PySem.Spec PyProof.Rows L2 SlX
theorem ite_opt {α : Type} {c : Prop} [Decidable c] {o : Option α} {b : α} (h : (if c then o else none) = some b) : c ∧ o = some b := by
  split at h
  · exact ⟨by assumption, h⟩
  · cases h
theorem ixOf_eq (n : Nat) (i : Int) : ixOf n i = ixN n i := rfl
theorem cutAt_eq (n d : Nat) (o : Option Int) : cutAt n d o = HT.sIx n d o := by cases o <;> rfl
section
variable {X : Cx} {F : Fx} {W : WX} {K : PySem.W.Frag} {T : Nat → Addr} {ρ : Pm} {H : Hp} {S : Store}
theorem intOf_inv {d : D} {i : Int} (h : intOf d = some i) : d = .int i := by cases d <;> cases h; rfl
theorem sE_neg {a : Expr} {x : XE} {pos : Pos} (ha : PE X a (tE X F W x)) : PE X (.UnaryOp .USub a pos) (tE X F W (.neg x)) := by
  refine PEw (pe_un un_neg ha) fun σ H Q q => ?_
  refine Go.mono (Go.bind (rA := rdR X F) q) fun v H1 q => ?_
  obtain ⟨ρ, s, a, S, S0, _, m, e, r, q⟩ := q
  obtain ⟨z, hz, q⟩ := Run.opt q
  obtain ⟨i, hi, rfl⟩ := map_some hz
  cases intOf_inv hi
  exact ⟨i, r.int_inv, Run.here m q (RD.int _)⟩
theorem chn_of {o p : Cop} {x y z : XE} {σ : L2.St} {H : Hp} {Q : VK} (q : tE X F W (.chn o p x y z) σ H Q) : tChain (CmpR X F o) (CmpR X F p) (tE X F W x) (tE X F W y) (tE X F W z) σ H Q := by
  refine Go.mono (Go.bind2 q) fun v H1 q1 => Go.mono q1 fun w H2 q2 => ?_
  obtain ⟨ρ, s, x', y', S, m, e, r1, r2, r⟩ := q2
  obtain ⟨ρ3, s3, k, S3, S0, o3, m3, e3, r3, q3⟩ : ∃ ρ3 s3 k S3, ∃ S0 : Store, True ∧ RS X.K F.T ρ3 S3 H2 ∧ EnvR X.K F.T F.Y ρ3 H2 s3 σ ∧ (cmpD S3 o x' y' = some k ∧ RD X.K F.T ρ3 H2 x' v ∧ RD X.K F.T ρ3 H2 y' w) ∧ Run X.K F.T F.Z (rdR X F) (fun c d H => W c d σ H) ρ3 H2 ((match k with
    | true => M.bind (ev F.cal z s3) fun z => fun S => M.opt ((cmpD S p y' z).map D.bl) S
    | false => M.pure (D.bl false)) S3) Q := by
    cases hk : cmpD S o x' y' with
    | none =>
      have r : Run X.K F.T F.Z (rdR X F) (fun c d H => W c d σ H) ρ H2 (M.bind (M.opt (cmpD S o x' y')) _ S) Q := r
      rw [hk] at r
      exact r.elim
    | some k =>
      have r : Run X.K F.T F.Z (rdR X F) (fun c d H => W c d σ H) ρ H2 (M.bind (M.opt (cmpD S o x' y')) _ S) Q := r
      rw [hk] at r
      exact ⟨ρ, s, k, S, S, trivial, m, e, ⟨hk, r1, r2⟩, r⟩
  refine ⟨ρ3, x', y', S3, k, m3, r3.2.1, r3.2.2, r3.1, k, rfl, ?_⟩
  cases k with
  | false => exact Run.here (a := D.bl false) m3 q3 (RD.bl _)
  | true =>
    rw [if_pos rfl]
    refine ⟨ρ3, s3, S3, m3, e3, (Run.bind (rA := rdR X F) q3).mono ?_⟩
    rintro u H4 ⟨ρ4, z', S4, _, x4, m4, r4, q4⟩
    obtain ⟨b, hb, q5⟩ := Run.opt q4
    obtain ⟨b', hb', rfl⟩ := map_some hb
    exact ⟨ρ4, y', z', S4, b', m4, r3.2.2.mono m3 x4, r4, hb', Run.here m4 q5 (RD.bl _)⟩
theorem sE_chn {op op' : CmpOp} {o p : Cop} {a b c : Expr} {x y z : XE} {pos : Pos} (ho : OpR X (compareOp op) (CmpR X F o)) (ho' : OpR X (compareOp op') (CmpR X F p)) (ha : PE X a (tE X F W x)) (hb : PE X b (tE X F W y)) (hc : PE X c (tE X F W z)) (hm : lastMarks [op, op'] [b, c] = false) :
    PE X (.Compare a [op, op'] [b, c] pos) (tE X F W (.chn o p x y z)) := PEw (pe_chain ho ho' ha hb hc hm) fun σ H Q q => chn_of q
theorem sT_chn {op op' : CmpOp} {o p : Cop} {a b c : Expr} {x y z : XE} {pos : Pos} (ho : OpR X (compareOp op) (CmpR X F o)) (ho' : OpR X (compareOp op') (CmpR X F p)) (ha : PE X a (tE X F W x)) (hb : PE X b (tE X F W y)) (hc : PE X c (tE X F W z)) (hm : lastMarks [op, op'] [b, c] = false) :
    PT X (.Compare a [op, op'] [b, c] pos) (tT X F W (.chn o p x y z)) := PTw (pt_chain ho ho' ha hb hc hm) fun σ H Q q => chn_of (tT_tE q)
theorem lastMarks2 {op op' : CmpOp} {b c : Expr} (h : behindInMarks op' c = false) : lastMarks [op, op'] [b, c] = false := h
theorem atI_some {α : Type} {xs : List α} {i : Int} {k : Nat} {x : α} (h1 : ixOf xs.length i = some k) (h2 : xs[k]? = some x) : atI xs i = some x := by
  unfold atI
  rw [← ixOf_eq, h1]
  exact h2
theorem plainIx_of {b : Expr} (h : ∀ lo hi p, b ≠ .Slice lo hi none p) : PlainIx b := fun o i => by
  unfold subscripted
  cases b <;> first | rfl | skip
  rename_i lo hi st p
  cases st with
  | none => exact absurd rfl (h lo hi p)
  | some _ => rfl
theorem sE_idx {a b : Expr} {x y : XE} {pos : Pos} (ha : PE X a (tE X F W x)) (hb : PE X b (tE X F W y)) (hs : PlainIx b) : PE X (.Subscript a b pos) (tE X F W (.idx x y)) := by
  refine PEw (pe_ix ix_seq ha hb hs) fun σ H Q q => ?_
  refine Go.mono (Go.bind2 q) fun v H1 q1 => Go.mono q1 fun w H2 q2 => ?_
  obtain ⟨ρ, s, x', y', S, m, e, r1, r2, r⟩ := q2
  obtain ⟨z, hz, rr⟩ := Run.opt r
  obtain ⟨i, hi, hz1⟩ := bind_some hz
  cases intOf_inv hi
  clear hz
  revert hz1
  unfold idxD
  intro hz
  split at hz
  · rename_i s'
    obtain ⟨hl, hz2⟩ := ite_opt hz
    obtain ⟨k, hk, hz3⟩ := bind_some hz2
    obtain ⟨c, hc, rfl⟩ := map_some hz3
    refine .inr (.inr ⟨⟨s'.toArray⟩, i, c, r1.str_inv, r2.int_inv, sizeMax_le (by simpa [Str.length] using hl), ?_, Run.here m rr (RD.str [c])⟩)
    exact atI_some (by simpa using hk) (by simpa using hc)
  · obtain ⟨xs, hx, hz⟩ := bind_some hz
    obtain ⟨k, hk, hz⟩ := bind_some hz
    obtain ⟨a, vs, rfl, ha, rs⟩ := itemsOf_inv m hx r1
    obtain ⟨u, hu, ru⟩ := rs.get hz
    have at_ : atI vs i = some u := atI_some (by rw [← rs.length]; exact hk) hu
    rcases ha with ha | ha
    · exact .inl ⟨a, vs, i, u, rfl, r2.int_inv, ha, at_, Run.here m rr ru⟩
    · exact .inr (.inl ⟨a, vs, i, u, rfl, r2.int_inv, ha, at_, Run.here m rr ru⟩)
theorem slcD_inv {x z : D} {lo hi : Option Int} (h : slcD S x lo hi = some z) : (∃ s, x = .str s ∧ s.length ≤ sizeMax ∧ z = .str (cut s lo hi)) ∨ (∃ xs, x = .tup xs ∧ z = .tup (cut xs lo hi)) ∨ ∃ xs, seqOf S x = some xs ∧ z = .fl (cut xs lo hi) := by
  unfold slcD at h
  split at h
  · obtain ⟨h1, h2⟩ := ite_some h
    exact .inl ⟨_, rfl, h1, h2.symm⟩
  · cases h
    exact .inr (.inl ⟨_, rfl, rfl⟩)
  · obtain ⟨xs, h1, h2⟩ := map_some h
    exact .inr (.inr ⟨xs, h1, h2.symm⟩)
theorem cutV_rd {xs : List D} {vs : List V} (r : RDs K T ρ H xs vs) (lo hi : Option Int) : RDs K T ρ H (cut xs lo hi) (cutV vs lo hi) := by
  unfold cut cutV
  rw [cutAt_eq, cutAt_eq, r.length]
  exact (r.drop _).take _
theorem cut_whole {α : Type} {xs : List α} {lo hi : Option Int} (h : HT.sIx xs.length 0 lo = 0 ∧ HT.sIx xs.length xs.length hi = xs.length) : cut xs lo hi = xs := by
  unfold cut
  rw [cutAt_eq, cutAt_eq, h.1, h.2]
  simp
/-- an end of a slice, there or not -/
def tB (X : Cx) (F : Fx) (W : WX) (b : XB) : TO := fun σ H Q => Go X F W (fun _ _ (a : Option Int) b => a = b) (evB F.cal b) σ H Q
theorem sO_none : PO X none (tB X F W .no) := by
  refine ⟨fun pins s σ H Q I h => po_none.run pins s σ H Q I ?_⟩
  obtain ⟨ρ, s, S, m, e, r⟩ := h
  exact Run.here (a := none) (v := none) m r rfl
theorem sO_some {e : Expr} {x : XE} (h : PE X e (tE X F W x)) : PO X (some e) (tB X F W (.so x)) := by
  refine ⟨fun pins s σ H Q I q => (po_some h).run pins s σ H Q I ?_⟩
  refine Go.mono (Go.bind (rA := rdR X F) q) fun v H1 q => ?_
  obtain ⟨ρ, s, a, S, S0, o, m, e, r, q⟩ := q
  obtain ⟨z, hz, q1⟩ := Run.opt q
  obtain ⟨i, hi, rfl⟩ := map_some hz
  cases intOf_inv hi
  exact ⟨i, r.int_inv, Run.here m q1 rfl⟩
theorem sE_slc {a : Expr} {lo hi : Option Expr} {x : XE} {l h : XB} {pos p2 : Pos} (ha : PE X a (tE X F W x)) (hl : PO X lo (tB X F W l)) (hh : PO X hi (tB X F W h)) : PE X (.Subscript a (.Slice lo hi none p2) pos) (tE X F W (.slc x l h)) := by
  refine PEw (pe_slice (sl_list.or (sl_tupA.or sl_str)) ha hl hh) fun σ H Q q => ?_
  refine Go.mono (Go.bind (rA := rdR X F) q) fun v H1 q => ?_
  obtain ⟨ρ, s, d, S, S0, _, m, e, r, q⟩ := q
  refine ⟨ρ, s, S, m, e, (Run.bind (rA := fun _ _ (a : Option Int) b => a = b) q).mono ?_⟩
  rintro lo' H2 ⟨ρ2, lo'', S2, _, x2, m2, rfl, q2⟩
  refine ⟨ρ2, s, S2, m2, e.mono m x2, (Run.bind (rA := fun _ _ (a : Option Int) b => a = b) q2).mono ?_⟩
  rintro hi' H3 ⟨ρ3, hi'', S3, _, x3, m3, rfl, q3⟩
  have r3 := (r.mono m x2).mono m2 x3
  obtain ⟨z, hz, q4⟩ := Run.opt q3
  rcases slcD_inv hz with ⟨s', rfl, hl, rfl⟩ | ⟨xs, rfl, rfl⟩ | ⟨xs, hx, rfl⟩
  · refine .inr (.inr ⟨⟨s'.toArray⟩, r3.str_inv, sizeMax_le (by simpa [Str.length] using hl), ?_⟩)
    refine Run.here m3 q4 ?_
    have e : cutS ⟨s'.toArray⟩ lo'' hi'' = ⟨(cut s' lo'' hi'').toArray⟩ := by
      unfold cutS cut
      simp only [cutAt_eq, Str.length, List.size_toArray]
    rw [e]
    exact RD.str _
  · obtain ⟨a1, vs, rfl, ha, rs⟩ := r3.tup_inv
    refine .inr (.inl ⟨a1, vs, rfl, ha, fun hw => ?_, fun _ p hp => ?_⟩)
    · refine Run.here m3 q4 ?_
      rw [cut_whole (by rw [rs.length]; exact hw)]
      exact r3
    · exact q4 ρ3 _ _ (ext_new hp) (m3.new hp) (RD.new_tup m3 hp (cutV_rd rs _ _))
  · obtain ⟨a1, vs, rfl, ha, rs⟩ := seqOf_inv m3 hx r3
    exact .inl ⟨a1, vs, rfl, ha, fun p hp => have n := new_fl m3 hp (cutV_rd rs _ _); q4 _ _ _ n.1 n.2.1 n.2.2⟩
end
end Lk
end
section
/-! E6: calls of built-ins. -/
set_option Elab.async false
set_option linter.all false
set_option maxRecDepth 100000
set_option maxHeartbeats 2000000
namespace Lk
open PySem PySem.Spec PyProof.Rows L2 SlX
theorem CallRw {X : Cx} {f : Value} {r r' : List V → Hp → VK → Prop} (h : CallR X f r) (i : ∀ xs H Q, r' xs H Q → r xs H Q) : CallR X f r' := fun pins s σ H xs us Q I rs q => h pins s σ H xs us Q I rs (i _ _ _ q)
section
variable {X : Cx} {F : Fx} {W : WX} {K : PySem.W.Frag} {T : Nat → Addr} {ρ : Pm} {H : Hp} {S : Store}
def BiR (X : Cx) (F : Fx) (b : Bi) : List V → Hp → VK → Prop := fun vs H Q => ∃ ρ ds S z, RS X.K F.T ρ S H ∧ RDs X.K F.T ρ H ds vs ∧ biD S b ds = some z ∧ ∀ ρ' H' u, Ext ρ H ρ' H' → RS X.K F.T ρ' S H' → RD X.K F.T ρ' H' z u → Q u H'
theorem sE_bi {b : Bi} {f : Value} {x : Str} {e : Expr} {es : List Expr} {xs : XEs} {p pos : Pos} (h : ∀ {t : TA}, PA X (e :: es) t → PE X (.Call (.Name x p) (e :: es) [] pos) (fun σ H Q => t σ H fun vs H1 => BiR X F b vs H1 Q)) (ha : PA X (e :: es) (tAs X F W xs)) :
    PE X (.Call (.Name x p) (e :: es) [] pos) (tE X F W (.bi b xs)) := by
  refine PEw (h ha) fun σ H Q q => ?_
  refine Go.mono (Go.bind (rA := RDs X.K F.T) q) fun vs H1 q => ?_
  obtain ⟨ρ, s, ds, S, S0, _, m, e, r, q⟩ := q
  obtain ⟨z, hz, q1⟩ := Run.opt q
  exact ⟨ρ, ds, S, z, m, r, hz, q1⟩
theorem rds1 {d : D} {vs : List V} (h : RDs K T ρ H [d] vs) : ∃ v, vs = [v] ∧ RD K T ρ H d v := by
  cases h with | cons r t => cases t; exact ⟨_, rfl, r⟩
theorem bi1 {b : Bi} {ds : List D} {z : D} (h : biD S b ds = some z) : ∃ d, ds = [d] := by
  unfold biD at h
  split at h
  all_goals first
    | exact ⟨_, rfl⟩
    | cases h
theorem lenOf_inv (m : RS K T ρ S H) {d : D} {n : Nat} {v : V} (h : lenOf S d = some n) (r : RD K T ρ H d v) : LenV K v H n := by
  unfold lenOf at h
  split at h
  · obtain ⟨h1, rfl⟩ := ite_some h
    rw [r.str_inv]
    exact ⟨sizeMax_le (by simpa [Str.length] using h1), by simp [Str.length]⟩
  · obtain ⟨xs, h1, rfl⟩ := map_some h
    obtain ⟨a, vs, rfl, ha, rs⟩ := itemsOf_inv m h1 r
    rcases ha with ha | ha
    · exact .inl ⟨vs, ha, rs.length⟩
    · exact .inr ⟨vs, ha, rs.length⟩
theorem bi_len : CallR X (.builtin "len") (BiR X F .len) := CallRw call_len fun vs H Q q => by
  obtain ⟨ρ, ds, S, z, m, r, hz, q⟩ := q
  obtain ⟨d, rfl⟩ := bi1 hz
  obtain ⟨v, rfl, rv⟩ := rds1 r
  obtain ⟨n, hn, rfl⟩ := map_some (show (lenOf S d).map (fun (n : Nat) => D.int n) = some z from hz)
  exact ⟨v, n, rfl, lenOf_inv m hn rv, q ρ H _ .refl m (.int _)⟩
theorem truth_inv {d : D} {b : Bool} (h : truth d = some b) : d = .bl b := by cases d <;> cases h; rfl
theorem bools_rd : ∀ {xs : List D} {bs : List Bool} {vs : List V}, allSome truth xs = some bs → RDs K T ρ H xs vs → vs = bs.map V.bl
  | [], _, _, h, r => by cases h; cases r; rfl
  | x :: xs, bs, vs, h, r => by
    unfold allSome at h
    split at h
    · cases h
    · rename_i y e
      split at h
      · cases h
      · rename_i zs e2
        cases h
        cases r with
        | cons r1 r2 =>
          cases truth_inv e
          rw [r1.bl_inv, bools_rd e2 r2]; rfl
theorem ints_rd : ∀ {xs : List D} {bs : List Int} {vs : List V}, allSome intOf xs = some bs → RDs K T ρ H xs vs → vs = bs.map V.int
  | [], _, _, h, r => by cases h; cases r; rfl
  | x :: xs, bs, vs, h, r => by
    unfold allSome at h
    split at h
    · cases h
    · rename_i y e
      split at h
      · cases h
      · rename_i zs e2
        cases h
        cases r with
        | cons r1 r2 =>
          cases intOf_inv e
          rw [r1.int_inv, ints_rd e2 r2]; rfl
theorem bi_all (hc : X.calm = true) : CallR X (.builtin "all") (BiR X F .all) := CallRw (cr_all hc) fun vs H Q q => by
  obtain ⟨ρ, ds, S, z, m, r, hz, q⟩ := q
  obtain ⟨d, rfl⟩ := bi1 hz
  obtain ⟨v, rfl, rv⟩ := rds1 r
  obtain ⟨xs, hx, hz⟩ := bind_some (show (seqOf S d).bind (fun xs => (allSome truth xs).map fun bs => D.bl (bs.all id)) = some z from hz)
  obtain ⟨bs, hb, rfl⟩ := map_some hz
  obtain ⟨a, ws, rfl, ha, rs⟩ := seqOf_inv m hx rv
  exact ⟨a, bs, rfl, by rw [← bools_rd hb rs]; exact ha, q ρ H _ .refl m (.bl _)⟩
theorem bi_any (hc : X.calm = true) : CallR X (.builtin "any") (BiR X F .any) := CallRw (cr_any hc) fun vs H Q q => by
  obtain ⟨ρ, ds, S, z, m, r, hz, q⟩ := q
  obtain ⟨d, rfl⟩ := bi1 hz
  obtain ⟨v, rfl, rv⟩ := rds1 r
  obtain ⟨xs, hx, hz⟩ := bind_some (show (seqOf S d).bind (fun xs => (allSome truth xs).map fun bs => D.bl (bs.any id)) = some z from hz)
  obtain ⟨bs, hb, rfl⟩ := map_some hz
  obtain ⟨a, ws, rfl, ha, rs⟩ := seqOf_inv m hx rv
  exact ⟨a, bs, rfl, by rw [← bools_rd hb rs]; exact ha, q ρ H _ .refl m (.bl _)⟩
theorem bi_sum (hc : X.calm = true) : CallR X (.builtin "sum") (BiR X F .sum) := CallRw (cr_sum hc) fun vs H Q q => by
  obtain ⟨ρ, ds, S, z, m, r, hz, q⟩ := q
  obtain ⟨d, rfl⟩ := bi1 hz
  obtain ⟨v, rfl, rv⟩ := rds1 r
  obtain ⟨xs, hx, hz⟩ := bind_some (show (seqOf S d).bind (fun xs => (allSome intOf xs).map fun is => D.int is.sum) = some z from hz)
  obtain ⟨bs, hb, rfl⟩ := map_some hz
  obtain ⟨a, ws, rfl, ha, rs⟩ := seqOf_inv m hx rv
  exact ⟨a, bs, rfl, by rw [← ints_rd hb rs]; exact ha, q ρ H _ .refl m (.int _)⟩
theorem bi_abs : CallR X (.builtin "abs") (BiR X F .abs) := CallRw call_abs fun vs H Q q => by
  obtain ⟨ρ, ds, S, z, m, r, hz, q⟩ := q
  obtain ⟨d, rfl⟩ := bi1 hz
  obtain ⟨v, rfl, rv⟩ := rds1 r
  obtain ⟨i, hi, rfl⟩ := map_some (show (intOf d).map (fun i => D.int (if i < 0 then -i else i)) = some z from hz)
  cases intOf_inv hi
  exact ⟨i, by rw [rv.int_inv], q ρ H _ .refl m (.int _)⟩
theorem bi_tuple : CallR X (.type "tuple") (BiR X F .tuple) := CallRw call_tuple_of fun vs H Q q => by
  obtain ⟨ρ, ds, S, z, m, r, hz, q⟩ := q
  obtain ⟨d, rfl⟩ := bi1 hz
  obtain ⟨v, rfl, rv⟩ := rds1 r
  obtain ⟨xs, hx, rfl⟩ := map_some (show (itemsOf S d).map D.tup = some z from hz)
  obtain ⟨a, ws, rfl, ha, rs⟩ := itemsOf_inv m hx rv
  refine ⟨a, ws, rfl, ?_⟩
  rcases ha with ha | ha
  · exact .inl ⟨ha, fun p hp => q ρ _ _ (ext_new hp) (m.new hp) (RD.new_tup m hp rs)⟩
  · exact .inr ⟨ha, q ρ H _ .refl m (.tup ha rs)⟩
theorem call_list_text (hc : X.calm = true) : CallR X (.type "list") (fun xs H Q => ∃ z : Str, xs = [.str z] ∧ z.cps.size ≤ sizeLine ∧ ∀ l, H l = none → Q (.ref l) (upd H l (.lst (z.cps.toList.map fun c => V.str ⟨#[c]⟩)))) := by
  intro pins s σ H xs us Q I r h
  obtain ⟨z, rfl, hz, q⟩ := h
  obtain ⟨u, rfl, rx⟩ := vals1 r
  obtain ⟨t, rfl⟩ := rx
  refine call_list_str (I.ok.hd hc) z t (fun h' tk acc c' hk hS hi => ?_) hz
  refine ⟨.ref s.heap.objs.size, upd H s.heap.objs.size (.lst (z.cps.toList.map fun c => V.str ⟨#[c]⟩)), I.laid hk (Nat.le_refl _) (show ObjOk X.prog X.w _ _ _ (.lst (z.cps.toList.map fun c => V.str ⟨#[c]⟩)) from ⟨?_, acc.toList, c', ?_, ?_⟩), rfl, q _ (I.hok.fresh (Nat.le_refl _))⟩
  · rw [List.length_map, Array.length_toList]; exact hz
  · refine vals_of_at (by rw [List.length_map, Array.length_toList, Array.length_toList, hi.1]) fun j x w h1 h2 => ?_
    obtain ⟨c, u, hc, rfl⟩ := hi.2 j w (by rw [← Array.getElem?_toList]; exact h2)
    rw [List.getElem?_map, Array.getElem?_toList, hc] at h1
    cases h1
    exact ⟨u, rfl⟩
  · rw [Array.toArray_toList]; exact hS
theorem rds_signs0 : ∀ z : List Nat, RDs K T ρ H (z.map fun c => D.str [c]) (z.map fun c => V.str ⟨#[c]⟩)
  | [] => .nil
  | c :: z => .cons (.str [c]) (rds_signs0 z)
theorem bi_list (hc : X.calm = true) : CallR X (.type "list") (BiR X F .list) := CallRw (call_list_of.or (call_list_text hc)) fun vs H Q q => by
  obtain ⟨ρ, ds, S, z, m, r, hz, q⟩ := q
  obtain ⟨d, rfl⟩ := bi1 hz
  obtain ⟨v, rfl, rv⟩ := rds1 r
  by_cases hs : ∃ y, d = .str y
  · obtain ⟨y, rfl⟩ := hs
    obtain ⟨hl, rfl⟩ := ite_some (show (if y.length ≤ sizeMax then some (D.fl (y.map fun c => .str [c])) else none) = some z from hz)
    refine .inr ⟨⟨y.toArray⟩, by rw [rv.str_inv], sizeMax_le (by simpa using hl), fun p hp => ?_⟩
    have n := new_fl m hp (rds_signs0 (K := X.K) (T := F.T) (ρ := ρ) (H := H) y)
    have := q _ _ _ n.1 n.2.1 n.2.2
    simpa using this
  · have hz : (itemsOf S d).map D.fl = some z := by cases d <;> first | exact hz | exact absurd ⟨_, rfl⟩ hs
    obtain ⟨xs, hx, rfl⟩ := map_some hz
    obtain ⟨a, ws, rfl, ha, rs⟩ := itemsOf_inv m hx rv
    exact .inl ⟨a, ws, rfl, ha, fun p hp => have n := new_fl m hp rs; q _ _ _ n.1 n.2.1 n.2.2⟩
theorem digit_text : ∀ k : Nat, k < 10 → (Str.ofString (toString ((k : Nat) : Int))) = ⟨#[48 + k]⟩ := by
  decide +kernel
theorem bi_str : CallR X (.type "str") (BiR X F .str) := CallRw (call_str_int.or SkE.call_str_str) fun vs H Q q => by
  obtain ⟨ρ, ds, S, z, m, r, hz, q⟩ := q
  obtain ⟨d, rfl⟩ := bi1 hz
  obtain ⟨v, rfl, rv⟩ := rds1 r
  obtain ⟨s, hs, rfl⟩ := map_some (show (textOf d).map D.str = some z from hz)
  unfold textOf at hs
  split at hs
  · rename_i i
    obtain ⟨h1, rfl⟩ := ite_some hs
    refine .inl ⟨i, by rw [rv.int_inv], ?_, ?_⟩
    · have h2 : i.natAbs < 10 := by omega
      have h3 : i.natAbs.log2 ≤ i.natAbs := Nat.log2_le_self _
      omega
    · have e := digit_text i.toNat (by omega)
      rw [show ((i.toNat : Nat) : Int) = i by omega] at e
      have := q ρ H _ .refl m (.str [48 + i.toNat])
      rw [show (toString i : Str) = _ from e]
      exact this
  · cases hs
    exact .inr ⟨_, by rw [rv.str_inv], q ρ H _ .refl m (.str _)⟩
  · cases hs
theorem numOf_inv {d : D} {i : Int} (h : numOf d = some i) : d = .int i ∨ (∃ b, d = .bl b ∧ i = if b then 1 else 0) ∨ ∃ c : Nat, d = .str [c] ∧ 48 ≤ c ∧ c ≤ 57 ∧ i = ((c - 48 : Nat) : Int) := by
  unfold numOf at h
  split at h
  · cases h; exact .inl rfl
  · cases h; exact .inr (.inl ⟨_, rfl, rfl⟩)
  · obtain ⟨h1, h2⟩ := ite_some h
    exact .inr (.inr ⟨_, rfl, h1.1, h1.2, h2.symm⟩)
  · cases h
theorem intText_digit : ∀ k : Nat, k < 10 → PySem.intText? (⟨#[48 + k]⟩ : Str) = some ((k : Nat) : Int) := by
  decide +kernel
theorem bi_int : CallR X (.type "int") (BiR X F .int) := CallRw (call_int1.or call_int_str) fun vs H Q q => by
  obtain ⟨ρ, ds, S, z, m, r, hz, q⟩ := q
  obtain ⟨d, rfl⟩ := bi1 hz
  obtain ⟨v, rfl, rv⟩ := rds1 r
  obtain ⟨i, hi, rfl⟩ := map_some (show (numOf d).map D.int = some z from hz)
  have qq := q ρ H _ .refl m (.int i)
  rcases numOf_inv hi with rfl | ⟨b, rfl, rfl⟩ | ⟨c, rfl, h1, h2, rfl⟩
  · exact .inl (.inl ⟨i, by rw [rv.int_inv], qq⟩)
  · exact .inl (.inr ⟨b, by rw [rv.bl_inv], qq⟩)
  · refine .inr ⟨⟨#[c]⟩, _, by rw [rv.str_inv], ?_, by show 1 ≤ 640; decide, qq⟩
    have := intText_digit (c - 48) (by omega)
    rw [show 48 + (c - 48) = c by omega] at this
    exact this
end
end Lk
end
section
/-! E7: statements. -/
set_option Elab.async false
set_option linter.all false
set_option maxRecDepth 100000
set_option maxHeartbeats 2000000
namespace Lk
open PySem PySem.Spec PyProof.Rows L2 SlX
section
variable {X : Cx} {F : Fx} {W : WX} {K : PySem.W.Frag} {T : Nat → Addr} {Z : Xs} {Y : Option Slf} {ρ : Pm} {H : Hp} {S : Store}
/-- where a statement's run goes -/
def RunS (K : PySem.W.Frag) (T : Nat → Addr) (Y : Option Slf) (Z : Xs) (W : WX) (ρ : Pm) (H : Hp) (r : Res Flow) (D : Ends) : Prop := match r with
  | .ok (.nx σ) S => ∀ ρ' H' σV, Ext ρ H ρ' H' → RS K T ρ' S H' → EnvR K T Y ρ' H' σ σV → D.nx σV H'
  | .ok (.bk σ) S => ∀ ρ' H' σV, Ext ρ H ρ' H' → RS K T ρ' S H' → EnvR K T Y ρ' H' σ σV → D.bk σV H'
  | .ok (.ct σ) S => ∀ ρ' H' σV, Ext ρ H ρ' H' → RS K T ρ' S H' → EnvR K T Y ρ' H' σ σV → D.ct σV H'
  | .ok (.rt d) S => ∀ ρ' H' v, Ext ρ H ρ' H' → RS K T ρ' S H' → RD K T ρ' H' d v → D.rt v H'
  | .ok (.xc c p σ) S => ∀ ρ' H' σV cls d, Ext ρ H ρ' H' → RS K T ρ' S H' → EnvR K T Y ρ' H' σ σV → XR K T Z ρ' H' c p cls d → W cls d σV H'
  | _ => False
theorem RunS.shift {ρ1 : Pm} {H1 : Hp} {S1 : Store} {r : Res Flow} {D : Ends} (e1 : Ext ρ H ρ1 H1) (m1 : RS K T ρ1 S1 H1) (h : RunS K T Y Z W ρ H r D) : RunS K T Y Z W ρ1 H1 r D := by
  cases r with
  | bad => exact h
  | exc c p S2 => exact h
  | ok f S2 =>
    cases f with
    | nx σ => exact fun ρ2 H2 σV e2 m2 x => h ρ2 H2 σV (e1.trans e2 m1) m2 x
    | bk σ => exact fun ρ2 H2 σV e2 m2 x => h ρ2 H2 σV (e1.trans e2 m1) m2 x
    | ct σ => exact fun ρ2 H2 σV e2 m2 x => h ρ2 H2 σV (e1.trans e2 m1) m2 x
    | rt d => exact fun ρ2 H2 v e2 m2 x => h ρ2 H2 v (e1.trans e2 m1) m2 x
    | xc c p σ => exact fun ρ2 H2 σV cls d e2 m2 x y => h ρ2 H2 σV cls d (e1.trans e2 m1) m2 x y
/-- an expression in a statement -/
theorem RunS.at {α γ : Type} {rA : Pm → Hp → α → γ → Prop} {σ : Env} {σV : L2.St} {m : M α} {k : α → M Flow} {D : Ends} (h : RunS K T Y Z W ρ H (M.at σ m k S) D) (m0 : RS K T ρ S H) (e0 : EnvR K T Y ρ H σ σV) :
    Run K T Z rA (fun c d H => W c d σV H) ρ H (m S) fun v H1 => ∃ ρ1 a S1, m S = .ok a S1 ∧ Ext ρ H ρ1 H1 ∧ RS K T ρ1 S1 H1 ∧ rA ρ1 H1 a v ∧ RunS K T Y Z W ρ1 H1 (k a S1) D := by
  unfold M.at at h
  cases e : m S with
  | bad => rw [e] at h; exact h
  | exc c p S' =>
    rw [e] at h
    exact fun ρ1 H1 cls d e1 m1 x => h ρ1 H1 σV cls d e1 m1 (e0.mono m0 e1) x
  | ok a S1 =>
    rw [e] at h
    have h' : RunS K T Y Z W ρ H (k a S1) D := h
    exact fun ρ1 H1 v e1 m1 r1 => ⟨ρ1, a, S1, rfl, e1, m1, r1, h'.shift e1 m1⟩
def tS (X : Cx) (F : Fx) (W : WX) (m : Env → M Flow) : TS := fun D σV H => ∃ ρ σ S, RS X.K F.T ρ S H ∧ EnvR X.K F.T F.Y ρ H σ σV ∧ RunS X.K F.T F.Y F.Z W ρ H (m σ S) D
/-- an expression, then what hangs on it -/
theorem tS.at {α γ : Type} {rA : Pm → Hp → α → γ → Prop} {m : Env → M α} {k : Env → α → M Flow} {D : Ends} {σV : L2.St} {H : Hp} (h : tS X F W (fun σ => M.at σ (m σ) (k σ)) D σV H) :
    Go X F W rA m σV H fun v H1 => ∃ ρ σ a S S0, m σ S0 = .ok a S ∧ RS X.K F.T ρ S H1 ∧ EnvR X.K F.T F.Y ρ H1 σ σV ∧ rA ρ H1 a v ∧ RunS X.K F.T F.Y F.Z W ρ H1 (k σ a S) D := by
  obtain ⟨ρ, σ, S, m0, e0, r0⟩ := h
  refine ⟨ρ, σ, S, m0, e0, Run.mono (RunS.at (rA := rA) r0 m0 e0) ?_⟩
  rintro v H1 ⟨ρ1, a, S1, o1, e1, m1, r1, q⟩
  exact ⟨ρ1, σ, a, S1, S, o1, m1, e0.mono m0 e1, r1, q⟩
abbrev SS (X : Cx) (F : Fx) (W : WX) (st : Stmt) (x : XS) : Prop := PS X st (tS X F W (ex F.cal x))
abbrev SSs (X : Cx) (F : Fx) (W : WX) (st : List Stmt) (x : XSs) : Prop := PSs X st (tS X F W (exs F.cal x))
theorem RunS.here_nx {σ : Env} {σV : L2.St} {D : Ends} (m : RS K T ρ S H) (e : EnvR K T Y ρ H σ σV) (h : RunS K T Y Z W ρ H (.ok (.nx σ) S) D) : D.nx σV H := h ρ H σV .refl m e
theorem sS_pass {pos : Pos} : SS X F W (.Pass pos) .pass := PSw ps_pass fun D σ H h => by
  obtain ⟨ρ, s, S, m, e, r⟩ := h
  exact RunS.here_nx (σ := s) m e r
theorem sS_brk {pos : Pos} : SS X F W (.Break pos) .brk := PSw ps_break fun D σ H h => by
  obtain ⟨ρ, s, S, m, e, r⟩ := h
  exact r ρ H σ .refl m e
theorem sS_cnt {pos : Pos} : SS X F W (.Continue pos) .cnt := PSw ps_continue fun D σ H h => by
  obtain ⟨ρ, s, S, m, e, r⟩ := h
  exact r ρ H σ .refl m e
theorem sS_nil : SSs X F W [] .nil := PSsw pss_nil fun D σ H h => by
  obtain ⟨ρ, s, S, m, e, r⟩ := h
  exact RunS.here_nx (σ := s) m e r
theorem RunS.seq {m : M Flow} {k : Env → M Flow} {D : Ends} (h : RunS K T Y Z W ρ H (M.bind m (fun f => match f with | .nx σ2 => k σ2 | f => M.pure f) S) D) :
    RunS K T Y Z W ρ H (m S) { D with nx := fun σV H1 => ∃ ρ1 σ1 S1, RS K T ρ1 S1 H1 ∧ EnvR K T Y ρ1 H1 σ1 σV ∧ RunS K T Y Z W ρ1 H1 (k σ1 S1) D } := by
  unfold M.bind at h
  cases e : m S with
  | bad => rw [e] at h; exact h
  | exc c p S' => rw [e] at h; exact h
  | ok f S1 =>
    rw [e] at h
    cases f with
    | nx σ =>
      have h' : RunS K T Y Z W ρ H (k σ S1) D := h
      exact fun ρ1 H1 σV e1 m1 x => ⟨ρ1, σ, S1, m1, x, h'.shift e1 m1⟩
    | bk σ => exact h
    | ct σ => exact h
    | rt d => exact h
    | xc c p σ => exact h
theorem sS_cons {st : Stmt} {rest : List Stmt} {x : XS} {xs : XSs} (h1 : SS X F W st x) (h2 : SSs X F W rest xs) : SSs X F W (st :: rest) (.cons x xs) := by
  refine PSsw (pss_cons h1 h2) fun D σ H h => ?_
  obtain ⟨ρ, s, S, m, e, r⟩ := h
  exact ⟨ρ, s, S, m, e, RunS.seq (k := exs F.cal xs) r⟩
theorem sS_expr {e : Expr} {x : XE} {pos : Pos} (he : PE X e (tE X F W x)) (hs : swapsWith e none pos.line X.env = pure false) : SS X F W (.Expr e pos) (.expr x) := by
  refine PSw (ps_expr he hs) fun D σ H h => ?_
  refine Go.mono (tS.at (rA := rdR X F) h) fun v H1 q => ?_
  obtain ⟨ρ, s, a, S, S0, _, m, e, r, q⟩ := q
  exact RunS.here_nx (σ := s) m e q
theorem sS_ret {e : Expr} {x : XE} {pos : Pos} (he : PE X e (tE X F W x)) : SS X F W (.Return (some e) pos) (.ret x) := by
  refine PSw (ps_ret he) fun D σ H h => ?_
  refine Go.mono (tS.at (rA := rdR X F) h) fun v H1 q => ?_
  obtain ⟨ρ, s, a, S, S0, _, m, e, r, q⟩ := q
  exact q ρ H1 v .refl m r
theorem sS_retN {pos : Pos} : SS X F W (.Return none pos) (.ret (.con .non)) := by
  refine PSw ps_retN fun D σ H h => ?_
  obtain ⟨ρ, s, S, m, e, r⟩ := h
  exact r ρ H .non .refl m .non
theorem sS_if {c : Expr} {a b : List Stmt} {x : XE} {y z : XSs} {pos : Pos} (hc : PT X c (tT X F W x)) (ha : SSs X F W a y) (hb : SSs X F W b z) : SS X F W (.If c a b pos) (.ite x y z) := by
  refine PSw (ps_if hc ha hb) fun D σ H h => ?_
  refine Go.mono (tS.at (rA := fun _ _ (a b : Bool) => a = b) h) fun k H1 q => ?_
  obtain ⟨ρ, s, k', S, S0, _, m, e, rfl, q⟩ := q
  cases k' with
  | true => exact ⟨ρ, s, S, m, e, q⟩
  | false => exact ⟨ρ, s, S, m, e, q⟩
theorem RunS.mono {r : Res Flow} {D D' : Ends} (h : RunS K T Y Z W ρ H r D) (h1 : ∀ σ H, D.nx σ H → D'.nx σ H) (h2 : ∀ σ H, D.bk σ H → D'.bk σ H) (h3 : ∀ σ H, D.ct σ H → D'.ct σ H) (h4 : ∀ v H, D.rt v H → D'.rt v H) : RunS K T Y Z W ρ H r D' := by
  cases r with
  | bad => exact h
  | exc c p S2 => exact h
  | ok f S2 =>
    cases f with
    | nx σ => exact fun ρ2 H2 σV e2 m2 x => h1 _ _ (h ρ2 H2 σV e2 m2 x)
    | bk σ => exact fun ρ2 H2 σV e2 m2 x => h2 _ _ (h ρ2 H2 σV e2 m2 x)
    | ct σ => exact fun ρ2 H2 σV e2 m2 x => h3 _ _ (h ρ2 H2 σV e2 m2 x)
    | rt d => exact fun ρ2 H2 v e2 m2 x => h4 _ _ (h ρ2 H2 v e2 m2 x)
    | xc c p σ => exact h
/-- while: so many turns are left -/
theorem sS_whl {c : Expr} {b : List Stmt} {x : XE} {y : XSs} {pos : Pos} (hp : PassesOwn (model X.prog X.w) X.A X.env X.xe) (hc : PT X c (tT X F W x)) (hb : SSs X F W b y) : SS X F W (.While c b [] pos) (.whl x y) := by
  refine PSw (ps_while hp hc hb) fun D σ H h => ?_
  refine ⟨fun n σ H => tS X F W (whlGo (tst F.cal x) (exs F.cal y) n) D σ H, ⟨turns, h⟩, ?_⟩
  intro n σ H h
  cases n with
  | zero =>
    obtain ⟨ρ, s, S, m, e, r⟩ := h
    exact r.elim
  | succ n =>
    refine Go.mono (tS.at (rA := fun _ _ (a b : Bool) => a = b) h) fun k H1 q => ?_
    obtain ⟨ρ, s, k', S, S0, _, m, e, rfl, q⟩ := q
    cases k' with
    | false => exact RunS.here_nx (σ := s) m e q
    | true =>
      rw [if_pos rfl]
      refine ⟨fun σ H => tS X F W (whlGo (tst F.cal x) (exs F.cal y) n) D σ H, fun σ' H' q => ⟨n, Nat.lt_succ_self _, q⟩, ρ, s, S, m, e, ?_⟩
      revert q
      show RunS X.K F.T F.Y F.Z W ρ H1 (M.bind (exs F.cal y s) _ S) D → _
      unfold M.bind
      cases hz : exs F.cal y s S with
      | bad => exact fun q => q
      | exc c p S' => exact fun q => q
      | ok f S1 =>
        cases f with
        | nx σ => exact fun q ρ1 H2 σV e1 m1 x => ⟨ρ1, σ, S1, m1, x, RunS.shift e1 m1 q⟩
        | ct σ => exact fun q ρ1 H2 σV e1 m1 x => ⟨ρ1, σ, S1, m1, x, RunS.shift e1 m1 q⟩
        | bk σ => exact fun q => q
        | rt d => exact fun q => q
        | xc c p σ => exact fun q => q
end
end Lk
end
section
/-! E8: targets, assignments. -/
set_option Elab.async false
set_option linter.all false
set_option maxRecDepth 100000
set_option maxHeartbeats 2000000
namespace Lk
open PySem PySem.Spec PyProof.Rows L2 SlX
theorem PGw {X : Cx} {e : Expr} {t t' : TG} (h : PG X e t) (i : ∀ v σ H Q, t' v σ H Q → t v σ H Q) : PG X e t' := ⟨fun pins s σ H v u Q I r q => h.run pins s σ H v u Q I r (i v σ H Q q)⟩
theorem PGl {X : Cx} {e : Expr} {t t' : TG} (h : PG X e t) (i : ∀ v σ H Q, σ.length = X.N.length → t' v σ H Q → t v σ H Q) : PG X e t' := ⟨fun pins s σ H v u Q I r q => h.run pins s σ H v u Q I r (i v σ H Q I.len q)⟩
theorem PGsw {X : Cx} {e : List Expr} {t t' : TGs} (h : PGs X e t) (i : ∀ v σ H Q, t' v σ H Q → t v σ H Q) : PGs X e t' := ⟨fun pins s σ H v u Q I r q => h.run pins s σ H v u Q I r (i v σ H Q q)⟩
section
variable {X : Cx} {F : Fx} {W : WX} {K : PySem.W.Frag} {T : Nat → Addr} {Z : Xs} {Y : Option Slf} {ρ : Pm} {H : Hp} {S : Store}
def gE (X : Cx) (F : Fx) (t : Tg) : TG := fun v σV H Q => ∃ ρ σ S d σ2, RS X.K F.T ρ S H ∧ EnvR X.K F.T F.Y ρ H σ σV ∧ RD X.K F.T ρ H d v ∧ setTg t d σ = some σ2 ∧ ∀ σV2, EnvR X.K F.T F.Y ρ H σ2 σV2 → (∀ vs, t.sub vs = true → L2.wipe σV2 vs = L2.wipe σV vs) → Q σV2 H
def gEs (X : Cx) (F : Fx) (t : Tgs) : TGs := fun vs σV H Q => ∃ ρ σ S ds σ2, RS X.K F.T ρ S H ∧ EnvR X.K F.T F.Y ρ H σ σV ∧ RDs X.K F.T ρ H ds vs ∧ setTgs t ds σ = some σ2 ∧ ∀ σV2, EnvR X.K F.T F.Y ρ H σ2 σV2 → (∀ vs, t.sub vs = true → L2.wipe σV2 vs = L2.wipe σV vs) → Q σV2 H
theorem wipe_set {σ : L2.St} {i : Nat} {v : Option V} : ∀ {vs : List Nat}, i ∈ vs → L2.wipe (σ.set i v) vs = L2.wipe σ vs
  | [], h => by cases h
  | k :: vs, h => by
    show (L2.wipe (σ.set i v) vs).set k none = (L2.wipe σ vs).set k none
    by_cases hi : i ∈ vs
    · rw [wipe_set hi]
    · have e : i = k := by simpa [hi] using h
      subst e
      have key : ∀ ws : List Nat, i ∉ ws → L2.wipe (σ.set i v) ws = (L2.wipe σ ws).set i v := by
        intro ws
        induction ws with
        | nil => intro _; rfl
        | cons w ws ih =>
          intro hw
          simp only [List.mem_cons, not_or] at hw
          show (L2.wipe (σ.set i v) ws).set w none = ((L2.wipe σ ws).set w none).set i v
          rw [ih hw.2, List.set_comm _ _ hw.1]
      rw [key vs hi, List.set_set]
theorem sG_name {i : Nat} {x : Str} {pos : Pos} (hN : X.N.Nodup) (hi : X.N[i]? = some x) (hx : Loc X.env.scope x) (hf : X.fn x = true ∨ X.env.scope.names.lookup x = some .local) : PG X (.Name x pos) (gE X F (.nm i)) := by
  refine PGl (pg_name hN hi hx hf) fun v σ H Q hl h => ?_
  obtain ⟨ρ, s, S, d, s2, m, e, r, hs, q⟩ := h
  cases hs
  exact q _ (e.set i (by rw [hl]; exact ix_lt hi) r) fun vs hv => wipe_set (by simpa [Tg.sub] using hv)
theorem sGs_nil : PGs X [] (gEs X F .nil) := by
  refine PGsw pgs_nil fun v σ H Q h => ?_
  obtain ⟨ρ, s, S, d, s2, m, e, r, hs, q⟩ := h
  cases d with
  | cons _ _ => cases hs
  | nil =>
    cases hs
    cases r
    exact ⟨rfl, q σ e fun _ _ => rfl⟩
theorem sGs_cons {e : Expr} {es : List Expr} {t : Tg} {ts : Tgs} (h1 : PG X e (gE X F t)) (h2 : PGs X es (gEs X F ts)) (hs : (assignEach (e :: es) X.env).map (·.2) = assign e X.env :: (assignEach es X.env).map (·.2)) : PGs X (e :: es) (gEs X F (.cons t ts)) := by
  refine PGsw (pgs_cons h1 h2 hs) fun v σ H Q h => ?_
  obtain ⟨ρ, s, S, ds, s2, m, e, r, hs, q⟩ := h
  cases ds with
  | nil => cases hs
  | cons d ds =>
    simp only [setTgs] at hs
    cases r with
    | cons r1 r2 =>
      refine ⟨_, _, rfl, ?_⟩
      cases h1 : setTg t d s with
      | none => rw [h1] at hs; cases hs
      | some s1 =>
        rw [h1] at hs
        exact ⟨ρ, s, S, d, s1, m, e, r1, h1, fun σV1 e1 w1 => ⟨ρ, s1, S, ds, s2, m, e1, r2, hs, fun σV2 e2 w2 => q σV2 e2 fun vs hv => by
          simp only [Tgs.sub, Bool.and_eq_true] at hv
          rw [w2 vs hv.2, w1 vs hv.1]⟩⟩
theorem setTgs_len : ∀ {ts : Tgs} {ds : List D} {σ σ2 : Env}, setTgs ts ds σ = some σ2 → ds.length = ts.len
  | .nil, ds, σ, σ2, h => by
    cases ds with
    | nil => rfl
    | cons _ _ => cases h
  | .cons t r, ds, σ, σ2, h => by
    cases ds with
    | nil => cases h
    | cons d ds =>
      simp only [setTgs] at h
      split at h
      · simp [Tgs.len, setTgs_len h]
      · cases h
theorem sG_tup {es : List Expr} {k : Nat} {ts : Tgs} {pos : Pos} (hc : X.calm = true) (h : PGs X es (gEs X F ts)) (hn : (assignEach es X.env).length = ts.len) (hst : (assignEach es X.env).findIdx? (·.1) = none) : PG X (.Tuple es k pos) (gE X F (.tp ts)) := by
  refine PGw (pg_tup hc h hn hst) fun v σ H Q h => ?_
  obtain ⟨ρ, s, S, d, s2, m, e, r, hs, q⟩ := h
  cases d with
  | tup xs =>
    have hs : setTgs ts xs s = some s2 := hs
    obtain ⟨a, vs, rfl, ha, rs⟩ := r.tup_inv
    exact ⟨a, vs, rfl, ha, by rw [← rs.length]; exact setTgs_len hs, ρ, s, S, xs, s2, m, e, rs, hs, q⟩
  | _ => cases hs
theorem assignEach_cons (e : Expr) (es : List Expr) (env : PySem.Env) (h : ∀ v p, e ≠ .Starred v p) : assignEach (e :: es) env = (false, assign e env) :: assignEach es env := by
  cases e <;> first | rfl | exact absurd rfl (h _ _)
theorem RunS.opt {α : Type} {o : Option α} {k : α → M Flow} {D : Ends} (h : RunS K T Y Z W ρ H (M.bind (M.opt o) k S) D) : ∃ a, o = some a ∧ RunS K T Y Z W ρ H (k a S) D := by
  cases o with
  | none => exact h.elim
  | some a => exact ⟨a, rfl, h⟩
/-- the reading of an assignment -/
theorem asg_of {x : XE} {t : Tg} {D : Ends} {σ : L2.St} {H : Hp} (h : tS X F W (ex F.cal (.set t x)) D σ H) : tAsg (tE X F W x) (gE X F t) D σ H := by
  refine Go.mono (tS.at (rA := rdR X F) h) fun v H1 q => ?_
  obtain ⟨ρ, s, a, S, S0, _, m, e, r, q⟩ := q
  obtain ⟨s2, hs, q⟩ := RunS.opt q
  exact ⟨ρ, s, S, a, s2, m, e, r, hs, fun σV2 e2 _ => RunS.here_nx (σ := s2) m e2 q⟩
theorem sS_set {tg e : Expr} {x : XE} {t : Tg} {pos : Pos} (he : PE X e (tE X F W x)) (hg : PG X tg (gE X F t)) (hs : swapsWithSole [tg] e pos.line X.env = pure false) (hw : swappedStores [tg] e X.env = pure none) (h1 : (assignEach [tg] X.env).map (·.2) = [assign tg X.env]) :
    SS X F W (.Assign [tg] e pos) (.set t x) := PSw (ps_asg he hg hs hw h1) fun D σ H h => asg_of h
/-- a, b = x, y | a, b, c = x, y, z: stored from the right -/
theorem sS_par {x y : Str} {i j : Nat} {a b : Expr} {xs : XEs} {px py pt pos : Pos} {kt k2 pt2} (hc : X.calm = true) (hN : X.N.Nodup) (hi : X.N[i]? = some x) (hj : X.N[j]? = some y) (hij : i ≠ j)
    (hx : X.env.scope.names.lookup x = some .local) (hy : X.env.scope.names.lookup y = some .local) (ha : PA X [a, b] (tAs X F W xs))
    (hw : swappedStores [.Tuple [.Name x px, .Name y py] kt pt] (.Tuple [a, b] k2 pt2) X.env = pure (some [x, y])) (hs : swapsWithSole [.Tuple [.Name x px, .Name y py] kt pt] (.Tuple [a, b] k2 pt2) pos.line X.env = pure false) :
    SS X F W (.Assign [.Tuple [.Name x px, .Name y py] kt pt] (.Tuple [a, b] k2 pt2) pos) (.set (.tp (.cons (.nm i) (.cons (.nm j) .nil))) (.tup xs)) := by
  refine PSl (ps_par hc hN hi hj hij hx hy ha hw hs) fun D σ H hl h => ?_
  obtain ⟨ρ, s, S, m, e, r⟩ := h
  refine ⟨ρ, s, S, m, e, ?_⟩
  have r : RunS X.K F.T F.Y F.Z W ρ H (M.at s (M.bind (evs F.cal xs s) fun ds => M.pure (.tup ds)) (fun d => M.bind (M.opt (setTg (.tp (.cons (.nm i) (.cons (.nm j) .nil))) d s)) fun σ2 => M.pure (.nx σ2)) S) D := r
  unfold M.at M.bind at r
  unfold Run
  cases z : evs F.cal xs s S with
  | bad => rw [z] at r; exact r
  | exc c p S1 =>
    rw [z] at r
    exact fun ρ1 H1 cls d e1 m1 w => r ρ1 H1 σ cls d e1 m1 (e.mono m e1) w
  | ok ds S1 =>
    rw [z] at r
    intro ρ1 H1 vs e1 m1 rs
    match ds, rs, r with
    | [d1, d2], .cons r1 (.cons r2 .nil), r => exact ⟨_, _, rfl, r ρ1 H1 _ e1 m1 (((e.mono m e1).set i (by rw [hl]; exact ix_lt hi) r1).set j (by rw [List.length_set, hl]; exact ix_lt hj) r2)⟩
    | [], _, r => exact r.elim
    | [_], _, r => exact r.elim
    | _ :: _ :: _ :: _, _, r => exact r.elim
/-- name op= e -/
theorem aug_of {o : Bop} {f : Int → Int → Int} (hf : ∀ a b z, augD o a b = some z → ∃ i j, a = .int i ∧ b = .int j ∧ z = .int (f i j)) {i : Nat} {y : XE} {D : Ends} {σ : L2.St} {H : Hp} (hl : i < σ.length) (h : tS X F W (ex F.cal (.aug i o y)) D σ H) : tAug i (tE X F W y) (ipI f) D σ H := by
  obtain ⟨ρ, s, S, m, e, r⟩ := h
  obtain ⟨a, ha, r⟩ := RunS.opt (o := slotOf s i) r
  obtain ⟨v, hv, rv⟩ := e.2.2 i a hl (slotOf_some ha)
  refine ⟨v, hv, ρ, s, S, m, e, (RunS.at (rA := rdR X F) r m e).mono ?_⟩
  rintro w H1 ⟨ρ1, b, S1, _, e1, m1, rb, q⟩
  obtain ⟨z, hz, q⟩ := RunS.opt q
  obtain ⟨k, l, rfl, rfl, rfl⟩ := hf _ _ _ hz
  exact ⟨k, l, rv.int_inv, rb.int_inv, RunS.here_nx m1 ((e.mono m e1).set i hl (.int _)) q⟩
theorem sS_augAdd {i : Nat} {x : Str} {e : Expr} {y : XE} {pos pos' : Pos} (hN : X.N.Nodup) (hi : X.N[i]? = some x) (hx : Loc X.env.scope x) (he : PE X e (tE X F W y)) (hf : X.fn x = true ∨ X.env.scope.names.lookup x = some .local) : SS X F W (.AugAssign (.Name x pos') .Add e pos) (.aug i .add y) :=
  PSl (ps_aug hN hi hx he ip_add hf) fun D σ H hl h => aug_of (fun a b z hz => by
    unfold augD at hz
    split at hz
    · cases hz; exact ⟨_, _, rfl, rfl, rfl⟩
    · exfalso; simp_all
    · cases hz) (by rw [hl]; exact ix_lt hi) h
theorem sS_augSub {i : Nat} {x : Str} {e : Expr} {y : XE} {pos pos' : Pos} (hN : X.N.Nodup) (hi : X.N[i]? = some x) (hx : Loc X.env.scope x) (he : PE X e (tE X F W y)) (hf : X.fn x = true ∨ X.env.scope.names.lookup x = some .local) : SS X F W (.AugAssign (.Name x pos') .Sub e pos) (.aug i .sub y) :=
  PSl (ps_aug hN hi hx he ip_sub hf) fun D σ H hl h => aug_of (fun a b z hz => by
    unfold augD at hz
    split at hz
    · exfalso; simp_all
    · cases hz; exact ⟨_, _, rfl, rfl, rfl⟩
    · cases hz) (by rw [hl]; exact ix_lt hi) h
/-- xs[i] = e -/
theorem setD_inv {x k d : D} {S' : Store} (h : setD x k d S = .ok () S') : ∃ n xs i j, x = .ref n ∧ k = .int i ∧ S.get n = some (.lst xs) ∧ ixOf xs.length i = some j ∧ S' = S.put n (.lst (xs.set j d)) := by
  unfold setD at h
  split at h
  · rename_i n
    split at h
    · rename_i xs g
      split at h
      · rename_i j hj
        cases h
        obtain ⟨i, hi, hj⟩ := bind_some hj
        cases intOf_inv hi
        exact ⟨n, xs, i, j, rfl, rfl, g, hj, rfl⟩
      · cases h
    · cases h
  · cases h
theorem sS_setIx {a b e : Expr} {x y z : XE} {pos pos' : Pos} (ha : PE X a (tE X F W x)) (hb : PE X b (tE X F W y)) (he : PE X e (tE X F W z))
    (hA : ∀ v, assign (.Subscript a b pos') X.env v = (do
      let ov ← holding [v] (eval a X.env)
      let iv ← holding [v, ov] (eval b X.env)
      standAt pos'
      holding [v, ov, iv] (setItem ov iv v)
      release [v, ov, iv] []))
    (hs : swapsWithSole [.Subscript a b pos'] e pos.line X.env = pure false) (hw : swappedStores [.Subscript a b pos'] e X.env = pure none) (h1 : (assignEach [.Subscript a b pos'] X.env).map (·.2) = [assign (.Subscript a b pos') X.env]) :
    SS X F W (.Assign [.Subscript a b pos'] e pos) (.setIx x y z) := by
  refine PSw (ps_asg he (pg_sub ha hb set_list hA) hs hw h1) fun D σ H h => ?_
  refine Go.mono (tS.at (rA := rdR X F) h) fun v H1 q => ?_
  obtain ⟨ρ, s, d, S, S0, _, m, e, r, q⟩ := q
  refine ⟨ρ, s, S, m, e, (RunS.at (rA := rdR X F) q m e).mono ?_⟩
  rintro o H2 ⟨ρ2, x', S2, _, x2, m2, r2, q2⟩
  refine ⟨ρ2, s, S2, m2, e.mono m x2, (RunS.at (rA := rdR X F) q2 m2 (e.mono m x2)).mono ?_⟩
  rintro i H3 ⟨ρ3, k, S3, _, x3, m3, r3, q3⟩
  cases hz : setD x' k d S3 with
  | bad => exact absurd q3 (by show ¬ RunS _ _ _ _ _ _ _ (M.bind (setD x' k d) _ S3) D; unfold M.bind; rw [hz]; exact fun q => q)
  | exc c p S4 => exact absurd q3 (by show ¬ RunS _ _ _ _ _ _ _ (M.bind (setD x' k d) _ S3) D; unfold M.bind; rw [hz]; exact fun q => q)
  | ok u S4 =>
    obtain ⟨n, xs, i', j, rfl, rfl, g, hj, rfl⟩ := setD_inv hz
    have q4 : RunS X.K F.T F.Y F.Z W ρ3 H3 (.ok (.nx s) (S3.put n (.lst (xs.set j d)))) D := by
      have : M.bind (setD (.ref n) (.int i') d) (fun _ => M.pure (Flow.nx s)) S3 = .ok (Flow.nx s) (S3.put n (.lst (xs.set j d))) := by unfold M.bind; rw [hz]; rfl
      rw [← this]; exact q3
    have rx := r2.mono m2 x3
    have rd := (r.mono m x2).mono m2 x3
    cases rx with
    | ref hn =>
      rename_i a
      obtain ⟨a', h1, vs, h2, h3⟩ := m3.at_ _ _ g
      rw [hn] at h1
      cases h1
      refine ⟨a, vs, i', j, rfl, r3.int_inv, h2, by rw [← h3.length]; exact hj, ?_⟩
      have ep : Ext ρ3 H3 ρ3 (upd H3 a (.lst (vs.set j v))) := ext_put hn
      exact q4 ρ3 _ σ ep (m3.put hn trivial ⟨_, upd_same, (h3.set rd j).mono m3 ep⟩) (((e.mono m x2).mono m2 x3).mono m3 ep)
end
end Lk
end
section
/-! E9: loops and comprehensions. -/
set_option Elab.async false
set_option linter.all false
set_option maxRecDepth 100000
set_option maxHeartbeats 2000000
namespace Lk
open PySem PySem.Spec PyProof.Rows L2 SlX
theorem PIw {X : Cx} {tg it : Expr} {w w' : TI} (h : PI X tg it w) (i : ∀ σ H R, w' σ H R → w σ H R) : PI X tg it w' := ⟨fun pins s σ H R I q => h.run pins s σ H R I (i σ H R q)⟩
section
variable {X : Cx} {F : Fx} {W : WX} {K : PySem.W.Frag} {T : Nat → Addr} {Z : Xs} {Y : Option Slf} {ρ : Pm} {H : Hp} {S : Store}
/-- an iterator gives these values, as long as the guarded lists stand -/
def IterR (K : PySem.W.Frag) (T : Nat → Addr) (ρ0 : Pm) (H0 : Hp) (p : List D × Gd) (J : It) : Prop :=
  ∀ ρ S H, Ext ρ0 H0 ρ H → RS K T ρ S H → stands S p.2 = true → (∀ i, i < p.1.length → J.go i H) ∧ J.stop p.1.length H ∧ ∀ i v H', i < p.1.length → J.yld i H v H' → Ext ρ H ρ H' ∧ RS K T ρ S H' ∧ ∃ d, p.1[i]? = some d ∧ RD K T ρ H' d v
def tI (X : Cx) (F : Fx) (W : WX) (x : XI) : TI := fun σV H R => Go X F W (fun ρ H p J => IterR X.K F.T ρ H p J) (evI F.cal x) σV H R
/-- for over it -/
theorem sS_for {tg iter : Expr} {b : List Stmt} {t : Tg} {x : XI} {y : XSs} {pos : Pos} (hp : PassesOwn (model X.prog X.w) X.A X.env X.xe) (hc : X.calm = true) (hi : PI X tg iter (tI X F W x)) (hg : PG X tg (gE X F t)) (hb : SSs X F W b y) (hs : ∀ z, foldedSetIterable iter X.env z = pure z) :
    SS X F W (.For tg iter b [] pos) (.for t x y) := by
  refine PSw (ps_for hp hc hi hg hb hs) fun D σ H h => ?_
  refine Go.mono (tS.at (rA := fun ρ H p J => IterR X.K F.T ρ H p J) h) fun J H1 q => ?_
  obtain ⟨ρ0, s0, p, S0, _, _, m0, e0, it, q0⟩ := q
  obtain ⟨xs, g⟩ := p
  refine ⟨fun i n σ H => n = xs.length - i ∧ i ≤ xs.length ∧ ∃ ρ s S, Ext ρ0 H1 ρ H ∧ RS X.K F.T ρ S H ∧ EnvR X.K F.T F.Y ρ H s σ ∧ RunS X.K F.T F.Y F.Z W ρ H (forGo g t (exs F.cal y) (xs.drop i) s S) D,
    ⟨xs.length, by simp, Nat.zero_le _, ρ0, s0, S0, .refl, m0, e0, by simpa using q0⟩, ?_⟩
  rintro i n σ H ⟨rfl, hi, ρ, s, S, x1, m, e, r⟩
  have hst : stands S g = true := by
    by_cases hst : stands S g = true
    · exact hst
    · have hz : M.chk g S = .bad := by unfold M.chk; simp [hst]
      cases hx : xs.drop i with
      | nil => rw [hx] at r; unfold forGo M.bind at r; rw [hz] at r; exact r.elim
      | cons d ds => rw [hx] at r; unfold forGo M.bind at r; rw [hz] at r; exact r.elim
  have hok : M.chk g S = .ok () S := by unfold M.chk; simp [hst]
  obtain ⟨hgo, hstop, hyld⟩ := it ρ S H x1 m hst
  by_cases hlt : i < xs.length
  · refine .inr ⟨hgo i hlt, fun σ' H' => ∃ ρ s S, Ext ρ0 H1 ρ H' ∧ RS X.K F.T ρ S H' ∧ EnvR X.K F.T F.Y ρ H' s σ' ∧ RunS X.K F.T F.Y F.Z W ρ H' (forGo g t (exs F.cal y) (xs.drop (i + 1)) s S) D,
      fun σ' H' q => ⟨xs.length - (i + 1), by omega, rfl, hlt, q⟩, fun v H' yv => ?_⟩
    obtain ⟨x2, m2, d, hd, rd⟩ := hyld i v H' hlt yv
    have hdr : xs.drop i = d :: xs.drop (i + 1) := by
      rw [List.drop_eq_getElem_cons hlt]
      rw [List.getElem?_eq_getElem hlt] at hd
      cases hd; rfl
    rw [hdr] at r
    have r := r.shift x2 m2
    unfold forGo at r
    rw [M.bind_ok hok] at r
    obtain ⟨s2, hs2, r⟩ := RunS.opt r
    refine ⟨ρ, s, S, d, s2, m2, e.mono m x2, rd, hs2, fun σV2 e2 _ => ⟨ρ, s2, S, m2, e2, ?_⟩⟩
    have x3 := x1.trans x2 m
    revert r
    unfold M.bind
    cases hz : exs F.cal y s2 S with
    | bad => exact fun q => q
    | exc c p S' => exact fun q => q
    | ok f S1 =>
      cases f with
      | nx σ1 => exact fun q ρ1 H2 σV e1 m1 z => ⟨ρ1, σ1, S1, x3.trans e1 m2, m1, z, RunS.shift e1 m1 q⟩
      | ct σ1 => exact fun q ρ1 H2 σV e1 m1 z => ⟨ρ1, σ1, S1, x3.trans e1 m2, m1, z, RunS.shift e1 m1 q⟩
      | bk σ1 => exact fun q => q
      | rt d => exact fun q => q
      | xc c p σ1 => exact fun q => q
  · have hi : i = xs.length := by omega
    subst hi
    rw [List.drop_length] at r
    unfold forGo at r
    rw [M.bind_ok hok] at r
    exact .inl ⟨hstop, RunS.here_nx (σ := s) m e r⟩

/-! ### lists, tuples, ranges -/
theorem pi_both {tg l : Expr} {tl : TE} (hl : PE X l tl) : PI X tg l (fun σ H R => tl σ H fun x H1 => ∃ a, x = .ref a ∧ ((∃ xs, SqL X.K H1 a xs) ∧ R (Itl X.K a) H1 ∨ (∃ xs, SqT X.K H1 a xs) ∧ R (Itt X.K a) H1)) := by
  refine ⟨fun pins s0 σ0 H0 R I0 hq => thn (hl.run pins s0 σ0 H0 _ I0 hq) fun v s1 q => ?_⟩
  obtain ⟨z, H2, I2, rz, a, hz, q⟩ := q
  subst hz
  cases rz
  have fresh := I2.fpOk (H' := H2) (Nat.le_refl _) (I2.hok.fresh (Nat.le_refl _))
  have grown : ∀ o : Obj, Inv X pins σ0 H2 { s1 with heap := s1.heap.push o } := fun o => I2.kept (t' := s1.toks) fun b u e => Heap.get?_push_of_some o e
  have only : ∀ b ∈ [s1.heap.objs.size], FpOk X pins H2 b := fun b hb => by
    rw [List.mem_singleton] at hb
    rw [hb]; exact fresh
  rcases q with ⟨⟨vs, hv⟩, q⟩ | ⟨⟨vs, hv⟩, q⟩
  · obtain ⟨its, _, isl, _⟩ := I2.list hv
    exact wpAny_pyIter_list isl.isList ⟨_, [s1.heap.objs.size], _, _, H2, rfl, grown _, turn_list a _, ⟨_, Heap.get?_push_size _ rfl, rfl, rfl⟩, only, q⟩
  · obtain ⟨its, _, ist, _⟩ := I2.tuple hv
    exact wpAny_pyIter_tuple (show s1.heap.IsTuple a its.toArray from ist) ⟨_, [s1.heap.objs.size], _, _, H2, rfl, grown _, turn_tuple a _, ⟨_, Heap.get?_push_size _ rfl, rfl, rfl⟩, only, q⟩
/-- a value's items, later: the same, if it stands -/
theorem items_later {d : D} {xs : List D} {v : V} {ρ' : Pm} {H' : Hp} {S' : Store} (m : RS K T ρ S H) (hx : itemsOf S d = some xs) (r : RD K T ρ H d v) (e : Ext ρ H ρ' H') (m' : RS K T ρ' S' H') (hg : stands S' (guardOf S d) = true) : itemsOf S' d = some xs ∧ RD K T ρ' H' d v := by
  refine ⟨?_, r.mono m e⟩
  cases d with
  | ref n =>
    have hx : (match S.get n with | some (.lst xs) => some xs | _ => none) = some xs := hx
    have hg : stands S' (match S.get n with | some (.lst xs) => [(n, xs)] | _ => []) = true := hg
    show (match S'.get n with | some (.lst xs) => some xs | _ => none) = some xs
    cases g : S.get n with
    | none => rw [g] at hx; cases hx
    | some o =>
      cases o with
      | lst ys =>
        rw [g] at hx hg
        cases hx
        simp only [stands, Bool.and_true] at hg
        cases g' : S'.get n with
        | none => rw [g'] at hg; cases hg
        | some o' =>
          rw [g'] at hg
          cases o' with
          | lst zs => simp only at hg; rw [sames_eq hg]
          | dic _ => cases hg
          | ins _ _ => cases hg
      | dic _ => rw [g] at hx; cases hx
      | ins _ _ => rw [g] at hx; cases hx
  | _ => exact hx
/-- what the iterator of a list, of a tuple gives -/
theorem iter_seq {d : D} {xs : List D} {a : Addr} (m : RS K T ρ S H) (hx : seqOf S d = some xs) (r : RD K T ρ H d (.ref a)) : IterR K T ρ H (xs, guardOf S d) (Itl K a) := fun ρ' S' H' e' m' hg => by
  have hd : itemsOf S d = some xs := by cases d <;> first | exact hx | cases hx
  obtain ⟨hx', r'⟩ := items_later m hd r e' m' hg
  have hs' : seqOf S' d = some xs := by cases d <;> first | exact hx' | cases hx
  obtain ⟨a', vs, ea, ha, rs⟩ := seqOf_inv m' hs' r'
  cases ea
  refine ⟨fun i hi => ?_, ⟨vs, ha, by rw [← rs.length]; exact Nat.le_refl _⟩, fun i v H2 hi yv => ?_⟩
  · have hi' : i < vs.length := by rw [← rs.length]; exact hi
    exact ⟨vs, vs[i], ha, by simp [hi']⟩
  · obtain ⟨rfl, yv⟩ := yv
    obtain ⟨w, hw, rw'⟩ := rs.get (show xs[i]? = some xs[i] by simp [show i < xs.length from hi])
    rw [yv vs ha] at hw
    cases hw
    exact ⟨.refl, m', xs[i], by simp [show i < xs.length from hi], rw'⟩
theorem iter_tup {xs : List D} {a : Addr} (m : RS K T ρ S H) (r : RD K T ρ H (.tup xs) (.ref a)) : IterR K T ρ H (xs, []) (Itt K a) := fun ρ' S' H' e' m' hg => by
  obtain ⟨a', vs, ea, ha, rs⟩ := (r.mono m e').tup_inv
  cases ea
  refine ⟨fun i hi => ?_, ⟨vs, ha, by rw [← rs.length]; exact Nat.le_refl _⟩, fun i v H2 hi yv => ?_⟩
  · have hi' : i < vs.length := by rw [← rs.length]; exact hi
    exact ⟨vs, vs[i], ha, by simp [hi']⟩
  · obtain ⟨rfl, yv⟩ := yv
    obtain ⟨w, hw, rw'⟩ := rs.get (show xs[i]? = some xs[i] by simp [show i < xs.length from hi])
    rw [yv vs ha] at hw
    cases hw
    exact ⟨.refl, m', xs[i], by simp [show i < xs.length from hi], rw'⟩
/-- range(n), range(a, b) -/
theorem iter_rng {lo : Int} {n : Nat} : IterR K T ρ H ((List.range n).map fun (k : Nat) => D.int (lo + k), []) (Itr lo n) := fun ρ' S' H' e' m' hg => by
  refine ⟨fun i hi => (show i < n by simpa using hi), by simp [Itr], fun i v H2 hi yv => ?_⟩
  obtain ⟨rfl, rfl⟩ := yv
  have hi : i < n := by simpa using hi
  exact ⟨.refl, m', .int (lo + i), by simp [hi], .int _⟩
theorem sI_rng1 {tg a : Expr} {xs : XEs} {p pos : Pos} (hg : Gl X "range") (hm : X.mg "range" = none) (ha : PA X [a] (tAs X F W xs)) (hs : starEach [a] X.env = [(false, eval a X.env)]) (h1 : xs.len = 1) : PI X tg (.Call (.Name "range" p) [a] [] pos) (tI X F W (.rng xs)) := by
  refine PIw (pi_range1 hg hm ha hs) fun σ H R q => ?_
  refine Go.mono (Go.bind (rA := RDs X.K F.T) q) fun vs H1 q => ?_
  obtain ⟨ρ, s, ds, S, S0, o, m, e, r, q⟩ := q
  obtain ⟨p, hp, q1⟩ := Run.opt q
  obtain ⟨ys, hy, rfl⟩ := map_some hp
  unfold rangeD at hy
  split at hy
  · rename_i n
    obtain ⟨h2, rfl⟩ := ite_some hy
    obtain ⟨v, rfl, rv⟩ := rds1 r
    refine ⟨n, by rw [rv.int_inv], by omega, by omega, Run.here m q1 ?_⟩
    have := iter_rng (K := X.K) (T := F.T) (ρ := ρ) (H := H1) (lo := 0) (n := n.toNat)
    simpa using this
  · have := evs_len o
    rw [h1] at this
    cases this
  · cases hy
theorem sI_rng2 {tg a b : Expr} {xs : XEs} {p pos : Pos} (hg : Gl X "range") (hm : X.mg "range" = none) (ha : PA X [a, b] (tAs X F W xs)) (hs : starEach [a, b] X.env = [(false, eval a X.env), (false, eval b X.env)]) (hs2 : starEach [b] X.env = [(false, eval b X.env)]) (h1 : xs.len = 2) : PI X tg (.Call (.Name "range" p) [a, b] [] pos) (tI X F W (.rng xs)) := by
  refine PIw (pi_range2 hg hm ha hs hs2) fun σ H R q => ?_
  refine Go.mono (Go.bind (rA := RDs X.K F.T) q) fun vs H1 q => ?_
  obtain ⟨ρ, s, ds, S, S0, o, m, e, r, q⟩ := q
  obtain ⟨p, hp, q1⟩ := Run.opt q
  obtain ⟨ys, hy, rfl⟩ := map_some hp
  unfold rangeD at hy
  split at hy
  · have := evs_len o
    rw [h1] at this
    cases this
  · rename_i i j
    obtain ⟨h2, rfl⟩ := ite_some hy
    cases r with
    | cons r1 r2 =>
      obtain ⟨v, rfl, r3⟩ := rds1 r2
      exact ⟨i, j, by rw [r1.int_inv, r3.int_inv], ⟨by omega, by omega, by omega, by omega⟩, Run.here m q1 iter_rng⟩
  · cases hy
/-! ### comprehensions -/
def W0 : WX := fun _ _ _ _ => False
theorem RunF.bind {α γ : Type} {rA : Pm → Hp → α → γ → Prop} {W : XK} {m : M α} {k : α → M (List D)} {Q : VK} (h : RunF K T Z W ρ H (M.bind m k S) Q) :
    Run K T Z rA W ρ H (m S) fun v H1 => ∃ ρ1 a S1, Ext ρ H ρ1 H1 ∧ RS K T ρ1 S1 H1 ∧ rA ρ1 H1 a v ∧ RunF K T Z W ρ1 H1 (k a S1) Q := by
  unfold M.bind at h
  cases e : m S with
  | bad => rw [e] at h; exact h
  | exc c p S' => rw [e] at h; exact h
  | ok a S1 =>
    rw [e] at h
    have h' : RunF K T Z W ρ H (k a S1) Q := h
    refine fun ρ1 H1 v e1 m1 r1 => ⟨ρ1, a, S1, e1, m1, r1, ?_⟩
    revert h'
    cases k a S1 with
    | bad => exact fun h => h
    | exc c p S2 => exact fun h ρ2 H2 cls d e2 m2 x => h ρ2 H2 cls d (e1.trans e2 m1) m2 x
    | ok xs S2 => exact fun h ρ2 H2 p vs e2 m2 r2 h2 o k hn => h ρ2 H2 p vs (e1.trans e2 m1) m2 r2 h2 o k (e1.was m1 hn)
/-- what the rest of the turns gives, behind what is there -/
def RunA (K : PySem.W.Frag) (T : Nat → Addr) (ρ0 : Pm) (H0 : Hp) (acc : List D) (r : Res (List D)) (Q : VK) : Prop := match r with
  | .ok ys S => ∀ ρ' H' p vs, Ext ρ0 H0 ρ' H' → RS K T ρ' S H' → RDs K T ρ' H' (acc ++ ys) vs → H' p = some (.lst vs) → Out ρ' p → ¬ ρ'.kn p → H0 p = none → (acc ++ ys).length ≤ sizeMax → Q (.ref p) H'
  | _ => False
theorem calm_ok {α : Type} {m : M α} {a : α} {S1 : Store} (h : M.calm m S = .ok a S1) : m S = .ok a S1 := by
  unfold M.calm at h
  cases z : m S with
  | bad => rw [z] at h; cases h
  | exc c p S2 => rw [z] at h; cases h
  | ok b S2 => rw [z] at h; exact h
theorem calm_no {α : Type} {m : M α} {c : Nat} {p : List D} {S1 : Store} : M.calm m S ≠ .exc c p S1 := fun h => by
  unfold M.calm at h
  cases z : m S with
  | bad => rw [z] at h; cases h
  | exc c p S2 => rw [z] at h; cases h
  | ok b S2 => rw [z] at h; cases h
theorem lcGo_no {g : Gd} {t : Tg} {own : List Nat} {σ : Env} {c : Env → M Bool} {e : Env → M D} : ∀ {xs : List D} {S S1 : Store} {k : Nat} {p : List D}, lcGo g t own σ c e xs S ≠ .exc k p S1
  | [], S, S1, k, p => fun h => by
    unfold lcGo M.bind M.chk at h
    split at h
    · cases h
    · rename_i z; split at z <;> cases z
    · cases h
  | x :: xs, S, S1, k, p => fun h => by
    unfold lcGo at h
    unfold M.bind at h
    cases h1 : M.chk g S with
    | bad => rw [h1] at h; cases h
    | exc c p S2 => unfold M.chk at h1; split at h1 <;> cases h1
    | ok u S2 =>
      rw [h1] at h
      simp only at h
      cases h2 : setTg t x (wipeE σ own) with
      | none => rw [h2] at h; cases h
      | some σ2 =>
        rw [h2] at h
        simp only [M.opt, M.pure] at h
        cases h3 : M.calm (c σ2) S2 with
        | bad => rw [h3] at h; cases h
        | exc c p S3 => exact calm_no h3
        | ok b S3 =>
          rw [h3] at h
          cases b with
          | false => exact lcGo_no h
          | true =>
            simp only at h
            cases h4 : M.calm (e σ2) S3 with
            | bad => rw [h4] at h; cases h
            | exc c p S4 => exact calm_no h4
            | ok y S4 =>
              rw [h4] at h
              simp only at h
              cases h5 : lcGo g t own σ c e xs S4 with
              | bad => rw [h5] at h; cases h
              | exc c p S5 => exact lcGo_no h5
              | ok ys S5 => rw [h5] at h; cases h
section
variable {p : Addr} {vs ws : List V}
mutual
theorem RD.poke (hp : H p = some (.lst vs)) (hk : ¬ ρ.kn p) : ∀ {d : D} {v : V}, RD K T ρ H d v → RD K T ρ (upd H p (.lst ws)) d v
  | _, _, .non => .non
  | _, _, .bl b => .bl b
  | _, _, .int i => .int i
  | _, _, .str s => .str s
  | _, _, .tup h r => .tup (by
      rcases h with (h | ⟨o, h⟩) | h
      · exact .inl (.inl (by rw [upd_ne (ne_of h hp (by intro z; cases z))]; exact h))
      · exact .inl (.inr ⟨o, by rw [upd_ne (ne_of h hp (by intro z; cases z))]; exact h⟩)
      · exact .inr h) (RDs.poke hp hk r)
  | _, _, .fl (a := a) h q k r => .fl (by rw [upd_ne (fun z : a = p => hk (z ▸ k))]; exact h) q k (RDs.poke hp hk r)
  | _, _, .sc h r => .sc (h.mono fun o h => by rw [upd_ne (ne_of h hp (by intro z; cases z))]; exact h) (RDs.poke hp hk r)
  | _, _, .ob h1 h2 q1 q2 k1 k2 r => .ob (by rw [upd_ne (ne_of h1 hp (by intro z; unfold SlO at z; cases z))]; exact h1) (by rw [upd_ne (ne_of h2 hp (by intro z; cases z))]; exact h2) q1 q2 k1 k2 (RDs.poke hp hk r)
  | _, _, .ref h => .ref h
theorem RDs.poke (hp : H p = some (.lst vs)) (hk : ¬ ρ.kn p) : ∀ {ds : List D} {us : List V}, RDs K T ρ H ds us → RDs K T ρ (upd H p (.lst ws)) ds us
  | _, _, .nil => .nil
  | _, _, .cons r t => .cons (RD.poke hp hk r) (RDs.poke hp hk t)
end
theorem RS.poke (m : RS K T ρ S H) (hp : H p = some (.lst vs)) (hk : ¬ ρ.kn p) (ho : Out ρ p) : RS K T ρ S (upd H p (.lst ws)) where
  dom := m.dom
  inj := m.inj
  mu := fun n a h => by rw [upd_ne (fun z => ho n (by rw [← z]; exact h))]; exact m.mu n a h
  at_ := fun n o h => by
    obtain ⟨a, h1, h2⟩ := m.at_ n o h
    have ne : a ≠ p := fun z => ho n (by rw [← z]; exact h1)
    refine ⟨a, h1, ?_⟩
    cases o with
    | lst xs =>
      obtain ⟨us, h3, h4⟩ := h2
      exact ⟨us, by rw [upd_ne ne]; exact h3, h4.poke hp hk⟩
    | dic _ => exact h2.elim
    | ins _ _ => exact h2.elim
  kd := fun b h => by
    obtain ⟨u, hu⟩ := m.kd b h
    exact ⟨u, by rw [upd_ne (fun z => hk (by rw [← z]; exact h))]; exact hu⟩
theorem Ext.poke {ρ' : Pm} {H' : Hp} (e : Ext ρ H ρ' H') (hp : H p = none) : Ext ρ H ρ' (upd H' p (.lst ws)) := ⟨e.le, fun b o h q => by rw [upd_ne (ne_of_none h hp)]; exact e.fr b o h q, e.nw, e.kl, e.kw⟩
end
theorem wipe_twice {σ : L2.St} : ∀ vs : List Nat, L2.wipe (L2.wipe σ vs) vs = L2.wipe σ vs := by
  intro vs
  have key : ∀ (ws vs : List Nat) (σ : L2.St), (∀ w ∈ ws, w ∈ vs) → L2.wipe (L2.wipe σ ws) vs = L2.wipe σ vs := by
    intro ws
    induction ws with
    | nil => intro vs σ _; rfl
    | cons w ws ih =>
      intro vs σ h
      show L2.wipe ((L2.wipe σ ws).set w none) vs = _
      rw [wipe_set (h w (by simp)), ih vs σ fun z hz => h z (by simp [hz])]
  exact key vs vs σ fun _ h => h
theorem tF_lcm {elt tg iter : Expr} {ifs : List Expr} {scope : Scope} {own : List (Str × Nat)} {t : Tg} {it : XI} {c e : XE} (hc : X.calm = true) (hN : X.N.Nodup) (hi : PI X tg iter (tI X F W it)) (ok : BlkOk X.N X.env.scope scope own) (hnz : F.Y = none ∨ ∀ w ∈ own.map (·.2), w ≠ 0) (hsub : t.sub (own.map (·.2)) = true)
    (hg : ∀ (s : Shared) (H : Hp) (C : Addr) (cl : List (Str × Addr)) (fp : List Addr), PG (X.blk s H scope (compEnvC scope cl C X.env) fp) tg (gE X F t)) (ht : ∀ (s : Shared) (H : Hp) (C : Addr) (cl : List (Str × Addr)) (fp : List Addr), PTs (X.blk s H scope (compEnvC scope cl C X.env) fp) ifs (tT X F W0 c))
    (he : ∀ (s : Shared) (H : Hp) (C : Addr) (cl : List (Str × Addr)) (fp : List Addr), PE (X.blk s H scope (compEnvC scope cl C X.env) fp) elt (tE X F W0 e)) {σ : L2.St} {H : Hp} {Q : VK} (hl : σ.length = X.N.length)
    (h : tF X F W (fun σ => M.bind (evI F.cal it σ) fun p => lcAll p t (own.map (·.2)) σ (fun σ => M.bind (ev F.cal c σ) fun x => M.opt (truth x)) (fun σ => ev F.cal e σ)) σ H Q) :
    tLc (tI X F W it) (gE X F t) (tT X F W0 c) (tE X F W0 e) (own.map (·.2)) σ H Q := by
  obtain ⟨ρ0, s, S0, m0, e0, r0⟩ := h
  refine ⟨ρ0, s, S0, m0, e0, (RunF.bind (rA := fun ρ H p J => IterR X.K F.T ρ H p J) r0).mono ?_⟩
  rintro J H1 ⟨ρ1, ⟨xs, g⟩, S1, x1, m1, itr, r1⟩ D0 hD
  have e1 := e0.mono m0 x1
  have hlen : xs.length ≤ sizeMax := by
    by_cases hz : xs.length ≤ sizeMax
    · exact hz
    · unfold lcAll at r1
      rw [decide_eq_false hz] at r1
      exact r1.elim
  have r1 : RunF X.K F.T F.Z (fun c d H => W c d σ H) ρ1 H1 (lcGo g t (own.map (·.2)) s (fun σ => M.bind (ev F.cal c σ) fun x => M.opt (truth x)) (fun σ => ev F.cal e σ) xs S1) Q := by
    unfold lcAll at r1
    rw [decide_eq_true hlen] at r1
    exact r1
  have nk0 : ¬ ρ1.kn D0 := fun k => by
    obtain ⟨u, hu⟩ := m1.kd D0 k
    rw [hD] at hu; cases hu
  refine ⟨fun i n H => n = xs.length - i ∧ i ≤ xs.length ∧ ∃ ρ S acc accV, Ext ρ1 H1 ρ H ∧ RS X.K F.T ρ S H ∧ H D0 = some (.lst accV) ∧ Out ρ D0 ∧ ¬ ρ.kn D0 ∧ RDs X.K F.T ρ H acc accV ∧ acc.length ≤ i ∧
    RunA X.K F.T ρ1 H1 acc (lcGo g t (own.map (·.2)) s (fun σ => M.bind (ev F.cal c σ) fun x => M.opt (truth x)) (fun σ => ev F.cal e σ) (xs.drop i) S) Q, ⟨xs.length, by simp, Nat.zero_le _, ρ1, S1, [], [], ext_new hD, m1.new hD, upd_same, m1.out_new hD, nk0, .nil, Nat.le_refl _, ?_⟩, ?_⟩
  · rw [List.drop_zero]
    unfold RunA
    revert r1
    cases hz : lcGo g t (own.map (·.2)) s (fun σ => M.bind (ev F.cal c σ) fun x => M.opt (truth x)) (fun σ => ev F.cal e σ) xs S1 with
    | bad => exact fun r => r
    | exc k p S2 => exact absurd hz lcGo_no
    | ok ys S2 => exact fun r ρ' H' p vs x m r' hp o k hn _ => r ρ' H' p vs x m (by simpa using r') hp o k hn
  rintro i n H2 ⟨rfl, hi, ρ, S, acc, accV, x2, m2, hD2, o2, k2, ra, la, r⟩
  have hst : stands S g = true := by
    by_cases hst : stands S g = true
    · exact hst
    · have hz : M.chk g S = .bad := by unfold M.chk; simp [hst]
      cases hx : xs.drop i with
      | nil => rw [hx] at r; unfold lcGo M.bind at r; rw [hz] at r; exact r.elim
      | cons d ds => rw [hx] at r; unfold lcGo M.bind at r; rw [hz] at r; exact r.elim
  have hok : M.chk g S = .ok () S := by unfold M.chk; simp [hst]
  obtain ⟨hgo, hstop, hyld⟩ := itr ρ S H2 x2 m2 hst
  by_cases hlt : i < xs.length
  · refine .inr ⟨hgo i hlt, fun H => ∃ ρ S acc accV, Ext ρ1 H1 ρ H ∧ RS X.K F.T ρ S H ∧ H D0 = some (.lst accV) ∧ Out ρ D0 ∧ ¬ ρ.kn D0 ∧ RDs X.K F.T ρ H acc accV ∧ acc.length ≤ i + 1 ∧
      RunA X.K F.T ρ1 H1 acc (lcGo g t (own.map (·.2)) s (fun σ => M.bind (ev F.cal c σ) fun x => M.opt (truth x)) (fun σ => ev F.cal e σ) (xs.drop (i + 1)) S) Q, fun H' q => ⟨xs.length - (i + 1), by omega, rfl, hlt, q⟩, fun v H3 yv => ?_⟩
    obtain ⟨x3, m3, d, hd, rd⟩ := hyld i v H3 hlt yv
    have hdr : xs.drop i = d :: xs.drop (i + 1) := by
      rw [List.drop_eq_getElem_cons hlt]
      rw [List.getElem?_eq_getElem hlt] at hd
      cases hd; rfl
    rw [hdr] at r
    unfold lcGo at r
    rw [M.bind_ok hok] at r
    cases hs2 : setTg t d (wipeE s (own.map (·.2))) with
    | none => rw [hs2] at r; exact r.elim
    | some s2 =>
      rw [hs2] at r
      have hD3 := x3.fr D0 _ hD2 o2
      refine ⟨ρ, wipeE s (own.map (·.2)), S, d, s2, m3, ((e1.mono m1 x2).mono m2 x3).wipe _ (fun w hw => by
        obtain ⟨p, hp, rfl⟩ := List.mem_map.mp hw
        rw [hl]; exact ix_lt (ok.ix p hp)) hnz, rd, hs2, fun σV2 e2 w2 => ⟨?_, ?_⟩⟩
      · rw [w2 _ hsub, wipe_twice]
      · have r : RunA X.K F.T ρ1 H1 acc (M.bind (M.calm (M.bind (ev F.cal c s2) fun x => M.opt (truth x))) (fun b => match b with
            | true => M.bind (M.calm (ev F.cal e s2)) fun y => M.bind (lcGo g t (own.map (·.2)) s (fun σ => M.bind (ev F.cal c σ) fun x => M.opt (truth x)) (fun σ => ev F.cal e σ) (xs.drop (i + 1))) fun ys => M.pure (y :: ys)
            | false => lcGo g t (own.map (·.2)) s (fun σ => M.bind (ev F.cal c σ) fun x => M.opt (truth x)) (fun σ => ev F.cal e σ) (xs.drop (i + 1))) S) Q := r
        refine ⟨ρ, s2, S, m3, e2, ?_⟩
        cases h3 : M.calm (tst F.cal c s2) S with
        | bad => unfold tst at h3; rw [M.bind_bad h3] at r; exact r.elim
        | exc k p S3 => exact absurd h3 calm_no
        | ok b S3 =>
          rw [calm_ok h3]
          unfold tst at h3
          rw [M.bind_ok h3] at r
          intro ρ4 H4 b' x4 m4 hb
          have hb : b = b' := hb
          subst hb
          have hD4 := x4.fr D0 _ hD3 o2
          have o4 := x4.out hD3 o2
          have k4 : ¬ ρ4.kn D0 := fun k => by
            rcases x4.kw D0 k with z | z
            · exact k2 z
            · rw [hD3] at z; cases z
          have y4 := (x2.trans x3 m2).trans x4 m3
          cases b with
          | false =>
            rw [if_neg (by decide)]
            exact ⟨ρ4, S3, acc, accV, y4, m4, hD4, o4, k4, (ra.mono m2 x3).mono m3 x4, by omega, r⟩
          | true =>
            rw [if_pos rfl]
            refine ⟨ρ4, s2, S3, m4, e2.mono m3 x4, ?_⟩
            cases h4 : M.calm (ev F.cal e s2) S3 with
            | bad => simp only at r; rw [M.bind_bad h4] at r; exact r.elim
            | exc k p S4 => exact absurd h4 calm_no
            | ok y S4 =>
              simp only at r
              rw [M.bind_ok h4] at r
              rw [calm_ok h4]
              intro ρ5 H5 yv x5 m5 ry
              have hD5 := x5.fr D0 _ hD4 o4
              have o5 := x5.out hD4 o4
              have k5 : ¬ ρ5.kn D0 := fun k => by
                rcases x5.kw D0 k with z | z
                · exact k4 z
                · rw [hD4] at z; cases z
              have ra5 := ((ra.mono m2 x3).mono m3 x4).mono m4 x5
              refine ⟨accV, hD5, Nat.lt_of_lt_of_le (by rw [← ra.length]; exact Nat.lt_of_le_of_lt la hlt) (sizeMax_le hlen), ρ5, S4, acc ++ [y], accV ++ [yv], (y4.trans x5 m4).poke hD, m5.poke hD5 k5 o5, upd_same, o5, k5, (ra5.append (.cons ry .nil)).poke hD5 k5, by simp; omega, ?_⟩
              generalize hL : lcGo g t (own.map (·.2)) s (fun σ => M.bind (ev F.cal c σ) fun x => M.opt (truth x)) (fun σ => ev F.cal e σ) (xs.drop (i + 1)) = L at r ⊢
              cases hz : L S4 with
              | bad => rw [M.bind_bad hz] at r; exact r
              | exc k p S5 => rw [← hL] at hz; exact absurd hz lcGo_no
              | ok ys S5 =>
                rw [M.bind_ok hz] at r
                exact fun ρ' H' p vs x m r' hp o k hn hl => r ρ' H' p vs x m (by simpa using r') hp o k hn (by simpa using hl)
  · have hi : i = xs.length := by omega
    subst hi
    rw [List.drop_length] at r
    unfold lcGo at r
    rw [M.bind_ok hok] at r
    refine .inl ⟨hstop, r ρ H2 D0 accV x2 m2 (by simpa using ra) hD2 o2 k2 hD (by simpa using Nat.le_trans la hlen)⟩
/-- the comprehension's parts -/
structure LcOk (X : Cx) (F : Fx) (W : WX) (elt tg iter : Expr) (ifs : List Expr) (scope : Scope) (own : List (Str × Nat)) (t : Tg) (it : XI) (c e : XE) : Prop where
  hi : PI X tg iter (tI X F W it)
  ok : BlkOk X.N X.env.scope scope own
  nz : F.Y = none ∨ ∀ w ∈ own.map (·.2), w ≠ 0
  sub : t.sub (own.map (·.2)) = true
  hg : ∀ (s : Shared) (H : Hp) (C : Addr) (cl : List (Str × Addr)) (fp : List Addr), PG (X.blk s H scope (compEnvC scope cl C X.env) fp) tg (gE X F t)
  ht : ∀ (s : Shared) (H : Hp) (C : Addr) (cl : List (Str × Addr)) (fp : List Addr), PTs (X.blk s H scope (compEnvC scope cl C X.env) fp) ifs (tT X F W0 c)
  he : ∀ (s : Shared) (H : Hp) (C : Addr) (cl : List (Str × Addr)) (fp : List Addr), PE (X.blk s H scope (compEnvC scope cl C X.env) fp) elt (tE X F W0 e)
  hs : ∀ x, foldedSetIterable iter X.env x = pure x
abbrev lcX (own : List (Str × Nat)) (t : Tg) (it : XI) (c e : XE) : XE := .lcm (own.map (·.2)) t it c e
section
variable {elt tg iter : Expr} {ifs : List Expr} {scope : Scope} {own : List (Str × Nat)} {t : Tg} {it : XI} {c e : XE} {pos : Pos}
theorem sE_lcm (hc : X.calm = true) (hN : X.N.Nodup) (L : LcOk X F W elt tg iter ifs scope own t it c e) : PE X (.ListComp elt [⟨tg, iter, ifs, 0⟩] scope pos) (tE X F W (lcX own t it c e)) :=
  PEl (pe_lc hc hN L.hi L.ok L.hg L.ht L.he L.hs) fun σ H Q hl q => tF_lcm hc hN L.hi L.ok L.nz L.sub L.hg L.ht L.he hl (fl_of (fun _ => rfl) q)
theorem sE_mlcm (hc : X.calm = true) (hN : X.N.Nodup) (L : LcOk X F W elt tg iter ifs scope own t it c e) : PE X (.ListComp elt [⟨tg, iter, ifs, 0⟩] scope pos) (tE X F W (.mat (lcX own t it c e))) :=
  PEl (pe_lc hc hN L.hi L.ok L.hg L.ht L.he L.hs) fun σ H Q hl q => tF_lcm hc hN L.hi L.ok L.nz L.sub L.hg L.ht L.he hl (mat_of (fun _ => rfl) q)
theorem gName_of {i : Nat} {v : V} {σ : L2.St} {H : Hp} {Q : L2.St → Hp → Prop} (hl : i < σ.length) (h : gE X F (.nm i) v σ H Q) : gName i v σ H Q := by
  obtain ⟨ρ, s, S, d, s2, m, e, r, hs, q⟩ := h
  cases hs
  exact q _ (e.set i hl r) fun vs hv => wipe_set (by simpa [Tg.sub] using hv)
/-- name = [..] -/
theorem sS_setLc {i : Nat} {y : Str} {py spos : Pos} (hc : X.calm = true) (hN : X.N.Nodup) (L : LcOk X F W elt tg iter ifs scope own t it c e) (hy : X.N[i]? = some y) (hyl : X.env.scope.names.lookup y = some .local)
    (hsw : swapsWith (.ListComp elt [⟨tg, iter, ifs, 0⟩] scope pos) (some (.Name y py)) spos.line X.env = pure true) :
    SS X F W (.Assign [.Name y py] (.ListComp elt [⟨tg, iter, ifs, 0⟩] scope pos) spos) (.set (.nm i) (lcX own t it c e)) :=
  PSl (ps_setLc hc hN hy hyl hsw L.hi L.ok L.hg L.ht L.he L.hs) fun D σ H hl h => tF_lcm hc hN L.hi L.ok L.nz L.sub L.hg L.ht L.he hl (fl_of (fun _ => rfl) (Go.mono (asg_of h) fun v H1 q => gName_of (by rw [hl]; exact ix_lt hy) q))
theorem sS_setMLc {i : Nat} {y : Str} {py spos : Pos} (hc : X.calm = true) (hN : X.N.Nodup) (L : LcOk X F W elt tg iter ifs scope own t it c e) (hy : X.N[i]? = some y) (hyl : X.env.scope.names.lookup y = some .local)
    (hsw : swapsWith (.ListComp elt [⟨tg, iter, ifs, 0⟩] scope pos) (some (.Name y py)) spos.line X.env = pure true) :
    SS X F W (.Assign [.Name y py] (.ListComp elt [⟨tg, iter, ifs, 0⟩] scope pos) spos) (.set (.nm i) (.mat (lcX own t it c e))) :=
  PSl (ps_setLc hc hN hy hyl hsw L.hi L.ok L.hg L.ht L.he L.hs) fun D σ H hl h => tF_lcm hc hN L.hi L.ok L.nz L.sub L.hg L.ht L.he hl (mat_of (fun _ => rfl) (Go.mono (asg_of h) fun v H1 q => gName_of (by rw [hl]; exact ix_lt hy) q))
theorem sTs_nil {X' : Cx} (hk : X'.K = X.K) : PTs X' [] (tT X F W0 .yes) := ⟨fun pins s σ H Q I h => pts_nil.run pins s σ H Q I (by
  obtain ⟨ρ, s, S, m, e, r⟩ := h
  exact Run.here (a := true) (v := true) m r rfl)⟩
end
end
end Lk
end
section
/-! E10: calls of defs; what a def promises. -/
set_option Elab.async false
set_option linter.all false
set_option maxRecDepth 100000
set_option maxHeartbeats 2000000
namespace Lk
open PySem PySem.Spec PyProof.Rows L2 SlX
section
variable {X : Cx} {F : Fx} {W : WX} {K : PySem.W.Frag} {T : Nat → Addr} {Z : Xs} {Y : Option Slf} {ρ : Pm} {H : Hp} {S : Store}
/-- the promise: what the evaluator computes -/
def spF (K : PySem.W.Frag) (T : Nat → Addr) (Z : Xs) (c : List D → M D) : Sp := fun vs H Q E => ∃ ρ ds S, RS K T ρ S H ∧ RDs K T ρ H ds vs ∧ Run K T Z (RD K T) E ρ H (c ds S) Q
/-- an error of a callee reaches the wish -/
def Psv (X : Cx) (W : WX) : Prop := ∀ σ, PassesAt (CX X.prog X.w) X σ (fun cls d H => W cls d σ H)
theorem psv_of (tk : Takes X W) : Psv X W := fun σ => passAt tk σ
theorem psv_none : Psv X W0 := fun σ pins H s e s' I c => by
  obtain ⟨_, _, _, _, _, _, _, _, _, _, _, _, z⟩ := c
  exact z.elim
/-- a value that stands whatever the heap is (a default, a constant) -/
def Fixed (K : PySem.W.Frag) (T : Nat → Addr) (d : D) (v : V) : Prop := ∀ (ρ : Pm) (H : Hp), RD K T ρ H d v
inductive Fixeds (K : PySem.W.Frag) (T : Nat → Addr) : List D → List V → Prop
  | nil : Fixeds K T [] []
  | cons {d : D} {ds : List D} {v : V} {vs : List V} : Fixed K T d v → Fixeds K T ds vs → Fixeds K T (d :: ds) (v :: vs)
theorem Fixeds.rd : ∀ {ds : List D} {vs : List V}, Fixeds K T ds vs → RDs K T ρ H ds vs
  | _, _, .nil => .nil
  | _, _, .cons r t => .cons (r _ _) t.rd
/-- what a caller knows of a def -/
structure Known (X : Cx) (F : Fx) (k : Nat) (x : Str) (j : Nat) (dfl : List D) : Prop where
  ex : ∃ (f : Addr) (fd : FuncData) (ps : List Str) (ds : List Value) (dvs : List V), X.mg x = some (.ref f) ∧ PySem.W.keepIn X.K (.ref f) = true ∧ FnOk X.prog X.w X.K X.mg X.base (CX X.prog X.w) k f fd ps (spF X.K F.T F.Z (F.cal j)) ∧ Binds X.K fd ps ds ∧ Vals dvs ds ∧ Fixeds X.K F.T dfl dvs
/-- the arguments as they come, then the defaults -/
def planOf (n : Nat) (dfl : List D) : List Pl := (List.range n).map Pl.arg ++ dfl.map Pl.dfl
theorem allSome_append {α β : Type} {f : α → Option β} : ∀ {xs ys : List α} {us ws : List β}, allSome f xs = some us → allSome f ys = some ws → allSome f (xs ++ ys) = some (us ++ ws)
  | [], _, _, _, h, h2 => by cases h; exact h2
  | x :: xs, ys, us, ws, h, h2 => by
    unfold allSome at h
    split at h
    · cases h
    · rename_i y e
      split at h
      · cases h
      · rename_i zs e2
        cases h
        show allSome f (x :: (xs ++ ys)) = _
        unfold allSome
        rw [e, allSome_append e2 h2]
        rfl
theorem planned_plan {as dfl : List D} : planned (planOf as.length dfl) as = some (as ++ dfl) := by
  unfold planned planOf
  refine allSome_append ?_ ?_
  · have key : ∀ (pre post : List D), as = pre ++ post → allSome (fun p => match p with | .arg i => as[i]? | .dfl d => some d) ((List.range' pre.length post.length).map Pl.arg) = some post := by
      intro pre post
      induction post generalizing pre with
      | nil => intro _; rfl
      | cons x post ih =>
        intro e
        rw [List.length_cons, List.range'_succ, List.map_cons]
        unfold allSome
        have h1 : as[pre.length]? = some x := by rw [e]; simp
        simp only [h1]
        have := ih (pre ++ [x]) (by rw [e]; simp)
        rw [List.length_append] at this
        simp only [List.length_cons, List.length_nil] at this
        rw [this]
    have := key [] as (by simp)
    rw [List.range_eq_range']
    exact this
  · induction dfl with
    | nil => rfl
    | cons d dfl ih =>
      rw [List.map_cons]
      unfold allSome
      simp only
      rw [ih]
theorem call_of {j : Nat} {xs : XEs} {dfl : List D} {dvs : List V} (hd : Fixeds X.K F.T dfl dvs) {σ : L2.St} {H : Hp} {Q : VK} (h : tE X F W (.call j xs (planOf xs.len dfl)) σ H Q) :
    tAs X F W xs σ H fun vs H1 => spF X.K F.T F.Z (F.cal j) (vs ++ dvs) H1 Q (fun cls d H => W cls d σ H) := by
  refine Go.mono (Go.bind (rA := RDs X.K F.T) h) fun vs H1 q => ?_
  obtain ⟨ρ, s, ds, S, S0, o, m, e, r, q⟩ := q
  rw [← evs_len o, planned_plan] at q
  exact ⟨ρ, ds ++ dfl, S, m, r.append hd.rd, q⟩
theorem sE_call {k j : Nat} {x : Str} {e : Expr} {es : List Expr} {xs : XEs} {dfl : List D} {p pos : Pos} (G : Known X F k x j dfl) (hr : Room k X.A) (hg : Gl X x) (hx : Psv X W) (ha : PA X (e :: es) (tAs X F W xs)) (hdb : (x == ("__debug__" : Str)) = false)
    (he : starEach (e :: es) X.env = (false, eval e X.env) :: starEach es X.env) (hpl : (backTo pos (starEach es X.env)).any (·.1) = false) : PE X (.Call (.Name x p) (e :: es) [] pos) (tE X F W (.call j xs (planOf xs.len dfl))) := by
  obtain ⟨f, fd, ps, ds, dvs, h1, h2, h3, h4, h5, h6⟩ := G.ex
  exact PEw (pe_callSD (E := fun σ cls d H => W cls d σ H) h3 hr hg h1 h2 h4 h5 hx ha hdb he hpl) fun σ H Q q => call_of h6 q
theorem sE_call0 {k j : Nat} {x : Str} {dfl : List D} {p pos : Pos} (G : Known X F k x j dfl) (hr : Room k X.A) (hg : Gl X x) (hx : Psv X W) (hdb : (x == ("__debug__" : Str)) = false) : PE X (.Call (.Name x p) [] [] pos) (tE X F W (.call j .nil (planOf 0 dfl))) := by
  obtain ⟨f, fd, ps, ds, dvs, h1, h2, h3, h4, h5, h6⟩ := G.ex
  refine ⟨fun pins s σ H Q I q => wpAny_Call_Name_kw (ld_glob I hg h1 ?_ hdb)⟩
  have q2 := call_of (xs := .nil) h6 q
  obtain ⟨ρ, s', S, m, e, r⟩ := q2
  exact PySem.W.callWith_K0 I.kIn h2 (run_fnSD (E := fun σ cls d H => W cls d σ H) (us := []) (vs := []) h3 hr h4 h5 (hx σ) I .nil (Run.here (a := []) m r RDs.nil))
/-- a global that is a constant -/
theorem sE_glob {x : Str} {pos : Pos} {d : D} {v : V} {u : Value} (hg : Gl X x) (hm : X.mg x = some u) (r : RelV v u) (hd : Fixed X.K F.T d v) (hdb : (x == ("__debug__" : Str)) = false) : PE X (.Name x pos) (tE X F W (.con d)) :=
  PEw (pe_glob hg hm r hdb) fun σ H Q q => by
    obtain ⟨ρ, s, S, m, e, z⟩ := q
    exact Run.here (a := d) m z (hd ρ H)

/-! ### a def keeps its promise -/
theorem envR_start {N : List Str} {ds : List D} {vs : List V} {n : Nat} (r : RDs K T ρ H ds vs) (hn : n = N.length - vs.length) (hl : vs.length ≤ N.length) : EnvR K T none ρ H (ds.map some ++ List.replicate n none) (L2.start N vs) := by
  have l1 := r.length
  refine ⟨?_, (fun y hy => nomatch hy), fun i d hi q => ?_⟩
  · unfold L2.start
    simp only [List.length_append, List.length_map, List.length_replicate]
    omega
  · unfold L2.start
    by_cases h : i < ds.length
    · rw [List.getElem?_append_left (by simpa using h)] at q
      rw [List.getElem?_append_left (by simpa [← l1] using h)]
      rw [List.getElem?_map] at q ⊢
      cases z : ds[i]? with
      | none => rw [z] at q; cases q
      | some d' =>
        rw [z] at q
        cases q
        obtain ⟨v, hv, rv⟩ := r.get z
        exact ⟨v, by rw [hv]; rfl, rv⟩
    · rw [List.getElem?_append_right (by simpa using h)] at q
      rw [List.getElem?_replicate] at q
      split at q
      · cases q
      · cases q
/-- the body's flow, as a call's end -/
theorem def_of {d : Def} {N : List Str} (hi : d.ini = none) (hN : N.length = d.par + d.loc) (hY : F.Y = none) {E : XK} {vs : List V} {Q : VK} (h : spF X.K F.T F.Z (runDef F.cal d) vs H Q E) :
    vs.length = d.par ∧ tS X F (fun cls dd _ H => E cls dd H) (exs F.cal d.body) { nx := fun _ H' => Q .non H', rt := Q } (L2.start N vs) H := by
  obtain ⟨ρ, ds, S, m, r, q⟩ := h
  unfold runDef at q
  by_cases hz : ds.length = d.par
  · rw [decide_eq_true hz, hi] at q
    have hl : vs.length = d.par := by rw [← r.length]; exact hz
    refine ⟨hl, ρ, ds.map some ++ List.replicate d.loc none, S, m, by rw [hY]; exact envR_start r (by omega) (by omega), ?_⟩
    simp only at q
    unfold M.bind M.calm at q
    revert q
    cases exs F.cal d.body (ds.map some ++ List.replicate d.loc none) S with
    | bad => exact fun q => q
    | exc c p S1 => exact fun q => q
    | ok f S1 =>
      cases f with
      | nx σ => exact fun q ρ' H' σV e' m' _ => q ρ' H' .non e' m' .non
      | rt v => exact fun q ρ' H' w e' m' rv => q ρ' H' w e' m' rv
      | xc c p σ => exact fun q ρ' H' σV cls dd e' m' _ x => q ρ' H' cls dd e' m' x
      | bk σ => exact fun q => q.elim
      | ct σ => exact fun q => q.elim
  · rw [decide_eq_false hz] at q
    exact q.elim
/-- a def of the text keeps what the evaluator says, by the defs below it -/
theorem fn_ok {P : Program} {w : World} {mg : Str → Option Value} {base : Heap} {f : Addr} {fd : FuncData} {x qual : Str} {params : Arguments} {body : List Stmt} {scope : Scope} {dvs : List V} {kws : List (Str × V)} {N ps : List Str} {k : Nat} {d : Def} (hY : F.Y = none)
    (U : FunD K x qual params body scope dvs kws f fd) (Sc : FnScope N ps scope) (hi : d.ini = none) (hN : N.length = d.par + d.loc) (hp : ps.length = d.par)
    (hb : ∀ (X : Cx) (E : XK), X.prog = P → X.w = w → X.K = K → X.mg = mg → X.base = base → X.N = N → X.env.scope = scope → Room k X.A → X.calm = true → (∀ y, X.fn y = true) → X.stack = X.env :: X.outer → X.env.frame = some X.env.locals → Takes X (fun cls dd _ H => E cls dd H) → PassesOwn (model X.prog X.w) X.A X.env X.xe →
      SSs X F (fun cls dd _ H => E cls dd H) body d.body) : FnOk P w K mg base (CX P w) (k + 1) f fd ps (spF K F.T F.Z (runDef F.cal d)) := by
  refine U.ok Sc (fun vs H Q E h => ?_) (fun cdv A outer s H vs Q E hr h => ⟨_, hb (cxOf (CX P w) P w K mg base N qual scope f cdv A outer s H E) E rfl rfl rfl rfl rfl rfl rfl hr rfl (fun _ => rfl) rfl rfl (takes_of rfl rfl rfl rfl) (passes_of rfl), ?_⟩)
  · obtain ⟨ρ, ds, S, m, r, q⟩ := h
    unfold runDef at q
    by_cases hz : ds.length = d.par
    · rw [← r.length, hz, hp]
    · rw [decide_eq_false hz] at q
      exact q.elim
  · exact (def_of (X := cxOf (CX P w) P w K mg base N qual scope f cdv A outer s H E) hi hN hY h).2
end
end Lk
end
section
/-! F1: isinstance. -/
set_option Elab.async false
set_option linter.all false
set_option maxRecDepth 100000
set_option maxHeartbeats 2000000
namespace Lk
open PySem PySem.Spec PyProof.Rows L2 SlX
def kdN : Kd → String
  | .int => "int"
  | .bool => "bool"
  | .str => "str"
  | .tup => "tuple"
  | .lst => "list"
  | .dic => "dict"
  | .own _ => "object"
def kdV (T : Nat → Addr) : Kd → V
  | .own c => .ref (T c)
  | k => .ty (kdN k)
def kdU (T : Nat → Addr) : Kd → Value
  | .own c => .ref (T c)
  | k => .type (kdN k)
def kdOk (n : Nat) : Kd → Bool
  | .own c => decide (c < n)
  | _ => true
/-- what is asked of the own classes: that they are plain ones with slots, and apart -/
structure ClsF (K : PySem.W.Frag) (T : Nat → Addr) (n : Nat) : Prop where
  sc : ∀ c, c < n → SCls K (T c)
  is : ∀ c, c < n → SIsi K (T c)
  k1 : ∀ c t, c < n → t ∈ ["NoneType", "bool", "int", "str", "tuple", "list", "dict"] → PySem.W.kitOne K (.type t) (.ref (T c)) = some false
  k2 : ∀ c t, c < n → t ∈ ["int", "bool", "str", "tuple", "list", "dict"] → PySem.W.kitOne K (.ref (T c)) (.type t) = some false
  k3 : ∀ c e, c < n → e < n → PySem.W.kitOne K (.ref (T c)) (.ref (T e)) = some (e == c)
section
variable {X : Cx} {F : Fx} {W : WX} {K : PySem.W.Frag} {T : Nat → Addr} {ρ : Pm} {H : Hp} {S : Store} {n : Nat}
theorem kdV_cls (k : Kd) : ClsV (kdV T k) (kdU T k) := by cases k <;> first | exact .ty _ | exact .own _
theorem kdV_rel (k : Kd) : RelV (kdV T k) (kdU T k) := by cases k <;> rfl
theorem kitAny_of {t : Value} {p : Kd → Bool} : ∀ {ks : List Kd}, (∀ k ∈ ks, PySem.W.kitOne K t (kdU T k) = some (p k)) → PySem.W.kitAny K t (ks.map (kdU T)) = some (ks.any p)
  | [], _ => rfl
  | k :: ks, h => by
    show (match PySem.W.kitOne K t (kdU T k) with
      | some true => some true
      | some false => PySem.W.kitAny K t (ks.map (kdU T))
      | none => none) = some (ks.cons k |>.any p)
    rw [h k List.mem_cons_self, List.any_cons]
    cases p k
    · exact kitAny_of fun k hk => h k (List.mem_cons_of_mem _ hk)
    · rfl
def tyN : D → String
  | .non => "NoneType"
  | .bl _ => "bool"
  | .int _ => "int"
  | .str _ => "str"
  | .tup _ => "tuple"
  | .fl _ => "list"
  | .sc _ => "list"
  | .dc _ => "dict"
  | .ob _ _ => "object"
  | .ref _ => "list"
theorem kit_ty (C : ClsF K T n) {t : String} {p : Kd → Bool} (k : Kd) (hk : kdOk n k = true) (h1 : t ∈ ["NoneType", "bool", "int", "str", "tuple", "list", "dict"]) (h2 : ∀ c, p (.own c) = false)
    (h3 : ∀ k, (∀ c, k ≠ .own c) → PySem.W.kitOne K (.type t) (.type (kdN k)) = some (p k)) : PySem.W.kitOne K (.type t) (kdU T k) = some (p k) := by
  cases k with
  | own c => rw [h2]; exact C.k1 c t (by simpa [kdOk] using hk) h1
  | _ => exact h3 _ (fun c z => nomatch z)
/-- a value's type, and what isinstance says of it -/
theorem kind_of (C : ClsF K T n) {ks : List Kd} {d : D} {v : V} {b : Bool} (m : RS K T ρ S H) (r : RD K T ρ H d v) (hk : ∀ k ∈ ks, kdOk n k = true) (h : kindOf S n ks d = some b) :
    (∃ t, TyX K H v t ∧ PySem.W.kitAny K t (ks.map (kdU T)) = some b) ∨ ∃ (c : Nat) (a dx : Addr) (vs : List (Option V)), v = .ref a ∧ c < n ∧ Slt H a (T c) dx vs ∧ PySem.W.kitAny K (.ref (T c)) (ks.map (kdU T)) = some b := by
  cases r with
  | non =>
    cases h
    exact .inl ⟨_, .base .non, kitAny_of fun k hm => kit_ty C (p := fun k => kindIs k .non) k (hk k hm) (by decide) (fun _ => rfl) (fun k hn => by cases k <;> first | exact absurd rfl (hn _) | kernel_rfl)⟩
  | bl x =>
    cases h
    exact .inl ⟨_, .base (.bl x), kitAny_of fun k hm => kit_ty C (p := fun k => kindIs k (.bl x)) k (hk k hm) (by decide) (fun _ => rfl) (fun k hn => by cases k <;> first | exact absurd rfl (hn _) | kernel_rfl)⟩
  | int x =>
    cases h
    exact .inl ⟨_, .base (.int x), kitAny_of fun k hm => kit_ty C (p := fun k => kindIs k (.int x)) k (hk k hm) (by decide) (fun _ => rfl) (fun k hn => by cases k <;> first | exact absurd rfl (hn _) | kernel_rfl)⟩
  | str x =>
    cases h
    exact .inl ⟨_, .base (.str _), kitAny_of fun k hm => kit_ty C (p := fun k => kindIs k (.str x)) k (hk k hm) (by decide) (fun _ => rfl) (fun k hn => by cases k <;> first | exact absurd rfl (hn _) | kernel_rfl)⟩
  | @tup a xs vs hq _ =>
    cases h
    refine .inl ⟨.type "tuple", ?_, kitAny_of fun k hm => kit_ty C (p := fun k => kindIs k (.tup xs)) k (hk k hm) (by decide) (fun _ => rfl) (fun k hn => by cases k <;> first | exact absurd rfl (hn _) | kernel_rfl)⟩
    rcases hq with (hq | ⟨o, hq⟩) | ⟨o, its, n', h1, h2, _⟩
    · exact .base (.tup hq)
    · exact .fTuple hq
    · exact .kTuple h1 h2
  | @fl a xs vs hq _ _ _ =>
    cases h
    exact .inl ⟨.type "list", .base (.lst hq), kitAny_of fun k hm => kit_ty C (p := fun k => kindIs k (.fl xs)) k (hk k hm) (by decide) (fun _ => rfl) (fun k hn => by cases k <;> first | exact absurd rfl (hn _) | kernel_rfl)⟩
  | sc _ _ => cases h
  | @ob a dx c fs vs h1 h2 _ _ _ _ _ =>
    unfold kindOf at h
    obtain ⟨hc, h⟩ := ite_some h
    cases h
    refine .inr ⟨c, a, dx, vs.map some, rfl, hc, .inr ⟨h1, h2⟩, kitAny_of (p := fun k => match k with | .own k => k == c | _ => false) fun k hm => ?_⟩
    have ho := hk k hm
    cases k with
    | own e => exact C.k3 c e hc (by simpa [kdOk] using ho)
    | _ => exact C.k2 c _ hc (by decide)
  | @ref k a hn =>
    simp only [kindOf] at h
    cases z : S.get k with
    | none => rw [z] at h; cases h
    | some o =>
      rw [z] at h
      obtain ⟨a', h1, h2⟩ := m.at_ _ _ z
      rw [hn] at h1
      cases h1
      cases o with
      | lst xs =>
        obtain ⟨vs, h3, _⟩ := h2
        cases h
        exact .inl ⟨.type "list", .base (.lst h3), kitAny_of fun k hm => kit_ty C (p := fun k => match k with | .lst => true | _ => false) k (hk k hm) (by decide) (fun _ => rfl) (fun k hn => by cases k <;> first | exact absurd rfl (hn _) | kernel_rfl)⟩
      | dic _ => exact h2.elim
      | ins _ _ => exact h2.elim
theorem kitOne_of {t u : Value} {b : Bool} (h : PySem.W.kitAny K t [u] = some b) : PySem.W.kitOne K t u = some b := by
  unfold PySem.W.kitAny at h
  revert h
  cases PySem.W.kitOne K t u with
  | none => exact fun h => h
  | some c => cases c <;> exact fun h => h
/-- isinstance(x, (c1, c2, ..)), x an instance with slots -/
def rIsiSlT (K : PySem.W.Frag) : List V → Hp → VK → Prop := fun xs H Q => ∃ (a C dx tp : Addr) (vs : List (Option V)) (cs : List V) (us : List Value) (b : Bool), xs = [V.ref a, .ref tp] ∧ H tp = some (.tup cs) ∧ Paired ClsV cs us ∧ Slt H a C dx vs ∧ SCls K C ∧ SIsi K C ∧ PySem.W.kitAny K (.ref C) us = some b ∧ Q (.bl b) H
theorem call_isiSlT : CallR X (.builtin "isinstance") (rIsiSlT X.K) := by
  intro pins s σ H xs us Q I r h
  obtain ⟨a, C, dx, tp, vs, cs, ws, b, rfl, hT, k, hsl, hc, hi, e, q⟩ := h
  obtain ⟨u1, u2, rfl, r1, r2⟩ := r.two
  cases (show u1 = Value.ref a from r1)
  cases (show u2 = Value.ref tp from r2)
  obtain ⟨sl, od, _, J, _⟩ := slt_inst I hsl
  obtain ⟨_, its, rv, o, h1, h2, n, h3⟩ := (show ObjOk X.prog X.w H s.heap tp (.tup cs) from I.hok tp _ hT)
  have e3 := ClsV.all k rv
  subst e3
  obtain ⟨oc, od, dt, sl⟩ := o
  simp only at h2 h3
  subst h2 h3
  exact PySem.W.kia_tup (OwX.kitx_slt hc.ic (hc.get _) hi.ca hi.cn hi.ct hi.cm) I.kIn J h1 e (fun z => nomatch z) fun tk => ⟨.bl b, H, I.tok _, rfl, q⟩
theorem kdV_all {T : Nat → Addr} : ∀ ks : List Kd, Paired ClsV (ks.map (kdV T)) (ks.map (kdU T))
  | [] => .nil
  | k :: ks => .cons (kdV_cls k) (kdV_all ks)
theorem isi_run {x : XE} {ks : List Kd} {σ : L2.St} {H : Hp} {Q : VK} (q : tE X F W (.isi n ks x) σ H Q) : tE X F W x σ H fun v H1 => ∃ ρ d S b, RS X.K F.T ρ S H1 ∧ RD X.K F.T ρ H1 d v ∧ kindOf S n ks d = some b ∧ ∀ ρ' H', Ext ρ H1 ρ' H' → RS X.K F.T ρ' S H' → Q (.bl b) H' := by
  refine Go.mono (Go.bind (rA := rdR X F) q) fun v H1 q => ?_
  obtain ⟨ρ, s, a, S, S0, _, m, e, r, q⟩ := q
  obtain ⟨b', hb, q⟩ := Run.opt (o := (kindOf S n ks a).map D.bl) q
  obtain ⟨b, hk, rfl⟩ := map_some hb
  exact ⟨ρ, a, S, b, m, r, hk, fun ρ' H' e' m' => q ρ' H' (.bl b) e' m' (.bl b)⟩
theorem sE_isi1 {k : Kd} {e c : Expr} {x : XE} {p pos : Pos} (C : ClsF X.K F.T n) (hk : kdOk n k = true) (hg : Gl X "isinstance") (hm : X.mg "isinstance" = none) (he : PE X e (tE X F W x)) (hc : PE X c (tC (kdV F.T k)))
    (h1 : starEach [e, c] X.env = (false, eval e X.env) :: starEach [c] X.env) (h2 : starEach [c] X.env = [(false, eval c X.env)]) : PE X (.Call (.Name "isinstance" p) [e, c] [] pos) (tE X F W (.isi n [k] x)) := by
  have hcall : CallR X (.builtin "isinstance") (fun xs H Q => rIsi X.K xs H Q ∨ rIsiSl X.K (kdU F.T k) xs H Q) := fun pins s σ H xs us Q I r h => h.elim (call_isi pins s σ H xs us Q I r) (call_isiSl _ pins s σ H xs us Q I r)
  refine PEw (pe_callB hcall hg hm (by decide +kernel) (pa_cons he (pa_cons hc pa_nil h2) h1) (by decide) (by decide) h1 (by rw [h2]; rfl)) fun σ H Q q => ?_
  refine Go.mono (isi_run q) fun v H1 q => ?_
  obtain ⟨ρ, d, S, b, m, r, hb, q⟩ := q
  rcases kind_of C m r (fun k' h => by simp at h; rw [h]; exact hk) hb with ⟨t, ty, kt⟩ | ⟨cc, a, dx, vs, rfl, hlt, sl, kt⟩
  · exact .inl ⟨v, _, t, _, b, rfl, kdV_cls k, ty, kitOne_of kt, q ρ H1 .refl m⟩
  · exact .inr ⟨a, _, dx, vs, _, b, rfl, kdV_rel k, fun w hw => (kdV_cls k).eq hw, sl, C.sc _ hlt, C.is _ hlt, kitOne_of kt, q ρ H1 .refl m⟩
theorem sE_isiT {ks : List Kd} {e : Expr} {cs : List Expr} {x : XE} {p pos pt : Pos} {kt : Nat} (C : ClsF X.K F.T n) (hk : ∀ k ∈ ks, kdOk n k = true) (hl : ks.length ≤ 1000) (hg : Gl X "isinstance") (hm : X.mg "isinstance" = none) (he : PE X e (tE X F W x)) (hc : PA X cs (fun _ H Q => Q (ks.map (kdV F.T)) H))
    (h1 : starEach [e, .Tuple cs kt pt] X.env = (false, eval e X.env) :: starEach [.Tuple cs kt pt] X.env) : PE X (.Call (.Name "isinstance" p) [e, .Tuple cs kt pt] [] pos) (tE X F W (.isi n ks x)) := by
  have hcall : CallR X (.builtin "isinstance") (fun xs H Q => rIsiT X.K xs H Q ∨ rIsiSlT X.K xs H Q) := fun pins s σ H xs us Q I r h => h.elim (call_isiT pins s σ H xs us Q I r) (call_isiSlT pins s σ H xs us Q I r)
  refine PEw (pe_callB hcall hg hm (by decide +kernel) (pa_cons he (pa_cons (pe_tup hc) pa_nil rfl) h1) (by decide) (by decide) h1 rfl) fun σ H Q q => ?_
  refine Go.mono (isi_run q) fun v H1 q => ?_
  obtain ⟨ρ, d, S, b, m, r, hb, q⟩ := q
  refine ⟨by rw [List.length_map, sizeLine_eq]; omega, fun tp hp => ?_⟩
  have e1 : Ext ρ H1 ρ (upd H1 tp (.tup (ks.map (kdV F.T)))) := ext_new hp
  rcases kind_of C (m.new hp) (r.mono m e1) hk hb with ⟨t, ty, kt⟩ | ⟨cc, a, dx, vs, rfl, hlt, sl, kt⟩
  · exact .inl ⟨v, tp, _, t, _, b, rfl, upd_same, kdV_all ks, ty, kt, q ρ _ e1 (m.new hp)⟩
  · exact .inr ⟨a, _, dx, tp, vs, _, _, b, rfl, upd_same, kdV_all ks, sl, C.sc _ hlt, C.is _ hlt, kt, q ρ _ e1 (m.new hp)⟩
end
end Lk
end
section
/-! F2: attributes of finished instances: slots, properties. -/
set_option Elab.async false
set_option linter.all false
set_option maxRecDepth 100000
set_option maxHeartbeats 2000000
namespace Lk
open PySem PySem.Spec PyProof.Rows L2 SlX
/-- e.f is a slot, or a property whose getter keeps its promise -/
def AttF (X : Cx) (F : Fx) (k : Nat) (f : Str) (c : Nat) : Att → Prop
  | .slot i => SCls X.K (F.T c) ∧ ∃ p, Slot1 X.K (F.T c) f p i
  | .prop j => SCls X.K (F.T c) ∧ ∃ p g, PySem.W.findIn X.K (.ref (F.T c)) f = some (some (.ref p)) ∧ PySem.W.specialIn X.K (.ref p) "__get__" = some (some (.builtin "property.__get__")) ∧ PySem.W.takesIn X.K (.ref p) = some true ∧ (∃ rest, PySem.W.recIn X.K p "property" = some (.ref g :: rest)) ∧
      FnR X.prog X.w X.K X.mg X.base (CX X.prog X.w) k g (spF X.K F.T F.Z (F.cal j))
section
variable {X : Cx} {F : Fx} {W : WX} {K : PySem.W.Frag} {T : Nat → Addr} {Z : Xs} {ρ : Pm} {H : Hp} {S : Store} {n : Nat}
theorem calm_run {α β : Type} {rel : Pm → Hp → α → β → Prop} {W W' : XK} {m : M α} {Q : β → Hp → Prop} (h : Run K T Z rel W ρ H (M.calm m S) Q) : Run K T Z rel W' ρ H (m S) Q := by
  unfold M.calm at h
  revert h
  cases m S with
  | bad => exact fun h => h
  | exc c p S1 => exact fun h => h.elim
  | ok a S1 => exact fun h => h
theorem no_cx {P : Program} {w : World} {outer : List PySem.Env} {s : Shared} {e : Value} {s' : Shared} (c : CX P w outer H s (fun _ _ _ => False) e s') : False := by
  obtain ⟨_, _, _, _, _, _, _, _, _, _, _, _, z⟩ := c
  exact z.elim
theorem sE_att {k : Nat} {f : Str} {e : Expr} {x : XE} {tb : List (Nat × Att)} {pos : Pos} (A : ∀ c t, tb.lookup c = some t → AttF X F k f c t) (hr : Room (k + 1) X.A) (he : PE X e (tE X F W x)) (hb : attributeBase e f X.env (eval e X.env) = eval e X.env) : PE X (.Attribute e f pos) (tE X F W (.att tb x)) := by
  refine ⟨fun pins s σ H Q I q => attr_of hb (thn (he.run pins s σ H _ I (Go.bind (rA := rdR X F) q)) ?_)⟩
  rintro u s1 ⟨v, H1, I1, ru, ρ, s, d, S, S0, _, m, e, r, q⟩
  cases d with
  | ob c fs =>
    cases r with
    | @ob a dx _ _ vs h1 h2 o1 o2 k1 k2 rs =>
      cases (show u = Value.ref a from ru)
      have hs : Slt H1 a (F.T c) dx (vs.map some) := .inr ⟨h1, h2⟩
      simp only at q
      cases hl : tb.lookup c with
      | none => rw [hl] at q; exact q.elim
      | some t =>
        rw [hl] at q
        have hA := A c t hl
        cases t with
        | slot i =>
          obtain ⟨z, hz, q⟩ := Run.opt (o := fs[i]?) q
          obtain ⟨w, hw, rw'⟩ := rs.get hz
          obtain ⟨sc, p, sl⟩ := hA
          exact getslot_ok I1 hs sc sl (v := w) (by rw [List.getElem?_map, hw]; rfl) fun u' s2 I2 r2 => ⟨w, H1, I2, r2, q ρ H1 w .refl m rw'⟩
        | prop j =>
          obtain ⟨sc, p, g, hf, hg, ht, hc, hF⟩ := hA
          refine getprop_sl (E := fun _ _ _ => False) I1 hs sc hf hg ht hc hF hr (fun _ _ _ _ c => no_cx c) ⟨ρ, [.ob c fs], S, m, .cons (.ob h1 h2 o1 o2 k1 k2 rs) .nil, calm_run q⟩
  | _ => exact q.elim
theorem base_ok {e : Expr} {f : Str} {env : PySem.Env} (h : ∀ x p q, e ≠ .Call (.Name x p) [] [] q) : attributeBase e f env (eval e env) = eval e env := by
  unfold attributeBase
  split
  · exact absurd rfl (h _ _ _)
  · rfl
end
end Lk
end
section
/-! F3: methods of built-in things. -/
set_option Elab.async false
set_option linter.all false
set_option maxRecDepth 100000
set_option maxHeartbeats 2000000
namespace Lk
open PySem PySem.Spec PyProof.Rows L2 SlX
/-- what the method asks and gives, once its owner is known -/
def MthR (X : Cx) (F : Fx) (name : Str) (m : Bm) : Prop := ∀ (ρ : Pm) (d : D) (S : Store) (H : Hp) (v : V), RS X.K F.T ρ S H → RD X.K F.T ρ H d v → mthFits S m d = true →
  ∃ (T id : String) (r : V → List V → Hp → VK → Prop), PlainAttrs T ∧ Slot T name id ∧ typeOf (.builtin id) = pure (.type "method_descriptor") ∧ tyV X.K T v H ∧ MtR X id r ∧
    ∀ (ρ' : Pm) (S' : Store) (H' : Hp) (as : List D) (vs : List V) (W' : XK) (Q : VK), RS X.K F.T ρ' S' H' → RD X.K F.T ρ' H' d v → RDs X.K F.T ρ' H' as vs → Run X.K F.T F.Z (rdR X F) W' ρ' H' (mthD m d as S') Q → r v vs H' Q
section
variable {X : Cx} {F : Fx} {W : WX} {K : PySem.W.Frag} {T : Nat → Addr} {Z : Xs} {ρ : Pm} {H : Hp} {S : Store} {n : Nat}
theorem sE_mth {name : Str} {m : Bm} {o e : Expr} {x : XE} {xs : XEs} {apos cpos : Pos} (M : MthR X F name m) (ho : PE X o (tE X F W x)) (ha : PA X [e] (tAs X F W xs)) (hs : starEach [e] X.env = [(false, eval e X.env)]) (hb : attributeBase o name X.env (eval o X.env) = eval o X.env)
    (hl : (apos.endLine == cpos.line) = true) : PE X (.Call (.Attribute o name apos) [e] [] cpos) (tE X F W (.mth m x xs)) := by
  have hfew : ((backTo cpos (starEach [e] X.env)).all (fun x => !x.1) && (backToKw cpos (keywordEach [] X.env)).all (fun x => x.1.isSome) && decide (([e] : List Expr).length + ([] : List Keyword).length + (if ([] : List Keyword).isEmpty then 0 else 1) < 30)) = true := by rw [hs]; rfl
  refine ⟨fun pins s σ H Q I q => wpAny_Call_method_late hb hfew hl rfl (thn (ho.run pins s σ H _ I (Go.bind (rA := rdR X F) q)) ?_)⟩
  rintro v s1 ⟨w, H1, I1, rw', ρ, sg, d, S, S0, _, m1, e1, r1, q1⟩
  cases hf : mthFits S m d with
  | false => simp only [hf] at q1; exact q1.elim
  | true =>
    simp only [hf] at q1
    obtain ⟨T, id, r, pa, sl, ty, tv, mt, rule⟩ := M ρ d S H1 w m1 r1 hf
    obtain ⟨g1, g2⟩ := tyV_is I1 rw' tv
    refine ⟨T, id, pa, sl, ty, g1, g2, ?_⟩
    have hA := ha.run cpos pins s1 σ H1 _ I1 ⟨ρ, sg, S, m1, e1, Run.bind (rA := RDs X.K F.T) q1⟩
    rw [hs] at hA ⊢
    refine Calls.callWith_builtin rfl (Calls.evalArgs_plain (thn hA ?_))
    rintro us s2 ⟨vs, H2, I2, r2, ρ2, as, S2, _, x2, m2, ras, q2⟩
    exact mt pins s2 σ H2 w vs v us Q I2 rw' r2 (rule ρ2 S2 H2 as vs _ Q m2 (r1.mono m1 x2) ras q2)
theorem lst_ty {d : D} {v : V} (m : RS K T ρ S H) {xs : List D} (h : seqOf S d = some xs) (r : RD K T ρ H d v) : tyV K "list" v H := by
  obtain ⟨a, vs, rfl, hq, _⟩ := seqOf_inv m h r
  exact .inl ⟨rfl, vs, hq⟩
theorem RDs.one_inv {as : List D} {vs : List V} {x : D} (h : RDs K T ρ H [x] vs) : ∃ v, vs = [v] ∧ RD K T ρ H x v := by
  cases h with
  | cons r t => cases t; exact ⟨_, rfl, r⟩
theorem mth_append : MthR X F "append" .append := fun ρ d S H v m r hf => by
  cases d with
  | ref a =>
    simp only [mthFits] at hf
    have hl : ∃ xs, S.get a = some (.lst xs) := by
      split at hf
      · exact ⟨_, by assumption⟩
      · cases hf
    obtain ⟨xs, hl⟩ := hl
    refine ⟨"list", "list.append", rAppend, PySem.F.plainAttrs_list, PySem.F.slot_list_append, PySem.F.type_list_append, lst_ty (xs := xs) m (by simp [seqOf, itemsOf, hl]) r, mt_append, fun ρ' S' H' as vs W' Q m' r' ras q => ?_⟩
    cases r' with
    | @ref _ p hn =>
      match as, ras, q with
      | [x], ras, q =>
        obtain ⟨y, rfl, ry⟩ := RDs.one_inv (as := []) ras
        simp only [mthD] at q
        cases hg : S'.get a with
        | none => rw [hg] at q; exact q.elim
        | some o =>
          rw [hg] at q
          cases o with
          | lst ys =>
            simp only at q
            by_cases hz : ys.length < sizeMax
            · rw [if_pos hz] at q
              obtain ⟨p', h1, us, h2, h3⟩ := m'.at_ _ _ hg
              rw [hn] at h1
              cases h1
              have ep : Ext ρ' H' ρ' (upd H' p (.lst (us ++ [y]))) := ext_put hn
              refine ⟨p, us, y, rfl, rfl, h2, by rw [← h3.length, sizeLine_eq]; unfold sizeMax at hz; omega, q ρ' _ .non ep (m'.put hn trivial ⟨_, upd_same, (h3.append (.cons ry .nil)).mono m' ep⟩) .non⟩
            · rw [if_neg hz] at q; exact q.elim
          | dic _ => exact q.elim
          | ins _ _ => exact q.elim
      | [], _, q => exact q.elim
      | _ :: _ :: _, _, q => exact q.elim
  | _ => cases hf
theorem str_ty {z : List Nat} {v : V} (r : RD K T ρ H (.str z) v) : tyV K "str" v H := by
  cases r; exact rfl
theorem split_ok {c : Nat} : ∀ (z acc : List Nat), TL.spl [c] 0 acc z = match splitOn c z with
    | [] => [acc]
    | w :: ws => (acc ++ w) :: ws
  | [], acc => by simp [TL.spl, splitOn]
  | x :: xs, acc => by
    unfold TL.spl splitOn
    by_cases h : x = c
    · subst h
      have hp : TL.pre [x] (x :: xs) = true := by simp [TL.pre]
      rw [if_pos hp, if_pos rfl]
      show acc :: TL.spl [x] 0 [] xs = _
      rw [split_ok xs []]
      simp only
      cases hz : splitOn x xs with
      | nil => exact absurd hz (by unfold splitOn; split <;> (try split) <;> (try split) <;> simp)
      | cons w ws => simp
    · have hp : ¬ TL.pre [c] (x :: xs) = true := by simp [TL.pre]; exact h
      rw [if_neg hp, if_neg h, split_ok xs (acc ++ [x])]
      cases hz : splitOn c xs with
      | nil => simp
      | cons w ws => simp
theorem splitOn_len {c : Nat} : ∀ z : List Nat, (splitOn c z).length ≤ z.length + 1
  | [] => by simp [splitOn]
  | x :: xs => by
    have ih := splitOn_len (c := c) xs
    unfold splitOn
    split
    · simp; omega
    · cases hz : splitOn c xs with
      | nil => simp
      | cons w ws => rw [hz] at ih; simp at ih ⊢; omega
theorem strs_map {ws : List (List Nat)} : RDs K T ρ H (ws.map D.str) (ws.map fun w => V.str ⟨w.toArray⟩) := by
  induction ws with
  | nil => exact .nil
  | cons w ws ih => exact .cons (.str w) ih
theorem mth_split : MthR X F "split" .split := fun ρ d S H v m r hf => by
  cases d with
  | str z =>
    refine ⟨"str", "str.split", _, PySem.F.plainAttrs_str, PySem.F.slot_str_split, PySem.F.type_str_split, str_ty r, mt_split, fun ρ' S' H' as vs W' Q m' r' ras q => ?_⟩
    simp only [mthD] at q
    split at q
    · rename_i z' c he
      cases he
      obtain ⟨y, rfl, ry⟩ := RDs.one_inv (as := []) ras
      by_cases hz : z.length ≤ sizeMax ∧ c < 128
      · rw [if_pos hz] at q
        cases r'.str_inv
        cases ry.str_inv
        refine ⟨_, _, rfl, rfl, rfl, ?_, fun p hp => ?_⟩
        · have h1 := hz.1
          rw [sizeLine_eq]
          unfold sizeMax at h1
          show z.toArray.size + 2 ≤ _
          rw [List.size_toArray]; omega
        · have e : (Txt.split ⟨z.toArray⟩ ⟨[c].toArray⟩).map V.str = (splitOn c z).map fun w => V.str ⟨w.toArray⟩ := by
            have hk : ¬ Builtin.Str.strKind ⟨z.toArray⟩ < Builtin.Str.strKind ⟨[c].toArray⟩ := by
              have : Builtin.Str.strKind ⟨[c].toArray⟩ = 1 := by
                unfold Builtin.Str.strKind
                rw [if_pos]
                simp; omega
              rw [this]
              unfold Builtin.Str.strKind
              split
              · omega
              · split <;> omega
            have h1 := TL.split_spl ⟨z.toArray⟩ ⟨[c].toArray⟩ (by simp [TL.tl]) hk
            have h2 : (Txt.split ⟨z.toArray⟩ ⟨[c].toArray⟩).map TL.tl = splitOn c z := by
              rw [h1]
              show TL.spl [c] 0 [] z = _
              rw [split_ok]
              cases hz : splitOn c z with
              | nil => exact absurd hz (by unfold splitOn; split <;> (try split) <;> (try split) <;> simp)
              | cons w ws => simp
            rw [← h2, List.map_map]
            refine List.map_congr_left fun s _ => ?_
            show V.str s = V.str ⟨s.cps.toList.toArray⟩
            simp
          rw [e]
          obtain ⟨x1, m1, r1⟩ := new_fl m' hp (strs_map (K := X.K) (T := F.T) (ρ := ρ') (H := H') (ws := splitOn c z))
          exact q _ _ _ x1 m1 r1
      · rw [if_neg hz] at q; exact q.elim
    · exact q.elim
  | _ => cases hf
theorem join_ok {c : List Nat} : ∀ ws : List (List Nat), TL.joinL c ws = joinOn c ws
  | [] => rfl
  | [_] => rfl
  | w :: x :: r => by
    show w ++ (c ++ TL.joinL c (x :: r)) = w ++ c ++ joinOn c (x :: r)
    rw [join_ok (x :: r), List.append_assoc]
theorem strsOf_inv : ∀ {xs : List D} {ws : List (List Nat)}, strsOf xs = some ws → xs = ws.map D.str
  | [], ws, h => by cases h; rfl
  | x :: xs, ws, h => by
    unfold strsOf allSome at h
    split at h
    · cases h
    · rename_i w hw
      split at h
      · cases h
      · rename_i zs hz
        cases h
        rw [List.map_cons, ← strsOf_inv hz]
        cases x <;> first | cases hw; rfl | cases hw
theorem RDs.strs_inv : ∀ {ws : List (List Nat)} {vs : List V}, RDs K T ρ H (ws.map D.str) vs → vs = (ws.map fun w => (⟨w.toArray⟩ : Str)).map V.str
  | [], _, h => by cases h; rfl
  | w :: ws, _, h => by
    cases h with
    | cons r t => rw [r.str_inv, RDs.strs_inv t]; rfl
theorem mth_join : MthR X F "join" .join := fun ρ d S H v m r hf => by
  cases d with
  | str z =>
    refine ⟨"str", "str.join", _, PySem.F.plainAttrs_str, PySem.F.slot_str_join, PySem.F.type_str_join, str_ty r, mt_join, fun ρ' S' H' as vs W' Q m' r' ras q => ?_⟩
    simp only [mthD] at q
    split at q
    · rename_i z' d' he
      cases he
      obtain ⟨y, rfl, ry⟩ := RDs.one_inv (as := []) ras
      split at q
      · rename_i xs hx
        split at q
        · rename_i ws hw
          by_cases hz : (ws.map (·.length)).sum + ws.length * z.length ≤ sizeMax
          · rw [if_pos hz] at q
            obtain ⟨a, us, rfl, hq, rs⟩ := itemsOf_inv m' hx ry
            rw [strsOf_inv hw] at rs
            rw [rs.strs_inv] at hq
            cases r'.str_inv
            refine ⟨⟨z.toArray⟩, a, ws.map fun w => (⟨w.toArray⟩ : Str), rfl, rfl, hq, ?_, ?_⟩
            · have e1 : (ws.map fun w => (⟨w.toArray⟩ : Str)).map (·.length) = ws.map (·.length) := by
                rw [List.map_map]; exact List.map_congr_left fun w _ => by simp [Str.length]
              rw [e1, List.length_map]
              unfold sizeMax at hz
              show _ + ws.length * z.toArray.size ≤ _
              rw [List.size_toArray]; omega
            · refine q ρ' H' _ .refl m' ?_
              have e2 : (Txt.join ⟨z.toArray⟩ (ws.map fun w => (⟨w.toArray⟩ : Str))) = ⟨(joinOn z ws).toArray⟩ := by
                rw [TL.join_eq]
                have h1 := TL.tl_join ⟨z.toArray⟩ (ws.map fun w => (⟨w.toArray⟩ : Str))
                have h2 : (ws.map fun w => (⟨w.toArray⟩ : Str)).map TL.tl = ws := by
                  rw [List.map_map]
                  exact (List.map_congr_left fun w _ => by simp [TL.tl]).trans (List.map_id ws)
                rw [h2, join_ok] at h1
                refine TL.ext_tl (h1.trans ?_)
                simp [TL.tl]
              rw [e2]
              exact .str _
          · rw [if_neg hz] at q; exact q.elim
        · exact q.elim
      · exact q.elim
    · exact q.elim
  | _ => cases hf
theorem indexD_inv (m : RS K T ρ S H) {x : D} {ys : List D} {a : Addr} {us : List V} {k : Nat} {v : V} (h : indexD S x ys = some k) (rx : RD K T ρ H x v) (rs : RDs K T ρ H ys us) (hq : SqL K H a us) :
    ∃ d ds z, Dp K H (.ref a) (.list ds) ∧ Dp K H v d ∧ SeqAt.shaped (.list ds) = true ∧ SeqAt.shaped d = true ∧ ds[k]? = some z ∧ PyData.eqv z d = true ∧ ∀ (j : Nat) (z' : PyData), j < k → ds[j]? = some z' → PyData.eqv z' d = false := by
  unfold indexD at h
  split at h
  · split at h
    · rename_i x' ys' hx hy
      have pl := rsv_all (rsv_plain 60) hy
      have px := rsv_plain _ _ _ hx
      have sh := pds_shaped (n := 60) (by decide) pl
      have hpds : ∀ (l : List D) (i : Nat), (pds l)[i]? = (l[i]?).map pd := by
        intro l
        induction l with
        | nil => intro i; simp [pds]
        | cons a l ih =>
          intro i
          cases i with
          | zero => simp [pds]
          | succ i => simpa [pds] using ih i
      obtain ⟨hk, h1, h2⟩ := List.findIdx?_eq_some_iff_getElem.mp h
      have eqv_of : ∀ (i : Nat) (hi : i < ys'.length), eqD ys'[i] x' = PyData.eqv (pd ys'[i]) (pd x') := fun i hi => eqD_pd 60 _ _ (List.all_eq_true.mp pl _ (List.getElem_mem hi)) px
      refine ⟨pd x', pds ys', pd ys'[k], .lst hq (dp_all m (rsv_dp m 60) hy rs), rsv_dp m 60 _ _ _ hx rx, sh.1, rsv_shaped hx, by rw [hpds, List.getElem?_eq_getElem hk]; rfl, by rw [← eqv_of k hk]; exact h1, fun j z' hj hz => ?_⟩
      have hjl : j < ys'.length := by omega
      rw [hpds, List.getElem?_eq_getElem hjl] at hz
      cases hz
      rw [← eqv_of j hjl]
      have := h2 j hj
      simpa using this
    · cases h
  · cases h
theorem mth_index (hu : X.A.units + 65 < cLine) : MthR X F "index" .index := fun ρ d S H v m r hf => by
  have lst : ∀ {d : D} {xs : List D} (hd : ∀ z, d ≠ .str z), seqOf S d = some xs → RD X.K F.T ρ H d v → ∃ (T id : String) (r : V → List V → Hp → VK → Prop), PlainAttrs T ∧ Slot T "index" id ∧ typeOf (.builtin id) = pure (.type "method_descriptor") ∧ tyV X.K T v H ∧ MtR X id r ∧
    ∀ (ρ' : Pm) (S' : Store) (H' : Hp) (as : List D) (vs : List V) (W' : XK) (Q : VK), RS X.K F.T ρ' S' H' → RD X.K F.T ρ' H' d v → RDs X.K F.T ρ' H' as vs → Run X.K F.T F.Z (rdR X F) W' ρ' H' (mthD .index d as S') Q → r v vs H' Q := fun {d xs} hd hs r => by
    refine ⟨"list", "list.index", rIndexD X.K, PySem.F.plainAttrs_list, PySem.F.slot_list_index, PySem.F.type_list_index, lst_ty m hs r, mt_indexD hu, fun ρ' S' H' as vs W' Q m' r' ras q => ?_⟩
    simp only [mthD] at q
    split at q
    · exact absurd rfl (hd _)
    · exact absurd rfl (hd _)
    · rename_i d' x' h1 h2
      obtain ⟨y, rfl, ry⟩ := RDs.one_inv (as := []) ras
      split at q
      · rename_i ys hy
        split at q
        · rename_i k hk
          obtain ⟨a, us, rfl, hq, rs⟩ := seqOf_inv m' hy r'
          obtain ⟨dd, ds, z, g1, g2, g3, g4, g5, g6, g7⟩ := indexD_inv m' hk ry rs hq
          exact ⟨a, y, dd, ds, k, z, rfl, rfl, g1, g2, g3, g4, g5, g6, g7, q ρ' H' (.int k) .refl m' (.int _)⟩
        · exact q.elim
      · exact q.elim
    · exact q.elim
  cases d with
  | str z =>
    refine ⟨"str", "str.index", _, PySem.F.plainAttrs_str, PySem.F.slot_str_index, PySem.F.type_str_index, str_ty r, mt_sindex, fun ρ' S' H' as vs W' Q m' r' ras q => ?_⟩
    simp only [mthD] at q
    split at q
    · rename_i z' c he
      cases he
      obtain ⟨y, rfl, ry⟩ := RDs.one_inv (as := []) ras
      cases r'.str_inv
      cases ry.str_inv
      by_cases hz : z = [97, 98, 99]
      · rw [if_pos hz] at q
        subst hz
        by_cases h1 : c = 97
        · subst h1
          exact ⟨_, _, 0, [], rfl, rfl, by kernel_rfl, q ρ' H' (.int 0) .refl m' (.int _)⟩
        · rw [if_neg h1] at q
          by_cases h2 : c = 98
          · subst h2
            exact ⟨_, _, 1, [], rfl, rfl, by kernel_rfl, q ρ' H' (.int 1) .refl m' (.int _)⟩
          · rw [if_neg h2] at q
            by_cases h3 : c = 99
            · subst h3
              exact ⟨_, _, 2, [], rfl, rfl, by kernel_rfl, q ρ' H' (.int 2) .refl m' (.int _)⟩
            · rw [if_neg h3] at q; exact q.elim
      · rw [if_neg hz] at q; exact q.elim
    · exact q.elim
    · rename_i hn
      exact absurd rfl (hn _)
    · exact q.elim
  | fl xs => exact lst (xs := xs) (fun z h => nomatch h) rfl r
  | ref a =>
    simp only [mthFits] at hf
    split at hf
    · rename_i xs hl
      exact lst (xs := xs) (fun z h => nomatch h) (by simp [seqOf, itemsOf, hl]) r
    · cases hf
  | _ => cases hf
end
end Lk
end
section
/-! F4: C(..): an instance with slots is made. -/
set_option Elab.async false
set_option linter.all false
set_option maxRecDepth 100000
set_option maxHeartbeats 2000000
namespace Lk
open PySem PySem.Spec PyProof.Rows L2 SlX
section
variable {X : Cx} {F : Fx} {W : WX} {K : PySem.W.Frag} {T : Nat → Addr} {Z : Xs} {ρ ρ' : Pm} {H H' : Hp} {S S' : Store} {n : Nat} {x dx : Addr}
/-- the heap with the object that is being made -/
def slo (H : Hp) (x dx : Addr) (o1 o2 : HO) : Hp := upd (upd H dx o1) x o2
/-- .. without it -/
def cutH (H : Hp) (x dx : Addr) : Hp := fun b => if b = x then none else if b = dx then none else H b
theorem slo_x {o1 o2 : HO} : slo H x dx o1 o2 x = some o2 := upd_same
theorem slo_dx {o1 o2 : HO} (h : dx ≠ x) : slo H x dx o1 o2 dx = some o1 := by unfold slo; rw [upd_ne h, upd_same]
theorem slo_ne {o1 o2 : HO} {b : Addr} (h1 : b ≠ x) (h2 : b ≠ dx) : slo H x dx o1 o2 b = H b := by unfold slo; rw [upd_ne h1, upd_ne h2]
theorem cut_ne {b : Addr} (h1 : b ≠ x) (h2 : b ≠ dx) : cutH H x dx b = H b := by unfold cutH; rw [if_neg h1, if_neg h2]
theorem cut_x : cutH H x dx x = none := if_pos rfl
theorem cut_dx : cutH H x dx dx = none := by unfold cutH; split <;> simp
theorem slo_cut {o1 o2 : HO} (hx : H x = some o2) (hd : H dx = some o1) : slo (cutH H x dx) x dx o1 o2 = H := by
  funext b
  unfold slo
  by_cases h1 : b = x
  · rw [h1, upd_same, hx]
  · rw [upd_ne h1]
    by_cases h2 : b = dx
    · rw [h2, upd_same, hd]
    · rw [upd_ne h2, cut_ne h1 h2]
theorem ext_slo {o1 o2 : HO} (m : RS K T ρ S H) (hx : H x = none) (hd : H dx = none) (h : dx ≠ x) : Ext ρ H ρ (slo H x dx o1 o2) ∧ RS K T ρ S (slo H x dx o1 o2) := by
  have hx1 : upd H dx o1 x = none := by rw [upd_ne (Ne.symm h)]; exact hx
  exact ⟨(ext_new hd).trans (ext_new hx1) (m.new hd), (m.new hd).new hx1⟩
/-- not the object that is being made, nor its dict -/
structure Apart (ρ : Pm) (H : Hp) (x dx : Addr) : Prop where
  kx : ¬ ρ.kn x
  kd : ¬ ρ.kn dx
  ox : Out ρ x
  od : Out ρ dx
  tx : ∀ vs, ¬ Rd H x (.tup vs)
  td : ∀ vs, ¬ Rd H dx (.tup vs)
  sx : ∀ o vs, H x ≠ some (.frz o (.lst vs))
  sd : ∀ o vs, H dx ≠ some (.frz o (.lst vs))
theorem Apart.kn {a : Addr} (A : Apart ρ H x dx) (k : ρ.kn a) : cutH H x dx a = H a := cut_ne (fun z => A.kx (by rw [← z]; exact k)) (fun z => A.kd (by rw [← z]; exact k))
theorem Apart.st {a : Addr} {n : Nat} (A : Apart ρ H x dx) (k : ρ n = some a) : cutH H x dx a = H a := cut_ne (fun z => A.ox n (by rw [← z]; exact k)) (fun z => A.od n (by rw [← z]; exact k))
theorem Apart.fz {a : Addr} {o : Obj} {vs : List V} (A : Apart ρ H x dx) (k : H a = some (.frz o (.lst vs))) : cutH H x dx a = H a := cut_ne (fun z => A.sx o vs (by rw [← z]; exact k)) (fun z => A.sd o vs (by rw [← z]; exact k))
theorem Apart.tp {a : Addr} {vs : List V} (A : Apart ρ H x dx) (k : Rd H a (.tup vs)) : cutH H x dx a = H a := cut_ne (fun z => A.tx vs (by rw [← z]; exact k)) (fun z => A.td vs (by rw [← z]; exact k))
mutual
theorem RD.cut (A : Apart ρ H x dx) : ∀ {d : D} {v : V}, RD K T ρ H d v → RD K T ρ (cutH H x dx) d v
  | _, _, .non => .non
  | _, _, .bl b => .bl b
  | _, _, .int i => .int i
  | _, _, .str s => .str s
  | _, _, .tup (a := a) (vs := vs) h r => .tup (by
      rcases h with h | h
      · have e := A.tp h
        refine .inl ?_
        unfold Rd at h ⊢
        rw [e]; exact h
      · exact .inr h) (RDs.cut A r)
  | _, _, .fl h q k r => .fl ((A.kn k).trans h) q k (RDs.cut A r)
  | _, _, .sc (vs := vs) h r => .sc (h.mono fun o h => (A.fz h).trans h) (RDs.cut A r)
  | _, _, .ob h1 h2 q1 q2 k1 k2 r => .ob ((A.kn k1).trans h1) ((A.kn k2).trans h2) q1 q2 k1 k2 (RDs.cut A r)
  | _, _, .ref h => .ref h
theorem RDs.cut (A : Apart ρ H x dx) : ∀ {ds : List D} {vs : List V}, RDs K T ρ H ds vs → RDs K T ρ (cutH H x dx) ds vs
  | _, _, .nil => .nil
  | _, _, .cons r t => .cons (RD.cut A r) (RDs.cut A t)
end
theorem RS.cut (m : RS K T ρ S H) (A : Apart ρ H x dx) : RS K T ρ S (cutH H x dx) where
  dom := m.dom
  inj := m.inj
  mu := fun n a h => by rw [A.st h]; exact m.mu n a h
  at_ := fun n o h => by
    obtain ⟨a, h1, h2⟩ := m.at_ n o h
    refine ⟨a, h1, ?_⟩
    cases o with
    | lst xs =>
      obtain ⟨vs, h3, h4⟩ := h2
      exact ⟨vs, (A.st h1).trans h3, h4.cut A⟩
    | dic _ => exact h2.elim
    | ins _ _ => exact h2.elim
  kd := fun b h => by
    obtain ⟨u, hu⟩ := m.kd b h
    exact ⟨u, (A.kn h).trans hu⟩
theorem Ext.cut {o1 o2 : HO} (e : Ext ρ (slo H x dx o1 o2) ρ' H') (hx : H x = none) (hd : H dx = none) : Ext ρ H ρ' (cutH H' x dx) where
  le := e.le
  fr := fun b o h q => by
    have h1 : b ≠ x := fun z => by rw [z, hx] at h; cases h
    have h2 : b ≠ dx := fun z => by rw [z, hd] at h; cases h
    rw [cut_ne h1 h2]
    exact e.fr b o (by rw [slo_ne h1 h2]; exact h) q
  nw := fun n b h => by
    rcases e.nw n b h with z | z
    · exact .inl z
    · refine .inr ?_
      by_cases h1 : b = x
      · rw [h1]; exact hx
      · by_cases h2 : b = dx
        · rw [h2]; exact hd
        · rw [slo_ne h1 h2] at z; exact z
  kl := e.kl
  kw := fun b h => by
    rcases e.kw b h with z | z
    · exact .inl z
    · refine .inr ?_
      by_cases h1 : b = x
      · rw [h1]; exact hx
      · by_cases h2 : b = dx
        · rw [h2]; exact hd
        · rw [slo_ne h1 h2] at z; exact z
/-- the state of the object: fresh, or with the first slots -/
def SlSt (C x dx : Addr) (vs : List V) (o1 o2 : HO) : Prop := (vs = [] ∧ o1 = .own x ∧ o2 = .ins C dx []) ∨ (o1 = .xd [] ∧ o2 = SlO x C dx (vs.map some))
theorem SlSt.slt {C : Addr} {vs : List V} {o1 o2 : HO} (h : SlSt C x dx vs o1 o2) (ne : dx ≠ x) : Slt (slo H x dx o1 o2) x C dx (vs.map some) := by
  rcases h with ⟨rfl, rfl, rfl⟩ | ⟨rfl, rfl⟩
  · exact .inl ⟨slo_x, rfl⟩
  · exact .inr ⟨slo_x, slo_dx ne⟩
theorem SlSt.apart {C : Addr} {vs : List V} {o1 o2 : HO} (h : SlSt C x dx vs o1 o2) (ne : dx ≠ x) (m : RS K T ρ S H) (hx : H x = none) (hd : H dx = none) {ρ' : Pm} {H' : Hp} (e : Ext ρ (slo H x dx o1 o2) ρ' H') : Apart ρ' H' x dx ∧ H' x = some o2 ∧ H' dx = some o1 := by
  have ox := m.out_new hx
  have od := m.out_new hd
  have hx' := e.fr x _ slo_x ox
  have hd' := e.fr dx _ (slo_dx ne) od
  have nk : ∀ {b : Addr}, H b = none → ¬ ρ.kn b := fun hb k => by
    obtain ⟨u, hu⟩ := m.kd _ k
    rw [hb] at hu; cases hu
  refine ⟨⟨fun k => ?_, fun k => ?_, e.out slo_x ox, e.out (slo_dx ne) od, ?_, ?_, ?_, ?_⟩, hx', hd'⟩
  · rcases e.kw x k with z | z
    · exact nk hx z
    · rw [slo_x] at z; cases z
  · rcases e.kw dx k with z | z
    · exact nk hd z
    · rw [slo_dx ne] at z; cases z
  · intro vs z
    unfold Rd at z
    rw [hx'] at z
    rcases h with ⟨_, _, rfl⟩ | ⟨_, rfl⟩
    · rcases z with z | ⟨o, z⟩ <;> cases z
    · rcases z with z | ⟨o, z⟩ <;> (unfold SlO at z; cases z)
  · intro vs z
    unfold Rd at z
    rw [hd'] at z
    rcases h with ⟨_, rfl, _⟩ | ⟨rfl, _⟩
    · rcases z with z | ⟨o, z⟩ <;> cases z
    · rcases z with z | ⟨o, z⟩ <;> cases z
  · intro o vs z
    rw [hx'] at z
    rcases h with ⟨_, _, rfl⟩ | ⟨_, rfl⟩
    · cases z
    · unfold SlO at z; cases z
  · intro o vs z
    rw [hd'] at z
    rcases h with ⟨_, rfl, _⟩ | ⟨rfl, _⟩ <;> cases z
theorem putS_end (v : V) (vs : List V) : putS vs.length v (vs.map some) = (vs ++ [v]).map some := by
  unfold putS
  have e : vs.length + 1 - (vs.map some).length = 1 := by simp
  rw [e, List.map_append]
  have : (vs.map some ++ List.replicate 1 (none : Option V)).set vs.length (some v) = vs.map some ++ [some v] := by
    rw [List.set_append_right _ _ (by simp)]
    simp
  simpa using this
theorem slH_slo {C : Addr} {o1 o2 : HO} {us : List (Option V)} : slH (slo H x dx o1 o2) x C dx us = slo H x dx (.xd []) (SlO x C dx us) := by
  funext b
  unfold slH slo
  by_cases h1 : b = x
  · rw [h1, upd_same, upd_same]
  · rw [upd_ne h1, upd_ne h1]
    by_cases h2 : b = dx
    · rw [h2, upd_same, upd_same]
    · rw [upd_ne h2, upd_ne h1, upd_ne h2, upd_ne h2]
/-- the slots are set, one behind another; so many stand -/
def tFin (X : Cx) (F : Fx) (W : WX) (c k : Nat) (es : XEs) : TS := fun D σV H => ∃ ρ σ S x dx o1 o2 vs H0, H = slo H0 x dx o1 o2 ∧ dx ≠ x ∧ H0 x = none ∧ H0 dx = none ∧ SlSt (F.T c) x dx vs o1 o2 ∧ vs.length = k ∧ σV[0]? = some (some (.ref x)) ∧
  RS X.K F.T ρ S H0 ∧ EnvR X.K F.T F.Y ρ H0 σ σV ∧ Run X.K F.T F.Z (RDs X.K F.T) (fun c d H => W c d σV H) ρ H0 (evs F.cal es σ S) fun us H' => H' x = none → H' dx = none → D.nx σV (slo H' x dx (.xd []) (SlO x (F.T c) dx ((vs ++ us).map some)))
/-- self.f = e, .. -/
inductive FinOk (X : Cx) (F : Fx) (W : WX) (c : Nat) : Nat → List Stmt → XEs → Prop
  | nil {k : Nat} : 0 < k → FinOk X F W c k [] .nil
  | cons {k : Nat} {nm f : Str} {p : Addr} {e : Expr} {x : XE} {ss : List Stmt} {xs : XEs} {p1 p2 pos : Pos} : PE X (.Name nm p1) (tVar 0) → PE X e (tE X F W x) → Slot1 X.K (F.T c) f p k → FinOk X F W c (k + 1) ss xs → FinOk X F W c k (.Assign [.Attribute (.Name nm p1) f p2] e pos :: ss) (.cons x xs)
theorem not_nm {e : Expr} {o : Expr} {f : Str} {p : Pos} {l : Nat} {env : PySem.Env} : swapsWith e (some (.Attribute o f p)) l env = pure false := by cases e <;> rfl
theorem fin_ok {c : Nat} (sc : SCls X.K (F.T c)) : ∀ {k : Nat} {ss : List Stmt} {xs : XEs}, FinOk X F W c k ss xs → PSs X ss (tFin X F W c k xs)
  | k, _, _, .nil hk => PSsw pss_nil fun D σV H h => by
      obtain ⟨ρ, σ, S, x, dx, o1, o2, vs, H0, rfl, ne, hx, hd, st, hl, _, m, e, r⟩ := h
      have q := Run.here (a := []) (v := []) m r .nil hx hd
      rw [List.append_nil] at q
      rcases st with ⟨rfl, _, _⟩ | ⟨rfl, rfl⟩
      · cases hl; exact absurd hk (Nat.lt_irrefl 0)
      · exact q
  | k, _, _, .cons (x := ex) (xs := xs) hn he hs rest => PSsw (pss_cons (ps_sl hn he not_nm) (fin_ok sc rest)) fun D σV H h => by
      obtain ⟨ρ, σ, S, x, dx, o1, o2, vs, H0, rfl, ne, hx, hd, st, hl, h0, m, e, r⟩ := h
      obtain ⟨xe, me⟩ := ext_slo (o1 := o1) (o2 := o2) m hx hd ne
      refine ⟨ρ, σ, S, me, e.mono m xe, ?_⟩
      have r : Run X.K F.T F.Z (RDs X.K F.T) (fun c d H => W c d σV H) ρ H0 (M.bind (ev F.cal ex σ) (fun d => M.bind (evs F.cal xs σ) fun ds => M.pure (d :: ds)) S) _ := r
      cases z : ev F.cal ex σ S with
      | bad => rw [M.bind_bad z] at r; exact r
      | exc c' p' S1 =>
        unfold M.bind at r
        rw [z] at r
        exact fun ρ1 H1 cls d e1 m1 w => r ρ1 H1 cls d (xe.trans e1 me) m1 w
      | ok d S1 =>
        rw [M.bind_ok z] at r
        intro ρ1 H1 y e1 m1 ry
        obtain ⟨ap, hx1, hd1⟩ := st.apart ne m hx hd e1
        have m2 := m1.cut ap
        have e2 := e1.cut hx hd
        have ry2 := ry.cut ap
        have H1e := slo_cut hx1 hd1
        refine ⟨.ref x, h0, x, F.T c, dx, _, vs.map some, k, rfl, ?_, sc, hs, ?_⟩
        · rw [← H1e]; exact st.slt ne
        · rw [← H1e, slH_slo, ← hl, putS_end]
          refine ⟨ρ1, σ, S1, x, dx, .xd [], _, vs ++ [y], cutH H1 x dx, rfl, ne, cut_x, cut_dx, .inr ⟨rfl, rfl⟩, by simp [hl], h0, m2, e.mono m e2, ?_⟩
          have r2 := r.shift e2 m2
          unfold M.bind at r2
          unfold Run
          cases z2 : evs F.cal xs σ S1 with
          | bad => rw [z2] at r2; exact r2
          | exc c' p' S2 => rw [z2] at r2; exact r2
          | ok ds S2 =>
            rw [z2] at r2
            intro ρ3 H3 us e3 m3 rs hx3 hd3
            have q := r2 ρ3 H3 (y :: us) e3 m3 (.cons (ry2.mono m2 e3) rs) hx3 hd3
            simpa using q
/-- statements, each as it is said -/
inductive SSl (X : Cx) (F : Fx) (W : WX) : List Stmt → XSs → Prop
  | nil : SSl X F W [] .nil
  | cons {s : Stmt} {x : XS} {ss : List Stmt} {xs : XSs} : SS X F W s x → SSl X F W ss xs → SSl X F W (s :: ss) (.cons x xs)
/-- the promise of an __init__: the object, empty, is the first argument -/
def spI (K : PySem.W.Frag) (T : Nat → Addr) (Z : Xs) (c : Nat) (f : List D → M D) : Sp := fun vs H Q E => ∃ x dx us ρ ds S H0 Q', vs = .ref x :: us ∧ H = slo H0 x dx (.own x) (.ins (T c) dx []) ∧ dx ≠ x ∧ H0 x = none ∧ H0 dx = none ∧ RS K T ρ S H0 ∧ RDs K T ρ H0 ds us ∧
  Run K T Z (RD K T) E ρ H0 (f ds S) Q' ∧ ∀ H', Q' (.ref x) H' → Q .non H'
/-- the checks, then the slots -/
theorem pre_fin {suf : List Stmt} {t : TS} (hs : PSs X suf t) : ∀ {pre : List Stmt} {xs : XSs}, SSl X F W pre xs → PSs X (pre ++ suf) fun D σV H => tS X F W (exs F.cal xs) { D with nx := t D } σV H
  | _, _, .nil => PSsw hs fun D σV H h => by
      obtain ⟨ρ, σ, S, m, e, r⟩ := h
      exact RunS.here_nx (σ := σ) m e r
  | _, _, .cons h1 h2 => PSsw (pss_cons h1 (pre_fin hs h2)) fun D σV H h => by
      obtain ⟨ρ, σ, S, m, e, r⟩ := h
      exact ⟨ρ, σ, S, m, e, RunS.seq (k := exs F.cal _) r⟩
end
end Lk
end
section
/-! F5: an __init__ keeps its promise; C(..). -/
set_option Elab.async false
set_option linter.all false
set_option maxRecDepth 100000
set_option maxHeartbeats 2000000
namespace Lk
open PySem PySem.Spec PyProof.Rows L2 SlX
section
variable {X : Cx} {F : Fx} {W : WX} {K : PySem.W.Frag} {T : Nat → Addr} {Z : Xs} {ρ ρ' : Pm} {H H' : Hp} {S S' : Store} {n : Nat} {x dx : Addr}
theorem envR_init {N : List Str} {ds : List D} {us : List V} {y : Slf} {n : Nat} (r : RDs K T ρ H ds us) (hy : y.x = x) (hn : N.length = 1 + ds.length + n) : EnvR K T (some y) ρ H (none :: (ds.map some ++ List.replicate n none)) (L2.start N (.ref x :: us)) := by
  have l1 := r.length
  unfold L2.start
  refine ⟨?_, fun z hz _ => ?_, fun i d hi q => ?_⟩
  · simp only [List.length_append, List.length_map, List.length_replicate, List.length_cons]
    omega
  · cases hz; simp [hy]
  · cases i with
    | zero => cases q
    | succ i =>
      rw [List.getElem?_cons_succ] at q
      by_cases h : i < ds.length
      · rw [List.getElem?_append_left (by simpa using h), List.getElem?_map] at q
        cases z : ds[i]? with
        | none => rw [z] at q; cases q
        | some d' =>
          rw [z] at q
          cases q
          obtain ⟨v, hv, rv⟩ := r.get z
          refine ⟨v, ?_, rv⟩
          rw [List.map_cons, List.cons_append, List.getElem?_cons_succ, List.getElem?_append_left (by simpa [← l1] using h), List.getElem?_map, hv]
          rfl
      · rw [List.getElem?_append_right (by simpa using h), List.getElem?_replicate] at q
        split at q
        · cases q
        · cases q
theorem EnvR.cut {Y : Option Slf} {σ : Env} {σV : L2.St} (A : Apart ρ H x dx) (h : EnvR K T Y ρ H σ σV) : EnvR K T Y ρ (cutH H x dx) σ σV := ⟨h.1, h.2.1, fun i d hi q => let ⟨v, h1, h2⟩ := h.2.2 i d hi q; ⟨v, h1, h2.cut A⟩⟩
/-- the finished object -/
theorem made_ok {c : Nat} {ds : List D} {us : List V} (m : RS K T ρ S H) (hx : H x = none) (hd : H dx = none) (ne : dx ≠ x) (r : RDs K T ρ H ds us) :
    RS K T ((ρ.know x).know dx) S (slo H x dx (.xd []) (SlO x (T c) dx (us.map some))) ∧ RD K T ((ρ.know x).know dx) (slo H x dx (.xd []) (SlO x (T c) dx (us.map some))) (.ob c ds) (.ref x) := by
  obtain ⟨e1, m1⟩ := ext_slo (o1 := .xd []) (o2 := SlO x (T c) dx (us.map some)) m hx hd ne
  exact ⟨(m1.know slo_x).know (slo_dx ne), .ob slo_x (slo_dx ne) (m.out_new hx) (m.out_new hd) (.inl (.inr rfl)) (.inr rfl) (((r.mono m e1).know x).know dx)⟩
theorem init_ok {P : Program} {w : World} {mg : Str → Option Value} {base : Heap} {f : Addr} {fd : FuncData} {nm qual : Str} {params : Arguments} {body pre suf : List Stmt} {scope : Scope} {dvs : List V} {kws : List (Str × V)} {N ps : List Str} {k c : Nat} {es : XEs} {d : Def}
    (U : FunD K nm qual params body scope dvs kws f fd) (Sc : FnScope N ps scope) (hi : d.ini = some (c, es)) (hN : N.length = 1 + d.par + d.loc) (hp : ps.length = d.par + 1) (sc : SCls K (F.T c)) (hsplit : body = pre ++ suf)
    (hb : ∀ (X : Cx) (E : XK) (y : Slf), X.prog = P → X.w = w → X.K = K → X.mg = mg → X.base = base → X.N = N → X.env.scope = scope → Room k X.A → X.calm = true → (∀ y, X.fn y = true) → X.stack = X.env :: X.outer → X.env.frame = some X.env.locals → Takes X (fun cls dd _ H => E cls dd H) → PassesOwn (model X.prog X.w) X.A X.env X.xe →
      SSl X { F with Y := some y } (fun cls dd _ H => E cls dd H) pre d.body ∧ FinOk X { F with Y := some y } (fun cls dd _ H => E cls dd H) c 0 suf es) : FnOk P w K mg base (CX P w) (k + 1) f fd ps (spI K F.T F.Z c (runDef F.cal d)) := by
  refine U.ok Sc (fun vs H Q E h => ?_) (fun cdv A outer s H vs Q E hr h => ?_)
  · obtain ⟨x, dx, us, ρ, ds, S, H0, Q', rfl, _, _, _, _, _, r, q, _⟩ := h
    unfold runDef at q
    by_cases hz : ds.length = d.par
    · rw [List.length_cons, ← r.length, hz, hp]
    · rw [decide_eq_false hz] at q
      exact q.elim
  · obtain ⟨x, dx, us, ρ, ds, S, H0, Q', rfl, rfl, ne, hx, hd, m, r, q, hQ⟩ := h
    have hlen : ds.length = d.par := by
      unfold runDef at q
      by_cases hz : ds.length = d.par
      · exact hz
      · rw [decide_eq_false hz] at q; exact q.elim
    have hX := hb (cxOf (CX P w) P w K mg base N qual scope f cdv A outer s (slo H0 x dx (.own x) (.ins (F.T c) dx [])) E) E ⟨x, dx, F.T c⟩ rfl rfl rfl rfl rfl rfl rfl hr rfl (fun _ => rfl) rfl rfl (takes_of rfl rfl rfl rfl) (passes_of rfl)
    refine ⟨_, by rw [hsplit]; exact pre_fin (fin_ok sc hX.2) hX.1, ?_⟩
    obtain ⟨xe, me⟩ := ext_slo (o1 := .own x) (o2 := .ins (F.T c) dx []) m hx hd ne
    refine ⟨ρ, _, S, me, envR_init (r.mono m xe) rfl (n := d.loc) (by rw [hN, hlen]), ?_⟩
    have st : SlSt (F.T c) x dx [] (.own x) (.ins (F.T c) dx []) := .inl ⟨rfl, rfl, rfl⟩
    unfold runDef at q
    rw [decide_eq_true hlen, hi] at q
    simp only at q
    unfold M.bind M.calm at q
    revert q
    show _ → RunS _ _ _ _ _ _ _ (exs F.cal d.body (none :: (ds.map some ++ List.replicate d.loc none)) S) _
    cases exs F.cal d.body (none :: (ds.map some ++ List.replicate d.loc none)) S with
    | bad => exact fun q => q
    | exc c p S1 => exact fun q => q
    | ok f S1 =>
      cases f with
      | rt v => exact fun q => q.elim
      | bk σ => exact fun q => q.elim
      | ct σ => exact fun q => q.elim
      | xc c p σ => exact fun q ρ' H' σV cls dd e' m' _ x => q ρ' H' cls dd (xe.trans e' me) m' x
      | nx σ =>
        intro q ρ1 H1 σV e1 m1 en
        obtain ⟨ap, hx1, hd1⟩ := st.apart ne m hx hd e1
        have m2 := m1.cut ap
        have e2 := e1.cut hx hd
        simp only at q
        split at q
        · rename_i rest
          have h0 : σV[0]? = some (some (.ref x)) := en.2.1 _ rfl rfl
          refine ⟨ρ1, _, S1, x, dx, _, _, [], cutH H1 x dx, (slo_cut hx1 hd1).symm, ne, cut_x, cut_dx, st, rfl, h0, m2, en.cut ap, ?_⟩
          have q := Run.shift (S1 := S1) e2 m2 q
          unfold Run
          simp only at q ⊢
          cases z : evs F.cal es (none :: rest) S1 with
          | bad => rw [z] at q; exact q
          | exc c' p' S2 => rw [z] at q; exact q
          | ok ds2 S2 =>
            rw [z] at q
            intro ρ3 H3 us3 e3 m3 r3 hx3 hd3
            obtain ⟨xe3, me3⟩ := ext_slo (o1 := .xd []) (o2 := SlO x (F.T c) dx (us3.map some)) m3 hx3 hd3 ne
            obtain ⟨m4, r4⟩ := made_ok (c := c) m3 hx3 hd3 ne r3
            exact hQ _ (q _ _ _ (((e3.trans xe3 m3).know cut_x).know cut_dx) m4 r4)
        · exact q.elim
/-! ### C(..) -/
theorem run_mk {CX : CXT} {k : Nat} {f C : Addr} {fd : FuncData} {ps ks : List Str} {sp : Sp} {pins : List (Addr × Obj)} {σ : L2.St} {H : Hp} {s : Shared} {Q : VK} {E : XK} {us ws : List Value} {g : Value → List Value} {gV : V → List V} (M : Mk X.K C f) (F : FnOk X.prog X.w X.K X.mg X.base CX k f fd ps sp)
    (hr : Room (k + 1) X.A) (hx : PassesAt CX X σ E) (I : Inv X pins σ H s) (hb : ∀ (s : Shared) (u : Value), X.K.In s.heap → BindsTo s fd ⟨u :: us, ks.zip ws⟩ (ps.zip (g u))) (hg : ∀ (v : V) (u : Value), RelV v u → Vals (gV v) (g u))
    (h : ∀ x dx, H x = none → H dx = none → dx ≠ x → sp (gV (.ref x)) (upd (upd H dx (.own x)) x (.ins C dx [])) (fun v H2 => v = .non ∧ Q (.ref x) H2) E) :
    wpAny (model X.prog X.w) X.A (call (.ref C) us (ks.zip ws)) (EP X pins σ Q) X.xe s := by
  have J := Inv.made (C := C) I
  have hN : s.heap.objs.size ≠ s.heap.objs.size + 1 := by omega
  have goal := h (s.heap.objs.size + 1) s.heap.objs.size (I.hok.fresh (by omega)) (I.hok.fresh (by omega)) hN
  have run := F.run _ X.stack _ _ ⟨Value.ref (s.heap.objs.size + 1) :: us, ks.zip ws⟩ (g (Value.ref (s.heap.objs.size + 1))) _ _ E (hr.make C us (ks.zip ws)) (J.env0.make C us (ks.zip ws)) (hb _ _ J.kIn) (hg (.ref (s.heap.objs.size + 1)) _ rfl) goal
  refine wpAny_call (make_map (f := f) I.kIn M.makes M.init (beq_iff_eq.mp M.fn) (codeAny_mono run ?_))
  rintro (e | fl) s' z
  · exact hx pins _ _ e s' J z
  · cases fl with
    | ret u =>
      obtain ⟨v, H', I', rv, rfl, z⟩ := J.after z
      exact ⟨rv, .ref (s.heap.objs.size + 1), H', I', rfl, z⟩
    | _ => exact z.elim
/-- what a caller knows of a class -/
structure MkF (X : Cx) (F : Fx) (k : Nat) (x : Str) (c j : Nat) (dfl : List D) : Prop where
  ex : ∃ (f : Addr) (fd : FuncData) (ps : List Str) (ds : List Value) (dvs : List V), X.mg x = some (.ref (F.T c)) ∧ Mk X.K (F.T c) f ∧ FnOk X.prog X.w X.K X.mg X.base (CX X.prog X.w) k f fd ps (spI X.K F.T F.Z c (F.cal j)) ∧ Binds X.K fd ps ds ∧ Vals dvs ds ∧ Fixeds X.K F.T dfl dvs
/-- .. with keywords, given behind the other arguments -/
structure MkK (X : Cx) (F : Fx) (k : Nat) (x : Str) (n : Nat) (ks : List Str) (c j : Nat) : Prop where
  ex : ∃ (f : Addr) (fd : FuncData) (ps : List Str), X.mg x = some (.ref (F.T c)) ∧ Mk X.K (F.T c) f ∧ FnOk X.prog X.w X.K X.mg X.base (CX X.prog X.w) k f fd ps (spI X.K F.T F.Z c (F.cal j)) ∧ KBn X.K fd ps (n + 1) ks (fun us ws => us ++ ws) (fun vs zs => vs ++ zs)
theorem make_of {c f j n : Nat} {xs : XEs} {dfl : List D} {dvs : List V} (hd : Fixeds X.K F.T dfl dvs) {σ : L2.St} {H : Hp} {Q : VK} (h : tE X F W (.make c f n xs (planOf xs.len dfl)) σ H Q) (hj : F.cal f = F.cal j) :
    tAs X F W xs σ H fun vs H1 => vs.length = xs.len ∧ ∀ x dx, H1 x = none → H1 dx = none → dx ≠ x → spI X.K F.T F.Z c (F.cal j) (.ref x :: (vs ++ dvs)) (upd (upd H1 dx (.own x)) x (.ins (F.T c) dx [])) (fun v H2 => v = .non ∧ Q (.ref x) H2) (fun cls d H => W cls d σ H) := by
  refine Go.mono (Go.bind (rA := RDs X.K F.T) h) fun vs H1 q => ?_
  obtain ⟨ρ, s, ds, S, S0, o, m, e, r, q⟩ := q
  refine ⟨by rw [← r.length]; exact evs_len o, fun x dx hx hdx ne => ?_⟩
  rw [← evs_len o, planned_plan] at q
  rw [← hj]
  exact ⟨x, dx, _, ρ, ds ++ dfl, S, H1, Q, rfl, rfl, ne, hx, hdx, m, r.append hd.rd, q, fun H' z => ⟨rfl, z⟩⟩
theorem sE_make {k c j n : Nat} {x : Str} {e : Expr} {es : List Expr} {xs : XEs} {dfl : List D} {p pos : Pos} (G : MkF X F k x c j dfl) (hr : Room (k + 1) X.A) (hg : Gl X x) (hx : Psv X W) (ha : PA X (e :: es) (tAs X F W xs)) (hdb : (x == ("__debug__" : Str)) = false)
    (he : starEach (e :: es) X.env = (false, eval e X.env) :: starEach es X.env) (hpl : (backTo pos (starEach es X.env)).any (·.1) = false) : PE X (.Call (.Name x p) (e :: es) [] pos) (tE X F W (.make c j n xs (planOf xs.len dfl))) := by
  obtain ⟨f, fd, ps, ds, dvs, h1, h2, h3, h4, h5, h6⟩ := G.ex
  refine ⟨fun pins s σ H Q I q => wpAny_Call_Name_kw (ld_glob I hg h1 ?_ hdb)⟩
  refine PySem.W.callWith_K (h₀ := X.base) I.ok.mod.kin h2.kp (thn (ha.run pos pins s σ H _ I (make_of h6 q rfl)) ?_) he hpl
  rintro us s1 ⟨vs, H1, I1, r, hl, z⟩
  refine ⟨I1.kIn, ?_⟩
  have hlen : ∀ u : Value, ((u :: us) ++ ds).length = ps.length := fun u => by
    have n1 : s1.heap.objs.size ≠ s1.heap.objs.size + 1 := by omega
    have q0 := z (s1.heap.objs.size + 1) s1.heap.objs.size (I1.hok.fresh (Nat.le_succ _)) (I1.hok.fresh (Nat.le_refl _)) n1
    have := h3.len _ _ _ _ q0
    rw [← this]
    simp only [List.length_cons, List.length_append]
    rw [r.length, h5.length]
    omega
  exact run_mk (ks := []) (ws := []) (g := fun u => (u :: us) ++ ds) (gV := fun v => v :: (vs ++ dvs)) h2 h3 hr (hx σ) I1 (fun s u hK => h4 s (u :: us) hK (hlen u)) (fun v u rv => .cons rv (r.append h5)) z
end
end Lk
end
section
/-! F6: C(.., k = e, ..). -/
set_option Elab.async false
set_option linter.all false
set_option maxRecDepth 100000
set_option maxHeartbeats 2000000
namespace Lk
open PySem PySem.Spec PyProof.Rows L2 SlX
def XEs.app : XEs → XEs → XEs
  | .nil, ys => ys
  | .cons x xs, ys => .cons x (xs.app ys)
section
variable {X : Cx} {F : Fx} {W : WX} {K : PySem.W.Frag} {T : Nat → Addr} {Z : Xs} {ρ ρ' : Pm} {H H' : Hp} {S S' : Store} {n : Nat} {x dx : Addr}
theorem XEs.len_app : ∀ (xs ys : XEs), (xs.app ys).len = xs.len + ys.len
  | .nil, ys => by simp [XEs.app, XEs.len]
  | .cons _ xs, ys => by simp [XEs.app, XEs.len, XEs.len_app xs ys]; omega
theorem evs_app {cal : Nat → List D → M D} : ∀ (xs ys : XEs) (σ : Env), evs cal (xs.app ys) σ = M.bind (evs cal xs σ) fun as => M.bind (evs cal ys σ) fun bs => M.pure (as ++ bs)
  | .nil, ys, σ => by
    funext S
    show evs cal ys σ S = M.bind (evs cal ys σ) (fun bs => M.pure ([] ++ bs)) S
    unfold M.bind
    cases evs cal ys σ S <;> rfl
  | .cons x xs, ys, σ => by
    show M.bind (ev cal x σ) (fun a => M.bind (evs cal (xs.app ys) σ) fun as => M.pure (a :: as)) = M.bind (M.bind (ev cal x σ) fun a => M.bind (evs cal xs σ) fun as => M.pure (a :: as)) _
    rw [evs_app xs ys σ]
    funext S
    simp only [M.bind, M.pure]
    cases ev cal x σ S with
    | ok a S1 =>
      simp only
      cases evs cal xs σ S1 with
      | ok as S2 =>
        simp only
        cases evs cal ys σ S2 <;> rfl
      | exc c p S2 => rfl
      | bad => rfl
    | exc c p S1 => rfl
    | bad => rfl
theorem tAs_app {xs ys : XEs} {σ : L2.St} {H : Hp} {Q : List V → Hp → Prop} (h : tAs X F W (xs.app ys) σ H Q) : tAs X F W xs σ H fun vs H1 => tAs X F W ys σ H1 fun zs H2 => vs.length = xs.len ∧ zs.length = ys.len ∧ Q (vs ++ zs) H2 := by
  have h : Go X F W (RDs X.K F.T) (fun s => M.bind (evs F.cal xs s) fun as => M.bind (evs F.cal ys s) fun bs => M.pure (as ++ bs)) σ H Q := by
    obtain ⟨ρ, s, S, m, e, r⟩ := h
    rw [evs_app] at r
    exact ⟨ρ, s, S, m, e, r⟩
  refine Go.mono (Go.bind (rA := RDs X.K F.T) h) fun vs H1 q => ?_
  obtain ⟨ρ, s, as, S, S0, o, m, e, r, q⟩ := q
  refine ⟨ρ, s, S, m, e, (Run.bind (rA := RDs X.K F.T) q).mono ?_⟩
  rintro zs H2 ⟨ρ2, bs, S2, o2, x2, m2, r2, q2⟩
  exact ⟨by rw [← r.length]; exact evs_len o, by rw [← r2.length]; exact evs_len o2, q2 ρ2 H2 _ .refl m2 ((r.mono m x2).append r2)⟩
/-- the keywords' values -/
theorem sK_nil : PK X [] (tAs X F W .nil) := ⟨fun pos pins s σ H Q I h => pk_nil.run pos pins s σ H Q I (by
  obtain ⟨ρ, s, S, m, e, r⟩ := h
  exact Run.here (a := []) (v := []) m r .nil)⟩
theorem sK_cons {nm : Option Str} {e : Expr} {p : Pos} {ks : List Keyword} {x : XE} {xs : XEs} (he : PE X e (tE X F W x)) (hr : PK X ks (tAs X F W xs)) : PK X (⟨nm, e, p⟩ :: ks) (tAs X F W (.cons x xs)) :=
  ⟨fun pos pins s σ H Q I h => (pk_cons he hr).run pos pins s σ H Q I (by
    refine Go.mono (Go.bind (rA := rdR X F) h) fun v H1 q => ?_
    obtain ⟨ρ1, s1, a, S1, _, _, m1, e1, r1, q1⟩ := q
    refine ⟨ρ1, s1, S1, m1, e1, (Run.bind (rA := RDs X.K F.T) q1).mono ?_⟩
    rintro vs H2 ⟨ρ2, as, S2, _, x2, m2, r2, q2⟩
    exact Run.here (a := a :: as) m2 q2 (RDs.cons (r1.mono m1 x2) r2))⟩
/-- the names that are given -/
def kwNames : List Keyword → Option (List Str)
  | [] => some []
  | k :: ks => match k.arg, kwNames ks with
    | some n, some ns => some (n :: ns)
    | _, _ => none
theorem kw_ok {env : PySem.Env} {pos : Pos} : ∀ {ks : List Keyword} {ns : List Str}, kwNames ks = some ns → (backToKw pos (keywordEach ks env)).all (·.1.isSome) = true ∧ (backToKw pos (keywordEach ks env)).filterMap (·.1) = ns ∧ (backToKw pos (keywordEach ks env)).any (·.1.isNone) = false ∧ ns.length = ks.length
  | [], _, h => by cases h; exact ⟨rfl, rfl, rfl, rfl⟩
  | ⟨a, v, p⟩ :: ks, ns, h => by
    unfold kwNames at h
    split at h
    · rename_i n ns' h1 h2
      cases h
      obtain ⟨g1, g2, g3, g4⟩ := kw_ok (env := env) (pos := pos) h2
      cases (show a = some n from h1)
      refine ⟨?_, ?_, ?_, by simp [g4]⟩
      · show (true && _) = true
        rw [Bool.true_and]; exact g1
      · show n :: List.filterMap _ (backToKw pos (keywordEach ks env)) = n :: ns'
        rw [g2]
      · show (false || _) = false
        rw [Bool.false_or]; exact g3
    · cases h
theorem sE_makeK {k c j n n' : Nat} {x : Str} {e : Expr} {es : List Expr} {kws : List Keyword} {ks : List Str} {xs ys : XEs} {p pos : Pos} (G : MkK X F k x n ks c j) (hn : xs.len = n) (hk : ys.len = ks.length) (hr : Room (k + 1) X.A) (hg : Gl X x) (hx : Psv X W) (ha : PA X (e :: es) (tAs X F W xs)) (hkw : PK X kws (tAs X F W ys)) (hks : kwNames kws = some ks)
    (hdb : (x == ("__debug__" : Str)) = false) (he : starEach (e :: es) X.env = (false, eval e X.env) :: starEach es X.env) (hpl : (backTo pos (starEach (e :: es) X.env)).any (·.1) = false) : PE X (.Call (.Name x p) (e :: es) kws pos) (tE X F W (.make c j n' (xs.app ys) (planOf (xs.app ys).len []))) := by
  obtain ⟨f, fd, ps, h1, h2, h3, h4⟩ := G.ex
  obtain ⟨g1, g2, g3, g4⟩ := kw_ok (env := X.env) (pos := pos) hks
  refine ⟨fun pins s σ H Q I q => wpAny_Call_Name_kw (ld_glob I hg h1 ?_ hdb)⟩
  have q := tAs_app (make_of (dvs := []) .nil q rfl)
  refine PySem.W.callWith_KW (h₀ := X.base) I.ok.mod.kin h2.kp g1 (thn (ha.run pos pins s σ H _ I q) ?_) (by rw [hpl, g3]; rfl) he
  rintro us s1 ⟨vs, H1, I1, r, z⟩
  refine thn (hkw.run pos pins s1 σ H1 _ I1 z) ?_
  rintro ws s2 ⟨zs, H2, I2, rz, l1, l2, l3, z⟩
  refine ⟨I2.kIn, ?_⟩
  rw [g2]
  refine run_mk (ks := ks) (ws := ws) (g := fun u => (u :: us) ++ ws) (gV := fun v => v :: (vs ++ zs ++ [])) h2 h3 hr (hx σ) I2 (fun s u hK => h4.to s (u :: us) ws hK (by rw [List.length_cons, ← r.length, l1, hn]) (by rw [← rz.length, l2, hk])) (fun v u rv => .cons rv (by rw [List.append_nil]; exact r.append rz)) z
end
end Lk
end
section
/-! F7: raise. -/
set_option Elab.async false
set_option linter.all false
set_option maxRecDepth 100000
set_option maxHeartbeats 2000000
namespace Lk
open PySem PySem.Spec PyProof.Rows L2 SlX
/-- what is known of an own error without fields -/
structure ErrF (X : Cx) (F : Fx) (x : Str) (c : Nat) : Prop where
  ex : ∃ (bmB : List Value) (B newId initId : String), ExcBaseFacts B newId initId bmB ∧ PySem.W.excIn X.K (F.Z.adr c) bmB newId = true
  gl : X.mg x = some (.ref (F.Z.adr c))
  kp : PySem.W.keepIn X.K (.ref (F.Z.adr c)) = true
  rs : Raises X (.ref (F.Z.adr c))
  nf : F.Z.fld c = none
section
variable {X : Cx} {F : Fx} {W : WX}
theorem sS_raise {x m : Str} {c j : Nat} {p p2 pc pos : Pos} (hc : X.calm = true) (tk : Takes X W) (E : ErrF X F x c) (hg : Gl X x) (hdb : (x == ("__debug__" : Str)) = false) : SS X F W (.Raise (some (.Call (.Name x p) [.Constant (.str m) j p2] [] pc)) none pos) (.raise c .nil) := by
  obtain ⟨bmB, B, newId, initId, h1, h2⟩ := E.ex
  refine PSw (ps_raise hc tk (pmk_own h1 h2 E.gl E.kp E.rs hg hdb)) fun D σ H h => ?_
  obtain ⟨ρ, s, S, m, e, r⟩ := h
  refine r ρ H σ _ _ .refl m e ⟨rfl, ?_⟩
  rw [E.nf]
end
end Lk
end
section
/-! F8: try .. except. -/
set_option Elab.async false
set_option linter.all false
set_option maxRecDepth 100000
set_option maxHeartbeats 2000000
namespace Lk
open PySem PySem.Spec PyProof.Rows L2 SlX
section
variable {X : Cx} {F : Fx} {W : WX} {K : PySem.W.Frag} {T : Nat → Addr} {Z : Xs} {Y : Option Slf} {ρ : Pm} {H : Hp} {S : Store}
/-- a suite that raises nothing -/
theorem RunS.quiet {m : M Flow} {D : Ends} (h : RunS K T Y Z W ρ H (M.bind m (fun f => match f with
      | .xc _ _ _ => M.bad
      | f => M.pure f) S) D) : RunS K T Y Z W0 ρ H (m S) D := by
  unfold M.bind at h
  revert h
  cases m S with
  | bad => exact fun h => h
  | exc c p S1 => exact fun h => h
  | ok f S1 =>
    cases f with
    | xc c p σ => exact fun h => h.elim
    | nx σ => exact fun h => h
    | bk σ => exact fun h => h
    | ct σ => exact fun h => h
    | rt d => exact fun h => h
/-- the try's body, by what is wanted of its errors -/
theorem RunS.try {m : M Flow} {k : Nat → List D → Env → M Flow} {D : Ends} {W' : WX} (h : RunS K T Y Z W ρ H (M.bind m (fun f => match f with
      | .xc c p σ2 => k c p σ2
      | f => M.pure f) S) D)
    (hw : ∀ c p σ2 S2 ρ' H' σV cls d, Ext ρ H ρ' H' → RS K T ρ' S2 H' → EnvR K T Y ρ' H' σ2 σV → XR K T Z ρ' H' c p cls d → RunS K T Y Z W ρ' H' (k c p σ2 S2) D → W' cls d σV H') : RunS K T Y Z W' ρ H (m S) D := by
  unfold M.bind at h
  revert h
  cases m S with
  | bad => exact fun h => h
  | exc c p S1 => exact fun h => h
  | ok f S1 =>
    cases f with
    | xc c p σ => exact fun h ρ' H' σV cls d e' m' en x => hw c p σ S1 ρ' H' σV cls d e' m' en x (RunS.shift e' m' h)
    | nx σ => exact fun h => h
    | bk σ => exact fun h => h
    | ct σ => exact fun h => h
    | rt d => exact fun h => h
theorem sS_try {x : Str} {C : Value} {yes no : List Nat} {body suite : List Stmt} {b₀ : Stmt} {xb xs : XSs} {np pos pos' : Pos} (hs : X.stack = X.env :: X.outer) (hf : X.env.frame = some X.env.locals) (hc : Names X x C) (tk : Takes X W)
    (hy : ∀ c, yes.contains c = true → PySem.W.exmOne X.K (.ref (F.Z.adr c)) C = some true) (hn : ∀ c, no.contains c = true → PySem.W.exmOne X.K (.ref (F.Z.adr c)) C = some false)
    (hb : ∀ (W' : WX) (pn : List (Addr × Obj)) (xe : Value → Shared → Prop), Takes (X.tr pn xe) W' → PassesOwn (model X.prog X.w) X.A X.env xe → SSs (X.tr pn xe) F W' body xb)
    (hsu : ∀ (a : Addr) (oe : Obj) (pn : List (Addr × Obj)), SSs (X.suite a ((a, oe) :: pn)) F W0 (b₀ :: suite) xs) :
    SS X F W (.Try body [.ExceptHandler (some (.Name x np)) none (b₀ :: suite) pos'] [] [] pos) (.tryy xb (.cons yes no xs .nil)) := by
  refine PSw (ps_try_only (tb := fun W' => tS X F W' (exs F.cal xb)) (ts := fun _ _ _ => tS X F W0 (exs F.cal xs)) hs hf hc tk hb fun a oe cls d pn _ _ => hsu a oe pn) fun D σV H h => ?_
  obtain ⟨ρ, s, S, m, e, r⟩ := h
  refine ⟨ρ, s, S, m, e, RunS.try (k := hnd F.cal (.cons yes no xs .nil)) r ?_⟩
  intro c p σ2 S2 ρ' H' σV' cls d e' m' en x q
  have hcls : cls = .ref (F.Z.adr c) := x.1
  unfold hnd at q
  cases h1 : yes.contains c with
  | true =>
    rw [h1] at q
    exact ⟨true, by rw [hcls]; exact hy c h1, fun _ a _ => ⟨ρ', σ2, S2, m', en, RunS.quiet q⟩, fun z => nomatch z⟩
  | false =>
    cases h2 : no.contains c with
    | false => rw [h1, h2] at q; exact q.elim
    | true =>
      rw [h1, h2] at q
      exact ⟨false, by rw [hcls]; exact hn c h2, (fun z => nomatch z), fun _ => q ρ' H' σV' cls d .refl m' en x⟩
/-- except X as n: return n.f -/
theorem sS_tryF {x n f : Str} {c i : Nat} {no : List Nat} {body : List Stmt} {xb : XSs} {np pos pos' pn pa pr : Pos} (hs : X.stack = X.env :: X.outer) (hf : X.env.frame = some X.env.locals) (hN : X.N.Nodup) (hi : X.N[i]? = some n) (hln : X.env.scope.names.lookup n = some .local) (hc : Names X x (.ref (F.Z.adr c))) (tk : Takes X W)
    (hy : PySem.W.exmOne X.K (.ref (F.Z.adr c)) (.ref (F.Z.adr c)) = some true) (hn : ∀ e, no.contains e = true → PySem.W.exmOne X.K (.ref (F.Z.adr e)) (.ref (F.Z.adr c)) = some false)
    (xf : XfC X.K (F.Z.adr c)) (hno : PySem.W.findIn X.K (.ref (F.Z.adr c)) f = some none) (hfl : F.Z.fld c = some f) (hd1 : (n == ("__debug__" : Str)) = false) (hd2 : (n == ("__classdict__" : Str)) = false)
    (hb : ∀ (W' : WX) (pn : List (Addr × Obj)) (xe : Value → Shared → Prop), Takes (X.tr pn xe) W' → PassesOwn (model X.prog X.w) X.A X.env xe → SSs (X.tr pn xe) F W' body xb) :
    SS X F W (.Try body [.ExceptHandler (some (.Name x np)) (some n) [.Return (some (.Attribute (.Name n pn) f pa)) pr] pos'] [] [] pos) (.tryy xb (.fld c i no .nil)) := by
  refine PSl (ps_try_as (i := i) (tb := fun W' => tS X F W' (exs F.cal xb)) (ts := fun a cls d => fun D σ H => tXf a cls d (F.Z.adr c) f (tVar i) σ H D.rt) hs hf hN hi hln hc tk hb fun a oe cls d pn' hz hv =>
    PSsw (pss_cons (ps_ret (pe_xf xf hno hz hv (pe_var hi (.inl hln) hd1 hd2) rfl)) pss_nil) fun D σ H h => h) fun D σV H hl h => ?_
  obtain ⟨ρ, s, S, m, e, r⟩ := h
  refine ⟨ρ, s, S, m, e, RunS.try (k := hnd F.cal (.fld c i no .nil)) r ?_⟩
  intro c' p σ2 S2 ρ' H' σV' cls d e' m' en x q
  have hcls : cls = .ref (F.Z.adr c') := x.1
  unfold hnd at q
  cases h1 : decide (c' = c ∧ i < σ2.length) with
  | true =>
    rw [h1] at q
    obtain ⟨h1, h3⟩ := of_decide_eq_true h1
    subst h1
    have x2 := x.2
    rw [hfl] at x2
    match p, x2, q with
    | [x0], x2, q =>
      obtain ⟨dd, v, hd, hH, rv⟩ := x2
      exact ⟨true, by rw [hcls]; exact hy, fun _ a _ => ⟨.ref a, by rw [List.getElem?_set_self (by rw [en.1]; exact h3)], rfl, hcls, dd, _, v, hd, hH, by simp, q ρ' H' v .refl m' rv⟩, fun z => nomatch z⟩
    | [], x2, q => exact x2.elim
    | _ :: _ :: _, x2, q => exact x2.elim
  | false =>
    cases h2 : no.contains c' with
    | false => rw [h1, h2] at q; exact q.elim
    | true =>
      rw [h1, h2] at q
      exact ⟨false, by rw [hcls]; exact hn c' h2, (fun z => nomatch z), fun _ => q ρ' H' σV' cls d .refl m' en x⟩
end
end Lk
end
section
/-! F9: an own error whose __init__ says super().__init__(text) and sets one field. -/
set_option Elab.async false
set_option linter.all false
set_option maxRecDepth 100000
set_option maxHeartbeats 2000000
namespace Lk
open PySem PySem.Spec PyProof.Rows L2 SlX
theorem wpAt_mcall {M : Model} {A : Around} {c : Code} {env : PySem.Env} {E : Value → Shared → Prop} {s : Shared} {o : Expr} {name : Str} {apos pos : Pos} {args : List Expr} {Q : Value → Shared → Prop} (hline : (apos.endLine == pos.line) = true)
    (hform : methodCallForm (args.length + ([] : List Keyword).length) (backTo pos (starEach args env)) (backToKw pos (keywordEach [] env)) = true)
    (h : PySem.wpAt M A c (attributeBase o name env (eval o env)) (fun ov s₁ => wpAny M A (calleeOf true o env ov name) (fun fx s₂ => wpAny M A (callWith pos fx.1 fx.2 (backTo pos (starEach args env)) []) Q E s₂) E s₁) E s) :
    PySem.wpAt M A c (eval (.Call (.Attribute o name apos) args [] pos) env) Q E s := by
  rw [arm_eval_Call]
  refine PySem.wpAt_bind (PySem.wpAt_mono h (fun ov s₁ h₁ => PySem.wpAt_of_wpAny (wpAny_bind (wpAny_standAt ?_))) fun _ _ x => x)
  have hpos : methodCallPos true o env apos pos = pure pos := by unfold methodCallPos; simp [hline]
  unfold methodCall
  rw [hform]
  refine wpAny_bind (wpAny_holding (wpAny_mono h₁ (fun fx s₂ h₂ => ?_) fun _ _ x => x))
  exact wpAny_bind (wpAny_of_eq hpos h₂)
/-- the def's body -/
def supBody (tx fl par : Str) (j : Nat) (p0 p1 p2 p3 p4 p5 p6 p7 p8 p9 : Pos) : List Stmt :=
  [.Expr (.Call (.Attribute (.Call (.Name "super" p0) [] [] p1) "__init__" p2) [.Constant (.str tx) j p3] [] p4) p5, .Assign [.Attribute (.Name "self" p6) fl p7] (.Name par p8) p9]
/-- what the written part says of it; C: the class -/
structure SupF (P : Program) (K : PySem.W.Frag) (mg : Str → Option Value) (C f : Addr) (fl par : Str) (fd : FuncData) : Prop where
  ex : ∃ (name qual : Str) (params : Arguments) (scope : Scope) (dV kV doc pm ct oc ccl cl : Value) (an od cdd cld : Option Addr) (osl ccs csl : Array (Option Value)) (cda cc : Addr) (vs : Array Value) (file : Str) (tf : Tok) (ar : Arg) (tx : Str) (j : Nat) (p0 p1 p2 p3 p4 p5 p6 p7 p8 p9 : Pos),
    fd = PySem.W.ksFn name qual params (supBody tx fl par j p0 p1 p2 p3 p4 p5 p6 p7 p8 p9) scope dV kV doc pm an (.ref cda) ct cc ∧
    (p2.endLine == p4.line) = true ∧ K.lookup f = some ⟨oc, od, .func fd, osl⟩ ∧ PySem.W.codeIn K (.ref cda) qual = true ∧
    (params.posonlyargs ++ params.args).head? = some ar ∧ ar.arg = "self" ∧
    K.lookup cda = some ⟨ccl, cdd, .fields vs, ccs⟩ ∧ vs[2]? = some (.str file tf) ∧ ((P.main.file : Str) == file) = true ∧
    K.lookup cc = some ⟨cl, cld, .cell (some (.ref C)), csl⟩ ∧
    scope.names.lookup ("super" : Str) = some .globalImplicit ∧ scope.names.lookup ("__class__" : Str) = some .free ∧ scope.names.lookup ("self" : Str) = some .local ∧ scope.names.lookup par = some .local ∧
    (∀ x ∈ scope.names, x.2 ≠ .cell) ∧ scope.isCoroutine = false ∧ scope.isGenerator = false ∧ scope.kind = .function
  oex : OexC K C
  np : par ≠ "self"
  npd : (par == ("__debug__" : Str)) = false
  sub : PySem.W.mroIn K C (.ref C) = some true
  top : (P.main.scope.names.lookup ("super" : Str)).isSome = false
  sup : mg "super" = none
  sin : PySem.W.ks_superIn K C C "__init__" = some (some (.builtin "ValueError.__init__"))
  sve : PySem.W.subIn K (.ref C) (.type "ValueError") = some true
  opq : PySem.W.nsIn K cStatics "thirdparty.any" = some none
  fno : PySem.W.findIn K (.ref C) fl = some none
/-- what it promises -/
def spX (C : Addr) (fl : Str) : Sp := fun vs H Q _ => ∃ (a : Addr) (y : V), vs = [.ref a, y] ∧ H a = some (exo a C none) ∧ ∀ dx, H dx = none → dx ≠ a → Q .non (upd (upd H dx (exd dx [(fl, y)])) a (exo a C (some dx)))
theorem fn_sup {P : Program} {w : World} {K : PySem.W.Frag} {mg : Str → Option Value} {base : Heap} {CX : CXT} {k : Nat} {C f : Addr} {fl par : Str} {fd : FuncData} (U : SupF P K mg C f fl par fd) : FnOk P w K mg base CX (k + 1) f fd ["self", par] (spX C fl) := by
  obtain ⟨name, qual, params, scope, dV, kV, doc, pm, ct, oc, ccl, cl, an, od, cdd, cld, osl, ccs, csl, cda, cc, vs, file, tf, ar, tx, j, p0, p1, p2, p3, p4, p5, p6, p7, p8, p9, rfl, hline, lk, hcd, hp, har, hcode, hvs, hfile, hcell, ks, kc, kself, kpar, nocell, hco, hgen, hk⟩ := U.ex
  refine ⟨?_, fun A outer s H args us vs' Q E hr e0 hb r hsp => ?_⟩
  · rintro vs H Q E ⟨a, y, rfl, _⟩; rfl
  obtain ⟨a, y, rfl, ea, hQ⟩ := hsp
  match us, r with
  | [_, u], .cons ra (.cons ry .nil) =>
  cases (show _ = Value.ref a from ra)
  have KX : K.In s.heap := e0.mod.kin.keeps fun b o e => (e0.bs b o e).1
  have lim : s.heap.NoLimit := e0.mod.nolimit.keeps fun b o e => (e0.bs b o e).1
  obtain ⟨t1, ho⟩ := exo_at e0.hok ea
  obtain ⟨nm, q, N, bs, bm, sn, sub, ab, col, dd, k0, k1, k2, k3, k5, hC, hbm⟩ := U.oex.cls
  have hcl : PySem.W.clsIn K C = some { name := nm, bases := bs, mro := .ref C :: bm, ns := N, qualname := q, hasDict := true, slotNames := sn, subclasses := sub, abstract := ab, collection := col, hasDel := false } := by unfold PySem.W.clsIn; rw [hC] <;> rfl
  obtain ⟨hh, g, d, t, os⟩ := s
  have up : ∀ b o, b ≠ a → hh.get? b = some o → hh.get? b = some o := fun _ _ _ e => e
  refine PySem.ks_codeAny_call_defAt (binds := (["self", par] : List Str).zip [Value.ref a, u]) hr.depth (KX _ _ lk) rfl lim (PySem.W.codeRec_of KX hcd) rfl hb nocell ?_ ?_ hco hgen hk
  · intro x hx
    simp only [List.zip_cons_cons, List.zip_nil_right, List.mem_cons, List.not_mem_nil, or_false] at hx
    rcases hx with rfl | rfl
    · exact kself
    · exact kpar
  intro h₀ hns hk₀
  have X0 : K.In h₀ := KX.keeps hk₀
  have hoe : h₀.get? a = some (PySem.HandSPX.excO C t1) := hk₀ _ _ ho
  obtain ⟨oL, es, ep, hL, hLr⟩ := hns
  have haL : hh.objs.size ≠ a := fun z => absurd (Heap.lt_size ho) (by rw [← z]; exact Nat.lt_irrefl _)
  have hv1 : (((["self", par] : List Str).zip [Value.ref a, u]).reverse.lookup ("self" : Str)) = some (.ref a) := by
    have n1 : (("self" : Str) == par) = false := by simpa using fun z => U.np z.symm
    simp [List.lookup, n1]
  have hv2 : (((["self", par] : List Str).zip [Value.ref a, u]).reverse.lookup par) = some u := by
    simp [List.lookup]
  have hCne : a ≠ C := fun z => by
    have := KX _ _ hC
    rw [← z] at this
    have e := ho.symm.trans this
    injection e with e
    cases e
  refine PySem.ks_wpAt_execs_cons (PySem.ks_wpAt_Expr_any (hi := by show (scope.kind == ScopeKind.module && _) = false; rw [hk]; rfl) (wpAt_mcall hline rfl ?_))
  refine PySem.ks_wpAt_super_base ks kc (by decide) rfl (X0 _ _ lk) rfl hp rfl (X0 _ _ hcode) rfl hvs hfile U.top ?_
  obtain ⟨mb, hb1, hb2⟩ := e0.mod.blt
  have kb : ∀ b o, base.get? b = some o → h₀.get? b = some o := fun b o e => hk₀ _ _ (e0.bs b o e).1
  refine PySem.W.ks_loadName_global hk ks (PySem.Calls.loadGlobal_builtin (e0.mod.glob.keeps kb) U.sup (hb1.keeps kb) ((hb2 "super" (by decide)).trans (by decide +kernel : bootBuiltins "super" = some (.type "super"))) ⟨rfl, ?_⟩)
  refine wpAny_loadName_free hk kc rfl ⟨_, X0 _ _ hcell, rfl⟩ ?_
  rw [har]
  refine wpAny_loadName_local hk kself ⟨oL, es, ep, hL, hLr⟩ hv1 ?_
  refine PySem.ks_wpAny_isType_cls (X0 _ _ hC) rfl ⟨rfl, ?_⟩
  refine PySem.ks_wpAny_call_super (X0 _ _ hC) rfl hoe rfl (fun c e => by cases e) (PySem.W.looks_mroIn X0 U.sub) (fun h1 e1 k1 => ?_)
  have X1 : K.In h1 := X0.keeps k1
  have hm : PySem.W.alongIn K "__init__" (((Value.ref C :: bm).dropWhile (· != .ref C)).drop 1) = some (some (.builtin "ValueError.__init__")) := by
    have := U.sin
    unfold PySem.W.ks_superIn at this
    rw [hcl] at this
    exact this
  have I1 : PySem.W.InstAt h1 a (PySem.HandSPX.excO C t1) C none := ⟨k1 _ _ hoe, rfl, rfl, trivial⟩
  refine PySem.W.kxs_getMethod PySem.W.kxs_ValueError e1 (PySem.W.looks_opaque X1 U.opq) (l₀ := .ref C :: bm) (fun A Q E s k q => wpAny_bind ((PySem.W.looks_clsIn X1 hcl) A _ E s k (wpAny_pure q))) rfl X1 hm (I1.type.andThen (PySem.W.looks_subIn X1 U.sve)) hCne rfl ?_
  show wpAny _ _ (callWith p4 (.ref h1.objs.size) [] ((false, eval (.Constant (.str tx) j p3) _) :: []) []) _ _ _
  refine PySem.W.kxs_callWith (i := "ValueError.__init__") (x := a) rfl (PySem.Calls.evalArgs_plain (PySem.Calls.spliced_cons (PySem.Calls.Constant_str (PySem.Calls.spliced_nil ⟨Heap.get?_push_size _ rfl, ?_⟩))))
  have hu2 : (h1.push (PySem.W.kxs_mw "ValueError.__init__" a)).get? h1.objs.size = some (PySem.W.kxs_mw "ValueError.__init__" a) := Heap.get?_push_size _ rfl
  have k2' : ∀ b o, h1.get? b = some o → (h1.push (PySem.W.kxs_mw "ValueError.__init__" a)).get? b = some o := fun b o e => Heap.get?_push_of_some _ e
  generalize (h1.push (PySem.W.kxs_mw "ValueError.__init__" a)) = h2 at hu2 k2' ⊢
  have X2 : K.In h2 := X1.keeps k2'
  have ho2 : h2.get? a = some (PySem.HandSPX.excO C t1) := k2' _ _ (k1 _ _ hoe)
  refine wpAny_call (codeAny_of_tree ?_)
  show wpAny _ (Around.in1 _) (callAny (.ref h1.objs.size) ⟨_, []⟩) _ _ _
  simp only [callAny]
  refine wpAny_bind (wpAny_load hu2 ?_)
  simp only [PySem.W.kxs_mw, show (Value.type "method-wrapper" == Value.type "method" || Value.type "method-wrapper" == Value.type "builtin_function_or_method" || Value.type "method-wrapper" == Value.type "method-wrapper") = true by decide, if_true]
  refine PySem.W.KFB.if_so (by decide) ?_
  refine wpAny_bind (PySem.W.check_bound_init F.excBase_ValueError.toExcCallFacts (X2 _ _ hC) ho2 rfl ?_)
  refine wpAny_bind (wpAny_pure (wpAny_pure ?_))
  refine ⟨plainId_quiet F.excBase_ValueError.init.plain _, codeAny_builtin F.excBase_ValueError.initEntry ?_⟩
  refine PySem.W.exc_init_tree (cls := .ref C) (t0 := t1) (dv := none) (c2 := .none) (c3 := .none) (b4 := .bool false) ho2 (by rw [sizeLine_eq]; show 1 ≤ 16777216; decide) fun h3 k3 e3 t3 => ?_
  show PySem.wpAt _ _ _ (execs [Stmt.Assign [.Attribute (.Name "self" p6) fl p7] (.Name par p8) p9] _) _ _ _
  have k3' : ∀ b o, b ≠ a → h₀.get? b = some o → h3.get? b = some o := fun b o hb e => k3 b o hb (k2' _ _ (k1 _ _ e))
  have X3 : K.In h3 := fun b o e => k3' b o (fun z => by
    have := KX _ _ e
    rw [z, ho] at this
    cases this
    have hca := e0.bs
    have e9 := e0.mod.kin _ _ e
    have := (e0.bs _ _ e9).2
    rw [z, ea] at this
    cases this) (X0 _ _ e)
  have hL3 : h3.get? hh.objs.size = some oL := k3' _ _ haL hL
  refine PySem.wpAt_of_wpAny (wpAny_execs_cons (plainObj_wpAny_Assign_Attribute (wpAny_Name (wpAny_loadName_local hk kpar ⟨oL, es, ep, hL3, hLr⟩ hv2 ?_) U.npd) rfl))
  refine wpAny_Name (wpAny_loadName_local hk kself ⟨oL, es, ep, hL3, hLr⟩ hv1 ?_) (by decide)
  refine PySem.W.set_plain X3 (ox := PySem.HandSPX.excO C _) (od := none) ⟨e3, rfl, rfl, trivial⟩ U.oex.sa ?_
  refine PySem.HandSPX.exc_osa X3 e3 hcl (show PySem.HandSPX.refsVE (.ref C :: bm) = true from hbm) rfl U.fno (fun h4 tk4 dx k4 dn dne hx hn => ?_)
  refine wpAny_execs_nil ?_
  have hsz : hh.objs.size ≤ dx := Nat.le_trans (Nat.le_of_lt (Heap.lt_size hL3)) dn
  have hnd : H dx = none := e0.hok.fresh hsz
  have kall : ∀ b o, b ≠ a → hh.get? b = some o → h4.get? b = some o := fun b o hb e => k4 b o hb (k3' b o hb (hk₀ _ _ e))
  have nd : ∀ {b : Addr} {o : Obj}, hh.get? b = some o → b ≠ dx := fun {b o} q => Nat.ne_of_lt (Nat.lt_of_lt_of_le (Heap.lt_size q) hsz)
  have na : ∀ {b : Addr}, H b = none → b ≠ a := fun {b} n z => by
    rw [z, ea] at n
    cases n
  have Un1 : Un (frs outer) [] H (upd (upd H dx (exd dx [(fl, y)])) a (exo a C (some dx))) hh h4 := {
    keep := fun b o q n _ _ => kall b o (na n) q
    slot := fun b o q n _ _ => ⟨o.slots, kall b o (na n) q⟩
    free := fun b o q n _ => by rw [upd_ne (na n), upd_ne (nd q)]; exact n
    there := fun b o q _ => by
      by_cases hb : b = a
      · exact ⟨_, by rw [hb]; exact hx⟩
      · exact ⟨o, kall b o hb q⟩
    tups := fun b xs q => by rw [upd_ne (at_ne ea q exo_tup), upd_ne (ne_of_none q hnd)]; exact q
    frzs := fun b o v q => by rw [upd_ne (at_ne ea q exo_frz), upd_ne (ne_of_none q hnd)]; exact q
    tbls := fun b ps q => ⟨#[], by rw [upd_ne (at_ne ea q exo_tbl), upd_ne (ne_of_none q hnd), q]; simp⟩ }
  refine ⟨.non, _, rfl, e0.bare, Un1, fun b o q => ?_, rfl, hQ dx hnd dne⟩
  by_cases hb : b = a
  · subst hb
    rw [upd_same] at q
    cases q
    exact exo_ok hx
  · rw [upd_ne hb] at q
    by_cases hd : b = dx
    · subst hd
      rw [upd_same] at q
      cases q
      exact exd_ok hn (relO_put (fs := []) ry fun g => True.intro)
    · rw [upd_ne hd] at q
      exact (e0.hok b o q).stay (fun c v hc z => kall c v (by
          rcases hc with hc | hc
          · rw [hc]
            exact hb
          · exact at_ne ea hc exo_own) z)
        (fun c hc => by rw [upd_ne (at_ne ea hc exo_own), upd_ne (ne_of_none hc hnd)]; exact hc) (fun c xs hc => by rw [upd_ne (at_ne ea hc exo_tup), upd_ne (ne_of_none hc hnd)]; exact hc)
end Lk
end
section
/-! F10: raise X(e) of an error with one field. -/
set_option Elab.async false
set_option linter.all false
set_option maxRecDepth 100000
set_option maxHeartbeats 2000000
namespace Lk
open PySem PySem.Spec PyProof.Rows L2 SlX
/-- what is known of an own error with a field -/
structure ErrI (X : Cx) (F : Fx) (x : Str) (c : Nat) : Prop where
  ex : ∃ (f : Addr) (fl par : Str) (fd : FuncData), SupF X.prog X.K X.mg (F.Z.adr c) f fl par fd ∧ PySem.W.findIn X.K (.ref (F.Z.adr c)) "__init__" = some (some (.ref f)) ∧ PySem.W.typeIn X.K (.ref f) = some (.type "function") ∧ Binds X.K fd ["self", par] [] ∧ F.Z.fld c = some fl
  gl : X.mg x = some (.ref (F.Z.adr c))
section
variable {X : Cx} {F : Fx} {W : WX}
theorem upd_del {H : Hp} {a d : Addr} {o1 o2 o3 o4 : HO} (ha : H a = none) (hda : d ≠ a) : upd (del (upd (upd (upd H a o4) d o1) a o2) a) d o3 = upd H d o3 := by
  funext b
  by_cases e : b = d
  · rw [e, upd_same, upd_same]
  · rw [upd_ne e, upd_ne e]
    by_cases e2 : b = a
    · rw [e2, del_same, ha]
    · rw [del_ne e2, upd_ne e2, upd_ne e, upd_ne e2]
theorem passes_no {Q : XK} : Passes (CX X.prog X.w) X (fun _ _ _ => False) := fun pins σ H s e s' I c => (no_cx c).elim
theorem sS_raiseF {x : Str} {c k : Nat} {e : Expr} {y : XE} {p pc pos : Pos} (hc : X.calm = true) (tk : Takes X W) (E : ErrI X F x c) (hr : Room (k + 1 + 1) X.A) (hg : Gl X x) (hdb : (x == ("__debug__" : Str)) = false) (he : PE X e (tE X F W y)) (hst : starEach [e] X.env = [(false, eval e X.env)]) :
    SS X F W (.Raise (some (.Call (.Name x p) [e] [] pc)) none pos) (.raise c (.cons y .nil)) := by
  obtain ⟨f, fl, par, fd, U, hi, ht, hb, hf⟩ := E.ex
  refine PSw (ps_raise hc tk (pmk_oex (CX := CX X.prog X.w) (k := k + 1) (dvs := []) (ds := []) U.oex hi ht (fn_sup U) hr hb .nil (passes_no (Q := fun _ _ _ => False)) hg E.gl (sA_cons he sA_nil hst) hdb hst rfl)) fun D σ H h => ?_
  obtain ⟨ρ, s, S, m, e0, r⟩ := h
  refine ⟨ρ, s, S, m, e0, ?_⟩
  have r : RunS X.K F.T F.Y F.Z W ρ H (M.at s (evs F.cal (.cons y .nil) s) (fun ds => M.pure (.xc c ds s)) S) D := r
  unfold M.at at r
  unfold Run
  cases z : evs F.cal (.cons y .nil) s S with
  | bad => rw [z] at r; exact r
  | exc c p S1 =>
    rw [z] at r
    exact fun ρ1 H1 cls d e1 m1 w => r ρ1 H1 σ cls d e1 m1 (e0.mono m e1) w
  | ok ds S1 =>
    rw [z] at r
    intro ρ1 H1 vs e1 m1 rs
    have hl := evs_len z
    match ds, rs, r, hl with
    | [d1], .cons (v := v1) r1 .nil, r, _ =>
      refine ⟨by show 1 ≤ 1000; decide, fun a ha => ⟨a, v1, rfl, upd_same, fun dx hdx hne => ⟨rfl, dx, [(fl, v1)], upd_same, by rw [upd_ne hne, upd_same], by rw [upd_ne hne] at hdx; exact hdx, ?_⟩⟩⟩
      have hd1 : H1 dx = none := by rw [upd_ne hne] at hdx; exact hdx
      rw [upd_del ha hne]
      refine r ρ1 _ σ _ _ (e1.trans (ext_new hd1) m1) (m1.new hd1) ((e0.mono m e1).mono m1 (ext_new hd1)) ⟨rfl, ?_⟩
      rw [hf]
      exact ⟨dx, v1, rfl, upd_same, r1.mono m1 (ext_new hd1)⟩
end
end Lk
end
section
/-! F11: what is walked: lists, tuples, texts; zip and enumerate of them. -/
set_option Elab.async false
set_option linter.all false
set_option maxRecDepth 100000
set_option maxHeartbeats 2000000
namespace Lk
open PySem PySem.Spec PyProof.Rows L2 SlX
inductive Src where
  | lst (a : Addr) | tup (a : Addr) | txt (z : Str)
def Src.at_ (K : PySem.W.Frag) (H : Hp) (vs : List V) : Src → Prop
  | .lst a => SqL K H a vs
  | .tup a => SqT K H a vs
  | .txt z => vs = z.cps.toList.map fun c => V.str ⟨#[c]⟩
def Src.v : Src → V
  | .lst a => .ref a
  | .tup a => .ref a
  | .txt z => .str z
def Src.ads : Src → List Addr
  | .lst a => [a]
  | .tup a => [a]
  | .txt _ => []
def Src.isIt (h : Heap) (it : Addr) (i : Nat) : Src → Prop
  | .lst a => h.IsListIter it a i
  | .tup a => h.IsTupleIter it a i
  | .txt z => ∃ t, h.IsStrIter it (strIterType z) z t i
section
variable {X : Cx} {pins : List (Addr × Obj)} {σ : L2.St} {H : Hp} {s : Shared}
theorem vals_get : ∀ {vs : List V} {us : List Value} {k : Nat} {u : Value}, Vals vs us → us[k]? = some u → ∃ x, vs[k]? = some x ∧ RelV x u
  | _, _, _, _, .nil, h => by simp at h
  | _, _, 0, _, .cons r _, h => by simp at h; subst h; exact ⟨_, rfl, r⟩
  | _, _, k + 1, u, .cons _ t, h => by
    obtain ⟨x, h1, h2⟩ := vals_get (k := k) (u := u) t (by simpa using h)
    exact ⟨x, by simpa using h1, h2⟩
theorem Src.inj (r : Src) (I : Inv X pins σ H s) {vs ws : List V} (h : r.at_ X.K H vs) (h2 : r.at_ X.K H ws) : vs = ws := by
  cases r with
  | lst a => exact I.list_inj h h2
  | tup a => exact I.tuple_inj h h2
  | txt z => exact (show vs = _ from h).trans (show ws = _ from h2).symm
theorem Src.keep {h h' : Heap} {it : Addr} {i : Nat} (r : Src) (q : r.isIt h it i) (k : ∀ o, h.get? it = some o → h'.get? it = some o) : r.isIt h' it i := by
  cases r with
  | lst a => exact Heap.IsListIter.at q k
  | tup a => exact Heap.IsTupleIter.at q k
  | txt z => obtain ⟨t, o, ho, q⟩ := q; exact ⟨t, o, k _ ho, q⟩
theorem Src.obj {h : Heap} {it : Addr} {i : Nat} (r : Src) (q : r.isIt h it i) : ∃ o, h.get? it = some o ∧ ∀ v, o.data ≠ .cell v := by
  cases r with
  | lst a => obtain ⟨o, h1, _, d⟩ := q; exact ⟨o, h1, fun v z => by rw [d] at z; cases z⟩
  | tup a => obtain ⟨o, h1, _, d⟩ := q; exact ⟨o, h1, fun v z => by rw [d] at z; cases z⟩
  | txt z => obtain ⟨t, o, h1, _, d⟩ := q; exact ⟨o, h1, fun v z => by rw [d] at z; cases z⟩
theorem Src.draws (r : Src) (I : Inv X pins σ H s) {A : Around} (hh : A.handled = none) {vs : List V} (h : r.at_ X.K H vs) {it : Addr} {i : Nat} (hi : r.isIt s.heap it i) (hne : it ∉ r.ads) :
    ∃ (P : Nat → Value → Prop) (St : Nat → Heap → Prop), Draws X.prog X.w A it (it :: r.ads) vs.length P St ∧ St i s.heap ∧ (∀ k v, P k v → ∃ x, vs[k]? = some x ∧ RelV x v) ∧ ∀ k h', St k h' → r.isIt h' it k := by
  cases r with
  | lst a =>
    obtain ⟨its, rv, p, _⟩ := I.list h
    have D := Draws.list (prog := X.prog) (w := X.w) hh it a (fun z => hne (by rw [z]; exact List.mem_singleton.mpr rfl)) its.toArray
    rw [show its.toArray.size = vs.length by rw [List.size_toArray, rv.length]] at D
    exact ⟨_, _, D, ⟨hi, p.isList⟩, fun k v hv => by
      obtain ⟨x, h1, h2⟩ := vals_get rv (show its[k]? = some v by simpa using hv)
      exact ⟨x, h1, h2⟩, fun k h' q => q.1⟩
  | tup a =>
    obtain ⟨its, rv, p, _⟩ := I.tuple h
    have D := Draws.tuple (prog := X.prog) (w := X.w) hh it a (fun z => hne (by rw [z]; exact List.mem_singleton.mpr rfl)) its.toArray
    rw [show its.toArray.size = vs.length by rw [List.size_toArray, rv.length]] at D
    exact ⟨_, _, D, ⟨hi, p⟩, fun k v hv => by
      obtain ⟨x, h1, h2⟩ := vals_get rv (show its[k]? = some v by simpa using hv)
      exact ⟨x, h1, h2⟩, fun k h' q => q.1⟩
  | txt z =>
    obtain ⟨t, hi⟩ := hi
    have e : vs = _ := h
    have D := Draws.text (prog := X.prog) (w := X.w) hh it z t
    rw [show z.cps.size = vs.length by rw [e]; simp] at D
    refine ⟨_, _, D, hi, fun k v hv => ?_, fun k h' q => ⟨t, q⟩⟩
    obtain ⟨c, u, h1, rfl⟩ := hv
    refine ⟨.str ⟨#[c]⟩, ?_, ⟨u, rfl⟩⟩
    rw [e, List.getElem?_map, Array.getElem?_toList, h1]
    rfl
theorem Src.begin (r : Src) (I : Inv X pins σ H s) {vs : List V} (h : r.at_ X.K H vs) {u : Value} (ru : RelV r.v u) :
    ∃ (o : Obj) (Hq : Heap → Prop), Begins u o Hq ∧ Hq s.heap ∧ (∀ h' it, h'.get? it = some o → r.isIt h' it 0) ∧ ∀ a ∈ r.ads, a < s.heap.objs.size := by
  cases r with
  | lst a =>
    cases ru
    obtain ⟨its, rv, p, _⟩ := I.list h
    exact ⟨_, _, begins_list a its.toArray, p.isList, fun h' it e => ⟨_, e, rfl, rfl⟩, fun b hb => by rw [List.mem_singleton.mp hb]; exact p.lt⟩
  | tup a =>
    cases ru
    obtain ⟨its, rv, p, _⟩ := I.tuple h
    obtain ⟨o1, ho1, _⟩ := id p
    exact ⟨_, _, begins_tuple a its.toArray, p, fun h' it e => ⟨_, e, rfl, rfl⟩, fun b hb => by rw [List.mem_singleton.mp hb]; exact Heap.lt_size ho1⟩
  | txt z =>
    obtain ⟨t, rfl⟩ := ru
    exact ⟨_, _, begins_text z t, trivial, fun h' it e => ⟨t, _, e, rfl, rfl⟩, fun b hb => by cases hb⟩
/-! ### zip -/
def ItZ (K : PySem.W.Frag) (a b : Src) : It :=
  ⟨fun i H => ∃ (xs ys : List V), a.at_ K H xs ∧ b.at_ K H ys ∧ i < xs.length ∧ i < ys.length,
    fun i H v H' => ∃ T x y, v = .ref T ∧ H T = none ∧ H' = upd H T (.tup [x, y]) ∧ (∀ xs, a.at_ K H xs → xs[i]? = some x) ∧ ∀ ys, b.at_ K H ys → ys[i]? = some y,
    fun i H => ∃ xs ys : List V, a.at_ K H xs ∧ b.at_ K H ys ∧ i ≤ xs.length ∧ i ≤ ys.length ∧ (i = xs.length ∨ i = ys.length)⟩
theorem turn_zipS {P : Program} {w : World} {K : PySem.W.Frag} {elts : List Expr} {kk : Nat} {tpos : Pos} {a b : Src} {z TI TO i1 i2 : Addr} (D : ZipSep2 z TI TO i1 i2 (i1 :: a.ads) (i2 :: b.ads)) (n1 : i1 ∉ a.ads) (n2 : i2 ∉ b.ads) :
    Turn P w K (.Tuple elts kk tpos) (ItZ K a b) [z, TI, TO, i1, i2] z (fun i h => IsZip h z TI TO .none ∧ IsTupOf2 h TI (.ref i1) (.ref i2) ∧ (∃ x y, IsTupOf2 h TO x y) ∧ a.isIt h i1 i ∧ b.isIt h i2 i) where
  mem := by simp
  obj := fun i h st c hc => by
    obtain ⟨hz, hTI, ⟨x, y, hTO⟩, h1, h2⟩ := st
    have e' : c = z ∨ c = TI ∨ c = TO ∨ c = i1 ∨ c = i2 := by simpa using hc
    rcases e' with q | q | q | q | q
    · rw [q]; exact ⟨_, hz, fun v q => nomatch q⟩
    · rw [q]; exact ⟨_, hTI, fun v q => nomatch q⟩
    · rw [q]; exact ⟨_, hTO, fun v q => nomatch q⟩
    · rw [q]; exact a.obj h1
    · rw [q]; exact b.obj h2
  keep := fun i h h' st k => by
    obtain ⟨hz, hTI, ⟨x, y, hTO⟩, h1, h2⟩ := st
    exact ⟨k z (by simp) _ hz, k TI (by simp) _ hTI, ⟨x, y, k TO (by simp) _ hTO⟩, a.keep h1 fun o q => k i1 (by simp) o q, b.keep h2 fun o q => k i2 (by simp) o q⟩
  item := by
    intro X hP hw hK hc i pins s σ H E I hf st hg
    subst hP hw hK
    obtain ⟨hz, hTI, ⟨x0, y0, hTO⟩, h1, h2⟩ := st
    obtain ⟨xs, ys, hqx, hqy, hx, hy⟩ := hg
    have hd : X.A.in1.handled = none := I.ok.hd hc
    obtain ⟨P1, St1, D1, s1, g1, k1⟩ := a.draws I hd hqx h1 n1
    obtain ⟨P2, St2, D2, s2, g2, k2⟩ := b.draws I hd hqy h2 n2
    have hzl : z < s.heap.objs.size := Heap.lt_size hz
    refine wpAny_pyNext_zipD2_item D D1 D2 hz hTI hTO s1 s2 hx hy fun u u2 h' tk p1 p2 z' TO' h1' h2' hT hsz hk => ?_
    obtain ⟨x, ex, ru⟩ := g1 _ _ p1
    obtain ⟨y, ey, ru2⟩ := g2 _ _ p2
    refine ⟨_, rfl, wpAny_letOwnedTupleGo_zip (s := { s with heap := h', toks := tk }) z' fun h'' z'' sb => ?_⟩
    have hT2 : h''.get? s.heap.objs.size = some { cls := .type "tuple", data := .seq #[u, u2] } := (sb.2 _ (Nat.ne_of_gt hzl)).trans hT
    have new : ObjOk X.prog X.w (upd H s.heap.objs.size (.tup [x, y])) h'' s.heap.objs.size (.tup [x, y]) :=
      ⟨by show 2 ≤ sizeLine; decide, [u, u2], .cons ru (.cons ru2 .nil), ⟨_, hT2, rfl, _, rfl⟩⟩
    have I1 : Inv X pins σ (upd H s.heap.objs.size (.tup [x, y])) { s with heap := h'', toks := tk } :=
      I.turnedNew (t' := tk) (ch := [z, TI, TO, i1, i2]) (fun c o hb q => (sb.2 c (fun q' => hb (by simp [q']))).trans (hk c o (fun q' => hb (by simp [q'])) (fun q' => hb (by simp [q'])) (fun q' => hb (by simp [q'])) (fun q' => hb (by simp [q'])) q)) hf (Nat.le_refl _) new
    refine ⟨.ref s.heap.objs.size, _, I1, rfl, ⟨_, x, y, rfl, I.hok.fresh (Nat.le_refl _), rfl, fun l hl => by rw [a.inj I hl hqx]; exact ex, fun l hl => by rw [b.inj I hl hqy]; exact ey⟩, ⟨z'', ?_, ⟨u, u2, ?_⟩, ?_, ?_⟩, fun c hcm => ?_⟩
    · exact (sb.2 _ D.TIz).trans (hk _ _ D.TIz D.TITO D.TIi1 D.TIi2 hTI)
    · exact (sb.2 _ D.TOz).trans TO'
    · exact a.keep (k1 _ _ h1') fun o q => (sb.2 _ D.zi1.symm).trans q
    · exact b.keep (k2 _ _ h2') fun o q => (sb.2 _ D.zi2.symm).trans q
    · have hlt : c < s.heap.objs.size := by
        have e' : c = z ∨ c = TI ∨ c = TO ∨ c = i1 ∨ c = i2 := by simpa using hcm
        rcases e' with q | q | q | q | q
        · rw [q]; exact hzl
        · rw [q]; exact Heap.lt_size hTI
        · rw [q]; exact Heap.lt_size hTO
        · rw [q]; obtain ⟨_, e1, _⟩ := a.obj h1; exact Heap.lt_size e1
        · rw [q]; obtain ⟨_, e2, _⟩ := b.obj h2; exact Heap.lt_size e2
      rw [upd_ne (Nat.ne_of_lt hlt)]
      exact (hf c hcm).1
  done := by
    intro X hP hw hK hc i pins s σ H E I hf st hg
    subst hP hw hK
    obtain ⟨hz, hTI, ⟨x0, y0, hTO⟩, h1, h2⟩ := st
    obtain ⟨xs, ys, hqx, hqy, hx, hy, hend⟩ := hg
    have hd : X.A.in1.handled = none := I.ok.hd hc
    obtain ⟨P1, St1, D1, s1, g1, k1⟩ := a.draws I hd hqx h1 n1
    obtain ⟨P2, St2, D2, s2, g2, k2⟩ := b.draws I hd hqy h2 n2
    exact wpAny_pyNext_zipD2_end D D1 D2 hz hTI hTO s1 s2 hx hy hend fun h' tk hk => ⟨rfl, I.turnedL (t' := tk) (ch := [z, TI, TO, i1, i2]) (fun c o hb q =>
      hk c o (fun q' => hb (by simp [q'])) (fun q' => hb (by simp [q'])) (fun q' => hb (by simp [q'])) (fun q' => hb (by simp [q'])) q) hf⟩
  self := fun A i s Q E st h => wpAny_pyIter_zip st.1 h
def iZipS (K : PySem.W.Frag) (ta : TA) : TI := fun σ H R => ta σ H fun vs H1 => ∃ (a b : Src) (xs ys : List V), vs = [a.v, b.v] ∧ a.at_ K H1 xs ∧ b.at_ K H1 ys ∧ R (ItZ K a b) H1
theorem pi_zipS {X : Cx} {e e2 : Expr} {ta : TA} {p pos tpos : Pos} {elts : List Expr} {kk : Nat} (hg : Gl X "zip") (hm : X.mg "zip" = none) (ha : PA X [e, e2] ta)
    (hs : starEach [e, e2] X.env = (false, eval e X.env) :: starEach [e2] X.env) (hpl : (backTo pos (starEach [e2] X.env)).any (·.1) = false) :
    PI X (.Tuple elts kk tpos) (.Call (.Name "zip" p) [e, e2] [] pos) (iZipS X.K ta) := by
  refine ⟨fun pins s σ H R I h => ?_⟩
  refine Call_ (ld_blt I hg hm PyProof.Rows.boot_zip (PyProof.Rows.callWith_type1 (thn (ha.run pos pins s σ H _ I h) fun us s1 ⟨vs, H1, I1, r1, q1⟩ => ?_) hs hpl))
  obtain ⟨a, b, xs, ys, ex, hqx, hqy, q⟩ := q1
  subst ex
  cases r1 with
  | @cons _ u _ _ ra rr =>
  cases rr with
  | @cons _ u2 _ _ rb rr =>
    cases rr
    obtain ⟨o1, Q1, B1, q1, i1, l1⟩ := a.begin I1 hqx ra
    obtain ⟨o2, Q2, B2, q2, i2, l2⟩ := b.begin I1 hqy rb
    refine zip_begins2 B1 B2 q1 q2 fun h' hz hTI hTO h1 h2 hsz hk => wpAny_pyIter_zip hz ?_
    have I2 : Inv X pins σ H1 { s1 with heap := h' } := I1.kept (t' := s1.toks) hk
    have m1 : s1.heap.objs.size ∉ a.ads := fun z => Nat.lt_irrefl _ (l1 _ z)
    have m2 : s1.heap.objs.size + 1 ∉ b.ads := fun z => absurd (l2 _ z) (Nat.not_lt_of_le (Nat.le_succ _))
    have sp := zip_sep2 l1 l2
    refine ⟨s1.heap.objs.size + 4, [s1.heap.objs.size + 4, s1.heap.objs.size + 2, s1.heap.objs.size + 3, s1.heap.objs.size, s1.heap.objs.size + 1], _, _, H1, rfl, I2, turn_zipS sp m1 m2, ⟨hz, hTI, ⟨_, _, hTO⟩, i1 _ _ h1, i2 _ _ h2⟩, fun c hcm => ?_, q⟩
    have e' : c = s1.heap.objs.size + 4 ∨ c = s1.heap.objs.size + 2 ∨ c = s1.heap.objs.size + 3 ∨ c = s1.heap.objs.size ∨ c = s1.heap.objs.size + 1 := by simpa using hcm
    have hle : s1.heap.objs.size ≤ c := by
      rcases e' with z | z | z | z | z
      · rw [z]; exact Nat.le_add_right _ _
      · rw [z]; exact Nat.le_add_right _ _
      · rw [z]; exact Nat.le_add_right _ _
      · rw [z]; exact Nat.le_refl _
      · rw [z]; exact Nat.le_add_right _ _
    exact I1.fpOk hle (I1.hok.fresh hle)
/-! ### enumerate -/
theorem meets_enumB {v : Value} {o : Obj} {H : Heap → Prop} (B : Begins v o H) :
    Meets (Builtin.«enumerate.__new__» ⟨[.type "enumerate", v], []⟩) (fun _ R s => H s.heap ∧
      R (.ok (.ret (.ref (s.heap.push o).objs.size)))
        { s with heap := (s.heap.push o).push { cls := .type "enumerate", data := .fields #[.none, .bool false, .ref s.heap.objs.size, rawInt 0, .none, .none] } }) :=
  .of_wp fun prog w A R s h => by
    obtain ⟨hp, g, d, tk, os⟩ := s
    obtain ⟨h1, h⟩ := h
    have hsub := sub_enumerate
    have q1 : ∀ {A' : Around} {E : Value → Shared → Prop} {Q : Value → Shared → Prop}, Q (.ref hp.objs.size) ⟨hp.push o, g, d, tk, os⟩ → wpAny (model prog w) A' (pyIter v) Q E ⟨hp, g, d, tk, os⟩ :=
      fun q => B.iter prog w _ _ ⟨hp, g, d, tk, os⟩ _ h1 q
    wp_walk
    refine wpAny_stack_any fun st => wpAny_pure ?_
    split
    · rename_i c _ _ _ _ _
      cases (c == Value.type "enumerate")
      · wp_walk using q1
        exact ⟨_, rfl, h⟩
      · wp_walk using q1
        exact ⟨_, rfl, h⟩
    · wp_walk using q1
      exact ⟨_, rfl, h⟩
theorem call_enumB {prog : Program} {w : World} {A : Around} {E : Value → Shared → Prop} {s : Shared} {v : Value} {o : Obj} {H : Heap → Prop} {Q : Value → Shared → Prop} (B : Begins v o H) (h1 : H s.heap)
    (h : ∀ h', IsEnum h' (s.heap.objs.size + 1) s.heap.objs.size 0 .none → h'.get? s.heap.objs.size = some o → h'.objs.size = s.heap.objs.size + 2 →
      (∀ b o, s.heap.get? b = some o → h'.get? b = some o) → Q (.ref (s.heap.objs.size + 1)) { s with heap := h' }) :
    wpAny (model prog w) A (call (.type "enumerate") [v]) Q E s := by
  refine callType_new F.called_enumerate (by decide) (F.typeCall_enumerate_1 _) (F.newCall_enumerate_1 _) (fun obj => F.args_object_init_2 obj _) F.entry_enumerate_new (meets_enumB B) ⟨h1, ?_⟩
  have hz : (s.heap.push o).objs.size = s.heap.objs.size + 1 := Heap.size_push ..
  show _ ∧ _
  rw [hz]
  have he : IsEnum ((s.heap.push o).push { cls := .type "enumerate", data := .fields #[.none, .bool false, .ref s.heap.objs.size, rawInt 0, .none, .none] }) (s.heap.objs.size + 1) s.heap.objs.size 0 .none := by
    have := Heap.get?_push_size (s.heap.push o) (o := { cls := .type "enumerate", data := .fields #[.none, .bool false, .ref s.heap.objs.size, rawInt 0, .none, .none] }) rfl
    rw [hz] at this; exact this
  exact ⟨⟨_, he, rfl⟩, h _ he (Heap.get?_push_of_some _ (Heap.get?_push_size _ B.free)) (by rw [Heap.size_push, hz]) fun b o x => Heap.get?_push_of_some _ (Heap.get?_push_of_some _ x)⟩
def ItE (K : PySem.W.Frag) (a : Src) : It :=
  ⟨fun i H => ∃ (xs : List V), a.at_ K H xs ∧ i < xs.length,
    fun i H v H' => ∃ T x, v = .ref T ∧ H T = none ∧ H' = upd H T (.tup [.int (i : Nat), x]) ∧ ∀ xs, a.at_ K H xs → xs[i]? = some x,
    fun i H => ∃ xs : List V, a.at_ K H xs ∧ i = xs.length⟩
theorem turn_enumS {P : Program} {w : World} {K : PySem.W.Frag} {elts : List Expr} {kk : Nat} {tpos : Pos} {a : Src} {e it : Addr} (hei : e ≠ it) (hea : e ∉ a.ads) (hia : it ∉ a.ads) :
    Turn P w K (.Tuple elts kk tpos) (ItE K a) [e, it] e (fun i h => (∃ old, IsEnum h e it ((i : Nat) : Int) old) ∧ a.isIt h it i) where
  mem := by simp
  obj := fun i h st b hb => by
    obtain ⟨⟨old, he⟩, h1⟩ := st
    have e' : b = e ∨ b = it := by simpa using hb
    rcases e' with z | z
    · rw [z]; exact ⟨_, he, fun v q => nomatch q⟩
    · rw [z]; exact a.obj h1
  keep := fun i h h' st k => let ⟨⟨old, he⟩, hi⟩ := st; ⟨⟨old, k e (by simp) _ he⟩, a.keep hi fun o q => k it (by simp) o q⟩
  item := by
    intro X hP hw hK hc i pins s σ H E I hf st hg
    subst hP hw hK
    obtain ⟨⟨old, he⟩, hit⟩ := st
    obtain ⟨xs, hq, hx⟩ := hg
    have hd : X.A.in1.handled = none := I.ok.hd hc
    obtain ⟨P1, St1, D1, s1, g1, k1⟩ := a.draws I hd hq hit hia
    have hel : e < s.heap.objs.size := Heap.lt_size he
    have hil : it < s.heap.objs.size := by obtain ⟨_, q, _⟩ := a.obj hit; exact Heap.lt_size q
    refine wpAny_pyNext_enum_itemD D1 he s1 hx hei (fun z => by rcases List.mem_cons.mp z with z | z; exact hei z; exact hea z) fun u h' tk p1 ho hit' hT hsz hk => ?_
    obtain ⟨x, ex, ru⟩ := g1 _ _ p1
    refine ⟨_, rfl, wpAny_letOwnedTupleGo_enum (s := { s with heap := h', toks := tk + 1 }) ho fun h'' he' sb => ?_⟩
    have hT2 : h''.get? s.heap.objs.size = some { cls := .type "tuple", data := .seq #[.int i tk, u] } := (sb.2 _ (Nat.ne_of_gt hel)).trans hT
    have new : ObjOk X.prog X.w (upd H s.heap.objs.size (.tup [.int (i : Nat), x])) h'' s.heap.objs.size (.tup [.int (i : Nat), x]) :=
      ⟨by show 2 ≤ sizeLine; decide, [.int i tk, u], .cons ⟨_, rfl⟩ (.cons ru .nil), ⟨_, hT2, rfl, _, rfl⟩⟩
    have I1 : Inv X pins σ (upd H s.heap.objs.size (.tup [.int (i : Nat), x])) { s with heap := h'', toks := tk + 1 } :=
      I.turnedNew (ch := [e, it]) (fun b ob hb q => (sb.2 b (fun z => hb (by simp [z]))).trans (hk b ob (fun z => hb (by simp [z])) (fun z => hb (by simp [z])) q)) hf (Nat.le_refl _) new
    refine ⟨.ref s.heap.objs.size, _, I1, rfl, ⟨_, x, rfl, I.hok.fresh (Nat.le_refl _), rfl, fun ys hy => by rw [a.inj I hy hq]; exact ex⟩, ⟨⟨u, ?_⟩, a.keep (k1 _ _ hit') fun o q => (sb.2 it (Ne.symm hei)).trans q⟩, fun b hb => ?_⟩
    · have e1 : ((i + 1 : Nat) : Int) = (i : Int) + 1 := by omega
      rw [e1]; exact he'
    · have hb' : b < s.heap.objs.size := by
        have e' : b = e ∨ b = it := by simpa using hb
        rcases e' with z | z
        · rw [z]; exact hel
        · rw [z]; exact hil
      rw [upd_ne (Nat.ne_of_lt hb')]
      exact (hf b hb).1
  done := by
    intro X hP hw hK hc i pins s σ H E I hf st hg
    subst hP hw hK
    obtain ⟨⟨old, he⟩, hit⟩ := st
    obtain ⟨xs, hq, hx⟩ := hg
    have hd : X.A.in1.handled = none := I.ok.hd hc
    obtain ⟨P1, St1, D1, s1, g1, k1⟩ := a.draws I hd hq hit hia
    subst hx
    obtain ⟨f0, f1, f2, f3, f4, f5⟩ := hf it (by simp)
    exact wpAny_pyNext_enum_endD D1 he s1 fun h' eb => ⟨rfl, I.turned (t' := s.toks) (fun b o hb q => eb b o hb q) f0 f1 f3 f4 f5⟩
  self := fun A i s Q E st h => let ⟨⟨_, he⟩, _⟩ := st; wpAny_pyIter_enum he h
def iEnumS (K : PySem.W.Frag) (ta : TA) : TI := fun σ H R => ta σ H fun vs H1 => ∃ (a : Src) (xs : List V), vs = [a.v] ∧ a.at_ K H1 xs ∧ R (ItE K a) H1
theorem pi_enumS {X : Cx} {e : Expr} {ta : TA} {p pos tpos : Pos} {elts : List Expr} {kk : Nat} (hg : Gl X "enumerate") (hm : X.mg "enumerate" = none) (ha : PA X [e] ta) (hs : starEach [e] X.env = [(false, eval e X.env)]) :
    PI X (.Tuple elts kk tpos) (.Call (.Name "enumerate" p) [e] [] pos) (iEnumS X.K ta) := by
  refine ⟨fun pins s σ H R I h => ?_⟩
  refine Call_ (ld_blt I hg hm boot_enumerate (PyProof.Rows.callWith_type1 (thn (ha.run pos pins s σ H _ I h) fun us s1 ⟨vs, H1, I1, r1, q1⟩ => ?_) hs rfl))
  obtain ⟨a, xs, ex, hq, q⟩ := q1
  subst ex
  cases r1 with
  | @cons _ u _ _ ra rr =>
    cases rr
    obtain ⟨o1, Q1, B1, q1, i1, l1⟩ := a.begin I1 hq ra
    refine call_enumB B1 q1 fun h' he hit hsz hk => wpAny_pyIter_enum he ?_
    have I2 : Inv X pins σ H1 { s1 with heap := h' } := I1.kept (t' := s1.toks) hk
    have m1 : s1.heap.objs.size ∉ a.ads := fun z => Nat.lt_irrefl _ (l1 _ z)
    have m2 : s1.heap.objs.size + 1 ∉ a.ads := fun z => absurd (l1 _ z) (Nat.not_lt_of_le (Nat.le_succ _))
    refine ⟨s1.heap.objs.size + 1, [s1.heap.objs.size + 1, s1.heap.objs.size], _, _, H1, rfl, I2, turn_enumS (a := a) (e := s1.heap.objs.size + 1) (it := s1.heap.objs.size) (Nat.succ_ne_self _) m2 m1, ⟨⟨.none, he⟩, i1 _ _ hit⟩, fun b hb => ?_, q⟩
    have e' : b = s1.heap.objs.size + 1 ∨ b = s1.heap.objs.size := by simpa using hb
    have hle : s1.heap.objs.size ≤ b := by
      rcases e' with z | z
      · rw [z]; exact Nat.le_add_right _ _
      · rw [z]; exact Nat.le_refl _
    exact I1.fpOk hle (I1.hok.fresh hle)
/-! ### one thing walked -/
def iOne (K : PySem.W.Frag) (te : TE) : TI := fun σ H R => te σ H fun v H1 => ∃ (a : Src) (xs : List V), v = a.v ∧ a.at_ K H1 xs ∧ R (match a with | .lst a => Itl K a | .tup a => Itt K a | .txt z => Its z) H1
theorem pi_oneS {X : Cx} {tg l : Expr} {tl : TE} (hl : PE X l tl) : PI X tg l (iOne X.K tl) := by
  refine ⟨fun pins s0 σ0 H0 R I0 hq => thn (hl.run pins s0 σ0 H0 _ I0 hq) fun v s1 q => ?_⟩
  obtain ⟨z, H2, I2, rz, a, xs, hz, hx, q⟩ := q
  subst hz
  have fresh := I2.fpOk (H' := H2) (Nat.le_refl _) (I2.hok.fresh (Nat.le_refl _))
  have grown : ∀ o : Obj, Inv X pins σ0 H2 { s1 with heap := s1.heap.push o } := fun o => I2.kept (t' := s1.toks) fun b u e => Heap.get?_push_of_some o e
  have only : ∀ b ∈ [s1.heap.objs.size], FpOk X pins H2 b := fun b hb => by
    rw [List.mem_singleton] at hb
    rw [hb]; exact fresh
  cases a with
  | lst a =>
    cases rz
    obtain ⟨its, _, isl, _⟩ := I2.list hx
    exact wpAny_pyIter_list isl.isList ⟨_, [s1.heap.objs.size], _, _, H2, rfl, grown _, turn_list a _, ⟨_, Heap.get?_push_size _ rfl, rfl, rfl⟩, only, q⟩
  | tup a =>
    cases rz
    obtain ⟨its, _, ist, _⟩ := I2.tuple hx
    exact wpAny_pyIter_tuple (show s1.heap.IsTuple a its.toArray from ist) ⟨_, [s1.heap.objs.size], _, _, H2, rfl, grown _, turn_tuple a _, ⟨_, Heap.get?_push_size _ rfl, rfl, rfl⟩, only, q⟩
  | txt z =>
    obtain ⟨t, rfl⟩ := rz
    refine wpAny_pyIter_strU ⟨_, [s1.heap.objs.size], _, _, H2, rfl, grown _, turn_str s1.heap.objs.size z t (strIterType z) ?_, ⟨_, Heap.get?_push_size _ rfl, rfl, rfl⟩, only, q⟩
    unfold strIterType
    split
    · exact .inl rfl
    · exact .inr rfl
end
end Lk
end
section
/-! F12: what is walked, in the evaluator. -/
set_option Elab.async false
set_option linter.all false
set_option maxRecDepth 100000
set_option maxHeartbeats 2000000
namespace Lk
open PySem PySem.Spec PyProof.Rows L2 SlX
section
variable {X : Cx} {F : Fx} {W : WX} {K : PySem.W.Frag} {T : Nat → Addr} {Z : Xs} {ρ : Pm} {H : Hp} {S : Store}
theorem rds_signs : ∀ z : List Nat, RDs K T ρ H (z.map fun c => D.str [c]) (z.map fun c => V.str ⟨#[c]⟩)
  | [] => .nil
  | c :: z => .cons (.str [c]) (rds_signs z)
/-- a value that is walked, as a source -/
def srcOf : D → V → Src
  | .str z, _ => .txt ⟨z.toArray⟩
  | .tup _, .ref a => .tup a
  | _, .ref a => .lst a
  | _, _ => .lst 0
theorem walk_src (m : RS K T ρ S H) {d : D} {xs : List D} {v : V} (e : walkOf S d = some xs) (r : RD K T ρ H d v) : v = (srcOf d v).v ∧ ∃ (vs : List V), (srcOf d v).at_ K H vs ∧ RDs K T ρ H xs vs := by
  cases d with
  | str z =>
    cases e
    cases r
    exact ⟨rfl, _, rfl, by simpa using rds_signs z⟩
  | tup ys =>
    cases e
    obtain ⟨a, vs, rfl, h, rs⟩ := r.tup_inv
    exact ⟨rfl, vs, h, rs⟩
  | fl ys =>
    obtain ⟨a, vs, rfl, h, rs⟩ := seqOf_inv m (show seqOf S (.fl ys) = some xs from e) r
    exact ⟨rfl, vs, h, rs⟩
  | sc ys =>
    obtain ⟨a, vs, rfl, h, rs⟩ := seqOf_inv m (show seqOf S (.sc ys) = some xs from e) r
    exact ⟨rfl, vs, h, rs⟩
  | ref n =>
    obtain ⟨a, vs, rfl, h, rs⟩ := seqOf_inv m (show seqOf S (.ref n) = some xs from e) r
    exact ⟨rfl, vs, h, rs⟩
  | _ => cases e
/-- .. later -/
theorem walk_later {d : D} {xs : List D} {v : V} {ρ' : Pm} {H' : Hp} {S' : Store} (m : RS K T ρ S H) (hx : walkOf S d = some xs) (r : RD K T ρ H d v) (e : Ext ρ H ρ' H') (m' : RS K T ρ' S' H') (hg : stands S' (guardOf S d) = true) : walkOf S' d = some xs ∧ RD K T ρ' H' d v := by
  by_cases hs : ∃ z, d = .str z
  · obtain ⟨z, rfl⟩ := hs
    exact ⟨hx, r.mono m e⟩
  · have hx' : itemsOf S d = some xs := by cases d <;> first | exact hx | exact absurd ⟨_, rfl⟩ hs
    have := items_later m hx' r e m' hg
    refine ⟨?_, this.2⟩
    cases d <;> first | exact this.1 | exact absurd ⟨_, rfl⟩ hs
/-- the same source, later -/
theorem src_later {d : D} {xs : List D} {v : V} {ρ' : Pm} {H' : Hp} {S' : Store} (m : RS K T ρ S H) (hx : walkOf S d = some xs) (r : RD K T ρ H d v) (e : Ext ρ H ρ' H') (m' : RS K T ρ' S' H') (hg : stands S' (guardOf S d) = true) :
    ∃ vs, (srcOf d v).at_ K H' vs ∧ RDs K T ρ' H' xs vs := by
  obtain ⟨hx', r'⟩ := walk_later m hx r e m' hg
  exact (walk_src m' hx' r').2
theorem guard_str {d : D} (S : Store) (h : ∃ z, d = .str z) : guardOf S d = [] := by obtain ⟨z, rfl⟩ := h; rfl
/-! ### one thing -/
theorem iter_one {d : D} {xs : List D} {v : V} (m : RS K T ρ S H) (hx : walkOf S d = some xs) (r : RD K T ρ H d v) : IterR K T ρ H (xs, guardOf S d) (match srcOf d v with | .lst a => Itl K a | .tup a => Itt K a | .txt z => Its z) := fun ρ' S' H' e' m' hg => by
  obtain ⟨vs, ha, rs⟩ := src_later m hx r e' m' hg
  generalize srcOf d v = a at ha ⊢
  cases a with
  | lst a =>
    refine ⟨fun i hi => ?_, ⟨vs, ha, by rw [← rs.length]; exact Nat.le_refl _⟩, fun i v H2 hi yv => ?_⟩
    · have hi' : i < vs.length := by rw [← rs.length]; exact hi
      exact ⟨vs, vs[i], ha, by simp [hi']⟩
    · obtain ⟨rfl, yv⟩ := yv
      obtain ⟨w, hw, rw'⟩ := rs.get (show xs[i]? = some xs[i] by simp [show i < xs.length from hi])
      rw [yv vs ha] at hw
      cases hw
      exact ⟨.refl, m', xs[i], by simp [show i < xs.length from hi], rw'⟩
  | tup a =>
    refine ⟨fun i hi => ?_, ⟨vs, ha, by rw [← rs.length]; exact Nat.le_refl _⟩, fun i v H2 hi yv => ?_⟩
    · have hi' : i < vs.length := by rw [← rs.length]; exact hi
      exact ⟨vs, vs[i], ha, by simp [hi']⟩
    · obtain ⟨rfl, yv⟩ := yv
      obtain ⟨w, hw, rw'⟩ := rs.get (show xs[i]? = some xs[i] by simp [show i < xs.length from hi])
      rw [yv vs ha] at hw
      cases hw
      exact ⟨.refl, m', xs[i], by simp [show i < xs.length from hi], rw'⟩
  | txt z =>
    have ev : vs = _ := ha
    have hl : xs.length = z.cps.size := by rw [rs.length, ev]; simp
    refine ⟨fun i hi => (show i < z.cps.size by rw [← hl]; exact hi), (show z.cps.size ≤ xs.length by rw [hl]; exact Nat.le_refl _), fun i v H2 hi yv => ?_⟩
    obtain ⟨rfl, c, hc, rfl⟩ := yv
    obtain ⟨w, hw, rw'⟩ := rs.get (show xs[i]? = some xs[i] by simp [show i < xs.length from hi])
    rw [ev, List.getElem?_map, Array.getElem?_toList, hc] at hw
    cases hw
    exact ⟨.refl, m', xs[i], by simp [show i < xs.length from hi], rw'⟩
theorem sI_of {tg a : Expr} {x : XE} (ha : PE X a (tE X F W x)) : PI X tg a (tI X F W (.of x)) := by
  refine PIw (pi_oneS ha) fun σ H R q => ?_
  refine Go.mono (Go.bind (rA := rdR X F) q) fun v H1 q => ?_
  obtain ⟨ρ, s, d, S, S0, _, m, e, r, q⟩ := q
  obtain ⟨p, hp, q1⟩ := Run.opt q
  obtain ⟨xs, hx, rfl⟩ := map_some hp
  obtain ⟨hv, vs, h1, _⟩ := walk_src m hx r
  exact ⟨srcOf d v, vs, hv, h1, Run.here m q1 (iter_one m hx r)⟩
/-! ### enumerate -/
theorem numbered_len : ∀ (xs : List D) (k : Nat), (numbered k xs).length = xs.length
  | [], _ => rfl
  | x :: xs, k => by simp [numbered, numbered_len xs (k + 1)]
theorem numbered_get : ∀ (xs : List D) (k i : Nat) (x : D), xs[i]? = some x → (numbered k xs)[i]? = some (.tup [.int (k + i : Nat), x])
  | [], _, _, _, h => by simp at h
  | y :: xs, k, 0, x, h => by simp at h; subst h; simp [numbered]
  | y :: xs, k, i + 1, x, h => by
    have := numbered_get xs (k + 1) i x (by simpa using h)
    simp only [numbered, List.getElem?_cons_succ]
    rw [this]
    congr 4
    omega
theorem iter_enm {d : D} {xs : List D} {v : V} (m : RS K T ρ S H) (hx : walkOf S d = some xs) (r : RD K T ρ H d v) : IterR K T ρ H (numbered 0 xs, guardOf S d) (ItE K (srcOf d v)) := fun ρ' S' H' e' m' hg => by
  obtain ⟨vs, ha, rs⟩ := src_later m hx r e' m' hg
  have hl := rs.length
  refine ⟨fun i hi => ⟨vs, ha, by rw [← hl]; simpa [numbered_len] using hi⟩, ⟨vs, ha, by rw [← hl]; simp [numbered_len]⟩, fun i v H2 hi yv => ?_⟩
  obtain ⟨T1, x, rfl, hn, rfl, hy⟩ := yv
  have hi' : i < xs.length := by simpa [numbered_len] using hi
  obtain ⟨w, hw, rw'⟩ := rs.get (show xs[i]? = some xs[i] by simp [hi'])
  rw [hy vs ha] at hw
  cases hw
  refine ⟨ext_new hn, m'.new hn, _, numbered_get xs 0 i xs[i] (by simp [hi']), ?_⟩
  rw [Nat.zero_add]
  exact RD.new_tup m' hn (.cons (.int _) (.cons rw' .nil))
theorem sI_enm {a : Expr} {x : XE} {elts : List Expr} {kk : Nat} {tpos p pos : Pos} (hg : Gl X "enumerate") (hm : X.mg "enumerate" = none) (ha : PE X a (tE X F W x)) (hs : starEach [a] X.env = [(false, eval a X.env)]) : PI X (.Tuple elts kk tpos) (.Call (.Name "enumerate" p) [a] [] pos) (tI X F W (.enm x)) := by
  refine PIw (pi_enumS hg hm (pa_cons ha pa_nil hs) hs) fun σ H R q => ?_
  refine Go.mono (Go.bind (rA := rdR X F) q) fun v H1 q => ?_
  obtain ⟨ρ, s, d, S, S0, _, m, e, r, q⟩ := q
  obtain ⟨p, hp, q1⟩ := Run.opt q
  obtain ⟨xs, hx, rfl⟩ := map_some hp
  obtain ⟨hv, vs, h1, _⟩ := walk_src m hx r
  exact ⟨srcOf d v, vs, by rw [← hv], h1, Run.here m q1 (iter_enm m hx r)⟩
/-! ### zip -/
theorem pairs_len : ∀ (xs ys : List D), (pairs xs ys).length = min xs.length ys.length
  | [], ys => by simp [pairs]
  | x :: xs, [] => by simp [pairs]
  | x :: xs, y :: ys => by simp [pairs, pairs_len xs ys]
theorem pairs_get : ∀ (xs ys : List D) (i : Nat) (x y : D), xs[i]? = some x → ys[i]? = some y → (pairs xs ys)[i]? = some (.tup [x, y])
  | [], _, _, _, _, h, _ => by simp at h
  | _ :: _, [], _, _, _, _, h => by simp at h
  | a :: xs, b :: ys, 0, x, y, h, h2 => by simp at h h2; subst h h2; simp [pairs]
  | a :: xs, b :: ys, i + 1, x, y, h, h2 => by
    simp only [pairs, List.getElem?_cons_succ]
    exact pairs_get xs ys i x y (by simpa using h) (by simpa using h2)
theorem stands_append {S : Store} : ∀ {a b : Gd}, stands S (a ++ b) = true → stands S a = true ∧ stands S b = true
  | [], b, h => ⟨rfl, h⟩
  | (n, xs) :: a, b, h => by
    simp only [List.cons_append, stands, Bool.and_eq_true] at h ⊢
    have := stands_append h.2
    exact ⟨⟨h.1, this.1⟩, this.2⟩
theorem iter_zip {d d2 : D} {xs ys : List D} {v v2 : V} (m : RS K T ρ S H) (hx : walkOf S d = some xs) (hy : walkOf S d2 = some ys) (r : RD K T ρ H d v) (r2 : RD K T ρ H d2 v2) : IterR K T ρ H (pairs xs ys, guardOf S d ++ guardOf S d2) (ItZ K (srcOf d v) (srcOf d2 v2)) := fun ρ' S' H' e' m' hg => by
  obtain ⟨g1, g2⟩ := stands_append hg
  obtain ⟨vs, ha, rs⟩ := src_later m hx r e' m' g1
  obtain ⟨ws, hb, ts⟩ := src_later m hy r2 e' m' g2
  have hl := rs.length
  have hl2 := ts.length
  have hp := pairs_len xs ys
  refine ⟨fun i hi => ⟨vs, ws, ha, hb, ?_, ?_⟩, ⟨vs, ws, ha, hb, ?_, ?_, ?_⟩, fun i v H2 hi yv => ?_⟩
  · have hi : i < (pairs xs ys).length := hi
    omega
  · have hi : i < (pairs xs ys).length := hi
    omega
  · show (pairs xs ys).length ≤ _; omega
  · show (pairs xs ys).length ≤ _; omega
  · show (pairs xs ys).length = _ ∨ (pairs xs ys).length = _; omega
  · have hi : i < (pairs xs ys).length := hi
    obtain ⟨T1, x, y, rfl, hn, rfl, h1, h2⟩ := yv
    have hi1 : i < xs.length := by omega
    have hi2 : i < ys.length := by omega
    obtain ⟨w, hw, rw'⟩ := rs.get (show xs[i]? = some xs[i] by simp [hi1])
    rw [h1 vs ha] at hw
    cases hw
    obtain ⟨w2, hw2, rw2⟩ := ts.get (show ys[i]? = some ys[i] by simp [hi2])
    rw [h2 ws hb] at hw2
    cases hw2
    exact ⟨ext_new hn, m'.new hn, _, pairs_get xs ys i xs[i] ys[i] (by simp [hi1]) (by simp [hi2]), RD.new_tup m' hn (.cons rw' (.cons rw2 .nil))⟩
theorem sI_zip {a b : Expr} {x y : XE} {elts : List Expr} {kk : Nat} {tpos p pos : Pos} (hg : Gl X "zip") (hm : X.mg "zip" = none) (ha : PE X a (tE X F W x)) (hb : PE X b (tE X F W y)) (hs : starEach [a, b] X.env = (false, eval a X.env) :: starEach [b] X.env) (hs2 : starEach [b] X.env = [(false, eval b X.env)]) :
    PI X (.Tuple elts kk tpos) (.Call (.Name "zip" p) [a, b] [] pos) (tI X F W (.zip x y)) := by
  refine PIw (pi_zipS hg hm (pa_cons ha (pa_cons hb pa_nil hs2) hs) hs (by rw [hs2]; rfl)) fun σ H R q => ?_
  refine Go.mono (Go.bind2 q) fun v H1 q1 => Go.mono q1 fun w H2 q2 => ?_
  obtain ⟨ρ, s, d, d2, S, m, e, r1, r2, r⟩ := q2
  obtain ⟨p, hp, q1⟩ := Run.opt r
  split at hp
  · rename_i xs ys hx hy
    cases hp
    obtain ⟨hv, vs, h1, _⟩ := walk_src m hx r1
    obtain ⟨hw, ws, h2, _⟩ := walk_src m hy r2
    exact ⟨srcOf d v, srcOf d2 w, vs, ws, by rw [← hv, ← hw], h1, h2, Run.here m q1 (iter_zip m hx hy r1 r2)⟩
  · cases hp
end
end Lk
end
section
/-! F13: * of numbers, tuples, texts, lists. -/
set_option Elab.async false
set_option linter.all false
set_option maxRecDepth 100000
set_option maxHeartbeats 4000000
namespace Lk
open PySem PySem.Spec PyProof.Rows L2 SlX
theorem tuple_mul1 (l : Addr) (items : Array Value) (n : Nat) (dd : Option Addr) (sl : Array (Option Value)) (x : Int) (u : Tok) (c0 : (decide (x < -(2 ^ 63)) || decide (x ≥ 2 ^ 63)) = false) (c1 : (items.isEmpty || x == 1) = true) :
    Meets (Builtin.«tuple.__mul__» ⟨[.ref l, .int x u], []⟩) (fun _ R s => s.heap.get? l = some { cls := .type "tuple", dict := dd, data := .seq items n, slots := sl } ∧ R (.ok (.ret (Value.ref l))) s) :=
  .of_wp fun prog w A R s h => by
    obtain ⟨hp, g, d, tk, os⟩ := s
    obtain ⟨hl, h⟩ := h
    have f1 := AutoSeq1.idx_int
    wp_walk using wpAny_loadPart' hl
    refine wpAny_ite_false (decide_eq_false (by rw [c0]; exact Bool.false_ne_true)) ?_
    wp_walk using wpAny_loadPart' hl
    exact ⟨_, rfl, h⟩
theorem tuple_mul0 (l : Addr) (items : Array Value) (n : Nat) (dd : Option Addr) (sl : Array (Option Value)) (x : Int) (u : Tok) (c0 : (decide (x < -(2 ^ 63)) || decide (x ≥ 2 ^ 63)) = false) (c1 : (items.isEmpty || x == 1) = false) (c2 : (decide (x ≤ 0) || items.isEmpty) = true) :
    Meets (Builtin.«tuple.__mul__» ⟨[.ref l, .int x u], []⟩) (fun _ R s => s.heap.get? l = some { cls := .type "tuple", dict := dd, data := .seq items n, slots := sl } ∧ R (.ok (.ret (Value.ref s.heap.objs.size))) { s with heap := s.heap.push { cls := Value.type "tuple", data := Data.seq #[] }, toks := s.toks }) :=
  .of_wp fun prog w A R s h => by
    obtain ⟨hp, g, d, tk, os⟩ := s
    obtain ⟨hl, h⟩ := h
    have f1 := AutoSeq1.idx_int
    wp_walk using wpAny_loadPart' hl
    refine wpAny_ite_false (decide_eq_false (by rw [c0]; exact Bool.false_ne_true)) ?_
    wp_walk using wpAny_loadPart' hl
    exact ⟨_, rfl, h⟩
section
variable {X : Cx} {F : Fx}
/-- tuple * int, any -/
def rRepA (K : PySem.W.Frag) : R2 := fun x y H Q => ∃ l k xs, x = .ref l ∧ y = .int k ∧ SqT K H l xs ∧ 0 ≤ k ∧ k < 2 ^ 62 ∧ xs.length * k.toNat ≤ 1000000 ∧ ((xs = [] ∨ k = 1) → Q (.ref l) H) ∧ (xs ≠ [] → k ≠ 1 → ∀ p, H p = none → Q (.ref p) (upd H p (.tup (List.replicate k.toNat xs).flatten)))
theorem op_repA : OpR X (binaryOp .Mult) (rRepA X.K) := by
  intro pins s σ H x y v u Q I rx ry h
  obtain ⟨l, k, xs, rfl, rfl, hT, h1, h2, hz, q1, q2⟩ := h
  cases rx
  obtain ⟨t, rfl⟩ := ry
  obtain ⟨its, r, ⟨⟨cls, dd, data, sl⟩, ho, hc, n, hd⟩, hs⟩ := I.tuple hT
  simp only at hc hd
  subst hc hd
  have hle : its.length = xs.length := r.length.symm
  have hsz0 : its.toArray.size = xs.length := by rw [List.size_toArray, hle]
  have c0 : (decide (k < -(2 ^ 63)) || decide (k ≥ 2 ^ 63)) = false := by
    rw [decide_eq_false (by omega), decide_eq_false (by omega)] <;> rfl
  refine wpAny_binaryOp_repeat_ref (T := "tuple") (U := "int") (by decide) ⟨_, ho, rfl⟩ (fun s' => typeIs_int s' k t) noFill_tuple_mul F.fills_int_mul F.slot_int_rmul repeat_tuple F.slot_int_index.lookup
    (call_meets F.slot_int_rmul (typeIs_int s k t) F.entry_int_rmul (F.args_int_rmul_2 _ _) (int_rmul_tuple k t l its.toArray n dd sl) ⟨ho, rfl, ⟨_, ho, rfl⟩, ?_⟩)
  by_cases c1 : (its.toArray.isEmpty || k == 1) = true
  · refine call_meets F.slot_tuple_mul ⟨_, ho, rfl⟩ F.entry_tuple_mul (F.args_tuple_mul_2 _ _) (tuple_mul1 l its.toArray n dd sl k t c0 c1) ⟨ho, ?_⟩
    refine ⟨.ref l, H, I, rfl, q1 ?_⟩
    rcases Bool.or_eq_true_iff.mp c1 with z | z
    · refine .inl (List.eq_nil_of_length_eq_zero ?_)
      rw [← hsz0]
      exact Array.isEmpty_iff_size_eq_zero.mp z
    · exact .inr (by simpa using z)
  · have c1 : (its.toArray.isEmpty || k == 1) = false := by simpa using c1
    have hi : its.toArray.isEmpty = false := (Bool.or_eq_false_iff.mp c1).1
    have hk1 : k ≠ 1 := by simpa using (Bool.or_eq_false_iff.mp c1).2
    have hne : xs ≠ [] := fun e => by
      rw [e] at hle
      rw [List.eq_nil_of_length_eq_zero hle] at hi
      cases hi
    by_cases hk0 : k = 0
    · subst hk0
      refine call_meets F.slot_tuple_mul ⟨_, ho, rfl⟩ F.entry_tuple_mul (F.args_tuple_mul_2 _ _) (tuple_mul0 l its.toArray n dd sl 0 t c0 c1 rfl) ⟨ho, ?_⟩
      refine ⟨.ref s.heap.objs.size, _, I.laid (t' := s.toks) (o := .tup (List.replicate (0 : Int).toNat xs).flatten) (fun b ob q => Heap.get?_push_of_some _ q) (Nat.le_refl _) ?_, rfl, q2 hne hk1 _ (I.hok.fresh (Nat.le_refl _))⟩
      exact ⟨by show 0 ≤ sizeLine; omega, [], .nil, IsTup.new _ _⟩
    · have hm : ((its.toArray.size : Nat) : Int) * k ≤ 1000000 := by
        rw [hsz0]
        have e : ((xs.length * k.toNat : Nat) : Int) = ((xs.length : Nat) : Int) * k := by
          rw [Int.natCast_mul, Int.toNat_of_nonneg h1]
        rw [← e]
        omega
      have flen : (List.replicate k.toNat its).flatten.length ≤ sizeLine := by
        rw [PyProof.Rows.lm_len_rep_flat, hle, sizeLine_eq, Nat.mul_comm]
        omega
      have c2 : (decide (k ≤ 0) || its.toArray.isEmpty) = false := by
        rw [hi, Bool.or_false]
        exact decide_eq_false (by omega)
      have c4 : Builtin.Tuple.tupleTooMany (((its.toArray.size : Nat) : Int) * k) = false := by
        unfold Builtin.Tuple.tupleTooMany
        rw [sizeLine_eq]
        exact decide_eq_false (by omega)
      refine call_meets F.slot_tuple_mul ⟨_, ho, rfl⟩ F.entry_tuple_mul (F.args_tuple_mul_2 _ _) (tuple_mulW l its.toArray n dd sl k t c0 c1 c2 (by omega) c4 (by rw [size_rep, List.size_toArray]; exact flen)) ⟨ho, ?_⟩
      rw [size_rep]
      refine ⟨.ref s.heap.objs.size, _, I.laid (t' := s.toks) (o := .tup (List.replicate k.toNat xs).flatten) (fun b ob q => Heap.get?_push_of_some _ q) (Nat.le_refl _) ?_, rfl, q2 hne hk1 _ (I.hok.fresh (Nat.le_refl _))⟩
      exact ⟨by rw [PyProof.Rows.lm_len_rep_flat, sizeLine_eq, Nat.mul_comm]; omega, _, r.rep k.toNat, IsTup.new _ _⟩
/-- text * int -/
def rRepS : R2 := fun x y H Q => ∃ (z : Str) (k : Int), x = .str z ∧ y = .int k ∧ 0 ≤ k ∧ k < 2 ^ 62 ∧ z.length * k.toNat ≤ 1000000 ∧ Q (.str ⟨(List.replicate k.toNat z.cps.toList).flatten.toArray⟩) H
theorem fold_cps (z : Array Nat) : ∀ m : Nat, (List.replicate m z).foldl (· ++ ·) #[] = (List.replicate m z.toList).flatten.toArray := by
  have key : ∀ (m : Nat) (acc : Array Nat), (List.replicate m z).foldl (· ++ ·) acc = (acc.toList ++ (List.replicate m z.toList).flatten).toArray := by
    intro m
    induction m with
    | zero => intro acc; simp
    | succ m ih => intro acc; rw [List.replicate_succ, List.foldl_cons, ih]; simp [List.replicate_succ]
  intro m
  rw [key m #[]]
  simp
theorem op_repS : OpR X (binaryOp .Mult) rRepS := by
  intro pins s σ H x y v u Q I rx ry h
  obtain ⟨z, k, rfl, rfl, h1, h2, hz, q⟩ := h
  obtain ⟨t, rfl⟩ := rx
  obtain ⟨t2, rfl⟩ := ry
  refine PySem.P.mul_str (by rw [decide_eq_false (by omega), decide_eq_false (by omega)]; rfl) (fun a b => ?_) (fun a b => ?_) ?_
  · have hk : 1 ≤ k := by omega
    intro c
    have c2 : k ≤ 2 ^ 62 := by omega
    have hzz : (z.length : Int) * k ≤ 1000000 := by
      have e : ((z.length * k.toNat : Nat) : Int) = ((z.length : Nat) : Int) * k := by rw [Int.natCast_mul, Int.toNat_of_nonneg h1]
      rw [← e]; omega
    have c' : (z.length : Int) > (2 ^ 63 - 1) / k := c
    have := Int.lt_mul_of_ediv_lt (by omega : 0 < k) c'
    omega
  · unfold Builtin.Str.tooLong
    rw [sizeLine_eq]
    exact decide_eq_false (by omega)
  · by_cases hk0 : k < 1
    · rw [if_pos hk0]
      have : k = 0 := by omega
      subst this
      have e : (⟨(List.replicate (0 : Int).toNat z.cps.toList).flatten.toArray⟩ : Str) = Str.empty := rfl
      rw [e] at q
      exact ⟨by decide, .str Str.empty, H, I.tok _, ⟨_, rfl⟩, q⟩
    · rw [if_neg hk0]
      by_cases hc : (k == 1 || z.length == 0) = true
      · rw [if_pos hc]
        refine ⟨.str z, H, I, ⟨_, rfl⟩, ?_⟩
        have e : (⟨(List.replicate k.toNat z.cps.toList).flatten.toArray⟩ : Str) = z := by
          rcases Bool.or_eq_true_iff.mp hc with c | c
          · have : k = 1 := by simpa using c
            subst this
            simp
          · have hl : z.cps = #[] := by
              have c2 : z.length = 0 := by simpa using c
              have : z.cps.size = 0 := c2
              exact Array.eq_empty_of_size_eq_zero this
            cases z with
            | mk cps =>
              simp only at hl
              subst hl
              simp
        rw [e] at q
        exact q
      · rw [if_neg hc]
        refine ⟨?_, .str _, H, I.tok _, ⟨_, rfl⟩, ?_⟩
        · show ((List.replicate k.toNat z.cps).foldl (· ++ ·) #[]).size ≤ sizeLine
          rw [fold_cps, List.size_toArray, sizeLine_eq]
          have hlen : ((List.replicate k.toNat z.cps.toList).flatten).length = k.toNat * z.cps.toList.length := by simp [List.length_flatten, List.map_replicate, List.sum_replicate_nat]
          rw [hlen, Nat.mul_comm]
          have : z.cps.toList.length = z.length := by simp [Str.length]
          rw [this]
          omega
        · rw [fold_cps]; exact q
theorem rep_rd {K : PySem.W.Frag} {T : Nat → Addr} {ρ : Pm} {H : Hp} {ds : List D} {vs : List V} (r : RDs K T ρ H ds vs) : ∀ n : Nat, RDs K T ρ H (List.replicate n ds).flatten (List.replicate n vs).flatten
  | 0 => .nil
  | n + 1 => by simp only [List.replicate_succ, List.flatten_cons]; exact r.append (rep_rd r n)
theorem binD_mulA {S : Store} {x y z : D} (h : binD S .mul x y = some z) : (∃ i j k, x = .int i ∧ y = .int j ∧ intBin .mul i j = some k ∧ z = .int k) ∨ (∃ a i, x = .tup a ∧ y = .int i ∧ (0 ≤ i ∧ i < 2 ^ 62 ∧ a.length * i.toNat ≤ sizeMax) ∧ z = .tup (List.replicate i.toNat a).flatten) ∨
    (∃ a i, x = .str a ∧ y = .int i ∧ (0 ≤ i ∧ i < 2 ^ 62 ∧ a.length * i.toNat ≤ sizeMax) ∧ z = .str (List.replicate i.toNat a).flatten) ∨ (∃ a i, x = .fl a ∧ y = .int i ∧ (0 ≤ i ∧ i < 2 ^ 62 ∧ a.length * i.toNat ≤ sizeMax) ∧ z = .fl (List.replicate i.toNat a).flatten) := by
  cases x with
  | int i => cases y <;> first
    | (obtain ⟨k, h1, rfl⟩ := map_some (show (intBin .mul i _).map D.int = some z from h); exact .inl ⟨i, _, k, rfl, rfl, h1, rfl⟩)
    | cases h
  | tup a => cases y <;> first
    | (obtain ⟨h1, rfl⟩ := ite_some h; exact .inr (.inl ⟨a, _, rfl, rfl, h1, rfl⟩))
    | cases h
  | str a => cases y <;> first
    | (obtain ⟨h1, rfl⟩ := ite_some h; exact .inr (.inr (.inl ⟨a, _, rfl, rfl, h1, rfl⟩)))
    | cases h
  | fl a => cases y <;> first
    | (obtain ⟨h1, rfl⟩ := ite_some h; exact .inr (.inr (.inr ⟨a, _, rfl, rfl, h1, rfl⟩)))
    | cases h
  | _ => cases y <;> cases h
theorem op_mulE : OpR X (binaryOp .Mult) (BinR X F .mul) := by
  refine OpRw (op_mul.or (op_repA.or (op_repS.or op_rep))) fun v w H Q h => ?_
  obtain ⟨ρ, x, y, S, z, m, rx, ry, e, q⟩ := h
  rcases binD_mulA e with ⟨i, j, k, rfl, rfl, hk, rfl⟩ | ⟨a, i, rfl, rfl, ⟨h1, h2, h3⟩, rfl⟩ | ⟨a, i, rfl, rfl, ⟨h1, h2, h3⟩, rfl⟩ | ⟨a, i, rfl, rfl, ⟨h1, h2, h3⟩, rfl⟩
  · obtain ⟨hc, rfl⟩ := ite_some hk
    exact .inl ⟨i, j, rx.int_inv, ry.int_inv, hc, q ρ H _ .refl m (.int _)⟩
  · obtain ⟨a1, vs, rfl, hv, r1⟩ := rx.tup_inv
    refine .inr (.inl ⟨a1, i, vs, rfl, ry.int_inv, hv, h1, h2, by rw [← r1.length]; exact h3, fun z => ?_, fun _ _ p hp => ?_⟩)
    · have : (List.replicate i.toNat a).flatten = a := by
        rcases z with z | z
        · subst z; cases r1; simp
        · subst z; simp
      rw [this] at q
      exact q ρ H _ .refl m rx
    · exact q ρ _ _ (ext_new hp) (m.new hp) (RD.new_tup m hp (rep_rd r1 _))
  · refine .inr (.inr (.inl ⟨_, i, rx.str_inv, ry.int_inv, h1, h2, by show _ * _ ≤ sizeMax; simpa [Str.length] using h3, ?_⟩))
    have := q ρ H _ .refl m (.str _)
    simpa using this
  · obtain ⟨a1, vs, rfl, hv, r1⟩ := listOf_inv m (show listOf S (.fl a) = some a from rfl) rx
    refine .inr (.inr (.inr ⟨a1, i, vs, rfl, ry.int_inv, hv, by omega, by omega, sizeMax_le (by rw [← r1.length]; exact h3), fun p hp => ?_⟩))
    have n := new_fl m hp (rep_rd r1 i.toNat)
    exact q _ _ _ n.1 n.2.1 n.2.2
end
end Lk
end
section
/-! F14: own == and !=. -/
set_option Elab.async false
set_option linter.all false
set_option maxRecDepth 100000
set_option maxHeartbeats 2000000
namespace Lk
open PySem PySem.Spec PyProof.Rows L2 SlX
def tyNames : List String := ["NoneType", "bool", "int", "str", "tuple", "list", "dict"]
section
variable {X : Cx} {F : Fx} {W : WX} {pins : List (Addr × Obj)} {σ : L2.St} {H : Hp} {s : Shared} {ρ : Pm} {S : Store}
theorem looks_val {M : Model} {h : Heap} {u : Value} {t : String} (e : typeOf u = pure (.type t)) : PySem.W.Looks M h (typeOf u) (.type t) := fun A Q E s k q => wpAny_of_eq e q
theorem looks_obj {M : Model} {h : Heap} {a : Addr} {o : Obj} {c : Value} (e : h.get? a = some o) (hc : o.cls = c) : PySem.W.Looks M h (typeOf (.ref a)) c := fun A Q E s k q => wpAny_typeOf_ref (k _ _ e) (by rw [hc]; exact q)
/-- the type of a value -/
theorem typ_of (I : L2.Inv X pins σ H s) (m : RS X.K F.T ρ S H) {d : D} {v : V} {u : Value} (r : RD X.K F.T ρ H d v) (ru : L2.RelV v u) {tb : List (Nat × Nat)} (hok : okR S tb d = true) :
    (∃ t, t ∈ tyNames ∧ PySem.W.Looks (model X.prog X.w) s.heap (typeOf u) (.type t)) ∨ ∃ c, (tb.lookup c).isSome = true ∧ PySem.W.Looks (model X.prog X.w) s.heap (typeOf u) (.ref (F.T c)) := by
  have lst : ∀ {a : Addr} {vs : List V}, SqL X.K H a vs → v = .ref a → ∃ t, t ∈ tyNames ∧ PySem.W.Looks (model X.prog X.w) s.heap (typeOf u) (.type t) := fun {a vs} h e => by
    subst e
    cases (show u = Value.ref a from ru)
    obtain ⟨its, _, p, _⟩ := I.list h
    obtain ⟨o, h1, h2, _⟩ := p.isList
    exact ⟨"list", by decide, looks_obj h1 h2⟩
  cases d with
  | non => cases r; cases (show u = Value.none from ru); exact .inl ⟨"NoneType", by decide, looks_val (by kernel_rfl)⟩
  | bl b => cases r; cases (show u = Value.bool b from ru); exact .inl ⟨"bool", by decide, looks_val (by first | rfl | kernel_rfl)⟩
  | int i => cases r; obtain ⟨t, rfl⟩ := (show ∃ t, u = Value.int i t from ru); exact .inl ⟨"int", by decide, looks_val (by first | rfl | kernel_rfl)⟩
  | str z => cases r; obtain ⟨t, rfl⟩ := (show ∃ t, u = Value.str ⟨z.toArray⟩ t from ru); exact .inl ⟨"str", by decide, looks_val (by first | rfl | kernel_rfl)⟩
  | tup xs =>
    obtain ⟨a, vs, rfl, h, rs⟩ := r.tup_inv
    cases (show u = Value.ref a from ru)
    obtain ⟨its, _, p, _⟩ := I.tuple h
    obtain ⟨o, h1, h2, _⟩ := p
    exact .inl ⟨"tuple", by decide, looks_obj h1 h2⟩
  | fl xs =>
    obtain ⟨a, vs, e, h, rs⟩ := seqOf_inv m (show seqOf S (.fl xs) = some xs from rfl) r
    exact .inl (lst h e)
  | sc xs =>
    obtain ⟨a, vs, e, h, rs⟩ := seqOf_inv m (show seqOf S (.sc xs) = some xs from rfl) r
    exact .inl (lst h e)
  | dc kvs => cases hok
  | ob c fs =>
    cases r with
    | @ob a dx _ _ vs h1 h2 o1 o2 k1 k2 rs =>
      cases (show u = Value.ref a from ru)
      obtain ⟨sl, od, _, J, _⟩ := slt_inst I (show Slt H a (F.T c) dx (vs.map some) from .inr ⟨h1, h2⟩)
      exact .inr ⟨c, hok, J.type⟩
  | ref n =>
    have hok : (match S.get n with | some (.lst _) => true | _ => false) = true := hok
    cases g : S.get n with
    | none => rw [g] at hok; cases hok
    | some o =>
      rw [g] at hok
      cases o with
      | lst xs =>
        obtain ⟨a, vs, e, h, rs⟩ := seqOf_inv m (show seqOf S (.ref n) = some xs by show (match S.get n with | some (.lst xs) => some xs | _ => none) = some xs; rw [g]) r
        exact .inl (lst h e)
      | dic _ => cases hok
      | ins _ _ => cases hok
/-- an own __eq__; no own __ne__ -/
structure EqF (X : Cx) (F : Fx) (k : Nat) (tb : List (Nat × Nat)) (c j : Nat) : Prop where
  ex : ∃ g, PySem.W.findIn X.K (.ref (F.T c)) "__eq__" = some (some (.ref g)) ∧ PySem.W.isFn X.K (.ref g) = true ∧ FnR X.prog X.w X.K X.mg X.base (CX X.prog X.w) k g (spF X.K F.T F.Z (F.cal j))
  ne : PySem.W.findIn X.K (.ref (F.T c)) "__ne__" = some (some (.builtin "object.__ne__"))
  ob : PySem.W.mroIn X.K (F.T c) (.type "object") = some true
  t1 : ∀ t ∈ tyNames, PySem.W.notFirst X.K (F.T c) (.type t) = true
  t2 : ∀ e, (tb.lookup e).isSome = true → PySem.W.notFirst X.K (F.T c) (.ref (F.T e)) = true
end
section
variable {prog : Program} {w : World} {A : Around} {E : Value → Shared → Prop} {s : Shared} {K : PySem.W.Frag} {x C f : Addr} {ox : Obj} {od : Option Obj} {b tb : Value}
theorem ifBound_B {args : List Value} {Q : Option Value → Shared → Prop} (X : K.In s.heap) (I : PySem.W.InstAt s.heap x ox C od) (hs : PySem.W.findIn K (.ref C) "__ne__" = some (some (.builtin "object.__ne__")))
    (h : wpAny (model prog w) A (call (.builtin "object.__ne__") (.ref x :: args)) (fun v => Q (some v)) E s) : wpAny (model prog w) A (callSpecialIfBound? (.ref x) "__ne__" args) Q E s := by
  simp only [callSpecialIfBound?, bindSpecialIfBound?]
  refine wpAny_holding (wpAny_bind (wpAny_bind (wpAny_bind (I.type.here ((PySem.W.looks_findIn X hs).here ?_)))))
  refine wpAny_bind (wpAny_askSetting (wpAny_ite ?_))
  have fin : wpAny (model prog w) A (call (.builtin "object.__ne__") ([.ref x] ++ args) >>= fun v => pure (some v)) Q E s := wpAny_bind (wpAny_mono h (fun v s' h' => wpAny_pure h') fun _ _ h' => h')
  have hbind := F.cmp_object.ne.bind (.ref x)
  split
  · exact wpAny_bind (wpAny_of_eq hbind (wpAny_pure (by exact fin)))
  · exact wpAny_tryCatch (wpAny_bind (wpAny_of_eq hbind (wpAny_pure (by exact fin))))
theorem ne_own {Q : Value → Shared → Prop} (hu : A.units + 1 < cLine) (X : K.In s.heap) (I : PySem.W.InstAt s.heap x ox C od) (hb : PySem.W.Looks (model prog w) s.heap (typeOf b) tb) (hn : PySem.W.notFirst K C tb = true)
    (hne : PySem.W.findIn K (.ref C) "__ne__" = some (some (.builtin "object.__ne__"))) (hob : PySem.W.mroIn K C (.type "object") = some true)
    (hs : PySem.W.findIn K (.ref C) "__eq__" = some (some (.ref f))) (hf : PySem.W.isFn K (.ref f) = true)
    (h : wpAny (model prog w) A.in1 (call (.ref f) [.ref x, b]) (fun v s' => ∃ r, v = .bool r ∧ Q (.bool (!r)) s') E s) : wpAny (model prog w) A (richCompare .NotEq (.ref x) b) Q E s := by
  have one : wpAny (model prog w) A (tryCompare (.ref x) "__ne__" b) (fun r s' => ∃ v, r = some v ∧ Q v s') E s := by
    unfold tryCompare
    refine wpAny_bind (ifBound_B X I hne ?_)
    have sub : PySem.W.Looks (model prog w) s.heap (isInstance (.ref x) (.type "object")) true := I.type.andThen (PySem.W.looks_mroIn X hob)
    refine wpAny_call (codeAny_call_builtin F.cmp_object.ne.plain F.cmpEntry_ne (PySem.W.check_slot F.cmpKind_ne F.cmpSplit_ne sub (F.cmpArgs_ne _ _) ?_))
    unfold Builtin.«object.__ne__»
    repeat (first
      | with_reducible refine wpAny_cRoomFor hu ?_
      | (refine wpAny_bind (m := callSpecialIfBound? (.ref x) (Str.ofString "__eq__") [b])
          (PySem.W.ifBound_K X I hs hf (wpAny_mono h (fun r s' hr => by
            obtain ⟨b, rfl, hq⟩ := hr
            repeat (first | exact ⟨_, rfl, hq⟩ | exact wpAny_pure ⟨_, rfl, hq⟩ | (refine wpAny_bind (m := truthy (.bool _)) (wpAny_truthy_bool ?_)) | wp_step)) fun _ _ e => e)))
      | wp_step)
  unfold richCompare
  simp only [oneThing_ref]
  refine wpAny_holding (wpAny_bind (wpAny_cRoomFor (Nat.lt_of_succ_lt hu) ?_))
  rw [cmpInfo_NotEq]
  dsimp only
  refine wpAny_bind (I.type.here (wpAny_bind (hb.here ?_)))
  split
  · rename_i q
    have e : PySem.W.subIn K tb (.ref C) = some false := by
      rcases Bool.or_eq_true_iff.mp hn with e | e
      · rw [beq_iff_eq.mp e] at q; simp at q
      · exact beq_iff_eq.mp e
    refine wpAny_bind ((PySem.W.looks_subIn X e).here ?_)
    simp only [Bool.false_eq_true, if_false]
    refine wpAny_bind (wpAny_mono one (fun r s' z => ?_) fun _ _ e => e)
    obtain ⟨v, rfl, hq⟩ := z
    exact wpAny_pure hq
  · refine wpAny_bind (wpAny_pure ?_)
    simp only [Bool.false_eq_true, if_false]
    refine wpAny_bind (wpAny_mono one (fun r s' z => ?_) fun _ _ e => e)
    obtain ⟨v, rfl, hq⟩ := z
    exact wpAny_pure hq
end
section
variable {X : Cx} {F : Fx} {W : XK}
/-- == and !=, the left one an instance perhaps -/
theorem cmpC_own {op : CmpOp} {o : Cop} {k : Nat} {tb : List (Nat × Nat)} (ho : (op = .Eq ∧ o = .eq) ∨ (op = .NotEq ∧ o = .ne)) (hd : OpR X (compareOp op) (CmpR X F o)) (E : ∀ c f, tb.lookup c = some f → EqF X F k tb c f) (hr : Room (k + 1) X.A) : OpR X (compareOp op) (CmpC X F W o tb) := by
  intro pins s σ H x y v u Q I rx ry h
  obtain ⟨ρ, x', y', S, m, r1, r2, r⟩ := h
  by_cases hx : ∃ c fs, x' = .ob c fs
  · obtain ⟨c, fs, rfl⟩ := hx
    cases r1 with
    | @ob a dx _ _ vs h1 h2 o1 o2 k1 k2 rs =>
    cases (show v = Value.ref a from rx)
    obtain ⟨sl, od, _, J, _⟩ := slt_inst I (show Slt H a (F.T c) dx (vs.map some) from .inr ⟨h1, h2⟩)
    unfold cmpC at r
    simp only at r
    cases hok : okR S tb y' with
    | false => simp only [hok] at r; exact r.elim
    | true =>
    cases hl : tb.lookup c with
    | none => simp only [hok, hl] at r; exact r.elim
    | some f =>
    have EF := E c f hl
    obtain ⟨g, hg, hfn, FR⟩ := EF.ex
    have key : ∃ tt, PySem.W.Looks (model X.prog X.w) s.heap (typeOf u) tt ∧ PySem.W.notFirst X.K (F.T c) tt = true := by
      rcases typ_of I m r2 ry hok with ⟨t, ht, hlk⟩ | ⟨e, he, hlk⟩
      · exact ⟨_, hlk, EF.t1 t ht⟩
      · exact ⟨_, hlk, EF.t2 e he⟩
    obtain ⟨tt, hlk, hnf⟩ := key
    obtain ⟨m0, hF⟩ := I.fr
    have vals : Vals [V.ref a, y] [Value.ref a, u] := .cons rfl (.cons ry .nil)
    have rds : RDs X.K F.T ρ H [.ob c fs, y'] [V.ref a, y] := .cons (.ob h1 h2 o1 o2 k1 k2 rs) (.cons r2 .nil)
    rcases ho with ⟨rfl, rfl⟩ | ⟨rfl, rfl⟩
    · simp only [hok, hl] at r
      have r' := Run.bind (rA := rdR X F) (calm_run (W' := fun _ _ _ => False) r)
      show wpAny _ _ (richCompare .Eq (.ref a) u) _ _ _
      refine PySem.W.cmp_K (op := .Eq) hr.units0 hF I.ok.mod.kin J hlk hnf hg hfn ?_
      refine wpAny_mono (wpAny_call (run_fnR FR (hr.mono (by omega)) (passes_no (Q := fun _ _ _ => False)) I vals ⟨ρ, _, S, m, rds, r'⟩)) (fun w' s' z => ?_) fun _ _ x => x
      obtain ⟨z', H', I', rz, ρ1, d, S1, _, e1, m1, rd, q⟩ := z
      obtain ⟨b0, hb0, q⟩ := Run.opt q
      obtain ⟨b, hb, rfl⟩ := map_some hb0
      cases truth_inv hb
      have ez := rd.bl_inv
      subst ez
      exact cmpback rz ⟨_, H', I', rz, Run.here m1 q (.bl b)⟩
    · simp only [hok, hl] at r
      have r' := Run.bind (rA := rdR X F) (calm_run (W' := fun _ _ _ => False) r)
      show wpAny _ _ (richCompare .NotEq (.ref a) u) _ _ _
      refine ne_own (by have := hr.un; omega) I.kIn J hlk hnf EF.ne EF.ob hg hfn ?_
      refine wpAny_mono (wpAny_call (run_at FR hr.in1 I.env0.in1 (passes_no (Q := fun _ _ _ => False)) I vals ⟨ρ, _, S, m, rds, r'⟩)) (fun w' s' z => ?_) fun _ _ x => x
      obtain ⟨z', H', I', rz, ρ1, d, S1, _, e1, m1, rd, q⟩ := z
      obtain ⟨b0, hb0, q⟩ := Run.opt q
      obtain ⟨b, hb, rfl⟩ := map_some hb0
      cases truth_inv hb
      have ez := rd.bl_inv
      subst ez
      cases (show w' = Value.bool b from rz)
      exact ⟨b, rfl, .bl (!b), H', I', rfl, Run.here m1 q (.bl (!b))⟩
  · have e : cmpC F.cal o tb x' y' S = M.opt ((cmpD S o x' y').map .bl) S := by cases x' <;> first | rfl | exact absurd ⟨_, _, rfl⟩ hx
    rw [e] at r
    obtain ⟨z, hz, r⟩ := Run.opt r
    obtain ⟨b, hb, rfl⟩ := map_some hz
    exact hd pins s σ H x y v u Q I rx ry ⟨ρ, x', y', S, b, m, r1, r2, hb, Run.here m r (.bl b)⟩
end
end Lk
end
section
/-! F15: list(range(..)). -/
set_option Elab.async false
set_option linter.all false
set_option maxRecDepth 100000
set_option maxHeartbeats 2000000
namespace Lk
open PySem PySem.Spec PyProof.Rows L2 SlX
section
variable {X : Cx} {F : Fx} {W : WX} {K : PySem.W.Frag} {T : Nat → Addr} {ρ : Pm} {H : Hp} {S : Store}
theorem rds_rg (a b : Int) : RDs K T ρ H ((List.range (b - a).toNat).map fun (k : Nat) => D.int (a + k)) (rgV a b) := by
  have key : ∀ l : List Nat, RDs K T ρ H (l.map fun (k : Nat) => D.int (a + k)) (l.map fun (i : Nat) => V.int (a + (i : Nat))) := by
    intro l
    induction l with
    | nil => exact .nil
    | cons x l ih => exact .cons (.int _) ih
  exact key _
theorem fresh_tF {m : Env → M (List D)} {σV : L2.St} {H : Hp} {Q : VK} {ρ : Pm} {s : Env} {S : Store} (m0 : RS X.K F.T ρ S H) (e0 : EnvR X.K F.T F.Y ρ H s σV) (h : RunF X.K F.T F.Z (fun c d H => W c d σV H) ρ H (m s S) Q) : tF X F W m σV H Q := ⟨ρ, s, S, m0, e0, h⟩
/-- the list of a range -/
theorem sF_lrng1 {a : Expr} {x : XE} {p q pos pos2 : Pos} (hc : X.calm = true) (hg : Gl X "list") (hm : X.mg "list" = none) (hg2 : Gl X "range") (hm2 : X.mg "range" = none) (ha : PE X a (tE X F W x)) (hs : starEach [a] X.env = [(false, eval a X.env)]) :
    PE X (.Call (.Name "list" p) [.Call (.Name "range" q) [a] [] pos2] [] pos) (tF X F W (fun σ => M.bind (evs F.cal (.cons x .nil) σ) fun as => M.opt (rangeD as))) := by
  refine PEw (pe_listRg hc hg hm (prg_1 hg2 hm2 ha hs)) fun σ H Q h => ?_
  obtain ⟨ρ, s, S, m, e, r⟩ := h
  refine ⟨ρ, s, S, m, e, ?_⟩
  have r2 := RunF.bind (rA := RDs X.K F.T) r
  have r3 : Run X.K F.T F.Z (RDs X.K F.T) (fun c d H => W c d σ H) ρ H (M.bind (ev F.cal x s) (fun d => M.bind (evs F.cal .nil s) fun ds => M.pure (d :: ds)) S) _ := r2
  refine Run.mono (Run.bind (rA := rdR X F) r3) ?_
  rintro v H1 ⟨ρ1, d, S1, _, e1, m1, rd, q1⟩
  have q2 : Run X.K F.T F.Z (RDs X.K F.T) (fun c d H => W c d σ H) ρ1 H1 (.ok [d] S1) _ := q1
  obtain ⟨ρ2, ds, S2, e2, m2, rs, q3⟩ := Run.here m1 q2 (.cons rd .nil)
  match ds, rs, q3 with
  | [d'], .cons rd' .nil, q3 =>
    cases hy : rangeD [d'] with
    | none => rw [hy] at q3; exact q3.elim
    | some ys =>
      rw [hy] at q3
      unfold rangeD at hy
      split at hy
      · rename_i n hn
        cases hn
        obtain ⟨h2, rfl⟩ := ite_some hy
        refine ⟨n, rd'.int_inv, ⟨by omega, by omega, by omega, by omega, by omega⟩, fun p hp => ?_⟩
        have q4 : RunF X.K F.T F.Z (fun c d H => W c d σ H) ρ2 H1 (.ok _ S2) Q := q3
        refine q4.laid .refl m2 ?_ hp
        have := rds_rg (K := X.K) (T := F.T) (ρ := ρ2) (H := H1) 0 n
        simpa using this
      · rename_i h
        cases h
      · cases hy
/-- .. of a range with two ends -/
theorem sF_lrng2 {a b : Expr} {x y : XE} {p q pos pos2 : Pos} (hc : X.calm = true) (hg : Gl X "list") (hm : X.mg "list" = none) (hg2 : Gl X "range") (hm2 : X.mg "range" = none) (ha : PE X a (tE X F W x)) (hb : PE X b (tE X F W y)) (hs : starEach [a, b] X.env = (false, eval a X.env) :: starEach [b] X.env) (hs2 : starEach [b] X.env = [(false, eval b X.env)]) :
    PE X (.Call (.Name "list" p) [.Call (.Name "range" q) [a, b] [] pos2] [] pos) (tF X F W (fun σ => M.bind (evs F.cal (.cons x (.cons y .nil)) σ) fun as => M.opt (rangeD as))) := by
  refine PEw (pe_listRg hc hg hm (prg_2 hg2 hm2 ha hb hs hs2 (by rw [hs2]; rfl))) fun σ H Q h => ?_
  obtain ⟨ρ, s, S, m, e, r⟩ := h
  refine ⟨ρ, s, S, m, e, ?_⟩
  have r2 := RunF.bind (rA := RDs X.K F.T) r
  have r3 : Run X.K F.T F.Z (RDs X.K F.T) (fun c d H => W c d σ H) ρ H (M.bind (ev F.cal x s) (fun d => M.bind (evs F.cal (.cons y .nil) s) fun ds => M.pure (d :: ds)) S) _ := r2
  refine Run.mono (Run.bind (rA := rdR X F) r3) ?_
  rintro v H1 ⟨ρ1, d, S1, _, e1, m1, rd, q1⟩
  have q1 : Run X.K F.T F.Z (RDs X.K F.T) (fun c d H => W c d σ H) ρ1 H1 (M.bind (evs F.cal (.cons y .nil) s) (fun ds => M.pure (d :: ds)) S1) _ := q1
  refine ⟨ρ1, s, S1, m1, e.mono m e1, ?_⟩
  have q1' := Run.bind (rA := RDs X.K F.T) q1
  have q2 : Run X.K F.T F.Z (RDs X.K F.T) (fun c d H => W c d σ H) ρ1 H1 (M.bind (ev F.cal y s) (fun d => M.bind (evs F.cal .nil s) fun ds => M.pure (d :: ds)) S1) _ := q1'
  refine Run.mono (Run.bind (rA := rdR X F) q2) ?_
  rintro w H2 ⟨ρ2, d2, S2, _, e2, m2, rd2, q3⟩
  have q3 : Run X.K F.T F.Z (RDs X.K F.T) (fun c d H => W c d σ H) ρ2 H2 (.ok [d2] S2) _ := q3
  obtain ⟨ρ3, ds2, S3, _, e3, m3, rs3, q4⟩ := Run.here m2 q3 (.cons rd2 .nil)
  have q4 : Run X.K F.T F.Z (RDs X.K F.T) (fun c d H => W c d σ H) ρ3 H2 (.ok (d :: ds2) S3) _ := q4
  obtain ⟨ρ4, ds, S4, e4, m4, rs, q5⟩ := Run.here m3 q4 (.cons (rd.mono m1 e3) rs3)
  match ds, rs, q5 with
  | [d', d2'], .cons rd' (.cons rd2' .nil), q5 =>
    cases hy : rangeD [d', d2'] with
    | none => rw [hy] at q5; exact q5.elim
    | some ys =>
      rw [hy] at q5
      unfold rangeD at hy
      split at hy
      · rename_i h
        cases h
      · rename_i i j hn
        cases hn
        obtain ⟨h2, rfl⟩ := ite_some hy
        refine ⟨i, j, rd'.int_inv, rd2'.int_inv, ⟨by omega, by omega, by omega, by omega, by omega⟩, fun p hp => ?_⟩
        have q6 : RunF X.K F.T F.Z (fun c d H => W c d σ H) ρ4 H2 (.ok _ S4) Q := q5
        exact q6.laid .refl m4 (rds_rg i j) hp
      · cases hy
end
end Lk
end
section
/-! E11: the text is turned into the evaluator's language. -/
set_option Elab.async false
set_option linter.all false
set_option maxRecDepth 100000
set_option maxHeartbeats 4000000
namespace Lk
open PySem PySem.Spec PyProof.Rows L2 SlX

/-- what the text may name: defs by name and number of arguments, constants, built-ins that stand -/
structure Gt where
  defs : List ((Str × Nat) × (Nat × List D))
  cons : List (Str × D)
  blts : List Str
  ncl : Nat := 0
  clss : List (Str × Nat) := []
  atts : List (Str × List (Nat × Att)) := []
  maks : List ((Str × Nat) × (Nat × Nat × List D)) := []
  makk : List ((Str × Nat × List Str) × (Nat × Nat)) := []
  errs : List (Str × Nat) := []
  hans : List (Str × (List Nat × List Nat)) := []
  flds : List ((Str × Str) × (Nat × List Nat)) := []
  eqs : List (Nat × Nat) := []
  erri : List (Str × Nat) := []
/-- the place of a name that is the def's own -/
def slotIx (N : List Str) (x : Str) : Option Nat := N.findIdx? (· == x)
def isVis (sc : Scope) (x : Str) : Bool := match sc.names.lookup x with
  | some .local => true
  | some .cell => true
  | some .free => true
  | _ => false
def isLoc (sc : Scope) (x : Str) : Bool := match sc.names.lookup x with
  | some .local => true
  | some .cell => true
  | _ => false
def isGlob (sc : Scope) (x : Str) : Bool := match sc.names.lookup x with
  | some .globalImplicit => true
  | _ => false
def okName (x : Str) : Bool := !(x == ("__debug__" : Str)) && !(x == ("__classdict__" : Str)) && !(x == ("__name__" : Str))
def notStar : Expr → Bool
  | .Starred _ _ => false
  | _ => true
def okT : Expr → Bool
  | .IfExp _ _ _ _ => false
  | .NamedExpr _ _ _ => false
  | _ => true
def ceL (f : Expr → Option XE) : List Expr → Option XEs
  | [] => some .nil
  | e :: es => match notStar e, f e, ceL f es with
    | true, some x, some xs => some (.cons x xs)
    | _, _, _ => none
def ceB (f : Expr → Option XE) (op : BoolOp) : List Expr → Option XE
  | [] => none
  | [a] => match okT a with
    | true => f a
    | false => none
  | a :: r => match okT a, f a, ceB f op r with
    | true, some x, some y => some (match op with | .And => .and x y | .Or => .or x y)
    | _, _, _ => none
def opB : Operator → Option Bop
  | .Add => some .add
  | .Sub => some .sub
  | .Mult => some .mul
  | .FloorDiv => some .fdiv
  | .Mod => some .mod
  | .Pow => some .pow
  | _ => none
def opC : CmpOp → Option Cop
  | .Eq => some .eq
  | .NotEq => some .ne
  | .Lt => some .lt
  | .LtE => some .le
  | .Gt => some .gt
  | .GtE => some .ge
  | .In => some .inn
  | .NotIn => some .nin
  | _ => none
def biOf (x : Str) : Option Bi :=
  if x == ("len" : Str) then some .len else if x == ("all" : Str) then some .all else if x == ("any" : Str) then some .any else if x == ("sum" : Str) then some .sum else if x == ("abs" : Str) then some .abs
  else if x == ("tuple" : Str) then some .tuple else if x == ("list" : Str) then some .list else if x == ("int" : Str) then some .int else if x == ("str" : Str) then some .str else none
mutual
def cT (N : List Str) (sc : Scope) : Nat → Expr → Option Tg
  | 0, _ => none
  | n + 1, e => match e with
    | .Name x _ => match slotIx N x, isLoc sc x with
      | some i, true => some (.nm i)
      | _, _ => none
    | .Tuple es _ _ => (cTs N sc n es).map .tp
    | _ => none
def cTs (N : List Str) (sc : Scope) : Nat → List Expr → Option Tgs
  | 0, _ => none
  | n + 1, es => match es with
    | [] => some .nil
    | e :: es => match notStar e, cT N sc n e, cTs N sc n es with
      | true, some t, some ts => some (.cons t ts)
      | _, _, _ => none
end
def ownOf (N : List Str) (scope : Scope) : List (Str × Nat) := scope.names.filterMap fun y => match y.2 with
  | .local => (slotIx N y.1).map fun i => (y.1, i)
  | .cell => (slotIx N y.1).map fun i => (y.1, i)
  | _ => none
def ceO (f : Expr → Option XE) : Option Expr → Option XB
  | none => some .no
  | some e => (f e).map .so
def ceK (f : Expr → Option XE) : List Keyword → Option XEs
  | [] => some .nil
  | k :: ks => match f k.value, ceK f ks with
    | some x, some xs => some (.cons x xs)
    | _, _ => none
def isCall0 : Expr → Bool
  | .Call (.Name _ _) [] [] _ => true
  | _ => false
def bmOf (m : Str) : Option Bm :=
  if m == ("append" : Str) then some .append else if m == ("split" : Str) then some .split else if m == ("join" : Str) then some .join else if m == ("index" : Str) then some .index else none
/-- comprehensions in an __init__ leave self alone -/
def ownOk (N : List Str) (own : List (Str × Nat)) : Bool := !(N.head? == some ("self" : Str)) || own.all fun p => p.2 != 0
section
variable (G : Gt) (N : List Str)
def kdOf (sc : Scope) (x : Str) : Option Kd := match okName x && isGlob sc x with
  | false => none
  | true => match G.clss.lookup x with
    | some c => some (.own c)
    | none => match G.blts.contains x with
      | false => none
      | true => if x == ("int" : Str) then some .int else if x == ("bool" : Str) then some .bool else if x == ("str" : Str) then some .str else if x == ("tuple" : Str) then some .tup else if x == ("list" : Str) then some .lst else if x == ("dict" : Str) then some .dic else none
def kdE (sc : Scope) : Expr → Option Kd
  | .Name x _ => kdOf G sc x
  | _ => none
def kdEs (sc : Scope) : List Expr → Option (List Kd)
  | [] => some []
  | e :: es => match kdE G sc e, kdEs sc es with
    | some k, some ks => some (k :: ks)
    | _, _ => none
def isTupT : Expr → Bool
  | .Tuple _ _ _ => true
  | _ => false
def isBlt (sc : Scope) (x y : Str) : Bool := x == y && isGlob sc x && G.blts.contains x
/-- a call that is walked as such -/
def walked : List Str := ["range", "enumerate", "zip"]
def ceI (f : Expr → Option XE) (sc : Scope) (tg e : Expr) : Option XI := match e with
  | .Call (.Name x _) [a] [] _ => match isBlt G sc x "range" && notStar a, isBlt G sc x "enumerate" && notStar a && isTupT tg, f a with
    | true, _, some y => some (.rng (.cons y .nil))
    | false, true, some y => some (.enm y)
    | _, _, _ => match walked.contains x with
      | true => none
      | false => (f e).map .of
  | .Call (.Name x _) [a, b] [] _ => match isBlt G sc x "range" && notStar a && notStar b, isBlt G sc x "zip" && notStar a && notStar b && isTupT tg, f a, f b with
    | true, _, some y, some z => some (.rng (.cons y (.cons z .nil)))
    | false, true, some y, some z => some (.zip y z)
    | _, _, _, _ => match walked.contains x with
      | true => none
      | false => (f e).map .of
  | .Set _ _ _ => none
  | e => (f e).map .of
def tbOf : Cop → List (Nat × Nat)
  | .eq => G.eqs
  | .ne => G.eqs
  | _ => []
/-- list(range(..)) -/
def ceR (f : Expr → Option XE) (sc : Scope) (x : Str) (as : List Expr) (ks : List Keyword) : Option XE := match ks, as with
  | [], [.Call (.Name r _) rs [] _] => match isBlt G sc x "list" && isBlt G sc r "range", rs with
    | true, [a] => match notStar a, f a with
      | true, some y => some (.lrng (.cons y .nil))
      | _, _ => none
    | true, [a, b] => match notStar a && notStar b, f a, f b with
      | true, some y, some z => some (.lrng (.cons y (.cons z .nil)))
      | _, _, _ => none
    | _, _ => none
  | _, _ => none
def ce : Nat → Scope → Expr → Option XE
  | 0, _, _ => none
  | n + 1, sc, e => match e with
    | .Name x _ => match okName x with
      | false => none
      | true => match isVis sc x with
        | true => (slotIx N x).map .var
        | false => match isGlob sc x with
          | true => (G.cons.lookup x).map .con
          | false => none
    | .Constant c _ _ => match c with
      | .int i => some (.con (.int i))
      | .bool b => some (.con (.bl b))
      | .none => some (.con .non)
      | .str x => some (.con (.str x.cps.toList))
      | _ => none
    | .Tuple es _ _ => match ceL (ce n sc) es with
      | some xs => if xs.len ≤ 1000000 then some (.tup xs) else none
      | none => none
    | .List es _ => match ceL (ce n sc) es with
      | some xs => if xs.len ≤ 1000000 then some (.lst xs) else none
      | none => none
    | .BinOp a op b _ => match opB op, ce n sc a, ce n sc b with
      | some o, some x, some y => some (.bin o x y)
      | _, _, _ => none
    | .UnaryOp op a _ => match op with
      | .USub => (ce n sc a).map .neg
      | .Not => match okT a with
        | true => (ce n sc a).map .not
        | false => none
      | _ => none
    | .BoolOp op vs _ => ceB (ce n sc) op vs
    | .IfExp t a b _ => match okT t, ce n sc t, ce n sc a, ce n sc b with
      | true, some x, some y, some z => some (.ite x y z)
      | _, _, _, _ => none
    | .Compare a ops bs _ => match ops, bs with
      | [.Is], [.Constant .none _ _] => (ce n sc a).map .isN
      | [.IsNot], [.Constant .none _ _] => (ce n sc a).map .noN
      | [op], [b] => match opC op, ce n sc a, ce n sc b with
        | some o, some x, some y => match behindInMarks op b with
          | false => some (.cmp o (tbOf G o) x y)
          | true => none
        | _, _, _ => none
      | [op, op'], [b, c] => match opC op, opC op', ce n sc a, ce n sc b, ce n sc c with
        | some o, some p, some x, some y, some z => match behindInMarks op' c with
          | false => some (.chn o p x y z)
          | true => none
        | _, _, _, _, _ => none
      | _, _ => none
    | .Subscript a i _ => match i with
      | .Slice lo hi st _ => match st, ce n sc a, ceO (ce n sc) lo, ceO (ce n sc) hi with
        | none, some x, some l, some h => some (.slc x l h)
        | _, _, _, _ => none
      | i => match ce n sc a, ce n sc i with
        | some x, some y => some (.idx x y)
        | _, _ => none
    | .Attribute o f _ => match isCall0 o, G.atts.lookup f, ce n sc o with
      | false, some tb, some x => some (.att tb x)
      | _, _, _ => none
    | .Call f as ks pos => match f with
      | .Attribute o m ap => match ks, as with
        | [], [e] => match bmOf m, isCall0 o, ap.endLine == pos.line, notStar e, ce n sc o, ce n sc e with
          | some b, false, true, true, some x, some y => some (.mth b x (.cons y .nil))
          | _, _, _, _, _, _ => none
        | _, _ => none
      | .Name x _ => match okName x && isGlob sc x with
        | false => none
        | true => match x == ("isinstance" : Str) with
          | true => match ks, as, G.blts.contains x with
            | [], [e, c], true => match notStar e, ce n sc e, c with
              | true, some y, .Name z _ => (kdOf G sc z).map fun k => .isi G.ncl [k] y
              | true, some y, .Tuple cs _ _ => match kdEs G sc cs with
                | some kds => if kds.length ≤ 1000 then some (.isi G.ncl kds y) else none
                | none => none
              | _, _, _ => none
            | _, _, _ => none
          | false => match ceL (ce n sc) as with
            | none => ceR G (ce n sc) sc x as ks
            | some xs => match ks with
              | [] => match G.defs.lookup (x, as.length) with
                | some (j, dfl) => some (.call j xs (planOf xs.len dfl))
                | none => match as with
                  | [] => none
                  | _ => match G.maks.lookup (x, as.length) with
                    | some (c, j, dfl) => some (.make c j 0 xs (planOf xs.len dfl))
                    | none => match G.blts.contains x, biOf x with
                      | true, some b => some (.bi b xs)
                      | _, _ => none
              | _ => match as with
                | [] => none
                | _ => match kwNames ks, ceK (ce n sc) ks with
                  | some ns, some ys => match G.makk.lookup (x, as.length, ns) with
                    | some (c, j) => some (.make c j 0 (xs.app ys) (planOf (xs.app ys).len []))
                    | none => none
                  | _, _ => none
      | _ => none
    | .ListComp elt gs scope _ => match gs with
      | [⟨tg, iter, ifs, 0⟩] => match blkC N sc scope (ownOf N scope), cT N scope 8 tg, ceI G (ce n sc) sc tg iter, ce n (relS scope sc) elt with
        | true, some t, some it, some e => match t.sub ((ownOf N scope).map (·.2)), ifs with
          | true, [] => match ownOk N (ownOf N scope) with
            | true => some (lcX (ownOf N scope) t it .yes e)
            | false => none
          | true, [c] => match okT c, ce n (relS scope sc) c, ownOk N (ownOf N scope) with
            | true, some c, true => some (lcX (ownOf N scope) t it c e)
            | _, _, _ => none
          | _, _ => none
        | _, _, _, _ => none
      | _ => none
    | _ => none
end
/-- where a piece of the text stands -/
structure Good (G : Gt) (N : List Str) (k : Nat) (F : Fx) (X : Cx) (sc : Scope) : Prop where
  hN : X.N = N
  nd : N.Nodup
  hs : X.env.scope = sc
  calm : X.calm = true
  room : Room (k + 1) X.A
  k1 : 1 ≤ k
  eqs : ∀ c f, G.eqs.lookup c = some f → EqF X F k G.eqs c f
  sf : F.Y = none ∨ N.head? = some ("self" : Str)
  cls : ClsF X.K F.T G.ncl
  clg : ∀ x c, G.clss.lookup x = some c → c < G.ncl ∧ X.mg x = some (.ref (F.T c))
  att : ∀ f tb c t, G.atts.lookup f = some tb → tb.lookup c = some t → AttF X F k f c t
  mak : ∀ x n c j dfl, G.maks.lookup (x, n) = some (c, j, dfl) → MkF X F k x c j dfl
  mkk : ∀ x n ks c j, G.makk.lookup (x, n, ks) = some (c, j) → MkK X F k x n ks c j
  defs : ∀ x n j dfl, G.defs.lookup (x, n) = some (j, dfl) → Known X F k x j dfl
  cons : ∀ x d, G.cons.lookup x = some d → ∃ u v, X.mg x = some u ∧ RelV v u ∧ Fixed X.K F.T d v
  blts : ∀ x, G.blts.contains x = true → X.mg x = none
section
variable {G : Gt} {N : List Str} {k : Nat} {F : Fx} {X : Cx} {W : WX} {sc : Scope}
theorem slotIx_some {x : Str} {i : Nat} (h : slotIx N x = some i) : N[i]? = some x := by
  unfold slotIx at h
  obtain ⟨hi, h1, _⟩ := List.findIdx?_eq_some_iff_getElem.mp h
  rw [List.getElem?_eq_getElem hi]
  simpa using h1
theorem vis_of {x : Str} (h : isVis sc x = true) : Vis sc x := by
  unfold isVis at h
  split at h
  · exact .inl (by assumption)
  · exact .inr (.inl (by assumption))
  · exact .inr (.inr (by assumption))
  · cases h
theorem loc_of {x : Str} (h : isLoc sc x = true) : sc.names.lookup x = some .local ∨ sc.names.lookup x = some .cell := by
  unfold isLoc at h
  split at h
  · exact .inl (by assumption)
  · exact .inr (by assumption)
  · cases h
theorem glob_of {x : Str} (g : Good G N k F X sc) (h : isGlob sc x = true) : Gl X x := by
  unfold isGlob at h
  split at h
  · rename_i e
    show X.env.scope.names.lookup x = some .globalImplicit
    rw [g.hs]; exact e
  · cases h
theorem okName_of {x : Str} (h : okName x = true) : (x == ("__debug__" : Str)) = false ∧ (x == ("__classdict__" : Str)) = false ∧ x ≠ "__name__" := by
  unfold okName at h
  simp only [Bool.and_eq_true, Bool.not_eq_true', beq_eq_false_iff_ne] at h
  exact ⟨beq_eq_false_iff_ne.mpr h.1.1, beq_eq_false_iff_ne.mpr h.1.2, h.2⟩
theorem star_cons {e : Expr} {es : List Expr} {env : PySem.Env} (h : notStar e = true) : starEach (e :: es) env = (false, eval e env) :: starEach es env := by
  cases e <;> first | rfl | cases h
/-- no star at all -/
theorem noStars {f : Expr → Option XE} {env : PySem.Env} {pos : Pos} : ∀ {es : List Expr} {xs : XEs}, ceL f es = some xs → (backTo pos (starEach es env)).any (·.1) = false
  | [], _, _ => rfl
  | e :: es, xs, h => by
    unfold ceL at h
    split at h
    · rename_i h1 h2 h3
      rw [star_cons h1]
      show (false || (backTo pos (starEach es env)).any (·.1)) = false
      rw [noStars h3]; rfl
    · cases h
theorem ceL_ok {f : Expr → Option XE} (hf : ∀ e x, f e = some x → PE X e (tE X F W x)) : ∀ {es : List Expr} {xs : XEs}, ceL f es = some xs → PA X es (tAs X F W xs)
  | [], _, h => by cases h; exact sA_nil
  | e :: es, xs, h => by
    unfold ceL at h
    split at h
    · rename_i h1 h2 h3
      cases h
      exact sA_cons (hf _ _ h2) (ceL_ok hf h3) (star_cons h1)
    · cases h
theorem ceB_ok {f : Expr → Option XE} {op : BoolOp} {pos : Pos} (hf : ∀ e x, f e = some x → PE X e (tE X F W x)) (ht : ∀ e x, f e = some x → okT e = true → PT X e (tT X F W x)) : ∀ {vs : List Expr} {x : XE}, ceB f op vs = some x → PE X (.BoolOp op vs pos) (tE X F W x) ∧ PW X (.BoolOp op vs pos) (tT X F W x)
  | [], _, h => by cases h
  | [a], x, h => by
    unfold ceB at h
    split at h
    · rename_i h1
      refine ⟨sE_one (hf _ _ h), ?_⟩
      cases op
      · exact sW_and1 (ht _ _ h h1)
      · exact sW_or1 (ht _ _ h h1)
    · cases h
  | a :: b :: r, x, h => by
    unfold ceB at h
    split at h
    · rename_i h1 h2 h3
      cases h
      have ih := ceB_ok (pos := pos) hf ht h3
      cases op
      · exact ⟨sE_and (hf _ _ h2) ih.1, sW_and (ht _ _ h2 h1) ih.2⟩
      · exact ⟨sE_or (hf _ _ h2) ih.1, sW_or (ht _ _ h2 h1) ih.2⟩
    · cases h
theorem room_u (g : Good G N k F X sc) : X.A.units + 65 < cLine := by have := g.room.un; omega
theorem opB_ok {op : Operator} {o : Bop} (h : opB op = some o) : OpR X (binaryOp op) (BinR X F o) := by
  cases op <;> cases h
  · exact op_addE
  · exact op_subE
  · exact op_mulE
  · exact op_modE
  · exact op_powE
  · exact op_fdivE
theorem opC_ok (g : Good G N k F X sc) {op : CmpOp} {o : Cop} (h : opC op = some o) : OpR X (compareOp op) (CmpR X F o) := by
  have hu := room_u g
  cases op <;> cases h
  · exact op_eqE (by omega)
  · exact op_neE (by omega)
  · exact op_ltE
  · exact op_leE
  · exact op_gtE
  · exact op_geE
  · exact op_inE hu
  · exact op_ninE hu
/-- the block of a comprehension -/
theorem Good.blk (g : Good G N k F X sc) (s : Shared) (H : Hp) (scope : Scope) (C : Addr) (cl : List (Str × Addr)) (fp : List Addr) : Good G N k F (X.blk s H scope (compEnvC scope cl C X.env) fp) (relS scope sc) where
  hN := g.hN
  nd := g.nd
  hs := by rw [← g.hs]; rfl
  calm := g.calm
  room := g.room
  k1 := g.k1
  eqs := fun c f h => let e := g.eqs c f h; ⟨e.ex, e.ne, e.ob, e.t1, e.t2⟩
  sf := g.sf
  cls := g.cls
  clg := g.clg
  att := fun f tb c t h1 h2 => by
    have := g.att f tb c t h1 h2
    cases t with
    | slot i => exact this
    | prop j => exact this
  mak := fun x n c j dfl h => by
    obtain ⟨f, fd, ps, ds, dvs, h1, h2, h3, h4, h5, h6⟩ := (g.mak x n c j dfl h).ex
    exact ⟨f, fd, ps, ds, dvs, h1, h2, h3, h4, h5, h6⟩
  mkk := fun x n ks c j h => by
    obtain ⟨f, fd, ps, h1, h2, h3, h4⟩ := (g.mkk x n ks c j h).ex
    exact ⟨f, fd, ps, h1, h2, h3, h4⟩
  defs := fun x n j dfl h => by
    obtain ⟨f, fd, ps, ds, dvs, h1, h2, h3, h4, h5, h6⟩ := (g.defs x n j dfl h).ex
    exact ⟨f, fd, ps, ds, dvs, h1, h2, h3, h4, h5, h6⟩
  cons := g.cons
  blts := g.blts
mutual
theorem cT_ok (hN : X.N = N) (nd : N.Nodup) (hc : X.calm = true) {sc' : Scope} (hl : ∀ x, isLoc sc' x = true → L2.Loc X.env.scope x ∧ (X.fn x = true ∨ X.env.scope.names.lookup x = some .local)) : ∀ (n : Nat) {e : Expr} {t : Tg}, cT N sc' n e = some t → PG X e (gE X F t)
  | 0, _, _, h => by cases h
  | n + 1, e, t, h => by
    unfold cT at h
    split at h
    · split at h
      · rename_i h1 h2
        cases h
        exact sG_name (by rw [hN]; exact nd) (by rw [hN]; exact slotIx_some h1) (hl _ h2).1 (hl _ h2).2
      · cases h
    · obtain ⟨ts, h1, rfl⟩ := map_some h
      have := cTs_ok hN nd hc hl n h1
      exact sG_tup hc this.1 this.2.1 this.2.2
    · cases h
theorem cTs_ok (hN : X.N = N) (nd : N.Nodup) (hc : X.calm = true) {sc' : Scope} (hl : ∀ x, isLoc sc' x = true → L2.Loc X.env.scope x ∧ (X.fn x = true ∨ X.env.scope.names.lookup x = some .local)) : ∀ (n : Nat) {es : List Expr} {ts : Tgs}, cTs N sc' n es = some ts → PGs X es (gEs X F ts) ∧ (assignEach es X.env).length = ts.len ∧ (assignEach es X.env).findIdx? (·.1) = none
  | 0, _, _, h => by cases h
  | n + 1, es, ts, h => by
    unfold cTs at h
    split at h
    · cases h
      exact ⟨sGs_nil, rfl, rfl⟩
    · rename_i e es
      split at h
      · rename_i t ts h1 h2 h3
        cases h
        have ih := cTs_ok hN nd hc hl n h3
        have hs : ∀ v p, e ≠ .Starred v p := fun v p z => by rw [z] at h1; cases h1
        have ha := assignEach_cons e es X.env hs
        refine ⟨sGs_cons (cT_ok hN nd hc hl n h2) ih.1 (by rw [ha]; rfl), ?_, ?_⟩
        · rw [ha]; simp [Tgs.len, ih.2.1]
        · rw [ha, List.findIdx?_cons]
          simp [ih.2.2]
      · cases h
end
theorem isBlt_of (g : Good G N k F X sc) {x y : Str} (h : isBlt G sc x y = true) : x = y ∧ Gl X y ∧ X.mg y = none := by
  unfold isBlt at h
  simp only [Bool.and_eq_true] at h
  have e := eq_of_beq h.1.1
  subst e
  exact ⟨rfl, glob_of g h.1.2, g.blts _ h.2⟩
/-- what is walked -/
theorem ceI_ok (g : Good G N k F X sc) {f : Expr → Option XE} (hf : ∀ e x, f e = some x → PE X e (tE X F W x)) {tg e : Expr} {x : XI} (h : ceI G f sc tg e = some x) : PI X tg e (tI X F W x) ∧ ∀ z, foldedSetIterable e X.env z = pure z := by
  have base : ∀ {e : Expr} {x : XI}, (f e).map XI.of = some x → PI X tg e (tI X F W x) := fun h => by
    obtain ⟨y, hy, rfl⟩ := map_some h
    exact sI_of (hf _ _ hy)
  unfold ceI at h
  split at h
  · rename_i x' p a pos
    refine ⟨?_, fun _ => rfl⟩
    split at h
    · rename_i y h1 h2
      cases h
      simp only [Bool.and_eq_true] at h1
      obtain ⟨rfl, h4, h5⟩ := isBlt_of g h1.1
      exact sI_rng1 h4 h5 (sA_cons (hf _ _ h2) sA_nil (star_cons h1.2)) (star_cons h1.2) rfl
    · rename_i y _ h1 h2
      cases h
      simp only [Bool.and_eq_true] at h1
      obtain ⟨rfl, h4, h5⟩ := isBlt_of g h1.1.1
      cases tg <;> first
        | exact sI_enm h4 h5 (hf _ _ h2) (star_cons h1.1.2)
        | (have := h1.2; cases this)
    · split at h
      · cases h
      · exact base h
  · rename_i x' p a b pos
    refine ⟨?_, fun _ => rfl⟩
    split at h
    · rename_i y z h1 h2 h3
      cases h
      simp only [Bool.and_eq_true] at h1
      obtain ⟨rfl, h4, h5⟩ := isBlt_of g h1.1.1
      have s2 : starEach [b] X.env = [(false, eval b X.env)] := star_cons h1.2
      exact sI_rng2 h4 h5 (sA_cons (hf _ _ h2) (sA_cons (hf _ _ h3) sA_nil s2) (star_cons h1.1.2)) (by rw [star_cons h1.1.2, s2]) s2 rfl
    · rename_i y z _ h1 h2 h3
      cases h
      simp only [Bool.and_eq_true] at h1
      obtain ⟨rfl, h4, h5⟩ := isBlt_of g h1.1.1.1
      have s2 : starEach [b] X.env = [(false, eval b X.env)] := star_cons h1.1.2
      cases tg <;> first
        | exact sI_zip h4 h5 (hf _ _ h2) (hf _ _ h3) (star_cons h1.1.1.2) s2
        | (have := h1.2; cases this)
    · split at h
      · cases h
      · exact base h
  · cases h
  · rename_i h1 h2 h3
    refine ⟨base h, fun z => ?_⟩
    cases e <;> first | rfl | exact absurd rfl (h3 _ _ _)
theorem ceR_ok (g : Good G N k F X sc) {f : Expr → Option XE} (hf : ∀ e x, f e = some x → PE X e (tE X F W x)) {x : Str} {as : List Expr} {ks : List Keyword} {y : XE} {p pos : Pos} (h : ceR G f sc x as ks = some y) : PE X (.Call (.Name x p) as ks pos) (tE X F W y) := by
  unfold ceR at h
  split at h
  · split at h
    · rename_i h1
      split at h
      · rename_i z h2 h3
        cases h
        simp only [Bool.and_eq_true] at h1
        obtain ⟨rfl, h4, h5⟩ := isBlt_of g h1.1
        obtain ⟨rfl, h6, h7⟩ := isBlt_of g h1.2
        exact fresh_fl (sF_lrng1 g.calm h4 h5 h6 h7 (hf _ _ h3) (star_cons h2)) fun _ => rfl
      · cases h
    · rename_i h1
      split at h
      · rename_i z w h2 h3 h3'
        cases h
        simp only [Bool.and_eq_true] at h1 h2
        obtain ⟨rfl, h4, h5⟩ := isBlt_of g h1.1
        obtain ⟨rfl, h6, h7⟩ := isBlt_of g h1.2
        exact fresh_fl (sF_lrng2 g.calm h4 h5 h6 h7 (hf _ _ h3) (hf _ _ h3') (star_cons h2.1) (star_cons h2.2)) fun _ => rfl
      · cases h
    · cases h
  · cases h
theorem cmp_ok (g : Good G N k F X sc) {op : CmpOp} {o : Cop} {W' : XK} (h : opC op = some o) : OpR X (compareOp op) (CmpC X F W' o (tbOf G o)) := by
  have hd := opC_ok g h
  cases op <;> cases h
  · exact cmpC_own (.inl ⟨rfl, rfl⟩) hd g.eqs g.room
  · exact cmpC_own (.inr ⟨rfl, rfl⟩) hd g.eqs g.room
  all_goals exact cmpC_data hd
theorem bi_ok (g : Good G N k F X sc) {x : Str} {b : Bi} {e : Expr} {es : List Expr} {p pos : Pos} (h : biOf x = some b) (hg : Gl X x) (hm : X.mg x = none) (hn : x ≠ "__name__") (hdb : (x == ("__debug__" : Str)) = false)
    (he : starEach (e :: es) X.env = (false, eval e X.env) :: starEach es X.env) (hpl : (backTo pos (starEach es X.env)).any (·.1) = false) {t : TA} (ha : PA X (e :: es) t) : PE X (.Call (.Name x p) (e :: es) [] pos) (fun σ H Q => t σ H fun vs H1 => BiR X F b vs H1 Q) := by
  have hu := room_u g
  unfold biOf at h
  repeat' split at h
  all_goals first
    | (cases h; done)
    | (rename_i hx; have e := eq_of_beq hx; subst e; cases h; first
        | exact pe_callB bi_len hg hm (by decide +kernel) ha hn hdb he hpl
        | exact pe_callB (bi_all g.calm) hg hm (by decide +kernel) ha hn hdb he hpl
        | exact pe_callB (bi_any g.calm) hg hm (by decide +kernel) ha hn hdb he hpl
        | exact pe_callB (bi_sum g.calm) hg hm (by decide +kernel) ha hn hdb he hpl
        | exact pe_callB bi_abs hg hm (by decide +kernel) ha hn hdb he hpl
        | exact pe_callTy bi_tuple hg hm (by decide +kernel) ha hn hdb he hpl
        | exact pe_callTy (bi_list g.calm) hg hm (by decide +kernel) ha hn hdb he hpl
        | exact pe_callTy bi_int hg hm (by decide +kernel) ha hn hdb he hpl
        | exact pe_callTy bi_str hg hm (by decide +kernel) ha hn hdb he hpl)
theorem ceL_len {f : Expr → Option XE} : ∀ {es : List Expr} {xs : XEs}, ceL f es = some xs → xs.len = es.length
  | [], _, h => by cases h; rfl
  | e :: es, xs, h => by
    unfold ceL at h
    split at h
    · rename_i h1 h2 h3
      cases h
      simp [XEs.len, ceL_len h3]
    · cases h
theorem ceK_ok {f : Expr → Option XE} (hf : ∀ e x, f e = some x → PE X e (tE X F W x)) : ∀ {ks : List Keyword} {xs : XEs}, ceK f ks = some xs → PK X ks (tAs X F W xs) ∧ xs.len = ks.length
  | [], _, h => by cases h; exact ⟨sK_nil, rfl⟩
  | ⟨a, v, p⟩ :: ks, xs, h => by
    unfold ceK at h
    split at h
    · rename_i h1 h2
      cases h
      have ih := ceK_ok hf h2
      exact ⟨sK_cons (hf _ _ h1) ih.1, by simp [XEs.len, ih.2]⟩
    · cases h
theorem call0_ok {e : Expr} (h : isCall0 e = false) {f : Str} {env : PySem.Env} : attributeBase e f env (eval e env) = eval e env := base_ok fun x p q z => by subst z; cases h
theorem bm_ok (g : Good G N k F X sc) {m : Str} {b : Bm} (h : bmOf m = some b) : MthR X F m b := by
  unfold bmOf at h
  repeat' split at h
  all_goals first
    | (cases h; done)
    | (rename_i hx; have e := eq_of_beq hx; subst e; cases h; first
        | exact mth_append
        | exact mth_split
        | exact mth_join
        | exact mth_index (room_u g))
/-- a class's name -/
theorem kd_ok (g : Good G N k F X sc) {x : Str} {kd : Kd} (h : kdOf G sc x = some kd) (p : Pos) : kdOk G.ncl kd = true ∧ PE X (.Name x p) (tC (kdV F.T kd)) := by
  unfold kdOf at h
  split at h
  · cases h
  · rename_i h1
    simp only [Bool.and_eq_true] at h1
    obtain ⟨d1, d2, d3⟩ := okName_of h1.1
    have gl := glob_of g h1.2
    split at h
    · rename_i c hc
      cases h
      obtain ⟨hl, hm⟩ := g.clg _ _ hc
      exact ⟨by simpa [kdOk] using hl, pe_glob gl hm rfl d1⟩
    · split at h
      · cases h
      · rename_i hb
        have hm := g.blts _ hb
        repeat' split at h
        all_goals first
          | (cases h; done)
          | (rename_i hx; have e := eq_of_beq hx; subst e; cases h; exact ⟨rfl, pe_bltn gl hm (by decide +kernel) rfl d3 d1⟩)
theorem kds_ok (g : Good G N k F X sc) : ∀ {cs : List Expr} {kds : List Kd}, kdEs G sc cs = some kds → (∀ kd ∈ kds, kdOk G.ncl kd = true) ∧ PA X cs (fun _ H Q => Q (kds.map (kdV F.T)) H)
  | [], _, h => by cases h; exact ⟨(fun _ z => nomatch z), pa_nil⟩
  | e :: es, kds, h => by
    unfold kdEs at h
    split at h
    · rename_i kd ks h1 h2
      cases h
      have ih := kds_ok g h2
      cases e <;> first
        | (simp only [kdE] at h1; cases h1; done)
        | (rename_i y p
           have hk := kd_ok g (show kdOf G sc y = some kd from h1) p
           exact ⟨fun z hz => by
             rcases List.mem_cons.mp hz with z' | z'
             · rw [z']; exact hk.1
             · exact ih.1 z z', PAw (pa_cons hk.2 ih.2 rfl) fun σ H Q q => q⟩)
    · cases h
theorem ownOk_of {own : List (Str × Nat)} (g : Good G N k F X sc) (h : ownOk N own = true) : F.Y = none ∨ ∀ w ∈ own.map (·.2), w ≠ 0 := by
  rcases g.sf with z | z
  · exact .inl z
  · refine .inr fun w hw => ?_
    unfold ownOk at h
    rw [z] at h
    have e : ((some ("self" : Str)) == some ("self" : Str)) = true := by decide
    rw [e, Bool.not_true, Bool.false_or] at h
    obtain ⟨p, hp, rfl⟩ := List.mem_map.mp hw
    simpa using List.all_eq_true.mp h p hp
end
end Lk
end
section
/-! E12: what ce gives is the model's. -/
set_option Elab.async false
set_option linter.all false
set_option maxRecDepth 100000
set_option maxHeartbeats 4000000
namespace Lk
open PySem PySem.Spec PyProof.Rows L2 SlX
section
variable {G : Gt} {N : List Str} {k : Nat} {F : Fx}
/-- an expression is right: as a value, as a test -/
def Right (F : Fx) (X : Cx) (W : WX) (e : Expr) (x : XE) : Prop := PE X e (tE X F W x) ∧ (okT e = true → PT X e (tT X F W x))
theorem Right.val {X : Cx} {W : WX} {e : Expr} {x : XE} (h : PE X e (tE X F W x)) (he : ∀ whole, isTrue e X.env whole = (do let v ← whole; standAt e.pos; holding [v] (truthy v))) : Right F X W e x := ⟨h, fun _ => sT_val h he⟩
/-- a comprehension's parts are right -/
theorem lc_ok {n : Nat} {sc : Scope} {X : Cx} {W : WX} (g : Good G N k F X sc) (ihE : ∀ e x, ce G N n sc e = some x → PE X e (tE X F W x)) {elt : Expr} {gs : List Comprehension} {scope : Scope} {p : Pos} {x : XE}
    (ihB : ∀ e x, ce G N n (relS scope sc) e = some x → ∀ (s : Shared) (H : Hp) (C : Addr) (cl : List (Str × Addr)) (fp : List Addr), Right F (X.blk s H scope (compEnvC scope cl C X.env) fp) W0 e x)
    (h : ce G N (n + 1) sc (.ListComp elt gs scope p) = some x) : ∃ tg iter ifs t it c e, gs = [⟨tg, iter, ifs, 0⟩] ∧ x = lcX (ownOf N scope) t it c e ∧ LcOk X F W elt tg iter ifs scope (ownOf N scope) t it c e := by
  simp only [ce] at h
  split at h
  · rename_i tg iter ifs
    split at h
    · rename_i t it e h1 h2 h3 h4
      have hI := ceI_ok (tg := tg) g ihE h3
      have hG : ∀ (s : Shared) (H : Hp) (C : Addr) (cl : List (Str × Addr)) (fp : List Addr), PG (X.blk s H scope (compEnvC scope cl C X.env) fp) tg (gE X F t) := fun s H C cl fp =>
        cT_ok (X := X.blk s H scope (compEnvC scope cl C X.env) fp) g.hN g.nd g.calm (fun y hy => by
          have hk : ∀ kd, kd ≠ NameKind.free → scope.names.lookup y = some kd → (relS scope X.env.scope).names.lookup y = some kd := fun kd hn hl => lookup_relS_keep hn hl
          rcases loc_of hy with z | z
          · exact ⟨.inl (hk _ (by decide) z), .inr (hk _ (by decide) z)⟩
          · exact ⟨.inr (hk _ (by decide) z), .inl (by show (scope.names.lookup y == some NameKind.cell) = true; rw [z]; rfl)⟩) 8 h2
      have hB : BlkOk X.N X.env.scope scope (ownOf N scope) := by
        rw [g.hN, g.hs]; exact blkOk_by h1
      split at h
      · rename_i h5
        split at h
        · rename_i h8
          cases h
          exact ⟨tg, iter, [], t, it, .yes, e, rfl, rfl, hI.1, hB, ownOk_of g h8, h5, hG, fun s H C cl fp => sTs_nil (X := X) rfl, fun s H C cl fp => (ihB _ _ h4 s H C cl fp).1, hI.2⟩
        · cases h
      · rename_i c h5
        split at h
        · rename_i c' h6 h7 h8
          cases h
          exact ⟨tg, iter, [c], t, it, c', e, rfl, rfl, hI.1, hB, ownOk_of g h8, h5, hG, fun s H C cl fp => pts_one ((ihB _ _ h7 s H C cl fp).2 h6), fun s H C cl fp => (ihB _ _ h4 s H C cl fp).1, hI.2⟩
        · cases h
      · cases h
    · cases h
  · cases h
theorem ce_ok : ∀ (n : Nat) (sc : Scope) (e : Expr) (x : XE), ce G N n sc e = some x → ∀ (X : Cx) (W : WX), Good G N k F X sc → Psv X W → Right F X W e x
  | 0, _, _, _, h, _, _, _, _ => by cases h
  | n + 1, sc, e, x, h, X, W, g, hx => by
    have ih : ∀ e x, ce G N n sc e = some x → Right F X W e x := fun e x h => ce_ok n sc e x h X W g hx
    have ihE : ∀ e x, ce G N n sc e = some x → PE X e (tE X F W x) := fun e x h => (ih e x h).1
    have ihT : ∀ e x, ce G N n sc e = some x → okT e = true → PT X e (tT X F W x) := fun e x h => (ih e x h).2
    have hN : X.N.Nodup := by rw [g.hN]; exact g.nd
    cases e with
    | Name y p =>
      simp only [ce] at h
      split at h
      · cases h
      · rename_i h1
        obtain ⟨d1, d2, d3⟩ := okName_of h1
        split at h
        · rename_i h2
          obtain ⟨i, hi, rfl⟩ := map_some h
          exact .val (sE_var (by rw [g.hN]; exact slotIx_some hi) (by rw [g.hs]; exact vis_of h2) d1 d2) fun _ => rfl
        · split at h
          · rename_i h3
            obtain ⟨d, hd, rfl⟩ := map_some h
            obtain ⟨u, v, hm, r, fx⟩ := g.cons y d hd
            exact .val (sE_glob (glob_of g h3) hm r fx d1) fun _ => rfl
          · cases h
    | Constant c j p =>
      simp only [ce] at h
      split at h
      · cases h; exact .val sE_int fun _ => rfl
      · cases h; exact .val sE_bl fun _ => rfl
      · cases h; exact .val sE_non fun _ => rfl
      · cases h; exact .val sE_str fun _ => rfl
      · cases h
    | Tuple es j p =>
      simp only [ce] at h
      split at h
      · rename_i xs hxs
        obtain ⟨hl, rfl⟩ := ite_some h
        exact .val (sE_tup (ceL_ok ihE hxs) hl) fun _ => rfl
      · cases h
    | List es p =>
      simp only [ce] at h
      split at h
      · rename_i xs hxs
        obtain ⟨hl, rfl⟩ := ite_some h
        exact .val (sE_lst (ceL_ok ihE hxs) hl) fun _ => rfl
      · cases h
    | BinOp a op b p =>
      simp only [ce] at h
      split at h
      · rename_i o x y h1 h2 h3
        cases h
        exact .val (sE_bin (opB_ok h1) (ihE _ _ h2) (ihE _ _ h3)) fun _ => rfl
      · cases h
    | UnaryOp op a p =>
      simp only [ce] at h
      split at h
      · obtain ⟨y, hy, rfl⟩ := map_some h
        exact .val (sE_neg (ihE _ _ hy)) fun _ => rfl
      · split at h
        · rename_i h1
          obtain ⟨y, hy, rfl⟩ := map_some h
          exact ⟨sE_not (ihE _ _ hy), fun _ => sT_not (ihT _ _ hy h1)⟩
        · cases h
      · cases h
    | BoolOp op vs p =>
      simp only [ce] at h
      have := ceB_ok (pos := p) ihE ihT h
      exact ⟨this.1, fun _ => this.2.pt⟩
    | IfExp t a b p =>
      simp only [ce] at h
      split at h
      · rename_i x y z h1 h2 h3 h4
        cases h
        exact ⟨sE_ite (ihT _ _ h2 h1) (ihE _ _ h3) (ihE _ _ h4), fun z => nomatch z⟩
      · cases h
    | Compare a ops bs p =>
      simp only [ce] at h
      split at h
      · obtain ⟨y, hy, rfl⟩ := map_some h
        exact ⟨sE_isN (ihE _ _ hy), fun _ => sT_isN (ihE _ _ hy)⟩
      · obtain ⟨y, hy, rfl⟩ := map_some h
        exact ⟨sE_noN (ihE _ _ hy), fun _ => sT_noN (ihE _ _ hy)⟩
      · split at h
        · rename_i o x y h1 h2 h3
          split at h
          · rename_i h4
            cases h
            exact ⟨sE_cmp (fun σ => cmp_ok g h1) (ihE _ _ h2) (ihE _ _ h3) h4, fun _ => sT_cmp (fun σ => cmp_ok g h1) (ihE _ _ h2) (ihE _ _ h3) h4⟩
          · cases h
        · cases h
      · split at h
        · rename_i o q x y z h1 h2 h3 h4 h5
          split at h
          · rename_i h6
            cases h
            exact ⟨sE_chn (opC_ok g h1) (opC_ok g h2) (ihE _ _ h3) (ihE _ _ h4) (ihE _ _ h5) (lastMarks2 h6), fun _ => sT_chn (opC_ok g h1) (opC_ok g h2) (ihE _ _ h3) (ihE _ _ h4) (ihE _ _ h5) (lastMarks2 h6)⟩
          · cases h
        · cases h
      · cases h
    | Subscript a i p =>
      simp only [ce] at h
      split at h
      · split at h
        · rename_i h1 h2 h3
          cases h
          have po : ∀ {o : Option Expr} {b : XB}, ceO (ce G N n sc) o = some b → PO X o (tB X F W b) := fun {o b} ho => by
            cases o with
            | none => cases ho; exact sO_none
            | some e =>
              obtain ⟨y, hy, rfl⟩ := map_some (show ((ce G N n sc) e).map XB.so = some b from ho)
              exact sO_some (ihE _ _ hy)
          exact .val (sE_slc (ihE _ _ h1) (po h2) (po h3)) fun _ => rfl
        · cases h
      · rename_i hs
        split at h
        · rename_i x y h1 h2
          cases h
          exact .val (sE_idx (ihE _ _ h1) (ihE _ _ h2) (plainIx_of fun lo hi q z => hs lo hi none q z)) fun _ => rfl
        · cases h
    | Attribute o f p =>
      simp only [ce] at h
      split at h
      · rename_i tb x h1 h2 h3
        cases h
        exact .val (sE_att (fun c t hc => g.att _ _ c t h2 hc) g.room (ihE _ _ h3) (call0_ok h1)) fun _ => rfl
      · cases h
    | Call f as ks p =>
      simp only [ce] at h
      split at h
      · rename_i o m ap
        split at h
        · rename_i e
          split at h
          · rename_i b x y h1 h2 h3 h4 h5 h6
            cases h
            exact .val (sE_mth (bm_ok g h1) (ihE _ _ h5) (sA_cons (ihE _ _ h6) sA_nil (star_cons h4)) (star_cons h4) (call0_ok h2) h3) fun _ => rfl
          · cases h
        · cases h
      · rename_i y q
        split at h
        · cases h
        · rename_i h1
          simp only [Bool.and_eq_true] at h1
          obtain ⟨d1, d2, d3⟩ := okName_of h1.1
          have gl := glob_of g h1.2
          split at h
          · rename_i hy
            have e := eq_of_beq hy
            subst e
            split at h
            · rename_i e c hb
              split at h
              · rename_i y z pz h2 h3
                obtain ⟨kd, hk, rfl⟩ := map_some h
                have := kd_ok g hk pz
                exact .val (sE_isi1 g.cls this.1 gl (g.blts _ hb) (ihE _ _ h3) this.2 (star_cons h2) rfl) fun _ => rfl
              · rename_i y cs kt pt h2 h3
                split at h
                · rename_i kds hk
                  obtain ⟨hl, rfl⟩ := ite_some h
                  have := kds_ok g hk
                  exact .val (sE_isiT g.cls this.1 hl gl (g.blts _ hb) (ihE _ _ h3) this.2 (star_cons h2)) fun _ => rfl
                · cases h
              · cases h
            · cases h
          · split at h
            · exact .val (ceR_ok g ihE h) fun _ => rfl
            · rename_i xs hxs
              have hpa := ceL_ok ihE hxs
              have hst : ∀ {e es}, as = e :: es → notStar e = true ∧ ∃ ys, ceL (ce G N n sc) es = some ys := fun {e es} z => by
                rw [z] at hxs
                unfold ceL at hxs
                split at hxs
                · exact ⟨by assumption, _, by assumption⟩
                · cases hxs
              split at h
              · split at h
                · rename_i j dfl hj
                  cases h
                  refine .val ?_ fun _ => rfl
                  have kn := g.defs _ _ _ _ hj
                  cases as with
                  | nil =>
                    cases hxs
                    exact sE_call0 kn (g.room.mono (by omega)) gl hx d1
                  | cons e es =>
                    obtain ⟨h2, ys, hys⟩ := hst rfl
                    exact sE_call kn (g.room.mono (by omega)) gl hx hpa d1 (star_cons h2) (noStars hys)
                · split at h
                  · cases h
                  · rename_i hne
                    cases as with
                    | nil => exact absurd rfl hne
                    | cons e es =>
                      obtain ⟨h2, ys, hys⟩ := hst rfl
                      split at h
                      · rename_i c j dfl hj
                        cases h
                        exact .val (sE_make (g.mak _ _ _ _ _ hj) g.room gl hx hpa d1 (star_cons h2) (noStars hys)) fun _ => rfl
                      · split at h
                        · rename_i b h3 h4
                          cases h
                          exact .val (sE_bi (f := .none) (fun ha => bi_ok g h4 gl (g.blts _ h3) d3 d1 (star_cons h2) (noStars hys) ha) hpa) fun _ => rfl
                        · cases h
              · split at h
                · cases h
                · rename_i hne
                  cases as with
                  | nil => exact absurd rfl hne
                  | cons e es =>
                    obtain ⟨h2, ys, hys⟩ := hst rfl
                    split at h
                    · rename_i ns zs h3 h4
                      split at h
                      · rename_i c j hj
                        cases h
                        have hk := ceK_ok ihE h4
                        have hl := kw_ok (env := X.env) (pos := p) h3
                        exact .val (sE_makeK (g.mkk _ _ _ _ _ hj) (ceL_len hxs) (by rw [hk.2, hl.2.2.2]) g.room gl hx hpa hk.1 h3 d1 (star_cons h2) (noStars hxs)) fun _ => rfl
                      · cases h
                    · cases h
      · cases h
    | ListComp elt gs scope p =>
      obtain ⟨tg, iter, ifs, t, it, c, e, rfl, rfl, L⟩ := lc_ok g ihE (fun e x h s H C cl fp => ce_ok n _ e x h _ W0 (g.blk s H scope C cl fp) psv_none) h
      exact .val (sE_lcm g.calm hN L) fun _ => rfl
    | _ => simp only [ce] at h; cases h
end
end Lk
end
section
/-! E13: statements of the text. -/
set_option Elab.async false
set_option linter.all false
set_option maxRecDepth 100000
set_option maxHeartbeats 4000000
namespace Lk
open PySem PySem.Spec PyProof.Rows L2 SlX
def isStar : Expr → Bool
  | .Starred .. => true
  | _ => false
def isComp : Expr → Bool
  | .ListComp _ _ _ _ => true
  | .SetComp _ _ _ _ => true
  | .DictComp _ _ _ _ _ => true
  | _ => false
def isTupE : Expr → Bool
  | .Tuple _ _ _ => true
  | _ => false
def nmF (sc : Scope) (l : Nat) : Expr → Option Str
  | .Name id pos => if sc.names.lookup id == some .local && pos.line == l then some id else none
  | _ => none
/-- which names are stored from the right, if any -/
def swapR (sc : Scope) (ts vs : List Expr) : Option (Option (List Str)) :=
  if !(ts.length == 2 || ts.length == 3) || vs.length != ts.length then some none
  else if vs.any isStar then some none
  else
    let names := ts.filterMap (nmF sc ((ts.head?.map (·.pos.line)).getD 0))
    if names.length != ts.length || names.eraseDups.length != names.length then some none
    else if vs.all (foldedForSure 8) then some none
    else if vs.all (constantsAlone 8) then none
    else some (some names)
theorem swapR_ok {env : PySem.Env} {sc : Scope} {ts vs : List Expr} {k k2 : Nat} {p p2 : Pos} {r : Option (List Str)} (hk : env.blockKind = .function) (hs : env.scope = sc) (h : swapR sc ts vs = some r) : swappedStores [.Tuple ts k p] (.Tuple vs k2 p2) env = pure r := by
  subst hs
  unfold swapR at h
  unfold swappedStores
  simp only [hk]
  have e2 : (ScopeKind.function != ScopeKind.function) = false := by decide
  simp only [e2, Bool.or_false]
  simp only at h
  by_cases c1 : (!(ts.length == 2 || ts.length == 3) || vs.length != ts.length) = true
  · rw [if_pos c1] at h ⊢; cases h; rfl
  · rw [if_neg c1] at h ⊢
    rw [show (vs.any _) = vs.any isStar from congrArg (fun f => vs.any f) (funext fun x => by cases x <;> rfl)]
    by_cases c2 : vs.any isStar = true
    · rw [if_pos c2] at h ⊢; cases h; rfl
    · rw [if_neg c2] at h ⊢
      rw [show (List.filterMap _ ts) = List.filterMap (nmF env.scope ((ts.head?.map (·.pos.line)).getD 0)) ts from congrArg (fun f => List.filterMap f ts) (funext fun x => by cases x <;> rfl)]
      generalize hn : (List.filterMap (nmF env.scope ((ts.head?.map (·.pos.line)).getD 0)) ts) = names at h ⊢
      by_cases c3 : (names.length != ts.length || names.eraseDups.length != names.length) = true
      · rw [if_pos c3] at h ⊢; cases h; rfl
      · rw [if_neg c3] at h ⊢
        by_cases c4 : vs.all (foldedForSure 8) = true
        · rw [if_pos c4] at h ⊢; cases h; rfl
        · rw [if_neg c4] at h ⊢
          by_cases c5 : vs.all (constantsAlone 8) = true
          · rw [if_pos c5] at h; cases h
          · rw [if_neg c5] at h ⊢; cases h; rfl
/-- three names stored from the right -/
theorem sS_par3 {X : Cx} {F : Fx} {W : WX} {x y z : Str} {i j l : Nat} {a b c : Expr} {xs : XEs} {px py pz pt pos : Pos} {kt k2 pt2} (hc : X.calm = true) (hN : X.N.Nodup) (hi : X.N[i]? = some x) (hj : X.N[j]? = some y) (hk : X.N[l]? = some z) (hij : i ≠ j) (hil : i ≠ l) (hjl : j ≠ l)
    (hx : X.env.scope.names.lookup x = some .local) (hy : X.env.scope.names.lookup y = some .local) (hz : X.env.scope.names.lookup z = some .local) (ha : PA X [a, b, c] (tAs X F W xs))
    (hw : swappedStores [.Tuple [.Name x px, .Name y py, .Name z pz] kt pt] (.Tuple [a, b, c] k2 pt2) X.env = pure (some [x, y, z])) (hs : swapsWithSole [.Tuple [.Name x px, .Name y py, .Name z pz] kt pt] (.Tuple [a, b, c] k2 pt2) pos.line X.env = pure false) :
    SS X F W (.Assign [.Tuple [.Name x px, .Name y py, .Name z pz] kt pt] (.Tuple [a, b, c] k2 pt2) pos) (.set (.tp (.cons (.nm i) (.cons (.nm j) (.cons (.nm l) .nil)))) (.tup xs)) := by
  refine PSl (ps_par3 hc hN hi hj hk hij hil hjl hx hy hz ha hw hs) fun D σ H hl h => ?_
  obtain ⟨ρ, s, S, m, e, r⟩ := h
  refine ⟨ρ, s, S, m, e, ?_⟩
  have r : RunS X.K F.T F.Y F.Z W ρ H (M.at s (M.bind (evs F.cal xs s) fun ds => M.pure (.tup ds)) (fun d => M.bind (M.opt (setTg (.tp (.cons (.nm i) (.cons (.nm j) (.cons (.nm l) .nil)))) d s)) fun σ2 => M.pure (.nx σ2)) S) D := r
  unfold M.at M.bind at r
  unfold Run
  cases z : evs F.cal xs s S with
  | bad => rw [z] at r; exact r
  | exc c p S1 =>
    rw [z] at r
    exact fun ρ1 H1 cls d e1 m1 w => r ρ1 H1 σ cls d e1 m1 (e.mono m e1) w
  | ok ds S1 =>
    rw [z] at r
    intro ρ1 H1 vs e1 m1 rs
    match ds, rs, r with
    | [d1, d2, d3], .cons r1 (.cons r2 (.cons r3 .nil)), r =>
      exact ⟨_, _, _, rfl, r ρ1 H1 _ e1 m1 ((((e.mono m e1).set i (by rw [hl]; exact ix_lt hi) r1).set j (by rw [List.length_set, hl]; exact ix_lt hj) r2).set l (by rw [List.length_set, List.length_set, hl]; exact ix_lt hk) r3)⟩
    | [], _, r => exact r.elim
    | [_], _, r => exact r.elim
    | [_, _], _, r => exact r.elim
    | _ :: _ :: _ :: _ :: _, _, r => exact r.elim
/-- an item of a tuple that is bound to a name; m: its list is changed later -/
def ceQ (f : Expr → Option XE) (m : Bool) : Expr → Option XE
  | .List es p => match m with
    | true => match ceL f es with
      | some xs => if xs.len ≤ 1000000 then some (.mat (.lst xs)) else none
      | none => none
    | false => f (.List es p)
  | e => f e
def ceLm (f : Expr → Option XE) : List Bool → List Expr → Option XEs
  | _, [] => some .nil
  | ms, e :: es => match notStar e, ceQ f (ms.headD false) e, ceLm f ms.tail es with
    | true, some x, some xs => some (.cons x xs)
    | _, _, _ => none
def muF (N : List Str) (mu : List Nat) : Expr → Bool
  | .Name x _ => match slotIx N x with
    | some i => mu.contains i
    | none => false
  | _ => false
section
variable {G : Gt} {N : List Str} {k : Nat} {F : Fx} {X : Cx} {W : WX} {sc : Scope}
theorem ceQ_ok {f : Expr → Option XE} (hf : ∀ e x, f e = some x → PE X e (tE X F W x)) {m : Bool} {e : Expr} {x : XE} (h : ceQ f m e = some x) : PE X e (tE X F W x) := by
  unfold ceQ at h
  split at h
  · split at h
    · split at h
      · rename_i xs hxs
        obtain ⟨hl, rfl⟩ := ite_some h
        exact sE_mlst (ceL_ok hf hxs) hl
      · cases h
    · exact hf _ _ h
  · exact hf _ _ h
theorem ceLm_ok {f : Expr → Option XE} (hf : ∀ e x, f e = some x → PE X e (tE X F W x)) : ∀ {ms : List Bool} {es : List Expr} {xs : XEs}, ceLm f ms es = some xs → PA X es (tAs X F W xs)
  | _, [], _, h => by cases h; exact sA_nil
  | ms, e :: es, xs, h => by
    unfold ceLm at h
    split at h
    · rename_i h1 h2 h3
      cases h
      exact sA_cons (ceQ_ok hf h2) (ceLm_ok hf h3) (star_cons h1)
    · cases h
end
section
variable (G : Gt) (N : List Str)
/-- the items of a tuple that is unpacked at once -/
def ceT (n : Nat) (sc : Scope) (mu : List Nat) (us vs : List Expr) : Option XEs := match ceLm (ce G N n sc) (us.map (muF N mu)) vs with
  | some xs => if xs.len ≤ 1000000 then some xs else none
  | none => none
/-- a value that is bound to a name; m: its list is changed later -/
def cv (n : Nat) (sc : Scope) (m : Bool) (e : Expr) : Option XE := match m with
  | false => ce G N n sc e
  | true => match e with
    | .List es _ => match ceL (ce G N n sc) es with
      | some xs => if xs.len ≤ 1000000 then some (.mat (.lst xs)) else none
      | none => none
    | .ListComp _ _ _ _ => (ce G N n sc e).map .mat
    | e => ce G N n sc e
/-- the comprehension's list is stored within its frame -/
def swapL (sc : Scope) (y : Str) (py : Pos) (e : Expr) : Bool := match e with
  | .ListComp _ _ s _ => sc.names.lookup y == some .local && py.line == e.pos.line && !(s.names.any fun (n, k) => n == y && (k == .local || k == .cell))
  | _ => false
/-- what a suite behind except may say -/
def ceu (sc : Scope) : Expr → Option XE
  | .Constant c _ _ => match c with
    | .int i => some (.con (.int i))
    | .bool b => some (.con (.bl b))
    | .none => some (.con .non)
    | .str x => some (.con (.str x.cps.toList))
    | _ => none
  | .Name x _ => match okName x, isVis sc x with
    | true, true => (slotIx N x).map .var
    | _, _ => none
  | _ => none
def csu (sc : Scope) : Nat → List Stmt → Option XSs
  | 0, _ => none
  | n + 1, ss => match ss with
    | [] => some .nil
    | st :: r => match csu sc n r with
      | none => none
      | some xs => match st with
        | .Pass _ => some (.cons .pass xs)
        | .Continue _ => some (.cons .cnt xs)
        | .Break _ => some (.cons .brk xs)
        | .Return (some e) _ => (ceu N sc e).map fun x => .cons (.ret x) xs
        | .If (.Name x p) a b _ => match ceu N sc (.Name x p), csu sc n a, csu sc n b with
          | some t, some y, some z => some (.cons (.ite t y z) xs)
          | _, _, _ => none
        | .Assign [.Name y _] e _ => match slotIx N y, isLoc sc y, isComp e, ceu N sc e with
          | some i, true, false, some x => some (.cons (.set (.nm i) x) xs)
          | _, _, _, _ => none
        | _ => none
def css (f : Stmt → Option XS) : List Stmt → Option XSs
  | [] => some .nil
  | s :: r => match f s, css f r with
    | some x, some xs => some (.cons x xs)
    | _, _ => none
def cs (mu : List Nat) (sc : Scope) : Nat → Stmt → Option XS
  | 0, _ => none
  | n + 1, st => match st with
    | .Pass _ => some .pass
    | .Break _ => some .brk
    | .Continue _ => some .cnt
    | .Expr e _ => match isComp e with
      | true => none
      | false => (ce G N n sc e).map .expr
    | .Return v _ => match v with
      | none => some (.ret (.con .non))
      | some e => (ce G N n sc e).map .ret
    | .If c a b _ => match okT c, ce G N n sc c, css (cs mu sc n) a, css (cs mu sc n) b with
      | true, some x, some y, some z => some (.ite x y z)
      | _, _, _, _ => none
    | .While c b o _ => match o, okT c, ce G N n sc c, css (cs mu sc n) b with
      | [], true, some x, some y => some (.whl x y)
      | _, _, _, _ => none
    | .For tg it b o _ => match o, cT N sc 8 tg, ceI G (ce G N n sc) sc tg it, css (cs mu sc n) b with
      | [], some t, some x, some y => some (.for t x y)
      | _, _, _, _ => none
    | .AugAssign tg op e _ => match tg with
      | .Name x _ => match slotIx N x, isLoc sc x, ce G N n sc e with
        | some i, true, some y => match op with
          | .Add => some (.aug i .add y)
          | .Sub => some (.aug i .sub y)
          | _ => none
        | _, _, _ => none
      | _ => none
    | .Try b hs o fi _ => match hs, o, fi with
      | [.ExceptHandler (some (.Name x _)) nm su _], [], [] => match okName x && isGlob sc x, css (cs mu sc n) b with
        | true, some xb => match nm with
          | none => match su, G.hans.lookup x, csu N sc 12 su with
            | _ :: _, some (yes, no), some xs => some (.tryy xb (.cons yes no xs .nil))
            | _, _, _ => none
          | some y => match su with
            | [.Return (some (.Attribute (.Name z _) f _)) _] => match y == z && okName y && sc.names.lookup y == some .local, slotIx N y, G.flds.lookup (x, f) with
              | true, some i, some (c, no) => some (.tryy xb (.fld c i no .nil))
              | _, _, _ => none
            | _ => none
        | _, _ => none
      | _, _, _ => none
    | .Raise e fr _ => match e, fr with
      | some (.Call (.Name x _) [.Constant (.str _) _ _] [] _), none => match okName x && isGlob sc x, G.errs.lookup x with
        | true, some c => some (.raise c .nil)
        | _, _ => none
      | some (.Call (.Name x _) [e] [] _), none => match okName x && isGlob sc x && notStar e, G.erri.lookup x, ce G N n sc e with
        | true, some c, some y => some (.raise c (.cons y .nil))
        | _, _, _ => none
      | _, _ => none
    | .Assign ts e _ => match ts with
      | [tg] => match tg with
        | .Name y py => match slotIx N y, isLoc sc y with
          | some i, true => match isComp e with
            | false => (cv G N n sc (mu.contains i) e).map (.set (.nm i))
            | true => match e with
              | .ListComp _ _ _ _ => (cv G N n sc (mu.contains i) e).map (.set (.nm i))
              | _ => none
          | _, _ => none
        | .Subscript a b _ => match isComp e, b with
          | true, _ => none
          | false, .Slice _ _ _ _ => none
          | false, b => match ce G N n sc a, ce G N n sc b, ce G N n sc e with
            | some x, some y, some z => some (.setIx x y z)
            | _, _, _ => none
        | .Tuple us _ _ => match cT N sc 8 tg with
          | none => none
          | some t => match e with
            | .Tuple vs _ _ => match swapR sc us vs with
              | none => none
              | some none => (ceT G N n sc mu us vs).map fun xs => .set t (.tup xs)
              | some (some _) => match us, vs with
                | [.Name x _, .Name y _], [_, _] => match slotIx N x, slotIx N y, ceT G N n sc mu us vs with
                  | some i, some j, some xs => match i != j && sc.names.lookup x == some .local && sc.names.lookup y == some .local with
                    | true => some (.set (.tp (.cons (.nm i) (.cons (.nm j) .nil))) (.tup xs))
                    | false => none
                  | _, _, _ => none
                | [.Name x _, .Name y _, .Name z _], [_, _, _] => match slotIx N x, slotIx N y, slotIx N z, ceT G N n sc mu us vs with
                  | some i, some j, some l, some xs => match i != j && i != l && j != l && sc.names.lookup x == some .local && sc.names.lookup y == some .local && sc.names.lookup z == some .local with
                    | true => some (.set (.tp (.cons (.nm i) (.cons (.nm j) (.cons (.nm l) .nil)))) (.tup xs))
                    | false => none
                  | _, _, _, _ => none
                | _, _ => none
            | e => match isComp e with
              | true => none
              | false => (ce G N n sc e).map (.set t)
        | _ => none
      | _ => none
    | _ => none
end
end Lk
end
section
/-! E14: what cs gives is the model's. -/
set_option Elab.async false
set_option linter.all false
set_option maxRecDepth 100000
set_option maxHeartbeats 4000000
namespace Lk
open PySem PySem.Spec PyProof.Rows L2 SlX
structure GoodS (G : Gt) (N : List Str) (k : Nat) (F : Fx) (X : Cx) (W : WX) (sc : Scope) : Prop where
  g : Good G N k F X sc
  bk : X.env.blockKind = .function
  fn : ∀ y, X.fn y = true
  pas : PassesOwn (model X.prog X.w) X.A X.env X.xe
  tk : Takes X W
  err : ∀ x c, G.errs.lookup x = some c → ErrF X F x c
  eri : ∀ x c, G.erri.lookup x = some c → ErrI X F x c
  stk : X.stack = X.env :: X.outer
  frm : X.env.frame = some X.env.locals
  han : ∀ x yes no, G.hans.lookup x = some (yes, no) → ∃ C, X.mg x = some C ∧ (∀ c, yes.contains c = true → PySem.W.exmOne X.K (.ref (F.Z.adr c)) C = some true) ∧ ∀ c, no.contains c = true → PySem.W.exmOne X.K (.ref (F.Z.adr c)) C = some false
  fld : ∀ x f c no, G.flds.lookup (x, f) = some (c, no) → X.mg x = some (.ref (F.Z.adr c)) ∧ PySem.W.exmOne X.K (.ref (F.Z.adr c)) (.ref (F.Z.adr c)) = some true ∧ (∀ e, no.contains e = true → PySem.W.exmOne X.K (.ref (F.Z.adr e)) (.ref (F.Z.adr c)) = some false) ∧ XfC X.K (F.Z.adr c) ∧ PySem.W.findIn X.K (.ref (F.Z.adr c)) f = some none ∧ F.Z.fld c = some f
theorem GoodS.psv {G : Gt} {N : List Str} {k : Nat} {F : Fx} {X : Cx} {W : WX} {sc : Scope} (gs : GoodS G N k F X W sc) : Psv X W := psv_of gs.tk
/-- within a try -/
theorem Good.tr {G : Gt} {N : List Str} {k : Nat} {F : Fx} {X : Cx} {sc : Scope} (g : Good G N k F X sc) (pn : List (Addr × Obj)) (xe : Value → Shared → Prop) : Good G N k F (X.tr pn xe) sc where
  hN := g.hN
  nd := g.nd
  hs := g.hs
  calm := g.calm
  room := g.room
  k1 := g.k1
  eqs := fun c f h => let e := g.eqs c f h; ⟨e.ex, e.ne, e.ob, e.t1, e.t2⟩
  sf := g.sf
  cls := g.cls
  clg := g.clg
  att := fun f tb c t h1 h2 => by
    have := g.att f tb c t h1 h2
    cases t with
    | slot i => exact this
    | prop j => exact this
  mak := fun x n c j dfl h => ⟨(g.mak x n c j dfl h).ex⟩
  mkk := fun x n ks c j h => ⟨(g.mkk x n ks c j h).ex⟩
  defs := fun x n j dfl h => ⟨(g.defs x n j dfl h).ex⟩
  cons := g.cons
  blts := g.blts
theorem GoodS.tr {G : Gt} {N : List Str} {k : Nat} {F : Fx} {X : Cx} {W W' : WX} {sc : Scope} (gs : GoodS G N k F X W sc) {pn : List (Addr × Obj)} {xe : Value → Shared → Prop} (tk : Takes (X.tr pn xe) W') (hp : PassesOwn (model X.prog X.w) X.A X.env xe) : GoodS G N k F (X.tr pn xe) W' sc where
  g := gs.g.tr pn xe
  bk := gs.bk
  fn := gs.fn
  pas := hp
  tk := tk
  err := fun x c h => let e := gs.err x c h; ⟨e.ex, e.gl, e.kp, e.rs, e.nf⟩
  eri := fun x c h => let e := gs.eri x c h; ⟨e.ex, e.gl⟩
  stk := gs.stk
  frm := gs.frm
  han := gs.han
  fld := gs.fld
theorem no_sw {e : Expr} {t : Option Expr} {l : Nat} {env : PySem.Env} (h : isComp e = false) : swapsWith e t l env = pure false := by
  cases e <;> first | rfl | cases h
theorem no_sw2 {e tg : Expr} {l : Nat} {env : PySem.Env} (h : ∀ y p, tg ≠ .Name y p) : swapsWith e (some tg) l env = pure false := by
  cases e <;> first | rfl | (cases tg <;> first | rfl | exact absurd rfl (h _ _))
theorem no_sw1 {e tg : Expr} {l : Nat} {env : PySem.Env} (h : isComp e = false) : swapsWithSole [tg] e l env = pure false := no_sw h
theorem swapR_all {sc : Scope} {ts vs : List Expr} {ns : List Str} (h : swapR sc ts vs = some (some ns)) : ns = ts.filterMap (nmF sc ((ts.head?.map (·.pos.line)).getD 0)) ∧ ns.length = ts.length := by
  unfold swapR at h
  simp only at h
  split at h
  · cases h
  · split at h
    · cases h
    · split at h
      · cases h
      · rename_i c3
        split at h
        · cases h
        · split at h
          · cases h
          · cases h
            refine ⟨rfl, ?_⟩
            simp only [Bool.or_eq_true, not_or, bne_iff_ne, ne_eq, Decidable.not_not] at c3
            exact c3.1
theorem nmF_len {sc : Scope} {l : Nat} : ∀ {ts : List Expr}, (ts.filterMap (nmF sc l)).length ≤ ts.length := by
  intro ts
  exact List.length_filterMap_le _ _
theorem nmF_two {sc : Scope} {l : Nat} {x : Str} {p : Pos} {ts : List Expr} {ns : List Str} (h : ns = (.Name x p :: ts).filterMap (nmF sc l)) (hl : ns.length = ts.length + 1) : ∃ ms, ns = x :: ms ∧ ms = ts.filterMap (nmF sc l) ∧ ms.length = ts.length := by
  rw [List.filterMap_cons] at h
  have := nmF_len (sc := sc) (l := l) (ts := ts)
  split at h
  · rw [h] at hl; omega
  · rename_i b hb
    have e : b = x := by
      simp only [nmF] at hb
      split at hb
      · exact (Option.some.inj hb).symm
      · cases hb
    subst e
    exact ⟨_, h, rfl, by rw [h] at hl; simpa using hl⟩
theorem asg_sub {a b : Expr} {pos' : Pos} {env : PySem.Env} (hs : ∀ lo hi st p, b = .Slice lo hi st p → False) (v : Value) : assign (.Subscript a b pos') env v = (do
      let ov ← holding [v] (eval a env)
      let iv ← holding [v, ov] (eval b env)
      standAt pos'
      holding [v, ov, iv] (setItem ov iv v)
      release [v, ov, iv] []) := by
  cases b <;> first | rfl | exact (hs _ _ _ _ rfl).elim
theorem no_st {e : Expr} {y : Str} {py : Pos} {env : PySem.Env} : swappedStores [.Name y py] e env = pure none := rfl
theorem lc_sw {elt : Expr} {gs : List Comprehension} {scope : Scope} {p py : Pos} {y : Str} {l : Nat} {env : PySem.Env} {sc : Scope} (hk : env.blockKind = .function) (hs : env.scope = sc) : swapsWith (.ListComp elt gs scope p) (some (.Name y py)) l env = pure (swapL sc y py (.ListComp elt gs scope p)) := by
  subst hs
  unfold swapsWith swapL
  simp only [hk]
  rfl
section
variable {G : Gt} {N : List Str} {k : Nat} {F : Fx} {X : Cx} {W : WX} {sc : Scope}
/-- a suite behind except: what it says stands wherever the names do -/
theorem ceu_ok {X' : Cx} (hN : X'.N = N) (hs : X'.env.scope = sc) {e : Expr} {x : XE} (h : ceu N sc e = some x) : PE X' e (tE X' F W x) := by
  unfold ceu at h
  split at h
  · split at h
    · cases h; exact sE_int
    · cases h; exact sE_bl
    · cases h; exact sE_non
    · cases h; exact sE_str
    · cases h
  · split at h
    · rename_i h1 h2
      obtain ⟨i, hi, rfl⟩ := map_some h
      obtain ⟨d1, d2, _⟩ := okName_of h1
      exact sE_var (by rw [hN]; exact slotIx_some hi) (by rw [hs]; exact vis_of h2) d1 d2
    · cases h
  · cases h
theorem csu_ok {X' : Cx} (hN : X'.N = N) (nd : N.Nodup) (hs : X'.env.scope = sc) (fn : ∀ y, X'.fn y = true) : ∀ (n : Nat) {ss : List Stmt} {xs : XSs}, csu N sc n ss = some xs → SSs X' F W ss xs
  | 0, _, _, h => by cases h
  | n + 1, ss, xs, h => by
    unfold csu at h
    split at h
    · cases h; exact sS_nil
    · rename_i st r
      split at h
      · cases h
      · rename_i ys hr
        have ih := csu_ok hN nd hs fn n hr
        split at h
        · cases h; exact sS_cons sS_pass ih
        · cases h; exact sS_cons sS_cnt ih
        · cases h; exact sS_cons sS_brk ih
        · obtain ⟨x, hx, rfl⟩ := map_some h
          exact sS_cons (sS_ret (ceu_ok hN hs hx)) ih
        · split at h
          · rename_i h1 h2 h3
            cases h
            exact sS_cons (sS_if (sT_val (ceu_ok hN hs h1) fun _ => rfl) (csu_ok hN nd hs fn n h2) (csu_ok hN nd hs fn n h3)) ih
          · cases h
        · split at h
          · rename_i h1 h2 h3 h4
            cases h
            exact sS_cons (sS_set (ceu_ok hN hs h4) (sG_name (by rw [hN]; exact nd) (by rw [hN]; exact slotIx_some h1) (by rw [hs]; exact loc_of h2) (.inl (fn _))) (no_sw1 h3) rfl rfl) ih
          · cases h
        · cases h
theorem css_ok {f : Stmt → Option XS} (hf : ∀ s x, f s = some x → SS X F W s x) : ∀ {ss : List Stmt} {xs : XSs}, css f ss = some xs → SSs X F W ss xs
  | [], _, h => by cases h; exact sS_nil
  | s :: r, xs, h => by
    unfold css at h
    split at h
    · rename_i h1 h2
      cases h
      exact sS_cons (hf _ _ h1) (css_ok hf h2)
    · cases h
theorem tup_inv {n : Nat} {es : List Expr} {j : Nat} {p : Pos} {xs : XEs} (h : ce G N n sc (.Tuple es j p) = some (.tup xs)) : ∃ n', ceL (ce G N n' sc) es = some xs := by
  cases n with
  | zero => cases h
  | succ n =>
    simp only [ce] at h
    split at h
    · rename_i ys hys
      obtain ⟨_, e⟩ := ite_some h
      cases e
      exact ⟨n, hys⟩
    · cases h
/-- name = e -/
theorem ceT_ok {n : Nat} {mu : List Nat} {us vs : List Expr} {xs : XEs} (ihE : ∀ e x, ce G N n sc e = some x → PE X e (tE X F W x)) (h : ceT G N n sc mu us vs = some xs) : PA X vs (tAs X F W xs) ∧ xs.len ≤ 1000000 := by
  unfold ceT at h
  split at h
  · rename_i ys hy
    obtain ⟨hl, rfl⟩ := ite_some h
    exact ⟨ceLm_ok ihE hy, hl⟩
  · cases h
theorem cv_ok (gs : GoodS G N k F X W sc) {n i : Nat} {y : Str} {py pos : Pos} {m : Bool} {e : Expr} {x : XE} (hi : slotIx N y = some i) (hl : isLoc sc y = true) (hcmp : isComp e = true → ∃ a b c d, e = .ListComp a b c d) (h : cv G N n sc m e = some x) : SS X F W (.Assign [.Name y py] e pos) (.set (.nm i) x) := by
  have g := gs.g
  have hN : X.N.Nodup := by rw [g.hN]; exact g.nd
  have hy : X.N[i]? = some y := by rw [g.hN]; exact slotIx_some hi
  have hL : L2.Loc X.env.scope y := by rw [g.hs]; exact loc_of hl
  have pg : PG X (.Name y py) (gE X F (.nm i)) := sG_name hN hy hL (.inl (gs.fn y))
  have ihE : ∀ n e x, ce G N n sc e = some x → PE X e (tE X F W x) := fun n e x h => (ce_ok n sc e x h X W g gs.psv).1
  have plain : ∀ {x : XE}, isComp e = false → PE X e (tE X F W x) → SS X F W (.Assign [.Name y py] e pos) (.set (.nm i) x) := fun hc he => sS_set he pg (no_sw1 hc) rfl rfl
  have comp : ∀ {a b c d} {z : XE}, e = .ListComp a b c d → ce G N n sc e = some z → SS X F W (.Assign [.Name y py] e pos) (.set (.nm i) z) ∧ SS X F W (.Assign [.Name y py] e pos) (.set (.nm i) (.mat z)) := fun {a b c d z} he hz => by
    subst he
    cases n with
    | zero => cases hz
    | succ n =>
      obtain ⟨tg, iter, ifs, t, it, c', e', rfl, rfl, L⟩ := lc_ok g (ihE n) (fun e x h s H C cl fp => ce_ok n _ e x h _ W0 (g.blk s H c C cl fp) psv_none) hz
      have hsw := fun l => lc_sw (elt := a) (gs := [⟨tg, iter, ifs, 0⟩]) (scope := c) (p := d) (py := py) (y := y) (l := l) gs.bk g.hs
      cases hb : swapL sc y py (.ListComp a [⟨tg, iter, ifs, 0⟩] c d) with
      | false =>
        rw [hb] at hsw
        exact ⟨sS_set (sE_lcm g.calm hN L) pg (hsw pos.line) rfl rfl, sS_set (sE_mlcm g.calm hN L) pg (hsw pos.line) rfl rfl⟩
      | true =>
        rw [hb] at hsw
        have hyl : X.env.scope.names.lookup y = some .local := by
          rw [g.hs]
          unfold swapL at hb
          simp only [Bool.and_eq_true] at hb
          exact eq_of_beq hb.1.1
        exact ⟨sS_setLc g.calm hN L hy hyl (hsw _), sS_setMLc g.calm hN L hy hyl (hsw _)⟩
  have both : ∀ {z : XE}, ce G N n sc e = some z → SS X F W (.Assign [.Name y py] e pos) (.set (.nm i) z) := fun {z} hz => by
    cases hc : isComp e with
    | false => exact plain hc (ihE _ _ _ hz)
    | true =>
      obtain ⟨a, b, c, d, rfl⟩ := hcmp hc
      exact (comp rfl hz).1
  unfold cv at h
  cases m with
  | false => exact both h
  | true =>
    simp only at h
    split at h
    · split at h
      · rename_i xs hxs
        obtain ⟨hl, rfl⟩ := ite_some h
        exact plain rfl (sE_mlst (ceL_ok (ihE n) hxs) hl)
      · cases h
    · obtain ⟨z, hz, rfl⟩ := map_some h
      exact (comp rfl hz).2
    · exact both h
theorem cs_ok : ∀ {X : Cx} {W : WX} (gs : GoodS G N k F X W sc) (mu : List Nat) (n : Nat) (st : Stmt) (x : XS), cs G N mu sc n st = some x → SS X F W st x
  | _, _, _, _, 0, _, _, h => by cases h
  | X, W, gs, mu, n + 1, st, x, h => by
    have g := gs.g
    have hN : X.N.Nodup := by rw [g.hN]; exact g.nd
    have ihE : ∀ e x, ce G N n sc e = some x → PE X e (tE X F W x) := fun e x h => (ce_ok n sc e x h X W g gs.psv).1
    have ihT : ∀ e x, ce G N n sc e = some x → okT e = true → PT X e (tT X F W x) := fun e x h => (ce_ok n sc e x h X W g gs.psv).2
    have ihS : ∀ {ss xs}, css (cs G N mu sc n) ss = some xs → SSs X F W ss xs := fun h => css_ok (cs_ok gs mu n) h
    have hG : ∀ {tg t}, cT N sc 8 tg = some t → PG X tg (gE X F t) := fun h => cT_ok g.hN g.nd g.calm (fun y hy => ⟨by rw [g.hs]; exact loc_of hy, .inl (gs.fn y)⟩) 8 h
    cases st with
    | Pass p => simp only [cs] at h; cases h; exact sS_pass
    | Break p => simp only [cs] at h; cases h; exact sS_brk
    | Continue p => simp only [cs] at h; cases h; exact sS_cnt
    | Expr e p =>
      simp only [cs] at h
      split at h
      · cases h
      · rename_i hc
        obtain ⟨y, hy, rfl⟩ := map_some h
        exact sS_expr (ihE _ _ hy) (no_sw hc)
    | Return v p =>
      simp only [cs] at h
      split at h
      · cases h; exact sS_retN
      · obtain ⟨y, hy, rfl⟩ := map_some h
        exact sS_ret (ihE _ _ hy)
    | If c a b p =>
      simp only [cs] at h
      split at h
      · rename_i h1 h2 h3 h4
        cases h
        exact sS_if (ihT _ _ h2 h1) (ihS h3) (ihS h4)
      · cases h
    | While c b o p =>
      simp only [cs] at h
      split at h
      · rename_i h1 h2 h3
        cases h
        exact sS_whl gs.pas (ihT _ _ h2 h1) (ihS h3)
      · cases h
    | For tg it b o p =>
      simp only [cs] at h
      split at h
      · rename_i h1 h2 h3
        cases h
        have hI := ceI_ok (tg := tg) g ihE h2
        exact sS_for gs.pas g.calm hI.1 (hG h1) (ihS h3) hI.2
      · cases h
    | AugAssign tg op e p =>
      simp only [cs] at h
      split at h
      · split at h
        · rename_i h1 h2 h3
          have hL := loc_of h2
          rw [← g.hs] at hL
          have hi := slotIx_some h1
          rw [← g.hN] at hi
          split at h
          · cases h
            exact sS_augAdd hN hi hL (ihE _ _ h3) (.inl (gs.fn _))
          · cases h
            exact sS_augSub hN hi hL (ihE _ _ h3) (.inl (gs.fn _))
          · cases h
        · cases h
      · cases h
    | Try b hs o fi p =>
      simp only [cs] at h
      split at h
      · rename_i x np nm su hp
        split at h
        · rename_i xb h1 h2
          simp only [Bool.and_eq_true] at h1
          obtain ⟨d1, d2, d3⟩ := okName_of h1.1
          have gl := glob_of g h1.2
          have hbody : ∀ (W' : WX) (pn : List (Addr × Obj)) (xe : Value → Shared → Prop), Takes (X.tr pn xe) W' → PassesOwn (model X.prog X.w) X.A X.env xe → SSs (X.tr pn xe) F W' b xb := fun W' pn xe tk hp => css_ok (cs_ok (gs.tr tk hp) mu n) h2
          split at h
          · split at h
            · rename_i b0 su yes no xs h3 h4
              cases h
              obtain ⟨C, hm, hy, hn⟩ := gs.han _ _ _ h3
              exact sS_try gs.stk gs.frm ⟨gl, d1, .inl hm⟩ gs.tk hy hn hbody fun a oe pn => csu_ok (X' := X.suite a ((a, oe) :: pn)) g.hN g.nd g.hs gs.fn 12 h4
            · cases h
          · split at h
            · split at h
              · rename_i i c no h3 h4 h5
                cases h
                simp only [Bool.and_eq_true] at h3
                have e := eq_of_beq h3.1.1
                subst e
                obtain ⟨e1, e2, _⟩ := okName_of h3.1.2
                obtain ⟨hm, hy, hn, xf, hno, hfl⟩ := gs.fld _ _ _ _ h5
                exact sS_tryF gs.stk gs.frm hN (by rw [g.hN]; exact slotIx_some h4) (by rw [g.hs]; exact eq_of_beq h3.2) ⟨gl, d1, .inl hm⟩ gs.tk hy hn xf hno hfl e1 e2 hbody
              · cases h
            · cases h
        · cases h
      · cases h
    | Raise e fr p =>
      simp only [cs] at h
      split at h
      · split at h
        · rename_i c h1 h2
          cases h
          simp only [Bool.and_eq_true] at h1
          obtain ⟨d1, _, _⟩ := okName_of h1.1
          exact sS_raise g.calm gs.tk (gs.err _ _ h2) (glob_of g h1.2) d1
        · cases h
      · split at h
        · rename_i c y h1 h2 h3
          cases h
          simp only [Bool.and_eq_true] at h1
          obtain ⟨d1, _, _⟩ := okName_of h1.1.1
          exact sS_raiseF (k := 0) g.calm gs.tk (gs.eri _ _ h2) (g.room.mono (by have := g.k1; omega)) (glob_of g h1.1.2) d1 (ihE _ _ h3) (star_cons h1.2)
        · cases h
      · cases h
    | Assign ts e p =>
      simp only [cs] at h
      split at h
      · split at h
        · rename_i y py
          split at h
          · rename_i i h1 h2
            split at h
            · rename_i hc
              obtain ⟨z, hz, rfl⟩ := map_some h
              exact cv_ok gs h1 h2 (fun q => by rw [hc] at q; cases q) hz
            · split at h
              · obtain ⟨z, hz, rfl⟩ := map_some h
                exact cv_ok gs h1 h2 (fun _ => ⟨_, _, _, _, rfl⟩) hz
              · cases h
          · cases h
        · rename_i a b py
          split at h
          · cases h
          · cases h
          · rename_i hc hs
            split at h
            · rename_i h1 h2 h3
              cases h
              exact sS_setIx (ihE _ _ h1) (ihE _ _ h2) (ihE _ _ h3) (asg_sub hs) (no_sw1 hc) (by cases e <;> rfl) rfl
            · cases h
        · rename_i us kt pt
          split at h
          · cases h
          · rename_i t ht
            split at h
            · rename_i vs k2 p2
              split at h
              · cases h
              · rename_i hw
                obtain ⟨z, hz, rfl⟩ := map_some h
                have ha := ceT_ok ihE hz
                exact sS_set (sE_tup ha.1 ha.2) (hG ht) (no_sw1 rfl) (swapR_ok gs.bk g.hs hw) rfl
              · rename_i ns hw
                have hw2 := swapR_ok (k := kt) (k2 := k2) (p := pt) (p2 := p2) gs.bk g.hs hw
                obtain ⟨hns, hnl⟩ := swapR_all hw
                split at h
                · split at h
                  · rename_i h1 h2 h3
                    split at h
                    · rename_i h4
                      cases h
                      simp only [Bool.and_eq_true] at h4
                      obtain ⟨ms, rfl, hns, hnl⟩ := nmF_two hns hnl
                      obtain ⟨ms, rfl, hns, hnl⟩ := nmF_two hns hnl
                      cases hns
                      have ha := ceT_ok ihE h3
                      exact sS_par g.calm hN (by rw [g.hN]; exact slotIx_some h1) (by rw [g.hN]; exact slotIx_some h2) (by simpa using h4.1.1) (by rw [g.hs]; exact eq_of_beq h4.1.2) (by rw [g.hs]; exact eq_of_beq h4.2) ha.1 hw2 (no_sw1 rfl)
                    · cases h
                  · cases h
                · split at h
                  · rename_i h1 h2 h2' h3
                    split at h
                    · rename_i h4
                      cases h
                      simp only [Bool.and_eq_true] at h4
                      obtain ⟨ms, rfl, hns, hnl⟩ := nmF_two hns hnl
                      obtain ⟨ms, rfl, hns, hnl⟩ := nmF_two hns hnl
                      obtain ⟨ms, rfl, hns, hnl⟩ := nmF_two hns hnl
                      cases hns
                      have ha := ceT_ok ihE h3
                      exact sS_par3 g.calm hN (by rw [g.hN]; exact slotIx_some h1) (by rw [g.hN]; exact slotIx_some h2) (by rw [g.hN]; exact slotIx_some h2') (by simpa using h4.1.1.1.1.1) (by simpa using h4.1.1.1.1.2) (by simpa using h4.1.1.1.2) (by rw [g.hs]; exact eq_of_beq h4.1.1.2) (by rw [g.hs]; exact eq_of_beq h4.1.2) (by rw [g.hs]; exact eq_of_beq h4.2) ha.1 hw2 (no_sw1 rfl)
                    · cases h
                  · cases h
                · cases h
            · rename_i hne
              split at h
              · cases h
              · rename_i hc
                obtain ⟨z, hz, rfl⟩ := map_some h
                exact sS_set (ihE _ _ hz) (hG ht) (no_sw1 hc) (by cases e <;> first | rfl | exact absurd rfl (hne _ _ _)) rfl
        · cases h
      · cases h
    | _ => simp only [cs] at h; cases h
end
end Lk
end
section
/-! G1: arguments come to parameters. -/
set_option Elab.async false
set_option linter.all false
set_option maxRecDepth 100000
set_option maxHeartbeats 2000000
namespace Lk
open PySem PySem.Spec PyProof.Rows L2 SlX
/-- positional arguments alone come to the parameters -/
def BindP (params : Arguments) (ps : List Str) : Prop := ∀ (x qual : Str) (body : List Stmt) (scope : Scope) (kV doc pm : Value) (an : Option Addr) (cdv ct : Value) (us : List Value), us.length = ps.length → bindArgs (PySem.W.fnOf x qual params body scope .none kV doc pm an cdv ct) ⟨us, []⟩ = pure (ps.zip us)
section
variable {K : PySem.W.Frag} {x qual : Str} {params : Arguments} {body : List Stmt} {scope : Scope} {kws : List (Str × V)} {f : Addr} {fd : FuncData}
theorem bindsS {ps : List Str} (U : FunD K x qual params body scope [] kws f fd) (h : BindP params ps) : Binds K fd ps [] := U.bindsN fun kV doc pm an cdv ct us hl => h _ _ _ _ kV doc pm an cdv ct us hl
theorem bindsSA {ps : List Str} (U : FunD K x qual params body scope [] kws f fd) (h : BindP params ps) (s : Shared) (us : List Value) (hl : us.length = ps.length) : BindsTo s fd ⟨us, []⟩ (ps.zip us) := U.bindsA (fun kV doc pm an cdv ct us hl => h _ _ _ _ kV doc pm an cdv ct us hl) s us hl
end
end Lk
end
section
/-! G2: a table of defs; all of them keep what the evaluator says. -/
set_option Elab.async false
set_option linter.all false
set_option maxRecDepth 100000
set_option maxHeartbeats 2000000
namespace Lk
open PySem PySem.Spec PyProof.Rows L2 SlX
/-- where a def stands -/
inductive Loc where
  | fn (x : Str) | meth (c m : Str) | prop (c f : Str)
deriving DecidableEq
def Loc.adr (K : PySem.W.Frag) : Loc → Addr
  | .fn x => He.ga K x
  | .meth c m => He.ma K (He.ga K c) m
  | .prop c f => match PySem.W.recIn K (He.ma K (He.ga K c) f) "property" with
    | some (.ref g :: _) => g
    | _ => 0
/-- a def of the text: where it stands, what it says, its defaults; its names by slot, its class if it is an __init__, the slots whose lists are changed -/
structure DX where
  at_ : Loc
  name : Str
  qual : Str
  params : Arguments
  body : List Stmt
  scope : Scope
  N : List Str
  dfl : List He.Dv := []
  kwd : List (Str × He.Dv) := []
  ini : Option Nat := none
  mu : List Nat := []
def DX.ps (x : DX) : List Str := x.params.args.map (·.arg) ++ x.params.kwonlyargs.map (·.arg)
def DX.dvs (K : PySem.W.Frag) (d : DX) : List V := d.dfl.map (He.Dv.v K)
def DX.kws (K : PySem.W.Frag) (d : DX) : List (Str × V) := d.kwd.map fun q => (q.1, q.2.v K)
/-- its scope is plain -/
def scOk (N ps : List Str) (sc : Scope) : Bool := (sc.kind == .function) && !sc.isCoroutine && !sc.isGenerator && decide N.Nodup && decide (N.take ps.length = ps) && (ps.all fun x => isLoc sc x) && sc.names.all fun y => y.2 != .free
theorem scOk_of {N ps : List Str} {sc : Scope} (h : scOk N ps sc = true) : FnScope N ps sc := by
  unfold scOk at h
  simp only [Bool.and_eq_true, Bool.not_eq_true', decide_eq_true_eq] at h
  obtain ⟨⟨⟨⟨⟨⟨h1, h2⟩, h3⟩, h4⟩, h5⟩, h6⟩, h7⟩ := h
  exact ⟨eq_of_beq h1, h2, h3, h4, h5, fun x hx => loc_of (List.all_eq_true.mp h6 x hx), fun y hy z => by
    have := List.all_eq_true.mp h7 y hy
    rw [z] at this
    exact absurd this (by decide)⟩
def isFin : Stmt → Bool
  | .Assign [.Attribute (.Name x _) _ _] _ _ => x == ("self" : Str)
  | _ => false
section
variable (G : Gt) (slots : Nat → List Str)
/-- self.f = e, .., the slots in order -/
def cFin (N : List Str) (sc : Scope) (c : Nat) : Nat → List Stmt → Option XEs
  | k, [] => if 0 < k then some .nil else none
  | k, s :: ss => match s with
    | .Assign [.Attribute (.Name nm _) f _] e _ => match okName nm && isVis sc nm && N[0]? == some nm && (slots c)[k]? == some f, ce G N 60 sc e, cFin N sc c (k + 1) ss with
      | true, some x, some xs => some (.cons x xs)
      | _, _, _ => none
    | _ => none
def cDef (x : DX) : Option Def := match scOk x.N x.ps x.scope && decide (x.ps.length ≤ x.N.length), x.ini with
  | false, _ => none
  | true, none => (css (cs G x.N x.mu x.scope 60) x.body).map fun b => ⟨x.ps.length, x.N.length - x.ps.length, none, b⟩
  | true, some c => match decide (1 ≤ x.ps.length ∧ x.N.head? = some ("self" : Str)), css (cs G x.N x.mu x.scope 60) (x.body.takeWhile fun s => !isFin s), cFin G slots x.N x.scope c 0 (x.body.dropWhile fun s => !isFin s) with
    | true, some b, some es => some ⟨x.ps.length - 1, x.N.length - x.ps.length, some (c, es), b⟩
    | _, _, _ => none
end
/-- what is known, wherever one stands -/
structure Facts (G : Gt) (slots : Nat → List Str) (k : Nat) (F : Fx) (X : Cx) : Prop where
  k1 : 1 ≤ k
  cls : ClsF X.K F.T G.ncl
  clg : ∀ x c, G.clss.lookup x = some c → c < G.ncl ∧ X.mg x = some (.ref (F.T c))
  att : ∀ f tb c t, G.atts.lookup f = some tb → tb.lookup c = some t → AttF X F k f c t
  mak : ∀ x n c j dfl, G.maks.lookup (x, n) = some (c, j, dfl) → MkF X F k x c j dfl
  mkk : ∀ x n ks c j, G.makk.lookup (x, n, ks) = some (c, j) → MkK X F k x n ks c j
  defs : ∀ x n j dfl, G.defs.lookup (x, n) = some (j, dfl) → Known X F k x j dfl
  cons : ∀ x d, G.cons.lookup x = some d → ∃ u v, X.mg x = some u ∧ RelV v u ∧ Fixed X.K F.T d v
  blts : ∀ x, G.blts.contains x = true → X.mg x = none
  eqs : ∀ c f, G.eqs.lookup c = some f → EqF X F k G.eqs c f
  err : ∀ x c, G.errs.lookup x = some c → ErrF X F x c
  eri : ∀ x c, G.erri.lookup x = some c → ErrI X F x c
  han : ∀ x yes no, G.hans.lookup x = some (yes, no) → ∃ C, X.mg x = some C ∧ (∀ c, yes.contains c = true → PySem.W.exmOne X.K (.ref (F.Z.adr c)) C = some true) ∧ ∀ c, no.contains c = true → PySem.W.exmOne X.K (.ref (F.Z.adr c)) C = some false
  fld : ∀ x f c no, G.flds.lookup (x, f) = some (c, no) → X.mg x = some (.ref (F.Z.adr c)) ∧ PySem.W.exmOne X.K (.ref (F.Z.adr c)) (.ref (F.Z.adr c)) = some true ∧ (∀ e, no.contains e = true → PySem.W.exmOne X.K (.ref (F.Z.adr e)) (.ref (F.Z.adr c)) = some false) ∧ XfC X.K (F.Z.adr c) ∧ PySem.W.findIn X.K (.ref (F.Z.adr c)) f = some none ∧ F.Z.fld c = some f
  slt : ∀ c i f, c < G.ncl → (slots c)[i]? = some f → ∃ p, Slot1 X.K (F.T c) f p i
section
variable {G : Gt} {slots : Nat → List Str} {k : Nat} {F : Fx} {X : Cx}
theorem Facts.good (f : Facts G slots k F X) {N : List Str} {sc : Scope} (hN : X.N = N) (nd : N.Nodup) (hs : X.env.scope = sc) (calm : X.calm = true) (room : Room (k + 1) X.A) (sf : F.Y = none ∨ N.head? = some ("self" : Str)) : Good G N k F X sc :=
  { hN := hN, nd := nd, hs := hs, calm := calm, room := room, k1 := f.k1, eqs := f.eqs, sf := sf, cls := f.cls, clg := f.clg, att := f.att, mak := f.mak, mkk := f.mkk, defs := f.defs, cons := f.cons, blts := f.blts }
theorem Facts.withY (f : Facts G slots k F X) (y : Option Slf) : Facts G slots k { F with Y := y } X :=
  { k1 := f.k1, cls := f.cls, clg := f.clg, att := fun a b c t h1 h2 => by
      have := f.att a b c t h1 h2
      cases t with
      | slot i => exact this
      | prop j => exact this
    mak := fun x n c j dfl h => ⟨(f.mak x n c j dfl h).ex⟩, mkk := fun x n ks c j h => ⟨(f.mkk x n ks c j h).ex⟩, defs := fun x n j dfl h => ⟨(f.defs x n j dfl h).ex⟩, cons := f.cons, blts := f.blts
    eqs := fun c j h => let e := f.eqs c j h; ⟨e.ex, e.ne, e.ob, e.t1, e.t2⟩
    err := fun x c h => let e := f.err x c h; ⟨e.ex, e.gl, e.kp, e.rs, e.nf⟩
    eri := fun x c h => let e := f.eri x c h; ⟨e.ex, e.gl⟩
    han := f.han, fld := f.fld, slt := f.slt }
theorem Facts.goodS (f : Facts G slots k F X) {W : WX} {N : List Str} {sc : Scope} (g : Good G N k F X sc) (bk : X.env.blockKind = .function) (fn : ∀ y, X.fn y = true) (pas : PassesOwn (model X.prog X.w) X.A X.env X.xe) (tk : Takes X W) (stk : X.stack = X.env :: X.outer) (frm : X.env.frame = some X.env.locals) : GoodS G N k F X W sc :=
  { g := g, bk := bk, fn := fn, pas := pas, tk := tk, err := f.err, eri := f.eri, stk := stk, frm := frm, han := f.han, fld := f.fld }
theorem css_l {W : WX} {f : Stmt → Option XS} (hf : ∀ s x, f s = some x → SS X F W s x) : ∀ {ss : List Stmt} {xs : XSs}, css f ss = some xs → SSl X F W ss xs
  | [], _, h => by cases h; exact .nil
  | s :: ss, xs, h => by
    unfold css at h
    split at h
    · rename_i h1 h2
      cases h
      exact .cons (hf _ _ h1) (css_l hf h2)
    · cases h
theorem cFin_ok {W : WX} {N : List Str} {sc : Scope} {c : Nat} (f : Facts G slots k F X) (g : Good G N k F X sc) (hx : Psv X W) (hc : c < G.ncl) : ∀ {ss : List Stmt} {i : Nat} {es : XEs}, cFin G slots N sc c i ss = some es → FinOk X F W c i ss es
  | [], i, es, h => by
    obtain ⟨hi, rfl⟩ := ite_some (show (if 0 < i then some XEs.nil else none) = some es from h)
    exact .nil hi
  | s :: ss, i, es, h => by
    unfold cFin at h
    split at h
    · rename_i nm p1 fl p2 e pos
      split at h
      · rename_i x xs h1 h2 h3
        cases h
        simp only [Bool.and_eq_true] at h1
        obtain ⟨d1, d2, _⟩ := okName_of h1.1.1.1
        obtain ⟨p, hp⟩ := f.slt c i fl hc (eq_of_beq h1.2)
        exact .cons (pe_var (by rw [g.hN]; exact eq_of_beq h1.1.2) (by rw [g.hs]; exact vis_of h1.1.1.2) d1 d2) (ce_ok 60 sc e x h2 X W g hx).1 hp (cFin_ok f g hx hc h3)
      · cases h
    · cases h
end
section
variable {P : Program} {w : World} {K : PySem.W.Frag} {mg : Str → Option Value} {base : Heap} {G : Gt} {slots : Nat → List Str} {T : Nat → Addr} {Z : Xs}
/-- the def keeps what the evaluator says -/
def DefOk (P : Program) (w : World) (K : PySem.W.Frag) (mg : Str → Option Value) (base : Heap) (T : Nat → Addr) (Z : Xs) (k : Nat) (x : DX) (fd : FuncData) (c : List D → M D) : Prop := match x.ini with
  | none => FnOk P w K mg base (CX P w) k (x.at_.adr K) fd x.ps (spF K T Z c)
  | some i => FnOk P w K mg base (CX P w) k (x.at_.adr K) fd x.ps (spI K T Z i c)
theorem def_ok {k : Nat} {cal : Nat → List D → M D} {x : DX} {d : Def} {fd : FuncData} (hd : cDef G slots x = some d) (U : FunD K x.name x.qual x.params x.body x.scope (x.dvs K) (x.kws K) (x.at_.adr K) fd) (hcl : ∀ c, x.ini = some c → c < G.ncl ∧ SCls K (T c))
    (hf : ∀ X : Cx, X.prog = P → X.w = w → X.K = K → X.mg = mg → X.base = base → Facts G slots k ⟨T, Z, cal, none⟩ X) : DefOk P w K mg base T Z (k + 1 + 1) x fd (runDef cal d) := by
  unfold cDef at hd
  unfold DefOk
  split at hd
  · cases hd
  · rename_i hini h1 h2
    rw [h2]
    simp only [Bool.and_eq_true, decide_eq_true_eq] at h1
    obtain ⟨b, hb, rfl⟩ := map_some hd
    have Sc := scOk_of h1.1
    refine fn_ok (F := ⟨T, Z, cal, none⟩) (k := k + 1) rfl U Sc rfl (by show x.N.length = x.ps.length + (x.N.length - x.ps.length); omega) rfl fun X E e1 e2 e3 e4 e5 e6 e7 hr hc hfn hst hfr tk hp => ?_
    have fa := hf X e1 e2 e3 e4 e5
    have g := fa.good e6 Sc.nd e7 hc hr (.inl rfl)
    have gs := fa.goodS g (by unfold PySem.Env.blockKind; rw [e7, Sc.kind]; rfl) hfn hp tk hst hfr
    exact css_ok (cs_ok gs x.mu 60) hb
  · rename_i hini c h1 h2
    rw [h2]
    simp only [Bool.and_eq_true, decide_eq_true_eq] at h1
    split at hd
    · rename_i b es h3 h4 h5
      cases hd
      simp only [decide_eq_true_eq] at h3
      have Sc := scOk_of h1.1
      obtain ⟨hc', hsc⟩ := hcl c h2
      refine init_ok (F := ⟨T, Z, cal, none⟩) (k := k + 1) (pre := x.body.takeWhile fun s => !isFin s) (suf := x.body.dropWhile fun s => !isFin s) U Sc rfl (by show x.N.length = 1 + (x.ps.length - 1) + (x.N.length - x.ps.length); omega) (by show x.ps.length = x.ps.length - 1 + 1; omega) hsc (List.takeWhile_append_dropWhile).symm fun X E y e1 e2 e3 e4 e5 e6 e7 hr hc hfn hst hfr tk hp => ?_
      have fa := (hf X e1 e2 e3 e4 e5).withY (some y)
      have g := fa.good e6 Sc.nd e7 hc hr (.inr h3.2)
      have gs := fa.goodS g (by unfold PySem.Env.blockKind; rw [e7, Sc.kind]; rfl) hfn hp tk hst hfr
      exact ⟨css_l (cs_ok gs x.mu 60) h4, cFin_ok fa g gs.psv hc' h5⟩
    · cases hd
/-- all of them, level by level -/
theorem all_ok {defs : List DX} {ds : List Def} (hds : ∀ (j : Nat) (x : DX), defs[j]? = some x → ∃ d, ds[j]? = some d ∧ cDef G slots x = some d)
    (hU : ∀ (j : Nat) (x : DX), defs[j]? = some x → ∃ fd, FunD K x.name x.qual x.params x.body x.scope (x.dvs K) (x.kws K) (x.at_.adr K) fd) (hcl : ∀ (j : Nat) (x : DX) (c : Nat), defs[j]? = some x → x.ini = some c → c < G.ncl ∧ SCls K (T c))
    (hf : ∀ n, (∀ (j : Nat) (x : DX), defs[j]? = some x → ∃ fd, FunD K x.name x.qual x.params x.body x.scope (x.dvs K) (x.kws K) (x.at_.adr K) fd ∧ DefOk P w K mg base T Z (2 * n + 2) x fd (sem ds n j)) →
      ∀ X : Cx, X.prog = P → X.w = w → X.K = K → X.mg = mg → X.base = base → Facts G slots (2 * n + 2) ⟨T, Z, sem ds n, none⟩ X) :
    ∀ n (j : Nat) (x : DX), defs[j]? = some x → ∃ fd, FunD K x.name x.qual x.params x.body x.scope (x.dvs K) (x.kws K) (x.at_.adr K) fd ∧ DefOk P w K mg base T Z (2 * n + 2) x fd (sem ds n j) := by
  intro n
  induction n with
  | zero =>
    intro j x hj
    obtain ⟨fd, U⟩ := hU j x hj
    refine ⟨fd, U, ?_⟩
    unfold DefOk
    split
    · refine ⟨fun vs H Q E h => ?_, fun A outer s H args us vs Q E _ _ _ _ h => ?_⟩
      · obtain ⟨_, _, _, _, _, z⟩ := h; exact z.elim
      · obtain ⟨_, _, _, _, _, z⟩ := h; exact z.elim
    · refine ⟨fun vs H Q E h => ?_, fun A outer s H args us vs Q E _ _ _ _ h => ?_⟩
      · obtain ⟨_, _, _, _, _, _, _, _, _, _, _, _, _, _, _, z, _⟩ := h; exact z.elim
      · obtain ⟨_, _, _, _, _, _, _, _, _, _, _, _, _, _, _, z, _⟩ := h; exact z.elim
  | succ n ih =>
    intro j x hj
    obtain ⟨fd, U⟩ := hU j x hj
    obtain ⟨d, hd, hc⟩ := hds j x hj
    refine ⟨fd, U, ?_⟩
    have e : sem ds (n + 1) j = runDef (sem ds n) d := by
      funext as
      show (match ds[j]? with | some d => runDef (sem ds n) d as | none => M.bad) = _
      rw [hd]
    rw [e]
    exact def_ok hc U (fun c h => hcl j x c hj h) (hf n ih)
end
end Lk
end
section
/-! G3: what is looked up behind the top, and the facts that follow. -/
set_option Elab.async false
set_option linter.all false
set_option maxRecDepth 100000
set_option maxHeartbeats 2000000
namespace Lk
open PySem PySem.Spec PyProof.Rows L2 SlX
/-- the __init__ of an error with a field, as it stands in the text -/
structure SX where
  c : Nat
  name : Str
  qual : Str
  params : Arguments
  scope : Scope
  tx : Str
  j : Nat
  ps : List Pos
def SX.body (x : SX) (fl par : Str) : List Stmt := supBody x.tx fl par x.j (x.ps.getD 0 default) (x.ps.getD 1 default) (x.ps.getD 2 default) (x.ps.getD 3 default) (x.ps.getD 4 default) (x.ps.getD 5 default) (x.ps.getD 6 default) (x.ps.getD 7 default) (x.ps.getD 8 default) (x.ps.getD 9 default)
structure Law where
  cn : List Str
  sl : List (List Str)
  en : List Str
  ef : List (Option (Str × Str))
  defs : List DX
  sups : List SX := []
  G : Gt
section
variable (L : Law) (P : Program) (K : PySem.W.Frag)
def Law.T (c : Nat) : Addr := He.ga K (L.cn.getD c "")
def Law.E (c : Nat) : Addr := He.ga K (L.en.getD c "")
def Law.fl (c : Nat) : Option Str := (L.ef.getD c none).map (·.1)
def Law.Z : Xs := ⟨L.E K, L.fl⟩
def Law.slots (c : Nat) : List Str := L.sl.getD c []
def gloB (x : Str) : Bool := He.eqO (PySem.W.nsIn K mainGlobals x) (some (some (.ref (He.ga K x))))
def freeB (x : Str) : Bool := He.eqO (PySem.W.nsIn K mainGlobals x) (some none)
def sclsB (C : Addr) : Bool := PySem.W.plainGet K C Str.empty && PySem.W.isClsIn K C && PySem.W.plainOver K C && He.eqO (PySem.W.findIn K (.ref C) "__setattr__") (some (some (.builtin "object.__setattr__")))
def sisiB (C : Addr) : Bool := He.eqO (PySem.W.findIn K (.ref C) "__class__") (some (some (.builtin "object.__class__"))) && He.eqO (PySem.W.specialIn K (.builtin "object.__class__") "__get__") (some (some (.builtin "getset_descriptor.__get__"))) &&
  PySem.W.takesIn K (.builtin "object.__class__") == some true && PySem.W.mroIn K C (.type "object") == some true
def slotB (C : Addr) (f : Str) (i : Nat) : Bool := He.eqO (PySem.W.findIn K (.ref C) f) (some (some (.ref (He.ma K C f)))) && He.eqO (PySem.W.specialIn K (.ref (He.ma K C f)) "__get__") (some (some (.builtin "member_descriptor.__get__"))) &&
  PySem.W.takesIn K (.ref (He.ma K C f)) == some true && decide (PySem.W.typeIn K (.ref (He.ma K C f)) = some (.type "member_descriptor")) && PySem.W.slotIn K (He.ma K C f) C == some i && decide (i < 1000)
def clsB (c : Nat) : Bool := gloB K (L.cn.getD c "") && sclsB K (L.T K c) && sisiB K (L.T K c) &&
  (tyNames.all fun t => PySem.W.kitOne K (.type t) (.ref (L.T K c)) == some false) && (["int", "bool", "str", "tuple", "list", "dict"].all fun t => PySem.W.kitOne K (.ref (L.T K c)) (.type t) == some false) &&
  ((List.range L.G.ncl).all fun e => PySem.W.kitOne K (.ref (L.T K c)) (.ref (L.T K e)) == some (e == c)) && ((List.range (L.slots c).length).all fun i => match (L.slots c)[i]? with | some f => slotB K (L.T K c) f i | none => true)
/-- a def that is called by its parameters alone -/
def DX.simple (x : DX) : Bool := x.dfl.isEmpty && x.kwd.isEmpty && x.params.kwonlyargs.isEmpty
def defAt (j : Nat) (l : Loc) (i : Option Nat) : Bool := match L.defs[j]? with
  | some x => decide (x.at_ = l) && (x.ini == i)
  | none => false
def defSm (j : Nat) : Bool := match L.defs[j]? with
  | some x => x.simple
  | none => false
def attB (f : Str) (q : Nat × Att) : Bool := decide (q.1 < L.G.ncl) && match q.2 with
  | .slot i => (L.slots q.1)[i]? == some f
  | .prop j => defAt L j (.prop (L.cn.getD q.1 "") f) none && defSm L j && He.eqO (PySem.W.findIn K (.ref (L.T K q.1)) f) (some (some (.ref (He.ma K (L.T K q.1) f)))) && He.eqO (PySem.W.specialIn K (.ref (He.ma K (L.T K q.1) f)) "__get__") (some (some (.builtin "property.__get__"))) &&
    PySem.W.takesIn K (.ref (He.ma K (L.T K q.1) f)) == some true && match PySem.W.recIn K (He.ma K (L.T K q.1) f) "property" with
      | some (.ref _ :: _) => true
      | _ => false
def mkB (x : Str) (c j : Nat) : Bool := L.cn[c]? == some x && decide (c < L.G.ncl) && defAt L j (.meth x "__init__") (some c) && PySem.W.makesIn K (L.T K c) && He.eqO (PySem.W.findIn K (.ref (L.T K c)) "__init__") (some (some (.ref (He.ma K (L.T K c) "__init__")))) &&
  PySem.W.isFn K (.ref (He.ma K (L.T K c) "__init__")) && PySem.W.keepIn K (.ref (L.T K c))
def conB (x : Str) : D → Bool
  | .int i => (match PySem.W.nsIn K mainGlobals x with
    | some (some (.int j _)) => decide (j = i)
    | _ => false)
  | .str z => (match PySem.W.nsIn K mainGlobals x with
    | some (some (.str y _)) => decide (y.cps.toList = z)
    | _ => false)
  | _ => false
def eqB (q : Nat × Nat) : Bool := decide (q.1 < L.G.ncl) && defAt L q.2 (.meth (L.cn.getD q.1 "") "__eq__") none && defSm L q.2 && He.eqO (PySem.W.findIn K (.ref (L.T K q.1)) "__eq__") (some (some (.ref (He.ma K (L.T K q.1) "__eq__")))) && PySem.W.isFn K (.ref (He.ma K (L.T K q.1) "__eq__")) &&
  He.eqO (PySem.W.findIn K (.ref (L.T K q.1)) "__ne__") (some (some (.builtin "object.__ne__"))) && PySem.W.mroIn K (L.T K q.1) (.type "object") == some true && (tyNames.all fun t => PySem.W.notFirst K (L.T K q.1) (.type t)) && (L.G.eqs.all fun e => PySem.W.notFirst K (L.T K q.1) (.ref (L.T K e.1)))
def errB (x : Str) (c : Nat) : Bool := L.en[c]? == some x && (L.ef.getD c none).isNone && gloB K x && PySem.W.excIn K (L.E K c) [.type "ValueError", .type "Exception", .type "BaseException", .type "object"] "ValueError.__new__" && PySem.W.keepIn K (.ref (L.E K c)) &&
  PySem.W.subIn K (.ref (L.E K c)) (.type "BaseException") == some true && decide (PySem.W.typeIn K (.ref (L.E K c)) = some (.type "type"))
def hanB (x : Str) (yes no : List Nat) : Bool := gloB K x && (yes.all fun c => PySem.W.exmOne K (.ref (L.E K c)) (.ref (He.ga K x)) == some true) && no.all fun c => PySem.W.exmOne K (.ref (L.E K c)) (.ref (He.ga K x)) == some false
def fldB (x f : Str) (c : Nat) (no : List Nat) : Bool := L.en[c]? == some x && gloB K x && PySem.W.exmOne K (.ref (L.E K c)) (.ref (L.E K c)) == some true && (no.all fun e => PySem.W.exmOne K (.ref (L.E K e)) (.ref (L.E K c)) == some false) && xfB K (L.E K c) && He.eqO (PySem.W.findIn K (.ref (L.E K c)) f) (some none) && L.fl c == some f
def oexB (C : Addr) : Bool := (match K.lookup C with
  | some ⟨.type "type", _, .cls cd, sl⟩ => (match cd.mro, sl.toList with
    | .ref C' :: bm, [_, _, _, _, some (.builtin n), _] => C' == C && n == "ValueError.__new__" && !cd.hasDel && cd.hasDict && PySem.HandSPX.refsVE bm
    | _, _ => false)
  | _ => false) && He.eqO (PySem.W.findIn K (.ref C) "__setattr__") (some (some (.builtin "object.__setattr__"))) && PySem.W.subIn K (.ref C) (.type "BaseException") == some true && decide (PySem.W.typeIn K (.ref C) = some (.type "type")) && PySem.W.keepIn K (.ref C)
def fileIn (cda : Addr) : Option Str := match K.lookup cda with
  | some ⟨_, _, .fields vs, _⟩ => (match (vs[2]? : Option Value) with
    | some (Value.str file _) => some file
    | _ => none)
  | _ => none
def cellIn (cc : Addr) : Option Addr := match K.lookup cc with
  | some ⟨_, _, .cell (some (.ref C')), _⟩ => some C'
  | _ => none
def supM (C : Addr) (qual : Str) (cl : List (Str × Addr)) (cd df : Value) : Bool := match cl, cd, df with
  | [(nm, cc)], .ref cda, .none => nm == ("__class__" : Str) && PySem.W.codeIn K (.ref cda) qual && fileIn K cda == some (P.main.file : Str) && cellIn K cc == some C
  | _, _, _ => false
/-- a def of an error with a field -/
def supB (C : Addr) (x : SX) (fl par : Str) : Bool := (match K.lookup (He.ma K C "__init__") with
  | some ⟨_, _, .func fd, _⟩ => supM P K C x.qual fd.closure fd.code fd.defaults
  | _ => false) && oexB K C && decide (par ≠ "self") && !(par == ("__debug__" : Str)) && PySem.W.mroIn K C (.ref C) == some true && (P.main.scope.names.lookup ("super" : Str)).isNone && freeB K "super" &&
  He.eqO (PySem.W.ks_superIn K C C "__init__") (some (some (.builtin "ValueError.__init__"))) && PySem.W.subIn K (.ref C) (.type "ValueError") == some true && He.eqO (PySem.W.nsIn K cStatics "thirdparty.any") (some none) && He.eqO (PySem.W.findIn K (.ref C) fl) (some none) &&
  He.eqO (PySem.W.findIn K (.ref C) "__init__") (some (some (.ref (He.ma K C "__init__")))) && decide (PySem.W.typeIn K (.ref (He.ma K C "__init__")) = some (.type "function")) &&
  (match (x.params.posonlyargs ++ x.params.args).head? with | some ar => ar.arg == ("self" : Str) | none => false) && decide (x.scope.names.lookup ("super" : Str) = some .globalImplicit) && decide (x.scope.names.lookup ("__class__" : Str) = some .free) && decide (x.scope.names.lookup ("self" : Str) = some .local) && decide (x.scope.names.lookup par = some .local) &&
  (x.scope.names.all fun y => y.2 != .cell) && !x.scope.isCoroutine && !x.scope.isGenerator && x.scope.kind == .function && ((x.ps.getD 2 default).endLine == (x.ps.getD 4 default).line)
def eriB (x : Str) (c : Nat) : Bool := L.en[c]? == some x && gloB K x && match L.ef.getD c none, L.sups.find? (fun s => s.c == c) with
  | some (fl, par), some s => supB P K (L.E K c) s fl par
  | _, _ => false
def dxB (x : DX) : Bool := PySem.W.keepIn K (.ref (x.at_.adr K)) && (match K.lookup (x.at_.adr K) with
  | some ⟨_, _, .func fd, _⟩ => PySem.W.codeIn K fd.code x.qual && (He.dflB K fd.defaults (x.dvs K) && He.kwdB K fd.kwdefaults (x.kws K))
  | _ => false) && (match x.ini with
  | some c => decide (c < L.G.ncl)
  | none => true)
def Law.ok : Bool := (L.defs.all fun x => dxB L K x) && ((List.range L.G.ncl).all fun c => clsB L K c) && (L.G.clss.all fun q => decide (q.2 < L.G.ncl) && L.cn[q.2]? == some q.1) && (L.G.atts.all fun q => q.2.all fun t => attB L K q.1 t) &&
  (L.G.maks.all fun q => mkB L K q.1.1 q.2.1 q.2.2.1 && defSm L q.2.2.1 && q.2.2.2.isEmpty) && (L.G.makk.all fun q => mkB L K q.1.1 q.2.1 q.2.2) && (L.G.defs.all fun q => defAt L q.2.1 (.fn q.1.1) none && defSm L q.2.1 && gloB K q.1.1 && q.2.2.isEmpty) &&
  (L.G.cons.all fun q => conB K q.1 q.2) && (L.G.blts.all fun x => freeB K x) && (L.G.eqs.all fun q => eqB L K q) && (L.G.errs.all fun q => errB L K q.1 q.2) && (L.G.erri.all fun q => eriB L P K q.1 q.2) && (L.G.hans.all fun q => hanB L K q.1 q.2.1 q.2.2) && L.G.flds.all fun q => fldB L K q.1.1 q.1.2 q.2.1 q.2.2
end
abbrev FnWs : Type := Option (Str × Str × Arguments × FuncBody × Scope × Addr × List Str × Addr)
def fnX (K : PySem.W.Frag) (a : Addr) : He.FnW := match K.lookup a with
  | some ⟨_, _, .func fd, _⟩ => some (fd.name, fd.qualname, fd.params, fd.body, fd.scope, fd.globals, fd.closure, fd.builtins)
  | _ => none
def fnS (K : PySem.W.Frag) (a : Addr) : FnWs := match K.lookup a with
  | some ⟨_, _, .func fd, _⟩ => some (fd.name, fd.qualname, fd.params, fd.body, fd.scope, fd.globals, fd.closure.map (·.1), fd.builtins)
  | _ => none
def DX.val (d : DX) : He.FnW := some (d.name, d.qual, d.params, .stmts d.body, d.scope, mainGlobals, [], builtinsNs)
def SX.val (L : Law) (x : SX) : FnWs := match L.ef.getD x.c none with
  | some (fl, par) => some (x.name, x.qual, x.params, .stmts (x.body fl par), x.scope, mainGlobals, ["__class__"], builtinsNs)
  | none => none
abbrev AlX : Type := Bool × List He.FnW × List FnWs
def obsX (L : Law) (P : Program) (K : PySem.W.Frag) : AlX := (L.ok P K, L.defs.map fun x => fnX K (x.at_.adr K), L.sups.map fun x => fnS K (He.ma K (L.E K x.c) "__init__"))
def valX (L : Law) : AlX := (true, L.defs.map DX.val, L.sups.map (SX.val L))
def asX (g : Addr → Option Obj) (n : Nat) : List Addr := He.asD g n ++ [cStatics]
def obsXG (n : Nat) (L : Law) (P : Program) (g : Addr → Option Obj) : AlX := obsX L P (He.frG g (asX g n))
def hookX (n : Nat) (L : Law) (P : Program) : PySem.W.Hook where
  α := AlX
  obs := fun s => obsXG n L P s.heap.get?
  val := fun _ => valX L
  says := fun _ h => ∃ K : PySem.W.Frag, K.In h ∧ obsX L P K = valX L
  of := fun _ _ e => ⟨_, He.frG_in, e⟩
  keeps := fun _ _ _ ⟨K, hK, c⟩ k => ⟨K, PySem.W.Frag.In.keeps hK k, c⟩
theorem obsXG_eq {n : Nat} {L : Law} {P : Program} {g : Addr → Option Obj} {s : Shared} (h : ∀ a, g a = s.heap.get? a) : obsXG n L P g = (hookX n L P).obs s := by
  have e : g = s.heap.get? := funext h
  rw [e] <;> rfl
section
variable {L : Law} {P : Program} {K : PySem.W.Frag}
theorem lookup_in {α β : Type} [BEq α] [LawfulBEq α] {l : List (α × β)} {a : α} {b : β} (h : l.lookup a = some b) : (a, b) ∈ l := by
  induction l with
  | nil => cases h
  | cons q l ih =>
    obtain ⟨x, y⟩ := q
    rw [List.lookup_cons] at h
    by_cases e : a = x
    · subst e
      simp at h
      subst h
      exact List.mem_cons_self
    · have : (a == x) = false := by simpa using e
      rw [this] at h
      exact List.mem_cons_of_mem _ (ih h)
theorem scls_of {C : Addr} (h : sclsB K C = true) : SCls K C := by
  unfold sclsB at h
  simp only [Bool.and_eq_true] at h
  exact ⟨h.1.1.1, h.1.1.2, h.1.2, He.eqO_ok h.2⟩
theorem sisi_of {C : Addr} (h : sisiB K C = true) : SIsi K C := by
  unfold sisiB at h
  simp only [Bool.and_eq_true] at h
  exact ⟨He.eqO_ok h.1.1.1, He.eqO_ok h.1.1.2, eq_of_beq h.1.2, eq_of_beq h.2⟩
theorem slot_of {C : Addr} {f : Str} {i : Nat} (h : slotB K C f i = true) : Slot1 K C f (He.ma K C f) i := by
  unfold slotB at h
  simp only [Bool.and_eq_true, decide_eq_true_eq] at h
  exact ⟨He.eqO_ok h.1.1.1.1.1, He.eqO_ok h.1.1.1.1.2, eq_of_beq h.1.1.1.2, h.1.1.2, eq_of_beq h.1.2, h.2⟩
theorem oex_of {C : Addr} (h : oexB K C = true) : OexC K C := by
  unfold oexB at h
  simp only [Bool.and_eq_true, decide_eq_true_eq] at h
  refine ⟨?_, He.eqO_ok h.1.1.1.2, eq_of_beq h.1.1.2, h.1.2, h.2⟩
  have q := h.1.1.1.1
  split at q
  · rename_i dd cd sl ho
    split at q
    · rename_i C' bm k0 k1 k2 k3 n k5 hm hs
      simp only [Bool.and_eq_true, beq_iff_eq, Bool.not_eq_true'] at q
      obtain ⟨⟨⟨⟨rfl, rfl⟩, hdel⟩, hhd⟩, hr⟩ := q
      obtain ⟨nm, bs, mro, ns, qn, hd, sn, sub, ab, col, del⟩ := cd
      dsimp only at hm hdel hhd
      subst hm hdel hhd
      have hsl : sl = #[k0, k1, k2, k3, some (.builtin "ValueError.__new__"), k5] := by
        obtain ⟨l⟩ := sl
        simp only at hs
        rw [hs]
      subst hsl
      exact ⟨nm, qn, ns, bs, bm, sn, sub, ab, col, dd, k0, k1, k2, k3, k5, ho, hr⟩
    · cases q
  · cases q
/-- a def of the table -/
theorem fun_of {x : DX} (e : fnX K (x.at_.adr K) = x.val) (c : dxB L K x = true) : ∃ fd, FunD K x.name x.qual x.params x.body x.scope (x.dvs K) (x.kws K) (x.at_.adr K) fd := by
  unfold dxB at c
  simp only [Bool.and_eq_true] at c
  obtain ⟨⟨kp, c2⟩, _⟩ := c
  unfold fnX at e
  cases q : K.lookup (x.at_.adr K) with
  | none => rw [q] at c2; cases c2
  | some o =>
    obtain ⟨oc, od, dt, osl⟩ := o
    rw [q] at c2 e
    cases dt with
    | func fd =>
      obtain ⟨n1, n2, n3, n4, n5, n6, n7, n8, n9, n10, n11, n12, n13, n14, n15⟩ := fd
      have e2 : (some (n1, n2, n3, n4, n5, n6, n7, n15) : He.FnW) = some (x.name, x.qual, x.params, .stmts x.body, x.scope, mainGlobals, [], builtinsNs) := e
      simp only [Option.some.injEq, Prod.mk.injEq] at e2
      obtain ⟨h1, h2, h3, h4, h5, h6, h7, h8⟩ := e2
      subst h1 h2 h3 h4 h5 h6 h7 h8
      simp only [Bool.and_eq_true] at c2
      exact ⟨_, ⟨oc, od, n8, n9, n10, n11, n12, n13, n14, osl, rfl, q, c2.1, He.dflB_ok c2.2.1, He.kwdB_ok c2.2.2⟩, kp⟩
    | _ => cases c2
/-- an error with a field -/
theorem sup_of {mg : Str → Option Value} {C : Addr} {x : SX} {fl par : Str} (hmg : mg "super" = none) (e : fnS K (He.ma K C "__init__") = (some (x.name, x.qual, x.params, FuncBody.stmts (x.body fl par), x.scope, mainGlobals, ["__class__"], builtinsNs) : FnWs)) (c : supB P K C x fl par = true) :
    ∃ fd dV kV doc pm an cdv ct cc, fd = PySem.W.ksFn x.name x.qual x.params (x.body fl par) x.scope dV kV doc pm an cdv ct cc ∧ dV = Value.none ∧ SupF P K mg C (He.ma K C "__init__") fl par fd ∧ PySem.W.findIn K (.ref C) "__init__" = some (some (.ref (He.ma K C "__init__"))) ∧ PySem.W.typeIn K (.ref (He.ma K C "__init__")) = some (.type "function") := by
  unfold supB at c
  simp only [Bool.and_eq_true, decide_eq_true_eq, Bool.not_eq_true'] at c
  obtain ⟨⟨⟨⟨⟨⟨⟨⟨⟨⟨⟨⟨⟨⟨⟨⟨⟨⟨⟨⟨⟨⟨c0, c1⟩, c2⟩, c3⟩, c4⟩, c5⟩, c6⟩, c7⟩, c8⟩, c9⟩, c10⟩, c11⟩, c12⟩, c13⟩, c14⟩, c15⟩, c16⟩, c17⟩, c18⟩, c19⟩, c20⟩, c21⟩, c22⟩ := c
  unfold fnS at e
  cases q : K.lookup (He.ma K C "__init__") with
  | none => rw [q] at c0; cases c0
  | some o =>
    obtain ⟨oc, od, dt, osl⟩ := o
    rw [q] at c0 e
    cases dt with
    | func fd =>
      obtain ⟨n1, n2, n3, n4, n5, n6, n7, n8, n9, n10, n11, n12, n13, n14, n15⟩ := fd
      have e2 : (some (n1, n2, n3, n4, n5, n6, n7.map (·.1), n15) : FnWs) = (some (x.name, x.qual, x.params, FuncBody.stmts (x.body fl par), x.scope, mainGlobals, ["__class__"], builtinsNs) : FnWs) := e
      simp only [Option.some.injEq, Prod.mk.injEq] at e2
      obtain ⟨h1, h2, h3, h4, h5, h6, h7, h8⟩ := e2
      subst h1 h2 h3 h4 h5 h6 h8
      have c0' : supM P K C x.qual n7 n13 n8 = true := c0
      clear c0
      unfold supM at c0'
      split at c0'
      · rename_i nm cc cda
        simp only [Bool.and_eq_true] at c0'
        obtain ⟨⟨⟨d1, d2⟩, d3⟩, d4⟩ := c0'
        have en := eq_of_beq d1
        subst en
        have f1 : ∃ ccl cdd vs ccs file tf, K.lookup cda = some ⟨ccl, cdd, .fields vs, ccs⟩ ∧ vs[2]? = some (.str file tf) ∧ ((P.main.file : Str) == file) = true := by
          unfold fileIn at d3
          split at d3
          · rename_i a1 a2 vs a3 hl
            split at d3
            · rename_i file tf hv
              have := eq_of_beq d3
              exact ⟨_, _, _, _, file, tf, hl, hv, by rw [Option.some.inj this]; exact beq_self_eq_true _⟩
            · exact absurd d3 (by simp)
          · exact absurd d3 (by simp)
        have f2 : ∃ cl cld csl, K.lookup cc = some ⟨cl, cld, .cell (some (.ref C)), csl⟩ := by
          unfold cellIn at d4
          split at d4
          · rename_i a1 a2 C' a3 hl
            have := eq_of_beq d4
            rw [Option.some.inj this] at hl
            exact ⟨_, _, _, hl⟩
          · exact absurd d4 (by simp)
        obtain ⟨ccl, cdd, vs, ccs, file, tf, g1, g2, g3⟩ := f1
        obtain ⟨cl, cld, csl, g4⟩ := f2
        have f3 : ∃ ar, (x.params.posonlyargs ++ x.params.args).head? = some ar ∧ ar.arg = "self" := by
          split at c13
          · rename_i ar har
            exact ⟨ar, har, eq_of_beq c13⟩
          · cases c13
        obtain ⟨ar, g5, g6⟩ := f3
        refine ⟨_, .none, n9, n10, n11, n12, .ref cda, n14, cc, rfl, rfl, ⟨⟨x.name, x.qual, x.params, x.scope, .none, n9, n10, n11, n14, oc, ccl, cl, n12, od, cdd, cld, osl, ccs, csl, cda, cc, vs, file, tf, ar, x.tx, x.j, _, _, _, _, _, _, _, _, _, _, rfl, c22, q, d2, g5, g6, g1, g2, g3, g4, c14, c15, c16, c17, fun y hy z => ?_, c19, c20, eq_of_beq c21⟩, oex_of c1, c2, c3, eq_of_beq c4, ?_, hmg, He.eqO_ok c7, eq_of_beq c8, He.eqO_ok c9, He.eqO_ok c10⟩, He.eqO_ok c11, c12⟩
        · have := List.all_eq_true.mp c18 y hy
          rw [z] at this
          exact absurd this (by decide)
        · have : (List.lookup (Str.ofString "super") P.main.scope.names) = none := Option.isNone_iff_eq_none.mp c5
          rw [this]; rfl
      · cases c0'
    | _ => cases c0
end
end Lk
end
section
/-! G4: the facts from what was looked up. -/
set_option Elab.async false
set_option linter.all false
set_option maxRecDepth 100000
set_option maxHeartbeats 2000000
namespace Lk
open PySem PySem.Spec PyProof.Rows L2 SlX
def AllB : List DX → Prop
  | [] => True
  | x :: r => (x.simple = true → BindP x.params x.ps) ∧ AllB r
theorem AllB.get : ∀ {l : List DX} {j : Nat} {x : DX}, AllB l → l[j]? = some x → x.simple = true → BindP x.params x.ps
  | [], _, _, _, h => by simp at h
  | y :: l, 0, x, a, h => by simp at h; subst h; exact a.1
  | y :: l, j + 1, x, a, h => AllB.get (l := l) (j := j) a.2 (by simpa using h)
/-- positional arguments come to the parameters of an error's __init__ -/
def BindS (x : SX) (par : Str) : Prop := ∀ (body : List Stmt) (kV doc pm : Value) (an : Option Addr) (cdv ct : Value) (cc : Addr) (us : List Value), us.length = 2 → bindArgs (PySem.W.ksFn x.name x.qual x.params body x.scope .none kV doc pm an cdv ct cc) ⟨us, []⟩ = pure ((["self", par] : List Str).zip us)
def AllS (L : Law) : List SX → Prop
  | [] => True
  | x :: r => (∀ fl par, L.ef.getD x.c none = some (fl, par) → BindS x par) ∧ AllS L r
theorem AllS.get {L : Law} : ∀ {l : List SX} {x : SX}, AllS L l → x ∈ l → ∀ fl par, L.ef.getD x.c none = some (fl, par) → BindS x par
  | [], _, _, h => by cases h
  | y :: l, x, a, h => by
    rcases List.mem_cons.mp h with e | h
    · rw [e]; exact a.1
    · exact AllS.get a.2 h
section
variable {L : Law} {P : Program} {w : World} {K : PySem.W.Frag} {mg : Str → Option Value} {base h : Heap} {ds : List Def} {n : Nat}
theorem simple_ps {x : DX} (hs : x.simple = true) : x.dvs K = [] := by
  unfold DX.simple at hs
  simp only [Bool.and_eq_true, List.isEmpty_iff] at hs
  unfold DX.dvs
  rw [hs.1.1]; rfl
theorem fnR_of {x : DX} {fd : FuncData} {k : Nat} {c : List D → M D} {T : Nat → Addr} {Z : Xs} (hB : BindP x.params x.ps) (hs : x.simple = true) (U : FunD K x.name x.qual x.params x.body x.scope (x.dvs K) (x.kws K) (x.at_.adr K) fd) (hi : x.ini = none) (hd : DefOk P w K mg base T Z k x fd c) : FnR P w K mg base (CX P w) k (x.at_.adr K) (spF K T Z c) := by
  intro A outer s H us vs Q E hr e0 r hsp
  unfold DefOk at hd
  rw [hi] at hd
  rw [simple_ps hs] at U
  have hl : us.length = x.ps.length := by rw [← r.length]; exact hd.len _ _ _ _ hsp
  exact hd.run A outer s H ⟨us, []⟩ us vs Q E hr e0 (bindsSA U hB s us hl) r hsp
theorem defAt_of {j : Nat} {l : Loc} {i : Option Nat} (h : defAt L j l i = true) : ∃ x, L.defs[j]? = some x ∧ x.at_ = l ∧ x.ini = i := by
  unfold defAt at h
  split at h
  · rename_i x hx
    simp only [Bool.and_eq_true, decide_eq_true_eq] at h
    exact ⟨x, hx, h.1, eq_of_beq h.2⟩
  · cases h
theorem defSm_of {j : Nat} {x : DX} (h : defSm L j = true) (hx : L.defs[j]? = some x) : x.simple = true := by
  unfold defSm at h
  rw [hx] at h
  exact h
theorem all_mem {α : Type} {p : α → Bool} {l : List α} (h : l.all p = true) {a : α} (ha : a ∈ l) : p a = true := List.all_eq_true.mp h a ha
structure Says (L : Law) (P : Program) (K : PySem.W.Frag) : Prop where
  dx : ∀ (j : Nat) (x : DX), L.defs[j]? = some x → ∃ fd, FunD K x.name x.qual x.params x.body x.scope (x.dvs K) (x.kws K) (x.at_.adr K) fd
  ini : ∀ (j : Nat) (x : DX) (c : Nat), L.defs[j]? = some x → x.ini = some c → c < L.G.ncl
  ok : L.ok P K = true
  sup : ∀ s, s ∈ L.sups → fnS K (He.ma K (L.E K s.c) "__init__") = SX.val L s
theorem says_of (c : obsX L P K = valX L) : Says L P K := by
  have c1 : L.ok P K = true := congrArg (fun z : AlX => z.1) c
  have c2 : L.defs.map (fun x => fnX K (x.at_.adr K)) = L.defs.map DX.val := congrArg (fun z : AlX => z.2.1) c
  have c3 : L.sups.map (fun x => fnS K (He.ma K (L.E K x.c) "__init__")) = L.sups.map (SX.val L) := congrArg (fun z : AlX => z.2.2) c
  have cd : ∀ (j : Nat) (x : DX), L.defs[j]? = some x → dxB L K x = true := fun j x hx => by
    have q := c1
    unfold Law.ok at q
    simp only [Bool.and_eq_true] at q
    exact all_mem q.1.1.1.1.1.1.1.1.1.1.1.1.1 (List.mem_of_getElem? hx)
  refine ⟨fun j x hx => ?_, fun j x c hx hc => ?_, c1, fun s hs => ?_⟩
  · have e : (L.defs.map fun x => fnX K (x.at_.adr K))[j]? = (L.defs.map DX.val)[j]? := by rw [c2]
    rw [List.getElem?_map, List.getElem?_map, hx] at e
    exact fun_of (Option.some.inj e) (cd j x hx)
  · have q := cd j x hx
    unfold dxB at q
    simp only [Bool.and_eq_true] at q
    have q2 := q.2
    rw [hc] at q2
    simpa using q2
  · obtain ⟨i, hi⟩ := List.getElem?_of_mem hs
    have e : (L.sups.map fun x => fnS K (He.ma K (L.E K x.c) "__init__"))[i]? = (L.sups.map (SX.val L))[i]? := by rw [c3]
    rw [List.getElem?_map, List.getElem?_map, hi] at e
    exact Option.some.inj e
theorem cls_fact (s : Says L P K) {c : Nat} (hc : c < L.G.ncl) : gloB K (L.cn.getD c "") = true ∧ SCls K (L.T K c) ∧ SIsi K (L.T K c) ∧ (∀ t ∈ tyNames, PySem.W.kitOne K (.type t) (.ref (L.T K c)) = some false) ∧ (∀ t ∈ ["int", "bool", "str", "tuple", "list", "dict"], PySem.W.kitOne K (.ref (L.T K c)) (.type t) = some false) ∧
    (∀ e, e < L.G.ncl → PySem.W.kitOne K (.ref (L.T K c)) (.ref (L.T K e)) = some (e == c)) ∧ ∀ i f, (L.slots c)[i]? = some f → ∃ p, Slot1 K (L.T K c) f p i := by
  have q := s.ok
  unfold Law.ok at q
  simp only [Bool.and_eq_true] at q
  have q1 := all_mem q.1.1.1.1.1.1.1.1.1.1.1.1.2 (List.mem_range.mpr hc)
  unfold clsB at q1
  simp only [Bool.and_eq_true] at q1
  obtain ⟨⟨⟨⟨⟨⟨g1, g2⟩, g3⟩, g4⟩, g5⟩, g6⟩, g7⟩ := q1
  refine ⟨g1, scls_of g2, sisi_of g3, fun t ht => eq_of_beq (all_mem g4 ht), fun t ht => eq_of_beq (all_mem g5 ht), fun e he => eq_of_beq (all_mem g6 (List.mem_range.mpr he)), fun i f hf => ?_⟩
  have hi : i < (L.slots c).length := (List.getElem?_eq_some_iff.mp hf).1
  have := all_mem g7 (List.mem_range.mpr hi)
  rw [hf] at this
  exact ⟨_, slot_of this⟩
theorem glo_mg (KX : K.In h) (Gm : h.Ns mainGlobals mg) {x : Str} (c : gloB K x = true) : mg x = some (.ref (He.ga K x)) := PySem.W.mg_of KX Gm (He.eqO_ok c)
theorem free_mg (KX : K.In h) (Gm : h.Ns mainGlobals mg) {x : Str} (c : freeB K x = true) : mg x = none := PySem.W.mg_none_of KX Gm (He.eqO_ok c)
theorem getD_of {α : Type} {l : List α} {i : Nat} {a d : α} (h : l[i]? = some a) : l.getD i d = a := by simp [List.getD, h]
theorem mk_fact (s : Says L P K) {x : Str} {c j : Nat} (hq : mkB L K x c j = true) : ∃ d, L.defs[j]? = some d ∧ d.at_ = .meth x "__init__" ∧ d.ini = some c ∧ L.cn.getD c "" = x ∧ c < L.G.ncl ∧ Mk K (L.T K c) (d.at_.adr K) := by
  unfold mkB at hq
  simp only [Bool.and_eq_true, decide_eq_true_eq] at hq
  obtain ⟨⟨⟨⟨⟨⟨h1, h2⟩, h3⟩, h4⟩, h5⟩, h6⟩, h7⟩ := hq
  obtain ⟨d, hd, ha, hi⟩ := defAt_of h3
  have e : L.cn.getD c "" = x := getD_of (d := ("" : Str)) (show L.cn[c]? = some x from eq_of_beq h1)
  refine ⟨d, hd, ha, hi, e, h2, ⟨h4, ?_, ?_, h7⟩⟩
  · rw [ha]
    show _ = some (some (Value.ref (He.ma K (He.ga K x) "__init__")))
    have := He.eqO_ok h5
    unfold Law.T at this ⊢
    rw [e] at this ⊢
    exact this
  · rw [ha]
    show PySem.W.isFn K (.ref (He.ma K (He.ga K x) "__init__")) = true
    unfold Law.T at h6
    rw [e] at h6
    exact h6
theorem facts_of (s : Says L P K) (KX : K.In h) (Gm : h.Ns mainGlobals mg) (hB : AllB L.defs) (hS : AllS L L.sups)
    (hKw : ∀ x m ks c j, L.G.makk.lookup (x, m, ks) = some (c, j) → ∀ d fd, L.defs[j]? = some d → FunD K d.name d.qual d.params d.body d.scope (d.dvs K) (d.kws K) (d.at_.adr K) fd → KBn K fd d.ps (m + 1) ks (fun us ws => us ++ ws) (fun vs zs => vs ++ zs))
    (ih : ∀ (j : Nat) (x : DX), L.defs[j]? = some x → ∃ fd, FunD K x.name x.qual x.params x.body x.scope (x.dvs K) (x.kws K) (x.at_.adr K) fd ∧ DefOk P w K mg base (L.T K) (L.Z K) (2 * n + 2) x fd (sem ds n j)) :
    ∀ X : Cx, X.prog = P → X.w = w → X.K = K → X.mg = mg → X.base = base → Facts L.G L.slots (2 * n + 2) ⟨L.T K, L.Z K, sem ds n, none⟩ X := by
  intro X e1 e2 e3 e4 e5
  subst e1 e2 e3 e4 e5
  have q := s.ok
  unfold Law.ok at q
  simp only [Bool.and_eq_true] at q
  obtain ⟨⟨⟨⟨⟨⟨⟨⟨⟨⟨⟨⟨⟨q1, q2⟩, q3⟩, q4⟩, q5⟩, q6⟩, q7⟩, q8⟩, q9⟩, q10⟩, q11⟩, q12⟩, q13⟩, q14⟩ := q
  have glo : ∀ {x : Str}, gloB X.K x = true → X.mg x = some (.ref (He.ga X.K x)) := fun c => glo_mg KX Gm c
  have adrE : ∀ {c : Nat} {x : Str}, (L.en[c]? == some x) = true → L.E X.K c = He.ga X.K x := fun {c x} hc => by
    unfold Law.E
    rw [getD_of (d := ("" : Str)) (show L.en[c]? = some x from eq_of_beq hc)]
  refine { k1 := by omega, cls := ⟨fun c hc => (cls_fact s hc).2.1, fun c hc => (cls_fact s hc).2.2.1, fun c t hc ht => (cls_fact s hc).2.2.2.1 t ht, fun c t hc ht => (cls_fact s hc).2.2.2.2.1 t ht, fun c e hc he => (cls_fact s hc).2.2.2.2.2.1 e he⟩, clg := ?_, att := ?_, mak := ?_, mkk := ?_, defs := ?_, cons := ?_, blts := fun x hx => free_mg KX Gm (all_mem q9 (by simpa using hx)), eqs := ?_, err := ?_, eri := ?_, han := ?_, fld := ?_, slt := fun c i f hc hf => (cls_fact s hc).2.2.2.2.2.2 i f hf }
  · intro x c hx
    have := all_mem q3 (lookup_in hx)
    simp only [Bool.and_eq_true, decide_eq_true_eq] at this
    refine ⟨this.1, ?_⟩
    have g := glo (cls_fact s this.1).1
    rw [getD_of (d := ("" : Str)) (show L.cn[c]? = some x from eq_of_beq this.2)] at g
    show X.mg x = some (.ref (L.T X.K c))
    unfold Law.T
    rw [getD_of (d := ("" : Str)) (show L.cn[c]? = some x from eq_of_beq this.2)]
    exact g
  · intro f tb c t hf hc
    have a := all_mem (all_mem q4 (lookup_in hf)) (lookup_in hc)
    unfold attB at a
    simp only [Bool.and_eq_true, decide_eq_true_eq] at a
    obtain ⟨hl, a⟩ := a
    cases t with
    | slot i => exact ⟨(cls_fact s hl).2.1, (cls_fact s hl).2.2.2.2.2.2 i f (eq_of_beq a)⟩
    | prop j =>
      simp only [Bool.and_eq_true] at a
      obtain ⟨⟨⟨⟨⟨a1, a2⟩, a3⟩, a4⟩, a5⟩, a6⟩ := a
      obtain ⟨d, hd, ha, hi⟩ := defAt_of a1
      have sm := defSm_of a2 hd
      obtain ⟨fd, U, ok⟩ := ih j d hd
      refine ⟨(cls_fact s hl).2.1, He.ma X.K (L.T X.K c) f, d.at_.adr X.K, He.eqO_ok a3, He.eqO_ok a4, eq_of_beq a5, ?_, fnR_of (hB.get hd sm) sm U hi ok⟩
      rw [ha]
      show ∃ rest, _ = some (Value.ref (match PySem.W.recIn X.K (He.ma X.K (He.ga X.K (L.cn.getD c "")) f) "property" with | some (.ref g :: _) => g | _ => 0) :: rest)
      unfold Law.T at a6 ⊢
      cases hr : PySem.W.recIn X.K (He.ma X.K (He.ga X.K (L.cn.getD c "")) f) "property" with
      | none => rw [hr] at a6; cases a6
      | some l =>
        rw [hr] at a6
        split at a6
        · rename_i g r e
          cases e
          exact ⟨r, rfl⟩
        · cases a6
  · intro x m c j dfl hx
    have a := all_mem q5 (lookup_in hx)
    simp only [Bool.and_eq_true] at a
    obtain ⟨⟨a1, a2⟩, a3⟩ := a
    obtain ⟨d, hd, ha, hi, e, hl, mk⟩ := mk_fact s a1
    have sm := defSm_of a2 hd
    obtain ⟨fd, U, ok⟩ := ih j d hd
    unfold DefOk at ok
    rw [hi] at ok
    rw [simple_ps sm] at U
    have hdf : dfl = [] := List.isEmpty_iff.mp a3
    subst hdf
    have g := glo (cls_fact s hl).1
    rw [e] at g
    exact ⟨⟨d.at_.adr X.K, fd, d.ps, [], [], by show X.mg x = some (.ref (L.T X.K c)); unfold Law.T; rw [e]; exact g, mk, ok, bindsS U (hB.get hd sm), .nil, .nil⟩⟩
  · intro x m ks c j hx
    have a := all_mem q6 (lookup_in hx)
    obtain ⟨d, hd, ha, hi, e, hl, mk⟩ := mk_fact s a
    obtain ⟨fd, U, ok⟩ := ih j d hd
    unfold DefOk at ok
    rw [hi] at ok
    have g := glo (cls_fact s hl).1
    rw [e] at g
    exact ⟨⟨d.at_.adr X.K, fd, d.ps, by show X.mg x = some (.ref (L.T X.K c)); unfold Law.T; rw [e]; exact g, mk, ok, hKw x m ks c j hx d fd hd U⟩⟩
  · intro x m j dfl hx
    have a := all_mem q7 (lookup_in hx)
    simp only [Bool.and_eq_true] at a
    obtain ⟨⟨⟨a1, a2⟩, a3⟩, a4⟩ := a
    obtain ⟨d, hd, ha, hi⟩ := defAt_of a1
    have sm := defSm_of a2 hd
    obtain ⟨fd, U, ok⟩ := ih j d hd
    unfold DefOk at ok
    rw [hi] at ok
    have kp := U.kp
    rw [simple_ps sm] at U
    have hdf : dfl = [] := List.isEmpty_iff.mp a4
    subst hdf
    have g := glo a3
    exact ⟨⟨d.at_.adr X.K, fd, d.ps, [], [], by rw [ha]; exact g, kp, ok, bindsS U (hB.get hd sm), .nil, .nil⟩⟩
  · intro x d hx
    have a := all_mem q8 (lookup_in hx)
    cases d with
    | int i =>
      have a : (match PySem.W.nsIn X.K mainGlobals x with
        | some (some (.int j _)) => decide (j = i)
        | _ => false) = true := a
      split at a
      · rename_i j t hn
        have e : j = i := of_decide_eq_true a
        subst e
        exact ⟨_, .int j, PySem.W.mg_of KX Gm hn, ⟨t, rfl⟩, fun ρ H => .int j⟩
      · cases a
    | str z =>
      have a : (match PySem.W.nsIn X.K mainGlobals x with
        | some (some (.str y _)) => decide (y.cps.toList = z)
        | _ => false) = true := a
      split at a
      · rename_i y t hn
        have e : y.cps.toList = z := of_decide_eq_true a
        subst e
        exact ⟨_, .str y, PySem.W.mg_of KX Gm hn, ⟨t, rfl⟩, fun ρ H => by have := RD.str (K := X.K) (T := L.T X.K) (ρ := ρ) (H := H) y.cps.toList; simpa using this⟩
      · cases a
    | _ => cases a
  · intro c j hx
    have a := all_mem q10 (lookup_in hx)
    unfold eqB at a
    simp only [Bool.and_eq_true, decide_eq_true_eq] at a
    obtain ⟨⟨⟨⟨⟨⟨⟨⟨a1, a2⟩, a3⟩, a4⟩, a5⟩, a6⟩, a7⟩, a8⟩, a9⟩ := a
    obtain ⟨d, hd, ha, hi⟩ := defAt_of a2
    have sm := defSm_of a3 hd
    obtain ⟨fd, U, ok⟩ := ih j d hd
    have ad : d.at_.adr X.K = He.ma X.K (L.T X.K c) "__eq__" := by rw [ha]; rfl
    refine ⟨⟨He.ma X.K (L.T X.K c) "__eq__", He.eqO_ok a4, a5, ?_⟩, He.eqO_ok a6, eq_of_beq a7, fun t ht => all_mem a8 ht, fun e he => ?_⟩
    · have := fnR_of (hB.get hd sm) sm U hi ok
      rw [ad] at this
      exact this
    · cases hl : L.G.eqs.lookup e with
      | none => rw [hl] at he; cases he
      | some f => exact all_mem a9 (lookup_in hl)
  · intro x c hx
    have a := all_mem q11 (lookup_in hx)
    unfold errB at a
    simp only [Bool.and_eq_true, decide_eq_true_eq] at a
    obtain ⟨⟨⟨⟨⟨⟨a1, a2⟩, a3⟩, a4⟩, a5⟩, a6⟩, a7⟩ := a
    refine ⟨⟨_, _, _, _, F.excBase_ValueError, a4⟩, by show X.mg x = some (.ref (L.E X.K c)); rw [adrE a1]; exact glo a3, a5, raises_own (eq_of_beq a6) a7, ?_⟩
    show L.fl c = none
    unfold Law.fl
    rw [Option.isNone_iff_eq_none.mp a2]; rfl
  · intro x c hx
    have a := all_mem q12 (lookup_in hx)
    unfold eriB at a
    simp only [Bool.and_eq_true] at a
    obtain ⟨⟨a1, a2⟩, a3⟩ := a
    split at a3
    · rename_i fl par sx hef hfi
      have hm := List.mem_of_find?_eq_some hfi
      have hc : sx.c = c := by
        have := List.find?_some hfi
        exact eq_of_beq this
      have hv := s.sup sx hm
      unfold SX.val at hv
      rw [hc, hef] at hv
      have fr : freeB X.K "super" = true := by
        unfold supB at a3
        simp only [Bool.and_eq_true] at a3
        exact a3.1.1.1.1.1.1.1.1.1.1.1.1.1.1.1.1.2
      obtain ⟨fd, dV, kV, doc, pm, an, cdv, ct, cc, rfl, rfl, hs1, hs2, hs3⟩ := sup_of (mg := X.mg) (free_mg KX Gm fr) hv a3
      refine ⟨⟨_, fl, par, _, hs1, hs2, hs3, .all fun us hl => hS.get hm fl par (by rw [hc]; exact hef) _ kV doc pm an cdv ct cc us hl, ?_⟩, ?_⟩
      · show L.fl c = some fl
        unfold Law.fl
        rw [hef]; rfl
      · show X.mg x = some (.ref (L.E X.K c))
        rw [adrE a1]; exact glo a2
    · cases a3
  · intro x yes no hx
    have a := all_mem q13 (lookup_in hx)
    unfold hanB at a
    simp only [Bool.and_eq_true] at a
    exact ⟨_, glo a.1.1, fun c hc => eq_of_beq (all_mem a.1.2 (by simpa using hc)), fun c hc => eq_of_beq (all_mem a.2 (by simpa using hc))⟩
  · intro x f c no hx
    have a := all_mem q14 (lookup_in hx)
    unfold fldB at a
    simp only [Bool.and_eq_true] at a
    obtain ⟨⟨⟨⟨⟨⟨a1, a2⟩, a3⟩, a4⟩, a5⟩, a6⟩, a7⟩ := a
    refine ⟨by show X.mg x = some (.ref (L.E X.K c)); rw [adrE a1]; exact glo a2, eq_of_beq a3, fun e he => eq_of_beq (all_mem a4 (by simpa using he)), xfB_ok a5, He.eqO_ok a6, eq_of_beq a7⟩
end
end Lk
end
section
/-! G5: the law's end. -/
set_option Elab.async false
set_option linter.all false
set_option maxRecDepth 100000
set_option maxHeartbeats 2000000
namespace Lk
open PySem PySem.Spec PyProof.Rows L2 SlX
section
variable {P : Program} {w : World} {K : PySem.W.Frag} {mg : Str → Option Value} {base : Heap} {k : Nat} {f : Addr} {fd : FuncData} {ps : List Str} {sp : Sp}
/-- no error leaves it -/
theorem fnOk0 (F : FnOk P w K mg base (CX P w) k f fd ps sp) : FnOk P w K mg base CX0 k f fd ps (fun vs H Q _ => sp vs H Q (fun _ _ _ => False)) := by
  refine ⟨fun vs H Q E h => F.len _ _ _ _ h, fun A outer s H args us vs Q E hr e0 hb r h => ?_⟩
  refine codeAny_mono (F.run A outer s H args us vs Q _ hr e0 hb r h) fun rr s' z => ?_
  cases rr with
  | error e => exact (no_cx z).elim
  | ok fl => cases fl <;> exact z
end
theorem kb_of {K : PySem.W.Frag} {d : DX} {fd : FuncData} {m : Nat} {ks ps : List Str} (U : FunD K d.name d.qual d.params d.body d.scope (d.dvs K) (d.kws K) (d.at_.adr K) fd) (hdf : d.dfl = []) (hps : d.ps = ps)
    (h : ∀ (x qual : Str) (body : List Stmt) (scope : Scope) (kV doc pm : Value) (an : Option Addr) (cdv ct : Value) (us ws : List Value), us.length = m → ws.length = ks.length → bindArgs (PySem.W.fnOf x qual d.params body scope .none kV doc pm an cdv ct) ⟨us, ks.zip ws⟩ = pure (ps.zip (us ++ ws))) : KBn K fd d.ps m ks (fun us ws => us ++ ws) (fun vs zs => vs ++ zs) := by
  have e : d.dvs K = [] := by unfold DX.dvs; rw [hdf]; rfl
  rw [e] at U
  obtain ⟨oc, od, dV, kV, doc, pm, an, cdv, ct, osl, rfl, lk, hcd, hD, hK⟩ := U.ex
  rcases hD with ⟨_, rfl⟩ | ⟨e, _⟩
  · refine ⟨fun s us ws X l1 l2 => ?_, fun r1 r2 => r1.append r2⟩
    rw [hps]
    exact .of_eq (h _ _ _ _ kV doc pm an cdv ct us ws l1 l2)
  · exact absurd rfl e
theorem rds_ints {K : PySem.W.Frag} {T : Nat → Addr} {ρ : Pm} {H : Hp} : ∀ ns : List Int, RDs K T ρ H (ns.map D.int) (ns.map V.int)
  | [] => .nil
  | n :: ns => .cons (.int n) (rds_ints ns)
def S0 : Store := ⟨0, .nil⟩
theorem get_nil (n : Nat) : S0.get n = none := by cases n <;> rfl
theorem law_F {L : Law} {P : Program} {jl n : Nat} {lx : DX} {ds : List Def} {x : Str} (hl : L.defs[jl]? = some lx) (hli : lx.ini = none) (hat : lx.at_ = .fn "law") (hps : lx.ps = [x]) (hsm : lx.simple = true) (hgl : (L.G.defs.lookup (("law" : Str), 1)).isSome = true)
    (hds : L.defs.map (cDef L.G L.slots) = ds.map some) (hB : AllB L.defs) (hS : AllS L L.sups)
    (hKw : ∀ K x m ks c j, L.G.makk.lookup (x, m, ks) = some (c, j) → ∀ d fd, L.defs[j]? = some d → FunD K d.name d.qual d.params d.body d.scope (d.dvs K) (d.kws K) (d.at_.adr K) fd → KBn K fd d.ps (m + 1) ks (fun us ws => us ++ ws) (fun vs zs => vs ++ zs))
    (plain : ∀ ns : List Int, ns.length ≤ 63 → ∃ S, sem ds n jl [.sc (ns.map .int)] S0 = .ok (.bl true) S) :
    ∀ (w : World) (mg : Str → Option Value) (fa : Addr) (h : Heap), (∃ K : PySem.W.Frag, K.In h ∧ obsX L P K = valX L) → h.Ns mainGlobals mg → mg ("law" : Str) = some (.ref fa) →
      ∃ (K : PySem.W.Frag) (fd : FuncData) (sp : Sp), K.In h ∧ (∀ (s : Shared) (u : Value), BindsTo s fd ⟨[u], []⟩ [(x, u)]) ∧
        (∀ (H : Hp) (a : Addr) (ns : List Int), ns.length ≤ 63 → Only H → SqL K H a (ns.map V.int) → sp [.ref a] H (fun v _ => v = .bl true) fun _ _ _ => False) ∧
        ∀ base : Heap, K.In base → base.Ns mainGlobals mg → FnOk P w K mg base CX0 (2 * n + 2) fa fd [x] sp := by
  rintro w mg fa h ⟨K, KX, c⟩ Gm hfa
  have s := says_of c
  obtain ⟨fd, U⟩ := s.dx jl lx hl
  have hB1 := hB.get hl hsm
  have U2 := U
  rw [simple_ps hsm] at U2
  have hd2 : ∀ (j : Nat) (x : DX), L.defs[j]? = some x → ∃ d, ds[j]? = some d ∧ cDef L.G L.slots x = some d := fun j y hy => by
    have e : (L.defs.map (cDef L.G L.slots))[j]? = (ds.map some)[j]? := by rw [hds]
    rw [List.getElem?_map, List.getElem?_map, hy] at e
    cases hz : ds[j]? with
    | none => rw [hz] at e; cases e
    | some d => rw [hz] at e; exact ⟨d, rfl, Option.some.inj e⟩
  refine ⟨K, fd, fun vs H Q _ => spF K (L.T K) (L.Z K) (sem ds n jl) vs H Q (fun _ _ _ => False), KX, fun s u => ?_, fun H a ns hn hO hq => ?_, fun base hK hG => ?_⟩
  · have := bindsSA U2 hB1 s [u] (by rw [hps]; rfl)
    rw [hps] at this
    exact this
  · obtain ⟨S, hS'⟩ := plain ns hn
    have hsc : ScL K H a (ns.map V.int) := by
      rcases hq with (hq | hq) | hq
      · rcases hO a with z | ⟨o, xs, z⟩
        · rw [z] at hq; cases hq
        · rw [z] at hq; cases hq
      · exact .inl hq
      · exact .inr hq
    have m0 : RS K (L.T K) ⟨fun _ => none, fun _ => False⟩ S0 H := {
      dom := fun n a h => nomatch h
      inj := fun n m a h => nomatch h
      mu := fun n a h => nomatch h
      at_ := fun n o h => by rw [get_nil] at h; cases h
      kd := fun b h => h.elim }
    refine ⟨⟨fun _ => none, fun _ => False⟩, [.sc (ns.map .int)], S0, m0, .cons (.sc hsc (rds_ints ns)) .nil, ?_⟩
    rw [hS']
    intro ρ' H' v e m r
    exact r.bl_inv
  · have all := all_ok (P := P) (w := w) (K := K) (mg := mg) (base := base) (G := L.G) (slots := L.slots) (T := L.T K) (Z := L.Z K) hd2 s.dx (fun j y c hy hc => ⟨s.ini j y c hy hc, (cls_fact s (s.ini j y c hy hc)).2.1⟩) (fun m ih => facts_of s KX Gm hB hS (hKw K) ih) n jl lx hl
    obtain ⟨fd2, U3, ok⟩ := all
    unfold DefOk at ok
    rw [hli] at ok
    have efd : fd2 = fd := by
      obtain ⟨oc, od, dV, kV, doc, pm, an, cdv, ct, osl, e1, lk, _⟩ := U.ex
      obtain ⟨oc2, od2, dV2, kV2, doc2, pm2, an2, cdv2, ct2, osl2, e2, lk2, _⟩ := U3.ex
      rw [lk] at lk2
      cases lk2
      rfl
    subst efd
    have eadr : lx.at_.adr K = fa := by
      rw [hat]
      show He.ga K "law" = fa
      have hm : mg "law" = some (.ref (He.ga K "law")) := by
        cases hg : L.G.defs.lookup (("law" : Str), 1) with
        | none => rw [hg] at hgl; cases hgl
        | some v =>
          have q := s.ok
          unfold Law.ok at q
          simp only [Bool.and_eq_true] at q
          have := all_mem q.1.1.1.1.1.1.1.2 (lookup_in hg)
          simp only [Bool.and_eq_true] at this
          exact glo_mg KX Gm this.1.2
      rw [hfa] at hm
      cases hm
      rfl
    rw [eadr, hps] at ok
    exact fnOk0 ok
end Lk
end
section
/-! S1: the evaluator's equations, for simp. -/
set_option Elab.async false
set_option linter.all false
set_option maxRecDepth 100000
set_option maxHeartbeats 1000000
namespace Lk
@[simp] theorem M.bind_app {α β : Type} (m : M α) (k : α → M β) (S : Store) : M.bind m k S = (match m S with
  | .ok a S' => k a S'
  | .exc c p S' => .exc c p S'
  | .bad => .bad) := rfl
@[simp] theorem M.pure_app {α : Type} (a : α) (S : Store) : M.pure a S = .ok a S := rfl
@[simp] theorem M.opt_some {α : Type} (a : α) (S : Store) : M.opt (some a) S = .ok a S := rfl
@[simp] theorem M.opt_none {α : Type} (S : Store) : M.opt (none : Option α) S = .bad := rfl
@[simp] theorem M.bad_app {α : Type} (S : Store) : (M.bad : M α) S = .bad := rfl
@[simp] theorem M.calm_app {α : Type} (m : M α) (S : Store) : M.calm m S = (match m S with
  | .exc _ _ _ => .bad
  | r => r) := rfl
@[simp] theorem M.at_app {α : Type} (σ : Env) (m : M α) (k : α → M Flow) (S : Store) : M.at σ m k S = (match m S with
  | .ok a S' => k a S'
  | .exc c p S' => .ok (.xc c p σ) S'
  | .bad => .bad) := rfl
section
variable (cal : Nat → List D → M D) (σ : Env) (S : Store)
@[simp] theorem ev_var (i : Nat) : ev cal (.var i) σ S = M.opt (slotOf σ i) S := rfl
@[simp] theorem ev_con (d : D) : ev cal (.con d) σ S = .ok d S := rfl
@[simp] theorem ev_tup (es : XEs) : ev cal (.tup es) σ S = M.bind (evs cal es σ) (fun ds => M.pure (.tup ds)) S := rfl
@[simp] theorem ev_lst (es : XEs) : ev cal (.lst es) σ S = M.bind (evs cal es σ) (fun ds => M.pure (.fl ds)) S := rfl
@[simp] theorem ev_bin (o : Bop) (a b : XE) : ev cal (.bin o a b) σ S = M.bind (ev cal a σ) (fun x => M.bind (ev cal b σ) fun y => fun S => M.opt (binD S o x y) S) S := rfl
@[simp] theorem ev_cmp (o : Cop) (tb : List (Nat × Nat)) (a b : XE) : ev cal (.cmp o tb a b) σ S = M.bind (ev cal a σ) (fun x => M.bind (ev cal b σ) fun y => cmpC cal o tb x y) S := rfl
@[simp] theorem ev_isN (a : XE) : ev cal (.isN a) σ S = M.bind (ev cal a σ) (fun x => M.pure (.bl (isNon x))) S := rfl
@[simp] theorem ev_noN (a : XE) : ev cal (.noN a) σ S = M.bind (ev cal a σ) (fun x => M.pure (.bl (!isNon x))) S := rfl
@[simp] theorem ev_chn (o p : Cop) (a b c : XE) : ev cal (.chn o p a b c) σ S = M.bind (ev cal a σ) (fun x => M.bind (ev cal b σ) fun y => fun S => M.bind (M.opt (cmpD S o x y)) (fun k => match k with
    | true => M.bind (ev cal c σ) fun z => fun S => M.opt ((cmpD S p y z).map .bl) S
    | false => M.pure (.bl false)) S) S := rfl
@[simp] theorem ev_and (a b : XE) : ev cal (.and a b) σ S = M.bind (ev cal a σ) (fun x => match x with
    | .bl true => ev cal b σ
    | .bl false => M.pure (.bl false)
    | _ => M.bad) S := rfl
@[simp] theorem ev_or (a b : XE) : ev cal (.or a b) σ S = M.bind (ev cal a σ) (fun x => match x with
    | .bl true => M.pure (.bl true)
    | .bl false => ev cal b σ
    | _ => M.bad) S := rfl
@[simp] theorem ev_not (a : XE) : ev cal (.not a) σ S = M.bind (ev cal a σ) (fun x => match x with
    | .bl b => M.pure (.bl (!b))
    | _ => M.bad) S := rfl
@[simp] theorem ev_ite (t a b : XE) : ev cal (.ite t a b) σ S = M.bind (ev cal t σ) (fun x => match x with
    | .bl true => ev cal a σ
    | .bl false => ev cal b σ
    | _ => M.bad) S := rfl
@[simp] theorem ev_idx (a i : XE) : ev cal (.idx a i) σ S = M.bind (ev cal a σ) (fun x => M.bind (ev cal i σ) fun y => fun S => M.opt ((intOf y).bind (idxD S x)) S) S := rfl
@[simp] theorem ev_slc (a : XE) (lo hi : XB) : ev cal (.slc a lo hi) σ S = M.bind (ev cal a σ) (fun x => M.bind (evB cal lo σ) fun l => M.bind (evB cal hi σ) fun h => fun S => M.opt (slcD S x l h) S) S := rfl
@[simp] theorem ev_att (tb : List (Nat × Att)) (a : XE) : ev cal (.att tb a) σ S = M.bind (ev cal a σ) (fun x => match x with
    | .ob c fs => match tb.lookup c with
      | some (.slot i) => M.opt fs[i]?
      | some (.prop f) => M.calm (cal f [x])
      | none => M.bad
    | _ => M.bad) S := rfl
@[simp] theorem ev_call (f : Nat) (es : XEs) (pl : List Pl) : ev cal (.call f es pl) σ S = M.bind (evs cal es σ) (fun as => M.bind (M.opt (planned pl as)) fun ps => cal f ps) S := rfl
@[simp] theorem ev_make (c f n : Nat) (es : XEs) (pl : List Pl) : ev cal (.make c f n es pl) σ S = M.bind (evs cal es σ) (fun as => M.bind (M.opt (planned pl as)) fun ps => cal f ps) S := rfl
@[simp] theorem ev_mth (m : Bm) (o : XE) (es : XEs) : ev cal (.mth m o es) σ S = M.bind (ev cal o σ) (fun x => fun S => match mthFits S m x with
    | true => M.bind (evs cal es σ) (fun as => mthD m x as) S
    | false => .bad) S := rfl
@[simp] theorem ev_bi (b : Bi) (es : XEs) : ev cal (.bi b es) σ S = M.bind (evs cal es σ) (fun as => fun S => M.opt (biD S b as) S) S := rfl
@[simp] theorem ev_isi (n : Nat) (ks : List Kd) (a : XE) : ev cal (.isi n ks a) σ S = M.bind (ev cal a σ) (fun x => fun S => M.opt ((kindOf S n ks x).map .bl) S) S := rfl
theorem ev_lcm (own : List Nat) (tg : Tg) (it : XI) (t e : XE) : ev cal (.lcm own tg it t e) σ S = M.bind (M.bind (evI cal it σ) fun p => lcAll p tg own σ (fun σ => M.bind (ev cal t σ) fun x => M.opt (truth x)) (fun σ => ev cal e σ)) (fun ys => M.pure (.fl ys)) S := rfl
@[simp] theorem ev_yes : ev cal .yes σ S = .ok (.bl true) S := rfl
@[simp] theorem ev_mat (a : XE) : ev cal (.mat a) σ S = M.bind (ev cal a σ) (fun x => fun S => match x with
    | .fl xs => .ok (.ref S.next) (S.new (.lst xs))
    | _ => .bad) S := rfl
@[simp] theorem ev_lrng (es : XEs) : ev cal (.lrng es) σ S = M.bind (M.bind (evs cal es σ) fun as => M.opt (rangeD as)) (fun xs => M.pure (.fl xs)) S := rfl
@[simp] theorem evB_no : evB cal .no σ S = .ok none S := rfl
@[simp] theorem evB_so (e : XE) : evB cal (.so e) σ S = M.bind (ev cal e σ) (fun x => M.opt ((intOf x).map some)) S := rfl
@[simp] theorem evI_rng (es : XEs) : evI cal (.rng es) σ S = M.bind (evs cal es σ) (fun as => M.opt ((rangeD as).map fun xs => (xs, []))) S := rfl
@[simp] theorem evI_enm (a : XE) : evI cal (.enm a) σ S = M.bind (ev cal a σ) (fun x => fun S => M.opt ((walkOf S x).map fun xs => (numbered 0 xs, guardOf S x)) S) S := rfl
@[simp] theorem evI_zip (a b : XE) : evI cal (.zip a b) σ S = M.bind (ev cal a σ) (fun x => M.bind (ev cal b σ) fun y => fun S => M.opt (match walkOf S x, walkOf S y with
    | some xs, some ys => some (pairs xs ys, guardOf S x ++ guardOf S y)
    | _, _ => none) S) S := rfl
@[simp] theorem evI_of (a : XE) : evI cal (.of a) σ S = M.bind (ev cal a σ) (fun x => fun S => M.opt ((walkOf S x).map fun xs => (xs, guardOf S x)) S) S := rfl
@[simp] theorem evs_nil : evs cal .nil σ S = .ok [] S := rfl
@[simp] theorem evs_cons (e : XE) (r : XEs) : evs cal (.cons e r) σ S = M.bind (ev cal e σ) (fun x => M.bind (evs cal r σ) fun xs => M.pure (x :: xs)) S := rfl
@[simp] theorem tst_app (c : XE) : tst cal c σ S = M.bind (ev cal c σ) (fun x => M.opt (truth x)) S := rfl
@[simp] theorem ex_pass : ex cal .pass σ S = .ok (.nx σ) S := rfl
@[simp] theorem ex_expr (e : XE) : ex cal (.expr e) σ S = M.at σ (ev cal e σ) (fun _ => M.pure (.nx σ)) S := rfl
@[simp] theorem ex_set (t : Tg) (e : XE) : ex cal (.set t e) σ S = M.at σ (ev cal e σ) (fun d => M.bind (M.opt (setTg t d σ)) fun σ2 => M.pure (.nx σ2)) S := rfl
@[simp] theorem ex_setIx (a i e : XE) : ex cal (.setIx a i e) σ S = M.at σ (ev cal e σ) (fun d => M.at σ (ev cal a σ) fun x => M.at σ (ev cal i σ) fun k => M.bind (setD x k d) fun _ => M.pure (.nx σ)) S := rfl
@[simp] theorem ex_ret (e : XE) : ex cal (.ret e) σ S = M.at σ (ev cal e σ) (fun d => M.pure (.rt d)) S := rfl
@[simp] theorem ex_ite (c : XE) (a b : XSs) : ex cal (.ite c a b) σ S = M.at σ (tst cal c σ) (fun k => match k with
    | true => exs cal a σ
    | false => exs cal b σ) S := rfl
theorem ex_for (tg : Tg) (it : XI) (b : XSs) : ex cal (.for tg it b) σ S = M.at σ (evI cal it σ) (fun p => forGo p.2 tg (exs cal b) p.1 σ) S := rfl
@[simp] theorem ex_brk : ex cal .brk σ S = .ok (.bk σ) S := rfl
@[simp] theorem ex_raise (c : Nat) (es : XEs) : ex cal (.raise c es) σ S = M.at σ (evs cal es σ) (fun ds => M.pure (.xc c ds σ)) S := rfl
@[simp] theorem ex_try (b : XSs) (hs : XHs) : ex cal (.tryy b hs) σ S = M.bind (exs cal b σ) (fun f => match f with
    | .xc c p σ2 => hnd cal hs c p σ2
    | f => M.pure f) S := rfl
@[simp] theorem exs_nil : exs cal .nil σ S = .ok (.nx σ) S := rfl
@[simp] theorem exs_cons (s : XS) (r : XSs) : exs cal (.cons s r) σ S = M.bind (ex cal s σ) (fun f => match f with
    | .nx σ2 => exs cal r σ2
    | f => M.pure f) S := rfl
end
@[simp] theorem slotOf_zero (d : D) (σ : Env) : slotOf (some d :: σ) 0 = some d := rfl
@[simp] theorem slotOf_succ (x : Option D) (σ : Env) (i : Nat) : slotOf (x :: σ) (i + 1) = slotOf σ i := by simp [slotOf]
@[simp] theorem setTg_nm (i : Nat) (d : D) (σ : Env) : setTg (.nm i) d σ = some (σ.set i (some d)) := rfl
@[simp] theorem setTg_tp (ts : Tgs) (xs : List D) (σ : Env) : setTg (.tp ts) (.tup xs) σ = setTgs ts xs σ := rfl
@[simp] theorem setTgs_nil (σ : Env) : setTgs .nil [] σ = some σ := rfl
@[simp] theorem setTgs_cons (t : Tg) (r : Tgs) (x : D) (xs : List D) (σ : Env) : setTgs (.cons t r) (x :: xs) σ = (match setTg t x σ with
    | some σ2 => setTgs r xs σ2
    | none => none) := rfl
/-- a def is run -/
theorem sem_fn (ds : List Def) (k j : Nat) (d : Def) (as : List D) (S : Store) (hd : ds[j]? = some d) (hi : d.ini = none) (hl : as.length = d.par) : sem ds (k + 1) j as S = (match exs (sem ds k) d.body (as.map some ++ List.replicate d.loc none) S with
  | .ok (.nx _) S' => .ok .non S'
  | .ok (.rt v) S' => .ok v S'
  | .ok (.xc c p _) S' => .exc c p S'
  | _ => .bad) := by
  show (match ds[j]? with | some d => runDef (sem ds k) d as | none => M.bad) S = _
  rw [hd]
  show runDef (sem ds k) d as S = _
  unfold runDef
  rw [decide_eq_true hl, hi]
  simp only [M.bind_app, M.calm_app]
  cases exs (sem ds k) d.body (as.map some ++ List.replicate d.loc none) S with
  | bad => rfl
  | exc _ _ _ => rfl
  | ok f S' => cases f <;> rfl
theorem sem_ini (ds : List Def) (k j : Nat) (d : Def) (c : Nat) (es : XEs) (as : List D) (S : Store) (hd : ds[j]? = some d) (hi : d.ini = some (c, es)) (hl : as.length = d.par) : sem ds (k + 1) j as S = (match exs (sem ds k) d.body (none :: (as.map some ++ List.replicate d.loc none)) S with
  | .ok (.nx σ) S' => (match σ with
    | none :: _ => M.bind (evs (sem ds k) es σ) (fun ds => M.pure (.ob c ds)) S'
    | _ => .bad)
  | .ok (.xc c p _) S' => .exc c p S'
  | _ => .bad) := by
  show (match ds[j]? with | some d => runDef (sem ds k) d as | none => M.bad) S = _
  rw [hd]
  show runDef (sem ds k) d as S = _
  unfold runDef
  rw [decide_eq_true hl, hi]
  simp only [M.bind_app, M.calm_app]
  cases exs (sem ds k) d.body (none :: (as.map some ++ List.replicate d.loc none)) S with
  | bad => rfl
  | exc _ _ _ => rfl
  | ok f S' =>
    cases f with
    | nx σ =>
      cases σ with
      | nil => rfl
      | cons a r => cases a <;> rfl
    | _ => rfl
/-! ### turns -/
/-- a comprehension whose parts leave the store -/
theorem lcGo_map {g : Gd} {tg : Tg} {own : List Nat} {σ : Env} {t : Env → M Bool} {e : Env → M D} {S : Store} (f : D → D) (hg : stands S g = true) : ∀ {xs : List D}, (∀ x ∈ xs, ∃ σ2, setTg tg x (wipeE σ own) = some σ2 ∧ t σ2 S = .ok true S ∧ e σ2 S = .ok (f x) S) → lcGo g tg own σ t e xs S = .ok (xs.map f) S
  | [], _ => by
    have : M.chk g S = .ok () S := by unfold M.chk; rw [hg]
    simp [lcGo, this]
  | x :: xs, h => by
    have hc : M.chk g S = .ok () S := by unfold M.chk; rw [hg]
    obtain ⟨σ2, h1, h2, h3⟩ := h x List.mem_cons_self
    have ih := lcGo_map (g := g) (tg := tg) (own := own) (σ := σ) (t := t) (e := e) f hg (xs := xs) fun y hy => h y (List.mem_cons_of_mem _ hy)
    simp [lcGo, hc, h1, h2, h3, ih]
theorem lcAll_map {xs : List D} {g : Gd} {tg : Tg} {own : List Nat} {σ : Env} {t : Env → M Bool} {e : Env → M D} {S : Store} (f : D → D) (hl : xs.length ≤ sizeMax) (hg : stands S g = true) (h : ∀ x ∈ xs, ∃ σ2, setTg tg x (wipeE σ own) = some σ2 ∧ t σ2 S = .ok true S ∧ e σ2 S = .ok (f x) S) : lcAll (xs, g) tg own σ t e S = .ok (xs.map f) S := by
  unfold lcAll
  rw [decide_eq_true hl]
  exact lcGo_map f hg h
theorem ev_lc {cal : Nat → List D → M D} {own : List Nat} {tg : Tg} {it : XI} {t e : XE} {σ : Env} {S : Store} {xs : List D} {g : Gd} (f : D → D) (hi : evI cal it σ S = .ok (xs, g) S) (hl : xs.length ≤ sizeMax) (hg : stands S g = true)
    (h : ∀ x ∈ xs, ∃ σ2, setTg tg x (wipeE σ own) = some σ2 ∧ ev cal t σ2 S = .ok (.bl true) S ∧ ev cal e σ2 S = .ok (f x) S) : ev cal (.lcm own tg it t e) σ S = .ok (.fl (xs.map f)) S := by
  rw [ev_lcm]
  simp only [M.bind_app, hi]
  rw [lcAll_map f hl hg fun x hx => ?_]
  · rfl
  · obtain ⟨σ2, h1, h2, h3⟩ := h x hx
    exact ⟨σ2, h1, by simp [h2, truth], h3⟩
/-! ### data -/
@[simp] theorem cmpC_non (cal : Nat → List D → M D) (o : Cop) (tb : List (Nat × Nat)) (y : D) (S : Store) : cmpC cal o tb .non y S = M.opt ((cmpD S o .non y).map .bl) S := rfl
@[simp] theorem cmpC_int (cal : Nat → List D → M D) (o : Cop) (tb : List (Nat × Nat)) (i : Int) (y : D) (S : Store) : cmpC cal o tb (.int i) y S = M.opt ((cmpD S o (.int i) y).map .bl) S := rfl
@[simp] theorem cmpC_str (cal : Nat → List D → M D) (o : Cop) (tb : List (Nat × Nat)) (i : List Nat) (y : D) (S : Store) : cmpC cal o tb (.str i) y S = M.opt ((cmpD S o (.str i) y).map .bl) S := rfl
@[simp] theorem cmpC_tup (cal : Nat → List D → M D) (o : Cop) (tb : List (Nat × Nat)) (i : List D) (y : D) (S : Store) : cmpC cal o tb (.tup i) y S = M.opt ((cmpD S o (.tup i) y).map .bl) S := rfl
@[simp] theorem cmpC_fl (cal : Nat → List D → M D) (o : Cop) (tb : List (Nat × Nat)) (i : List D) (y : D) (S : Store) : cmpC cal o tb (.fl i) y S = M.opt ((cmpD S o (.fl i) y).map .bl) S := rfl
@[simp] theorem cmpC_bl (cal : Nat → List D → M D) (o : Cop) (tb : List (Nat × Nat)) (i : Bool) (y : D) (S : Store) : cmpC cal o tb (.bl i) y S = M.opt ((cmpD S o (.bl i) y).map .bl) S := rfl
@[simp] theorem cmpD_eq (S : Store) (x y : D) : cmpD S .eq x y = eqS S x y := rfl
@[simp] theorem cmpD_ne (S : Store) (x y : D) : cmpD S .ne x y = (eqS S x y).map (!·) := rfl
@[simp] theorem cmpD_inn (S : Store) (x y : D) : cmpD S .inn x y = inD S x y := rfl
@[simp] theorem cmpD_nin (S : Store) (x y : D) : cmpD S .nin x y = (inD S x y).map (!·) := rfl
@[simp] theorem cmpD_lt (S : Store) (i j : Int) : cmpD S .lt (.int i) (.int j) = some (decide (i < j)) := rfl
@[simp] theorem cmpD_le (S : Store) (i j : Int) : cmpD S .le (.int i) (.int j) = some (decide (i ≤ j)) := rfl
@[simp] theorem cmpD_gt (S : Store) (i j : Int) : cmpD S .gt (.int i) (.int j) = some (decide (j < i)) := rfl
@[simp] theorem cmpD_ge (S : Store) (i j : Int) : cmpD S .ge (.int i) (.int j) = some (decide (j ≤ i)) := rfl
@[simp] theorem eqS_int (S : Store) (i j : Int) : eqS S (.int i) (.int j) = some (i == j) := rfl
@[simp] theorem eqS_int_non (S : Store) (i : Int) : eqS S (.int i) .non = some false := rfl
@[simp] theorem eqS_non_int (S : Store) (i : Int) : eqS S .non (.int i) = some false := rfl
@[simp] theorem eqS_non (S : Store) : eqS S .non .non = some true := rfl
theorem all_truth (f : D → Bool) : ∀ xs : List D, allSome truth (xs.map fun x => D.bl (f x)) = some (xs.map f)
  | [] => rfl
  | x :: xs => by simp [allSome, truth, all_truth f xs]
@[simp] theorem bi_all_map (S : Store) (f : D → Bool) (xs : List D) : biD S .all [.fl (xs.map fun x => D.bl (f x))] = some (.bl (xs.all f)) := by
  simp [biD, seqOf, itemsOf, all_truth, List.all_map]
@[simp] theorem bi_len_tup (S : Store) (xs : List D) : biD S .len [.tup xs] = some (.int xs.length) := rfl
@[simp] theorem bi_len_fl (S : Store) (xs : List D) : biD S .len [.fl xs] = some (.int xs.length) := rfl
@[simp] theorem bi_tuple_fl (S : Store) (xs : List D) : biD S .tuple [.fl xs] = some (.tup xs) := rfl
@[simp] theorem bi_tuple_tup (S : Store) (xs : List D) : biD S .tuple [.tup xs] = some (.tup xs) := rfl
end Lk
end
section
set_option Elab.async false
set_option linter.all false
set_option maxRecDepth 100000
set_option maxHeartbeats 0
namespace K39
open PySem PySem.Spec PyProof.Rows L2 SlX Lk
abbrev R : PySem.W.OpenRow := PySem.W.OpenLaw.row PySem.Challenge.rw_lackmark_k39_whole_data_texts
def st (i : Nat) : Stmt := PySem.Challenge.pw_lackmark_k39_whole_data_texts.main.body.getD i (.Pass ⟨0, 0, 0, 0⟩)
def cm (i k : Nat) : Stmt := match st i with
  | .ClassDef _ _ _ body _ _ _ _ _ _ _ => body.getD k (.Pass ⟨0, 0, 0, 0⟩)
  | _ => .Pass ⟨0, 0, 0, 0⟩
def d0 : DX := { at_ := .fn "law", name := "law", qual := "law", params := defArgs (st 44), body := defBody (st 44), scope := defScope (st 44), N := ["_law_script", "_law_draw_here", "_law_turn", "_law_long", "_law_wide", "_law_marks", "_law_rows", "_law_data", "_law_due_here", "_law_own", "_law_times", "_law_given", "_law_lines_here", "_law_text", "_law_more", "_law_thing", "_law_column", "_law_row", "_law_item", "_law_mark"], mu := [1] }
def d1 : DX := { at_ := .meth "Data" "__init__", name := "__init__", qual := "Data.__init__", params := defArgs (cm 16 1), body := defBody (cm 16 1), scope := defScope (cm 16 1), N := ["self", "rows", "width", "many", "row"], kwd := [("width", .int 1)], ini := some 0 }
def d2 : DX := { at_ := .meth "Marks" "__init__", name := "__init__", qual := "Marks.__init__", params := defArgs (cm 24 1), body := defBody (cm 24 1), scope := defScope (cm 24 1), N := ["self", "columns", "registers"], ini := some 1 }
def d3 : DX := { at_ := .fn "_law_next", name := "_law_next", qual := "_law_next", params := defArgs (st 37), body := defBody (st 37), scope := defScope (st 37), N := ["_law_draw_here", "_law_bound", "_law_at", "_law_cell"], mu := [0] }
def d4 : DX := { at_ := .fn "_law_lines", name := "_law_lines", qual := "_law_lines", params := defArgs (st 39), body := defBody (st 39), scope := defScope (st 39), N := ["_law_rows", "_law_marks", "_law_found", "_law_row", "_law_items", "_law_item", "_law_mark"], mu := [2] }
def d5 : DX := { at_ := .fn "read_data", name := "read_data", qual := "read_data", params := defArgs (st 32), body := defBody (st 32), scope := defScope (st 32), N := ["text", "marks", "found", "lines", "rest", "index", "line", "words", "items", "word", "mark", "item", "is_one"], mu := [2] }
def d6 : DX := { at_ := .fn "_law_bent", name := "_law_bent", qual := "_law_bent", params := defArgs (st 43), body := defBody (st 43), scope := defScope (st 43), N := ["_law_draw_here", "_law_lines_here", "_law_spot", "_law_text", "_law_kind", "_law_at", "_law_line"], mu := [0] }
def d7 : DX := { at_ := .fn "_law_told", name := "_law_told", qual := "_law_told", params := defArgs (st 42), body := defBody (st 42), scope := defScope (st 42), N := ["_law_text", "_law_marks", "error"] }
def d8 : DX := { at_ := .fn "_law_pick", name := "_law_pick", qual := "_law_pick", params := defArgs (st 38), body := defBody (st 38), scope := defScope (st 38), N := ["_law_draw_here", "_law_things"], mu := [0] }
def d9 : DX := { at_ := .fn "data_text", name := "data_text", qual := "data_text", params := defArgs (st 30), body := defBody (st 30), scope := defScope (st 30), N := ["data", "marks", "found", "row", "line", "item", "mark"], mu := [2] }
def d10 : DX := { at_ := .fn "_law_due", name := "_law_due", qual := "_law_due", params := defArgs (st 41), body := defBody (st 41), scope := defScope (st 41), N := ["_law_text", "_law_marks", "_law_lines_here", "_law_rows", "_law_line"] }
def d11 : DX := { at_ := .fn "width_of", name := "width_of", qual := "width_of", params := defArgs (st 15), body := defBody (st 15), scope := defScope (st 15), N := ["rows", "width"] }
def d12 : DX := { at_ := .fn "is_row", name := "is_row", qual := "is_row", params := defArgs (st 14), body := defBody (st 14), scope := defScope (st 14), N := ["thing", "width", "most", "item"] }
def d13 : DX := { at_ := .fn "are_marks", name := "are_marks", qual := "are_marks", params := defArgs (st 22), body := defBody (st 22), scope := defScope (st 22), N := ["thing", "most", "mark"] }
def d14 : DX := { at_ := .fn "_law_number", name := "_law_number", qual := "_law_number", params := defArgs (st 36), body := defBody (st 36), scope := defScope (st 36), N := ["_law_cell", "_law_k", "_law_bound", "_law_power", "_law_times", "_law_over", "_law_small"] }
def d15 : DX := { at_ := .fn "_law_cell_at", name := "_law_cell_at", qual := "_law_cell_at", params := defArgs (st 34), body := defBody (st 34), scope := defScope (st 34), N := ["_law_script", "_law_k"] }
def d16 : DX := { at_ := .fn "check_marks", name := "check_marks", qual := "check_marks", params := defArgs (st 25), body := defBody (st 25), scope := defScope (st 25), N := ["marks"] }
def d17 : DX := { at_ := .fn "lines_in", name := "lines_in", qual := "lines_in", params := defArgs (st 29), body := defBody (st 29), scope := defScope (st 29), N := ["text", "rows"] }
def d18 : DX := { at_ := .fn "item_in", name := "item_in", qual := "item_in", params := defArgs (st 31), body := defBody (st 31), scope := defScope (st 31), N := ["word", "mark"] }
def d19 : DX := { at_ := .fn "check_data", name := "check_data", qual := "check_data", params := defArgs (st 18), body := defBody (st 18), scope := defScope (st 18), N := ["data"] }
def d20 : DX := { at_ := .fn "word_of", name := "word_of", qual := "word_of", params := defArgs (st 28), body := defBody (st 28), scope := defScope (st 28), N := ["item"] }
def d21 : DX := { at_ := .fn "_law_line_in", name := "_law_line_in", qual := "_law_line_in", params := defArgs (st 40), body := defBody (st 40), scope := defScope (st 40), N := ["_law_line", "_law_marks", "_law_words", "_law_found", "_law_word", "_law_mark"], mu := [3] }
def d22 : DX := { at_ := .fn "is_number", name := "is_number", qual := "is_number", params := defArgs (st 12), body := defBody (st 12), scope := defScope (st 12), N := ["thing", "least", "most"] }
def d23 : DX := { at_ := .fn "is_held", name := "is_held", qual := "is_held", params := defArgs (st 13), body := defBody (st 13), scope := defScope (st 13), N := ["thing", "most"] }
def d24 : DX := { at_ := .fn "_law_draw", name := "_law_draw", qual := "_law_draw", params := defArgs (st 35), body := defBody (st 35), scope := defScope (st 35), N := ["_law_cell", "_law_k", "_law_bound", "_law_primes"] }
def d25 : DX := { at_ := .prop "Data" "rows", name := "rows", qual := "Data.rows", params := defArgs (cm 16 3), body := defBody (cm 16 3), scope := defScope (cm 16 3), N := ["self"] }
def d26 : DX := { at_ := .prop "Data" "width", name := "width", qual := "Data.width", params := defArgs (cm 16 4), body := defBody (cm 16 4), scope := defScope (cm 16 4), N := ["self"] }
def d27 : DX := { at_ := .prop "Marks" "columns", name := "columns", qual := "Marks.columns", params := defArgs (cm 24 2), body := defBody (cm 24 2), scope := defScope (cm 24 2), N := ["self"] }
def d28 : DX := { at_ := .meth "Data" "__eq__", name := "__eq__", qual := "Data.__eq__", params := defArgs (cm 16 19), body := defBody (cm 16 19), scope := defScope (cm 16 19), N := ["self", "other"] }
def d29 : DX := { at_ := .meth "Marks" "__eq__", name := "__eq__", qual := "Marks.__eq__", params := defArgs (cm 24 12), body := defBody (cm 24 12), scope := defScope (cm 24 12), N := ["self", "other"] }
def s3 : SX := { c := 3, name := "__init__", qual := "BadText.__init__", params := defArgs (cm 7 0), scope := defScope (cm 7 0), tx := "not the text that is due", j := 0, ps := [⟨17, 8, 17, 13⟩, ⟨17, 8, 17, 15⟩, ⟨17, 8, 17, 24⟩, ⟨17, 25, 17, 51⟩, ⟨17, 8, 17, 52⟩, ⟨17, 8, 17, 52⟩, ⟨18, 8, 18, 12⟩, ⟨18, 8, 18, 16⟩, ⟨18, 19, 18, 22⟩, ⟨18, 8, 18, 22⟩] }
def G : Gt := { defs := [(("law", 1), (0, [])), (("_law_next", 2), (3, [])), (("_law_lines", 2), (4, [])), (("read_data", 2), (5, [])), (("_law_bent", 2), (6, [])), (("_law_told", 2), (7, [])), (("_law_pick", 2), (8, [])), (("data_text", 2), (9, [])), (("_law_due", 2), (10, [])), (("width_of", 2), (11, [])), (("is_row", 3), (12, [])), (("are_marks", 2), (13, [])), (("_law_number", 3), (14, [])), (("_law_cell_at", 2), (15, [])), (("check_marks", 1), (16, [])), (("lines_in", 1), (17, [])), (("item_in", 2), (18, [])), (("check_data", 1), (19, [])), (("word_of", 1), (20, [])), (("_law_line_in", 2), (21, [])), (("is_number", 3), (22, [])), (("is_held", 2), (23, [])), (("_law_draw", 3), (24, []))], cons := [("MOST_ROWS", .int 300), ("MOST_NUMBER", .int 9), ("MOST_REGISTERS", .int 3), ("MOST_COLUMNS", .int 2), ("DIGITS", .str [48, 49, 50, 51, 52, 53, 54, 55, 56, 57])], blts := ["range", "tuple", "list", "zip", "isinstance", "len", "all", "int", "str", "enumerate", "bool", "property"], ncl := 2, clss := [("Data", 0), ("Marks", 1)], atts := [("own_rows", [(0, .slot 0)]), ("own_width", [(0, .slot 1)]), ("own_columns", [(1, .slot 0)]), ("own_registers", [(1, .slot 1)]), ("rows", [(0, .prop 25)]), ("width", [(0, .prop 26)]), ("columns", [(1, .prop 27)])], maks := [(("Marks", 2), (1, 2, []))], makk := [(("Data", 1, ["width"]), (0, 1))], errs := [("BadData", 1), ("BadMarks", 2)], erri := [("BadText", 3)], hans := [], flds := [(("BadText", "row"), (3, [0, 1, 2]))], eqs := [(0, 28), (1, 29)] }
def LW : Law := { cn := ["Data", "Marks"], sl := [["own_rows", "own_width"], ["own_columns", "own_registers"]], en := ["LackError", "BadData", "BadMarks", "BadText"], ef := [none, none, none, some ("row", "row")], defs := [d0, d1, d2, d3, d4, d5, d6, d7, d8, d9, d10, d11, d12, d13, d14, d15, d16, d17, d18, d19, d20, d21, d22, d23, d24, d25, d26, d27, d28, d29], sups := [s3], G := G }
def nm0 : List PySem.Str := ["LackError", "BadData", "BadRow", "BadNumber", "BadMarks", "BadPlace", "BadText", "MOST_NUMBER", "MOST_ROWS", "MOST_COLUMNS", "is_number", "is_held", "is_row", "width_of", "Data", "repeated", "check_data", "REGISTERS", "MOST_REGISTERS", "are_marks", "is_register", "Marks", "check_marks", "DIGITS", "word_of", "lines_in", "data_text", "item_in", "read_data", "_law_cell_at"]
def nm1 : List PySem.Str := ["_law_draw", "_law_number", "_law_next", "_law_pick", "_law_lines", "_law_line_in", "_law_due", "_law_told", "_law_bent"]
def names : List PySem.Str := nm0 ++ nm1
abbrev hk : PySem.W.Hook := hookX 6 LW R.prog
def ob (s : PySem.W.SharedT) : AlX := obsXG 6 LW R.prog (HandSHeadRun.getT s)
theorem ob_eq (s : PySem.W.SharedT) : ob s = hk.obs s.abs := obsXG_eq (HandSHeadRun.getT_eq s)
theorem runf (w : World) : HandSHeadRun.RunEq R (PySem.W.view R.prog [44]) hk ob 20000 names (w.withFollow "special-get-raises" false) := by
  intro os
  kernel_rfl
theorem runt (w : World) : HandSHeadRun.RunEq R (PySem.W.view R.prog [44]) hk ob 20000 names (w.withFollow "special-get-raises" true) := by
  intro os
  kernel_rfl
theorem run (w : World) : HandSHeadRun.RunEq R (PySem.W.view R.prog [44]) hk ob 20000 names w := PySem.W.byRow2 "special-get-raises" runf runt w
end K39
end
section
set_option Elab.async false
set_option linter.all false
set_option maxRecDepth 100000
set_option maxHeartbeats 1000000
namespace K39P
open Lk
def c0_0 : XE := (.lcm [16] (.nm 16) (.rng (.cons (.var 4) .nil)) .yes (.call 8 (.cons (.var 1) (.cons (.bin .add (.lst (.cons (.con .non) (.cons (.con (.int 0)) (.cons (.con (.int 9)) .nil)))) (.lrng (.cons (.con (.int 10)) .nil))) .nil)) [.arg 0, .arg 1]))
def c0_1 : XE := (.lcm [16] (.nm 16) (.rng (.cons (.var 4) .nil)) .yes (.call 8 (.cons (.var 1) (.cons (.bin .add (.lst (.cons (.con .non) .nil)) (.lrng (.cons (.con (.int 10)) .nil))) .nil)) [.arg 0, .arg 1]))
def c0_2 : XE := (.lcm [14] (.nm 14) (.rng (.cons (.call 3 (.cons (.var 1) (.cons (.con (.int 6)) .nil)) [.arg 0, .arg 1]) .nil)) .yes (.bi .tuple (.cons c0_1 .nil)))
def c0_3 : XE := (.lcm [18, 19] (.tp (.cons (.nm 18) (.cons (.nm 19) .nil))) (.zip (.var 17) (.var 5)) .yes (.ite (.cmp .eq [(0, 28), (1, 29)] (.var 18) (.var 19)) (.con .non) (.var 18)))
def c0_4 : XE := (.lcm [17] (.nm 17) (.of (.var 6)) .yes (.bi .tuple (.cons c0_3 .nil)))
def b0_5 : XSs := (.cons (.set (.nm 13) (.call 6 (.cons (.var 1) (.cons (.var 12) .nil)) [.arg 0, .arg 1])) (.cons (.ite (.cmp .ne [(0, 28), (1, 29)] (.call 7 (.cons (.var 13) (.cons (.var 11) .nil)) [.arg 0, .arg 1]) (.call 10 (.cons (.var 13) (.cons (.var 5) .nil)) [.arg 0, .arg 1])) (.cons (.ret (.con (.bl false))) .nil) .nil) .nil))
def b0_6 : XSs := (.cons (.set (.nm 4) (.bin .add (.con (.int 1)) (.call 3 (.cons (.var 1) (.cons (.con (.int 2)) .nil)) [.arg 0, .arg 1]))) (.cons (.set (.nm 5) (.bi .tuple (.cons c0_0 .nil))) (.cons (.set (.nm 6) c0_2) (.cons (.set (.tp (.cons (.nm 11) (.cons (.nm 12) .nil))) (.tup (.cons (.make 1 2 0 (.cons (.var 5) (.cons (.tup (.cons (.call 8 (.cons (.var 1) (.cons (.lst (.cons (.con .non) (.cons (.con (.int 3)) .nil))) .nil)) [.arg 0, .arg 1]) .nil)) .nil)) [.arg 0, .arg 1]) (.cons (.call 4 (.cons (.var 6) (.cons (.var 5) .nil)) [.arg 0, .arg 1]) .nil)))) (.cons (.set (.nm 7) (.make 0 1 0 (.cons (.var 6) (.cons (.var 4) .nil)) [.arg 0, .arg 1])) (.cons (.ite (.or (.cmp .ne [(0, 28), (1, 29)] (.call 9 (.cons (.var 7) (.cons (.var 11) .nil)) [.arg 0, .arg 1]) (.mth .join (.con (.str [])) (.cons (.var 12) .nil))) (.cmp .ne [(0, 28), (1, 29)] (.att [(0, .prop 26)] (.call 5 (.cons (.mth .join (.con (.str [])) (.cons (.var 12) .nil)) (.cons (.var 11) .nil)) [.arg 0, .arg 1])) (.var 4))) (.cons (.ret (.con (.bl false))) .nil) .nil) (.cons (.set (.nm 8) (.bi .tuple (.cons c0_4 .nil))) (.cons (.ite (.cmp .ne [(0, 28), (1, 29)] (.att [(0, .prop 25)] (.call 5 (.cons (.mth .join (.con (.str [])) (.cons (.var 12) .nil)) (.cons (.var 11) .nil)) [.arg 0, .arg 1])) (.var 8)) (.cons (.ret (.con (.bl false))) .nil) .nil) (.cons (.set (.nm 9) (.make 1 2 0 (.cons (.bin .mul (.tup (.cons (.con .non) .nil)) (.var 4)) (.cons (.tup (.cons (.con .non) .nil)) .nil)) [.arg 0, .arg 1])) (.cons (.ite (.cmp .ne [(0, 28), (1, 29)] (.call 5 (.cons (.call 9 (.cons (.var 7) (.cons (.var 9) .nil)) [.arg 0, .arg 1]) (.cons (.var 9) .nil)) [.arg 0, .arg 1]) (.var 7)) (.cons (.ret (.con (.bl false))) .nil) .nil) (.cons (.for (.nm 10) (.rng (.cons (.con (.int 10)) .nil)) b0_5) .nil)))))))))))
def c0_7 : XE := (.lcm [15] (.nm 15) (.of (.tup (.cons (.con .non) (.cons (.con (.int 5)) (.cons (.lst (.cons (.con (.str [49, 10])) .nil)) (.cons (.tup (.cons (.con (.str [49, 10])) .nil)) .nil)))))) .yes (.call 7 (.cons (.var 15) (.cons (.make 1 2 0 (.cons (.tup (.cons (.con (.int 0)) .nil)) (.cons (.tup (.cons (.con (.int 0)) .nil)) .nil)) [.arg 0, .arg 1]) .nil)) [.arg 0, .arg 1]))
def e0 : Def := ⟨1, 19, none, (.cons (.set (.nm 1) (.mat (.lst (.cons (.slc (.var 0) .no (.so (.con (.int 63)))) (.cons (.con (.int 0)) (.cons (.con (.int 0)) .nil)))))) (.cons (.for (.nm 2) (.rng (.cons (.con (.int 6)) .nil)) b0_6) (.cons (.set (.nm 3) (.bin .mul (.con (.str [49, 10])) (.con (.int 300)))) (.cons (.ite (.or (.cmp .ne [(0, 28), (1, 29)] (.call 7 (.cons (.var 3) (.cons (.make 1 2 0 (.cons (.tup (.cons (.con (.int 0)) .nil)) (.cons (.tup (.cons (.con (.int 0)) .nil)) .nil)) [.arg 0, .arg 1]) .nil)) [.arg 0, .arg 1]) (.bin .mul (.tup (.cons (.tup (.cons (.con (.int 1)) .nil)) .nil)) (.con (.int 300)))) (.cmp .ne [(0, 28), (1, 29)] (.call 7 (.cons (.bin .add (.var 3) (.con (.str [49, 10]))) (.cons (.make 1 2 0 (.cons (.tup (.cons (.con (.int 0)) .nil)) (.cons (.tup (.cons (.con (.int 0)) .nil)) .nil)) [.arg 0, .arg 1]) .nil)) [.arg 0, .arg 1]) (.con (.int 300)))) (.cons (.ret (.con (.bl false))) .nil) .nil) (.cons (.ret (.cmp .eq [(0, 28), (1, 29)] c0_7 (.bin .mul (.lst (.cons (.con (.int 0)) .nil)) (.con (.int 4))))) .nil)))))⟩
def c1_0 : XE := (.lcm [4] (.nm 4) (.of (.var 1)) .yes (.call 12 (.cons (.var 4) (.cons (.var 3) (.cons (.con (.int 9)) .nil))) [.arg 0, .arg 1, .arg 2]))
def e1 : Def := ⟨2, 2, some (0, (.cons (.bi .tuple (.cons (.var 1) .nil)) (.cons (.var 3) .nil))), (.cons (.ite (.or (.not (.isi 2 [.lst, .tup] (.var 1))) (.cmp .gt [] (.bi .len (.cons (.var 1) .nil)) (.con (.int 300)))) (.cons (.raise 1 .nil) .nil) .nil) (.cons (.set (.nm 3) (.call 11 (.cons (.var 1) (.cons (.var 2) .nil)) [.arg 0, .arg 1])) (.cons (.ite (.or (.isN (.var 3)) (.not (.bi .all (.cons c1_0 .nil)))) (.cons (.raise 1 .nil) .nil) .nil) .nil)))⟩
def e2 : Def := ⟨2, 0, some (1, (.cons (.var 1) (.cons (.var 2) .nil))), (.cons (.ite (.or (.not (.call 13 (.cons (.var 1) (.cons (.con (.int 2)) .nil)) [.arg 0, .arg 1])) (.not (.call 13 (.cons (.var 2) (.cons (.con (.int 3)) .nil)) [.arg 0, .arg 1]))) (.cons (.raise 2 .nil) .nil) .nil) .nil)⟩
def e3 : Def := ⟨2, 2, none, (.cons (.setIx (.var 0) (.con (.int 2)) (.bin .add (.idx (.var 0) (.con (.int 2))) (.con (.int 1)))) (.cons (.set (.nm 2) (.bin .fdiv (.idx (.var 0) (.con (.int 2))) (.con (.int 12)))) (.cons (.set (.nm 3) (.bin .add (.call 15 (.cons (.idx (.var 0) (.con (.int 0))) (.cons (.bin .add (.idx (.var 0) (.con (.int 1))) (.var 2)) .nil)) [.arg 0, .arg 1]) (.bin .mul (.con (.int 31)) (.var 2)))) (.cons (.ret (.call 14 (.cons (.var 3) (.cons (.bin .add (.bin .mod (.bi .int (.cons (.idx (.var 0) (.con (.int 2))) .nil)) (.con (.int 12))) (.con (.int 1))) (.cons (.var 1) .nil))) [.arg 0, .arg 1, .arg 2])) .nil))))⟩
def c4_0 : XE := (.lcm [5, 6] (.tp (.cons (.nm 5) (.cons (.nm 6) .nil))) (.zip (.var 3) (.var 1)) .yes (.ite (.isN (.var 5)) (.var 6) (.var 5)))
def c4_1 : XE := (.lcm [5] (.nm 5) (.of (.var 4)) .yes (.ite (.isN (.var 5)) (.con (.str [45])) (.bi .str (.cons (.var 5) .nil))))
def b4_2 : XSs := (.cons (.set (.nm 4) c4_0) (.cons (.expr (.mth .append (.var 2) (.cons (.bin .add (.mth .join (.con (.str [32])) (.cons c4_1 .nil)) (.con (.str [10]))) .nil))) .nil))
def e4 : Def := ⟨2, 5, none, (.cons (.set (.nm 2) (.mat (.lst .nil))) (.cons (.for (.nm 3) (.of (.var 0)) b4_2) (.cons (.ret (.var 2)) .nil)))⟩
def c5_0 : XE := (.lcm [9, 10] (.tp (.cons (.nm 9) (.cons (.nm 10) .nil))) (.zip (.var 7) (.att [(1, .prop 27)] (.var 1))) .yes (.call 18 (.cons (.var 9) (.cons (.var 10) .nil)) [.arg 0, .arg 1]))
def c5_1 : XE := (.lcm [11, 12] (.tp (.cons (.nm 11) (.cons (.nm 12) .nil))) (.of (.var 8)) .yes (.var 12))
def c5_2 : XE := (.lcm [11, 12] (.tp (.cons (.nm 11) (.cons (.nm 12) .nil))) (.of (.var 8)) .yes (.var 11))
def b5_3 : XSs := (.cons (.set (.nm 7) (.mth .split (.var 6) (.cons (.con (.str [32])) .nil))) (.cons (.ite (.or (.cmp .ne [(0, 28), (1, 29)] (.bi .len (.cons (.var 7) .nil)) (.bi .len (.cons (.att [(1, .prop 27)] (.var 1)) .nil))) (.cmp .ge [] (.var 5) (.con (.int 300)))) (.cons (.raise 3 (.cons (.var 5) .nil)) .nil) .nil) (.cons (.set (.nm 8) c5_0) (.cons (.ite (.not (.bi .all (.cons c5_1 .nil))) (.cons (.raise 3 (.cons (.var 5) .nil)) .nil) .nil) (.cons (.expr (.mth .append (.var 2) (.cons (.bi .tuple (.cons c5_2 .nil)) .nil))) .nil)))))
def e5 : Def := ⟨2, 11, none, (.cons (.expr (.call 16 (.cons (.var 1) .nil) [.arg 0])) (.cons (.set (.tp (.cons (.nm 3) (.cons (.nm 4) .nil))) (.call 17 (.cons (.var 0) .nil) [.arg 0])) (.cons (.set (.nm 2) (.mat (.lst .nil))) (.cons (.for (.tp (.cons (.nm 5) (.cons (.nm 6) .nil))) (.enm (.var 3)) b5_3) (.cons (.ite (.cmp .ne [(0, 28), (1, 29)] (.var 4) (.con (.str []))) (.cons (.raise 3 (.cons (.bi .len (.cons (.var 3) .nil)) .nil)) .nil) .nil) (.cons (.ret (.make 0 1 0 (.cons (.var 2) (.cons (.bi .len (.cons (.att [(1, .prop 27)] (.var 1)) .nil)) .nil)) [.arg 0, .arg 1])) .nil))))))⟩
def e6 : Def := ⟨2, 5, none, (.cons (.set (.tp (.cons (.nm 3) (.cons (.nm 4) (.cons (.nm 5) .nil)))) (.tup (.cons (.mth .join (.con (.str [])) (.cons (.var 1) .nil)) (.cons (.call 3 (.cons (.var 0) (.cons (.con (.int 5)) .nil)) [.arg 0, .arg 1]) (.cons (.call 3 (.cons (.var 0) (.cons (.bin .add (.bi .len (.cons (.var 1) .nil)) (.con (.int 1))) .nil)) [.arg 0, .arg 1]) .nil))))) (.cons (.set (.nm 2) (.call 3 (.cons (.var 0) (.cons (.bin .add (.bi .len (.cons (.var 3) .nil)) (.con (.int 1))) .nil)) [.arg 0, .arg 1])) (.cons (.ite (.cmp .eq [(0, 28), (1, 29)] (.var 4) (.con (.int 0))) (.cons (.ret (.slc (.var 3) .no (.so (.var 2)))) .nil) .nil) (.cons (.ite (.cmp .eq [(0, 28), (1, 29)] (.var 4) (.con (.int 1))) (.cons (.ret (.bin .add (.slc (.var 3) .no (.so (.var 2))) (.slc (.var 3) (.so (.bin .add (.var 2) (.con (.int 1)))) .no))) .nil) .nil) (.cons (.ite (.cmp .eq [(0, 28), (1, 29)] (.var 4) (.con (.int 2))) (.cons (.set (.nm 6) (.call 8 (.cons (.var 0) (.cons (.lst (.cons (.con (.str [])) (.cons (.con (.str [45])) (.cons (.con (.str [49])) (.cons (.con (.str [49, 32, 50])) (.cons (.con (.str [49, 32, 45])) (.cons (.con (.str [45, 32, 45])) (.cons (.con (.str [49, 48])) (.cons (.con (.str [49, 32, 32, 50])) (.cons (.con (.str [32, 49])) (.cons (.con (.str [49, 32])) (.cons (.con (.str [97])) (.cons (.con (.str [49, 32, 50, 32, 51])) (.cons (.con (.str [45, 49])) (.cons (.con (.str [43, 49])) .nil))))))))))))))) .nil)) [.arg 0, .arg 1])) (.cons (.ret (.bin .add (.bin .add (.bin .add (.mth .join (.con (.str [])) (.cons (.slc (.var 1) .no (.so (.var 5))) .nil)) (.var 6)) (.con (.str [10]))) (.mth .join (.con (.str [])) (.cons (.slc (.var 1) (.so (.var 5)) .no) .nil)))) .nil)) .nil) (.cons (.ret (.bin .add (.bin .add (.slc (.var 3) .no (.so (.var 2))) (.call 8 (.cons (.var 0) (.cons (.lst (.cons (.con (.str [10])) (.cons (.con (.str [49])) (.cons (.con (.str [45])) (.cons (.con (.str [32])) (.cons (.con (.str [120])) (.cons (.con (.str [57])) .nil))))))) .nil)) [.arg 0, .arg 1])) (.slc (.var 3) (.so (.bin .add (.var 2) (.ite (.cmp .eq [(0, 28), (1, 29)] (.var 4) (.con (.int 3))) (.con (.int 0)) (.con (.int 1))))) .no))) .nil))))))⟩
def e7 : Def := ⟨2, 1, none, (.cons (.tryy (.cons (.ret (.att [(0, .prop 25)] (.call 5 (.cons (.var 0) (.cons (.var 1) .nil)) [.arg 0, .arg 1]))) .nil) (.fld 3 2 [0, 1, 2] .nil)) .nil)⟩
def e8 : Def := ⟨2, 0, none, (.cons (.ret (.idx (.var 1) (.call 3 (.cons (.var 0) (.cons (.bi .len (.cons (.var 1) .nil)) .nil)) [.arg 0, .arg 1]))) .nil)⟩
def c9_0 : XE := (.lcm [5, 6] (.tp (.cons (.nm 5) (.cons (.nm 6) .nil))) (.zip (.var 3) (.att [(1, .prop 27)] (.var 1))) .yes (.call 20 (.cons (.ite (.isN (.var 5)) (.var 6) (.var 5)) .nil) [.arg 0]))
def b9_1 : XSs := (.cons (.expr (.mth .append (.var 2) (.cons (.mth .join (.con (.str [32])) (.cons c9_0 .nil)) .nil))) .nil)
def c9_2 : XE := (.lcm [4] (.nm 4) (.of (.var 2)) .yes (.bin .add (.var 4) (.con (.str [10]))))
def e9 : Def := ⟨2, 5, none, (.cons (.expr (.call 19 (.cons (.var 0) .nil) [.arg 0])) (.cons (.ite (.or (.not (.isi 2 [.own 1] (.var 1))) (.cmp .ne [(0, 28), (1, 29)] (.bi .len (.cons (.att [(1, .prop 27)] (.var 1)) .nil)) (.att [(0, .prop 26)] (.var 0)))) (.cons (.raise 2 .nil) .nil) .nil) (.cons (.set (.nm 2) (.mat (.lst .nil))) (.cons (.for (.nm 3) (.of (.att [(0, .prop 25)] (.var 0))) b9_1) (.cons (.ret (.mth .join (.con (.str [])) (.cons c9_2 .nil))) .nil)))))⟩
def c10_0 : XE := (.lcm [4] (.nm 4) (.of (.slc (.var 2) .no (.so (.neg (.con (.int 1)))))) .yes (.call 21 (.cons (.var 4) (.cons (.var 1) .nil)) [.arg 0, .arg 1]))
def e10 : Def := ⟨2, 3, none, (.cons (.set (.nm 2) (.mth .split (.var 0) (.cons (.con (.str [10])) .nil))) (.cons (.set (.nm 3) c10_0) (.cons (.ite (.cmp .inn [] (.con .non) (.var 3)) (.cons (.ret (.mth .index (.var 3) (.cons (.con .non) .nil))) .nil) .nil) (.cons (.ret (.ite (.cmp .ne [(0, 28), (1, 29)] (.idx (.var 2) (.neg (.con (.int 1)))) (.con (.str []))) (.bi .len (.cons (.var 3) .nil)) (.bi .tuple (.cons (.var 3) .nil)))) .nil))))⟩
def e11 : Def := ⟨2, 0, none, (.cons (.ite (.cmp .gt [] (.bi .len (.cons (.var 0) .nil)) (.con (.int 0))) (.cons (.set (.nm 1) (.ite (.isi 2 [.tup] (.idx (.var 0) (.con (.int 0)))) (.bi .len (.cons (.idx (.var 0) (.con (.int 0))) .nil)) (.con .non))) .nil) .nil) (.cons (.ret (.ite (.call 22 (.cons (.var 1) (.cons (.con (.int 1)) (.cons (.con (.int 2)) .nil))) [.arg 0, .arg 1, .arg 2]) (.var 1) (.con .non))) .nil))⟩
def c12_0 : XE := (.lcm [3] (.nm 3) (.of (.var 0)) .yes (.call 23 (.cons (.var 3) (.cons (.var 2) .nil)) [.arg 0, .arg 1]))
def e12 : Def := ⟨3, 1, none, (.cons (.ite (.or (.not (.isi 2 [.tup] (.var 0))) (.cmp .ne [(0, 28), (1, 29)] (.bi .len (.cons (.var 0) .nil)) (.var 1))) (.cons (.ret (.con (.bl false))) .nil) .nil) (.cons (.ret (.bi .all (.cons c12_0 .nil))) .nil))⟩
def c13_0 : XE := (.lcm [2] (.nm 2) (.of (.var 0)) .yes (.call 23 (.cons (.var 2) (.cons (.con (.int 9)) .nil)) [.arg 0, .arg 1]))
def e13 : Def := ⟨2, 1, none, (.cons (.ite (.or (.not (.isi 2 [.tup] (.var 0))) (.not (.chn .le .le (.con (.int 1)) (.bi .len (.cons (.var 0) .nil)) (.var 1)))) (.cons (.ret (.con (.bl false))) .nil) .nil) (.cons (.ret (.bi .all (.cons c13_0 .nil))) .nil))⟩
def b14_0 : XSs := (.cons (.set (.nm 3) (.bin .mul (.var 3) (.con (.int 1009)))) .nil)
def e14 : Def := ⟨3, 4, none, (.cons (.set (.nm 3) (.con (.int 1))) (.cons (.for (.nm 4) (.rng (.cons (.bin .mod (.bi .int (.cons (.var 1) .nil)) (.con (.int 24))) .nil)) b14_0) (.cons (.set (.nm 5) (.bin .fdiv (.bin .sub (.var 0) (.bin .pow (.con (.int 10)) (.con (.int 18)))) (.var 3))) (.cons (.ite (.cmp .gt [] (.var 5) (.con (.int 0))) (.cons (.ret (.bin .mod (.bi .int (.cons (.bin .mod (.bi .int (.cons (.var 5) .nil)) (.con (.int 1009))) .nil)) (.var 2))) .nil) .nil) (.cons (.set (.nm 6) (.bin .mod (.bi .int (.cons (.var 0) .nil)) (.con (.int 1000003)))) (.cons (.ret (.bin .mod (.bi .int (.cons (.call 24 (.cons (.bin .mul (.bin .add (.var 6) (.bin .mul (.con (.int 977)) (.var 1))) (.bin .add (.bin .add (.var 6) (.bin .mul (.con (.int 31)) (.var 1))) (.con (.int 5)))) (.cons (.bin .add (.bin .mod (.bi .int (.cons (.var 1) .nil)) (.con (.int 9))) (.con (.int 1))) (.cons (.con (.int 999983)) .nil))) [.arg 0, .arg 1, .arg 2]) .nil)) (.var 2))) .nil))))))⟩
def e15 : Def := ⟨2, 0, none, (.cons (.ite (.cmp .lt [] (.var 1) (.bi .len (.cons (.var 0) .nil))) (.cons (.ret (.idx (.var 0) (.var 1))) .nil) .nil) (.cons (.ret (.con (.int 0))) .nil))⟩
def e16 : Def := ⟨1, 0, none, (.cons (.ite (.not (.isi 2 [.own 1] (.var 0))) (.cons (.raise 2 .nil) .nil) .nil) .nil)⟩
def e17 : Def := ⟨1, 1, none, (.cons (.ite (.not (.isi 2 [.str] (.var 0))) (.cons (.raise 3 (.cons (.con (.int 0)) .nil)) .nil) .nil) (.cons (.set (.nm 1) (.mth .split (.var 0) (.cons (.con (.str [10])) .nil))) (.cons (.ret (.tup (.cons (.slc (.var 1) .no (.so (.neg (.con (.int 1))))) (.cons (.idx (.var 1) (.neg (.con (.int 1)))) .nil)))) .nil)))⟩
def e18 : Def := ⟨2, 0, none, (.cons (.ite (.cmp .eq [(0, 28), (1, 29)] (.var 0) (.con (.str [45]))) (.cons (.ret (.tup (.cons (.con .non) (.cons (.isN (.var 1)) .nil)))) .nil) .nil) (.cons (.ite (.or (.cmp .ne [(0, 28), (1, 29)] (.bi .len (.cons (.var 0) .nil)) (.con (.int 1))) (.cmp .nin [] (.var 0) (.con (.str [48, 49, 50, 51, 52, 53, 54, 55, 56, 57])))) (.cons (.ret (.tup (.cons (.con .non) (.cons (.con (.bl false)) .nil)))) .nil) .nil) (.cons (.ret (.tup (.cons (.ite (.cmp .eq [(0, 28), (1, 29)] (.bi .int (.cons (.var 0) .nil)) (.var 1)) (.con .non) (.bi .int (.cons (.var 0) .nil))) (.cons (.con (.bl true)) .nil)))) .nil)))⟩
def e19 : Def := ⟨1, 0, none, (.cons (.ite (.not (.isi 2 [.own 0] (.var 0))) (.cons (.raise 1 .nil) .nil) .nil) .nil)⟩
def e20 : Def := ⟨1, 0, none, (.cons (.ret (.ite (.isN (.var 0)) (.con (.str [45])) (.bi .str (.cons (.var 0) .nil)))) .nil)⟩
def b21_0 : XSs := (.cons (.ite (.or (.cmp .nin [] (.var 4) (.bi .list (.cons (.con (.str [48, 49, 50, 51, 52, 53, 54, 55, 56, 57, 45])) .nil))) (.and (.cmp .eq [(0, 28), (1, 29)] (.var 4) (.con (.str [45]))) (.noN (.var 5)))) (.cons (.ret (.con .non)) .nil) .nil) (.cons (.expr (.mth .append (.var 3) (.cons (.ite (.or (.cmp .eq [(0, 28), (1, 29)] (.var 4) (.con (.str [45]))) (.cmp .eq [(0, 28), (1, 29)] (.bi .int (.cons (.var 4) .nil)) (.var 5))) (.con .non) (.bi .int (.cons (.var 4) .nil))) .nil))) .nil))
def e21 : Def := ⟨2, 4, none, (.cons (.set (.tp (.cons (.nm 2) (.cons (.nm 3) .nil))) (.tup (.cons (.mth .split (.var 0) (.cons (.con (.str [32])) .nil)) (.cons (.mat (.lst .nil)) .nil)))) (.cons (.ite (.cmp .ne [(0, 28), (1, 29)] (.bi .len (.cons (.var 2) .nil)) (.bi .len (.cons (.var 1) .nil))) (.cons (.ret (.con .non)) .nil) .nil) (.cons (.for (.tp (.cons (.nm 4) (.cons (.nm 5) .nil))) (.zip (.var 2) (.var 1)) b21_0) (.cons (.ret (.bi .tuple (.cons (.var 3) .nil))) .nil))))⟩
def e22 : Def := ⟨3, 0, none, (.cons (.ret (.and (.isi 2 [.int] (.var 0)) (.and (.not (.isi 2 [.bool] (.var 0))) (.chn .le .le (.var 1) (.var 0) (.var 2))))) .nil)⟩
def e23 : Def := ⟨2, 0, none, (.cons (.ret (.or (.isN (.var 0)) (.call 22 (.cons (.var 0) (.cons (.con (.int 0)) (.cons (.var 1) .nil))) [.arg 0, .arg 1, .arg 2]))) .nil)⟩
def e24 : Def := ⟨3, 1, none, (.cons (.set (.nm 3) (.tup (.cons (.con (.int 1000003)) (.cons (.con (.int 1000033)) (.cons (.con (.int 1000037)) (.cons (.con (.int 1000039)) (.cons (.con (.int 1000081)) (.cons (.con (.int 1000099)) (.cons (.con (.int 1000117)) (.cons (.con (.int 1000121)) (.cons (.con (.int 1000133)) (.cons (.con (.int 1000151)) (.cons (.con (.int 1000159)) (.cons (.con (.int 1000171)) (.cons (.con (.int 1000183)) (.cons (.con (.int 1000187)) (.cons (.con (.int 1000193)) (.cons (.con (.int 1000199)) .nil)))))))))))))))))) (.cons (.ret (.bin .mod (.bi .int (.cons (.bin .mod (.bi .int (.cons (.bin .add (.bin .mul (.var 0) (.con (.int 48271))) (.bin .mul (.var 1) (.con (.int 69621)))) .nil)) (.idx (.var 3) (.bin .mod (.bi .int (.cons (.var 1) .nil)) (.con (.int 16))))) .nil)) (.var 2))) .nil))⟩
def e25 : Def := ⟨1, 0, none, (.cons (.ret (.att [(0, .slot 0)] (.var 0))) .nil)⟩
def e26 : Def := ⟨1, 0, none, (.cons (.ret (.att [(0, .slot 1)] (.var 0))) .nil)⟩
def e27 : Def := ⟨1, 0, none, (.cons (.ret (.att [(1, .slot 0)] (.var 0))) .nil)⟩
def e28 : Def := ⟨2, 0, none, (.cons (.ret (.and (.isi 2 [.own 0] (.var 1)) (.and (.cmp .eq [(0, 28), (1, 29)] (.att [(0, .slot 1)] (.var 0)) (.att [(0, .slot 1)] (.var 1))) (.cmp .eq [(0, 28), (1, 29)] (.att [(0, .slot 0)] (.var 0)) (.att [(0, .slot 0)] (.var 1)))))) .nil)⟩
def e29 : Def := ⟨2, 0, none, (.cons (.ret (.and (.isi 2 [.own 1] (.var 1)) (.and (.cmp .eq [(0, 28), (1, 29)] (.att [(1, .slot 0)] (.var 0)) (.att [(1, .slot 0)] (.var 1))) (.cmp .eq [(0, 28), (1, 29)] (.att [(1, .slot 1)] (.var 0)) (.att [(1, .slot 1)] (.var 1)))))) .nil)⟩
def ds : List Def := [e0, e1, e2, e3, e4, e5, e6, e7, e8, e9, e10, e11, e12, e13, e14, e15, e16, e17, e18, e19, e20, e21, e22, e23, e24, e25, e26, e27, e28, e29]
end K39P
end
section
set_option Elab.async false
set_option linter.all false
set_option maxRecDepth 100000
set_option maxHeartbeats 1000000
namespace K39P
open Lk
/-! ### values -/
@[simp] theorem ev_neg (cal : Nat → List D → M D) (σ : Env) (S : Store) (a : XE) : ev cal (.neg a) σ S = M.bind (ev cal a σ) (fun x => M.opt ((intOf x).map fun i => .int (-i))) S := rfl
/-- a cell -/
def cd : Option Nat → D
  | none => .non
  | some n => .int n
@[simp] theorem cd_none : cd none = .non := rfl
@[simp] theorem cd_some (n : Nat) : cd (some n) = .int n := rfl
def ok9 (c : Option Nat) : Bool := c.all (· < 10)
/-- texts of plain signs -/
def Tx (w : List Nat) : Prop := w.length ≤ 2000 ∧ ∀ c ∈ w, c < 128
theorem rsv_str {S : Store} {k : Nat} {w : List Nat} (h : ∀ c ∈ w, c < 128) : rsv S (k + 1) (.str w) = some (.str w) := by
  show (if w.all (· < 1114112) then some (D.str w) else none) = _
  rw [if_pos (List.all_eq_true.mpr fun c hc => decide_eq_true (Nat.lt_trans (h c hc) (by decide)))]
theorem eqS_str {S : Store} {a b : List Nat} (ha : ∀ c ∈ a, c < 128) (hb : ∀ c ∈ b, c < 128) : eqS S (.str a) (.str b) = some (a == b) := by
  unfold eqS
  rw [rsv_str ha, rsv_str hb]
  simp [eqD]
theorem rsv_cd {S : Store} {k : Nat} (c : Option Nat) : rsv S (k + 1) (cd c) = some (cd c) := by cases c <;> rfl
theorem eqD_cd (a b : Option Nat) : eqD (cd a) (cd b) = (a == b) := by
  cases a <;> cases b <;> simp [cd, eqD]
  rw [Bool.eq_iff_iff]
  simp
  omega
theorem eqS_cd {S : Store} (a b : Option Nat) : eqS S (cd a) (cd b) = some (a == b) := by
  unfold eqS
  rw [rsv_cd, rsv_cd]
  simp [eqD_cd]
theorem cmpC_cd (cal : Nat → List D → M D) (o : Cop) (tb : List (Nat × Nat)) (c : Option Nat) (y : D) (S : Store) : cmpC cal o tb (cd c) y S = M.opt ((cmpD S o (cd c) y).map .bl) S := by cases c <;> rfl
theorem isNon_cd (c : Option Nat) : isNon (cd c) = c.isNone := by cases c <;> rfl
theorem len_str {S : Store} {w : List Nat} (h : Tx w) : lenOf S (.str w) = some w.length := by
  show (if w.length ≤ sizeMax then some w.length else none) = _
  rw [if_pos (Nat.le_trans h.1 (by decide))]
/-! ### the program's small defs -/
theorem s22 (k : Nat) (n : Nat) (a b : Int) (S : Store) : sem ds (k + 1) 22 [.int n, .int a, .int b] S = .ok (.bl (decide (a ≤ n) && decide (n ≤ b))) S := by
  rw [sem_fn ds k 22 e22 _ S rfl rfl rfl]
  by_cases h1 : a ≤ n
  · simp [h1, e22, kindOf, kindIs]
  · simp [h1, e22, kindOf, kindIs]
theorem s23 (k : Nat) (x : Option Nat) (hx : ok9 x = true) (S : Store) : sem ds (k + 2) 23 [cd x, .int 9] S = .ok (.bl true) S := by
  rw [sem_fn ds (k + 1) 23 e23 _ S rfl rfl rfl]
  cases x with
  | none => simp [e23, cd, isNon]
  | some n =>
    have h := s22 k n 0 9 S
    simp only [ok9, Option.all_some, decide_eq_true_eq] at hx
    simp [e23, cd, isNon, planned, allSome, h]
    omega
theorem all_rep : ∀ n : Nat, allSome truth (List.replicate n (D.bl true)) = some (List.replicate n true)
  | 0 => rfl
  | n + 1 => by simp [allSome, truth, List.replicate_succ, all_rep n]
@[simp] theorem bi_all_rep (S : Store) (n : Nat) : biD S .all [.fl (List.replicate n (D.bl true))] = some (.bl true) := by
  simp [biD, seqOf, itemsOf, all_rep]
@[simp] theorem truth_bl (b : Bool) : truth (.bl b) = some b := rfl
/-- a row is a row -/
theorem s12 (k : Nat) (xs : List (Option Nat)) (hx : ∀ x ∈ xs, ok9 x = true) (hl : xs.length ≤ sizeMax) (S : Store) : sem ds (k + 3) 12 [.tup (xs.map cd), .int xs.length, .int 9] S = .ok (.bl true) S := by
  rw [sem_fn ds (k + 2) 12 e12 _ S rfl rfl rfl]
  have hc : ev (sem ds (k + 2)) c12_0 [some (.tup (xs.map cd)), some (.int xs.length), some (.int 9), none] S = .ok (.fl (List.replicate xs.length (.bl true))) S :=
    (ev_lc (xs := xs.map cd) (g := []) (fun _ => .bl true) (by simp [walkOf, itemsOf, guardOf]) (by simpa using hl) rfl fun y hy => by
      obtain ⟨x, h1, rfl⟩ := List.mem_map.mp hy
      exact ⟨[some (.tup (xs.map cd)), some (.int xs.length), some (.int 9), some (cd x)], rfl, rfl, by simp [planned, allSome, s23 k x (hx x h1) S]⟩).trans (by rw [List.map_const']; simp)
  simp [e12, kindOf, kindIs, hc]
theorem s13 (k : Nat) (xs : List (Option Nat)) (m : Int) (hx : ∀ x ∈ xs, ok9 x = true) (h1 : 1 ≤ xs.length) (h2 : (xs.length : Int) ≤ m) (hl : xs.length ≤ sizeMax) (S : Store) : sem ds (k + 3) 13 [.tup (xs.map cd), .int m] S = .ok (.bl true) S := by
  rw [sem_fn ds (k + 2) 13 e13 _ S rfl rfl rfl]
  have hc : ev (sem ds (k + 2)) c13_0 [some (.tup (xs.map cd)), some (.int m), none] S = .ok (.fl (List.replicate xs.length (.bl true))) S :=
    (ev_lc (xs := xs.map cd) (g := []) (fun _ => .bl true) (by simp [walkOf, itemsOf, guardOf]) (by simpa using hl) rfl fun y hy => by
      obtain ⟨x, h1, rfl⟩ := List.mem_map.mp hy
      exact ⟨[some (.tup (xs.map cd)), some (.int m), some (cd x)], rfl, rfl, by simp [planned, allSome, s23 k x (hx x h1) S]⟩).trans (by rw [List.map_const']; simp)
  have h3 : (1 : Int) ≤ xs.length := by omega
  simp [e13, kindOf, kindIs, hc, h2, h3]
/-- marks are made -/
def mk (ms : List (Option Nat)) (es : List (Option Nat)) : D := .ob 1 [.tup (ms.map cd), .tup (es.map cd)]
structure Mk (ms : List (Option Nat)) : Prop where
  ok : ∀ x ∈ ms, ok9 x = true
  one : 1 ≤ ms.length
  two : ms.length ≤ 2
theorem s2 (k : Nat) {ms es : List (Option Nat)} (hm : Mk ms) (he : Mk es) (S : Store) : sem ds (k + 4) 2 [.tup (ms.map cd), .tup (es.map cd)] S = .ok (mk ms es) S := by
  rw [sem_ini ds (k + 3) 2 e2 1 _ _ S rfl rfl rfl]
  have h1 := s13 k ms 2 hm.ok hm.one (by have := hm.two; omega) (Nat.le_trans hm.two (by decide)) S
  have h2 := s13 k es 3 he.ok he.one (by have := he.two; omega) (Nat.le_trans he.two (by decide)) S
  simp [e2, planned, allSome, h1, h2, truth, mk]
end K39P
end
section
set_option Elab.async false
set_option linter.all false
set_option maxRecDepth 100000
set_option maxHeartbeats 1000000
namespace K39P
open Lk
theorem s16 (k : Nat) (ms es : List (Option Nat)) (S : Store) : sem ds (k + 1) 16 [mk ms es] S = .ok .non S := by
  rw [sem_fn ds k 16 e16 _ S rfl rfl rfl]; rfl
theorem s27 (k : Nat) (ms es : List (Option Nat)) (S : Store) : sem ds (k + 1) 27 [mk ms es] S = .ok (.tup (ms.map cd)) S := by
  rw [sem_fn ds k 27 e27 _ S rfl rfl rfl]; rfl
/-- data -/
def dt (rs : List (List (Option Nat))) (w : Nat) : D := .ob 0 [.tup (rs.map fun r => .tup (r.map cd)), .int w]
theorem s19 (k : Nat) (rs : List (List (Option Nat))) (w : Nat) (S : Store) : sem ds (k + 1) 19 [dt rs w] S = .ok .non S := by
  rw [sem_fn ds k 19 e19 _ S rfl rfl rfl]; rfl
theorem s25 (k : Nat) (rs : List (List (Option Nat))) (w : Nat) (S : Store) : sem ds (k + 1) 25 [dt rs w] S = .ok (.tup (rs.map fun r => .tup (r.map cd))) S := by
  rw [sem_fn ds k 25 e25 _ S rfl rfl rfl]; rfl
theorem s26 (k : Nat) (rs : List (List (Option Nat))) (w : Nat) (S : Store) : sem ds (k + 1) 26 [dt rs w] S = .ok (.int w) S := by
  rw [sem_fn ds k 26 e26 _ S rfl rfl rfl]; rfl
/-- a word read -/
def cell (w : List Nat) (m : Option Nat) : Option (Option Nat) := if w = [45] then (if m = none then some none else none) else match w with
  | [c] => if 48 ≤ c ∧ c ≤ 57 then some (if some (c - 48) = m then none else some (c - 48)) else none
  | _ => none
/-- what item_in gives -/
def itm (o : Option (Option Nat)) : D := .tup [cd (o.getD none), .bl o.isSome]
theorem s18 (k : Nat) {w : List Nat} (hw : Tx w) (m : Option Nat) (S : Store) : sem ds (k + 1) 18 [.str w, cd m] S = .ok (itm (cell w m)) S := by
  rw [sem_fn ds k 18 e18 _ S rfl rfl rfl]
  have hq : eqS S (.str w) (.str [45]) = some (w == [45]) := eqS_str hw.2 (by simp)
  have hlen : lenOf S (.str w) = some w.length := len_str hw
  by_cases h1 : w = [45]
  · subst h1
    simp [e18, hq, cell, itm, isNon_cd]
    cases m <;> exact ⟨rfl, rfl⟩
  · rw [show (w == [45]) = false from by rw [beq_eq_false_iff_ne]; exact h1] at hq
    match w, h1, hq, hlen with
    | [], h1, hq, hlen => simp [e18, hq, cell, itm, biD, hlen]
    | a :: b :: r, h1, hq, hlen =>
      have e : ((r.length : Int) + 1 + 1 == 1) = false := by rw [beq_eq_false_iff_ne]; omega
      simp [e18, hq, cell, itm, biD, hlen, e]
    | [c], h1, hq, hlen =>
      have hc : ¬ c = 45 := fun h => h1 (by rw [h])
      by_cases h2 : 48 ≤ c ∧ c ≤ 57
      · have hm : c ∈ [48, 49, 50, 51, 52, 53, 54, 55, 56, 57] := by simp; omega
        have hi : numOf (.str [c]) = some ((c - 48 : Nat) : Int) := by simp [numOf, h2]
        have hq2 := eqS_cd (S := S) (some (c - 48)) m
        
        simp only [List.mem_cons, List.not_mem_nil, or_false] at hm
        by_cases h3 : some (c - 48) = m
        · subst h3
          simp [e18, hq, cell, itm, biD, hlen, hc, h2, hi, inD, hm]
        · have h4 : (some (c - 48) == m) = false := by rw [beq_eq_false_iff_ne]; exact h3
          rw [h4, cd_some] at hq2
          simp [e18, hq, cell, itm, biD, hlen, hc, h2, hi, inD, hm, hq2, h3]
      · have hm : ¬ c ∈ [48, 49, 50, 51, 52, 53, 54, 55, 56, 57] := by simp; omega
        simp only [List.mem_cons, List.not_mem_nil, or_false] at hm
        simp [e18, hq, cell, itm, biD, hlen, hc, h2, inD, hm]
end K39P
end
section
set_option Elab.async false
set_option linter.all false
set_option maxRecDepth 100000
set_option maxHeartbeats 1000000
namespace K39P
open Lk
/-! ### comprehensions over a list of anything -/
theorem lcGo_mapP {α : Type} {g : Gd} {tg : Tg} {own : List Nat} {σ : Env} {t : Env → M Bool} {e : Env → M D} {S : Store} (gg f : α → D) (hg : stands S g = true) : ∀ {ps : List α}, (∀ p ∈ ps, ∃ σ2, setTg tg (gg p) (wipeE σ own) = some σ2 ∧ t σ2 S = .ok true S ∧ e σ2 S = .ok (f p) S) → lcGo g tg own σ t e (ps.map gg) S = .ok (ps.map f) S
  | [], _ => by
    have : M.chk g S = .ok () S := by unfold M.chk; rw [hg]
    simp [lcGo, this]
  | x :: xs, h => by
    have hc : M.chk g S = .ok () S := by unfold M.chk; rw [hg]
    obtain ⟨σ2, h1, h2, h3⟩ := h x List.mem_cons_self
    have ih := lcGo_mapP (g := g) (tg := tg) (own := own) (σ := σ) (t := t) (e := e) gg f hg (ps := xs) fun y hy => h y (List.mem_cons_of_mem _ hy)
    simp [lcGo, hc, h1, h2, h3, ih]
theorem ev_lcP {α : Type} {cal : Nat → List D → M D} {own : List Nat} {tg : Tg} {it : XI} {t e : XE} {σ : Env} {S : Store} {g : Gd} (ps : List α) (gg f : α → D) (hi : evI cal it σ S = .ok (ps.map gg, g) S) (hl : ps.length ≤ sizeMax) (hg : stands S g = true)
    (h : ∀ p ∈ ps, ∃ σ2, setTg tg (gg p) (wipeE σ own) = some σ2 ∧ ev cal t σ2 S = .ok (.bl true) S ∧ ev cal e σ2 S = .ok (f p) S) : ev cal (.lcm own tg it t e) σ S = .ok (.fl (ps.map f)) S := by
  rw [ev_lcm]
  simp only [M.bind_app, hi]
  unfold lcAll
  rw [decide_eq_true (show (ps.map gg, g).1.length ≤ sizeMax from by simpa using hl)]
  have := lcGo_mapP (g := g) (tg := tg) (own := own) (σ := σ) (t := fun σ => M.bind (ev cal t σ) fun x => M.opt (truth x)) (e := fun σ => ev cal e σ) gg f hg (ps := ps) fun p hp => by
    obtain ⟨σ2, h1, h2, h3⟩ := h p hp
    exact ⟨σ2, h1, by simp [h2], h3⟩
  simp only [this]
  rfl
theorem pairs_map {α β : Type} (f : α → D) (g : β → D) : ∀ (xs : List α) (ys : List β), pairs (xs.map f) (ys.map g) = (xs.zip ys).map fun p => .tup [f p.1, g p.2]
  | [], _ => rfl
  | _ :: _, [] => rfl
  | x :: xs, y :: ys => by simp [pairs, pairs_map f g xs ys]
/-! ### texts cut -/
theorem split_ne (c : Nat) : ∀ t : List Nat, splitOn c t ≠ []
  | [] => by simp [splitOn]
  | x :: xs => by
    have := split_ne c xs
    unfold splitOn
    split
    · simp
    · split <;> simp
theorem split_len (c : Nat) : ∀ t : List Nat, (splitOn c t).length ≤ t.length + 1
  | [] => by simp [splitOn]
  | x :: xs => by
    have := split_len c xs
    unfold splitOn
    split
    · simp; omega
    · split
      · simp
      · rename_i w ws e; rw [e] at this; simp at this ⊢; omega
theorem split_mem (c : Nat) : ∀ (t w : List Nat), w ∈ splitOn c t → (∀ x ∈ w, x ∈ t) ∧ w.length ≤ t.length
  | [], w, h => by simp [splitOn] at h; subst h; simp
  | x :: xs, w, h => by
    have ih := split_mem c xs
    unfold splitOn at h
    split at h
    · rcases List.mem_cons.mp h with rfl | h
      · simp
      · exact ⟨fun y hy => List.mem_cons_of_mem _ ((ih w h).1 y hy), Nat.le_succ_of_le (ih w h).2⟩
    · split at h
      · rename_i e; exact absurd e (split_ne c xs)
      · rename_i v vs e
        rcases List.mem_cons.mp h with rfl | h
        · have := ih v (by rw [e]; exact List.mem_cons_self)
          refine ⟨fun y hy => ?_, by have := this.2; simp; omega⟩
          rcases List.mem_cons.mp hy with rfl | hy
          · exact List.mem_cons_self
          · exact List.mem_cons_of_mem _ (this.1 y hy)
        · have := ih w (by rw [e]; exact List.mem_cons_of_mem _ h)
          exact ⟨fun y hy => List.mem_cons_of_mem _ (this.1 y hy), Nat.le_succ_of_le this.2⟩
theorem Tx.word {c : Nat} {t w : List Nat} (h : Tx t) (hw : w ∈ splitOn c t) : Tx w := ⟨Nat.le_trans (split_mem c t w hw).2 h.1, fun x hx => h.2 x ((split_mem c t w hw).1 x hx)⟩
theorem split_last (c : Nat) (t : List Nat) : ∃ ls r, splitOn c t = ls ++ [r] := ⟨_, _, (List.dropLast_concat_getLast (split_ne c t)).symm⟩
theorem cut_last {α : Type} (xs : List α) (r : α) : cut (xs ++ [r]) none (some (-1)) = xs := by
  unfold cut
  have : cutAt (xs ++ [r]).length (xs ++ [r]).length (some (-1)) = xs.length := by
    simp [cutAt]
    omega
  rw [this]
  simp [cutAt]
theorem ix_last {α : Type} (xs : List α) (r : α) : (ixOf (xs ++ [r]).length (-1)).bind (fun k => (xs ++ [r])[k]?) = some r := by
  have : ixOf (xs ++ [r]).length (-1) = some xs.length := by
    unfold ixOf
    rw [if_neg (by decide), if_pos (by simp; omega)]
    simp
    omega
  rw [this]
  simp
theorem mth_split {t : List Nat} (h : Tx t) (c : Nat) (hc : c < 128) (S : Store) : mthD .split (.str t) [.str [c]] S = .ok (.fl ((splitOn c t).map .str)) S := by
  show (if t.length ≤ sizeMax ∧ c < 128 then _ else _) = _
  rw [if_pos ⟨Nat.le_trans h.1 (by decide), hc⟩]
theorem s17 (k : Nat) {t : List Nat} (h : Tx t) {ls : List (List Nat)} {r : List Nat} (hs : splitOn 10 t = ls ++ [r]) (S : Store) : sem ds (k + 1) 17 [.str t] S = .ok (.tup [.fl (ls.map .str), .str r]) S := by
  rw [sem_fn ds k 17 e17 _ S rfl rfl rfl]
  have h1 := mth_split h 10 (by decide) S
  rw [hs, List.map_append] at h1
  have h2 := cut_last (ls.map D.str) (D.str r)
  have h3 := ix_last (ls.map D.str) (D.str r)
  have h4 : slcD S (.fl (ls.map D.str ++ [D.str r])) none (some (-1)) = some (.fl (ls.map .str)) := congrArg (fun q => some (D.fl q)) h2
  have h5 : idxD S (.fl (ls.map D.str ++ [D.str r])) (-1) = some (.str r) := h3
  simp [e17, kindOf, kindIs, mthFits, h1, h4, intOf, h5]
theorem s17x (k : Nat) (x : D) (hx : kindOf ⟨0, .nil⟩ 2 [.str] x = some false) (hr : ∀ n, x ≠ .ref n) (S : Store) : sem ds (k + 1) 17 [x] S = .exc 3 [.int 0] S := by
  rw [sem_fn ds k 17 e17 _ S rfl rfl rfl]
  have h : kindOf S 2 [.str] x = some false := by
    rw [← hx]
    cases x <;> first | rfl | exact absurd rfl (hr _)
  simp [e17, h]
end K39P
end
section
set_option Elab.async false
set_option linter.all false
set_option maxRecDepth 100000
set_option maxHeartbeats 1000000
namespace K39P
open Lk
/-- a line read -/
def got (ps : List (List Nat × Option Nat)) : List (Option Nat) := ps.map fun p => (cell p.1 p.2).getD none
def lineIn (l : List Nat) (ms : List (Option Nat)) : Option (List (Option Nat)) := if (splitOn 32 l).length = ms.length then (if ((splitOn 32 l).zip ms).all (fun p => (cell p.1 p.2).isSome) then some (got ((splitOn 32 l).zip ms)) else none) else none
def rw_ (r : List (Option Nat)) : D := .tup (r.map cd)
/-- the lines read -/
def rd (ms : List (Option Nat)) : Nat → List (List Nat) → Except Nat (List (List (Option Nat)))
  | _, [] => .ok []
  | i, l :: ls => if 300 ≤ i then .error i else match lineIn l ms with
    | none => .error i
    | some r => match rd ms (i + 1) ls with
      | .error e => .error e
      | .ok rs => .ok (r :: rs)
theorem all_truthP {α : Type} (f : α → Bool) : ∀ xs : List α, allSome truth (xs.map fun x => D.bl (f x)) = some (xs.map f)
  | [] => rfl
  | x :: xs => by simp [allSome, all_truthP f xs]
theorem bi_allP {α : Type} (S : Store) (f : α → Bool) (xs : List α) : biD S .all [.fl (xs.map fun x => D.bl (f x))] = some (.bl (xs.all f)) := by
  simp [biD, seqOf, itemsOf, all_truthP, List.all_map]
section
variable (k : Nat) {ms es : List (Option Nat)} (S : Store) (t L R x5 x6 x8 : Option D) (a : D)
theorem hc50 (ws : List (List Nat)) (hw : ∀ w ∈ ws, Tx w) (hl : ws.length ≤ sizeMax) : ev (sem ds (k + 1)) c5_0 [t, some (mk ms es), some a, L, R, x5, x6, some (.fl (ws.map .str)), x8, none, none, none, none] S = .ok (.fl ((ws.zip ms).map fun p => itm (cell p.1 p.2))) S :=
  ev_lcP (g := []) (ws.zip ms) (fun p => .tup [.str p.1, cd p.2]) (fun p => itm (cell p.1 p.2))
    (by have h := s27 k ms es S
        simp only [mk] at h
        simp [walkOf, itemsOf, guardOf, mk, h, pairs_map])
    (by have := List.length_zip (l₁ := ws) (l₂ := ms); rw [this]; omega) rfl fun p hp =>
    ⟨[t, some (mk ms es), some a, L, R, x5, x6, some (.fl (ws.map .str)), x8, some (.str p.1), some (cd p.2), none, none], rfl, rfl, by
      have := s18 k (hw p.1 (List.of_mem_zip hp).1) p.2 S
      simp [planned, allSome, this]⟩
variable (x7 : Option D)
theorem hc51 (ps : List (List Nat × Option Nat)) (hl : ps.length ≤ sizeMax) : ev (sem ds (k + 1)) c5_1 [t, some (mk ms es), some a, L, R, x5, x6, x7, some (.fl (ps.map fun p => itm (cell p.1 p.2))), none, none, none, none] S = .ok (.fl (ps.map fun p => .bl (cell p.1 p.2).isSome)) S :=
  ev_lcP (g := []) ps (fun p => itm (cell p.1 p.2)) (fun p => .bl (cell p.1 p.2).isSome)
    (by simp [walkOf, itemsOf, guardOf]) hl rfl fun p hp =>
    ⟨[t, some (mk ms es), some a, L, R, x5, x6, x7, some (.fl (ps.map fun p => itm (cell p.1 p.2))), none, none, some (cd ((cell p.1 p.2).getD none)), some (.bl (cell p.1 p.2).isSome)], rfl, rfl, rfl⟩
theorem hc52 (ps : List (List Nat × Option Nat)) (hl : ps.length ≤ sizeMax) : ev (sem ds (k + 1)) c5_2 [t, some (mk ms es), some a, L, R, x5, x6, x7, some (.fl (ps.map fun p => itm (cell p.1 p.2))), none, none, none, none] S = .ok (.fl (ps.map fun p => cd ((cell p.1 p.2).getD none))) S :=
  ev_lcP (g := []) ps (fun p => itm (cell p.1 p.2)) (fun p => cd ((cell p.1 p.2).getD none))
    (by simp [walkOf, itemsOf, guardOf]) hl rfl fun p hp =>
    ⟨[t, some (mk ms es), some a, L, R, x5, x6, x7, some (.fl (ps.map fun p => itm (cell p.1 p.2))), none, none, some (cd ((cell p.1 p.2).getD none)), some (.bl (cell p.1 p.2).isSome)], rfl, rfl, rfl⟩
end
/-- one turn -/
theorem turn5 (k : Nat) {ms es : List (Option Nat)} (S : Store) (t L R x7 x8 : Option D) (a i : Nat) (l : List Nat) (hl : Tx l) (acc : List D) (ha : S.get a = some (.lst acc)) (hn : acc.length ≤ 3000) :
    exs (sem ds (k + 1)) b5_3 [t, some (mk ms es), some (.ref a), L, R, some (.int i), some (.str l), x7, x8, none, none, none, none] S =
    (if 300 ≤ i then .ok (.xc 3 [.int i] [t, some (mk ms es), some (.ref a), L, R, some (.int i), some (.str l), some (.fl ((splitOn 32 l).map .str)), x8, none, none, none, none]) S else
     if (splitOn 32 l).length = ms.length then
      (if ((splitOn 32 l).zip ms).all (fun p => (cell p.1 p.2).isSome) then .ok (.nx [t, some (mk ms es), some (.ref a), L, R, some (.int i), some (.str l), some (.fl ((splitOn 32 l).map .str)), some (.fl (((splitOn 32 l).zip ms).map fun p => itm (cell p.1 p.2))), none, none, none, none]) (S.put a (.lst (acc ++ [rw_ (got ((splitOn 32 l).zip ms))])))
       else .ok (.xc 3 [.int i] [t, some (mk ms es), some (.ref a), L, R, some (.int i), some (.str l), some (.fl ((splitOn 32 l).map .str)), some (.fl (((splitOn 32 l).zip ms).map fun p => itm (cell p.1 p.2))), none, none, none, none]) S)
     else .ok (.xc 3 [.int i] [t, some (mk ms es), some (.ref a), L, R, some (.int i), some (.str l), some (.fl ((splitOn 32 l).map .str)), x8, none, none, none, none]) S) := by
  have h1 := mth_split hl 32 (by decide) S
  have h27 := s27 k ms es S
  have hln : (splitOn 32 l).length ≤ sizeMax := Nat.le_trans (split_len 32 l) (by have := hl.1; simp [sizeMax]; omega)
  have hz : ((splitOn 32 l).zip ms).length ≤ sizeMax := by rw [List.length_zip]; omega
  have h50 := hc50 k (ms := ms) (es := es) S t L R (some (.int i)) (some (.str l)) x8 (.ref a) (splitOn 32 l) (fun w hw => hl.word hw) hln
  have h51 := hc51 k (ms := ms) (es := es) S t L R (some (.int i)) (some (.str l)) (.ref a) (some (.fl ((splitOn 32 l).map .str))) _ hz
  have h52 := hc52 k (ms := ms) (es := es) S t L R (some (.int i)) (some (.str l)) (.ref a) (some (.fl ((splitOn 32 l).map .str))) _ hz
  have h53 := bi_allP S (fun p : List Nat × Option Nat => (cell p.1 p.2).isSome) ((splitOn 32 l).zip ms)
  have hap : ∀ x, mthD .append (.ref a) [x] S = .ok .non (S.put a (.lst (acc ++ [x]))) := fun x => by
    simp only [mthD, ha]
    rw [if_pos (show acc.length < sizeMax from by simp [sizeMax]; omega)]
  have hft : mthFits S .append (.ref a) = true := by simp [mthFits, ha]
  have hi2 : decide ((300 : Int) ≤ (i : Int)) = decide (300 ≤ i) := by rw [decide_eq_decide]; omega
  have hle : (((splitOn 32 l).length : Int) == (ms.length : Int)) = decide ((splitOn 32 l).length = ms.length) := by rw [Bool.eq_iff_iff]; simp; omega
  unfold mk at *
  by_cases hq : (splitOn 32 l).length = ms.length
  · by_cases hi : 300 ≤ i
    · have hi3 : (300 : Int) ≤ i := by omega
      simp [b5_3, mthFits, h1, h27, hq, hi, hi3]
    · have hi3 : ¬ (300 : Int) ≤ i := by omega
      cases hb : ((splitOn 32 l).zip ms).all (fun p => (cell p.1 p.2).isSome) with
      | true =>
        rw [hb] at h53
        simp [b5_3, mthFits, h1, h27, hq, hi, hi3, h50, h51, h52, h53, hap, ha, rw_, got, Function.comp_def]
      | false =>
        rw [hb] at h53
        simp [b5_3, mthFits, h1, h27, hq, hi, hi3, h50, h51, h52, h53]
  · by_cases hi : 300 ≤ i
    · simp [b5_3, mthFits, h1, h27, hq, hi, hle]
    · simp [b5_3, mthFits, h1, h27, hq, hi, hle]
end K39P
end
section
set_option Elab.async false
set_option linter.all false
set_option maxRecDepth 100000
set_option maxHeartbeats 1000000
namespace K39P
open Lk
/-- nothing else is changed -/
def Oth (a : Nat) (S S' : Store) : Prop := S'.next = S.next ∧ ∀ m, m ≠ a → S'.get m = S.get m
theorem Oth.refl (a : Nat) (S : Store) : Oth a S S := ⟨rfl, fun _ _ => rfl⟩
theorem Oth.trans {a : Nat} {S T U : Store} (h : Oth a S T) (g : Oth a T U) : Oth a S U := ⟨g.1.trans h.1, fun m hm => (g.2 m hm).trans (h.2 m hm)⟩
theorem Oth.put (a : Nat) (S : Store) (o : Ob) : Oth a S (S.put a o) := ⟨rfl, fun m hm => by simp [hm]⟩
@[simp] theorem chk_nil (S : Store) : M.chk [] S = .ok () S := rfl
theorem loop5 (k : Nat) {ms es : List (Option Nat)} (t L R : Option D) (a : Nat) : ∀ (ls : List (List Nat)) (i : Nat) (x5 x6 x7 x8 : Option D) (S : Store) (acc : List D), (∀ l ∈ ls, Tx l) → S.get a = some (.lst acc) → acc.length + ls.length ≤ 3000 →
    ∃ S', Oth a S S' ∧ (match rd ms i ls with
      | .ok rs => (∃ y5 y6 y7 y8, forGo [] (.tp (.cons (.nm 5) (.cons (.nm 6) .nil))) (exs (sem ds (k + 1)) b5_3) (numbered i (ls.map .str)) [t, some (mk ms es), some (.ref a), L, R, x5, x6, x7, x8, none, none, none, none] S = .ok (.nx [t, some (mk ms es), some (.ref a), L, R, y5, y6, y7, y8, none, none, none, none]) S') ∧ S'.get a = some (.lst (acc ++ rs.map rw_))
      | .error e => ∃ σ', forGo [] (.tp (.cons (.nm 5) (.cons (.nm 6) .nil))) (exs (sem ds (k + 1)) b5_3) (numbered i (ls.map .str)) [t, some (mk ms es), some (.ref a), L, R, x5, x6, x7, x8, none, none, none, none] S = .ok (.xc 3 [.int e] σ') S')
  | [], i, x5, x6, x7, x8, S, acc, _, ha, _ => ⟨S, Oth.refl a S, ⟨x5, x6, x7, x8, rfl⟩, by simpa using ha⟩
  | l :: ls, i, x5, x6, x7, x8, S, acc, hl, ha, hn => by
    have ht := turn5 k (ms := ms) (es := es) S t L R x7 x8 a i l (hl l List.mem_cons_self) acc ha (by simp at hn; omega)
    have e : forGo [] (.tp (.cons (.nm 5) (.cons (.nm 6) .nil))) (exs (sem ds (k + 1)) b5_3) (numbered i ((l :: ls).map .str)) [t, some (mk ms es), some (.ref a), L, R, x5, x6, x7, x8, none, none, none, none] S =
        M.bind (exs (sem ds (k + 1)) b5_3 [t, some (mk ms es), some (.ref a), L, R, some (.int i), some (.str l), x7, x8, none, none, none, none]) (fun f => match f with
          | .nx σ3 => forGo [] (.tp (.cons (.nm 5) (.cons (.nm 6) .nil))) (exs (sem ds (k + 1)) b5_3) (numbered (i + 1) (ls.map .str)) σ3
          | .ct σ3 => forGo [] (.tp (.cons (.nm 5) (.cons (.nm 6) .nil))) (exs (sem ds (k + 1)) b5_3) (numbered (i + 1) (ls.map .str)) σ3
          | .bk σ3 => M.pure (.nx σ3)
          | .rt d => M.pure (.rt d)
          | .xc c p σ3 => M.pure (.xc c p σ3)) S := rfl
    rw [e, M.bind_app, ht]
    by_cases hi : 300 ≤ i
    · refine ⟨S, Oth.refl a S, ?_⟩
      simp only [rd, hi, if_true]
      exact ⟨_, rfl⟩
    · cases hr : lineIn l ms with
      | none =>
        refine ⟨S, Oth.refl a S, ?_⟩
        simp only [rd, hi, if_false, hr]
        unfold lineIn at hr
        split at hr
        · rename_i h1
          rw [if_pos h1]
          split at hr
          · cases hr
          · rename_i h2; rw [if_neg h2]; exact ⟨_, rfl⟩
        · rename_i h1; rw [if_neg h1]; exact ⟨_, rfl⟩
      | some r =>
        unfold lineIn at hr
        split at hr
        · rename_i h1
          split at hr
          · rename_i h2
            cases hr
            rw [if_neg hi, if_pos h1, if_pos h2]
            obtain ⟨S', ho, hm⟩ := loop5 k (ms := ms) (es := es) t L R a ls (i + 1) (some (.int i)) (some (.str l)) (some (.fl ((splitOn 32 l).map .str))) (some (.fl (((splitOn 32 l).zip ms).map fun p => itm (cell p.1 p.2)))) (S.put a (.lst (acc ++ [rw_ (got ((splitOn 32 l).zip ms))]))) (acc ++ [rw_ (got ((splitOn 32 l).zip ms))]) (fun x hx => hl x (List.mem_cons_of_mem _ hx)) (by simp) (by simp at hn ⊢; omega)
            refine ⟨S', (Oth.put a S _).trans ho, ?_⟩
            have hli : lineIn l ms = some (got ((splitOn 32 l).zip ms)) := by unfold lineIn; rw [if_pos h1, if_pos h2]
            simp only [rd, hi, if_false, hli]
            cases hrd : rd ms (i + 1) ls with
            | ok rs =>
              rw [hrd] at hm
              refine ⟨hm.1, ?_⟩
              rw [hm.2]
              simp
            | error e =>
              rw [hrd] at hm
              exact hm
          · cases hr
        · cases hr
/-! ### data made of a list of rows -/
structure Rs (rs : List (List (Option Nat))) (w : Nat) : Prop where
  ok : ∀ r ∈ rs, ∀ x ∈ r, ok9 x = true
  wid : ∀ r ∈ rs, r.length = w
  one : 1 ≤ w
  two : w ≤ 2
  few : rs.length ≤ 300
@[simp] theorem lenOf_tup (S : Store) (xs : List D) : lenOf S (.tup xs) = some xs.length := rfl
theorem s11 (k : Nat) {rs : List (List (Option Nat))} {w : Nat} (h : Rs rs w) (x : D) (S : Store) (hx : itemsOf S x = some (rs.map rw_)) (hs : ∀ z, x ≠ .str z) : sem ds (k + 2) 11 [x, .int w] S = .ok (.int w) S := by
  rw [sem_fn ds (k + 1) 11 e11 _ S rfl rfl rfl]
  have h22 := s22 k w 1 2 S
  have h1 := h.one
  have h2 := h.two
  have hlen : lenOf S x = some rs.length := by
    have : lenOf S x = (itemsOf S x).map (·.length) := by cases x <;> first | rfl | exact absurd rfl (hs _)
    rw [this, hx]; simp
  have hd : (decide ((1 : Int) ≤ w) && decide ((w : Int) ≤ 2)) = true := by simp; omega
  rw [hd] at h22
  cases rs with
  | nil =>
    simp at hlen
    simp [e11, biD, hlen, planned, allSome, h22]
  | cons r rs =>
    have hix : idxD S x 0 = some (rw_ r) := by
      have : idxD S x 0 = (itemsOf S x).bind fun xs => (ixOf xs.length 0).bind fun k => xs[k]? := by cases x <;> first | rfl | exact absurd rfl (hs _)
      rw [this, hx]
      simp [ixOf]
    have hw := h.wid r List.mem_cons_self
    have hp : ((rs.length : Int) + 1 > 0) := by omega
    unfold rw_ at hix
    simp at hlen
    simp [e11, biD, hlen, planned, allSome, h22, intOf, hix, kindOf, kindIs, hw, hp]
/-- a list of these things -/
def Lst (S : Store) (x : D) (xs : List D) : Prop := x = .fl xs ∨ ∃ a, x = .ref a ∧ S.get a = some (.lst xs)
theorem Lst.items {S : Store} {x : D} {xs : List D} (h : Lst S x xs) : itemsOf S x = some xs := by
  rcases h with rfl | ⟨a, rfl, h⟩
  · rfl
  · simp [itemsOf, h]
theorem Lst.walk {S : Store} {x : D} {xs : List D} (h : Lst S x xs) : walkOf S x = some xs := by
  rcases h with rfl | ⟨a, rfl, h⟩
  · rfl
  · simp [walkOf, itemsOf, h]
theorem Lst.len {S : Store} {x : D} {xs : List D} (h : Lst S x xs) : lenOf S x = some xs.length := by
  rcases h with rfl | ⟨a, rfl, h⟩
  · rfl
  · simp [lenOf, itemsOf, h]
theorem Lst.stands {S : Store} {x : D} {xs : List D} (h : Lst S x xs) : stands S (guardOf S x) = true := by
  rcases h with rfl | ⟨a, rfl, h⟩
  · rfl
  · simp [guardOf, h, Lk.stands, sames_refl]
theorem Lst.kind {S : Store} {x : D} {xs : List D} (h : Lst S x xs) : kindOf S 2 [.lst, .tup] x = some true := by
  rcases h with rfl | ⟨a, rfl, h⟩
  · rfl
  · simp [kindOf, h]
theorem Lst.nstr {S : Store} {x : D} {xs : List D} (h : Lst S x xs) : ∀ z, x ≠ .str z := by
  rcases h with rfl | ⟨a, rfl, h⟩ <;> intro z e <;> cases e
theorem s1 (k : Nat) {rs : List (List (Option Nat))} {w : Nat} (h : Rs rs w) {x : D} {S : Store} (hx : Lst S x (rs.map rw_)) : sem ds (k + 4) 1 [x, .int w] S = .ok (dt rs w) S := by
  rw [sem_ini ds (k + 3) 1 e1 0 _ _ S rfl rfl rfl]
  have h11 := s11 (k + 1) h x S hx.items hx.nstr
  have hl := hx.len
  have hf : ¬ (300 : Int) < rs.length := by have := h.few; omega
  have hc : ev (sem ds (k + 3)) c1_0 [none, some x, some (.int w), some (.int w), none] S = .ok (.fl (List.replicate rs.length (.bl true))) S :=
    (ev_lcP (g := guardOf S x) rs rw_ (fun _ => .bl true) (by simp [hx.walk]) (by have := h.few; simp [sizeMax]; omega) hx.stands fun r hr =>
      ⟨[none, some x, some (.int w), some (.int w), some (rw_ r)], rfl, rfl, by
        have := s12 k r (h.ok r hr) (by have := h.wid r hr; have := h.two; simp [sizeMax]; omega) S
        rw [h.wid r hr] at this
        simp [planned, allSome, rw_, this]⟩).trans (by rw [List.map_const'])
  have h1 : biD S .len [x] = some (.int rs.length) := by simp [biD, hl]
  have h2 : biD S .tuple [x] = some (.tup (rs.map rw_)) := by simp [biD, hx.items]
  simp [e1, hx.kind, hf, planned, allSome, h11, isNon, hc, h1, h2]
  rfl
end K39P
end
section
set_option Elab.async false
set_option linter.all false
set_option maxRecDepth 100000
set_option maxHeartbeats 1000000
namespace K39P
open Lk
/-- the store has grown -/
def Ge (S S' : Store) : Prop := S.next ≤ S'.next ∧ ∀ m, m < S.next → S'.get m = S.get m
theorem Ge.refl (S : Store) : Ge S S := ⟨Nat.le_refl _, fun _ _ => rfl⟩
theorem Ge.trans {S T U : Store} (h : Ge S T) (g : Ge T U) : Ge S U := ⟨Nat.le_trans h.1 g.1, fun m hm => (g.2 m (Nat.lt_of_lt_of_le hm h.1)).trans (h.2 m hm)⟩
theorem Ge.new (S : Store) (o : Ob) : Ge S (S.new o) := ⟨Nat.le_succ _, fun m hm => by rw [Store.get_new, if_neg (by omega)]⟩
theorem Ge.oth {S T U : Store} (h : Ge S T) {a : Nat} (ha : S.next ≤ a) (g : Oth a T U) : Ge S U := ⟨by rw [g.1]; exact h.1, fun m hm => (g.2 m (by omega)).trans (h.2 m hm)⟩
theorem cell_ok {w : List Nat} {m : Option Nat} {x : Option Nat} (h : cell w m = some x) : ok9 x = true := by
  unfold cell at h
  split at h
  · split at h
    · cases h; rfl
    · cases h
  · split at h
    · split at h
      · rename_i c _ hc
        split at h
        · cases h; rfl
        · cases h; simp [ok9]; omega
      · cases h
    · cases h
theorem got_ok (ps : List (List Nat × Option Nat)) : ∀ x ∈ got ps, ok9 x = true := by
  intro x hx
  unfold got at hx
  obtain ⟨p, _, rfl⟩ := List.mem_map.mp hx
  cases h : cell p.1 p.2 with
  | none => rfl
  | some y => exact cell_ok h
theorem lineIn_ok {l : List Nat} {ms : List (Option Nat)} {r : List (Option Nat)} (h : lineIn l ms = some r) : (∀ x ∈ r, ok9 x = true) ∧ r.length = ms.length := by
  unfold lineIn at h
  split at h
  · rename_i h1
    split at h
    · cases h
      exact ⟨got_ok _, by simp [got, List.length_zip, h1]⟩
    · cases h
  · cases h
theorem rd_ok {ms : List (Option Nat)} : ∀ {ls : List (List Nat)} {i : Nat} {rs : List (List (Option Nat))}, i ≤ 300 → rd ms i ls = .ok rs → (∀ r ∈ rs, (∀ x ∈ r, ok9 x = true) ∧ r.length = ms.length) ∧ rs.length + i ≤ 300
  | [], i, rs, hi, h => by cases h; exact ⟨fun r hr => absurd hr (by simp), by simpa using hi⟩
  | l :: ls, i, rs, hi, h => by
    unfold rd at h
    split at h
    · cases h
    · rename_i hi2
      cases hl : lineIn l ms with
      | none => rw [hl] at h; cases h
      | some r =>
        rw [hl] at h
        simp only at h
        cases hr : rd ms (i + 1) ls with
        | error e => rw [hr] at h; cases h
        | ok q =>
          rw [hr] at h
          cases h
          have := rd_ok (i := i + 1) (by omega) hr
          refine ⟨fun x hx => ?_, by simp; have := this.2; omega⟩
          rcases List.mem_cons.mp hx with rfl | hx
          · exact lineIn_ok hl
          · exact this.1 x hx
/-- what read_data gives -/
def readT (ms : List (Option Nat)) (t : List Nat) : Except Nat (List (List (Option Nat))) := match rd ms 0 ((splitOn 10 t).dropLast) with
  | .error e => .error e
  | .ok rs => if (splitOn 10 t).getLast? = some [] then .ok rs else .error (splitOn 10 t).dropLast.length
theorem readT_ok {ms : List (Option Nat)} (hm : Mk ms) {t : List Nat} {rs : List (List (Option Nat))} (h : readT ms t = .ok rs) : Rs rs ms.length := by
  unfold readT at h
  cases hr : rd ms 0 ((splitOn 10 t).dropLast) with
  | error e => rw [hr] at h; cases h
  | ok q =>
    rw [hr] at h
    simp only at h
    split at h
    · cases h
      have := rd_ok (by omega) hr
      exact ⟨fun r hr => (this.1 r hr).1, fun r hr => (this.1 r hr).2, hm.one, hm.two, by simpa using this.2⟩
    · cases h
theorem s5 (k : Nat) {ms es : List (Option Nat)} (hm : Mk ms) {t : List Nat} (ht : Tx t) (S : Store) : ∃ S', Ge S S' ∧ sem ds (k + 5) 5 [.str t, mk ms es] S = (match readT ms t with
    | .ok rs => .ok (dt rs ms.length) S'
    | .error e => .exc 3 [.int e] S') := by
  rw [sem_fn ds (k + 4) 5 e5 _ S rfl rfl rfl]
  obtain ⟨ls, r, hs⟩ := split_last 10 t
  have hTl : ∀ l ∈ ls, Tx l := fun l hl => ht.word (c := 10) (by rw [hs]; exact List.mem_append_left _ hl)
  have hTr : Tx r := ht.word (c := 10) (by rw [hs]; simp)
  have h16 := s16 (k + 3) ms es S
  have h17 := s17 (k + 3) ht hs S
  have hln : ls.length ≤ 2000 := by have := split_len 10 t; rw [hs] at this; have := ht.1; simp at *; omega
  obtain ⟨S', ho, hl⟩ := loop5 (k + 3) (ms := ms) (es := es) (some (.str t)) (some (.fl (ls.map .str))) (some (.str r)) S.next ls 0 none none none none (S.new (.lst [])) [] hTl (by simp) (by simp; omega)
  refine ⟨S', (Ge.new S _).oth (Nat.le_refl _) ho, ?_⟩
  have hrT : readT ms t = (match rd ms 0 ls with
      | .error e => .error e
      | .ok rs => if r = [] then .ok rs else .error ls.length) := by
    unfold readT
    rw [hs]
    simp
  rw [hrT]
  cases hr : rd ms 0 ls with
  | error e =>
    rw [hr] at hl
    obtain ⟨σ', hl⟩ := hl
    simp [e5, planned, allSome, h16, h17, ex_for, walkOf, itemsOf, guardOf, hl]
  | ok rs =>
    rw [hr] at hl
    obtain ⟨⟨y5, y6, y7, y8, hl⟩, hg⟩ := hl
    have hq : eqS S' (.str r) (.str []) = some (r == []) := eqS_str hTr.2 (by simp)
    by_cases hrr : r = []
    · subst hrr
      have hR : Rs rs ms.length := readT_ok (t := t) hm (by rw [hrT, hr]; simp)
      have h1 := s1 k hR (x := .ref S.next) (S := S') (Or.inr ⟨S.next, rfl, by simpa using hg⟩)
      have h27 := s27 (k + 3) ms es S'
      unfold mk at *
      simp [e5, planned, allSome, h16, h17, ex_for, walkOf, itemsOf, guardOf, hl, hq, h27, h1]
    · have hq2 : (r == []) = false := by rw [beq_eq_false_iff_ne]; exact hrr
      rw [hq2] at hq
      simp [e5, planned, allSome, h16, h17, ex_for, walkOf, itemsOf, guardOf, hl, hq, hrr]
end K39P
end
section
set_option Elab.async false
set_option linter.all false
set_option maxRecDepth 100000
set_option maxHeartbeats 1000000
namespace K39P
open Lk
/-- what is told of a text -/
def val : Except Nat (List (List (Option Nat))) → D
  | .ok rs => .tup (rs.map rw_)
  | .error e => .int e
theorem s7 (k : Nat) {ms es : List (Option Nat)} (hm : Mk ms) {t : List Nat} (ht : Tx t) (S : Store) : ∃ S', Ge S S' ∧ sem ds (k + 6) 7 [.str t, mk ms es] S = .ok (val (readT ms t)) S' := by
  rw [sem_fn ds (k + 5) 7 e7 _ S rfl rfl rfl]
  obtain ⟨S', hg, h⟩ := s5 k (es := es) hm ht S
  refine ⟨S', hg, ?_⟩
  cases hr : readT ms t with
  | ok rs =>
    rw [hr] at h
    have h25 := s25 (k + 4) rs ms.length S'
    unfold dt at *
    simp [e7, planned, allSome, h, h25, val]
    exact fun _ _ => rfl
  | error e =>
    rw [hr] at h
    simp [e7, planned, allSome, h, val, hnd]
theorem s5x (k : Nat) {ms es : List (Option Nat)} (x : D) (hx : kindOf ⟨0, .nil⟩ 2 [.str] x = some false) (hr : ∀ n, x ≠ .ref n) (S : Store) : sem ds (k + 5) 5 [x, mk ms es] S = .exc 3 [.int 0] S := by
  rw [sem_fn ds (k + 4) 5 e5 _ S rfl rfl rfl]
  have h16 := s16 (k + 3) ms es S
  have h17 := s17x (k + 3) x hx hr S
  simp [e5, planned, allSome, h16, h17]
theorem s7x (k : Nat) {ms es : List (Option Nat)} (x : D) (hx : kindOf ⟨0, .nil⟩ 2 [.str] x = some false) (hr : ∀ n, x ≠ .ref n) (S : Store) : sem ds (k + 6) 7 [x, mk ms es] S = .ok (.int 0) S := by
  rw [sem_fn ds (k + 5) 7 e7 _ S rfl rfl rfl]
  have h := s5x k (ms := ms) (es := es) x hx hr S
  simp [e7, planned, allSome, h, hnd]
/-! ### what is due -/
def chs : List Nat := [48, 49, 50, 51, 52, 53, 54, 55, 56, 57, 45]
theorem in_chs (S : Store) {w : List Nat} (hw : Tx w) : inD S (.str w) (.fl (chs.map fun c => .str [c])) = some (chs.any fun c => [c] == w) := by
  show memD S (.str w) (chs.map fun c => .str [c]) = _
  unfold memD
  rw [rsv_str hw.2]
  have : allSome (rsv S 60) (chs.map fun c => .str [c]) = some (chs.map fun c => .str [c]) := rfl
  rw [this]
  simp [List.any_map, eqD, Function.comp_def]
theorem turn21 (k : Nat) (x0 x1 x2 : Option D) (a : Nat) {w : List Nat} (hw : Tx w) (m : Option Nat) (S : Store) (acc : List D) (ha : S.get a = some (.lst acc)) (hn : acc.length ≤ 3000) :
    exs (sem ds k) b21_0 [x0, x1, x2, some (.ref a), some (.str w), some (cd m)] S = (match cell w m with
      | none => .ok (.rt .non) S
      | some x => .ok (.nx [x0, x1, x2, some (.ref a), some (.str w), some (cd m)]) (S.put a (.lst (acc ++ [cd x])))) := by
  have hap : ∀ x, mthD .append (.ref a) [x] S = .ok .non (S.put a (.lst (acc ++ [x]))) := fun x => by
    simp only [mthD, ha]
    rw [if_pos (show acc.length < sizeMax from by simp [sizeMax]; omega)]
  have hft : mthFits S .append (.ref a) = true := by simp [mthFits, ha]
  have hls : biD S .list [.str [48, 49, 50, 51, 52, 53, 54, 55, 56, 57, 45]] = some (.fl (chs.map fun c => .str [c])) := by rfl
  have hin := in_chs S hw
  have hq : eqS S (.str w) (.str [45]) = some (w == [45]) := eqS_str hw.2 (by simp)
  by_cases h1 : w = [45]
  · subst h1
    rw [show (chs.any fun c => [c] == [45]) = true from rfl] at hin
    cases m with
    | none => simp [b21_0, hls, hin, hq, cell, isNon, hft, hap]
    | some n => simp [b21_0, hls, hin, hq, cell, isNon]
  · rw [show (w == [45]) = false from by rw [beq_eq_false_iff_ne]; exact h1] at hq
    match w, h1, hq, hin with
    | [], h1, hq, hin =>
      rw [show (chs.any fun c => [c] == []) = false from rfl] at hin
      simp [b21_0, hls, hin, cell]
    | u :: v :: r, h1, hq, hin =>
      rw [show (chs.any fun c => [c] == u :: v :: r) = false from by simp [chs]] at hin
      simp [b21_0, hls, hin, cell]
    | [c], h1, hq, hin =>
      have hc : ¬ c = 45 := fun h => h1 (by rw [h])
      by_cases h2 : 48 ≤ c ∧ c ≤ 57
      · rw [show (chs.any fun d => [d] == [c]) = true from by simp [chs]; omega] at hin
        have hi : biD S .int [.str [c]] = some (.int ((c - 48 : Nat) : Int)) := by simp [biD, numOf, h2]
        have hq2 := eqS_cd (S := S) (some (c - 48)) m
        by_cases h3 : some (c - 48) = m
        · subst h3
          simp [b21_0, hls, hin, hq, cell, hc, h2, hi, hft, hap]
        · rw [show (some (c - 48) == m) = false from by rw [beq_eq_false_iff_ne]; exact h3, cd_some] at hq2
          simp [b21_0, hls, hin, hq, cell, hc, h2, hi, hq2, h3, hft, hap]
      · rw [show (chs.any fun d => [d] == [c]) = false from by simp [chs]; omega] at hin
        simp [b21_0, hls, hin, cell, hc, h2]
theorem loop21 (k : Nat) (x0 x1 x2 : Option D) (a : Nat) : ∀ (ps : List (List Nat × Option Nat)) (x4 x5 : Option D) (S : Store) (acc : List D), (∀ p ∈ ps, Tx p.1) → S.get a = some (.lst acc) → acc.length + ps.length ≤ 3000 →
    ∃ S', Oth a S S' ∧ (match ps.all (fun p => (cell p.1 p.2).isSome) with
      | true => (∃ y4 y5, forGo [] (.tp (.cons (.nm 4) (.cons (.nm 5) .nil))) (exs (sem ds k) b21_0) (ps.map fun p => .tup [.str p.1, cd p.2]) [x0, x1, x2, some (.ref a), x4, x5] S = .ok (.nx [x0, x1, x2, some (.ref a), y4, y5]) S') ∧ S'.get a = some (.lst (acc ++ (got ps).map cd))
      | false => forGo [] (.tp (.cons (.nm 4) (.cons (.nm 5) .nil))) (exs (sem ds k) b21_0) (ps.map fun p => .tup [.str p.1, cd p.2]) [x0, x1, x2, some (.ref a), x4, x5] S = .ok (.rt .non) S')
  | [], x4, x5, S, acc, _, ha, _ => ⟨S, Oth.refl a S, ⟨x4, x5, rfl⟩, by simpa [got] using ha⟩
  | p :: ps, x4, x5, S, acc, hp, ha, hn => by
    have ht := turn21 k x0 x1 x2 a (hp p List.mem_cons_self) p.2 S acc ha (by simp at hn; omega)
    have e : forGo [] (.tp (.cons (.nm 4) (.cons (.nm 5) .nil))) (exs (sem ds k) b21_0) ((p :: ps).map fun p => .tup [.str p.1, cd p.2]) [x0, x1, x2, some (.ref a), x4, x5] S =
        M.bind (exs (sem ds k) b21_0 [x0, x1, x2, some (.ref a), some (.str p.1), some (cd p.2)]) (fun f => match f with
          | .nx σ3 => forGo [] (.tp (.cons (.nm 4) (.cons (.nm 5) .nil))) (exs (sem ds k) b21_0) (ps.map fun p => .tup [.str p.1, cd p.2]) σ3
          | .ct σ3 => forGo [] (.tp (.cons (.nm 4) (.cons (.nm 5) .nil))) (exs (sem ds k) b21_0) (ps.map fun p => .tup [.str p.1, cd p.2]) σ3
          | .bk σ3 => M.pure (.nx σ3)
          | .rt d => M.pure (.rt d)
          | .xc c p σ3 => M.pure (.xc c p σ3)) S := rfl
    rw [e, M.bind_app, ht]
    cases hc : cell p.1 p.2 with
    | none =>
      refine ⟨S, Oth.refl a S, ?_⟩
      simp only [List.all_cons, hc, Option.isSome_none, Bool.false_and]
      rfl
    | some x =>
      obtain ⟨S', ho, hm⟩ := loop21 k x0 x1 x2 a ps (some (.str p.1)) (some (cd p.2)) (S.put a (.lst (acc ++ [cd x]))) (acc ++ [cd x]) (fun q hq => hp q (List.mem_cons_of_mem _ hq)) (by simp) (by simp at hn ⊢; omega)
      refine ⟨S', (Oth.put a S _).trans ho, ?_⟩
      simp only [List.all_cons, hc, Option.isSome_some, Bool.true_and]
      cases hb : ps.all (fun p => (cell p.1 p.2).isSome) with
      | true =>
        rw [hb] at hm
        refine ⟨hm.1, ?_⟩
        rw [hm.2]
        simp [got, hc]
      | false =>
        rw [hb] at hm
        exact hm
def Dof : Option (List (Option Nat)) → D
  | none => .non
  | some r => rw_ r
theorem s21 (k : Nat) {l : List Nat} (hl : Tx l) (ms : List (Option Nat)) (S : Store) : ∃ S', Ge S S' ∧ sem ds (k + 1) 21 [.str l, .tup (ms.map cd)] S = .ok (Dof (lineIn l ms)) S' := by
  rw [sem_fn ds k 21 e21 _ S rfl rfl rfl]
  have h1 := mth_split hl 32 (by decide) S
  have hln : (splitOn 32 l).length ≤ 2001 := Nat.le_trans (split_len 32 l) (by have := hl.1; omega)
  have hz : ((splitOn 32 l).zip ms).length ≤ 2001 := by rw [List.length_zip]; omega
  obtain ⟨S', ho, hm⟩ := loop21 k (some (.str l)) (some (.tup (ms.map cd))) (some (.fl ((splitOn 32 l).map .str))) S.next ((splitOn 32 l).zip ms) none none (S.new (.lst [])) [] (fun p hp => hl.word (List.of_mem_zip hp).1) (by simp) (by simp only [List.length_nil]; omega)
  have hle : (((splitOn 32 l).length : Int) == (ms.length : Int)) = decide ((splitOn 32 l).length = ms.length) := by rw [Bool.eq_iff_iff]; simp; omega
  have hpm := pairs_map D.str cd (splitOn 32 l) ms
  by_cases hq : (splitOn 32 l).length = ms.length
  · refine ⟨S', (Ge.new S _).oth (Nat.le_refl _) ho, ?_⟩
    cases hb : ((splitOn 32 l).zip ms).all (fun p => (cell p.1 p.2).isSome) with
    | true =>
      rw [hb] at hm
      obtain ⟨⟨y4, y5, hm⟩, hg⟩ := hm
      have ht : biD S' .tuple [.ref S.next] = some (rw_ (got ((splitOn 32 l).zip ms))) := by simp [biD, itemsOf, hg, rw_]
      simp [e21, mthFits, h1, hq, ex_for, walkOf, itemsOf, guardOf, hpm, hm, ht, lineIn, hb, Dof]
    | false =>
      rw [hb] at hm
      simp [e21, mthFits, h1, hq, ex_for, walkOf, itemsOf, guardOf, hpm, hm, lineIn, hb, Dof]
  · refine ⟨S.new (.lst []), Ge.new S _, ?_⟩
    simp [e21, mthFits, h1, hle, hq, lineIn, Dof]
end K39P
end
section
set_option Elab.async false
set_option linter.all false
set_option maxRecDepth 100000
set_option maxHeartbeats 1000000
namespace K39P
open Lk
/-! ### comprehensions that let the store grow -/
theorem lcGo_mapG {α : Type} {tg : Tg} {own : List Nat} {σ : Env} {t : Env → M Bool} {e : Env → M D} (gg f : α → D) {S : Store} : ∀ {ps : List α} {S1 : Store}, Ge S S1 → (∀ p ∈ ps, ∃ σ2, setTg tg (gg p) (wipeE σ own) = some σ2 ∧ (∀ S1, Ge S S1 → t σ2 S1 = .ok true S1) ∧ ∀ S1, Ge S S1 → ∃ S2, Ge S1 S2 ∧ e σ2 S1 = .ok (f p) S2) → ∃ S2, Ge S1 S2 ∧ lcGo [] tg own σ t e (ps.map gg) S1 = .ok (ps.map f) S2
  | [], S1, _, _ => ⟨S1, Ge.refl S1, rfl⟩
  | x :: xs, S1, hg, h => by
    obtain ⟨σ2, h1, h2, h3⟩ := h x List.mem_cons_self
    obtain ⟨S2, g2, h3⟩ := h3 S1 hg
    obtain ⟨S3, g3, ih⟩ := lcGo_mapG (tg := tg) (own := own) (σ := σ) (t := t) (e := e) gg f (hg.trans g2) fun y hy => h y (List.mem_cons_of_mem _ hy)
    refine ⟨S3, g2.trans g3, ?_⟩
    simp [lcGo, h1, h2 S1 hg, h3, ih]
theorem ev_lcG {α : Type} {cal : Nat → List D → M D} {own : List Nat} {tg : Tg} {it : XI} {t e : XE} {σ : Env} {S : Store} (ps : List α) (gg f : α → D) (hi : evI cal it σ S = .ok (ps.map gg, []) S) (hl : ps.length ≤ sizeMax)
    (h : ∀ p ∈ ps, ∃ σ2, setTg tg (gg p) (wipeE σ own) = some σ2 ∧ (∀ S1, ev cal t σ2 S1 = .ok (.bl true) S1) ∧ ∀ S1, Ge S S1 → ∃ S2, Ge S1 S2 ∧ ev cal e σ2 S1 = .ok (f p) S2) : ∃ S2, Ge S S2 ∧ ev cal (.lcm own tg it t e) σ S = .ok (.fl (ps.map f)) S2 := by
  obtain ⟨S2, g2, h2⟩ := lcGo_mapG (tg := tg) (own := own) (σ := σ) (t := fun σ => M.bind (ev cal t σ) fun x => M.opt (truth x)) (e := fun σ => ev cal e σ) gg f (S := S) (Ge.refl S) (ps := ps) fun p hp => by
    obtain ⟨σ2, h1, h2, h3⟩ := h p hp
    exact ⟨σ2, h1, fun S1 _ => by simp [h2], h3⟩
  refine ⟨S2, g2, ?_⟩
  rw [ev_lcm]
  simp only [M.bind_app, hi]
  unfold lcAll
  rw [decide_eq_true (show (ps.map gg, ([] : Gd)).1.length ≤ sizeMax from by simpa using hl)]
  simp only [h2]
  rfl
/-! ### values at rest -/
theorem allSome_id {α : Type} {g : α → Option α} : ∀ {xs : List α}, (∀ x ∈ xs, g x = some x) → allSome g xs = some xs
  | [], _ => rfl
  | x :: xs, h => by simp [allSome, h x List.mem_cons_self, allSome_id fun y hy => h y (List.mem_cons_of_mem _ hy)]
theorem rsv_rw {S : Store} {k : Nat} (r : List (Option Nat)) : rsv S (k + 2) (rw_ r) = some (rw_ r) := by
  show (allSome (rsv S (k + 1)) (r.map cd)).map D.tup = _
  rw [allSome_id fun x hx => by obtain ⟨c, _, rfl⟩ := List.mem_map.mp hx; exact rsv_cd c]
  rfl
theorem rsv_rows {S : Store} {k : Nat} (rs : List (List (Option Nat))) : rsv S (k + 3) (.tup (rs.map rw_)) = some (.tup (rs.map rw_)) := by
  show (allSome (rsv S (k + 2)) (rs.map rw_)).map D.tup = _
  rw [allSome_id fun x hx => by obtain ⟨c, _, rfl⟩ := List.mem_map.mp hx; exact rsv_rw c]
  rfl
theorem rsv_Dof {S : Store} {k : Nat} (o : Option (List (Option Nat))) : rsv S (k + 2) (Dof o) = some (Dof o) := by
  cases o with
  | none => rfl
  | some r => exact rsv_rw r
theorem eqDs_map {α : Type} (f : α → D) (h : ∀ x, eqD (f x) (f x) = true) : ∀ xs : List α, eqDs (xs.map f) (xs.map f) = true
  | [] => rfl
  | x :: xs => by simp [eqDs, h x, eqDs_map f h xs]
theorem eqD_rw (r : List (Option Nat)) : eqD (rw_ r) (rw_ r) = true := by
  show eqDs (r.map cd) (r.map cd) = true
  exact eqDs_map cd (fun x => by simp [eqD_cd]) r
theorem eqS_val (S : Store) (v : Except Nat (List (List (Option Nat)))) : eqS S (val v) (val v) = some true := by
  cases v with
  | error e => simp [val]
  | ok rs =>
    unfold eqS val
    simp only [rsv_rows]
    show some (eqDs (rs.map rw_) (rs.map rw_)) = _
    rw [eqDs_map rw_ eqD_rw]
theorem cmp_val (cal : Nat → List D → M D) (tb : List (Nat × Nat)) (S : Store) (v : Except Nat (List (List (Option Nat)))) : cmpC cal .ne tb (val v) (val v) S = .ok (.bl false) S := by
  have h := eqS_val S v
  cases v with
  | error e => simp [val]
  | ok rs => simp only [val] at h ⊢; simp [h]
/-! ### None in a list, and where -/
theorem non_Dof (o : Option (List (Option Nat))) : eqD (Dof o) .non = o.isNone := by cases o <;> rfl
theorem mem_non (S : Store) (os : List (Option (List (Option Nat)))) : memD S .non (os.map Dof) = some (os.any (·.isNone)) := by
  unfold memD
  rw [show rsv S 60 .non = some .non from rfl]
  simp only
  rw [allSome_id fun x hx => by obtain ⟨c, _, rfl⟩ := List.mem_map.mp hx; exact rsv_Dof c]
  simp [List.any_map, non_Dof, Function.comp_def]
theorem findIdx_map {α β : Type} (f : α → β) (p : β → Bool) : ∀ xs : List α, (xs.map f).findIdx? p = xs.findIdx? fun x => p (f x)
  | [] => rfl
  | x :: xs => by simp [List.findIdx?_cons, findIdx_map f p xs]
theorem index_non (S : Store) (os : List (Option (List (Option Nat)))) (h : os.any (·.isNone) = true) : indexD S .non (os.map Dof) = os.findIdx? (·.isNone) := by
  unfold indexD
  rw [mem_non, h]
  simp only
  rw [show rsv S 60 .non = some .non from rfl, allSome_id fun x hx => by obtain ⟨c, _, rfl⟩ := List.mem_map.mp hx; exact rsv_Dof c]
  simp only
  rw [findIdx_map]
  simp only [non_Dof]
/-! ### read and due are one -/
theorem rd_find (ms : List (Option Nat)) : ∀ (ls : List (List Nat)) (i : Nat), i + ls.length ≤ 300 → rd ms i ls = (match (ls.map (lineIn · ms)).findIdx? (·.isNone) with
    | some j => .error (i + j)
    | none => .ok (ls.map fun l => (lineIn l ms).getD []))
  | [], _, _ => rfl
  | l :: ls, i, h => by
    have ih := rd_find ms ls (i + 1) (by simp at h; omega)
    unfold rd
    rw [if_neg (by simp at h; omega), ih]
    cases hl : lineIn l ms with
    | none => simp [List.findIdx?_cons, hl]
    | some r =>
      simp only [List.map_cons, List.findIdx?_cons, hl, Option.isNone_some]
      cases hf : (ls.map (lineIn · ms)).findIdx? (·.isNone) with
      | none => simp
      | some j => simp; omega
theorem s10 (k : Nat) {t : List Nat} (ht : Tx t) (ms : List (Option Nat)) (hf : (splitOn 10 t).length ≤ 300) (S : Store) : ∃ S', Ge S S' ∧ sem ds (k + 2) 10 [.str t, .tup (ms.map cd)] S = .ok (val (readT ms t)) S' := by
  rw [sem_fn ds (k + 1) 10 e10 _ S rfl rfl rfl]
  obtain ⟨ls, r, hs⟩ := split_last 10 t
  have hTl : ∀ l ∈ ls, Tx l := fun l hl => ht.word (c := 10) (by rw [hs]; exact List.mem_append_left _ hl)
  have hTr : Tx r := ht.word (c := 10) (by rw [hs]; simp)
  have hle : ls.length ≤ 300 := by rw [hs] at hf; simp at hf; omega
  have hrT : readT ms t = (match rd ms 0 ls with
      | .error e => .error e
      | .ok rs => if r = [] then .ok rs else .error ls.length) := by
    unfold readT
    rw [hs]
    simp <;> rfl
  rw [rd_find ms ls 0 (by omega)] at hrT
  have h1 := mth_split ht 10 (by decide) S
  rw [hs, List.map_append] at h1
  have h4 : ∀ S, slcD S (.fl (ls.map D.str ++ [D.str r])) none (some (-1)) = some (.fl (ls.map .str)) := fun S => congrArg (fun q => some (D.fl q)) (cut_last (ls.map D.str) (D.str r))
  have h5 : ∀ S, idxD S (.fl (ls.map D.str ++ [D.str r])) (-1) = some (.str r) := fun S => ix_last (ls.map D.str) (D.str r)
  obtain ⟨S', hg, hc⟩ : ∃ S', Ge S S' ∧ ev (sem ds (k + 1)) c10_0 [some (.str t), some (.tup (ms.map cd)), some (.fl (ls.map D.str ++ [D.str r])), none, none] S = .ok (.fl (ls.map fun l => Dof (lineIn l ms))) S' :=
    ev_lcG ls D.str (fun l => Dof (lineIn l ms)) (by simp [h4, intOf, walkOf, itemsOf, guardOf]) (Nat.le_trans hle (by decide)) fun l hl =>
      ⟨[some (.str t), some (.tup (ms.map cd)), some (.fl (ls.map D.str ++ [D.str r])), none, some (.str l)], rfl, fun _ => rfl, fun S1 g1 => by
        obtain ⟨S2, g2, h2⟩ := s21 k (hTl l hl) ms S1
        exact ⟨S2, g2, by simp [planned, allSome, h2]⟩⟩
  refine ⟨S', hg, ?_⟩
  have hmm : (ls.map fun l => Dof (lineIn l ms)) = (ls.map (lineIn · ms)).map Dof := by simp [Function.comp_def]
  have hin : inD S' .non (.fl (ls.map fun l => Dof (lineIn l ms))) = some ((ls.map (lineIn · ms)).any (·.isNone)) := by
    rw [hmm]
    exact mem_non S' _
  cases hfi : (ls.map (lineIn · ms)).findIdx? (·.isNone) with
  | some j =>
    rw [hfi] at hrT
    have ha : (ls.map (lineIn · ms)).any (·.isNone) = true := by
      cases hb : (ls.map (lineIn · ms)).any (·.isNone) with
      | true => rfl
      | false =>
        have := List.findIdx?_eq_none_iff.mpr fun x hx => Bool.eq_false_iff.mpr (List.any_eq_false.mp hb x hx)
        rw [this] at hfi
        cases hfi
    rw [ha] at hin
    have hix : mthD .index (.fl (ls.map fun l => Dof (lineIn l ms))) [.non] S' = .ok (.int j) S' := by
      rw [hmm]
      simp only [mthD, seqOf, itemsOf]
      rw [index_non S' _ ha, hfi]
    simp [e10, mthFits, h1, hc, hin, hix, hrT, val]
  | none =>
    rw [hfi] at hrT
    have ha : (ls.map (lineIn · ms)).any (·.isNone) = false := by
      rw [List.any_eq_false]
      intro x hx
      have : x.isNone = false := List.findIdx?_eq_none_iff.mp hfi x hx
      rw [this]
      simp
    rw [ha] at hin
    have hq : eqS S' (.str r) (.str []) = some (r == []) := eqS_str hTr.2 (by simp)
    by_cases hr : r = []
    · subst hr
      have he : ∀ l ∈ ls, Dof (lineIn l ms) = rw_ ((lineIn l ms).getD []) := fun l hl => by
        have := List.findIdx?_eq_none_iff.mp hfi (lineIn l ms) (List.mem_map.mpr ⟨l, hl, rfl⟩)
        cases h : lineIn l ms with
        | none => rw [h] at this; cases this
        | some r => rfl
      simp [e10, mthFits, h1, hc, hin, h5, intOf, hq, hrT, val]
      exact he
    · rw [show (r == []) = false from by rw [beq_eq_false_iff_ne]; exact hr] at hq
      simp [e10, mthFits, h1, hc, hin, h5, intOf, hq, hrT, val, hr]
end K39P
end
section
set_option Elab.async false
set_option linter.all false
set_option maxRecDepth 100000
set_option maxHeartbeats 1000000
namespace K39P
open Lk
/-! ### what is written -/
def word : Option Nat → List Nat
  | none => [45]
  | some n => [48 + n]
def words (r ms : List (Option Nat)) : List (List Nat) := (r.zip ms).map fun p => word (p.1.or p.2)
def lineOf (r ms : List (Option Nat)) : List Nat := joinOn [32] (words r ms)
def texts (rs : List (List (Option Nat))) (ms : List (Option Nat)) : List (List Nat) := rs.map fun r => lineOf r ms ++ [10]
def mend (a m : Option Nat) : Option Nat := if a = m then none else a
def mends (rs : List (List (Option Nat))) (ms : List (Option Nat)) : List (List (Option Nat)) := rs.map fun r => (r.zip ms).map fun p => mend p.1 p.2
theorem cell_word {a m : Option Nat} (ha : ok9 a = true) (hm : ok9 m = true) : cell (word (a.or m)) m = some (mend a m) := by
  cases a with
  | none =>
    cases m with
    | none => rfl
    | some n =>
      simp only [ok9, Option.all_some, decide_eq_true_eq] at hm
      simp [word, cell, mend]
      omega
  | some n =>
    simp only [ok9, Option.all_some, decide_eq_true_eq] at ha
    have h1 : ¬ 48 + n = 45 := by omega
    have h2 : 48 + n ≤ 57 := by omega
    have h3 : 48 + n - 48 = n := by omega
    simp [word, cell, mend, h1, h2, h3]
theorem split_cons (c x : Nat) (xs : List Nat) : splitOn c (x :: xs) = (if x = c then [] :: splitOn c xs else match splitOn c xs with
    | [] => [[x]]
    | w :: ws => (x :: w) :: ws) := rfl
theorem split_no {c : Nat} : ∀ {w : List Nat}, c ∉ w → splitOn c w = [w]
  | [], _ => rfl
  | x :: xs, h => by
    have h1 : ¬ x = c := fun e => h (by rw [e]; exact List.mem_cons_self)
    unfold splitOn
    rw [if_neg h1, split_no (fun e => h (List.mem_cons_of_mem _ e))]
theorem split_app {c : Nat} (t : List Nat) : ∀ {w : List Nat}, c ∉ w → splitOn c (w ++ c :: t) = w :: splitOn c t
  | [], _ => by simp [splitOn]
  | x :: xs, h => by
    have h1 : ¬ x = c := fun e => h (by rw [e]; exact List.mem_cons_self)
    show splitOn c (x :: (xs ++ c :: t)) = _
    rw [split_cons, if_neg h1, split_app t (fun e => h (List.mem_cons_of_mem _ e))]
theorem split_join {c : Nat} : ∀ {ws : List (List Nat)}, ws ≠ [] → (∀ w ∈ ws, c ∉ w) → splitOn c (joinOn [c] ws) = ws
  | [], h, _ => absurd rfl h
  | [w], _, h => split_no (h w List.mem_cons_self)
  | w :: v :: ws, _, h => by
    have ih := split_join (ws := v :: ws) (by simp) fun x hx => h x (List.mem_cons_of_mem _ hx)
    show splitOn c (w ++ [c] ++ joinOn [c] (v :: ws)) = _
    rw [List.append_assoc]
    show splitOn c (w ++ c :: joinOn [c] (v :: ws)) = _
    rw [split_app _ (h w List.mem_cons_self), ih]
theorem split_flat {c : Nat} : ∀ {ws : List (List Nat)}, (∀ w ∈ ws, c ∉ w) → splitOn c (ws.map (· ++ [c])).flatten = ws ++ [[]]
  | [], _ => rfl
  | w :: ws, h => by
    have ih := split_flat (ws := ws) fun x hx => h x (List.mem_cons_of_mem _ hx)
    show splitOn c ((w ++ [c]) ++ (ws.map (· ++ [c])).flatten) = _
    rw [List.append_assoc]
    show splitOn c (w ++ c :: (ws.map (· ++ [c])).flatten) = _
    rw [split_app _ (h w List.mem_cons_self), ih]
    rfl
theorem word_mem {c : Option Nat} (h : ok9 c = true) : ∀ x ∈ word c, x = 45 ∨ (48 ≤ x ∧ x ≤ 57) := by
  intro x hx
  cases c with
  | none => simp [word] at hx; omega
  | some n =>
    simp only [ok9, Option.all_some, decide_eq_true_eq] at h
    simp [word] at hx
    omega
theorem word_len (c : Option Nat) : (word c).length = 1 := by cases c <;> rfl
theorem ok_or {a m : Option Nat} (ha : ok9 a = true) (hm : ok9 m = true) : ok9 (a.or m) = true := by cases a <;> assumption
theorem words_mem {r ms : List (Option Nat)} (hr : ∀ x ∈ r, ok9 x = true) (hm : ∀ x ∈ ms, ok9 x = true) : ∀ w ∈ words r ms, ∀ x ∈ w, x = 45 ∨ (48 ≤ x ∧ x ≤ 57) := by
  intro w hw
  obtain ⟨p, hp, rfl⟩ := List.mem_map.mp hw
  exact word_mem (ok_or (hr _ (List.of_mem_zip hp).1) (hm _ (List.of_mem_zip hp).2))
theorem join_mem (c : List Nat) : ∀ (ws : List (List Nat)) (x : Nat), x ∈ joinOn c ws → x ∈ c ∨ ∃ w ∈ ws, x ∈ w
  | [], x, h => by simp [joinOn] at h
  | [w], x, h => Or.inr ⟨w, List.mem_cons_self, h⟩
  | w :: v :: ws, x, h => by
    have h : x ∈ w ++ c ++ joinOn c (v :: ws) := h
    rcases List.mem_append.mp h with h | h
    · rcases List.mem_append.mp h with h | h
      · exact Or.inr ⟨w, List.mem_cons_self, h⟩
      · exact Or.inl h
    · rcases join_mem c (v :: ws) x h with h | ⟨u, h1, h2⟩
      · exact Or.inl h
      · exact Or.inr ⟨u, List.mem_cons_of_mem _ h1, h2⟩
theorem join_len (c : List Nat) : ∀ ws : List (List Nat), (joinOn c ws).length ≤ (ws.map (·.length)).sum + ws.length * c.length
  | [] => by simp [joinOn]
  | [w] => by simp [joinOn]
  | w :: v :: ws => by
    have ih := join_len c (v :: ws)
    show (w ++ c ++ joinOn c (v :: ws)).length ≤ _
    simp only [List.length_append, List.map_cons, List.sum_cons, List.length_cons, Nat.succ_mul] at ih ⊢
    omega
theorem line_mem {r ms : List (Option Nat)} (hr : ∀ x ∈ r, ok9 x = true) (hm : ∀ x ∈ ms, ok9 x = true) : ∀ x ∈ lineOf r ms, x = 32 ∨ x = 45 ∨ (48 ≤ x ∧ x ≤ 57) := by
  intro x hx
  rcases join_mem _ _ x hx with h | ⟨w, h1, h2⟩
  · simp at h; exact Or.inl h
  · exact Or.inr (words_mem hr hm w h1 x h2)
theorem words_sum (r ms : List (Option Nat)) : ((words r ms).map (·.length)).sum = (words r ms).length := by
  unfold words
  generalize r.zip ms = ps
  induction ps with
  | nil => rfl
  | cons p ps ih => simp only [List.map_cons, List.sum_cons, List.length_cons, ih, word_len]; omega
theorem line_len {r ms : List (Option Nat)} (hm : ms.length ≤ 2) : (lineOf r ms).length ≤ 4 := by
  have := join_len [32] (words r ms)
  rw [words_sum] at this
  have hw : (words r ms).length ≤ 2 := by unfold words; rw [List.length_map, List.length_zip]; omega
  unfold lineOf
  simp at this
  omega
theorem line_read {r ms : List (Option Nat)} (hr : ∀ x ∈ r, ok9 x = true) (hm : ∀ x ∈ ms, ok9 x = true) (hl : r.length = ms.length) (h1 : 1 ≤ ms.length) : lineIn (lineOf r ms) ms = some ((r.zip ms).map fun p => mend p.1 p.2) := by
  have hs : splitOn 32 (lineOf r ms) = words r ms := split_join
    (fun e => by have : (words r ms).length = 0 := by rw [e]; rfl
                 unfold words at this; rw [List.length_map, List.length_zip] at this; omega)
    (fun w hw h => by have := words_mem hr hm w hw 32 h; omega)
  have hz : (words r ms).zip ms = (r.zip ms).map fun p => (word (p.1.or p.2), p.2) := by
    unfold words
    clear hs h1 hm hr
    induction r generalizing ms with
    | nil => cases ms <;> rfl
    | cons a r ih =>
      cases ms with
      | nil => rfl
      | cons m ms => simp at hl; simp [ih hl]
  have hc : ∀ p ∈ r.zip ms, cell (word (p.1.or p.2)) p.2 = some (mend p.1 p.2) := fun p hp => cell_word (hr _ (List.of_mem_zip hp).1) (hm _ (List.of_mem_zip hp).2)
  unfold lineIn
  rw [hs, hz]
  rw [if_pos (by unfold words; rw [List.length_map, List.length_zip]; omega)]
  rw [if_pos (by
    rw [List.all_map, List.all_eq_true]
    intro p hp
    simp [hc p hp])]
  congr 1
  unfold got
  rw [List.map_map]
  apply List.map_congr_left
  intro p hp
  simp [hc p hp]
theorem rd_lines {ms : List (Option Nat)} (hm : Mk ms) : ∀ (rs : List (List (Option Nat))) (i : Nat), (∀ r ∈ rs, ∀ x ∈ r, ok9 x = true) → (∀ r ∈ rs, r.length = ms.length) → i + rs.length ≤ 300 → rd ms i (rs.map fun r => lineOf r ms) = .ok (mends rs ms)
  | [], _, _, _, _ => rfl
  | r :: rs, i, h1, h2, h3 => by
    have ih := rd_lines hm rs (i + 1) (fun x hx => h1 x (List.mem_cons_of_mem _ hx)) (fun x hx => h2 x (List.mem_cons_of_mem _ hx)) (by simp at h3; omega)
    have hl := line_read (h1 r List.mem_cons_self) hm.ok (h2 r List.mem_cons_self) hm.one
    simp only [List.map_cons, rd]
    rw [if_neg (by simp at h3; omega), hl]
    simp only [ih]
    rfl
theorem texts_eq (rs : List (List (Option Nat))) (ms : List (Option Nat)) : texts rs ms = (rs.map fun r => lineOf r ms).map (· ++ [10]) := by
  unfold texts
  rw [List.map_map]
  rfl
theorem read_text {ms : List (Option Nat)} (hm : Mk ms) {rs : List (List (Option Nat))} (h : Rs rs ms.length) : readT ms (texts rs ms).flatten = .ok (mends rs ms) := by
  have hs : splitOn 10 (texts rs ms).flatten = (rs.map fun r => lineOf r ms) ++ [[]] := by
    rw [texts_eq]
    apply split_flat
    intro w hw
    obtain ⟨r, hr, rfl⟩ := List.mem_map.mp hw
    intro e
    have := line_mem (h.ok r hr) hm.ok 10 e
    omega
  unfold readT
  rw [hs]
  simp only [List.dropLast_concat]
  rw [rd_lines hm rs 0 h.ok h.wid (by have := h.few; omega)]
  simp
theorem flat_len : ∀ (ws : List (List Nat)), (∀ w ∈ ws, w.length ≤ 5) → ws.flatten.length ≤ ws.length * 5
  | [], _ => by simp
  | w :: ws, h => by
    have := flat_len ws fun x hx => h x (List.mem_cons_of_mem _ hx)
    have := h w List.mem_cons_self
    simp only [List.flatten_cons, List.length_append, List.length_cons]
    omega
theorem texts_len {ms : List (Option Nat)} (hm : Mk ms) (rs : List (List (Option Nat))) : ∀ w ∈ texts rs ms, w.length ≤ 5 := by
  intro w hw
  obtain ⟨r, hr, rfl⟩ := List.mem_map.mp hw
  have := line_len (r := r) hm.two
  simp
  omega
theorem texts_mem {ms : List (Option Nat)} (hm : Mk ms) {rs : List (List (Option Nat))} (h : Rs rs ms.length) : ∀ w ∈ texts rs ms, ∀ x ∈ w, x < 128 := by
  intro w hw x hx
  obtain ⟨r, hr, rfl⟩ := List.mem_map.mp hw
  rcases List.mem_append.mp hx with hx | hx
  · have := line_mem (h.ok r hr) hm.ok x hx
    omega
  · simp at hx
    omega
end K39P
end
section
set_option Elab.async false
set_option linter.all false
set_option maxRecDepth 100000
set_option maxHeartbeats 1000000
namespace K39P
open Lk
theorem str_cd {S : Store} {c : Option Nat} (h : ok9 c = true) (hn : c.isNone = false) : biD S .str [cd c] = some (.str (word c)) := by
  cases c with
  | none => cases hn
  | some n =>
    simp only [ok9, Option.all_some, decide_eq_true_eq] at h
    have : (0 : Int) ≤ n ∧ (n : Int) < 10 := by omega
    simp [biD, textOf, this, word]
theorem s20 (k : Nat) {c : Option Nat} (h : ok9 c = true) (S : Store) : sem ds (k + 1) 20 [cd c] S = .ok (.str (word c)) S := by
  rw [sem_fn ds k 20 e20 _ S rfl rfl rfl]
  cases hn : c.isNone with
  | true =>
    cases c with
    | none => simp [e20, isNon, word]
    | some n => cases hn
  | false =>
    have := str_cd (S := S) h hn
    simp [e20, isNon_cd, hn, this]
theorem strs_map : ∀ ws : List (List Nat), strsOf (ws.map .str) = some ws
  | [] => rfl
  | w :: ws => by
    have := strs_map ws
    unfold strsOf at *
    simp [allSome, this]
theorem mth_join {S : Store} {x : D} {ws : List (List Nat)} (hx : itemsOf S x = some (ws.map .str)) (c : List Nat) (hl : (ws.map (·.length)).sum + ws.length * c.length ≤ sizeMax) : mthD .join (.str c) [x] S = .ok (.str (joinOn c ws)) S := by
  simp only [mthD, hx, strs_map]
  rw [if_pos hl]
theorem join_nil : ∀ ws : List (List Nat), joinOn [] ws = ws.flatten
  | [] => rfl
  | [w] => by simp [joinOn]
  | w :: v :: ws => by
    show w ++ [] ++ joinOn [] (v :: ws) = _
    rw [join_nil (v :: ws)]
    simp
theorem mth_cat {S : Store} {x : D} {ws : List (List Nat)} (hx : itemsOf S x = some (ws.map .str)) (hl : ws.flatten.length ≤ 100000) : mthD .join (.str []) [x] S = .ok (.str ws.flatten) S := by
  have := mth_join hx [] (by have e : (ws.map fun x => x.length).sum = ws.flatten.length := List.length_flatten.symm
                             rw [e]; simp only [List.length_nil, Nat.mul_zero, Nat.add_zero, sizeMax]; omega)
  rw [join_nil] at this
  exact this
theorem isNon_or (a m : Option Nat) : (if a.isNone = true then cd m else cd a) = cd (a.or m) := by cases a <;> rfl
section
variable {ms : List (Option Nat)} (hm : Mk ms) {r : List (Option Nat)} (hr : ∀ x ∈ r, ok9 x = true)
include hm hr
theorem words_join (S : Store) : mthD .join (.str [32]) [.fl ((words r ms).map .str)] S = .ok (.str (lineOf r ms)) S := by
  have hw : (words r ms).length ≤ 2 := by unfold words; rw [List.length_map, List.length_zip]; have := hm.two; omega
  exact mth_join (ws := words r ms) rfl [32] (by rw [words_sum]; simp [sizeMax]; omega)
theorem turn4 (k : Nat) (S : Store) (x0 x4 : Option D) (a : Nat) (acc : List D) (ha : S.get a = some (.lst acc)) (hn : acc.length ≤ 3000) :
    exs (sem ds k) b4_2 [x0, some (.tup (ms.map cd)), some (.ref a), some (rw_ r), x4, none, none] S = .ok (.nx [x0, some (.tup (ms.map cd)), some (.ref a), some (rw_ r), some (.fl ((r.zip ms).map fun p => cd (p.1.or p.2))), none, none]) (S.put a (.lst (acc ++ [.str (lineOf r ms ++ [10])]))) := by
  have hap : ∀ x, mthD .append (.ref a) [x] S = .ok .non (S.put a (.lst (acc ++ [x]))) := fun x => by
    simp only [mthD, ha]
    rw [if_pos (show acc.length < sizeMax from by simp [sizeMax]; omega)]
  have hft : mthFits S .append (.ref a) = true := by simp [mthFits, ha]
  have hz : (r.zip ms).length ≤ sizeMax := by rw [List.length_zip]; have := hm.two; simp [sizeMax]; omega
  have h0 : ev (sem ds k) c4_0 [x0, some (.tup (ms.map cd)), some (.ref a), some (rw_ r), x4, none, none] S = .ok (.fl ((r.zip ms).map fun p => cd (p.1.or p.2))) S :=
    ev_lcP (g := []) (r.zip ms) (fun p => .tup [cd p.1, cd p.2]) _ (by simp [walkOf, itemsOf, guardOf, rw_, pairs_map]) hz rfl fun p hp =>
      ⟨[x0, some (.tup (ms.map cd)), some (.ref a), some (rw_ r), x4, some (cd p.1), some (cd p.2)], rfl, rfl, by
        cases h : p.1 with
        | none => simp [isNon]
        | some n => simp [isNon]⟩
  have h1 : ev (sem ds k) c4_1 [x0, some (.tup (ms.map cd)), some (.ref a), some (rw_ r), some (.fl ((r.zip ms).map fun p => cd (p.1.or p.2))), none, none] S = .ok (.fl ((words r ms).map .str)) S :=
    (ev_lcP (g := []) (r.zip ms) (fun p => cd (p.1.or p.2)) (fun p => .str (word (p.1.or p.2))) (by simp [walkOf, itemsOf, guardOf]) hz rfl fun p hp =>
      ⟨[x0, some (.tup (ms.map cd)), some (.ref a), some (rw_ r), some (.fl ((r.zip ms).map fun p => cd (p.1.or p.2))), some (cd (p.1.or p.2)), none], rfl, rfl, by
        have hk := ok_or (hr _ (List.of_mem_zip hp).1) (hm.ok _ (List.of_mem_zip hp).2)
        generalize p.1.or p.2 = c at hk
        cases hn : c.isNone with
        | true =>
          cases c with
          | none => simp [isNon, word]
          | some n => cases hn
        | false =>
          have := str_cd (S := S) hk hn
          simp [isNon_cd, hn, this]⟩).trans (by simp [words, Function.comp_def])
  have h2 := words_join hm hr S
  have h3 : binD S .add (.str (lineOf r ms)) (.str [10]) = some (.str (lineOf r ms ++ [10])) := by
    show (if (lineOf r ms).length + [10].length ≤ sizeMax then _ else _) = _
    rw [if_pos (by have := line_len (r := r) hm.two; simp [sizeMax]; omega)]
  simp [b4_2, h0, h1, mthFits, h2, h3, hap, ha]
theorem turn9 (k : Nat) {es : List (Option Nat)} (S : Store) (x0 : Option D) (a : Nat) (acc : List D) (ha : S.get a = some (.lst acc)) (hn : acc.length ≤ 3000) :
    exs (sem ds (k + 1)) b9_1 [x0, some (mk ms es), some (.ref a), some (rw_ r), none, none, none] S = .ok (.nx [x0, some (mk ms es), some (.ref a), some (rw_ r), none, none, none]) (S.put a (.lst (acc ++ [.str (lineOf r ms)]))) := by
  have hap : ∀ x, mthD .append (.ref a) [x] S = .ok .non (S.put a (.lst (acc ++ [x]))) := fun x => by
    simp only [mthD, ha]
    rw [if_pos (show acc.length < sizeMax from by simp [sizeMax]; omega)]
  have hft : mthFits S .append (.ref a) = true := by simp [mthFits, ha]
  have hz : (r.zip ms).length ≤ sizeMax := by rw [List.length_zip]; have := hm.two; simp [sizeMax]; omega
  have h27 := s27 k ms es S
  have h0 : ev (sem ds (k + 1)) c9_0 [x0, some (mk ms es), some (.ref a), some (rw_ r), none, none, none] S = .ok (.fl ((words r ms).map .str)) S :=
    (ev_lcP (g := []) (r.zip ms) (fun p => .tup [cd p.1, cd p.2]) (fun p => .str (word (p.1.or p.2))) (by unfold mk at *; simp [walkOf, itemsOf, guardOf, rw_, pairs_map, h27]) hz rfl fun p hp =>
      ⟨[x0, some (mk ms es), some (.ref a), some (rw_ r), none, some (cd p.1), some (cd p.2)], rfl, rfl, by
        have hk := ok_or (hr _ (List.of_mem_zip hp).1) (hm.ok _ (List.of_mem_zip hp).2)
        have := s20 k hk S
        cases h : p.1 with
        | none => rw [h] at this; simp at this; simp [isNon, planned, allSome, this]
        | some n => rw [h] at this; simp at this; simp [isNon, planned, allSome, this]⟩).trans (by simp [words, Function.comp_def])
  have h2 := words_join hm hr S
  simp [b9_1, h0, mthFits, h2, hap, ha]
end
/-- a walk that appends -/
theorem loopA (cal : Nat → List D → M D) (b : XSs) (tg : Tg) (a : Nat) (I : Env → Prop) (f : List (Option Nat) → D) : ∀ (rs : List (List (Option Nat))) (σ : Env) (S : Store) (acc : List D), I σ → S.get a = some (.lst acc) → acc.length + rs.length ≤ 3000 →
    (∀ r ∈ rs, ∀ σ S acc, I σ → S.get a = some (.lst acc) → acc.length ≤ 3000 → ∃ σ1 σ2, setTg tg (rw_ r) σ = some σ1 ∧ exs cal b σ1 S = .ok (.nx σ2) (S.put a (.lst (acc ++ [f r]))) ∧ I σ2) →
    ∃ S' σ', Oth a S S' ∧ I σ' ∧ forGo [] tg (exs cal b) (rs.map rw_) σ S = .ok (.nx σ') S' ∧ S'.get a = some (.lst (acc ++ rs.map f))
  | [], σ, S, acc, hI, ha, _, _ => ⟨S, σ, Oth.refl a S, hI, rfl, by simpa using ha⟩
  | r :: rs, σ, S, acc, hI, ha, hn, h => by
    obtain ⟨σ1, σ2, h1, h2, h3⟩ := h r List.mem_cons_self σ S acc hI ha (by simp at hn; omega)
    obtain ⟨S', σ', ho, hI', hf, hg⟩ := loopA cal b tg a I f rs σ2 (S.put a (.lst (acc ++ [f r]))) (acc ++ [f r]) h3 (by simp) (by simp at hn ⊢; omega) fun x hx => h x (List.mem_cons_of_mem _ hx)
    refine ⟨S', σ', (Oth.put a S _).trans ho, hI', ?_, ?_⟩
    · simp [forGo, h1, h2, hf]
    · rw [hg]; simp
theorem s4 (k : Nat) {ms : List (Option Nat)} (hm : Mk ms) {rs : List (List (Option Nat))} {w : Nat} (h : Rs rs w) (S : Store) : ∃ S' a, Ge S S' ∧ a < S'.next ∧ S.next ≤ a ∧ S'.get a = some (.lst ((texts rs ms).map .str)) ∧ sem ds (k + 1) 4 [.fl (rs.map rw_), .tup (ms.map cd)] S = .ok (.ref a) S' := by
  rw [sem_fn ds k 4 e4 _ S rfl rfl rfl]
  obtain ⟨S', σ', ho, hI, hf, hg⟩ := loopA (sem ds k) b4_2 (.nm 3) S.next (fun σ => ∃ x3 x4, σ = [some (.fl (rs.map rw_)), some (.tup (ms.map cd)), some (.ref S.next), x3, x4, none, none]) (fun r => .str (lineOf r ms ++ [10])) rs [some (.fl (rs.map rw_)), some (.tup (ms.map cd)), some (.ref S.next), none, none, none, none] (S.new (.lst [])) [] ⟨none, none, rfl⟩ (by simp) (by have := h.few; simp; omega) fun r hr σ S1 acc hI ha hn => by
      obtain ⟨x3, x4, rfl⟩ := hI
      exact ⟨_, _, rfl, turn4 hm (h.ok r hr) k S1 _ x4 S.next acc ha hn, _, _, rfl⟩
  obtain ⟨x3, x4, rfl⟩ := hI
  refine ⟨S', S.next, (Ge.new S _).oth (Nat.le_refl _) ho, by rw [ho.1]; simp, Nat.le_refl _, ?_, ?_⟩
  · rw [hg]; simp [texts, Function.comp_def]
  · simp [e4, ex_for, walkOf, itemsOf, guardOf, hf]
theorem s9 (k : Nat) {ms es : List (Option Nat)} (hm : Mk ms) {rs : List (List (Option Nat))} (h : Rs rs ms.length) (S : Store) : ∃ S', Ge S S' ∧ sem ds (k + 2) 9 [dt rs ms.length, mk ms es] S = .ok (.str (texts rs ms).flatten) S' := by
  rw [sem_fn ds (k + 1) 9 e9 _ S rfl rfl rfl]
  obtain ⟨S', σ', ho, hI, hf, hg⟩ := loopA (sem ds (k + 1)) b9_1 (.nm 3) S.next (fun σ => ∃ x3, σ = [some (dt rs ms.length), some (mk ms es), some (.ref S.next), x3, none, none, none]) (fun r => .str (lineOf r ms)) rs [some (dt rs ms.length), some (mk ms es), some (.ref S.next), none, none, none, none] (S.new (.lst [])) [] ⟨none, rfl⟩ (by simp) (by have := h.few; simp; omega) fun r hr σ S1 acc hI ha hn => by
      obtain ⟨x3, rfl⟩ := hI
      exact ⟨_, _, rfl, turn9 hm (h.ok r hr) k S1 _ S.next acc ha hn, _, rfl⟩
  obtain ⟨x3, rfl⟩ := hI
  refine ⟨S', (Ge.new S _).oth (Nat.le_refl _) ho, ?_⟩
  have hlst : Lst S' (.ref S.next) (rs.map fun r => .str (lineOf r ms)) := Or.inr ⟨_, rfl, by simpa using hg⟩
  have hfl : (texts rs ms).flatten.length ≤ 1500 := by
    have h1 := flat_len (texts rs ms) (texts_len hm rs)
    have h2 : (texts rs ms).length = rs.length := by simp [texts]
    have := h.few
    omega
  have h2 : ev (sem ds (k + 1)) c9_2 [some (dt rs ms.length), some (mk ms es), some (.ref S.next), x3, none, none, none] S' = .ok (.fl ((texts rs ms).map .str)) S' :=
    (ev_lcP (g := guardOf S' (.ref S.next)) rs (fun r => .str (lineOf r ms)) (fun r => .str (lineOf r ms ++ [10])) (by simp [hlst.walk]) (by have := h.few; simp [sizeMax]; omega) hlst.stands fun r hr =>
      ⟨[some (dt rs ms.length), some (mk ms es), some (.ref S.next), x3, some (.str (lineOf r ms)), none, none], rfl, rfl, by
        have h3 : binD S' .add (.str (lineOf r ms)) (.str [10]) = some (.str (lineOf r ms ++ [10])) := by
          show (if (lineOf r ms).length + [10].length ≤ sizeMax then _ else _) = _
          rw [if_pos (by have := line_len (r := r) hm.two; simp [sizeMax]; omega)]
        simp [h3]⟩).trans (by simp [texts, Function.comp_def])
  have h3 := mth_cat (S := S') (x := .fl ((texts rs ms).map .str)) (ws := texts rs ms) rfl (by omega)
  have h19 := s19 k rs ms.length S
  have h27 := s27 k ms es S
  have h26 := s26 k rs ms.length S
  have h25 := s25 k rs ms.length (S.new (.lst []))
  have h25' : sem ds (k + 1) 25 [dt rs ms.length] (S.new (.lst [])) = .ok (.tup (rs.map rw_)) (S.new (.lst [])) := h25
  unfold mk dt at *
  simp [e9, planned, allSome, h19, h27, h26, h25', kindOf, kindIs, ex_for, walkOf, itemsOf, guardOf, hf, h2, mthFits, h3]
theorem s28 (k : Nat) (rs : List (List (Option Nat))) (w : Nat) (S : Store) : sem ds (k + 1) 28 [dt rs w, dt rs w] S = .ok (.bl true) S := by
  rw [sem_fn ds k 28 e28 _ S rfl rfl rfl]
  have h : eqS S (.tup (rs.map fun r => .tup (r.map cd))) (.tup (rs.map fun r => .tup (r.map cd))) = some true := eqS_val S (.ok rs)
  simp [e28, dt, kindOf, kindIs, h]
end K39P
end
section
set_option Elab.async false
set_option linter.all false
set_option maxRecDepth 100000
set_option maxHeartbeats 1000000
namespace K39P
open Lk
/-! ### draws -/
@[simp] theorem bin_add (S : Store) (i j : Int) : binD S .add (.int i) (.int j) = some (.int (i + j)) := rfl
@[simp] theorem bin_sub (S : Store) (i j : Int) : binD S .sub (.int i) (.int j) = some (.int (i - j)) := rfl
theorem bin_mul (S : Store) (i j : Int) (h : (-(2 ^ 64) < i ∧ i < 2 ^ 64) ∨ (-(2 ^ 64) < j ∧ j < 2 ^ 64)) : binD S .mul (.int i) (.int j) = some (.int (i * j)) := by
  show (intBin .mul i j).map D.int = _
  simp only [intBin]
  rw [if_pos h]
  rfl
theorem bin_mod (S : Store) (i j : Int) (h : j ≠ 0) : binD S .mod (.int i) (.int j) = some (.int (i.fmod j)) := by
  show (intBin .mod i j).map D.int = _
  simp only [intBin]
  rw [if_pos h]
  rfl
theorem bin_fdiv (S : Store) (i j : Int) (h : 0 < j ∧ j.natAbs.log2 < 9000) : binD S .fdiv (.int i) (.int j) = some (.int (i / j)) := by
  show (intBin .fdiv i j).map D.int = _
  simp only [intBin]
  rw [if_pos h]
  rfl
@[simp] theorem bi_int (S : Store) (i : Int) : biD S .int [.int i] = some (.int i) := rfl
theorem fm (a b : Int) (h : 0 < b) : ∃ r : Nat, a.fmod b = r ∧ (r : Int) < b := by
  have h1 := Int.fmod_nonneg_of_pos a h
  have h2 := Int.fmod_lt_of_pos a h
  exact ⟨(a.fmod b).toNat, by omega, by omega⟩
theorem fmI (a b : Int) (h : 0 < b) : ∃ r : Int, a.fmod b = r ∧ 0 ≤ r ∧ r < b := ⟨_, rfl, Int.fmod_nonneg_of_pos a h, Int.fmod_lt_of_pos a h⟩
theorem s24 (k : Nat) (x j : Int) (S : Store) : ∃ r : Int, sem ds (k + 1) 24 [.int x, .int j, .int 999983] S = .ok (.int r) S := by
  rw [sem_fn ds k 24 e24 _ S rfl rfl rfl]
  obtain ⟨m, hm, hm2⟩ := fm j 16 (by decide)
  have h1 := bin_mul S x 48271 (Or.inr (by decide))
  have h2 := bin_mul S j 69621 (Or.inr (by decide))
  have h3 := bin_mod S j 16 (by decide)
  rw [hm] at h3
  have h4 : ∃ p : Int, p ≠ 0 ∧ idxD S (.tup [.int 1000003, .int 1000033, .int 1000037, .int 1000039, .int 1000081, .int 1000099, .int 1000117, .int 1000121, .int 1000133, .int 1000151, .int 1000159, .int 1000171, .int 1000183, .int 1000187, .int 1000193, .int 1000199]) m = some (.int p) := by
    match m, hm2 with
    | 0, _ | 1, _ | 2, _ | 3, _ | 4, _ | 5, _ | 6, _ | 7, _ | 8, _ | 9, _ | 10, _ | 11, _ | 12, _ | 13, _ | 14, _ | 15, _ => exact ⟨_, by decide, rfl⟩
    | m + 16, h => omega
  obtain ⟨p, hp, h4⟩ := h4
  have h5 := fun i => bin_mod S i p hp
  have h6 := fun i => bin_mod S i 999983 (by decide)
  refine ⟨((x * 48271 + j * 69621).fmod p).fmod 999983, ?_⟩
  simp [e24, h1, h2, h3, h4, h5, h6, intOf]
theorem s15 (k : Nat) (zs : List Int) (i : Int) (hi : 0 ≤ i) (S : Store) : ∃ v : Int, sem ds (k + 1) 15 [.fl (zs.map .int), .int i] S = .ok (.int v) S := by
  rw [sem_fn ds k 15 e15 _ S rfl rfl rfl]
  by_cases h : i < zs.length
  · have h2 : i.toNat < zs.length := by omega
    have h3 : idxD S (.fl (zs.map .int)) i = some (.int zs[i.toNat]) := by
      show (ixOf (zs.map D.int).length i).bind _ = _
      simp [ixOf, h, hi, h2]
    exact ⟨zs[i.toNat], by simp [e15, h, intOf, h3]⟩
  · exact ⟨0, by simp [e15, h]⟩
/-- so many times times 1009 -/
def tp : Nat → Int → Int
  | 0, t => t
  | n + 1, t => tp n (t * 1009)
theorem tp_pos : ∀ (n : Nat) (t : Int), 0 < t → 0 < tp n t
  | 0, _, h => h
  | n + 1, t, h => tp_pos n (t * 1009) (by omega)
theorem tp_lt : ∀ (n a : Nat) (t : Int), t < ((2 ^ a : Nat) : Int) → tp n t < ((2 ^ (a + 10 * n) : Nat) : Int)
  | 0, a, t, h => h
  | n + 1, a, t, h => by
    have e : a + 10 * (n + 1) = (a + 10) + 10 * n := by omega
    rw [e]
    refine tp_lt n (a + 10) (t * 1009) ?_
    rw [Nat.pow_add]
    generalize 2 ^ a = u at h
    have : (2 : Nat) ^ 10 = 1024 := rfl
    rw [this]
    omega
theorem loop14 (k : Nat) (x0 x1 x2 x5 x6 : Option D) (S : Store) : ∀ (xs : List D) (t : Int) (x4 : Option D), ∃ y4, forGo [] (.nm 4) (exs (sem ds k) b14_0) xs [x0, x1, x2, some (.int t), x4, x5, x6] S = .ok (.nx [x0, x1, x2, some (.int (tp xs.length t)), y4, x5, x6]) S
  | [], t, x4 => ⟨x4, rfl⟩
  | x :: xs, t, x4 => by
    obtain ⟨y4, ih⟩ := loop14 k x0 x1 x2 x5 x6 S xs (t * 1009) (some x)
    refine ⟨y4, ?_⟩
    have hm := bin_mul S t 1009 (Or.inr (by decide))
    simp only [List.length_cons, tp]
    rw [← ih]
    simp only [forGo, M.bind_app, chk_nil, setTg_nm, M.opt_some, M.pure_app, List.set_cons_succ, List.set_cons_zero]
    simp only [b14_0, exs_cons, ex_set, M.bind_app, M.at_app, ev_bin, ev_var, ev_con, slotOf_succ, slotOf_zero, M.opt_some, hm, setTg_nm, List.set_cons_succ, List.set_cons_zero, M.pure_app, exs_nil]
theorem s14 (k : Nat) (v j : Int) (hj0 : 0 ≤ j) (hj : j ≤ 12) (b : Nat) (hb : 1 ≤ b) (S : Store) : ∃ r : Nat, r < b ∧ sem ds (k + 2) 14 [.int v, .int j, .int b] S = .ok (.int r) S := by
  rw [sem_fn ds (k + 1) 14 e14 _ S rfl rfl rfl]
  obtain ⟨m, hm, hm2⟩ := fm j 24 (by decide)
  have h1 := bin_mod S j 24 (by decide)
  rw [hm] at h1
  have hrg : rangeD [.int (m : Int)] = some ((List.range m).map fun (k : Nat) => .int k) := by
    simp only [rangeD]
    rw [if_pos (by omega)]
    simp
  obtain ⟨y4, hl⟩ := loop14 (k + 1) (some (.int v)) (some (.int j)) (some (.int b)) none none S ((List.range m).map fun (k : Nat) => .int k) 1 none
  rw [List.length_map, List.length_range] at hl
  have hpos : (0 : Int) < tp m 1 := tp_pos m 1 (by decide)
  have hlog : (tp m 1).natAbs.log2 < 9000 := by
    have h := tp_lt m 1 1 (by decide)
    rw [Nat.log2_lt (by omega)]
    have : (tp m 1).natAbs < 2 ^ (1 + 10 * m) := by omega
    exact Nat.lt_of_lt_of_le this (Nat.pow_le_pow_right (by decide) (by omega))
  have h2 := fun i => bin_fdiv S i (tp m 1) ⟨hpos, hlog⟩
  have hpw : binD S .pow (.int 10) (.int 18) = some (.int 1000000000000000000) := rfl
  obtain ⟨q, hq⟩ : ∃ q, q = (v - 1000000000000000000) / tp m 1 := ⟨_, rfl⟩
  have hb0 : (b : Int) ≠ 0 := by omega
  have hbm := fun i => bin_mod S i b hb0
  by_cases hq0 : 0 < q
  · obtain ⟨r, hr, hr2⟩ := fm (q.fmod 1009) b (by omega)
    have h3 := bin_mod S q 1009 (by decide)
    have h4 := hbm (q.fmod 1009)
    rw [hr] at h4
    refine ⟨r, by omega, ?_⟩
    simp [e14, h1, ex_for, hrg, hl, hpw, h2, ← hq, hq0, h3, h4]
  · obtain ⟨u, hu, hu1, hu2⟩ := fmI v 1000003 (by decide)
    have h3 := bin_mod S v 1000003 (by decide)
    rw [hu] at h3
    have h4 := bin_mul S 977 j (Or.inl (by decide))
    have h5 := bin_mul S 31 j (Or.inl (by decide))
    have h6 := bin_mul S (u + 977 * j) (u + 31 * j + 5) (Or.inl (by constructor <;> omega))
    obtain ⟨g, hg, hg1, hg2⟩ := fmI j 9 (by decide)
    have h7 := bin_mod S j 9 (by decide)
    rw [hg] at h7
    obtain ⟨d, hd⟩ := s24 k ((u + 977 * j) * (u + 31 * j + 5)) (g + 1) S
    obtain ⟨r, hr, hr2⟩ := fm d b (by omega)
    have h8 := hbm d
    rw [hr] at h8
    refine ⟨r, by omega, ?_⟩
    simp [e14, h1, ex_for, hrg, hl, hpw, h2, ← hq, hq0, h3, h4, h5, h6, h7, planned, allSome, hd, h8]
/-- the cell of the draws -/
def Cl (c : Nat) (S : Store) : Prop := ∃ (zs : List Int) (n : Int), 0 ≤ n ∧ S.get c = some (.lst [.fl (zs.map .int), .int 0, .int n])
theorem s3 (k : Nat) {c : Nat} {S : Store} (h : Cl c S) (b : Nat) (hb : 1 ≤ b) : ∃ (r : Nat) (S' : Store), r < b ∧ Oth c S S' ∧ Cl c S' ∧ sem ds (k + 3) 3 [.ref c, .int b] S = .ok (.int r) S' := by
  obtain ⟨zs, n, hn0, h⟩ := h
  rw [sem_fn ds (k + 2) 3 e3 _ S rfl rfl rfl]
  obtain ⟨S', hS'⟩ : ∃ S', S' = S.put c (.lst [.fl (zs.map .int), .int 0, .int (n + 1)]) := ⟨_, rfl⟩
  have hg : S'.get c = some (.lst [.fl (zs.map .int), .int 0, .int (n + 1)]) := by rw [hS']; simp
  have i2 : idxD S (.ref c) 2 = some (.int n) := by simp [idxD, itemsOf, h, ixOf]
  have j2 : idxD S' (.ref c) 2 = some (.int (n + 1)) := by simp [idxD, itemsOf, hg, ixOf]
  have j0 : idxD S' (.ref c) 0 = some (.fl (zs.map .int)) := by simp [idxD, itemsOf, hg, ixOf]
  have j1 : idxD S' (.ref c) 1 = some (.int 0) := by simp [idxD, itemsOf, hg, ixOf]
  have hset : setD (.ref c) (.int 2) (.int (n + 1)) S = .ok () S' := by
    simp [setD, h, intOf, ixOf, hS']
  have h1 := bin_fdiv S' (n + 1) 12 (by decide)
  obtain ⟨p, hp⟩ : ∃ p, (n + 1) / 12 = p := ⟨_, rfl⟩
  rw [hp] at h1
  obtain ⟨v, hv⟩ := s15 (k + 1) zs p (by omega) S'
  have h2 := bin_mul S' 31 p (Or.inl (by decide))
  obtain ⟨m, hm, hm1, hm2⟩ := fmI (n + 1) 12 (by decide)
  have h3 := bin_mod S' (n + 1) 12 (by decide)
  rw [hm] at h3
  obtain ⟨r, hr, h4⟩ := s14 k (v + 31 * p) (m + 1) (by omega) (by omega) b hb S'
  refine ⟨r, S', hr, by rw [hS']; exact Oth.put c S _, ⟨zs, n + 1, by omega, hg⟩, ?_⟩
  simp [e3, i2, intOf, hset, j2, j0, j1, h1, h2, h3, planned, allSome, hv, h4]
theorem s8 (k : Nat) {c : Nat} {S : Store} (h : Cl c S) (xs : List D) (hx : xs ≠ []) : ∃ (y : D) (S' : Store), y ∈ xs ∧ Oth c S S' ∧ Cl c S' ∧ sem ds (k + 4) 8 [.ref c, .fl xs] S = .ok y S' := by
  rw [sem_fn ds (k + 3) 8 e8 _ S rfl rfl rfl]
  have hl : 1 ≤ xs.length := by cases xs with | nil => exact absurd rfl hx | cons => simp
  obtain ⟨r, S', hr, ho, hc, h3⟩ := s3 k h xs.length hl
  refine ⟨xs[r], S', List.getElem_mem hr, ho, hc, ?_⟩
  have hi : idxD S' (.fl xs) r = some xs[r] := by
    show (ixOf xs.length r).bind _ = _
    simp [ixOf, hr]
  simp [e8, planned, allSome, h3, intOf, hi]
end K39P
end
section
set_option Elab.async false
set_option linter.all false
set_option maxRecDepth 100000
set_option maxHeartbeats 1000000
namespace K39P
open Lk
/-! ### the bent text -/
def Bn (n : Nat) (t : List Nat) : Prop := t.length ≤ n ∧ ∀ x ∈ t, x < 128
theorem Bn.mono {m n : Nat} {t : List Nat} (h : Bn m t) (hn : m ≤ n) : Bn n t := ⟨Nat.le_trans h.1 hn, h.2⟩
theorem Bn.app {m n : Nat} {s t : List Nat} (h : Bn m s) (g : Bn n t) : Bn (m + n) (s ++ t) := ⟨by rw [List.length_append]; have := h.1; have := g.1; omega, fun x hx => (List.mem_append.mp hx).elim (h.2 x) (g.2 x)⟩
theorem cut_len {α : Type} (xs : List α) (lo hi : Option Int) : (cut xs lo hi).length ≤ xs.length := by unfold cut; simp; omega
theorem cut_mem {α : Type} (xs : List α) (lo hi : Option Int) : ∀ x ∈ cut xs lo hi, x ∈ xs := fun x hx => List.mem_of_mem_drop (List.mem_of_mem_take hx)
theorem cut_map {α β : Type} (f : α → β) (xs : List α) (lo hi : Option Int) : cut (xs.map f) lo hi = (cut xs lo hi).map f := by unfold cut; simp
theorem Bn.cut {n : Nat} {t : List Nat} (h : Bn n t) (lo hi : Option Int) : Bn n (cut t lo hi) := ⟨Nat.le_trans (cut_len t lo hi) h.1, fun x hx => h.2 x (cut_mem t lo hi x hx)⟩
theorem Bn.flat {ws : List (List Nat)} (hl : ws.length ≤ 5) (h5 : ∀ w ∈ ws, w.length ≤ 5) (h : ∀ w ∈ ws, ∀ x ∈ w, x < 128) : Bn 25 ws.flatten := ⟨by have := flat_len ws h5; omega, fun x hx => by obtain ⟨w, h1, h2⟩ := List.mem_flatten.mp hx; exact h w h1 x h2⟩
theorem bin_str (S : Store) {m n : Nat} {s t : List Nat} (h : Bn m s) (g : Bn n t) (hmn : m + n ≤ 1000) : binD S .add (.str s) (.str t) = some (.str (s ++ t)) := by
  show (if s.length + t.length ≤ sizeMax then _ else _) = _
  rw [if_pos (by have := h.1; have := g.1; simp [sizeMax]; omega)]
theorem slc_str (S : Store) {n : Nat} {t : List Nat} (h : Bn n t) (hn : n ≤ 1000) (lo hi : Option Int) : slcD S (.str t) lo hi = some (.str (cut t lo hi)) := by
  show (if t.length ≤ sizeMax then _ else _) = _
  rw [if_pos (by have := h.1; simp [sizeMax]; omega)]
def bw : List (List Nat) := [[], [45], [49], [49, 32, 50], [49, 32, 45], [45, 32, 45], [49, 48], [49, 32, 32, 50], [32, 49], [49, 32], [97], [49, 32, 50, 32, 51], [45, 49], [43, 49]]
def bc : List (List Nat) := [[10], [49], [45], [32], [120], [57]]
theorem bw_ok : ∀ w ∈ bw, Bn 5 w := by
  intro w hw
  have : bw.all (fun w => decide (w.length ≤ 5) && w.all (· < 128)) = true := by decide
  have := List.all_eq_true.mp this w hw
  simp only [Bool.and_eq_true, decide_eq_true_eq, List.all_eq_true] at this
  exact ⟨this.1, fun x hx => this.2 x hx⟩
theorem bc_ok : ∀ w ∈ bc, Bn 5 w := by
  intro w hw
  have : bc.all (fun w => decide (w.length ≤ 5) && w.all (· < 128)) = true := by decide
  have := List.all_eq_true.mp this w hw
  simp only [Bool.and_eq_true, decide_eq_true_eq, List.all_eq_true] at this
  exact ⟨this.1, fun x hx => this.2 x hx⟩
theorem s6 (k : Nat) {c a : Nat} {S : Store} (hC : Cl c S) (hac : a ≠ c) {ws : List (List Nat)} (ha : S.get a = some (.lst (ws.map .str))) (hl : ws.length ≤ 5) (h5 : ∀ w ∈ ws, w.length ≤ 5) (hch : ∀ w ∈ ws, ∀ x ∈ w, x < 128) :
    ∃ (t : List Nat) (S' : Store), Bn 80 t ∧ Oth c S S' ∧ Cl c S' ∧ sem ds (k + 5) 6 [.ref c, .ref a] S = .ok (.str t) S' := by
  rw [sem_fn ds (k + 4) 6 e6 _ S rfl rfl rfl]
  have hF : Bn 25 ws.flatten := Bn.flat hl h5 hch
  have hj := mth_cat (S := S) (x := .ref a) (ws := ws) (by simp [itemsOf, ha]) (by have := hF.1; omega)
  obtain ⟨F, hFe⟩ : ∃ F, ws.flatten = F := ⟨_, rfl⟩
  rw [hFe] at hF hj
  obtain ⟨kd, S1, hk, o1, c1, d1⟩ := s3 (k + 1) hC 5 (by omega)
  have ha1 : S1.get a = some (.lst (ws.map .str)) := (o1.2 a hac).trans ha
  have hl1 : biD S1 .len [.ref a] = some (.int ws.length) := by simp [biD, lenOf, itemsOf, ha1]
  obtain ⟨at_, S2, hat, o2, c2, d2⟩ := s3 (k + 1) c1 (ws.length + 1) (by omega)
  have hl2 : biD S2 .len [.str F] = some (.int F.length) := by
    have := len_str (S := S2) (w := F) ⟨by have := hF.1; omega, hF.2⟩
    simp [biD, this]
  obtain ⟨i, S3, hi, o3, c3, d3⟩ := s3 (k + 1) c2 (F.length + 1) (by omega)
  have o13 : Oth c S S3 := (o1.trans o2).trans o3
  have ha3 : S3.get a = some (.lst (ws.map .str)) := (o13.2 a hac).trans ha
  rw [show ((5 : Nat) : Int) = 5 from rfl] at d1
  rw [show ((ws.length + 1 : Nat) : Int) = (ws.length : Int) + 1 from by omega] at d2
  rw [show ((F.length + 1 : Nat) : Int) = (F.length : Int) + 1 from by omega] at d3
  obtain ⟨n, hn⟩ : ∃ n : Int, n = (i : Int) := ⟨_, rfl⟩
  rw [← hn] at d3
  have sl := fun lo hi => slc_str S3 hF (by decide) lo hi
  have f1 : mthFits S .join (.str []) = true := rfl
  match kd, hk with
  | 0, _ =>
    refine ⟨cut F none (some n), S3, (hF.cut _ _).mono (by decide), o13, c3, ?_⟩
    simp [e6, mthFits, hj, planned, allSome, d1, hl1, d2, hl2, d3, sl, intOf]
  | 1, _ =>
    have b1 := bin_str S3 (hF.cut none (some n)) (hF.cut (some (n + 1)) none) (by decide)
    refine ⟨cut F none (some n) ++ cut F (some (n + 1)) none, S3, ((hF.cut _ _).app (hF.cut _ _)).mono (by decide), o13, c3, ?_⟩
    simp [e6, mthFits, hj, planned, allSome, d1, hl1, d2, hl2, d3, sl, intOf, b1]
  | 2, _ =>
    obtain ⟨y, S4, hy, o4, c4, d4⟩ := s8 k c3 (bw.map .str) (by simp [bw])
    obtain ⟨w, hw, rfl⟩ := List.mem_map.mp hy
    have ha4 : S4.get a = some (.lst (ws.map .str)) := ((o13.trans o4).2 a hac).trans ha
    have hW := bw_ok w hw
    have sl4 : ∀ lo hi, slcD S4 (.ref a) lo hi = some (.fl ((cut ws lo hi).map .str)) := fun lo hi => by
      show (seqOf S4 (.ref a)).map _ = _
      simp [seqOf, itemsOf, ha4, cut_map]
    have hFc : ∀ lo hi, Bn 25 (cut ws lo hi).flatten := fun lo hi => Bn.flat (Nat.le_trans (cut_len ws lo hi) hl) (fun w hw => h5 w (cut_mem ws lo hi w hw)) (fun w hw => hch w (cut_mem ws lo hi w hw))
    have hjc : ∀ lo hi, mthD .join (.str []) [.fl ((cut ws lo hi).map .str)] S4 = .ok (.str (cut ws lo hi).flatten) S4 := fun lo hi => mth_cat (ws := cut ws lo hi) rfl (by have := (hFc lo hi).1; omega)
    have hnl : Bn 1 [10] := ⟨by decide, by simp⟩
    have q1 := (hFc none (some (at_ : Int))).app hW
    have b1 := bin_str S4 (hFc none (some (at_ : Int))) hW (by decide)
    have b2 := bin_str S4 q1 hnl (by decide)
    have b3 := bin_str S4 (q1.app hnl) (hFc (some (at_ : Int)) none) (by decide)
    simp only [bw, List.map_cons, List.map_nil] at d4
    refine ⟨_, S4, ((q1.app hnl).app (hFc (some (at_ : Int)) none)).mono (by decide), o13.trans o4, c4, ?_⟩
    simp only [List.append_assoc] at b1 b2 b3
    simp [e6, mthFits, hj, planned, allSome, d1, hl1, d2, hl2, d3, intOf, d4, sl4, hjc, b1, b2, b3]
  | 3, _ =>
    obtain ⟨y, S4, hy, o4, c4, d4⟩ := s8 k c3 (bc.map .str) (by simp [bc])
    obtain ⟨w, hw, rfl⟩ := List.mem_map.mp hy
    have hW := bc_ok w hw
    have sl4 := fun lo hi => slc_str S4 hF (by decide) lo hi
    have b1 := bin_str S4 (hF.cut none (some n)) hW (by decide)
    have b2 := bin_str S4 ((hF.cut none (some n)).app hW) (hF.cut (some n) none) (by decide)
    have b3 := ((hF.cut none (some n)).app hW).app (hF.cut (some n) none)
    simp only [bc, List.map_cons, List.map_nil] at d4
    refine ⟨_, S4, b3.mono (by decide), o13.trans o4, c4, ?_⟩
    simp only [List.append_assoc] at b1 b2
    simp [e6, mthFits, hj, planned, allSome, d1, hl1, d2, hl2, d3, sl, intOf, d4, b1, sl4, b2]
  | 4, _ =>
    obtain ⟨y, S4, hy, o4, c4, d4⟩ := s8 k c3 (bc.map .str) (by simp [bc])
    obtain ⟨w, hw, rfl⟩ := List.mem_map.mp hy
    have hW := bc_ok w hw
    have sl4 := fun lo hi => slc_str S4 hF (by decide) lo hi
    have b1 := bin_str S4 (hF.cut none (some n)) hW (by decide)
    have b2 := bin_str S4 ((hF.cut none (some n)).app hW) (hF.cut (some (n + 1)) none) (by decide)
    have b3 := ((hF.cut none (some n)).app hW).app (hF.cut (some (n + 1)) none)
    simp only [bc, List.map_cons, List.map_nil] at d4
    refine ⟨_, S4, b3.mono (by decide), o13.trans o4, c4, ?_⟩
    simp only [List.append_assoc] at b1 b2
    simp [e6, mthFits, hj, planned, allSome, d1, hl1, d2, hl2, d3, sl, intOf, d4, b1, sl4, b2]
  | n + 5, h => omega
end K39P
end
section
set_option Elab.async false
set_option linter.all false
set_option maxRecDepth 100000
set_option maxHeartbeats 1000000
namespace K39P
open Lk
/-- the draws go on, the rest stands -/
def Kp (c : Nat) (S S' : Store) : Prop := S.next ≤ S'.next ∧ ∀ m, m < S.next → m ≠ c → S'.get m = S.get m
/-- where the draws stand -/
def In (c : Nat) (S : Store) : Prop := Cl c S ∧ c < S.next
theorem Kp.refl (c : Nat) (S : Store) : Kp c S S := ⟨Nat.le_refl _, fun _ _ _ => rfl⟩
theorem Kp.trans {c : Nat} {S T U : Store} (h : Kp c S T) (g : Kp c T U) : Kp c S U := ⟨Nat.le_trans h.1 g.1, fun m h1 h2 => (g.2 m (Nat.lt_of_lt_of_le h1 h.1) h2).trans (h.2 m h1 h2)⟩
theorem Kp.oth {c : Nat} {S T : Store} (h : Oth c S T) : Kp c S T := ⟨by rw [h.1]; exact Nat.le_refl _, fun m _ h2 => h.2 m h2⟩
theorem Kp.ge {c : Nat} {S T : Store} (h : Ge S T) : Kp c S T := ⟨h.1, fun m h1 _ => h.2 m h1⟩
theorem In.oth {c : Nat} {S T : Store} (h : In c S) (o : Oth c S T) (hc : Cl c T) : In c T := ⟨hc, by rw [o.1]; exact h.2⟩
theorem In.ge {c : Nat} {S T : Store} (h : In c S) (g : Ge S T) : In c T := ⟨by obtain ⟨zs, n, h0, hh⟩ := h.1; exact ⟨zs, n, h0, (g.2 c h.2).trans hh⟩, Nat.lt_of_lt_of_le h.2 g.1⟩
theorem lcGo_K {α : Type} {c : Nat} {tg : Tg} {own : List Nat} {σ : Env} {t : Env → M Bool} {e : Env → M D} (P : α → Prop) (g : α → D) : ∀ {xs : List D} {S : Store}, In c S → (∀ x ∈ xs, ∃ σ2, setTg tg x (wipeE σ own) = some σ2 ∧ (∀ S, t σ2 S = .ok true S) ∧ ∀ S, In c S → ∃ p S', P p ∧ Kp c S S' ∧ In c S' ∧ e σ2 S = .ok (g p) S') → ∃ (ps : List α) (S' : Store), ps.length = xs.length ∧ (∀ p ∈ ps, P p) ∧ Kp c S S' ∧ In c S' ∧ lcGo [] tg own σ t e xs S = .ok (ps.map g) S'
  | [], S, hI, _ => ⟨[], S, rfl, by simp, Kp.refl c S, hI, rfl⟩
  | x :: xs, S, hI, h => by
    obtain ⟨σ2, h1, h2, h3⟩ := h x List.mem_cons_self
    obtain ⟨p, S1, hp, k1, i1, h3⟩ := h3 S hI
    obtain ⟨ps, S2, hl, hps, k2, i2, ih⟩ := lcGo_K (tg := tg) (own := own) (σ := σ) (t := t) (e := e) P g i1 fun y hy => h y (List.mem_cons_of_mem _ hy)
    refine ⟨p :: ps, S2, by simp [hl], fun q hq => ?_, k1.trans k2, i2, ?_⟩
    · rcases List.mem_cons.mp hq with rfl | hq
      · exact hp
      · exact hps q hq
    · simp [lcGo, h1, h2 S, h3, ih]
theorem ev_lcK {α : Type} {c : Nat} {cal : Nat → List D → M D} {own : List Nat} {tg : Tg} {it : XI} {t e : XE} {σ : Env} {S S0 : Store} {xs : List D} (P : α → Prop) (g : α → D) (hi : evI cal it σ S0 = .ok (xs, []) S) (hl : xs.length ≤ sizeMax) (hI : In c S)
    (h : ∀ x ∈ xs, ∃ σ2, setTg tg x (wipeE σ own) = some σ2 ∧ (∀ S, ev cal t σ2 S = .ok (.bl true) S) ∧ ∀ S, In c S → ∃ p S', P p ∧ Kp c S S' ∧ In c S' ∧ ev cal e σ2 S = .ok (g p) S') : ∃ (ps : List α) (S' : Store), ps.length = xs.length ∧ (∀ p ∈ ps, P p) ∧ Kp c S S' ∧ In c S' ∧ ev cal (.lcm own tg it t e) σ S0 = .ok (.fl (ps.map g)) S' := by
  obtain ⟨ps, S', h1, h2, h3, h4, h5⟩ := lcGo_K (c := c) (tg := tg) (own := own) (σ := σ) (t := fun σ => M.bind (ev cal t σ) fun x => M.opt (truth x)) (e := fun σ => ev cal e σ) P g hI fun x hx => by
    obtain ⟨σ2, g1, g2, g3⟩ := h x hx
    exact ⟨σ2, g1, fun S => by simp [g2], g3⟩
  refine ⟨ps, S', h1, h2, h3, h4, ?_⟩
  rw [ev_lcm]
  simp only [M.bind_app, hi]
  unfold lcAll
  rw [decide_eq_true (show (xs, ([] : Gd)).1.length ≤ sizeMax from hl)]
  simp only [h5]
  rfl
def okc (x : Option Nat) : Prop := ok9 x = true
theorem pick (k : Nat) {c : Nat} (os : List (Option Nat)) (ho : os ≠ []) (hk : ∀ x ∈ os, ok9 x = true) (S : Store) (hI : In c S) : ∃ (p : Option Nat) (S' : Store), okc p ∧ Kp c S S' ∧ In c S' ∧ sem ds (k + 4) 8 [.ref c, .fl (os.map cd)] S = .ok (cd p) S' := by
  obtain ⟨y, S', hy, h1, h2, h3⟩ := s8 k hI.1 (os.map cd) (by simpa using ho)
  obtain ⟨p, hp, rfl⟩ := List.mem_map.mp hy
  exact ⟨p, S', hk p hp, Kp.oth h1, hI.oth h1 h2, h3⟩
theorem rng_nat (n : Nat) (h : n ≤ 100) : rangeD [.int n] = some ((List.range n).map fun (k : Nat) => .int k) := by
  simp only [rangeD]
  rw [if_pos (by omega)]
  simp
def o13_ : List (Option Nat) := [none, some 0, some 9, some 0, some 1, some 2, some 3, some 4, some 5, some 6, some 7, some 8, some 9]
def o11_ : List (Option Nat) := [none, some 0, some 1, some 2, some 3, some 4, some 5, some 6, some 7, some 8, some 9]
theorem lr10 : rangeD [.int 10] = some [.int 0, .int 1, .int 2, .int 3, .int 4, .int 5, .int 6, .int 7, .int 8, .int 9] := rfl
section
variable (k : Nat) {c : Nat} (x0 x2 x3 x5 x6 x7 x8 x9 x10 x11 x12 x13 : Option D) (w : Nat) (hw : w ≤ 2) (W : Int) (hW : rangeD [.int W] = some ((List.range w).map fun (k : Nat) => .int k))
include hw hW
theorem hc00 (S : Store) (hI : In c S) : ∃ (ms : List (Option Nat)) (S' : Store), ms.length = w ∧ (∀ p ∈ ms, okc p) ∧ Kp c S S' ∧ In c S' ∧ ev (sem ds (k + 4)) c0_0 [x0, some (.ref c), x2, x3, some (.int W), x5, x6, x7, x8, x9, x10, x11, x12, x13, none, none, none, none, none, none] S = .ok (.fl (ms.map cd)) S' := by
  have h := ev_lcK (c := c) (cal := sem ds (k + 4)) (own := [16]) (tg := .nm 16) (it := .rng (.cons (.var 4) .nil)) (t := .yes) (e := (.call 8 (.cons (.var 1) (.cons (.bin .add (.lst (.cons (.con .non) (.cons (.con (.int 0)) (.cons (.con (.int 9)) .nil)))) (.lrng (.cons (.con (.int 10)) .nil))) .nil)) [.arg 0, .arg 1])) (σ := [x0, some (.ref c), x2, x3, some (.int W), x5, x6, x7, x8, x9, x10, x11, x12, x13, none, none, none, none, none, none]) (S := S) (S0 := S) (xs := (List.range w).map fun (k : Nat) => .int k) okc cd (by simp [hW]) (by simp [sizeMax]; omega) hI fun x hx =>
      ⟨[x0, some (.ref c), x2, x3, some (.int W), x5, x6, x7, x8, x9, x10, x11, x12, x13, none, none, some x, none, none, none], rfl, fun _ => rfl, fun S hI => by
        obtain ⟨p, S', h1, h2, h3, h4⟩ := pick k o13_ (by simp [o13_]) (by decide) S hI
        have hb : binD S .add (.fl [.non, .int 0, .int 9]) (.fl [.int 0, .int 1, .int 2, .int 3, .int 4, .int 5, .int 6, .int 7, .int 8, .int 9]) = some (.fl (o13_.map cd)) := rfl
        exact ⟨p, S', h1, h2, h3, by simp [lr10, hb, planned, allSome, h4]⟩⟩
  obtain ⟨ms, S', h1, h2, h3, h4, h5⟩ := h
  exact ⟨ms, S', by simpa using h1, h2, h3, h4, h5⟩
theorem hc01 (x14 : Option D) (S : Store) (hI : In c S) : ∃ (ms : List (Option Nat)) (S' : Store), ms.length = w ∧ (∀ p ∈ ms, okc p) ∧ Kp c S S' ∧ In c S' ∧ ev (sem ds (k + 4)) c0_1 [x0, some (.ref c), x2, x3, some (.int W), x5, x6, x7, x8, x9, x10, x11, x12, x13, x14, none, none, none, none, none] S = .ok (.fl (ms.map cd)) S' := by
  have h := ev_lcK (c := c) (cal := sem ds (k + 4)) (own := [16]) (tg := .nm 16) (it := .rng (.cons (.var 4) .nil)) (t := .yes) (e := (.call 8 (.cons (.var 1) (.cons (.bin .add (.lst (.cons (.con .non) .nil)) (.lrng (.cons (.con (.int 10)) .nil))) .nil)) [.arg 0, .arg 1])) (σ := [x0, some (.ref c), x2, x3, some (.int W), x5, x6, x7, x8, x9, x10, x11, x12, x13, x14, none, none, none, none, none]) (S := S) (S0 := S) (xs := (List.range w).map fun (k : Nat) => .int k) okc cd (by simp [hW]) (by simp [sizeMax]; omega) hI fun x hx =>
      ⟨[x0, some (.ref c), x2, x3, some (.int W), x5, x6, x7, x8, x9, x10, x11, x12, x13, x14, none, some x, none, none, none], rfl, fun _ => rfl, fun S hI => by
        obtain ⟨p, S', h1, h2, h3, h4⟩ := pick k o11_ (by simp [o11_]) (by decide) S hI
        have hb : binD S .add (.fl [.non]) (.fl [.int 0, .int 1, .int 2, .int 3, .int 4, .int 5, .int 6, .int 7, .int 8, .int 9]) = some (.fl (o11_.map cd)) := rfl
        exact ⟨p, S', h1, h2, h3, by simp [lr10, hb, planned, allSome, h4]⟩⟩
  obtain ⟨ms, S', h1, h2, h3, h4, h5⟩ := h
  exact ⟨ms, S', by simpa using h1, h2, h3, h4, h5⟩
def okr (w : Nat) (r : List (Option Nat)) : Prop := r.length = w ∧ ∀ p ∈ r, okc p
theorem hc02 (S : Store) (hI : In c S) : ∃ (rs : List (List (Option Nat))) (S' : Store), rs.length ≤ 5 ∧ (∀ r ∈ rs, okr w r) ∧ Kp c S S' ∧ In c S' ∧ ev (sem ds (k + 4)) c0_2 [x0, some (.ref c), x2, x3, some (.int W), x5, x6, x7, x8, x9, x10, x11, x12, x13, none, none, none, none, none, none] S = .ok (.fl (rs.map rw_)) S' := by
  obtain ⟨n, S1, hn, o1, c1, d1⟩ := s3 (k + 1) hI.1 6 (by omega)
  rw [show ((6 : Nat) : Int) = 6 from rfl] at d1
  have hN := rng_nat n (by omega)
  obtain ⟨N, hNe⟩ : ∃ N : Int, (n : Int) = N := ⟨_, rfl⟩
  rw [hNe] at d1 hN
  have h := ev_lcK (c := c) (cal := sem ds (k + 4)) (own := [14]) (tg := .nm 14) (it := .rng (.cons (.call 3 (.cons (.var 1) (.cons (.con (.int 6)) .nil)) [.arg 0, .arg 1]) .nil)) (t := .yes) (e := .bi .tuple (.cons c0_1 .nil)) (σ := [x0, some (.ref c), x2, x3, some (.int W), x5, x6, x7, x8, x9, x10, x11, x12, x13, none, none, none, none, none, none]) (S := S1) (S0 := S) (xs := (List.range n).map fun (k : Nat) => .int k) (okr w) rw_ (by simp [planned, allSome, d1, hN]) (by simp [sizeMax]; omega) (hI.oth o1 c1) fun x hx =>
      ⟨[x0, some (.ref c), x2, x3, some (.int W), x5, x6, x7, x8, x9, x10, x11, x12, x13, some x, none, none, none, none, none], rfl, fun _ => rfl, fun S hI => by
        obtain ⟨r, S', h1, h2, h3, h4, h5⟩ := hc01 k x0 x2 x3 x5 x6 x7 x8 x9 x10 x11 x12 x13 w hw W hW (some x) S hI
        exact ⟨r, S', ⟨h1, h2⟩, h3, h4, by simp [h5, rw_]⟩⟩
  obtain ⟨rs, S', h1, h2, h3, h4, h5⟩ := h
  exact ⟨rs, S', by rw [h1]; simp; omega, h2, (Kp.oth o1).trans h3, h4, h5⟩
end
/-! ### the bent texts, all of them -/
section
variable (k : Nat) {c a : Nat} {ms es : List (Option Nat)} (hm : Mk ms) {ws : List (List Nat)} (hac : a ≠ c) (hl : ws.length ≤ 5) (h5 : ∀ w ∈ ws, w.length ≤ 5) (hch : ∀ w ∈ ws, ∀ x ∈ w, x < 128) (x0 x2 x3 x4 x6 x7 x8 x9 : Option D)
include hm hac hl h5 hch
theorem turn05 (S : Store) (hI : In c S) (hla : a < S.next) (ha : S.get a = some (.lst (ws.map .str))) (x10 x13 : Option D) : ∃ (y13 : Option D) (S' : Store), Kp c S S' ∧ In c S' ∧ exs (sem ds (k + 6)) b0_5 [x0, some (.ref c), x2, x3, x4, some (.tup (ms.map cd)), x6, x7, x8, x9, x10, some (mk ms es), some (.ref a), x13, none, none, none, none, none, none] S = .ok (.nx [x0, some (.ref c), x2, x3, x4, some (.tup (ms.map cd)), x6, x7, x8, x9, x10, some (mk ms es), some (.ref a), y13, none, none, none, none, none, none]) S' := by
  obtain ⟨t, S1, hb, o1, c1, d1⟩ := s6 (k + 1) hI.1 hac ha hl h5 hch
  have hT : Tx t := ⟨Nat.le_trans hb.1 (by decide), hb.2⟩
  obtain ⟨S2, g2, d2⟩ := s7 k (es := es) hm hT S1
  obtain ⟨S3, g3, d3⟩ := s10 (k + 4) hT ms (by have := split_len 10 t; have := hb.1; omega) S2
  have i1 := hI.oth o1 c1
  have hcv := cmp_val (sem ds (k + 6)) [(0, 28), (1, 29)] S3 (readT ms t)
  refine ⟨some (.str t), S3, (Kp.oth o1).trans (Kp.ge (g2.trans g3)), i1.ge (g2.trans g3), ?_⟩
  simp [b0_5, planned, allSome, d1, d2, d3, hcv]
theorem loop05 : ∀ (xs : List D) (S : Store) (hI : In c S) (hla : a < S.next) (ha : S.get a = some (.lst (ws.map .str))) (x10 x13 : Option D), ∃ (y10 y13 : Option D) (S' : Store), Kp c S S' ∧ In c S' ∧ forGo [] (.nm 10) (exs (sem ds (k + 6)) b0_5) xs [x0, some (.ref c), x2, x3, x4, some (.tup (ms.map cd)), x6, x7, x8, x9, x10, some (mk ms es), some (.ref a), x13, none, none, none, none, none, none] S = .ok (.nx [x0, some (.ref c), x2, x3, x4, some (.tup (ms.map cd)), x6, x7, x8, x9, y10, some (mk ms es), some (.ref a), y13, none, none, none, none, none, none]) S'
  | [], S, hI, _, _, x10, x13 => ⟨x10, x13, S, Kp.refl c S, hI, rfl⟩
  | x :: xs, S, hI, hla, ha, x10, x13 => by
    obtain ⟨y13, S1, k1, i1, h1⟩ := turn05 k (es := es) hm hac hl h5 hch x0 x2 x3 x4 x6 x7 x8 x9 S hI hla ha (some x) x13
    obtain ⟨z10, z13, S2, k2, i2, h2⟩ := loop05 xs S1 i1 (Nat.lt_of_lt_of_le hla k1.1) ((k1.2 a hla hac).trans ha) (some x) y13
    exact ⟨z10, z13, S2, k1.trans k2, i2, by simp [forGo, h1, h2]⟩
end
end K39P
end
section
set_option Elab.async false
set_option linter.all false
set_option maxRecDepth 100000
set_option maxHeartbeats 2000000
namespace K39P
open Lk
section
variable (cal : Nat → List D → M D) {ms : List (Option Nat)} (x0 x1 x2 x3 x4 x6 x7 x8 x9 x10 x11 x12 x13 : Option D) (S : Store)
theorem hc03 (r : List (Option Nat)) (hl : r.length ≤ 2) : ev cal c0_3 [x0, x1, x2, x3, x4, some (.tup (ms.map cd)), x6, x7, x8, x9, x10, x11, x12, x13, none, none, none, some (rw_ r), none, none] S = .ok (.fl ((r.zip ms).map fun p => cd (mend p.1 p.2))) S :=
  ev_lcP (g := []) (r.zip ms) (fun p => .tup [cd p.1, cd p.2]) (fun p => cd (mend p.1 p.2)) (by simp [walkOf, itemsOf, guardOf, rw_, pairs_map]) (by rw [List.length_zip]; simp [sizeMax]; omega) rfl fun p hp =>
    ⟨[x0, x1, x2, x3, x4, some (.tup (ms.map cd)), x6, x7, x8, x9, x10, x11, x12, x13, none, none, none, some (rw_ r), some (cd p.1), some (cd p.2)], rfl, rfl, by
      have hq := eqS_cd (S := S) p.1 p.2
      by_cases h : p.1 = p.2
      · rw [h] at hq
        simp at hq
        simp [cmpC_cd, h, hq, mend]
      · rw [show (p.1 == p.2) = false from by rw [beq_eq_false_iff_ne]; exact h] at hq
        simp [cmpC_cd, hq, mend, h]⟩
theorem hc04 (rs : List (List (Option Nat))) (hl : ∀ r ∈ rs, r.length ≤ 2) (hn : rs.length ≤ 300) : ev cal c0_4 [x0, x1, x2, x3, x4, some (.tup (ms.map cd)), some (.fl (rs.map rw_)), x7, x8, x9, x10, x11, x12, x13, none, none, none, none, none, none] S = .ok (.fl ((mends rs ms).map rw_)) S :=
  (ev_lcP (g := []) rs rw_ (fun r => rw_ ((r.zip ms).map fun p => mend p.1 p.2)) (by simp [walkOf, itemsOf, guardOf]) (by simp [sizeMax]; omega) rfl fun r hr =>
    ⟨[x0, x1, x2, x3, x4, some (.tup (ms.map cd)), some (.fl (rs.map rw_)), x7, x8, x9, x10, x11, x12, x13, none, none, none, some (rw_ r), none, none], rfl, rfl, by
      have := hc03 cal (ms := ms) x0 x1 x2 x3 x4 (some (.fl (rs.map rw_))) x7 x8 x9 x10 x11 x12 x13 S r (hl r hr)
      simp [this]
      simp [rw_, Function.comp_def]⟩).trans (by simp [mends, Function.comp_def])
end
theorem mends_none {rs : List (List (Option Nat))} {w : Nat} (h : ∀ r ∈ rs, r.length = w) : mends rs (List.replicate w none) = rs := by
  have hr : ∀ (r : List (Option Nat)) (w : Nat), r.length = w → ((r.zip (List.replicate w none)).map fun p => mend p.1 p.2) = r := by
    intro r
    induction r with
    | nil => intro w _; rfl
    | cons a r ih =>
      intro w hw
      cases w with
      | zero => cases hw
      | succ w =>
        simp at hw
        have := ih w hw
        simp only [List.replicate_succ, List.zip_cons_cons, List.map_cons, this]
        cases a <;> simp [mend]
  unfold mends
  have : (rs.map fun r => (r.zip (List.replicate w none)).map fun p => mend p.1 p.2) = rs.map id := List.map_congr_left fun r hr' => hr r w (h r hr')
  rw [this]
  simp
theorem eq_rows (S : Store) (rs : List (List (Option Nat))) : eqS S (.tup (rs.map rw_)) (.tup (rs.map rw_)) = some true := eqS_val S (.ok rs)
theorem cmp_dt (k : Nat) (rs : List (List (Option Nat))) (w : Nat) (S : Store) : cmpC (sem ds (k + 1)) .ne [(0, 28), (1, 29)] (dt rs w) (dt rs w) S = .ok (.bl false) S := by
  have h := s28 k rs w S
  unfold dt at *
  simp [cmpC, okR, h, List.lookup]
theorem mul_non (S : Store) (w : Nat) (h1 : 1 ≤ w) (h2 : w ≤ 2) : binD S .mul (.tup [.non]) (.int w) = some (.tup ((List.replicate w none).map cd)) := by
  match w, h1, h2 with
  | 1, _, _ => rfl
  | 2, _, _ => rfl
  | w + 3, _, h => omega
theorem exs_nx {cal : Nat → List D → M D} {s : XS} {r : XSs} {σ σ2 : Env} {S S2 : Store} (h : ex cal s σ S = .ok (.nx σ2) S2) : exs cal (.cons s r) σ S = exs cal r σ2 S2 := by
  rw [exs_cons, M.bind_app, h]
theorem chain06 {cal : Nat → List D → M D} {C0 C2 C4 : XE} {B5 : XSs} {c a : Nat} {x0 x2 x4 x5 x6 x7 x8 x9 x10 x11 x12 x13 y10 y13 : Option D} {R W : Int} {M Rr dd ee Q N : List D} {E K K2 : D} {T T2 : List Nat} {S S1 S2 S3 S4 S5 S6 S7 S8 S9 S10 S11 : Store}
    (d1 : cal 3 [.ref c, .int 2] S = .ok (.int R) S1) (eW : 1 + R = W)
    (d2 : ev cal C0 [x0, some (.ref c), x2, none, some (.int W), x5, x6, x7, x8, x9, x10, x11, x12, x13, none, none, none, none, none, none] S1 = .ok (.fl M) S2)
    (d3 : ev cal C2 [x0, some (.ref c), x2, none, some (.int W), some (.tup M), x6, x7, x8, x9, x10, x11, x12, x13, none, none, none, none, none, none] S2 = .ok (.fl Rr) S3)
    (d4 : cal 8 [.ref c, .fl [.non, .int 3]] S3 = .ok E S4)
    (d5 : cal 2 [.tup M, .tup [E]] S4 = .ok K S4)
    (d6 : cal 4 [.fl Rr, .tup M] S4 = .ok (.ref a) S5)
    (d7 : cal 1 [.fl Rr, .int W] S5 = .ok (.ob 0 dd) S5)
    (d8 : cal 9 [.ob 0 dd, K] S5 = .ok (.str T) S6)
    (d9 : mthD .join (.str []) [.ref a] S6 = .ok (.str T) S6)
    (d10 : eqS S6 (.str T) (.str T) = some true)
    (d11 : cal 5 [.str T, K] S6 = .ok (.ob 0 ee) S7)
    (d12 : cal 26 [.ob 0 ee] S7 = .ok (.int W) S7)
    (d13 : ev cal C4 [x0, some (.ref c), x2, none, some (.int W), some (.tup M), some (.fl Rr), some (.ob 0 dd), x8, x9, x10, some K, some (.ref a), x13, none, none, none, none, none, none] S7 = .ok (.fl Q) S7)
    (d14 : mthD .join (.str []) [.ref a] S7 = .ok (.str T) S7)
    (d15 : cal 5 [.str T, K] S7 = .ok (.ob 0 ee) S8)
    (d16 : cal 25 [.ob 0 ee] S8 = .ok (.tup Q) S8)
    (d17 : eqS S8 (.tup Q) (.tup Q) = some true)
    (d18 : binD S8 .mul (.tup [.non]) (.int W) = some (.tup N))
    (d19 : cal 2 [.tup N, .tup [.non]] S8 = .ok K2 S8)
    (d20 : cal 9 [.ob 0 dd, K2] S8 = .ok (.str T2) S9)
    (d21 : cal 5 [.str T2, K2] S9 = .ok (.ob 0 dd) S10)
    (d22 : cmpC cal .ne [(0, 28), (1, 29)] (.ob 0 dd) (.ob 0 dd) S10 = .ok (.bl false) S10)
    (d23 : forGo [] (.nm 10) (exs cal B5) [.int 0, .int 1, .int 2, .int 3, .int 4, .int 5, .int 6, .int 7, .int 8, .int 9] [x0, some (.ref c), x2, none, some (.int W), some (.tup M), some (.fl Rr), some (.ob 0 dd), some (.tup Q), some K2, x10, some K, some (.ref a), x13, none, none, none, none, none, none] S10 = .ok (.nx [x0, some (.ref c), x2, none, some (.int W), some (.tup M), some (.fl Rr), some (.ob 0 dd), some (.tup Q), some K2, y10, some K, some (.ref a), y13, none, none, none, none, none, none]) S11) :
    exs cal (.cons (.set (.nm 4) (.bin .add (.con (.int 1)) (.call 3 (.cons (.var 1) (.cons (.con (.int 2)) .nil)) [.arg 0, .arg 1]))) (.cons (.set (.nm 5) (.bi .tuple (.cons C0 .nil))) (.cons (.set (.nm 6) C2) (.cons (.set (.tp (.cons (.nm 11) (.cons (.nm 12) .nil))) (.tup (.cons (.make 1 2 0 (.cons (.var 5) (.cons (.tup (.cons (.call 8 (.cons (.var 1) (.cons (.lst (.cons (.con .non) (.cons (.con (.int 3)) .nil))) .nil)) [.arg 0, .arg 1]) .nil)) .nil)) [.arg 0, .arg 1]) (.cons (.call 4 (.cons (.var 6) (.cons (.var 5) .nil)) [.arg 0, .arg 1]) .nil)))) (.cons (.set (.nm 7) (.make 0 1 0 (.cons (.var 6) (.cons (.var 4) .nil)) [.arg 0, .arg 1])) (.cons (.ite (.or (.cmp .ne [(0, 28), (1, 29)] (.call 9 (.cons (.var 7) (.cons (.var 11) .nil)) [.arg 0, .arg 1]) (.mth .join (.con (.str [])) (.cons (.var 12) .nil))) (.cmp .ne [(0, 28), (1, 29)] (.att [(0, .prop 26)] (.call 5 (.cons (.mth .join (.con (.str [])) (.cons (.var 12) .nil)) (.cons (.var 11) .nil)) [.arg 0, .arg 1])) (.var 4))) (.cons (.ret (.con (.bl false))) .nil) .nil) (.cons (.set (.nm 8) (.bi .tuple (.cons C4 .nil))) (.cons (.ite (.cmp .ne [(0, 28), (1, 29)] (.att [(0, .prop 25)] (.call 5 (.cons (.mth .join (.con (.str [])) (.cons (.var 12) .nil)) (.cons (.var 11) .nil)) [.arg 0, .arg 1])) (.var 8)) (.cons (.ret (.con (.bl false))) .nil) .nil) (.cons (.set (.nm 9) (.make 1 2 0 (.cons (.bin .mul (.tup (.cons (.con .non) .nil)) (.var 4)) (.cons (.tup (.cons (.con .non) .nil)) .nil)) [.arg 0, .arg 1])) (.cons (.ite (.cmp .ne [(0, 28), (1, 29)] (.call 5 (.cons (.call 9 (.cons (.var 7) (.cons (.var 9) .nil)) [.arg 0, .arg 1]) (.cons (.var 9) .nil)) [.arg 0, .arg 1]) (.var 7)) (.cons (.ret (.con (.bl false))) .nil) .nil) (.cons (.for (.nm 10) (.rng (.cons (.con (.int 10)) .nil)) B5) .nil))))))))))) [x0, some (.ref c), x2, none, x4, x5, x6, x7, x8, x9, x10, x11, x12, x13, none, none, none, none, none, none] S = .ok (.nx [x0, some (.ref c), x2, none, some (.int W), some (.tup M), some (.fl Rr), some (.ob 0 dd), some (.tup Q), some K2, y10, some K, some (.ref a), y13, none, none, none, none, none, none]) S11 := by
  have hj : ∀ S, mthFits S .join (.str []) = true := fun _ => rfl
  refine (exs_nx (σ2 := [x0, some (.ref c), x2, none, some (.int W), x5, x6, x7, x8, x9, x10, x11, x12, x13, none, none, none, none, none, none]) (S2 := S1) (by simp [planned, allSome, d1, eW])).trans ?_
  refine (exs_nx (σ2 := [x0, some (.ref c), x2, none, some (.int W), some (.tup M), x6, x7, x8, x9, x10, x11, x12, x13, none, none, none, none, none, none]) (S2 := S2) (by simp [d2])).trans ?_
  refine (exs_nx (σ2 := [x0, some (.ref c), x2, none, some (.int W), some (.tup M), some (.fl Rr), x7, x8, x9, x10, x11, x12, x13, none, none, none, none, none, none]) (S2 := S3) (by simp [d3])).trans ?_
  refine (exs_nx (σ2 := [x0, some (.ref c), x2, none, some (.int W), some (.tup M), some (.fl Rr), x7, x8, x9, x10, some K, some (.ref a), x13, none, none, none, none, none, none]) (S2 := S5) (by simp [planned, allSome, d4, d5, d6])).trans ?_
  refine (exs_nx (σ2 := [x0, some (.ref c), x2, none, some (.int W), some (.tup M), some (.fl Rr), some (.ob 0 dd), x8, x9, x10, some K, some (.ref a), x13, none, none, none, none, none, none]) (S2 := S5) (by simp [planned, allSome, d7])).trans ?_
  refine (exs_nx (σ2 := [x0, some (.ref c), x2, none, some (.int W), some (.tup M), some (.fl Rr), some (.ob 0 dd), x8, x9, x10, some K, some (.ref a), x13, none, none, none, none, none, none]) (S2 := S7) (by simp [planned, allSome, d8, hj, d9, d10, d11, d12])).trans ?_
  refine (exs_nx (σ2 := [x0, some (.ref c), x2, none, some (.int W), some (.tup M), some (.fl Rr), some (.ob 0 dd), some (.tup Q), x9, x10, some K, some (.ref a), x13, none, none, none, none, none, none]) (S2 := S7) (by simp [d13])).trans ?_
  refine (exs_nx (σ2 := [x0, some (.ref c), x2, none, some (.int W), some (.tup M), some (.fl Rr), some (.ob 0 dd), some (.tup Q), x9, x10, some K, some (.ref a), x13, none, none, none, none, none, none]) (S2 := S8) (by simp [planned, allSome, hj, d14, d15, d16, d17])).trans ?_
  refine (exs_nx (σ2 := [x0, some (.ref c), x2, none, some (.int W), some (.tup M), some (.fl Rr), some (.ob 0 dd), some (.tup Q), some K2, x10, some K, some (.ref a), x13, none, none, none, none, none, none]) (S2 := S8) (by simp [planned, allSome, d18, d19])).trans ?_
  refine (exs_nx (σ2 := [x0, some (.ref c), x2, none, some (.int W), some (.tup M), some (.fl Rr), some (.ob 0 dd), some (.tup Q), some K2, x10, some K, some (.ref a), x13, none, none, none, none, none, none]) (S2 := S10) (by simp [planned, allSome, d20, d21, d22])).trans ?_
  refine (exs_nx (σ2 := [x0, some (.ref c), x2, none, some (.int W), some (.tup M), some (.fl Rr), some (.ob 0 dd), some (.tup Q), some K2, y10, some K, some (.ref a), y13, none, none, none, none, none, none]) (S2 := S11) (by simp [ex_for, lr10, d23])).trans ?_
  rfl
theorem turn06 (k : Nat) {c : Nat} (x0 x2 x4 x5 x6 x7 x8 x9 x10 x11 x12 x13 : Option D) (S : Store) (hI : In c S) : ∃ (y4 y5 y6 y7 y8 y9 y10 y11 y12 y13 : Option D) (S' : Store), Kp c S S' ∧ In c S' ∧ exs (sem ds (k + 6)) b0_6 [x0, some (.ref c), x2, none, x4, x5, x6, x7, x8, x9, x10, x11, x12, x13, none, none, none, none, none, none] S = .ok (.nx [x0, some (.ref c), x2, none, y4, y5, y6, y7, y8, y9, y10, y11, y12, y13, none, none, none, none, none, none]) S' := by
  obtain ⟨r, S1, hr, o1, c1, d1⟩ := s3 (k + 3) hI.1 2 (by omega)
  rw [show ((2 : Nat) : Int) = 2 from rfl] at d1
  have i1 := hI.oth o1 c1
  obtain ⟨w, hw⟩ : ∃ w, w = r + 1 := ⟨_, rfl⟩
  have hw1 : 1 ≤ w := by omega
  have hw2 : w ≤ 2 := by omega
  have eW : 1 + (r : Int) = (w : Int) := by omega
  obtain ⟨ms, S2, hml, hmo, k2, i2, d2⟩ := hc00 (k + 2) x0 x2 none x5 x6 x7 x8 x9 x10 x11 x12 x13 w hw2 w (rng_nat w (by omega)) S1 i1
  obtain ⟨rs, S3, hrl, hro, k3, i3, d3⟩ := hc02 (k + 2) x0 x2 none (some (.tup (ms.map cd))) x6 x7 x8 x9 x10 x11 x12 x13 w hw2 w (rng_nat w (by omega)) S2 i2
  have hM : Mk ms := ⟨hmo, by omega, by omega⟩
  have hR : Rs rs w := ⟨fun r hr => (hro r hr).2, fun r hr => (hro r hr).1, hw1, hw2, by omega⟩
  have hR' : Rs rs ms.length := by rw [hml]; exact hR
  obtain ⟨e1, S4, he, k4, i4, d4⟩ := pick (k + 2) [none, some 3] (by simp) (by decide) S3 i3
  have hE : Mk [e1] := ⟨by intro x hx; rw [List.mem_singleton.mp hx]; exact he, by simp, by simp⟩
  have d4 : sem ds (k + 6) 8 [.ref c, .fl [.non, .int 3]] S3 = .ok (cd e1) S4 := d4
  have d5 : sem ds (k + 6) 2 [.tup (ms.map cd), .tup [cd e1]] S4 = .ok (mk ms [e1]) S4 := s2 (k + 2) hM hE S4
  obtain ⟨S5, a, g5, ha1, ha2, ha, d6⟩ := s4 (k + 5) hM hR S4
  have i5 := i4.ge g5
  have hac : a ≠ c := by have := i4.2; omega
  have d7 := s1 (k + 2) hR (x := .fl (rs.map rw_)) (S := S5) (Or.inl rfl)
  obtain ⟨S6, g6, d8⟩ := s9 (k + 4) (es := [e1]) hM hR' S5
  rw [hml] at d8
  have ha6 : S6.get a = some (.lst ((texts rs ms).map .str)) := (g6.2 a ha1).trans ha
  have hfl : (texts rs ms).flatten.length ≤ 1500 := by
    have h1 := flat_len (texts rs ms) (texts_len hM rs)
    have h2 : (texts rs ms).length = rs.length := by simp [texts]
    omega
  have hfm : ∀ x ∈ (texts rs ms).flatten, x < 128 := fun x hx => by obtain ⟨w, h1, h2⟩ := List.mem_flatten.mp hx; exact texts_mem hM hR' w h1 x h2
  have hT : Tx (texts rs ms).flatten := ⟨by omega, hfm⟩
  have hRT := read_text hM hR'
  have d9 : mthD .join (.str []) [.ref a] S6 = .ok (.str (texts rs ms).flatten) S6 := mth_cat (by simp [itemsOf, ha6]) (by omega)
  have d10 : eqS S6 (.str (texts rs ms).flatten) (.str (texts rs ms).flatten) = some true := by rw [eqS_str hfm hfm]; simp
  obtain ⟨S7, g7, d11⟩ := s5 (k + 1) (es := [e1]) hM hT S6
  rw [hRT, hml] at d11
  simp only at d11
  have d12 := s26 (k + 5) (mends rs ms) w S7
  have ha7 : S7.get a = some (.lst ((texts rs ms).map .str)) := (g7.2 a (Nat.lt_of_lt_of_le ha1 g6.1)).trans ha6
  have d13 := hc04 (sem ds (k + 6)) (ms := ms) x0 (some (.ref c)) x2 none (some (.int w)) (some (dt rs w)) x8 x9 x10 (some (mk ms [e1])) (some (.ref a)) x13 S7 rs (fun r hr => by rw [hR.wid r hr]; exact hw2) (by omega)
  have d14 : mthD .join (.str []) [.ref a] S7 = .ok (.str (texts rs ms).flatten) S7 := mth_cat (by simp [itemsOf, ha7]) (by omega)
  obtain ⟨S8, g8, d15⟩ := s5 (k + 1) (es := [e1]) hM hT S7
  rw [hRT, hml] at d15
  simp only at d15
  have d16 : sem ds (k + 6) 25 [dt (mends rs ms) w] S8 = .ok (.tup ((mends rs ms).map rw_)) S8 := s25 (k + 5) (mends rs ms) w S8
  have d17 := eq_rows S8 (mends rs ms)
  have d18 := mul_non S8 w hw1 hw2
  have hN : Mk (List.replicate w none) := ⟨fun x hx => by rw [List.eq_of_mem_replicate hx]; rfl, by simpa using hw1, by simpa using hw2⟩
  have hN1 : Mk [none] := ⟨fun x hx => by rw [List.mem_singleton.mp hx]; rfl, by decide, by decide⟩
  have d19 : sem ds (k + 6) 2 [.tup ((List.replicate w none).map cd), .tup [.non]] S8 = .ok (mk (List.replicate w none) [none]) S8 := s2 (k + 2) hN hN1 S8
  have hRn : Rs rs (List.replicate w (none : Option Nat)).length := by simpa using hR
  obtain ⟨S9, g9, d20⟩ := s9 (k + 4) (es := [none]) hN hRn S8
  have hTn : Tx (texts rs (List.replicate w none)).flatten := ⟨by
      have h1 := flat_len (texts rs (List.replicate w none)) (texts_len hN rs)
      have h2 : (texts rs (List.replicate w none)).length = rs.length := by simp [texts]
      omega, fun x hx => by obtain ⟨w, h1, h2⟩ := List.mem_flatten.mp hx; exact texts_mem hN hRn w h1 x h2⟩
  obtain ⟨S10, g10, d21⟩ := s5 (k + 1) (es := [none]) hN hTn S9
  rw [read_text hN hRn, mends_none hR.wid] at d21
  simp only [List.length_replicate] at d20 d21
  have d22 := cmp_dt (k + 5) rs w S10
  have g510 := (((g6.trans g7).trans g8).trans g9).trans g10
  obtain ⟨y10, y13, S11, k11, i11, d23⟩ := loop05 k (es := [e1]) hM hac (ws := texts rs ms) (by simp [texts]; omega) (texts_len hM rs) (texts_mem hM hR') x0 x2 none (some (.int w)) (some (.fl (rs.map rw_))) (some (dt rs w)) (some (.tup ((mends rs ms).map rw_))) (some (mk (List.replicate w none) [none])) [.int 0, .int 1, .int 2, .int 3, .int 4, .int 5, .int 6, .int 7, .int 8, .int 9] S10 (i5.ge g510) (Nat.lt_of_lt_of_le ha1 g510.1) ((g510.2 a ha1).trans ha) x10 x13
  refine ⟨some (.int w), some (.tup (ms.map cd)), some (.fl (rs.map rw_)), some (dt rs w), some (.tup ((mends rs ms).map rw_)), some (mk (List.replicate w none) [none]), y10, some (mk ms [e1]), some (.ref a), y13, S11, (Kp.oth o1).trans (k2.trans (k3.trans (k4.trans ((Kp.ge (g5.trans g510)).trans k11)))), i11, ?_⟩
  exact chain06 d1 eW d2 d3 d4 d5 d6 d7 d8 d9 d10 d11 d12 d13 d14 d15 d16 d17 d18 d19 d20 d21 d22 d23
end K39P
end
section
set_option Elab.async false
set_option linter.all false
set_option maxRecDepth 100000
set_option maxHeartbeats 2000000
namespace K39P
open Lk
theorem exs_rt {cal : Nat → List D → M D} {s : XS} {r : XSs} {σ : Env} {d : D} {S S2 : Store} (h : ex cal s σ S = .ok (.rt d) S2) : exs cal (.cons s r) σ S = .ok (.rt d) S2 := by
  rw [exs_cons, M.bind_app, h]
  rfl
theorem loop06 (k : Nat) {c : Nat} (x0 : Option D) : ∀ (xs : List D) (S : Store) (x2 x4 x5 x6 x7 x8 x9 x10 x11 x12 x13 : Option D), In c S → ∃ (y2 y4 y5 y6 y7 y8 y9 y10 y11 y12 y13 : Option D) (S' : Store), forGo [] (.nm 2) (exs (sem ds (k + 6)) b0_6) xs [x0, some (.ref c), x2, none, x4, x5, x6, x7, x8, x9, x10, x11, x12, x13, none, none, none, none, none, none] S = .ok (.nx [x0, some (.ref c), y2, none, y4, y5, y6, y7, y8, y9, y10, y11, y12, y13, none, none, none, none, none, none]) S'
  | [], S, x2, x4, x5, x6, x7, x8, x9, x10, x11, x12, x13, _ => ⟨x2, x4, x5, x6, x7, x8, x9, x10, x11, x12, x13, S, rfl⟩
  | x :: xs, S, x2, x4, x5, x6, x7, x8, x9, x10, x11, x12, x13, hI => by
    obtain ⟨y4, y5, y6, y7, y8, y9, y10, y11, y12, y13, S1, k1, i1, h1⟩ := turn06 k x0 (some x) x4 x5 x6 x7 x8 x9 x10 x11 x12 x13 S hI
    obtain ⟨z2, z4, z5, z6, z7, z8, z9, z10, z11, z12, z13, S2, h2⟩ := loop06 k x0 xs S1 (some x) y4 y5 y6 y7 y8 y9 y10 y11 y12 y13 i1
    generalize sem ds (k + 6) = cal at *
    generalize b0_6 = B at *
    exact ⟨z2, z4, z5, z6, z7, z8, z9, z10, z11, z12, z13, S2, by simp [forGo, h1, h2]⟩
theorem chain0 {cal : Nat → List D → M D} {B6 : XSs} {C7 : XE} {x0 y2 y4 y5 y6 y7 y8 y9 y10 y11 y12 y13 : Option D} {T T1 : List Nat} {K : D} {X : List D} {S1 S2 S3 S4 : Store}
    (hr : rangeD [.int 6] = some [.int 0, .int 1, .int 2, .int 3, .int 4, .int 5])
    (d1 : forGo [] (.nm 2) (exs cal B6) [.int 0, .int 1, .int 2, .int 3, .int 4, .int 5] [x0, some (.ref 0), none, none, none, none, none, none, none, none, none, none, none, none, none, none, none, none, none, none] S1 = .ok (.nx [x0, some (.ref 0), y2, none, y4, y5, y6, y7, y8, y9, y10, y11, y12, y13, none, none, none, none, none, none]) S2)
    (d2 : binD S2 .mul (.str [49, 10]) (.int 300) = some (.str T))
    (d3 : ∀ S, cal 2 [.tup [.int 0], .tup [.int 0]] S = .ok K S)
    (d4 : cal 7 [.str T, K] S2 = .ok (.tup X) S3)
    (d5 : binD S3 .mul (.tup [.tup [.int 1]]) (.int 300) = some (.tup X))
    (d6 : eqS S3 (.tup X) (.tup X) = some true)
    (d7 : binD S3 .add (.str T) (.str [49, 10]) = some (.str T1))
    (d8 : cal 7 [.str T1, K] S3 = .ok (.int 300) S4)
    (d9 : ev cal C7 [x0, some (.ref 0), y2, some (.str T), y4, y5, y6, y7, y8, y9, y10, y11, y12, y13, none, none, none, none, none, none] S4 = .ok (.fl [.int 0, .int 0, .int 0, .int 0]) S4)
    (d10 : binD S4 .mul (.fl [.int 0]) (.int 4) = some (.fl [.int 0, .int 0, .int 0, .int 0]))
    (d11 : eqS S4 (.fl [.int 0, .int 0, .int 0, .int 0]) (.fl [.int 0, .int 0, .int 0, .int 0]) = some true) :
    exs cal (.cons (.for (.nm 2) (.rng (.cons (.con (.int 6)) .nil)) B6) (.cons (.set (.nm 3) (.bin .mul (.con (.str [49, 10])) (.con (.int 300)))) (.cons (.ite (.or (.cmp .ne [(0, 28), (1, 29)] (.call 7 (.cons (.var 3) (.cons (.make 1 2 0 (.cons (.tup (.cons (.con (.int 0)) .nil)) (.cons (.tup (.cons (.con (.int 0)) .nil)) .nil)) [.arg 0, .arg 1]) .nil)) [.arg 0, .arg 1]) (.bin .mul (.tup (.cons (.tup (.cons (.con (.int 1)) .nil)) .nil)) (.con (.int 300)))) (.cmp .ne [(0, 28), (1, 29)] (.call 7 (.cons (.bin .add (.var 3) (.con (.str [49, 10]))) (.cons (.make 1 2 0 (.cons (.tup (.cons (.con (.int 0)) .nil)) (.cons (.tup (.cons (.con (.int 0)) .nil)) .nil)) [.arg 0, .arg 1]) .nil)) [.arg 0, .arg 1]) (.con (.int 300)))) (.cons (.ret (.con (.bl false))) .nil) .nil) (.cons (.ret (.cmp .eq [(0, 28), (1, 29)] C7 (.bin .mul (.lst (.cons (.con (.int 0)) .nil)) (.con (.int 4))))) .nil)))) [x0, some (.ref 0), none, none, none, none, none, none, none, none, none, none, none, none, none, none, none, none, none, none] S1 = .ok (.rt (.bl true)) S4 := by
  refine (exs_nx (σ2 := [x0, some (.ref 0), y2, none, y4, y5, y6, y7, y8, y9, y10, y11, y12, y13, none, none, none, none, none, none]) (S2 := S2) (by simp [ex_for, hr, d1])).trans ?_
  refine (exs_nx (σ2 := [x0, some (.ref 0), y2, some (.str T), y4, y5, y6, y7, y8, y9, y10, y11, y12, y13, none, none, none, none, none, none]) (S2 := S2) (by simp [d2])).trans ?_
  refine (exs_nx (σ2 := [x0, some (.ref 0), y2, some (.str T), y4, y5, y6, y7, y8, y9, y10, y11, y12, y13, none, none, none, none, none, none]) (S2 := S4) (by simp [planned, allSome, d3, d4, d5, d6, d7, d8])).trans ?_
  exact exs_rt (by simp [d9, d10, d11])
def T300 : List Nat := (List.replicate 300 [49, 10]).flatten
theorem t300 : Tx T300 := by
  have h : (decide (T300.length ≤ 2000) && T300.all (· < 128)) = true := by decide +kernel
  simp only [Bool.and_eq_true, decide_eq_true_eq, List.all_eq_true] at h
  exact ⟨h.1, fun x hx => h.2 x hx⟩
theorem t301 : Tx (T300 ++ [49, 10]) := by
  have h : (decide ((T300 ++ [49, 10]).length ≤ 2000) && (T300 ++ [49, 10]).all (· < 128)) = true := by decide +kernel
  simp only [Bool.and_eq_true, decide_eq_true_eq, List.all_eq_true] at h
  exact ⟨h.1, fun x hx => h.2 x hx⟩
theorem v300 : val (readT [some 0] T300) = .tup (List.replicate 300 [D.tup [.int 1]]).flatten := same_eq (by decide +kernel)
theorem v301 : val (readT [some 0] (T300 ++ [49, 10])) = .int 300 := same_eq (by decide +kernel)
theorem m0 : Mk [some 0] := ⟨by decide, by decide, by decide⟩
theorem hc07 (k : Nat) (x0 x1 x2 x3 x4 x5 x6 x7 x8 x9 x10 x11 x12 x13 : Option D) (S : Store) : ev (sem ds (k + 6)) c0_7 [x0, x1, x2, x3, x4, x5, x6, x7, x8, x9, x10, x11, x12, x13, none, none, none, none, none, none] S = .ok (.fl [.int 0, .int 0, .int 0, .int 0]) S := by
  have h2 : sem ds (k + 6) 2 [.tup [.int 0], .tup [.int 0]] S = .ok (mk [some 0] [some 0]) S := s2 (k + 2) m0 m0 S
  have h := ev_lc (cal := sem ds (k + 6)) (own := [15]) (tg := .nm 15) (it := (.of (.tup (.cons (.con .non) (.cons (.con (.int 5)) (.cons (.lst (.cons (.con (.str [49, 10])) .nil)) (.cons (.tup (.cons (.con (.str [49, 10])) .nil)) .nil))))))) (t := .yes) (e := (.call 7 (.cons (.var 15) (.cons (.make 1 2 0 (.cons (.tup (.cons (.con (.int 0)) .nil)) (.cons (.tup (.cons (.con (.int 0)) .nil)) .nil)) [.arg 0, .arg 1]) .nil)) [.arg 0, .arg 1])) (σ := [x0, x1, x2, x3, x4, x5, x6, x7, x8, x9, x10, x11, x12, x13, none, none, none, none, none, none]) (S := S) (xs := [.non, .int 5, .fl [.str [49, 10]], .tup [.str [49, 10]]]) (g := []) (fun _ => .int 0) (by simp [walkOf, itemsOf, guardOf]) (by decide) rfl fun x hx =>
    ⟨[x0, x1, x2, x3, x4, x5, x6, x7, x8, x9, x10, x11, x12, x13, none, some x, none, none, none, none], rfl, rfl, by
      have h7 : sem ds (k + 6) 7 [x, mk [some 0] [some 0]] S = .ok (.int 0) S := by
        simp only [List.mem_cons, List.not_mem_nil, or_false] at hx
        rcases hx with rfl | rfl | rfl | rfl <;> exact s7x k _ rfl (fun n e => by cases e) S
      generalize sem ds (k + 6) = cal at *
      simp [planned, allSome, h2, h7]⟩
  exact h
theorem plain : ∀ ns : List Int, ns.length ≤ 63 → ∃ S, sem ds 8 0 [.sc (ns.map .int)] ⟨0, .nil⟩ = .ok (.bl true) S := by
  intro ns _
  obtain ⟨S1, hS1⟩ : ∃ S1, S1 = Store.new ⟨0, .nil⟩ (.lst [.fl ((cut ns none (some 63)).map .int), .int 0, .int 0]) := ⟨_, rfl⟩
  have hI : In 0 S1 := ⟨⟨cut ns none (some 63), 0, by decide, by rw [hS1]; simp⟩, by rw [hS1]; simp⟩
  obtain ⟨y2, y4, y5, y6, y7, y8, y9, y10, y11, y12, y13, S2, d1⟩ := loop06 1 (some (.sc (ns.map .int))) [.int 0, .int 1, .int 2, .int 3, .int 4, .int 5] S1 none none none none none none none none none none none hI
  obtain ⟨S3, g3, d4⟩ := s7 1 (es := [some 0]) m0 t300 S2
  rw [v300] at d4
  obtain ⟨S4, g4, d8⟩ := s7 1 (es := [some 0]) m0 t301 S3
  rw [v301] at d8
  have d6 : eqS S3 (.tup (List.replicate 300 [D.tup [.int 1]]).flatten) (.tup (List.replicate 300 [D.tup [.int 1]]).flatten) = some true := by rw [← v300]; exact eqS_val S3 _
  have d7 : binD S3 .add (.str T300) (.str [49, 10]) = some (.str (T300 ++ [49, 10])) := by
    show (if T300.length + 2 ≤ sizeMax then some (D.str (T300 ++ [49, 10])) else none) = _
    rw [if_pos (by have := t300.1; simp [sizeMax]; omega)]
  refine ⟨S4, ?_⟩
  rw [sem_fn ds 7 0 e0 _ _ rfl rfl rfl]
  have hx := chain0 (cal := sem ds (1 + 6)) (B6 := b0_6) (C7 := c0_7) (T := T300) (T1 := T300 ++ [49, 10]) (K := mk [some 0] [some 0]) (X := (List.replicate 300 [D.tup [.int 1]]).flatten) rfl d1 rfl (fun S => s2 3 m0 m0 S) d4 rfl d6 d7 d8 (hc07 1 _ _ _ _ _ _ _ _ _ _ _ _ _ _ S4) rfl rfl
  have hf : ex (sem ds 7) (.set (.nm 1) (.mat (.lst (.cons (.slc (.var 0) .no (.so (.con (.int 63)))) (.cons (.con (.int 0)) (.cons (.con (.int 0)) .nil)))))) (some (.sc (ns.map .int)) :: List.replicate 19 none) ⟨0, .nil⟩ = .ok (.nx [some (.sc (ns.map .int)), some (.ref 0), none, none, none, none, none, none, none, none, none, none, none, none, none, none, none, none, none, none]) S1 := by
    have hs : slcD ⟨0, .nil⟩ (.sc (ns.map .int)) none (some 63) = some (.fl ((cut ns none (some 63)).map .int)) := by
      show some (D.fl (cut (ns.map D.int) none (some 63))) = _
      rw [cut_map]
    generalize sem ds 7 = cal
    simp [hs, intOf, hS1, List.replicate]
  have hb : exs (sem ds 7) e0.body (some (.sc (ns.map .int)) :: List.replicate 19 none) ⟨0, .nil⟩ = .ok (.rt (.bl true)) S4 := (exs_nx hf).trans hx
  show (match exs (sem ds 7) e0.body (some (.sc (ns.map .int)) :: List.replicate 19 none) ⟨0, .nil⟩ with
    | Res.ok (.nx _) S' => Res.ok D.non S'
    | Res.ok (.rt v) S' => Res.ok v S'
    | Res.ok (.xc c p _) S' => Res.exc c p S'
    | _ => Res.bad) = _
  rw [hb]
end K39P
end
section
set_option Elab.async false
set_option linter.all false
set_option maxRecDepth 100000
set_option maxHeartbeats 0
namespace K39
open PySem PySem.Spec PyProof.Rows L2 SlX Lk
theorem bp0 : BindP d0.params ["_law_script"] := fun _ _ _ _ _ _ _ _ _ _ us hl => match us, hl with | [_], _ => rfl
theorem bq0 : BindP d0.params d0.ps := by
  rw [show d0.ps = (["_law_script"] : List Str) from by kernel_rfl]
  exact bp0
theorem bp2 : BindP d2.params ["self", "columns", "registers"] := fun _ _ _ _ _ _ _ _ _ _ us hl => match us, hl with | [_, _, _], _ => rfl
theorem bq2 : BindP d2.params d2.ps := by
  rw [show d2.ps = (["self", "columns", "registers"] : List Str) from by kernel_rfl]
  exact bp2
theorem bp3 : BindP d3.params ["_law_draw_here", "_law_bound"] := fun _ _ _ _ _ _ _ _ _ _ us hl => match us, hl with | [_, _], _ => rfl
theorem bq3 : BindP d3.params d3.ps := by
  rw [show d3.ps = (["_law_draw_here", "_law_bound"] : List Str) from by kernel_rfl]
  exact bp3
theorem bp4 : BindP d4.params ["_law_rows", "_law_marks"] := fun _ _ _ _ _ _ _ _ _ _ us hl => match us, hl with | [_, _], _ => rfl
theorem bq4 : BindP d4.params d4.ps := by
  rw [show d4.ps = (["_law_rows", "_law_marks"] : List Str) from by kernel_rfl]
  exact bp4
theorem bp5 : BindP d5.params ["text", "marks"] := fun _ _ _ _ _ _ _ _ _ _ us hl => match us, hl with | [_, _], _ => rfl
theorem bq5 : BindP d5.params d5.ps := by
  rw [show d5.ps = (["text", "marks"] : List Str) from by kernel_rfl]
  exact bp5
theorem bp6 : BindP d6.params ["_law_draw_here", "_law_lines_here"] := fun _ _ _ _ _ _ _ _ _ _ us hl => match us, hl with | [_, _], _ => rfl
theorem bq6 : BindP d6.params d6.ps := by
  rw [show d6.ps = (["_law_draw_here", "_law_lines_here"] : List Str) from by kernel_rfl]
  exact bp6
theorem bp7 : BindP d7.params ["_law_text", "_law_marks"] := fun _ _ _ _ _ _ _ _ _ _ us hl => match us, hl with | [_, _], _ => rfl
theorem bq7 : BindP d7.params d7.ps := by
  rw [show d7.ps = (["_law_text", "_law_marks"] : List Str) from by kernel_rfl]
  exact bp7
theorem bp8 : BindP d8.params ["_law_draw_here", "_law_things"] := fun _ _ _ _ _ _ _ _ _ _ us hl => match us, hl with | [_, _], _ => rfl
theorem bq8 : BindP d8.params d8.ps := by
  rw [show d8.ps = (["_law_draw_here", "_law_things"] : List Str) from by kernel_rfl]
  exact bp8
theorem bp9 : BindP d9.params ["data", "marks"] := fun _ _ _ _ _ _ _ _ _ _ us hl => match us, hl with | [_, _], _ => rfl
theorem bq9 : BindP d9.params d9.ps := by
  rw [show d9.ps = (["data", "marks"] : List Str) from by kernel_rfl]
  exact bp9
theorem bp10 : BindP d10.params ["_law_text", "_law_marks"] := fun _ _ _ _ _ _ _ _ _ _ us hl => match us, hl with | [_, _], _ => rfl
theorem bq10 : BindP d10.params d10.ps := by
  rw [show d10.ps = (["_law_text", "_law_marks"] : List Str) from by kernel_rfl]
  exact bp10
theorem bp11 : BindP d11.params ["rows", "width"] := fun _ _ _ _ _ _ _ _ _ _ us hl => match us, hl with | [_, _], _ => rfl
theorem bq11 : BindP d11.params d11.ps := by
  rw [show d11.ps = (["rows", "width"] : List Str) from by kernel_rfl]
  exact bp11
theorem bp12 : BindP d12.params ["thing", "width", "most"] := fun _ _ _ _ _ _ _ _ _ _ us hl => match us, hl with | [_, _, _], _ => rfl
theorem bq12 : BindP d12.params d12.ps := by
  rw [show d12.ps = (["thing", "width", "most"] : List Str) from by kernel_rfl]
  exact bp12
theorem bp13 : BindP d13.params ["thing", "most"] := fun _ _ _ _ _ _ _ _ _ _ us hl => match us, hl with | [_, _], _ => rfl
theorem bq13 : BindP d13.params d13.ps := by
  rw [show d13.ps = (["thing", "most"] : List Str) from by kernel_rfl]
  exact bp13
theorem bp14 : BindP d14.params ["_law_cell", "_law_k", "_law_bound"] := fun _ _ _ _ _ _ _ _ _ _ us hl => match us, hl with | [_, _, _], _ => rfl
theorem bq14 : BindP d14.params d14.ps := by
  rw [show d14.ps = (["_law_cell", "_law_k", "_law_bound"] : List Str) from by kernel_rfl]
  exact bp14
theorem bp15 : BindP d15.params ["_law_script", "_law_k"] := fun _ _ _ _ _ _ _ _ _ _ us hl => match us, hl with | [_, _], _ => rfl
theorem bq15 : BindP d15.params d15.ps := by
  rw [show d15.ps = (["_law_script", "_law_k"] : List Str) from by kernel_rfl]
  exact bp15
theorem bp16 : BindP d16.params ["marks"] := fun _ _ _ _ _ _ _ _ _ _ us hl => match us, hl with | [_], _ => rfl
theorem bq16 : BindP d16.params d16.ps := by
  rw [show d16.ps = (["marks"] : List Str) from by kernel_rfl]
  exact bp16
theorem bp17 : BindP d17.params ["text"] := fun _ _ _ _ _ _ _ _ _ _ us hl => match us, hl with | [_], _ => rfl
theorem bq17 : BindP d17.params d17.ps := by
  rw [show d17.ps = (["text"] : List Str) from by kernel_rfl]
  exact bp17
theorem bp18 : BindP d18.params ["word", "mark"] := fun _ _ _ _ _ _ _ _ _ _ us hl => match us, hl with | [_, _], _ => rfl
theorem bq18 : BindP d18.params d18.ps := by
  rw [show d18.ps = (["word", "mark"] : List Str) from by kernel_rfl]
  exact bp18
theorem bp19 : BindP d19.params ["data"] := fun _ _ _ _ _ _ _ _ _ _ us hl => match us, hl with | [_], _ => rfl
theorem bq19 : BindP d19.params d19.ps := by
  rw [show d19.ps = (["data"] : List Str) from by kernel_rfl]
  exact bp19
theorem bp20 : BindP d20.params ["item"] := fun _ _ _ _ _ _ _ _ _ _ us hl => match us, hl with | [_], _ => rfl
theorem bq20 : BindP d20.params d20.ps := by
  rw [show d20.ps = (["item"] : List Str) from by kernel_rfl]
  exact bp20
theorem bp21 : BindP d21.params ["_law_line", "_law_marks"] := fun _ _ _ _ _ _ _ _ _ _ us hl => match us, hl with | [_, _], _ => rfl
theorem bq21 : BindP d21.params d21.ps := by
  rw [show d21.ps = (["_law_line", "_law_marks"] : List Str) from by kernel_rfl]
  exact bp21
theorem bp22 : BindP d22.params ["thing", "least", "most"] := fun _ _ _ _ _ _ _ _ _ _ us hl => match us, hl with | [_, _, _], _ => rfl
theorem bq22 : BindP d22.params d22.ps := by
  rw [show d22.ps = (["thing", "least", "most"] : List Str) from by kernel_rfl]
  exact bp22
theorem bp23 : BindP d23.params ["thing", "most"] := fun _ _ _ _ _ _ _ _ _ _ us hl => match us, hl with | [_, _], _ => rfl
theorem bq23 : BindP d23.params d23.ps := by
  rw [show d23.ps = (["thing", "most"] : List Str) from by kernel_rfl]
  exact bp23
theorem bp24 : BindP d24.params ["_law_cell", "_law_k", "_law_bound"] := fun _ _ _ _ _ _ _ _ _ _ us hl => match us, hl with | [_, _, _], _ => rfl
theorem bq24 : BindP d24.params d24.ps := by
  rw [show d24.ps = (["_law_cell", "_law_k", "_law_bound"] : List Str) from by kernel_rfl]
  exact bp24
theorem bp25 : BindP d25.params ["self"] := fun _ _ _ _ _ _ _ _ _ _ us hl => match us, hl with | [_], _ => rfl
theorem bq25 : BindP d25.params d25.ps := by
  rw [show d25.ps = (["self"] : List Str) from by kernel_rfl]
  exact bp25
theorem bp26 : BindP d26.params ["self"] := fun _ _ _ _ _ _ _ _ _ _ us hl => match us, hl with | [_], _ => rfl
theorem bq26 : BindP d26.params d26.ps := by
  rw [show d26.ps = (["self"] : List Str) from by kernel_rfl]
  exact bp26
theorem bp27 : BindP d27.params ["self"] := fun _ _ _ _ _ _ _ _ _ _ us hl => match us, hl with | [_], _ => rfl
theorem bq27 : BindP d27.params d27.ps := by
  rw [show d27.ps = (["self"] : List Str) from by kernel_rfl]
  exact bp27
theorem bp28 : BindP d28.params ["self", "other"] := fun _ _ _ _ _ _ _ _ _ _ us hl => match us, hl with | [_, _], _ => rfl
theorem bq28 : BindP d28.params d28.ps := by
  rw [show d28.ps = (["self", "other"] : List Str) from by kernel_rfl]
  exact bp28
theorem bp29 : BindP d29.params ["self", "other"] := fun _ _ _ _ _ _ _ _ _ _ us hl => match us, hl with | [_, _], _ => rfl
theorem bq29 : BindP d29.params d29.ps := by
  rw [show d29.ps = (["self", "other"] : List Str) from by kernel_rfl]
  exact bp29
theorem hB : AllB LW.defs := ⟨fun _ => bq0, fun h => absurd h (by decide +kernel), fun _ => bq2, fun _ => bq3, fun _ => bq4, fun _ => bq5, fun _ => bq6, fun _ => bq7, fun _ => bq8, fun _ => bq9, fun _ => bq10, fun _ => bq11, fun _ => bq12, fun _ => bq13, fun _ => bq14, fun _ => bq15, fun _ => bq16, fun _ => bq17, fun _ => bq18, fun _ => bq19, fun _ => bq20, fun _ => bq21, fun _ => bq22, fun _ => bq23, fun _ => bq24, fun _ => bq25, fun _ => bq26, fun _ => bq27, fun _ => bq28, fun _ => bq29, trivial⟩
theorem bs3 : BindS s3 "row" := fun _ _ _ _ _ _ _ _ us hl => match us, hl with | [_, _], _ => rfl
theorem hS : AllS LW LW.sups := ⟨(fun fl par h => by
    have e : LW.ef.getD s3.c none = some (("row" : Str), ("row" : Str)) := by kernel_rfl
    rw [e] at h
    cases h
    exact bs3), trivial⟩
theorem bk1 : ∀ (x qual : Str) (body : List Stmt) (scope : Scope) (kV doc pm : Value) (an : Option Addr) (cdv ct : Value) (us ws : List Value), us.length = 2 → ws.length = 1 → bindArgs (PySem.W.fnOf x qual d1.params body scope .none kV doc pm an cdv ct) ⟨us, (["width"] : List Str).zip ws⟩ = pure ((["self", "rows", "width"] : List Str).zip (us ++ ws)) := fun _ _ _ _ _ _ _ _ _ _ us ws h1 h2 => match us, ws, h1, h2 with | [_, _], [_], _, _ => rfl
theorem hKw : ∀ K x m ks c j, LW.G.makk.lookup (x, m, ks) = some (c, j) → ∀ d fd, LW.defs[j]? = some d → FunD K d.name d.qual d.params d.body d.scope (d.dvs K) (d.kws K) (d.at_.adr K) fd → KBn K fd d.ps (m + 1) ks (fun us ws => us ++ ws) (fun vs zs => vs ++ zs) := by
  intro K x m ks c j h d fd hd U
  have q := lookup_in h
  rw [show LW.G.makk = ([(("Data", 1, ["width"]), (0, 1))] : List ((Str × Nat × List Str) × (Nat × Nat))) from rfl] at q
  simp only [List.mem_cons, List.not_mem_nil, or_false, Prod.mk.injEq] at q
  obtain ⟨⟨rfl, rfl, rfl⟩, rfl, rfl⟩ := q
  cases (show LW.defs[1]? = some d1 from rfl).symm.trans hd
  exact kb_of U rfl (by kernel_rfl) bk1
theorem hds : LW.defs.map (cDef LW.G LW.slots) = K39P.ds.map some := by kernel_rfl
end K39
open PySem PySem.W PySem.Calls PyProof.Rows
theorem PySem.Challenge.cw_lackmark_k39_whole_data_texts_holds : PySem.Challenge.rw_lackmark_k39_whole_data_texts.Holds := by
  w_on; o_law
  refine HandSHeadRun.head_any (r := OpenLaw.row PySem.Challenge.rw_lackmark_k39_whole_data_texts) (q := view (OpenLaw.row PySem.Challenge.rw_lackmark_k39_whole_data_texts).prog [44]) (H := K39.hk) (ob := K39.ob) (M := 20000) (loose := K39.names) (d := HandSHeadRun.topDef (OpenLaw.row PySem.Challenge.rw_lackmark_k39_whole_data_texts).prog 44) (kwd := []) K39.ob_eq
    (by kernel_rfl) (fun s => by kernel_rfl) K39.run (by kernel_rfl) (by kernel_rfl) (by kernel_rfl) (by rfl) (by first | assumption | decide +kernel) (by decide +kernel) ⟨rfl, rfl, rfl, rfl, rfl, by decide +kernel⟩ ?hw ?hc
  case hw => w_witness2
  case hc =>
    refine L2.walk_ofE (l := PySem.Challenge.rw_lackmark_k39_whole_data_texts) (n := 63) (k := 2 * 8 + 2) (x := "_law_script") (CX := L2.CX0) rfl (by decide) (by kernel_rfl) ⟨rfl, by decide, by decide⟩ ?F (fun _ _ _ _ z => z)
    intro w mg fa h Y G hmg0
    have hmg : mg ("law" : PySem.Str) = some (.ref fa) := by
      have e : (HandSHeadRun.topDef (OpenLaw.row PySem.Challenge.rw_lackmark_k39_whole_data_texts).prog 44).name = ("law" : PySem.Str) := by kernel_rfl
      rw [← e]
      exact hmg0
    exact Lk.law_F (L := K39.LW) (P := PySem.Challenge.rw_lackmark_k39_whole_data_texts.prog) (jl := 0) (n := 8) (lx := K39.d0) (ds := K39P.ds) (x := "_law_script") rfl rfl rfl (by kernel_rfl) (by decide +kernel) (by decide +kernel) K39.hds K39.hB K39.hS K39.hKw K39P.plain w mg fa h Y G hmg
end
