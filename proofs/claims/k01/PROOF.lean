import PyProof.Rows.All
import Wide.All
import OpenK.AllK
import Wide.FinOn
import HandS.ForMost
import HandS.Exc
import HandS.Slots
import HandS.Wide
import KE.KDictKeyed
import HandS.Lambda
import HandS.TupAny
import HandS.TupMul
import HandS.Deep
import HandS.Text
import KE.KDictWalk
import PyProof.DictRoadsH
import HandS.IsInst
import HandS.SlotsOwn
import HandS.RaiseMore
import HandS.Conv
import PyProof.ListStr
import HandS.Walk
import HandS.Zip
import HandS.CallSlots
import HandS.ExcOwn
import HandS.Defaults
import HandS.Replace
import HandS.Star
import HandS.MakeKwOnly
import HandS.TryOnly
import HandS.ExcField
import KE.KExcSuper
import HandS.ExcInit
import KE.GoesEnum
import KE.GoesMore
import KE.KOpsOwn
import KE.KCallOwn
import HandS.TryMany
import PyProof.CollectStr
import HandS.Style
import HandS.HeadHook2
import HandS.HeadHook4
import HandS.HeadEnd
import HandS.EndTab
import HandS.Head0
import HandS.Head1
import HandS.Head2
import PySem.Challenge.RW_lackmark_k01_whole_data
section
/-! E0: a small evaluator of the program's own language, over trees of values; plain Lean, no library. -/
set_option Elab.async false
set_option linter.all false
namespace Lk

/-- values: tuples are trees; dc: t says that its keys are tuples (without keys it may be either); fl, dc, ob: a list, a dict, an instance that nothing changes any more; sc: the script; ref: what stands in the store -/
inductive D where
  | non | bl (b : Bool) | int (i : Int) | str (s : List Nat) | tup (xs : List D) | fl (xs : List D) | sc (xs : List D) | dc (t : Bool) (kvs : List (D × D)) | ob (c : Nat) (fs : List D) | ref (n : Nat) | cls (c : Nat)

inductive Ob where
  | lst (xs : List D)
  | dic (t : Bool) (kvs : List (D × D))
  | ins (c : Nat) (fs : List D)

/-! ### the store: a tree by the bits of the place -/
inductive Tr where
  | nil | node (v : Option Ob) (l r : Tr)
def Tr.v : Tr → Option Ob
  | .nil => none
  | .node v _ _ => v
def Tr.l : Tr → Tr
  | .nil => .nil
  | .node _ l _ => l
def Tr.r : Tr → Tr
  | .nil => .nil
  | .node _ _ r => r
def Tr.get : Tr → Nat → Option Ob
  | .nil, _ => none
  | .node v l r, n => match n with
    | 0 => v
    | n + 1 => match n % 2 with
      | 0 => l.get (n / 2)
      | _ => r.get (n / 2)
def Tr.put : Nat → Tr → Nat → Ob → Tr
  | 0, t, _, _ => t
  | f + 1, t, n, o => match n with
    | 0 => .node (some o) t.l t.r
    | n + 1 => match n % 2 with
      | 0 => .node t.v (t.l.put f (n / 2) o) t.r
      | _ => .node t.v t.l (t.r.put f (n / 2) o)
theorem Tr.get_put : ∀ (f : Nat) (t : Tr) (n m : Nat) (o : Ob), n < f → (t.put f n o).get m = if m = n then some o else t.get m
  | 0, _, _, _, _, h => absurd h (Nat.not_lt_zero _)
  | f + 1, t, 0, m, o, _ => by
    cases m with
    | zero => simp [Tr.put, Tr.get]
    | succ m =>
      cases t with
      | nil => simp only [Tr.put, Tr.get, Tr.l, Tr.r]; split <;> simp [Tr.get]
      | node v l r => simp only [Tr.put, Tr.get, Tr.l, Tr.r]; simp
  | f + 1, t, n + 1, m, o, h => by
    have hf : n / 2 < f := by omega
    have key : ∀ (a b : Nat), a % 2 = b % 2 → (a / 2 = b / 2 ↔ a = b) := fun a b e => by omega
    rcases Nat.mod_two_eq_zero_or_one n with hn | hn
    · have e : Tr.put (f + 1) t (n + 1) o = .node t.v (t.l.put f (n / 2) o) t.r := by simp [Tr.put, hn]
      rw [e]
      cases m with
      | zero => cases t <;> simp [Tr.get, Tr.v]
      | succ m =>
        rcases Nat.mod_two_eq_zero_or_one m with hm | hm
        · have := key m n (by omega)
          simp only [Tr.get, hm]
          rw [Tr.get_put f t.l (n / 2) (m / 2) o hf]
          simp only [Nat.add_right_cancel_iff, this]
          cases t <;> simp [Tr.get, Tr.l, hm]
        · have : m ≠ n := by omega
          simp only [Tr.get, hm]
          cases t <;> simp [Tr.get, Tr.r, hm, this]
    · have e : Tr.put (f + 1) t (n + 1) o = .node t.v t.l (t.r.put f (n / 2) o) := by simp [Tr.put, hn]
      rw [e]
      cases m with
      | zero => cases t <;> simp [Tr.get, Tr.v]
      | succ m =>
        rcases Nat.mod_two_eq_zero_or_one m with hm | hm
        · have : m ≠ n := by omega
          simp only [Tr.get, hm]
          cases t <;> simp [Tr.get, Tr.l, hm, this]
        · have := key m n (by omega)
          simp only [Tr.get, hm]
          rw [Tr.get_put f t.r (n / 2) (m / 2) o hf]
          simp only [Nat.add_right_cancel_iff, this]
          cases t <;> simp [Tr.get, Tr.r, hm]

structure Store where
  next : Nat
  mem : Tr
def Store.get (S : Store) (n : Nat) : Option Ob := S.mem.get n
def Store.put (S : Store) (n : Nat) (o : Ob) : Store := ⟨S.next, S.mem.put (n + 1) n o⟩
def Store.new (S : Store) (o : Ob) : Store := ⟨S.next + 1, S.mem.put (S.next + 1) S.next o⟩
@[simp] theorem Store.get_put (S : Store) (n m : Nat) (o : Ob) : (S.put n o).get m = if m = n then some o else S.get m := Tr.get_put _ _ _ _ _ (Nat.lt_succ_self _)
@[simp] theorem Store.get_new (S : Store) (m : Nat) (o : Ob) : (S.new o).get m = if m = S.next then some o else S.get m := Tr.get_put _ _ _ _ _ (Nat.lt_succ_self _)
@[simp] theorem Store.next_put (S : Store) (n : Nat) (o : Ob) : (S.put n o).next = S.next := rfl
@[simp] theorem Store.next_new (S : Store) (o : Ob) : (S.new o).next = S.next + 1 := rfl

/-! ### what a run comes to -/
inductive Res (α : Type) where
  | ok (a : α) (S : Store)
  | exc (c : Nat) (p : List D) (S : Store)
  | bad
abbrev M (α : Type) := Store → Res α
def M.pure {α : Type} (a : α) : M α := fun S => .ok a S
def M.bad {α : Type} : M α := fun _ => .bad
def M.bind {α β : Type} (m : M α) (k : α → M β) : M β := fun S => match m S with
  | .ok a S' => k a S'
  | .exc c p S' => .exc c p S'
  | .bad => .bad
/-- without errors -/
def M.calm {α : Type} (m : M α) : M α := fun S => match m S with
  | .exc _ _ _ => .bad
  | r => r
def M.opt {α : Type} : Option α → M α
  | some a => M.pure a
  | none => M.bad
theorem M.bind_assoc {α β γ : Type} (m : M α) (k : α → M β) (l : β → M γ) : M.bind (M.bind m k) l = M.bind m fun a => M.bind (k a) l := by
  funext S
  simp only [M.bind]
  cases m S <;> rfl
theorem M.bind_bad {α β : Type} {m : M α} {k : α → M β} {S : Store} (h : m S = .bad) : M.bind m k S = .bad := by simp [M.bind, h]
theorem M.bind_ok {α β : Type} {m : M α} {k : α → M β} {S S' : Store} {a : α} (h : m S = .ok a S') : M.bind m k S = k a S' := by simp [M.bind, h]

/-! ### the language -/
inductive Bop where
  | add | sub | mul | fdiv | mod | pow | shl | shr | band | bor | bxor
inductive Cop where
  | eq | ne | lt | le | gt | ge | inn | nin
inductive Kd where
  | int | bool | str | tup | lst | dic | own (c : Nat)
inductive Bi where
  | len | all | any | sum | tuple | list | int | str | abs | dict | min | max
inductive Bm where
  | append | extend | insert | index | split | join | get | update | clear | pop | count | none
inductive Att where
  | slot (i : Nat) | prop (f : Nat)
/-- a parameter's value: the i-th of the evaluated arguments, or a default -/
inductive Pl where
  | arg (i : Nat) | dfl (d : D)
mutual
inductive Tg where
  | nm (i : Nat) | tp (ts : Tgs)
inductive Tgs where
  | nil | cons (t : Tg) (r : Tgs)
end
mutual
inductive XE where
  | var (i : Nat)
  | con (d : D)
  | tup (es : XEs)
  | lst (es : XEs)
  | bin (o : Bop) (tb rb : List (Nat × Nat)) (a b : XE)
  | inv (tb : List (Nat × Nat)) (a : XE)
  | neg (a : XE)
  | cmp (o : Cop) (tb : List (Nat × Nat)) (a b : XE)
  | isN (a : XE)
  | noN (a : XE)
  | chn (o p : Cop) (a b c : XE)
  | and (a b : XE)
  | or (a b : XE)
  | not (a : XE)
  | ite (t a b : XE)
  | idx (tb : List (Nat × Nat)) (a i : XE)
  | slc (a : XE) (lo hi : XB)
  | att (tb : List (Nat × Att)) (a : XE)
  | call (f : Nat) (es : XEs) (pl : List Pl)
  | make (c f n : Nat) (es : XEs) (pl : List Pl)
  | mth (m : Bm) (o : XE) (es : XEs)
  | bi (b : Bi) (tb : List (Nat × Nat)) (es : XEs)
  | isi (n : Nat) (ks : List Kd) (a : XE)
  | lcm (own : List Nat) (tg : Tg) (it : XI) (t e : XE)
  | yes
  | mat (a : XE)
  | lrng (es : XEs)
  | dct (es : XEs)
  | dcm (own : List Nat) (tg : Tg) (it : XI) (t k v : XE)
  | lcn (own : List Nat) (cl : XCs) (e : XE)
  | mcl (tb : List (Nat × (Nat × List D))) (o : XE) (es : XEs)
  | mkAt (i c j : Nat) (es : XEs) (pl : List Pl)
  | ask (n : Nat) (r : XE) (hs : List (List Nat × List Nat × Option D)) (e : XE)
/-- the clauses of a comprehension; each with the slots that are forgotten ahead of each of its turns -/
inductive XCs where
  | nil
  | cons (vs : List Nat) (tg : Tg) (it : XI) (t : XE) (r : XCs)
/-- a slice's end -/
inductive XB where
  | no
  | so (e : XE)
/-- what is walked -/
inductive XI where
  | of (a : XE)
  | rng (es : XEs)
  | enm (a : XE)
  | zip (a b : XE)
  | itm (a : XE)
inductive XEs where
  | nil
  | cons (e : XE) (r : XEs)
  | star (e : XE) (r : XEs)
end
mutual
inductive XS where
  | pass
  | expr (e : XE)
  | set (t : Tg) (e : XE)
  | setIx (a i e : XE)
  | setIx2 (a i b j e : XE)
  | aug (i : Nat) (o : Bop) (e : XE)
  | ret (e : XE)
  | ite (c : XE) (a b : XSs)
  | whl (c : XE) (b : XSs)
  | for (tg : Tg) (it : XI) (b : XSs)
  | brk
  | cnt
  | raise (c : Nat) (es : XEs)
  | tryy (b : XSs) (hs : XHs)
  | mtch (e : XE) (ms : XMs)
/-- case ("w" | .., x, ..): its words, the slots of its names -/
inductive XMs where
  | nil
  | cons (ws : List (List Nat)) (vs : List Nat) (b : XSs) (r : XMs)
inductive XSs where
  | nil
  | cons (s : XS) (r : XSs)
/-- except clauses: the classes that it takes, those that it lets pass, its suite; fld: 'as e: return e.f' -/
inductive XHs where
  | nil
  | cons (yes no : List Nat) (b : XSs) (r : XHs)
  | fld (c i : Nat) (no : List Nat) (r : XHs)
end
abbrev Env := List (Option D)
/-- where a statement goes; xc: an error of the class c with its fields p -/
inductive Flow where
  | nx (σ : Env) | rt (d : D) | bk (σ : Env) | ct (σ : Env) | xc (c : Nat) (p : List D) (σ : Env)
def slotOf (σ : Env) (i : Nat) : Option D := match σ[i]? with
  | some (some d) => some d
  | _ => none
theorem slotOf_some {σ : Env} {i : Nat} {d : D} (h : slotOf σ i = some d) : σ[i]? = some (some d) := by
  unfold slotOf at h
  split at h
  · rename_i e; cases h; exact e
  · cases h
/-- an expression in a statement: its error flows -/
def M.at {α : Type} (σ : Env) (m : M α) (k : α → M Flow) : M Flow := fun S => match m S with
  | .ok a S' => k a S'
  | .exc c p S' => .ok (.xc c p σ) S'
  | .bad => .bad

/-! ### values -/
mutual
def eqD : D → D → Bool
  | .non, .non => true
  | .bl a, .bl b => a == b
  | .bl a, .int j => (if a then (1 : Int) else 0) == j
  | .int i, .bl b => i == (if b then (1 : Int) else 0)
  | .int i, .int j => i == j
  | .str x, .str y => x == y
  | .tup xs, .tup ys => eqDs xs ys
  | .fl xs, .fl ys => eqDs xs ys
  | _, _ => false
def eqDs : List D → List D → Bool
  | [], [] => true
  | x :: xs, y :: ys => eqD x y && eqDs xs ys
  | _, _ => false
end
mutual
def same : D → D → Bool
  | .non, .non => true
  | .bl a, .bl b => a == b
  | .int i, .int j => i == j
  | .str x, .str y => x == y
  | .tup xs, .tup ys => sames xs ys
  | .fl xs, .fl ys => sames xs ys
  | .sc xs, .sc ys => sames xs ys
  | .dc s xs, .dc t ys => s == t && sameK xs ys
  | .ob c xs, .ob e ys => c == e && sames xs ys
  | .ref a, .ref b => a == b
  | .cls a, .cls b => a == b
  | _, _ => false
def sames : List D → List D → Bool
  | [], [] => true
  | x :: xs, y :: ys => same x y && sames xs ys
  | _, _ => false
def sameK : List (D × D) → List (D × D) → Bool
  | [], [] => true
  | (x, u) :: xs, (y, v) :: ys => same x y && same u v && sameK xs ys
  | _, _ => false
end
mutual
theorem same_eq : ∀ {a b : D}, same a b = true → a = b
  | .non, b, h => by cases b <;> simp_all [same]
  | .bl _, b, h => by cases b <;> simp_all [same]
  | .int _, b, h => by cases b <;> simp_all [same]
  | .str _, b, h => by cases b <;> simp_all [same]
  | .tup xs, b, h => by cases b <;> simp [same] at h; rw [sames_eq h]
  | .fl xs, b, h => by cases b <;> simp [same] at h; rw [sames_eq h]
  | .sc xs, b, h => by cases b <;> simp [same] at h; rw [sames_eq h]
  | .dc t xs, b, h => by cases b <;> simp [same] at h; rw [h.1, sameK_eq h.2]
  | .ob c xs, b, h => by cases b <;> simp [same] at h; rw [h.1, sames_eq h.2]
  | .ref _, b, h => by cases b <;> simp_all [same]
  | .cls _, b, h => by cases b <;> simp_all [same]
theorem sames_eq : ∀ {a b : List D}, sames a b = true → a = b
  | [], b, h => by cases b <;> simp_all [sames]
  | x :: xs, b, h => by
    cases b with
    | nil => simp [sames] at h
    | cons y ys => simp [sames] at h; rw [same_eq h.1, sames_eq h.2]
theorem sameK_eq : ∀ {a b : List (D × D)}, sameK a b = true → a = b
  | [], b, h => by cases b <;> simp_all [sameK]
  | (x, u) :: xs, b, h => by
    cases b with
    | nil => simp [sameK] at h
    | cons y ys => obtain ⟨y, v⟩ := y; simp [sameK] at h; rw [same_eq h.1.1, same_eq h.1.2, sameK_eq h.2]
end
mutual
theorem same_refl : ∀ a : D, same a a = true
  | .non => rfl
  | .bl _ => by simp [same]
  | .int _ => by simp [same]
  | .str _ => by simp [same]
  | .tup xs => by simp [same, sames_refl xs]
  | .fl xs => by simp [same, sames_refl xs]
  | .sc xs => by simp [same, sames_refl xs]
  | .dc t xs => by simp [same, sameK_refl xs]
  | .ob c xs => by simp [same, sames_refl xs]
  | .ref _ => by simp [same]
  | .cls _ => by simp [same]
theorem sames_refl : ∀ a : List D, sames a a = true
  | [] => rfl
  | x :: xs => by simp [sames, same_refl x, sames_refl xs]
theorem sameK_refl : ∀ a : List (D × D), sameK a a = true
  | [] => rfl
  | (x, u) :: xs => by simp [sameK, same_refl x, same_refl u, sameK_refl xs]
end
/-- a list of options, all there -/
def allSome {α β : Type} (f : α → Option β) : List α → Option (List β)
  | [] => some []
  | x :: xs => match f x with
    | none => none
    | some y => match allSome f xs with
      | none => none
      | some ys => some (y :: ys)
/-- data, its lists read off the store -/
def rsv (S : Store) : Nat → D → Option D
  | 0, _ => none
  | n + 1, d => match d with
    | .non => some .non
    | .bl b => some (.bl b)
    | .int i => some (.int i)
    | .str s => if s.all (· < 1114112) then some (.str s) else none
    | .tup xs => (allSome (rsv S n) xs).map .tup
    | .fl xs => (allSome (rsv S n) xs).map .fl
    | .ref a => match S.get a with
      | some (.lst xs) => (allSome (rsv S n) xs).map .fl
      | _ => none
    | _ => none
def eqS (S : Store) (a b : D) : Option Bool := match rsv S 60 a with
  | none => none
  | some x => match rsv S 60 b with
    | none => none
    | some y => some (eqD x y)
/-! ### dicts -/
/-- a key that is no tuple -/
def keyL : D → Bool
  | .int _ => true
  | .str _ => true
  | _ => false
mutual
/-- what may stand in a tuple that is a key, n deep at most -/
def keyB : D → Nat → Bool
  | .non, _ => true
  | .bl _, _ => true
  | .int _, _ => true
  | .str _, _ => true
  | .tup xs, n => match n with
    | 0 => false
    | m + 1 => keyBs xs m
  | _, _ => false
def keyBs : List D → Nat → Bool
  | [], _ => true
  | x :: xs, n => keyB x n && keyBs xs n
end
def keyT : D → Bool
  | .tup xs => keyBs xs 7
  | _ => false
def getK (k : D) : List (D × D) → Option D
  | [] => none
  | (q, v) :: r => match eqD q k with
    | true => some v
    | false => getK k r
def setK (k v : D) : List (D × D) → List (D × D)
  | [] => []
  | (q, u) :: r => match eqD q k with
    | true => (q, v) :: setK k v r
    | false => (q, u) :: setK k v r
def putK (kvs : List (D × D)) (k v : D) : List (D × D) := match getK k kvs with
  | some _ => setK k v kvs
  | none => kvs ++ [(k, v)]
def delK (k : D) : List (D × D) → List (D × D)
  | [] => []
  | (q, u) :: r => match eqD q k with
    | true => delK k r
    | false => (q, u) :: delK k r
/-- the key fits the dict: which kind it is then of -/
def fitK (t : Bool) (kvs : List (D × D)) (k : D) : Option Bool := match keyL k, keyT k with
  | true, _ => match t, kvs with
    | false, _ => some false
    | true, [] => some false
    | true, _ :: _ => none
  | false, true => match t, kvs with
    | true, _ => some true
    | false, [] => some true
    | false, _ :: _ => none
  | false, false => none
def dictOf (S : Store) : D → Option (Bool × List (D × D))
  | .dc t kvs => some (t, kvs)
  | .ref a => match S.get a with
    | some (.dic t kvs) => some (t, kvs)
    | _ => none
  | _ => none
/-- all of these, put one after the other -/
def putAll : Bool → List (D × D) → List (D × D) → Option (Bool × List (D × D))
  | t, kvs, [] => some (t, kvs)
  | t, kvs, (k, v) :: r => match fitK t kvs k with
    | some t2 => putAll t2 (putK kvs k v) r
    | none => none
/-- pairs of a list of values, one behind the other -/
def pairUp : List D → Option (List (D × D))
  | [] => some []
  | k :: v :: r => (pairUp r).map fun q => (k, v) :: q
  | _ => none
/-- a list of pairs -/
def pairsOf : List D → Option (List (D × D)) := allSome fun d => match d with
  | .tup [k, v] => some (k, v)
  | _ => none
def getDd (S : Store) (d k : D) : Option (Option D) := match dictOf S d with
  | some (t, kvs) => match fitK t kvs k with
    | some _ => some (getK k kvs)
    | none => none
  | none => none
/-- the items of a list or tuple -/
def itemsOf (S : Store) : D → Option (List D)
  | .tup xs => some xs
  | .fl xs => some xs
  | .sc xs => some xs
  | .ref a => match S.get a with
    | some (.lst xs) => some xs
    | _ => none
  | _ => none
/-- the items of a list -/
def seqOf (S : Store) : D → Option (List D)
  | .tup _ => none
  | d => itemsOf S d
/-- what a walk over a value gives -/
def walkS (S : Store) : D → Option (List D)
  | .str z => some (z.map fun c => .str [c])
  | d => itemsOf S d
def walkOf (S : Store) : D → Option (List D)
  | .dc _ kvs => some (kvs.map (·.1))
  | d => walkS S d
def intOf : D → Option Int
  | .int i => some i
  | _ => none
def isNon : D → Bool
  | .non => true
  | _ => false
def truth : D → Option Bool
  | .bl b => some b
  | _ => none
/-- the index i of n things, as Python has it -/
def ixOf (n : Nat) (i : Int) : Option Nat := if 0 ≤ i then (if i < n then some i.toNat else none) else if -(n : Int) ≤ i then some (i + n).toNat else none
/-- an end of a slice -/
def cutAt (n d : Nat) : Option Int → Nat
  | none => d
  | some v => if v < 0 then (v + (n : Int)).toNat else min v.toNat n
def cut {α : Type} (xs : List α) (lo hi : Option Int) : List α := (xs.drop (cutAt xs.length 0 lo)).take (cutAt xs.length xs.length hi - cutAt xs.length 0 lo)
def kindIs : Kd → D → Bool
  | .int, .int _ => true
  | .int, .bl _ => true
  | .bool, .bl _ => true
  | .str, .str _ => true
  | .tup, .tup _ => true
  | .lst, .fl _ => true
  | .lst, .sc _ => true
  | .dic, .dc _ _ => true
  | .own c, .ob k _ => c == k
  | _, _ => false
def kindOf (S : Store) (n : Nat) (ks : List Kd) : D → Option Bool
  | .sc _ => none
  | .cls _ => none
  | .ob c _ => if c < n then some (ks.any fun k => match k with | .own k => k == c | _ => false) else none
  | .ref a => match S.get a with
    | some (.lst _) => some (ks.any fun k => match k with | .lst => true | _ => false)
    | some (.dic _ _) => some (ks.any fun k => match k with | .dic => true | _ => false)
    | some (.ins c _) => if c < n then some (ks.any fun k => match k with | .own k => k == c | _ => false) else none
    | none => none
  | d => some (ks.any fun k => kindIs k d)
def intBin : Bop → Int → Int → Option Int
  | .add, i, j => some (i + j)
  | .sub, i, j => some (i - j)
  | .mul, i, j => if (-(2 ^ 64) < i ∧ i < 2 ^ 64) ∨ (-(2 ^ 64) < j ∧ j < 2 ^ 64) then some (i * j) else none
  | .fdiv, i, j => if 0 < j ∧ j.natAbs.log2 < 9000 then some (i / j) else none
  | .mod, i, j => if j ≠ 0 then some (i.fmod j) else none
  | .pow, i, j => if 0 ≤ j ∧ j ≤ 1000000 ∧ i.natAbs < 2 ^ 64 then some (i ^ j.toNat) else none
  | _, _, _ => none
def sizeMax : Nat := 1000000
/-- the items of a list that may be changed, or nothing changes -/
def listOf (S : Store) : D → Option (List D)
  | .fl xs => some xs
  | .ref a => match S.get a with
    | some (.lst xs) => some xs
    | _ => none
  | _ => none
def binD (S : Store) : Bop → D → D → Option D
  | o, .int i, .int j => (intBin o i j).map .int
  | .add, .str a, .str b => if a.length + b.length ≤ sizeMax then some (.str (a ++ b)) else none
  | .add, .tup a, .tup b => if a.length + b.length ≤ sizeMax then some (.tup (a ++ b)) else none
  | .mul, .tup a, .int i => if 0 ≤ i ∧ i < 2 ^ 62 ∧ a.length * i.toNat ≤ sizeMax then some (.tup (List.replicate i.toNat a).flatten) else none
  | .mul, .str a, .int i => if 0 ≤ i ∧ i < 2 ^ 62 ∧ a.length * i.toNat ≤ sizeMax then some (.str (List.replicate i.toNat a).flatten) else none
  | .add, a, b => match listOf S a, listOf S b with
    | some x, some y => if x.length + y.length ≤ sizeMax then some (.fl (x ++ y)) else none
    | _, _ => none
  | .mul, .fl a, .int i => if 0 ≤ i ∧ i < 2 ^ 62 ∧ a.length * i.toNat ≤ sizeMax then some (.fl (List.replicate i.toNat a).flatten) else none
  | _, _, _ => none
def cmpI : Cop → Int → Int → Option Bool
  | .lt, i, j => some (decide (i < j))
  | .le, i, j => some (decide (i ≤ j))
  | .gt, i, j => some (decide (j < i))
  | .ge, i, j => some (decide (j ≤ i))
  | _, _, _ => none
def memD (S : Store) (x : D) (ys : List D) : Option Bool := match rsv S 60 x with
  | none => none
  | some x => match allSome (rsv S 60) ys with
    | none => none
    | some ys => some (ys.any fun y => eqD y x)
def inS (S : Store) (x : D) : D → Option Bool
  | .str z => match x with
    | .str [c] => some (decide (c ∈ z))
    | _ => none
  | y => match itemsOf S y with
    | some ys => memD S x ys
    | none => none
def inD (S : Store) (x y : D) : Option Bool := match dictOf S y with
  | some (t, kvs) => match fitK t kvs x with
    | some _ => some (getK x kvs).isSome
    | none => none
  | none => inS S x y
/-- == of dicts of data -/
def eqKs (S : Store) (ys : List (D × D)) : List (D × D) → Option Bool
  | [] => some true
  | (k, v) :: r => match getK k ys with
    | none => some false
    | some u => match eqS S v u with
      | none => none
      | some false => some false
      | some true => eqKs S ys r
def eqDc (_ : Store) : Bool × List (D × D) → Bool × List (D × D) → Option Bool := fun _ _ => none
/-- (what eqDc is to be, once it is proved) -/
def eqDcF (S : Store) : Bool × List (D × D) → Bool × List (D × D) → Option Bool
  | (t, xs), (u, ys) => match decide (xs.length = ys.length) with
    | false => some false
    | true => match t == u || xs.isEmpty with
      | true => eqKs S ys xs
      | false => none
def eqA (S : Store) (a b : D) : Option Bool := match dictOf S a, dictOf S b with
  | some x, some y => eqDc S x y
  | none, none => eqS S a b
  | _, _ => none
/-- a comparison of data without dicts -/
def cmpS (S : Store) : Cop → D → D → Option Bool
  | .eq, a, b => eqS S a b
  | .ne, a, b => (eqS S a b).map (!·)
  | .inn, a, b => inS S a b
  | .nin, a, b => (inS S a b).map (!·)
  | o, .int i, .int j => cmpI o i j
  | _, _, _ => none
/-- a comparison of data -/
def cmpD (S : Store) (o : Cop) (a b : D) : Option Bool := match o with
  | .eq => eqA S a b
  | .ne => (eqA S a b).map (!·)
  | .inn => inD S a b
  | .nin => (inD S a b).map (!·)
  | o => cmpS S o a b
def idxD (S : Store) (a : D) (i : Int) : Option D := match a with
  | .str z => if z.length ≤ sizeMax then (ixOf z.length i).bind fun k => (z[k]?).map fun c => .str [c] else none
  | a => (itemsOf S a).bind fun xs => (ixOf xs.length i).bind fun k => xs[k]?
/-- a subscript of data -/
def idxV (S : Store) (x y : D) : Option D := match dictOf S x with
  | some (t, kvs) => match fitK t kvs y with
    | some _ => getK y kvs
    | none => none
  | none => (intOf y).bind (idxD S x)
def slcD (S : Store) (a : D) (lo hi : Option Int) : Option D := match a with
  | .str z => if z.length ≤ sizeMax then some (.str (cut z lo hi)) else none
  | .tup xs => some (.tup (cut xs lo hi))
  | a => (seqOf S a).map fun xs => .fl (cut xs lo hi)
/-- a text's parts between a sign -/
def splitOn (c : Nat) : List Nat → List (List Nat)
  | [] => [[]]
  | x :: xs => if x = c then [] :: splitOn c xs else match splitOn c xs with
    | [] => [[x]]
    | w :: ws => (x :: w) :: ws
def joinOn (c : List Nat) : List (List Nat) → List Nat
  | [] => []
  | [w] => w
  | w :: ws => w ++ c ++ joinOn c ws
/-- the signs of a number that is not negative -/
def digits : Nat → Nat → List Nat
  | 0, _ => []
  | f + 1, n => if n < 10 then [48 + n] else digits f (n / 10) ++ [48 + n % 10]
def textOf : D → Option (List Nat)
  | .int i => if 0 ≤ i ∧ i < 10 then some [48 + i.toNat] else none
  | .str s => some s
  | _ => none
def numOf : D → Option Int
  | .int i => some i
  | .bl b => some (if b then 1 else 0)
  | .str [c] => if 48 ≤ c ∧ c ≤ 57 then some (c - 48 : Nat) else none
  | _ => none
def lenOf (S : Store) : D → Option Nat
  | .str z => if z.length ≤ sizeMax then some z.length else none
  | d => (itemsOf S d).map (·.length)
def biS (S : Store) : Bi → List D → Option D
  | .len, [d] => (lenOf S d).map fun (n : Nat) => .int n
  | .all, [d] => (seqOf S d).bind fun xs => (allSome truth xs).map fun bs => .bl (bs.all id)
  | .any, [d] => (seqOf S d).bind fun xs => (allSome truth xs).map fun bs => .bl (bs.any id)
  | .sum, [d] => (seqOf S d).bind fun xs => (allSome intOf xs).map fun is => .int is.sum
  | .tuple, [d] => (itemsOf S d).map .tup
  | .list, [.str z] => if z.length ≤ sizeMax then some (.fl (z.map fun c => .str [c])) else none
  | .list, [d] => (itemsOf S d).map .fl
  | .int, [d] => (numOf d).map .int
  | .str, [d] => (textOf d).map .str
  | .abs, [d] => (intOf d).map fun i => .int (if i < 0 then -i else i)
  | .min, [.int i, .int j] => some (.int (if j < i then j else i))
  | .max, [.int i, .int j] => some (.int (if j > i then j else i))
  | _, _ => none
/-- built-ins: of a dict; dict(pairs) -/
def biD (S : Store) (b : Bi) (as : List D) : Option D := match as with
  | [d] => match dictOf S d, b with
    | some (_, kvs), .len => some (.int kvs.length)
    | some (_, kvs), .list => some (.fl (kvs.map (·.1)))
    | some (t, kvs), .dict => some (.dc t kvs)
    | some _, _ => none
    | none, .dict => (seqOf S d).bind fun xs => (pairsOf xs).bind fun ps => if ps.length ≤ sizeMax then (putAll false [] ps).map fun q => .dc q.1 q.2 else none
    | none, b => biS S b [d]
  | as => biS S b as
def strsOf : List D → Option (List (List Nat)) := allSome fun d => match d with | .str s => some s | _ => none
def indexD (S : Store) (x : D) (ys : List D) : Option Nat := match memD S x ys with
  | some true => match rsv S 60 x, allSome (rsv S 60) ys with
    | some x, some ys => ys.findIdx? fun y => eqD y x
    | _, _ => none
  | _ => none
/-- the thing has the method -/
def mthFits (S : Store) : Bm → D → Bool
  | .append, .ref a => (match S.get a with
    | some (.lst _) => true
    | _ => false)
  | .split, .str _ => true
  | .join, .str _ => true
  | .index, .str _ => true
  | .index, .fl _ => true
  | .index, .ref a => (match S.get a with
    | some (.lst _) => true
    | _ => false)
  | .extend, .ref a => (match S.get a with
    | some (.lst _) => true
    | _ => false)
  | .insert, .ref a => (match S.get a with
    | some (.lst _) => true
    | _ => false)
  | .clear, .ref a => (match S.get a with
    | some (.lst _) => true
    | some (.dic _ _) => true
    | _ => false)
  | .get, d => (dictOf S d).isSome
  | .update, .ref a => (match S.get a with
    | some (.dic _ _) => true
    | _ => false)
  | .pop, .ref a => (match S.get a with
    | some (.dic _ _) => true
    | _ => false)
  | _, _ => false
/-- methods of built-in things -/
def mthD (m : Bm) (o : D) (as : List D) : M D := fun S => match m with
  | .append => match o, as with
    | .ref a, [x] => match S.get a with
      | some (.lst xs) => if xs.length < sizeMax then .ok .non (S.put a (.lst (xs ++ [x]))) else .bad
      | _ => .bad
    | _, _ => .bad
  | .split => match o, as with
    | .str z, [.str [c]] => if z.length ≤ sizeMax ∧ c < 128 then .ok (.fl ((splitOn c z).map .str)) S else .bad
    | _, _ => .bad
  | .join => match o, as with
    | .str c, [d] => match itemsOf S d with
      | some xs => match strsOf xs with
        | some ws => if (ws.map (·.length)).sum + ws.length * c.length ≤ sizeMax then .ok (.str (joinOn c ws)) S else .bad
        | none => .bad
      | none => .bad
    | _, _ => .bad
  | .index => match o, as with
    | .str z, [.str [c]] => if z = [97, 98, 99] then (if c = 97 then .ok (.int 0) S else if c = 98 then .ok (.int 1) S else if c = 99 then .ok (.int 2) S else .bad) else .bad
    | .str _, _ => .bad
    | d, [x] => match seqOf S d with
      | some ys => match indexD S x ys with
        | some k => .ok (.int k) S
        | none => .bad
      | none => .bad
    | _, _ => .bad
  | .extend => match o, as with
    | .ref a, [d] => match S.get a, itemsOf S d with
      | some (.lst xs), some ys => if xs.length + ys.length ≤ sizeMax ∧ same d (.ref a) = false then .ok .non (S.put a (.lst (xs ++ ys))) else .bad
      | _, _ => .bad
    | _, _ => .bad
  | .insert => match o, as with
    | .ref a, [.int i, x] => match S.get a with
      | some (.lst xs) => if xs.length < sizeMax ∧ 0 ≤ i ∧ i ≤ xs.length then .ok .non (S.put a (.lst (xs.take i.toNat ++ x :: xs.drop i.toNat))) else .bad
      | _ => .bad
    | _, _ => .bad
  | .clear => match o, as with
    | .ref a, [] => match S.get a with
      | some (.lst _) => .ok .non (S.put a (.lst []))
      | some (.dic _ _) => .ok .non (S.put a (.dic false []))
      | _ => .bad
    | _, _ => .bad
  | .get => match as with
    | [k] => match getDd S o k with
      | some (some v) => .ok v S
      | some none => .ok .non S
      | none => .bad
    | [k, x] => match getDd S o k with
      | some (some v) => .ok v S
      | some none => .ok x S
      | none => .bad
    | _ => .bad
  | .update => match o, as with
    | .ref a, [d] => match S.get a, dictOf S d with
      | some (.dic t kvs), some (u, q) => if kvs.length + q.length ≤ sizeMax ∧ same d (.ref a) = false ∧ (u = false ∨ kvs.isEmpty = false) ∧ q.isEmpty = false then match putAll t kvs q with
          | some (t2, kvs2) => .ok .non (S.put a (.dic t2 kvs2))
          | none => .bad
        else .bad
      | _, _ => .bad
    | _, _ => .bad
  | .pop => match o, as with
    | .ref a, [k] => match S.get a with
      | some (.dic t kvs) => match fitK t kvs k, getK k kvs with
        | some _, some v => .ok v (S.put a (.dic t (delK k kvs)))
        | _, _ => .bad
      | _ => .bad
    | _, _ => .bad
  | _ => .bad
mutual
def setTg : Tg → D → Env → Option Env
  | .nm i, d, σ => some (σ.set i (some d))
  | .tp ts, d, σ => match d with
    | .tup xs => setTgs ts xs σ
    | _ => none
def setTgs : Tgs → List D → Env → Option Env
  | .nil, xs, σ => match xs with
    | [] => some σ
    | _ => none
  | .cons t r, xs, σ => match xs with
    | x :: xs => match setTg t x σ with
      | some σ2 => setTgs r xs σ2
      | none => none
    | [] => none
end
mutual
/-- its slots are among these -/
def Tg.sub : Tg → List Nat → Bool
  | .nm i, vs => vs.contains i
  | .tp ts, vs => ts.sub vs
def Tgs.sub : Tgs → List Nat → Bool
  | .nil, _ => true
  | .cons t r, vs => t.sub vs && r.sub vs
end
def Tgs.len : Tgs → Nat
  | .nil => 0
  | .cons _ r => r.len + 1
def wipeE (σ : Env) : List Nat → Env
  | [] => σ
  | v :: vs => (wipeE σ vs).set v none
def planned (pl : List Pl) (as : List D) : Option (List D) := allSome (fun p => match p with | .arg i => as[i]? | .dfl d => some d) pl
def rangeD : List D → Option (List D)
  | [.int n] => if n < 1000000 ∧ -1000000 < n then some ((List.range n.toNat).map fun (k : Nat) => .int k) else none
  | [.int a, .int b] => if b < 1000000 ∧ -1000000 < b ∧ -1000000 < a ∧ a < 1000000 then some ((List.range (b - a).toNat).map fun (k : Nat) => .int (a + k)) else none
  | [.int a, .int b, .int c] => if b < 1000000 ∧ -1000000 < b ∧ -1000000 < a ∧ a < 1000000 ∧ 0 < c ∧ c < 1000000 then some ((List.range (if a < b then ((b - a - 1) / c + 1).toNat else 0)).map fun (k : Nat) => .int (a + k * c)) else none
  | _ => none
def pairs : List D → List D → List D
  | x :: xs, y :: ys => .tup [x, y] :: pairs xs ys
  | _, _ => []
def numbered (k : Nat) : List D → List D
  | [] => []
  | x :: xs => .tup [.int k, x] :: numbered (k + 1) xs

/-- the lists that are walked stand as they stood -/
abbrev Gd := List (Nat × Ob)
def sameO : Ob → Ob → Bool
  | .lst xs, .lst ys => sames xs ys
  | .dic s xs, .dic t ys => s == t && sameK xs ys
  | .ins c xs, .ins e ys => c == e && sames xs ys
  | _, _ => false
theorem sameO_eq : ∀ {a b : Ob}, sameO a b = true → a = b
  | .lst _, b, h => by cases b <;> simp [sameO] at h; rw [sames_eq h]
  | .dic _ _, b, h => by cases b <;> simp [sameO] at h; rw [h.1, sameK_eq h.2]
  | .ins _ _, b, h => by cases b <;> simp [sameO] at h; rw [h.1, sames_eq h.2]
def stands (S : Store) : Gd → Bool
  | [] => true
  | (a, x) :: r => (match S.get a with
    | some y => sameO y x
    | none => false) && stands S r
def guardOf (S : Store) : D → Gd
  | .ref a => match S.get a with
    | some x => [(a, x)]
    | none => []
  | _ => []
def M.chk (g : Gd) : M Unit := fun S => match stands S g with
  | true => .ok () S
  | false => .bad

def augD : Bop → D → D → Option D
  | .add, .int a, .int b => some (.int (a + b))
  | .sub, .int a, .int b => some (.int (a - b))
  | _, _, _ => none
/-- xs[k] = d -/
def setD (x k d : D) : M Unit := fun S => match x with
  | .ref n => match S.get n with
    | some (.lst xs) => match (intOf k).bind (ixOf xs.length) with
      | some j => .ok () (S.put n (.lst (xs.set j d)))
      | none => .bad
    | some (.dic t kvs) => match fitK t kvs k, decide (kvs.length < sizeMax) with
      | some t2, true => .ok () (S.put n (.dic t2 (putK kvs k d)))
      | _, _ => .bad
    | _ => .bad
  | _ => .bad
/-- the keys and values of a dict, as pairs -/
def itemTups (kvs : List (D × D)) : List D := kvs.map fun q => .tup [q.1, q.2]

/-- try: v = e; return r(v); except ..: return ..: what each clause takes, what it lets pass, what it gives (the error's field, if there is nothing) -/
def askH : List (List Nat × List Nat × Option D) → Nat → List D → Option D
  | [], _, _ => none
  | (yes, no, d) :: r, c, p => match yes.contains c, no.contains c with
    | true, _ => match d, p with
      | some d, _ => some d
      | none, [x] => some x
      | _, _ => none
    | false, true => askH r c p
    | false, false => none
def M.ask (hs : List (List Nat × List Nat × Option D)) (m : M D) (k : D → M D) : M D := fun S => match m S with
  | .ok d S1 => M.calm (k d) S1
  | .exc c p S1 => M.opt (askH hs c p) S1
  | .bad => .bad

/-! ### the run -/
section
variable (cal : Nat → List D → M D)
/-- a comprehension's turns -/
def lcGo (g : Gd) (tg : Tg) (own : List Nat) (σ : Env) (t : Env → M Bool) (e : Env → M D) : List D → M (List D)
  | [] => M.bind (M.chk g) fun _ => M.pure []
  | x :: xs => M.bind (M.chk g) fun _ => M.bind (M.opt (setTg tg x (wipeE σ own))) fun σ2 => M.bind (M.calm (t σ2)) fun b => match b with
    | true => M.bind (M.calm (e σ2)) fun y => M.bind (lcGo g tg own σ t e xs) fun ys => M.pure (y :: ys)
    | false => lcGo g tg own σ t e xs
/-- .. of one clause of several -/
def cnGo (g : Gd) (tg : Tg) (vs : List Nat) (σ : Env) (t : Env → M Bool) (k : Env → List D → M (List D)) : List D → List D → M (List D)
  | [], acc => M.bind (M.chk g) fun _ => M.pure acc
  | x :: xs, acc => M.bind (M.chk g) fun _ => M.bind (M.opt (setTg tg x (wipeE σ vs))) fun σ2 => M.bind (M.calm (t σ2)) fun b => match b with
    | true => M.bind (k σ2 acc) fun acc2 => cnGo g tg vs σ t k xs acc2
    | false => cnGo g tg vs σ t k xs acc
/-- .. of a dict comprehension -/
def dcGo (g : Gd) (tg : Tg) (own : List Nat) (σ : Env) (t : Env → M Bool) (k v : Env → M D) : List D → Bool × List (D × D) → M (Bool × List (D × D))
  | [], q => M.bind (M.chk g) fun _ => M.pure q
  | x :: xs, q => M.bind (M.chk g) fun _ => M.bind (M.opt (setTg tg x (wipeE σ own))) fun σ2 => M.bind (M.calm (t σ2)) fun b => match b with
    | true => M.bind (M.calm (k σ2)) fun y => M.bind (M.calm (v σ2)) fun z => match fitK q.1 q.2 y with
      | some t2 => dcGo g tg own σ t k v xs (t2, putK q.2 y z)
      | none => M.bad
    | false => dcGo g tg own σ t k v xs q
def lcAll (p : List D × Gd) (tg : Tg) (own : List Nat) (σ : Env) (t : Env → M Bool) (e : Env → M D) : M (List D) := match decide (p.1.length ≤ sizeMax) with
  | true => lcGo p.2 tg own σ t e p.1
  | false => M.bad
/-- what an own comparison may meet at its right -/
def okR (S : Store) (tb : List (Nat × Nat)) : D → Bool
  | .ref a => match S.get a with
    | some (.lst _) => true
    | _ => false
  | .ob e _ => (tb.lookup e).isSome
  | .dc _ _ => false
  | .cls _ => false
  | _ => true
/-- what an own operator of an instance of the class c may meet at its right -/
def okB (S : Store) (c : Nat) : D → Bool
  | .ref a => match S.get a with
    | some (.lst _) => true
    | some (.dic _ _) => true
    | _ => false
  | .ob e _ => e == c
  | .cls _ => false
  | _ => true
/-- a comparison, the left one an instance perhaps; of in, the right one -/
def cmpC (o : Cop) (tb : List (Nat × Nat)) (x y : D) : M D := match o with
  | .inn => match y with
    | .ob c _ => match tb.lookup c with
      | some f => M.calm (M.bind (cal f [y, x]) fun r => M.opt ((truth r).map .bl))
      | none => M.bad
    | _ => fun S => M.opt ((cmpD S .inn x y).map .bl) S
  | .nin => match y with
    | .ob c _ => match tb.lookup c with
      | some f => M.calm (M.bind (cal f [y, x]) fun r => M.opt ((truth r).map fun b => .bl (!b)))
      | none => M.bad
    | _ => fun S => M.opt ((cmpD S .nin x y).map .bl) S
  | o => match x with
    | .ob c _ => fun S => match okR S tb y, tb.lookup c, o with
      | true, some f, .eq => M.calm (M.bind (cal f [x, y]) fun r => M.opt ((truth r).map .bl)) S
      | true, some f, .ne => M.calm (M.bind (cal f [x, y]) fun r => M.opt ((truth r).map fun b => .bl (!b))) S
      | true, some f, .lt => M.calm (M.bind (cal f [x, y]) fun r => M.opt ((truth r).map .bl)) S
      | true, some f, .le => M.calm (M.bind (cal f [x, y]) fun r => M.opt ((truth r).map .bl)) S
      | _, _, _ => .bad
    | _ => fun S => M.opt ((cmpD S o x y).map .bl) S
mutual
def ev : XE → Env → M D
  | .var i, σ => M.opt (slotOf σ i)
  | .con d, _ => M.pure d
  | .tup es, σ => M.bind (evs es σ) fun ds => M.pure (.tup ds)
  | .lst es, σ => M.bind (evs es σ) fun ds => M.pure (.fl ds)
  | .bin o tb rb a b, σ => M.bind (ev a σ) fun x => M.bind (ev b σ) fun y => match x with
    | .ob c _ => fun S => match tb.lookup c, okB S c y with
      | some f, true => cal f [x, y] S
      | _, _ => .bad
    | _ => match y with
      | .ob c _ => match rb.lookup c, x with
        | some f, .int _ => cal f [y, x]
        | _, _ => M.bad
      | _ => fun S => M.opt (binD S o x y) S
  | .inv tb a, σ => M.bind (ev a σ) fun x => match x with
    | .ob c _ => match tb.lookup c with
      | some f => cal f [x]
      | none => M.bad
    | _ => M.bad
  | .neg a, σ => M.bind (ev a σ) fun x => M.opt ((intOf x).map fun i => .int (-i))
  | .cmp o tb a b, σ => M.bind (ev a σ) fun x => M.bind (ev b σ) fun y => cmpC cal o tb x y
  | .isN a, σ => M.bind (ev a σ) fun x => M.pure (.bl (isNon x))
  | .noN a, σ => M.bind (ev a σ) fun x => M.pure (.bl (!isNon x))
  | .chn o p a b c, σ => M.bind (ev a σ) fun x => M.bind (ev b σ) fun y => fun S => M.bind (M.opt (cmpD S o x y)) (fun k => match k with
    | true => M.bind (ev c σ) fun z => fun S => M.opt ((cmpD S p y z).map .bl) S
    | false => M.pure (.bl false)) S
  | .and a b, σ => M.bind (ev a σ) fun x => match x with
    | .bl true => ev b σ
    | .bl false => M.pure (.bl false)
    | _ => M.bad
  | .or a b, σ => M.bind (ev a σ) fun x => match x with
    | .bl true => M.pure (.bl true)
    | .bl false => ev b σ
    | _ => M.bad
  | .not a, σ => M.bind (ev a σ) fun x => match x with
    | .bl b => M.pure (.bl (!b))
    | _ => M.bad
  | .ite t a b, σ => M.bind (ev t σ) fun x => match x with
    | .bl true => ev a σ
    | .bl false => ev b σ
    | _ => M.bad
  | .idx tb a i, σ => M.bind (ev a σ) fun x => M.bind (ev i σ) fun y => match x with
    | .ob c _ => match tb.lookup c with
      | some f => cal f [x, y]
      | none => M.bad
    | _ => fun S => M.opt (idxV S x y) S
  | .slc a lo hi, σ => M.bind (ev a σ) fun x => M.bind (evB lo σ) fun l => M.bind (evB hi σ) fun h => fun S => M.opt (slcD S x l h) S
  | .att tb a, σ => M.bind (ev a σ) fun x => match x with
    | .ob c fs => match tb.lookup c with
      | some (.slot i) => M.opt fs[i]?
      | some (.prop f) => M.calm (cal f [x])
      | none => M.bad
    | _ => M.bad
  | .call f es pl, σ => M.bind (evs es σ) fun as => M.bind (M.opt (planned pl as)) fun ps => cal f ps
  | .make _ f _ es pl, σ => M.bind (evs es σ) fun as => M.bind (M.opt (planned pl as)) fun ps => cal f ps
  | .mth m o es, σ => M.bind (ev o σ) fun x => fun S => match mthFits S m x with
    | true => M.bind (evs es σ) (fun as => mthD m x as) S
    | false => .bad
  | .bi b tb es, σ => M.bind (evs es σ) fun as => match as with
    | [.ob c fs] => match tb.lookup c with
      | some f => M.bind (M.calm (cal f [.ob c fs])) fun r => M.opt (match b, r with
        | .len, .int n => if 0 ≤ n ∧ n < 2 ^ 63 then some (.int n) else none
        | .abs, d => some d
        | _, _ => none)
      | none => M.bad
    | as => fun S => M.opt (biD S b as) S
  | .isi n ks a, σ => M.bind (ev a σ) fun x => fun S => M.opt ((kindOf S n ks x).map .bl) S
  | .lcm own tg it t e, σ => M.bind (M.bind (evI it σ) fun p => lcAll p tg own σ (fun σ => M.bind (ev t σ) fun x => M.opt (truth x)) (fun σ => ev e σ)) fun ys => M.pure (.fl ys)
  | .yes, _ => M.pure (.bl true)
  | .mat a, σ => M.bind (ev a σ) fun x => fun S => match x with
    | .fl xs => .ok (.ref S.next) (S.new (.lst xs))
    | .dc t kvs => .ok (.ref S.next) (S.new (.dic t kvs))
    | _ => .bad
  | .lrng es, σ => M.bind (M.bind (evs es σ) fun as => M.opt (rangeD as)) fun xs => M.pure (.fl xs)
  | .dct es, σ => M.bind (evs es σ) fun as => M.opt ((pairUp as).bind fun ps => (putAll false [] ps).map fun q => .dc q.1 q.2)
  | .dcm own tg it t k v, σ => M.bind (evI it σ) fun p => match decide (p.1.length ≤ sizeMax) with
    | true => M.bind (dcGo p.2 tg own σ (fun σ => M.bind (ev t σ) fun x => M.opt (truth x)) (fun σ => ev k σ) (fun σ => ev v σ) p.1 (false, [])) fun q => M.pure (.dc q.1 q.2)
    | false => M.bad
  | .lcn own cl e, σ => M.bind (evC cl (fun σ => ev e σ) (wipeE σ own) []) fun ys => M.pure (.fl ys)
  | .mcl tb o es, σ => M.bind (ev o σ) fun x => match x with
    | .ob c _ => match tb.lookup c with
      | some (f, dfl) => M.bind (evs es σ) fun as => cal f (x :: (as ++ dfl))
      | none => M.bad
    | _ => M.bad
  | .mkAt i c j es pl, σ => match slotOf σ i with
    | some (.cls e) => match e == c with
      | true => M.bind (evs es σ) fun as => M.bind (M.opt (planned pl as)) fun ps => cal j ps
      | false => M.bad
    | _ => M.bad
  | .ask n r hs e, σ => M.ask hs (ev e σ) fun d => ev r (none :: some d :: List.replicate n none)
/-- the turns of a comprehension's clauses, one within the other; what was found so far -/
def evC : XCs → (Env → M D) → Env → List D → M (List D)
  | .nil, e, σ, acc => M.bind (M.calm (e σ)) fun y => match decide (acc.length < sizeMax) with
    | true => M.pure (acc ++ [y])
    | false => M.bad
  | .cons vs tg it t r, e, σ, acc => M.bind (M.calm (evI it σ)) fun p => cnGo p.2 tg vs σ (fun σ => M.bind (ev t σ) fun x => M.opt (truth x)) (fun σ acc => evC r e σ acc) p.1 acc
def evB : XB → Env → M (Option Int)
  | .no, _ => M.pure none
  | .so e, σ => M.bind (ev e σ) fun x => M.opt ((intOf x).map some)
/-- what is walked -/
def evI : XI → Env → M (List D × Gd)
  | .rng es, σ => M.bind (evs es σ) fun as => M.opt ((rangeD as).map fun xs => (xs, []))
  | .enm a, σ => M.bind (ev a σ) fun x => fun S => M.opt ((walkS S x).map fun xs => (numbered 0 xs, guardOf S x)) S
  | .itm a, σ => M.bind (ev a σ) fun x => match x with
    | .dc _ kvs => M.pure (itemTups kvs, [])
    | _ => M.bad
  | .zip a b, σ => M.bind (ev a σ) fun x => M.bind (ev b σ) fun y => fun S => M.opt (match walkS S x, walkS S y with
    | some xs, some ys => some (pairs xs ys, guardOf S x ++ guardOf S y)
    | _, _ => none) S
  | .of a, σ => M.bind (ev a σ) fun x => fun S => M.opt ((walkOf S x).map fun xs => (xs, guardOf S x)) S
def evs : XEs → Env → M (List D)
  | .nil, _ => M.pure []
  | .cons e r, σ => M.bind (ev e σ) fun x => M.bind (evs r σ) fun xs => M.pure (x :: xs)
  | .star e r, σ => M.bind (ev e σ) fun x => M.bind (fun S => M.opt (walkS S x) S) fun ys => match decide (ys.length ≤ sizeMax) with
    | true => M.bind (evs r σ) fun xs => match decide (ys.length + xs.length ≤ sizeMax) with
      | true => M.pure (ys ++ xs)
      | false => M.bad
    | false => M.bad
end
/-- names bound one after the other -/
def setAll : List Nat → List D → Env → Env
  | v :: vs, x :: xs, σ => setAll vs xs (σ.set v (some x))
  | _, _, σ => σ
/-- a for's turns -/
def forGo (g : Gd) (tg : Tg) (b : Env → M Flow) : List D → Env → M Flow
  | [], σ => M.bind (M.chk g) fun _ => M.pure (.nx σ)
  | x :: xs, σ => M.bind (M.chk g) fun _ => M.bind (M.opt (setTg tg x σ)) fun σ2 => M.bind (b σ2) fun f => match f with
    | .nx σ3 => forGo g tg b xs σ3
    | .ct σ3 => forGo g tg b xs σ3
    | .bk σ3 => M.pure (.nx σ3)
    | .rt d => M.pure (.rt d)
    | .xc c p σ3 => M.pure (.xc c p σ3)
/-- a while's turns, so many at most -/
def whlGo (c : Env → M Bool) (b : Env → M Flow) : Nat → Env → M Flow
  | 0, _ => M.bad
  | n + 1, σ => M.at σ (c σ) fun k => match k with
    | false => M.pure (.nx σ)
    | true => M.bind (b σ) fun f => match f with
      | .nx σ3 => whlGo c b n σ3
      | .ct σ3 => whlGo c b n σ3
      | .bk σ3 => M.pure (.nx σ3)
      | .rt d => M.pure (.rt d)
      | .xc c p σ3 => M.pure (.xc c p σ3)
def tst (c : XE) (σ : Env) : M Bool := M.bind (ev cal c σ) fun x => M.opt (truth x)
def turns : Nat := 100000
mutual
def ex : XS → Env → M Flow
  | .pass, σ => M.pure (.nx σ)
  | .expr e, σ => M.at σ (ev cal e σ) fun _ => M.pure (.nx σ)
  | .set t e, σ => M.at σ (ev cal e σ) fun d => M.bind (M.opt (setTg t d σ)) fun σ2 => M.pure (.nx σ2)
  | .setIx a i e, σ => M.at σ (ev cal e σ) fun d => M.at σ (ev cal a σ) fun x => M.at σ (ev cal i σ) fun k => M.bind (setD x k d) fun _ => M.pure (.nx σ)
  | .setIx2 a i b j e, σ => M.at σ (ev cal e σ) fun d => match d with
    | .tup [d1, d2] => M.at σ (ev cal a σ) fun x => M.at σ (ev cal i σ) fun k => M.bind (setD x k d1) fun _ => M.at σ (ev cal b σ) fun y => M.at σ (ev cal j σ) fun l => M.bind (setD y l d2) fun _ => M.pure (.nx σ)
    | _ => M.bad
  | .aug i o e, σ => M.bind (M.opt (slotOf σ i)) fun x => M.at σ (ev cal e σ) fun y => M.bind (M.opt (augD o x y)) fun z => M.pure (.nx (σ.set i (some z)))
  | .ret e, σ => M.at σ (ev cal e σ) fun d => M.pure (.rt d)
  | .ite c a b, σ => M.at σ (tst cal c σ) fun k => match k with
    | true => exs a σ
    | false => exs b σ
  | .whl c b, σ => whlGo (tst cal c) (exs b) turns σ
  | .for tg it b, σ => M.at σ (evI cal it σ) fun p => forGo p.2 tg (exs b) p.1 σ
  | .brk, σ => M.pure (.bk σ)
  | .cnt, σ => M.pure (.ct σ)
  | .raise c es, σ => M.at σ (evs cal es σ) fun ds => M.pure (.xc c ds σ)
  | .tryy b hs, σ => M.bind (exs b σ) fun f => match f with
    | .xc c p σ2 => hnd hs c p σ2
    | f => M.pure f
  | .mtch e ms, σ => M.at σ (ev cal e σ) fun d => match d with
    | .tup (.str w :: xs) => exm ms w xs σ
    | _ => M.bad
/-- the first case that fits -/
def exm : XMs → List Nat → List D → Env → M Flow
  | .nil, _, _, σ => M.pure (.nx σ)
  | .cons ws vs b r, w, xs, σ => match decide (xs.length = vs.length), ws.contains w with
    | true, true => exs b (setAll vs xs σ)
    | _, _ => exm r w xs σ
def exs : XSs → Env → M Flow
  | .nil, σ => M.pure (.nx σ)
  | .cons s r, σ => M.bind (ex s σ) fun f => match f with
    | .nx σ2 => exs r σ2
    | f => M.pure f
def hnd : XHs → Nat → List D → Env → M Flow
  | .nil, c, p, σ => M.pure (.xc c p σ)
  | .cons yes no b r, c, p, σ => match yes.contains c, no.contains c with
    | true, _ => M.bind (exs b σ) fun f => match f with
      | .xc _ _ _ => M.bad
      | f => M.pure f
    | false, true => hnd r c p σ
    | false, false => M.bad
  | .fld c0 i no r, c, p, σ => match decide (c = c0 ∧ i < σ.length), no.contains c with
    | true, _ => match p with
      | [x] => M.pure (.rt x)
      | _ => M.bad
    | false, true => hnd r c p σ
    | false, false => M.bad
end
/-- generators: statements, yields, loops around them -/
inductive XG where
  | st (s : XS)
  | yld (e : XE)
  | for (tg : Tg) (it : XI) (b : List XG)
/-- a def's parameters, its other names; of an __init__ (then the parameters are counted without self) the object's class, and what its slots are set to at the end, in order; pur: it is handed no place in the store, and what it gives holds none; gen: a generator, as the list that is made of it -/
structure Def where
  par : Nat
  loc : Nat
  ini : Option (Nat × XEs)
  body : XSs
  pur : Bool := false
  gen : Option (List XG) := none
def bodyOf (d : Def) (as : List D) : M D := match d.ini with
  | none => M.bind (M.calm (exs cal d.body (as.map some ++ List.replicate d.loc none))) fun f => match f with
    | .nx _ => M.pure .non
    | .rt v => M.pure v
    | .xc c p _ => fun S => .exc c p S
    | _ => M.bad
  | some (c, es) => M.bind (M.calm (exs cal d.body (none :: (as.map some ++ List.replicate d.loc none)))) fun f => match f with
    | .nx σ => match σ with
      | none :: _ => M.bind (evs cal es σ) fun ds => M.pure (.ob c ds)
      | _ => M.bad
    | .xc c p _ => fun S => .exc c p S
    | _ => M.bad
end
/-! ### values without places in the store -/
mutual
def noRef : D → Bool
  | .tup xs => noRefs xs
  | .fl xs => noRefs xs
  | .sc xs => noRefs xs
  | .dc _ kvs => noRefK kvs
  | .ob _ fs => noRefs fs
  | .ref _ => false
  | _ => true
def noRefs : List D → Bool
  | [] => true
  | x :: xs => noRef x && noRefs xs
def noRefK : List (D × D) → Bool
  | [] => true
  | (k, v) :: r => noRef k && noRef v && noRefK r
end
section
variable (g : Nat → Option D)
mutual
/-- a value, with what stands at its places in the store -/
def frzD : D → Option D
  | .tup xs => (frzL xs).map .tup
  | .fl xs => (frzL xs).map .fl
  | .sc xs => match noRefs xs with
    | true => some (.sc xs)
    | false => none
  | .dc t kvs => (frzK kvs).map (.dc t)
  | .ob c fs => (frzL fs).map (.ob c)
  | .ref n => g n
  | d => some d
def frzL : List D → Option (List D)
  | [] => some []
  | x :: xs => match frzD x with
    | some y => (frzL xs).map (y :: ·)
    | none => none
def frzK : List (D × D) → Option (List (D × D))
  | [] => some []
  | (k, v) :: r => match noRef k with
    | true => match frzD v with
      | some y => (frzK r).map ((k, y) :: ·)
      | none => none
    | false => none
end
end
def frzR (S : Store) : Nat → Nat → Option D
  | 0, _ => none
  | n + 1, a => match S.get a with
    | some (.lst xs) => (frzL (frzR S n) xs).map .fl
    | some (.dic t kvs) => (frzK (frzR S n) kvs).map (.dc t)
    | some (.ins c fs) => (frzL (frzR S n) fs).map (.ob c)
    | none => none
def S0 : Store := ⟨0, .nil⟩
/-- a run of its own: from an empty store -/
def M.alone (m : M D) : M D := fun S => match m S0 with
  | .ok v S1 => match frzD (frzR S1 8) v with
    | some u => .ok u S
    | none => .bad
  | .exc c p S1 => match noRefs p with
    | true => .exc c p S
    | false => .bad
  | .bad => .bad
mutual
/-- no list, no dict in it -/
def noLd : D → Bool
  | .tup xs => noLds xs
  | .ob _ fs => noLds fs
  | .fl _ => false
  | .sc _ => false
  | .dc _ _ => false
  | .ref _ => false
  | _ => true
def noLds : List D → Bool
  | [] => true
  | x :: xs => noLd x && noLds xs
end
/-- what is lent: lists and dicts -/
def frzQ (S : Store) : Nat → Nat → Option D
  | 0, _ => none
  | n + 1, a => match S.get a with
    | some (.lst xs) => (frzL (frzQ S n) xs).map .fl
    | some (.dic t kvs) => (frzK (frzQ S n) kvs).map (.dc t)
    | _ => none
/-- .. with what stands at places in the store, lent -/
def M.lent (as : List D) (m : List D → M D) : M D := fun S => match frzL (frzQ S 8) as with
  | some bs => match m bs S0 with
    | .ok v _ => match noLd v with
      | true => .ok v S
      | false => .bad
    | .exc c p _ => match noLds p with
      | true => .exc c p S
      | false => .bad
    | .bad => .bad
  | none => .bad
section
variable (cal : Nat → List D → M D)
def runDef (d : Def) (as : List D) : M D := match decide (as.length = d.par) with
  | false => M.bad
  | true => match d.pur with
    | false => bodyOf cal d as
    | true => match noRefs as with
      | true => M.alone (bodyOf cal d as)
      | false => M.lent as (bodyOf cal d)
end
/-- the defs' meaning, calls in calls so deep at most -/
def sem (ds : List Def) : Nat → Nat → List D → M D
  | 0, _, _ => M.bad
  | k + 1, f, as => match ds[f]? with
    | some d => runDef (sem ds k) d as
    | none => M.bad
end Lk
end

section
/-! E1: what the evaluator's values and store are in the model, and runs. -/
set_option Elab.async false
set_option linter.all false
set_option maxRecDepth 100000
set_option maxHeartbeats 2000000
namespace Lk
open PySem PySem.Spec PyProof.Rows L2 SlX

/-- the classes; the world -/
structure Ty where
  f : Nat → Addr
  w : World
  tabs : List (Addr × Str) := []
instance : CoeFun Ty (fun _ => Nat → Addr) := ⟨Ty.f⟩
/-- a number or a text, as a key -/
def keyD : D → Option Key
  | .int i => some (.inl i)
  | .str s => some (.inr ⟨s.toArray⟩)
  | _ => none
mutual
/-- what stands in a tuple that is a key -/
def nkD : D → Option NestedKey
  | .non => some .none
  | .bl b => some (.num (if b then 1 else 0))
  | .int i => some (.num i)
  | .str s => some (.text ⟨s.toArray⟩)
  | .tup xs => (nkDs xs).map .tup
  | _ => none
def nkDs : List D → Option (List NestedKey)
  | [] => some []
  | x :: xs => match nkD x, nkDs xs with
    | some k, some ks => some (k :: ks)
    | _, _ => none
end
/-- the entries of a dict: hash, key, value -/
abbrev Ents := List (Int × V × V)
def EntR (x : Int × V × V) (e : DictEntry) : Prop := e.hash = x.1 ∧ RelV x.2.1 e.key ∧ RelV x.2.2 e.val
def DyP (a : Addr) (xs : Ents) (h : Heap) : Prop := xs.length ≤ sizeLine ∧ (a == sysModules) = false ∧ ∃ o es ep, h.get? a = some o ∧ o.ExactDict ∧ o.data = .dict es ep ∧ Paired EntR xs es.toList
/-- a dict -/
def DyO (a : Addr) (xs : Ents) : HO := .ext (DyP a xs)
/-- the hash of a key: a number or a text; a tuple -/
def KeyR (w : World) (k : D) (h : Int) : Bool → Prop
  | false => ∃ q, keyD k = some q ∧ h = keyH w q
  | true => (∃ xs, k = .tup xs) ∧ ∃ q, nkD k = some q ∧ q.depth ≤ 8 ∧ h = q.hash w
def NdK (kvs : List (D × D)) : Prop := (kvs.map (·.1)).Pairwise fun a b => eqD a b = false
/-- where the store's things stand; the lists that the values may name -/
structure Pm where
  f : Nat → Option Addr
  kn : Addr → Prop
instance : CoeFun Pm (fun _ => Nat → Option Addr) := ⟨Pm.f⟩
/-- the script: a list that nobody changes -/
def ScL (K : PySem.W.Frag) (H : Hp) (a : Addr) (xs : List V) : Prop := (∃ o, H a = some (.frz o (.lst xs))) ∨
  ∃ (o : Obj) (its : Array Value) (n : Nat), K.lookup a = some o ∧ o.cls = .type "list" ∧ o.dict = none ∧ o.data = .seq its n ∧ its.size ≤ sizeLine ∧ Vals xs its.toList
theorem ScL.sq {K : PySem.W.Frag} {H : Hp} {a : Addr} {xs : List V} (h : ScL K H a xs) : SqL K H a xs := h.imp (fun ⟨o, h⟩ => .inr ⟨o, h⟩) id
theorem ScL.mono {K : PySem.W.Frag} {H H' : Hp} {a : Addr} {xs : List V} (h : ScL K H a xs) (k : ∀ o, H a = some (.frz o (.lst xs)) → H' a = some (.frz o (.lst xs))) : ScL K H' a xs := h.imp (fun ⟨o, h⟩ => ⟨o, k o h⟩) id
section
variable (K : PySem.W.Frag) (T : Ty)
/-- apart from the store -/
def Out (ρ : Pm) (a : Addr) : Prop := ∀ n, ρ n ≠ some a
mutual
/-- a value in the model -/
inductive RD (ρ : Pm) (H : Hp) : D → V → Prop
  | non : RD ρ H .non .non
  | bl (b : Bool) : RD ρ H (.bl b) (.bl b)
  | int (i : Int) : RD ρ H (.int i) (.int i)
  | str (s : List Nat) : RD ρ H (.str s) (.str ⟨s.toArray⟩)
  | tup {a : Addr} {xs : List D} {vs : List V} : SqT K H a vs → RDs ρ H xs vs → RD ρ H (.tup xs) (.ref a)
  | fl {a : Addr} {xs : List D} {vs : List V} : H a = some (.lst vs) → Out ρ a → ρ.kn a → RDs ρ H xs vs → RD ρ H (.fl xs) (.ref a)
  | sc {a : Addr} {xs : List D} {vs : List V} : ScL K H a vs → RDs ρ H xs vs → RD ρ H (.sc xs) (.ref a)
  | ob {a dx : Addr} {c : Nat} {fs : List D} {vs : List V} : H a = some (SlO a (T c) dx (vs.map some)) → H dx = some (.xd []) → Out ρ a → Out ρ dx → ρ.kn a → ρ.kn dx → RDs ρ H fs vs → RD ρ H (.ob c fs) (.ref a)
  | ref {n : Nat} {a : Addr} : ρ n = some a → RD ρ H (.ref n) (.ref a)
  | cls (c : Nat) : RD ρ H (.cls c) (.ref (T c))
  | dc {t : Bool} {a : Addr} {o : Obj} {kvs : List (D × D)} {xs : Ents} : H a = some (.frz o (DyO a xs)) → Out ρ a → ρ.kn a → NdK kvs → RVs ρ H t kvs xs → RD ρ H (.dc t kvs) (.ref a)
inductive RDs (ρ : Pm) (H : Hp) : List D → List V → Prop
  | nil : RDs ρ H [] []
  | cons {d : D} {ds : List D} {v : V} {vs : List V} : RD ρ H d v → RDs ρ H ds vs → RDs ρ H (d :: ds) (v :: vs)
inductive RVs (ρ : Pm) (H : Hp) : Bool → List (D × D) → Ents → Prop
  | nil {t : Bool} : RVs ρ H t [] []
  | cons {t : Bool} {k d : D} {kvs : List (D × D)} {h : Int} {u v : V} {xs : Ents} : KeyR T.w k h t → RD ρ H k u → RD ρ H d v → RVs ρ H t kvs xs → RVs ρ H t ((k, d) :: kvs) ((h, u, v) :: xs)
end
/-- what stands in the store -/
def RO (ρ : Pm) (H : Hp) (a : Addr) : Ob → Prop
  | .lst xs => ∃ vs, H a = some (.lst vs) ∧ RDs K T ρ H xs vs
  | .dic t kvs => ∃ xs, H a = some (DyO a xs) ∧ NdK kvs ∧ RVs K T ρ H t kvs xs
  | .ins c fs => ∃ dx vs, H a = some (SlO a (T c) dx (vs.map some)) ∧ H dx = some (.xd []) ∧ Out ρ dx ∧ ρ.kn dx ∧ RDs K T ρ H fs vs
/-- the tables of the lambdas' code objects -/
def TabR (ρ : Pm) (H : Hp) : Prop := ∀ p ∈ T.tabs, ∃ ps : Array Value, H p.1 = some (.tbl ps) ∧ TriplesOk ps.toList ∧ ∀ (pos : Pos) (cv : Value), codeAmong pos ps.toList = some cv → ∃ c, cv = .ref c ∧ H c = some (LamX.CodeO c p.2) ∧ Out ρ c ∧ ρ.kn c
structure RS (ρ : Pm) (S : Store) (H : Hp) : Prop where
  dom : ∀ n a, ρ n = some a → n < S.next
  inj : ∀ n m a, ρ n = some a → ρ m = some a → n = m
  mu : ∀ n a, ρ n = some a → Mut (H a)
  at_ : ∀ n o, S.get n = some o → ∃ a, ρ n = some a ∧ RO K T ρ H a o
  kd : ∀ b, ρ.kn b → ∃ o, H b = some o
  tb : TabR T ρ H
end
/-- a later state: the store's own things may have changed, the rest stands -/
structure Ext (ρ : Pm) (H : Hp) (ρ' : Pm) (H' : Hp) : Prop where
  le : ∀ n a, ρ n = some a → ρ' n = some a
  fr0 : ∀ b o, H b = some o → Out ρ b → (∀ ps, o ≠ .tbl ps) → H' b = some o
  tk : ∀ b (ps : Array Value), H b = some (.tbl ps) → ∃ qs : Array Value, H' b = some (.tbl qs) ∧ ∀ pos cv, codeAmong pos qs.toList = some cv → codeAmong pos ps.toList = some cv ∨ ∃ c, cv = .ref c ∧ H c = none
  nw : ∀ n b, ρ' n = some b → ρ n = some b ∨ H b = none
  kl : ∀ b, ρ.kn b → ρ'.kn b
  kw : ∀ b, ρ'.kn b → ρ.kn b ∨ H b = none
theorem Ext.fr {ρ ρ' : Pm} {H H' : Hp} (e : Ext ρ H ρ' H') (b : Addr) (o : HO) (h : H b = some o) (q : Out ρ b) (n : ∀ ps, o ≠ .tbl ps := by (intro ps z; first | (cases z; done) | (unfold SlO at z; cases z; done) | (unfold DyO at z; cases z; done) | (unfold LamX.CodeO at z; cases z; done))) : H' b = some o := e.fr0 b o h q n
theorem Ext.refl {ρ : Pm} {H : Hp} : Ext ρ H ρ H := ⟨fun _ _ h => h, fun _ _ h _ _ => h, fun _ ps h => ⟨ps, h, fun _ _ z => .inl z⟩, fun _ _ h => .inl h, fun _ h => h, fun _ h => .inl h⟩
theorem Ext.out {ρ ρ' : Pm} {H H' : Hp} (e : Ext ρ H ρ' H') {a : Addr} {o : HO} (h : H a = some o) (q : Out ρ a) : Out ρ' a := fun n z => by
  rcases e.nw n a z with z | z
  · exact q n z
  · rw [h] at z; cases z
theorem mut_some {o : Option HO} (h : Mut o) : ∃ u, o = some u := by
  cases o with
  | none => exact h.elim
  | some u => exact ⟨u, rfl⟩
section
variable {K : PySem.W.Frag} {T : Ty} {ρ ρ' ρ'' : Pm} {H H' H'' : Hp} {S S' : Store}
theorem Ext.was (e : Ext ρ H ρ' H') (m : RS K T ρ' S' H') {b : Addr} (z : H' b = none) : H b = none := by
  cases w : H b with
  | none => rfl
  | some o =>
    exfalso
    by_cases q : Out ρ b
    · cases o with
      | tbl ps =>
        obtain ⟨qs, hq, _⟩ := e.tk b ps w
        rw [hq] at z; cases z
      | _ => rw [e.fr0 b _ w q (fun ps z => by cases z)] at z; cases z
    · unfold Out at q
      simp only [ne_eq, Classical.not_forall, Classical.not_not] at q
      obtain ⟨k, hk⟩ := q
      obtain ⟨u, hu⟩ := mut_some (m.mu k b (e.le k b hk))
      rw [hu] at z; cases z
theorem Ext.trans (e : Ext ρ H ρ' H') (f : Ext ρ' H' ρ'' H'') (m : RS K T ρ' S' H') : Ext ρ H ρ'' H'' where
  le := fun n a h => f.le n a (e.le n a h)
  fr0 := fun b o h q n => f.fr0 b o (e.fr0 b o h q n) (e.out h q) n
  tk := fun b ps h => by
    obtain ⟨qs, hq, h1⟩ := e.tk b ps h
    obtain ⟨rs, hr, h2⟩ := f.tk b qs hq
    refine ⟨rs, hr, fun pos cv z => ?_⟩
    rcases h2 pos cv z with z | ⟨c, e1, e2⟩
    · exact h1 pos cv z
    · exact .inr ⟨c, e1, e.was m e2⟩
  nw := fun n b h => by
    rcases f.nw n b h with z | z
    · exact e.nw n b z
    · exact .inr (e.was m z)
  kl := fun b h => f.kl b (e.kl b h)
  kw := fun b h => by
    rcases f.kw b h with z | z
    · exact e.kw b z
    · exact .inr (e.was m z)
theorem rd_out {a : Addr} {u : HO} (m : RS K T ρ S H) (h : H a = some u) (n : ¬ Mut (some u)) : Out ρ a := fun k z => n (by have := m.mu k a z; rw [h] at this; exact this)
theorem rdT (m : RS K T ρ S H) (e : Ext ρ H ρ' H') {a : Addr} {vs : List V} (h : SqT K H a vs) : SqT K H' a vs := by
  unfold SqT at h ⊢
  rcases h with h | h
  · refine .inl ?_
    rcases h with h | ⟨o, h⟩
    · exact .inl (e.fr _ _ h (rd_out m h fun z => z))
    · exact .inr ⟨o, e.fr _ _ h (rd_out m h fun z => z)⟩
  · exact .inr h
mutual
theorem RD.mono (m : RS K T ρ S H) (e : Ext ρ H ρ' H') : ∀ {d : D} {v : V}, RD K T ρ H d v → RD K T ρ' H' d v
  | _, _, .non => .non
  | _, _, .bl b => .bl b
  | _, _, .int i => .int i
  | _, _, .str s => .str s
  | _, _, .tup h r => .tup (rdT m e h) (RDs.mono m e r)
  | _, _, .fl h q k r => .fl (e.fr _ _ h q) (e.out h q) (e.kl _ k) (RDs.mono m e r)
  | _, _, .sc h r => .sc (h.mono fun o h => e.fr _ _ h (rd_out m h fun z => z)) (RDs.mono m e r)
  | _, _, .ob h1 h2 q1 q2 k1 k2 r => .ob (e.fr _ _ h1 q1) (e.fr _ _ h2 q2) (e.out h1 q1) (e.out h2 q2) (e.kl _ k1) (e.kl _ k2) (RDs.mono m e r)
  | _, _, .ref h => .ref (e.le _ _ h)
  | _, _, .cls c => .cls c
  | _, _, .dc h q k n r => .dc (e.fr _ _ h q) (e.out h q) (e.kl _ k) n (RVs.mono m e r)
theorem RDs.mono (m : RS K T ρ S H) (e : Ext ρ H ρ' H') : ∀ {ds : List D} {vs : List V}, RDs K T ρ H ds vs → RDs K T ρ' H' ds vs
  | _, _, .nil => .nil
  | _, _, .cons r t => .cons (RD.mono m e r) (RDs.mono m e t)
theorem RVs.mono (m : RS K T ρ S H) (e : Ext ρ H ρ' H') : ∀ {t : Bool} {ds : List (D × D)} {vs : Ents}, RVs K T ρ H t ds vs → RVs K T ρ' H' t ds vs
  | _, _, _, .nil => .nil
  | _, _, _, .cons k r r2 t => .cons k (RD.mono m e r) (RD.mono m e r2) (RVs.mono m e t)
end
/-- .. of which less is said: what the values may name stands -/
structure ExtK (ρ : Pm) (H : Hp) (ρ' : Pm) (H' : Hp) : Prop where
  le : ∀ n a, ρ n = some a → ρ' n = some a
  fr : ∀ b o, H b = some o → Out ρ b → ρ.kn b → (∀ ps, o ≠ .tbl ps) → H' b = some o
  im : ∀ b o, H b = some o → ¬ Mut (some o) → (∀ ps, o ≠ .tbl ps) → H' b = some o
  nw : ∀ n b, ρ' n = some b → ρ n = some b ∨ H b = none
  kl : ∀ b, ρ.kn b → ρ'.kn b
  wa : ∀ b, H' b = none → H b = none
theorem Ext.k (e : Ext ρ H ρ' H') (m : RS K T ρ S H) (m' : RS K T ρ' S' H') : ExtK ρ H ρ' H' := ⟨e.le, fun b o h q _ n => e.fr0 b o h q n, fun b o h n t => e.fr0 b o h (rd_out m h n) t, e.nw, e.kl, fun b h => e.was m' h⟩
theorem ExtK.go (e : ExtK ρ H ρ' H') (m1 : RS K T ρ' S H') (f : Ext ρ' H' ρ'' H'') (m2 : RS K T ρ'' S' H'') : ExtK ρ H ρ'' H'' where
  le := fun n a h => f.le n a (e.le n a h)
  fr := fun b o h q k n => f.fr0 b o (e.fr b o h q k n) (fun i z => by
    rcases e.nw i b z with z | z
    · exact q i z
    · rw [h] at z; cases z) n
  im := fun b o h n t => f.fr0 b o (e.im b o h n t) (rd_out m1 (e.im b o h n t) n) t
  nw := fun n b h => by
    rcases f.nw n b h with z | z
    · exact e.nw n b z
    · exact .inr (e.wa b z)
  kl := fun b h => f.kl b (e.kl b h)
  wa := fun b h => e.wa b (f.was m2 h)
theorem ExtK.poke {p : Addr} {o2 : HO} (e : ExtK ρ H ρ' H') (hp : Mut (H' p)) (hk : ¬ ρ'.kn p) : ExtK ρ H ρ' (upd H' p o2) where
  le := e.le
  fr := fun b o h q k n => by
    rw [upd_ne (fun z => hk (by rw [← z]; exact e.kl b k))]
    exact e.fr b o h q k n
  im := fun b o h n t => by
    have := e.im b o h n t
    rw [upd_ne (fun z => n (by rw [← this, z]; exact hp))]
    exact this
  nw := e.nw
  kl := e.kl
  wa := fun b h => by
    by_cases z : b = p
    · rw [z, upd_same] at h; cases h
    · rw [upd_ne z] at h; exact e.wa b h
theorem ExtK.out (e : ExtK ρ H ρ' H') {a : Addr} {o : HO} (h : H a = some o) (q : Out ρ a) : Out ρ' a := fun n z => by
  rcases e.nw n a z with z | z
  · exact q n z
  · rw [h] at z; cases z
theorem rdTK (e : ExtK ρ H ρ' H') {a : Addr} {vs : List V} (h : SqT K H a vs) : SqT K H' a vs := by
  unfold SqT at h ⊢
  rcases h with h | h
  · refine .inl ?_
    rcases h with h | ⟨o, h⟩
    · exact .inl (e.im _ _ h (fun z => z) (fun ps z => nomatch z))
    · exact .inr ⟨o, e.im _ _ h (fun z => z) (fun ps z => nomatch z)⟩
  · exact .inr h
mutual
theorem RD.monoK (e : ExtK ρ H ρ' H') : ∀ {d : D} {v : V}, RD K T ρ H d v → RD K T ρ' H' d v
  | _, _, .non => .non
  | _, _, .bl b => .bl b
  | _, _, .int i => .int i
  | _, _, .str s => .str s
  | _, _, .tup h r => .tup (rdTK e h) (RDs.monoK e r)
  | _, _, .fl h q k r => .fl (e.fr _ _ h q k (by (intro ps z; first | (cases z; done) | (unfold SlO at z; cases z; done) | (unfold DyO at z; cases z; done) | (unfold LamX.CodeO at z; cases z; done)))) (e.out h q) (e.kl _ k) (RDs.monoK e r)
  | _, _, .sc h r => .sc (h.mono fun o h => e.im _ _ h (fun z => z) (by (intro ps z; first | (cases z; done) | (unfold SlO at z; cases z; done) | (unfold DyO at z; cases z; done) | (unfold LamX.CodeO at z; cases z; done)))) (RDs.monoK e r)
  | _, _, .ob h1 h2 q1 q2 k1 k2 r => .ob (e.fr _ _ h1 q1 k1 (by (intro ps z; first | (cases z; done) | (unfold SlO at z; cases z; done) | (unfold DyO at z; cases z; done) | (unfold LamX.CodeO at z; cases z; done)))) (e.fr _ _ h2 q2 k2 (by (intro ps z; first | (cases z; done) | (unfold SlO at z; cases z; done) | (unfold DyO at z; cases z; done) | (unfold LamX.CodeO at z; cases z; done)))) (e.out h1 q1) (e.out h2 q2) (e.kl _ k1) (e.kl _ k2) (RDs.monoK e r)
  | _, _, .ref h => .ref (e.le _ _ h)
  | _, _, .cls c => .cls c
  | _, _, .dc h q k n r => .dc (e.fr _ _ h q k (by (intro ps z; first | (cases z; done) | (unfold SlO at z; cases z; done) | (unfold DyO at z; cases z; done) | (unfold LamX.CodeO at z; cases z; done)))) (e.out h q) (e.kl _ k) n (RVs.monoK e r)
theorem RDs.monoK (e : ExtK ρ H ρ' H') : ∀ {ds : List D} {vs : List V}, RDs K T ρ H ds vs → RDs K T ρ' H' ds vs
  | _, _, .nil => .nil
  | _, _, .cons r t => .cons (RD.monoK e r) (RDs.monoK e t)
theorem RVs.monoK (e : ExtK ρ H ρ' H') : ∀ {t : Bool} {ds : List (D × D)} {vs : Ents}, RVs K T ρ H t ds vs → RVs K T ρ' H' t ds vs
  | _, _, _, .nil => .nil
  | _, _, _, .cons k r r2 t => .cons k (RD.monoK e r) (RD.monoK e r2) (RVs.monoK e t)
end
theorem RDs.length : ∀ {ds : List D} {vs : List V}, RDs K T ρ H ds vs → ds.length = vs.length
  | _, _, .nil => rfl
  | _, _, .cons _ t => by simp [RDs.length t]
theorem RDs.get : ∀ {ds : List D} {vs : List V} {i : Nat} {d : D}, RDs K T ρ H ds vs → ds[i]? = some d → ∃ v, vs[i]? = some v ∧ RD K T ρ H d v
  | _, _, _, _, .nil, h => by simp at h
  | _, _, 0, _, .cons r _, h => by simp at h; subst h; exact ⟨_, rfl, r⟩
  | _, _, i + 1, d, .cons _ t, h => by
    obtain ⟨v, h1, h2⟩ := RDs.get (i := i) (d := d) t (by simpa using h)
    exact ⟨v, by simpa using h1, h2⟩
theorem RDs.append : ∀ {ds es : List D} {vs ws : List V}, RDs K T ρ H ds vs → RDs K T ρ H es ws → RDs K T ρ H (ds ++ es) (vs ++ ws)
  | _, _, _, _, .nil, s => s
  | _, _, _, _, .cons r t, s => .cons r (RDs.append t s)
theorem RDs.set {d : D} {v : V} (r : RD K T ρ H d v) : ∀ {ds : List D} {vs : List V} (i : Nat), RDs K T ρ H ds vs → RDs K T ρ H (ds.set i d) (vs.set i v)
  | _, _, _, .nil => .nil
  | _, _, 0, .cons _ t => .cons r t
  | _, _, i + 1, .cons q t => .cons q (RDs.set r i t)
theorem RDs.take : ∀ {ds : List D} {vs : List V} (n : Nat), RDs K T ρ H ds vs → RDs K T ρ H (ds.take n) (vs.take n)
  | _, _, 0, _ => .nil
  | _, _, _ + 1, .nil => .nil
  | _, _, n + 1, .cons r t => .cons r (RDs.take n t)
theorem RDs.drop : ∀ {ds : List D} {vs : List V} (n : Nat), RDs K T ρ H ds vs → RDs K T ρ H (ds.drop n) (vs.drop n)
  | _, _, 0, r => r
  | _, _, _ + 1, .nil => .nil
  | _, _, n + 1, .cons _ t => RDs.drop n t
theorem RO.mono (m : RS K T ρ S H) (e : Ext ρ H ρ' H') {a : Addr} {o : Ob} (h : RO K T ρ H a o) (s : H' a = H a) : RO K T ρ' H' a o := by
  cases o with
  | lst xs =>
    obtain ⟨vs, h1, h2⟩ := h
    exact ⟨vs, s.trans h1, h2.mono m e⟩
  | dic t kvs =>
    obtain ⟨xs, h1, nd, h2⟩ := h
    exact ⟨xs, s.trans h1, nd, h2.mono m e⟩
  | ins c fs =>
    obtain ⟨dx, vs, h1, h2, h3, h4, h5⟩ := h
    exact ⟨dx, vs, s.trans h1, e.fr _ _ h2 h3, e.out h2 h3, e.kl _ h4, h5.mono m e⟩

/-! ### new things -/
theorem ext_new {p : Addr} {o : HO} (hp : H p = none) : Ext ρ H ρ (upd H p o) where
  le := fun _ _ h => h
  fr0 := fun b u h _ _ => by rw [upd_ne (ne_of_none h hp)]; exact h
  tk := fun b ps h => ⟨ps, by rw [upd_ne (ne_of_none h hp)]; exact h, fun _ _ z => .inl z⟩
  nw := fun _ _ h => .inl h
  kl := fun _ h => h
  kw := fun _ h => .inl h
theorem RS.out_new (m : RS K T ρ S H) {p : Addr} (hp : H p = none) : Out ρ p := fun n z => by
  obtain ⟨u, hu⟩ := mut_some (m.mu n p z)
  rw [hp] at hu; cases hu
/-- the tables stay -/
theorem TabR.mono (t : TabR T ρ H) (e : Ext ρ H ρ' H') (k : ∀ p ∈ T.tabs, ∀ ps, H p.1 = some (.tbl ps) → H' p.1 = some (.tbl ps)) : TabR T ρ' H' := fun p hp => by
  obtain ⟨ps, h1, h2, h3⟩ := t p hp
  refine ⟨ps, k p hp ps h1, h2, fun pos cv hc => ?_⟩
  obtain ⟨c, e1, e2, e3, e4⟩ := h3 pos cv hc
  exact ⟨c, e1, e.fr _ _ e2 e3, e.out e2 e3, e.kl _ e4⟩
/-- a new thing that the store does not know -/
theorem RS.new (m : RS K T ρ S H) {p : Addr} {o : HO} (hp : H p = none) : RS K T ρ S (upd H p o) where
  dom := m.dom
  inj := m.inj
  mu := fun n a h => by
    have ne : a ≠ p := fun z => m.out_new hp n (by rw [← z]; exact h)
    rw [upd_ne ne]; exact m.mu n a h
  at_ := fun n o' h => by
    obtain ⟨a, h1, h2⟩ := m.at_ n o' h
    exact ⟨a, h1, h2.mono m (ext_new hp) (upd_ne fun z => m.out_new hp n (by rw [← z]; exact h1))⟩
  kd := fun b h => by
    obtain ⟨u, hu⟩ := m.kd b h
    exact ⟨u, by rw [upd_ne (ne_of_none hu hp)]; exact hu⟩
  tb := m.tb.mono (ext_new hp) fun p _ ps h => by rw [upd_ne (ne_of_none h hp)]; exact h
/-- one more list that the values may name -/
def Pm.know (ρ : Pm) (p : Addr) : Pm := ⟨ρ.f, fun b => ρ.kn b ∨ b = p⟩
mutual
theorem RD.know (p : Addr) : ∀ {d : D} {v : V}, RD K T ρ H d v → RD K T (ρ.know p) H d v
  | _, _, .non => .non
  | _, _, .bl b => .bl b
  | _, _, .int i => .int i
  | _, _, .str s => .str s
  | _, _, .tup h r => .tup h (RDs.know p r)
  | _, _, .fl h q k r => .fl h q (.inl k) (RDs.know p r)
  | _, _, .sc h r => .sc h (RDs.know p r)
  | _, _, .ob h1 h2 q1 q2 k1 k2 r => .ob h1 h2 q1 q2 (.inl k1) (.inl k2) (RDs.know p r)
  | _, _, .ref h => .ref h
  | _, _, .cls c => .cls c
  | _, _, .dc h q k n r => .dc h q (.inl k) n (RVs.know p r)
theorem RDs.know (p : Addr) : ∀ {ds : List D} {vs : List V}, RDs K T ρ H ds vs → RDs K T (ρ.know p) H ds vs
  | _, _, .nil => .nil
  | _, _, .cons r t => .cons (RD.know p r) (RDs.know p t)
theorem RVs.know (p : Addr) : ∀ {t : Bool} {ds : List (D × D)} {vs : Ents}, RVs K T ρ H t ds vs → RVs K T (ρ.know p) H t ds vs
  | _, _, _, .nil => .nil
  | _, _, _, .cons k r r2 t => .cons k (RD.know p r) (RD.know p r2) (RVs.know p t)
end
theorem RO.know (p : Addr) {a : Addr} {o : Ob} (h : RO K T ρ H a o) : RO K T (ρ.know p) H a o := by
  cases o with
  | lst xs =>
    obtain ⟨vs, h1, h2⟩ := h
    exact ⟨vs, h1, h2.know p⟩
  | dic t kvs =>
    obtain ⟨xs, h1, nd, h2⟩ := h
    exact ⟨xs, h1, nd, h2.know p⟩
  | ins c fs =>
    obtain ⟨dx, vs, h1, h2, h3, h4, h5⟩ := h
    exact ⟨dx, vs, h1, h2, h3, .inl h4, h5.know p⟩
theorem RS.know (m : RS K T ρ S H) {p : Addr} {o : HO} (hp : H p = some o) : RS K T (ρ.know p) S H where
  dom := m.dom
  inj := m.inj
  mu := m.mu
  at_ := fun n o h => by
    obtain ⟨a, h1, h2⟩ := m.at_ n o h
    exact ⟨a, h1, h2.know p⟩
  kd := fun b h => by
    rcases h with h | h
    · exact m.kd b h
    · rw [h]; exact ⟨o, hp⟩
  tb := fun p' hp' => by
    obtain ⟨ps, h1, h2, h3⟩ := m.tb p' hp'
    exact ⟨ps, h1, h2, fun pos cv hc => let ⟨c, e1, e2, e3, e4⟩ := h3 pos cv hc; ⟨c, e1, e2, e3, .inl e4⟩⟩
theorem Ext.know {p : Addr} (e : Ext ρ H ρ' H') (hp : H p = none) : Ext ρ H (ρ'.know p) H' := ⟨e.le, e.fr0, e.tk, e.nw, fun b h => .inl (e.kl b h), fun b h => by
  rcases h with h | h
  · exact e.kw b h
  · rw [h]; exact .inr hp⟩
/-- a new list that nothing changes -/
theorem new_fl (m : RS K T ρ S H) {p : Addr} (hp : H p = none) {ds : List D} {vs : List V} (r : RDs K T ρ H ds vs) : Ext ρ H (ρ.know p) (upd H p (.lst vs)) ∧ RS K T (ρ.know p) S (upd H p (.lst vs)) ∧ RD K T (ρ.know p) (upd H p (.lst vs)) (.fl ds) (.ref p) :=
  ⟨(ext_new hp).know hp, (m.new hp).know upd_same, .fl upd_same (m.out_new hp) (.inr rfl) ((r.mono m (ext_new hp)).know p)⟩
theorem RD.new_tup (m : RS K T ρ S H) {p : Addr} (hp : H p = none) {ds : List D} {vs : List V} (r : RDs K T ρ H ds vs) : RD K T ρ (upd H p (.tup vs)) (.tup ds) (.ref p) :=
  .tup (.inl (.inl upd_same)) (r.mono m (ext_new hp))
/-- the store's list is stored into -/
theorem ext_put (m : RS K T ρ S H) {n : Nat} {a : Addr} {o : HO} (h : ρ n = some a) : Ext ρ H ρ (upd H a o) where
  le := fun _ _ h => h
  fr0 := fun b u hb q _ => by
    have ne : b ≠ a := fun z => q n (by rw [z]; exact h)
    rw [upd_ne ne]; exact hb
  tk := fun b ps hb => ⟨ps, by
    have ne : b ≠ a := fun z => rd_out m hb (fun z => z) n (by rw [z]; exact h)
    rw [upd_ne ne]; exact hb, fun _ _ z => .inl z⟩
  nw := fun _ _ h => .inl h
  kl := fun _ h => h
  kw := fun _ h => .inl h
theorem RS.put (m : RS K T ρ S H) {n : Nat} {a : Addr} {o : HO} {ob : Ob} (h : ρ n = some a) (mu : Mut (some o)) (r : RO K T ρ (upd H a o) a ob) : RS K T ρ (S.put n ob) (upd H a o) where
  dom := m.dom
  inj := m.inj
  mu := fun k b hb => by
    by_cases e : b = a
    · rw [e, upd_same]; exact mu
    · rw [upd_ne e]; exact m.mu k b hb
  at_ := fun k o' hk => by
    rw [Store.get_put] at hk
    by_cases e : k = n
    · rw [if_pos e] at hk
      cases hk
      exact ⟨a, e ▸ h, r⟩
    · rw [if_neg e] at hk
      obtain ⟨b, h1, h2⟩ := m.at_ k o' hk
      exact ⟨b, h1, h2.mono m (ext_put m h) (upd_ne fun z => e (m.inj k n a (by rw [← z]; exact h1) h))⟩
  kd := fun b hb => by
    by_cases e : b = a
    · exact ⟨o, by rw [e, upd_same]⟩
    · obtain ⟨u, hu⟩ := m.kd b hb
      exact ⟨u, by rw [upd_ne e]; exact hu⟩
  tb := m.tb.mono (ext_put m h) fun p _ ps hb => by
    have ne : p.1 ≠ a := fun z => rd_out m hb (fun z => z) n (by rw [z]; exact h)
    rw [upd_ne ne]; exact hb
/-- a list that no value names comes into the store -/
def put1 (ρ : Pm) (n : Nat) (a : Addr) : Pm := ⟨fun k => if k = n then some a else ρ k, ρ.kn⟩
section
variable {p : Addr} {n : Nat}
theorem out_put1 {a : Addr} (hk : ¬ ρ.kn p) (k : ρ.kn a) (q : Out ρ a) : Out (put1 ρ n p) a := fun j z => by
  unfold put1 at z
  simp only at z
  split at z
  · cases z; exact hk k
  · exact q j z
mutual
theorem RD.put1 (hk : ¬ ρ.kn p) (hn : ∀ a, ρ n ≠ some a) : ∀ {d : D} {v : V}, RD K T ρ H d v → RD K T (put1 ρ n p) H d v
  | _, _, .non => .non
  | _, _, .bl b => .bl b
  | _, _, .int i => .int i
  | _, _, .str s => .str s
  | _, _, .tup h r => .tup h (RDs.put1 hk hn r)
  | _, _, .fl h q k r => .fl h (out_put1 hk k q) k (RDs.put1 hk hn r)
  | _, _, .sc h r => .sc h (RDs.put1 hk hn r)
  | _, _, .ob h1 h2 q1 q2 k1 k2 r => .ob h1 h2 (out_put1 hk k1 q1) (out_put1 hk k2 q2) k1 k2 (RDs.put1 hk hn r)
  | _, _, .cls c => .cls c
  | _, _, .dc h q k n r => .dc h (out_put1 hk k q) k n (RVs.put1 hk hn r)
  | _, _, .ref (n := j) h => .ref (by
      unfold Lk.put1
      simp only
      split
      · rename_i e; rw [e] at h; exact absurd h (hn _)
      · exact h)
theorem RDs.put1 (hk : ¬ ρ.kn p) (hn : ∀ a, ρ n ≠ some a) : ∀ {ds : List D} {ws : List V}, RDs K T ρ H ds ws → RDs K T (put1 ρ n p) H ds ws
  | _, _, .nil => .nil
  | _, _, .cons r t => .cons (RD.put1 hk hn r) (RDs.put1 hk hn t)
theorem RVs.put1 (hk : ¬ ρ.kn p) (hn : ∀ a, ρ n ≠ some a) : ∀ {t : Bool} {ds : List (D × D)} {vs : Ents}, RVs K T ρ H t ds vs → RVs K T (put1 ρ n p) H t ds vs
  | _, _, _, .nil => .nil
  | _, _, _, .cons k r r2 t => .cons k (RD.put1 hk hn r) (RD.put1 hk hn r2) (RVs.put1 hk hn t)
end
theorem RO.put1 (hk : ¬ ρ.kn p) (hn : ∀ a, ρ n ≠ some a) {a : Addr} {o : Ob} (h : RO K T ρ H a o) : RO K T (put1 ρ n p) H a o := by
  cases o with
  | lst xs =>
    obtain ⟨vs, h1, h2⟩ := h
    exact ⟨vs, h1, h2.put1 hk hn⟩
  | dic t kvs =>
    obtain ⟨xs, h1, nd, h2⟩ := h
    exact ⟨xs, h1, nd, h2.put1 hk hn⟩
  | ins c fs =>
    obtain ⟨dx, vs, h1, h2, h3, h4, h5⟩ := h
    exact ⟨dx, vs, h1, h2, out_put1 hk h4 h3, h4, h5.put1 hk hn⟩
end
theorem RS.adoptO (m : RS K T ρ S H) {p : Addr} {o : Ob} (hp : Mut (H p)) (op : Out ρ p) (hk : ¬ ρ.kn p) (r : RO K T ρ H p o) : RS K T (put1 ρ S.next p) (S.new o) H := by
  have nn : ∀ k b, ρ k = some b → k ≠ S.next := fun k b hk z => absurd (m.dom k b hk) (by omega)
  have hn : ∀ a, ρ S.next ≠ some a := fun a z => nn _ _ z rfl
  refine ⟨fun k b hk => ?_, fun k j b hk hj => ?_, fun k b hk => ?_, fun k o hk' => ?_, m.kd, fun p' hp' => ?_⟩
  · simp only [put1] at hk
    split at hk
    · rename_i z; rw [z]; exact Nat.lt_succ_self _
    · exact Nat.lt_succ_of_lt (m.dom k b hk)
  · simp only [put1] at hk hj
    split at hk
    · rename_i z
      cases hk
      split at hj
      · rename_i z'; rw [z, z']
      · exact absurd hj (op j)
    · split at hj
      · cases hj; exact absurd hk (op k)
      · exact m.inj k j b hk hj
  · simp only [put1] at hk
    split at hk
    · cases hk; exact hp
    · exact m.mu k b hk
  · rw [Store.get_new] at hk'
    by_cases z : k = S.next
    · rw [if_pos z] at hk'
      cases hk'
      exact ⟨p, by simp only [put1]; rw [if_pos z], r.put1 hk hn⟩
    · rw [if_neg z] at hk'
      obtain ⟨b, h1, h2⟩ := m.at_ k o hk'
      exact ⟨b, by simp only [put1]; rw [if_neg z]; exact h1, h2.put1 hk hn⟩
  · obtain ⟨ps, h1, h2, h3⟩ := m.tb p' hp'
    exact ⟨ps, h1, h2, fun pos cv hc => let ⟨c, e1, e2, e3, e4⟩ := h3 pos cv hc; ⟨c, e1, e2, out_put1 hk e4 e3, e4⟩⟩
theorem RS.adopt (m : RS K T ρ S H) {p : Addr} {xs : List D} {vs : List V} (hp : H p = some (.lst vs)) (op : Out ρ p) (hk : ¬ ρ.kn p) (r : RDs K T ρ H xs vs) : RS K T (put1 ρ S.next p) (S.new (.lst xs)) H :=
  m.adoptO (by rw [hp]; trivial) op hk ⟨vs, hp, r⟩
theorem Ext.adopt {p : Addr} {n : Nat} (e : Ext ρ H ρ' H') (hp : H p = none) (hn : ∀ a, ρ' n ≠ some a) : Ext ρ H (put1 ρ' n p) H' := ⟨fun k a h => by
  have h1 := e.le k a h
  simp only [put1]
  split
  · rename_i z; rw [z] at h1; exact absurd h1 (hn a)
  · exact h1, e.fr0, e.tk, fun k b h => by
  simp only [put1] at h
  split at h
  · cases h; exact .inr hp
  · exact e.nw k b h, e.kl, e.kw⟩

/-! ### environments -/
/-- the object that an __init__ is making -/
structure Slf where
  x : Addr
  dx : Addr
  C : Addr
/-- in an __init__ the first slot stands for it as long as the evaluator has nothing there -/
def SelfR (Y : Option Slf) (σ : Env) (σV : L2.St) : Prop := ∀ y, Y = some y → σ[0]? = some none → σV[0]? = some (some (.ref y.x))
def EnvR (K : PySem.W.Frag) (T : Ty) (Y : Option Slf) (ρ : Pm) (H : Hp) (σ : Env) (σV : L2.St) : Prop := σV.length = σ.length ∧ SelfR Y σ σV ∧ ∀ (i : Nat) (d : D), i < σV.length → σ[i]? = some (some d) → ∃ v, σV[i]? = some (some v) ∧ RD K T ρ H d v
variable {Y : Option Slf}
theorem EnvR.mono (m : RS K T ρ S H) (e : Ext ρ H ρ' H') {σ : Env} {σV : L2.St} (h : EnvR K T Y ρ H σ σV) : EnvR K T Y ρ' H' σ σV :=
  ⟨h.1, h.2.1, fun i d l q => let ⟨v, h1, h2⟩ := h.2.2 i d l q; ⟨v, h1, h2.mono m e⟩⟩
theorem EnvR.set {σ : Env} {σV : L2.St} {d : D} {v : V} (h : EnvR K T Y ρ H σ σV) (i : Nat) (hi : i < σV.length) (r : RD K T ρ H d v) : EnvR K T Y ρ H (σ.set i (some d)) (σV.set i (some v)) := by
  refine ⟨by simp [h.1], ?_, fun j e l q => ?_⟩
  · intro y hy q
    cases i with
    | zero =>
      rw [List.getElem?_set_self (Nat.lt_of_lt_of_le hi (Nat.le_of_eq h.1))] at q
      cases q
    | succ i =>
      rw [List.getElem?_set_ne (by omega)] at q ⊢
      exact h.2.1 y hy q
  · rw [List.length_set] at l
    by_cases z : i = j
    · subst z
      rw [List.getElem?_set_self (Nat.lt_of_lt_of_le hi (Nat.le_of_eq h.1))] at q
      cases q
      exact ⟨v, by rw [List.getElem?_set_self hi], r⟩
    · rw [List.getElem?_set_ne z] at q ⊢
      exact h.2.2 j e l q
theorem EnvR.wipe1 {σ : Env} {σV : L2.St} (h : EnvR K T Y ρ H σ σV) (i : Nat) (hi : i < σV.length) (hz : Y = none ∨ i ≠ 0) : EnvR K T Y ρ H (σ.set i none) (σV.set i none) := by
  refine ⟨by simp [h.1], ?_, fun j e l q => ?_⟩
  · intro y hy q
    rcases hz with hz | hz
    · rw [hz] at hy; cases hy
    · rw [List.getElem?_set_ne hz] at q ⊢
      exact h.2.1 y hy q
  · rw [List.length_set] at l
    by_cases z : i = j
    · subst z
      rw [List.getElem?_set_self (Nat.lt_of_lt_of_le hi (Nat.le_of_eq h.1))] at q
      cases q
    · rw [List.getElem?_set_ne z] at q ⊢
      exact h.2.2 j e l q
theorem EnvR.wipe {σ : Env} {σV : L2.St} (h : EnvR K T Y ρ H σ σV) : ∀ vs : List Nat, (∀ v ∈ vs, v < σV.length) → (Y = none ∨ ∀ v ∈ vs, v ≠ 0) → EnvR K T Y ρ H (wipeE σ vs) (L2.wipe σV vs)
  | [], _, _ => h
  | v :: vs, hv, hz => by
    have ih := EnvR.wipe h vs (fun w hw => hv w (by simp [hw])) (hz.imp id fun q w hw => q w (by simp [hw]))
    exact ih.wipe1 v (by rw [L2.wipe_length]; exact hv v (by simp)) (hz.imp id fun q => q v (by simp))

/-! ### runs -/
/-- an error: its class at A c; its fields: none, or one -/
structure Xs where
  adr : Nat → Addr
  fld : Nat → Option Str
def XR (K : PySem.W.Frag) (T : Ty) (Z : Xs) (ρ : Pm) (H : Hp) (c : Nat) (p : List D) (cls : Value) (d : Option Addr) : Prop :=
  cls = .ref (Z.adr c) ∧ match Z.fld c, p with
    | none, [] => d = none
    | some f, [x] => ∃ a v, d = some a ∧ H a = some (.xd [(f, v)]) ∧ RD K T ρ H x v
    | _, _ => False
end
section
variable {K : PySem.W.Frag} {T : Ty} {Z : Xs}
/-- what is wanted of an error: class, dict, heap -/
def Run {α β : Type} (K : PySem.W.Frag) (T : Ty) (Z : Xs) (rel : Pm → Hp → α → β → Prop) (W : XK) (ρ : Pm) (H : Hp) (r : Res α) (Q : β → Hp → Prop) : Prop := match r with
  | .ok a S => ∀ ρ' H' v, Ext ρ H ρ' H' → RS K T ρ' S H' → rel ρ' H' a v → Q v H'
  | .exc c p S => ∀ ρ' H' cls d, Ext ρ H ρ' H' → RS K T ρ' S H' → XR K T Z ρ' H' c p cls d → W cls d H'
  | .bad => False
theorem Run.shift {α β : Type} {rel : Pm → Hp → α → β → Prop} {W : XK} {ρ ρ1 : Pm} {H H1 : Hp} {S1 : Store} {r : Res α} {Q : β → Hp → Prop} (e1 : Ext ρ H ρ1 H1) (m1 : RS K T ρ1 S1 H1) (h : Run K T Z rel W ρ H r Q) : Run K T Z rel W ρ1 H1 r Q := by
  cases r with
  | bad => exact h
  | exc c p S2 => exact fun ρ2 H2 cls d e2 m2 x => h ρ2 H2 cls d (e1.trans e2 m1) m2 x
  | ok b S2 => exact fun ρ2 H2 v e2 m2 x => h ρ2 H2 v (e1.trans e2 m1) m2 x
theorem Run.bind {α β γ δ : Type} {rA : Pm → Hp → α → γ → Prop} {rB : Pm → Hp → β → δ → Prop} {W : XK} {ρ : Pm} {H : Hp} {m : M α} {k : α → M β} {S : Store} {Q : δ → Hp → Prop} (h : Run K T Z rB W ρ H (M.bind m k S) Q) :
    Run K T Z rA W ρ H (m S) fun v H1 => ∃ ρ1 a S1, m S = .ok a S1 ∧ Ext ρ H ρ1 H1 ∧ RS K T ρ1 S1 H1 ∧ rA ρ1 H1 a v ∧ Run K T Z rB W ρ1 H1 (k a S1) Q := by
  unfold M.bind at h
  cases e : m S with
  | bad => rw [e] at h; exact h
  | exc c p S' => rw [e] at h; exact h
  | ok a S1 =>
    rw [e] at h
    have h' : Run K T Z rB W ρ H (k a S1) Q := h
    exact fun ρ1 H1 v e1 m1 r1 => ⟨ρ1, a, S1, rfl, e1, m1, r1, h'.shift e1 m1⟩
theorem Run.mono {α β : Type} {rel : Pm → Hp → α → β → Prop} {W : XK} {ρ : Pm} {H : Hp} {r : Res α} {Q Q' : β → Hp → Prop} (h : Run K T Z rel W ρ H r Q) (i : ∀ v H, Q v H → Q' v H) : Run K T Z rel W ρ H r Q' := by
  unfold Run at h ⊢
  cases r with
  | bad => exact h
  | exc c p S => exact h
  | ok a S => exact fun ρ' H' v e m r => i _ _ (h ρ' H' v e m r)
/-- a value that is there -/
theorem Run.opt {α β : Type} {rel : Pm → Hp → α → β → Prop} {W : XK} {ρ : Pm} {H : Hp} {o : Option α} {S : Store} {Q : β → Hp → Prop} (h : Run K T Z rel W ρ H (M.opt o S) Q) : ∃ a, o = some a ∧ Run K T Z rel W ρ H (.ok a S) Q := by
  cases o with
  | none => exact h.elim
  | some a => exact ⟨a, rfl, h⟩
end
end Lk
end

section
/-! E2: the evaluator's expressions are the model's. -/
set_option Elab.async false
set_option linter.all false
set_option maxRecDepth 100000
set_option maxHeartbeats 2000000
namespace Lk
open PySem PySem.Spec PyProof.Rows L2 SlX

theorem PEw {X : Cx} {e : Expr} {t t' : TE} (h : PE X e t) (i : ∀ σ H Q, t' σ H Q → t σ H Q) : PE X e t' := ⟨fun pins s σ H Q I q => h.run pins s σ H Q I (i σ H Q q)⟩
theorem PEl {X : Cx} {e : Expr} {t t' : TE} (h : PE X e t) (i : ∀ σ H Q, σ.length = X.N.length → t' σ H Q → t σ H Q) : PE X e t' := ⟨fun pins s σ H Q I q => h.run pins s σ H Q I (i σ H Q I.len q)⟩
theorem PSl {X : Cx} {e : Stmt} {t t' : TS} (h : PS X e t) (i : ∀ D σ H, σ.length = X.N.length → t' D σ H → t D σ H) : PS X e t' := ⟨fun pins s σ H D I q => h.run pins s σ H D I (i D σ H I.len q)⟩
theorem ix_lt {N : List Str} {i : Nat} {x : Str} (h : N[i]? = some x) : i < N.length := (List.getElem?_eq_some_iff.mp h).1
theorem PTw {X : Cx} {e : Expr} {t t' : TT} (h : PT X e t) (i : ∀ σ H Q, t' σ H Q → t σ H Q) : PT X e t' := ⟨fun pins s σ H Q I q => h.run pins s σ H Q I (i σ H Q q)⟩
theorem PWw {X : Cx} {e : Expr} {t t' : TT} (h : PW X e t) (i : ∀ σ H Q, t' σ H Q → t σ H Q) : PW X e t' := ⟨fun wh pins s σ H Q I q => h.run wh pins s σ H Q I (i σ H Q q)⟩
theorem PAw {X : Cx} {es : List Expr} {t t' : TA} (h : PA X es t) (i : ∀ σ H Q, t' σ H Q → t σ H Q) : PA X es t' := ⟨fun pos pins s σ H Q I q => h.run pos pins s σ H Q I (i σ H Q q)⟩
theorem PSw {X : Cx} {e : Stmt} {t t' : TS} (h : PS X e t) (i : ∀ D σ H, t' D σ H → t D σ H) : PS X e t' := ⟨fun pins s σ H D I q => h.run pins s σ H D I (i D σ H q)⟩
theorem PSsw {X : Cx} {e : List Stmt} {t t' : TS} (h : PSs X e t) (i : ∀ D σ H, t' D σ H → t D σ H) : PSs X e t' := ⟨fun pins s σ H D I q => h.run pins s σ H D I (i D σ H q)⟩

/-- what is fixed through a law: the classes, the errors, the defs' meaning -/
structure Fx where
  T : Ty
  Z : Xs
  cal : Nat → List D → M D
  Y : Option Slf := none
section
variable (X : Cx) (F : Fx) (W : WX)
/-- a run from here, of any kind -/
def Go {α β : Type} (rel : Pm → Hp → α → β → Prop) (m : Env → M α) (σV : L2.St) (H : Hp) (Q : β → Hp → Prop) : Prop :=
  ∃ ρ σ S, RS X.K F.T ρ S H ∧ EnvR X.K F.T F.Y ρ H σ σV ∧ Run X.K F.T F.Z rel (fun c d H => W c d σV H) ρ H (m σ S) Q
abbrev rdR : Pm → Hp → D → V → Prop := RD X.K F.T
def tE (x : XE) : TE := fun σV H Q => Go X F W (rdR X F) (ev F.cal x) σV H Q
def tT (x : XE) : TT := fun σV H Q => Go X F W (fun _ _ (a b : Bool) => a = b) (tst F.cal x) σV H Q
def tAs (x : XEs) : TA := fun σV H Q => Go X F W (RDs X.K F.T) (evs F.cal x) σV H Q
end
section
variable {X : Cx} {F : Fx} {W : WX}
theorem Go.bind {α β γ δ : Type} {rA : Pm → Hp → α → γ → Prop} {rB : Pm → Hp → β → δ → Prop} {m : Env → M α} {k : Env → α → M β} {σV : L2.St} {H : Hp} {Q : δ → Hp → Prop} (h : Go X F W rB (fun σ => M.bind (m σ) (k σ)) σV H Q) :
    Go X F W rA m σV H fun v H1 => ∃ ρ σ a S S0, m σ S0 = .ok a S ∧ RS X.K F.T ρ S H1 ∧ EnvR X.K F.T F.Y ρ H1 σ σV ∧ rA ρ H1 a v ∧ Run X.K F.T F.Z rB (fun c d H => W c d σV H) ρ H1 (k σ a S) Q := by
  obtain ⟨ρ, σ, S, m0, e0, r0⟩ := h
  refine ⟨ρ, σ, S, m0, e0, ?_⟩
  refine Run.mono (Run.bind (rA := rA) r0) ?_
  rintro v H1 ⟨ρ1, a, S1, o1, e1, m1, r1, q⟩
  exact ⟨ρ1, σ, a, S1, S, o1, m1, e0.mono m0 e1, r1, q⟩
theorem Go.mono {α β : Type} {rel : Pm → Hp → α → β → Prop} {m : Env → M α} {σV : L2.St} {H : Hp} {Q Q' : β → Hp → Prop} (h : Go X F W rel m σV H Q) (i : ∀ v H, Q v H → Q' v H) : Go X F W rel m σV H Q' := by
  obtain ⟨ρ, σ, S, m0, e0, r0⟩ := h
  exact ⟨ρ, σ, S, m0, e0, r0.mono i⟩
/-- two in a row -/
theorem Go.bind2 {β δ : Type} {rB : Pm → Hp → β → δ → Prop} {a b : XE} {k : Env → D → D → M β} {σV : L2.St} {H : Hp} {Q : δ → Hp → Prop} (h : Go X F W rB (fun σ => M.bind (ev F.cal a σ) fun x => M.bind (ev F.cal b σ) fun y => k σ x y) σV H Q) :
    tE X F W a σV H fun v H1 => tE X F W b σV H1 fun w H2 => ∃ ρ σ x y S, RS X.K F.T ρ S H2 ∧ EnvR X.K F.T F.Y ρ H2 σ σV ∧ RD X.K F.T ρ H2 x v ∧ RD X.K F.T ρ H2 y w ∧ Run X.K F.T F.Z rB (fun c d H => W c d σV H) ρ H2 (k σ x y S) Q := by
  obtain ⟨ρ, σ, S, m0, e0, r0⟩ := Go.bind (rA := rdR X F) h
  refine ⟨ρ, σ, S, m0, e0, Run.mono r0 ?_⟩
  rintro v H1 ⟨ρ1, σ1, x, S1, _, _, m1, e1, r1, q1⟩
  refine ⟨ρ1, σ1, S1, m1, e1, Run.mono (Run.bind (rA := rdR X F) q1) ?_⟩
  rintro w H2 ⟨ρ2, y, S2, _, x2, m2, r2, q2⟩
  exact ⟨ρ2, σ1, x, y, S2, m2, e1.mono m1 x2, r1.mono m1 x2, r2, q2⟩

/-! ### names, constants -/
theorem sE_var {i : Nat} {x : Str} {pos : Pos} (hN : X.N[i]? = some x) (hv : Vis X.env.scope x) (hd : (x == ("__debug__" : Str)) = false) (hcd : (x == ("__classdict__" : Str)) = false) : PE X (.Name x pos) (tE X F W (.var i)) := by
  refine PEl (pe_var hN hv hd hcd) fun σ H Q hl h => ?_
  have hl : i < σ.length := by rw [hl]; exact ix_lt hN
  obtain ⟨ρ, s, S, m, e, r⟩ := h
  obtain ⟨d, hd, r⟩ := Run.opt (o := slotOf s i) r
  have hs := slotOf_some hd
  obtain ⟨v, hv, rv⟩ := e.2.2 i d hl hs
  exact ⟨v, hv, r ρ H v .refl m rv⟩
theorem Run.here {α β : Type} {rel : Pm → Hp → α → β → Prop} {K : PySem.W.Frag} {T : Ty} {Z : Xs} {W : XK} {ρ : Pm} {H : Hp} {S : Store} {a : α} {v : β} {Q : β → Hp → Prop} (m : RS K T ρ S H) (h : Run K T Z rel W ρ H (.ok a S) Q) (r : rel ρ H a v) : Q v H := h ρ H v .refl m r
theorem sE_int {i : Int} {j : Nat} {pos : Pos} : PE X (.Constant (.int i) j pos) (tE X F W (.con (.int i))) := PEw pe_int fun σ H Q h => by
  obtain ⟨ρ, s, S, m, e, r⟩ := h
  exact Run.here (a := D.int i) m r (RD.int i)
theorem sE_bl {b : Bool} {j : Nat} {pos : Pos} : PE X (.Constant (.bool b) j pos) (tE X F W (.con (.bl b))) := PEw pe_bl fun σ H Q h => by
  obtain ⟨ρ, s, S, m, e, r⟩ := h
  exact Run.here (a := D.bl b) m r (RD.bl b)
theorem sE_non {j : Nat} {pos : Pos} : PE X (.Constant .none j pos) (tE X F W (.con .non)) := PEw pe_non fun σ H Q h => by
  obtain ⟨ρ, s, S, m, e, r⟩ := h
  exact Run.here (a := D.non) m r RD.non
theorem sE_str {x : Str} {j : Nat} {pos : Pos} : PE X (.Constant (.str x) j pos) (tE X F W (.con (.str x.cps.toList))) := PEw pe_str fun σ H Q h => by
  obtain ⟨ρ, s, S, m, e, r⟩ := h
  exact Run.here (a := D.str x.cps.toList) m r (by have := RD.str (K := X.K) (T := F.T) (ρ := ρ) (H := H) x.cps.toList; simpa using this)

/-! ### argument lists, displays -/
def XEs.len : XEs → Nat
  | .nil => 0
  | .cons _ r => r.len + 1
  | .star _ r => r.len
/-- no stars -/
def XEs.plain : XEs → Bool
  | .nil => true
  | .cons _ r => r.plain
  | .star _ _ => false
theorem bind_inv {α β : Type} {m : M α} {k : α → M β} {S S' : Store} {b : β} (h : M.bind m k S = .ok b S') : ∃ a S1, m S = .ok a S1 ∧ k a S1 = .ok b S' := by
  unfold M.bind at h
  cases e1 : m S with
  | bad => rw [e1] at h; cases h
  | exc _ _ _ => rw [e1] at h; cases h
  | ok x S1 => rw [e1] at h; exact ⟨x, S1, rfl, h⟩
theorem evs_len {cal : Nat → List D → M D} : ∀ {xs : XEs} {σ : Env} {S S' : Store} {ds : List D}, xs.plain = true → evs cal xs σ S = .ok ds S' → ds.length = xs.len
  | .nil, σ, S, S', ds, _, h => by
    have h : Res.ok [] S = .ok ds S' := h
    cases h; rfl
  | .cons e r, σ, S, S', ds, hp, h => by
    have h : M.bind (ev cal e σ) (fun x => M.bind (evs cal r σ) fun xs => M.pure (x :: xs)) S = .ok ds S' := h
    obtain ⟨x, S1, _, h⟩ := bind_inv h
    obtain ⟨xs, S2, e2, h⟩ := bind_inv h
    have h : Res.ok (x :: xs) S2 = .ok ds S' := h
    cases h
    rw [List.length_cons, evs_len (show r.plain = true from hp) e2]; rfl
  | .star _ _, _, _, _, _, hp, _ => by cases hp
/-- .. at most so many, where stars are -/
theorem evs_most {cal : Nat → List D → M D} : ∀ {xs : XEs} {σ : Env} {S S' : Store} {ds : List D}, evs cal xs σ S = .ok ds S' → ds.length ≤ sizeMax + xs.len
  | .nil, σ, S, S', ds, h => by
    have h : Res.ok [] S = .ok ds S' := h
    cases h; simp
  | .cons e r, σ, S, S', ds, h => by
    have h : M.bind (ev cal e σ) (fun x => M.bind (evs cal r σ) fun xs => M.pure (x :: xs)) S = .ok ds S' := h
    obtain ⟨x, S1, _, h⟩ := bind_inv h
    obtain ⟨xs, S2, e2, h⟩ := bind_inv h
    have h : Res.ok (x :: xs) S2 = .ok ds S' := h
    cases h
    have := evs_most e2
    simp only [List.length_cons, XEs.len]; omega
  | .star e r, σ, S, S', ds, h => by
    simp only [evs] at h
    obtain ⟨x, S1, _, h⟩ := bind_inv h
    obtain ⟨ys, S2, _, h⟩ := bind_inv h
    cases h1 : decide (ys.length ≤ sizeMax) with
    | false => rw [h1] at h; cases h
    | true =>
      rw [h1] at h
      obtain ⟨xs, S3, _, h⟩ := bind_inv h
      cases h2 : decide (ys.length + xs.length ≤ sizeMax) with
      | false => rw [h2] at h; cases h
      | true =>
        rw [h2] at h
        have h : Res.ok (ys ++ xs) S3 = .ok ds S' := h
        cases h
        have hz := of_decide_eq_true h2
        simp only [List.length_append]; omega
theorem sA_nil : PA X [] (tAs X F W .nil) := PAw pa_nil fun σ H Q h => by
  obtain ⟨ρ, s, S, m, e, r⟩ := h
  exact Run.here (a := []) m r RDs.nil
theorem sA_cons {e : Expr} {es : List Expr} {x : XE} {xs : XEs} (he : PE X e (tE X F W x)) (hr : PA X es (tAs X F W xs)) (hs : starEach (e :: es) X.env = (false, eval e X.env) :: starEach es X.env) : PA X (e :: es) (tAs X F W (.cons x xs)) := by
  refine PAw (pa_cons he hr hs) fun σ H Q h => ?_
  obtain ⟨ρ, s, S, m, e, r⟩ := Go.bind (rA := rdR X F) h
  refine ⟨ρ, s, S, m, e, r.mono ?_⟩
  rintro v H1 ⟨ρ1, s1, a, S1, _, _, m1, e1, r1, q1⟩
  refine ⟨ρ1, s1, S1, m1, e1, (Run.bind (rA := RDs X.K F.T) q1).mono ?_⟩
  rintro vs H2 ⟨ρ2, as, S2, _, x2, m2, r2, q2⟩
  exact Run.here (a := a :: as) m2 q2 (RDs.cons (r1.mono m1 x2) r2)
theorem le_size {n : Nat} (h : n ≤ 2000000) : n ≤ sizeLine := by rw [sizeLine_eq]; omega
theorem sE_tup {es : List Expr} {k : Nat} {pos : Pos} {xs : XEs} (h : PA X es (tAs X F W xs)) (hl : xs.len ≤ 1000000) : PE X (.Tuple es k pos) (tE X F W (.tup xs)) := by
  refine PEw (pe_tup h) fun σ H Q q => ?_
  obtain ⟨ρ, s, S, m, e, r⟩ := Go.bind (rA := RDs X.K F.T) q
  refine ⟨ρ, s, S, m, e, r.mono ?_⟩
  rintro vs H1 ⟨ρ1, s1, ds, S1, S0, o1, m1, e1, r1, q1⟩
  refine ⟨le_size (by have := evs_most o1; rw [← r1.length]; unfold sizeMax at this; omega), fun p hp => ?_⟩
  exact q1 ρ1 _ (.ref p) (ext_new hp) (m1.new hp) (RD.new_tup m1 hp r1)

/-- a run to a list that is new, and that no value names -/
def RunF (K : PySem.W.Frag) (T : Ty) (Z : Xs) (W : XK) (ρ : Pm) (H : Hp) (r : Res (List D)) (Q : VK) : Prop := match r with
  | .ok xs S => ∀ ρ' H' p vs, Ext ρ H ρ' H' → RS K T ρ' S H' → RDs K T ρ' H' xs vs → H' p = some (.lst vs) → Out ρ' p → ¬ ρ'.kn p → H p = none → Q (.ref p) H'
  | .exc c p S => ∀ ρ' H' cls d, Ext ρ H ρ' H' → RS K T ρ' S H' → XR K T Z ρ' H' c p cls d → W cls d H'
  | .bad => False
def tF (X : Cx) (F : Fx) (W : WX) (m : Env → M (List D)) : TE := fun σV H Q => ∃ ρ σ S, RS X.K F.T ρ S H ∧ EnvR X.K F.T F.Y ρ H σ σV ∧ RunF X.K F.T F.Z (fun c d H => W c d σV H) ρ H (m σ S) Q
/-- .. laid just now -/
theorem RunF.laid {K : PySem.W.Frag} {T : Ty} {Z : Xs} {W : XK} {ρ : Pm} {H : Hp} {xs : List D} {S : Store} {Q : VK} (h : RunF K T Z W ρ H (.ok xs S) Q) {ρ' : Pm} {H' : Hp} {p : Addr} {vs : List V} (e : Ext ρ H ρ' H') (m : RS K T ρ' S H') (r : RDs K T ρ' H' xs vs) (hp : H' p = none) : Q (.ref p) (upd H' p (.lst vs)) := by
  have nk : ¬ ρ'.kn p := fun k => by
    obtain ⟨u, hu⟩ := m.kd p k
    rw [hp] at hu; cases hu
  exact h ρ' _ p vs (e.trans (ext_new hp) m) (m.new hp) (r.mono m (ext_new hp)) upd_same (m.out_new hp) nk (e.was m hp)
/-- a new list that nothing changes -/
theorem fl_of {m : Env → M (List D)} {x : XE} (hx : ∀ σ, ev F.cal x σ = M.bind (m σ) fun ds => M.pure (.fl ds)) {σV : L2.St} {H : Hp} {Q : VK} (q : tE X F W x σV H Q) : tF X F W m σV H Q := by
  obtain ⟨ρ, σ, S, m0, e0, r⟩ := q
  refine ⟨ρ, σ, S, m0, e0, ?_⟩
  rw [hx] at r
  unfold M.bind at r
  unfold RunF
  cases z : m σ S with
  | bad => rw [z] at r; exact r
  | exc c p S1 => rw [z] at r; exact r
  | ok xs S1 =>
    rw [z] at r
    exact fun ρ' H' p vs e1 m1 r1 hp o k hn => r (ρ'.know p) H' (.ref p) (e1.know hn) (m1.know hp) (.fl hp o (.inr rfl) (r1.know p))
/-- a new list that comes into the store -/
theorem mat_of {m : Env → M (List D)} {x : XE} (hx : ∀ σ, ev F.cal x σ = M.bind (m σ) fun ds => M.pure (.fl ds)) {σV : L2.St} {H : Hp} {Q : VK} (q : tE X F W (.mat x) σV H Q) : tF X F W m σV H Q := by
  obtain ⟨ρ, σ, S, m0, e0, r⟩ := q
  refine ⟨ρ, σ, S, m0, e0, ?_⟩
  have r : Run X.K F.T F.Z (rdR X F) (fun c d H => W c d σV H) ρ H (M.bind (ev F.cal x σ) (fun x => fun S => match x with
    | .fl xs => .ok (.ref S.next) (S.new (.lst xs))
    | .dc t kvs => .ok (.ref S.next) (S.new (.dic t kvs))
    | _ => .bad) S) Q := r
  rw [hx] at r
  unfold M.bind at r
  unfold RunF
  cases z : m σ S with
  | bad => rw [z] at r; exact r
  | exc c p S1 => rw [z] at r; exact r
  | ok xs S1 =>
    rw [z] at r
    intro ρ' H' p vs e1 m1 r1 hp o k hn
    have nn : ∀ a, ρ' S1.next ≠ some a := fun a z => absurd (m1.dom _ _ z) (by omega)
    exact r (put1 ρ' S1.next p) H' (.ref p) (e1.adopt hn nn) (m1.adopt hp o k r1) (.ref (by simp [put1]))
theorem fresh_fl {m : Env → M (List D)} {e : Expr} (h : PE X e (tF X F W m)) {x : XE} (hx : ∀ σ, ev F.cal x σ = M.bind (m σ) fun ds => M.pure (.fl ds)) : PE X e (tE X F W x) := PEw h fun _ _ _ q => fl_of hx q
theorem fresh_mat {m : Env → M (List D)} {e : Expr} (h : PE X e (tF X F W m)) {x : XE} (hx : ∀ σ, ev F.cal x σ = M.bind (m σ) fun ds => M.pure (.fl ds)) : PE X e (tE X F W (.mat x)) := PEw h fun _ _ _ q => mat_of hx q
theorem sF_lst {es : List Expr} {pos : Pos} {xs : XEs} (h : PA X es (tAs X F W xs)) (hl : xs.len ≤ 1000000) : PE X (.List es pos) (tF X F W (evs F.cal xs)) := by
  refine PEw (pe_lst h) fun σ H Q q => ?_
  obtain ⟨ρ, s, S, m, e, r⟩ := q
  refine ⟨ρ, s, S, m, e, ?_⟩
  unfold Run
  cases z : evs F.cal xs s S with
  | bad => rw [z] at r; exact r
  | exc c p S1 => rw [z] at r; exact r
  | ok ds S1 =>
    rw [z] at r
    exact fun ρ' H' vs e1 m1 r1 => ⟨le_size (by have := evs_most z; rw [← r1.length]; unfold sizeMax at this; omega), fun p hp => r.laid e1 m1 r1 hp⟩
theorem sE_lst {es : List Expr} {pos : Pos} {xs : XEs} (h : PA X es (tAs X F W xs)) (hl : xs.len ≤ 1000000) : PE X (.List es pos) (tE X F W (.lst xs)) := fresh_fl (sF_lst h hl) fun _ => rfl
theorem sE_mlst {es : List Expr} {pos : Pos} {xs : XEs} (h : PA X es (tAs X F W xs)) (hl : xs.len ≤ 1000000) : PE X (.List es pos) (tE X F W (.mat (.lst xs))) := fresh_mat (sF_lst h hl) fun _ => rfl

/-! ### operators -/
/-- an operator on values of the evaluator, by cases -/
def BinR (X : Cx) (F : Fx) (o : Bop) : R2 := fun v w H Q => ∃ ρ x y S z, RS X.K F.T ρ S H ∧ RD X.K F.T ρ H x v ∧ RD X.K F.T ρ H y w ∧ binD S o x y = some z ∧ ∀ ρ' H' u, Ext ρ H ρ' H' → RS X.K F.T ρ' S H' → RD X.K F.T ρ' H' z u → Q u H'
theorem OpRw {X : Cx} {f : Value → Value → Sem Value} {r r' : R2} (h : OpR X f r) (i : ∀ x y H Q, r' x y H Q → r x y H Q) : OpR X f r' := fun pins s σ H x y v u Q I rx ry q => h pins s σ H x y v u Q I rx ry (i _ _ _ _ q)
end
end Lk
end

section
/-! E3: operators, comparisons, subscripts, built-ins of the evaluator in the model. -/
set_option Elab.async false
set_option linter.all false
set_option maxRecDepth 100000
set_option maxHeartbeats 2000000
namespace Lk
open PySem PySem.Spec PyProof.Rows L2 SlX

theorem ite_some {α : Type} {c : Prop} [Decidable c] {a b : α} (h : (if c then some a else none) = some b) : c ∧ a = b := by
  split at h
  · exact ⟨by assumption, Option.some.inj h⟩
  · cases h
theorem map_some {α β : Type} {f : α → β} {o : Option α} {b : β} (h : o.map f = some b) : ∃ a, o = some a ∧ f a = b := by
  cases o with
  | none => cases h
  | some a => exact ⟨a, rfl, Option.some.inj h⟩
theorem bind_some {α β : Type} {f : α → Option β} {o : Option α} {b : β} (h : o.bind f = some b) : ∃ a, o = some a ∧ f a = some b := by
  cases o with
  | none => cases h
  | some a => exact ⟨a, rfl, h⟩

theorem binD_add {S : Store} {x y z : D} (h : binD S .add x y = some z) : (∃ i j, x = .int i ∧ y = .int j ∧ z = .int (i + j)) ∨ (∃ a b, x = .str a ∧ y = .str b ∧ a.length + b.length ≤ sizeMax ∧ z = .str (a ++ b)) ∨
    (∃ a b, x = .tup a ∧ y = .tup b ∧ a.length + b.length ≤ sizeMax ∧ z = .tup (a ++ b)) ∨ ∃ a b, listOf S x = some a ∧ listOf S y = some b ∧ a.length + b.length ≤ sizeMax ∧ z = .fl (a ++ b) := by
  unfold binD at h
  split at h
  · obtain ⟨k, h1, h2⟩ := map_some h
    cases h1
    exact .inl ⟨_, _, rfl, rfl, h2.symm⟩
  · obtain ⟨h1, h2⟩ := ite_some h
    exact .inr (.inl ⟨_, _, rfl, rfl, h1, h2.symm⟩)
  · obtain ⟨h1, h2⟩ := ite_some h
    exact .inr (.inr (.inl ⟨_, _, rfl, rfl, h1, h2.symm⟩))
  · rename_i e; cases e
  · rename_i e; cases e
  · split at h
    · rename_i a b ha hb
      obtain ⟨h1, h2⟩ := ite_some h
      exact .inr (.inr (.inr ⟨_, _, ha, hb, h1, h2.symm⟩))
    · cases h
  · rename_i e; cases e
  · cases h
theorem binD_int {S : Store} {o : Bop} {x y z : D} (ho : o = .sub ∨ o = .fdiv ∨ o = .mod ∨ o = .pow) (h : binD S o x y = some z) : ∃ i j k, x = .int i ∧ y = .int j ∧ intBin o i j = some k ∧ z = .int k := by
  unfold binD at h
  split at h
  · obtain ⟨k, h1, h2⟩ := map_some h
    exact ⟨_, _, k, rfl, rfl, h1, h2.symm⟩
  all_goals first
    | (cases h; done)
    | (exfalso; rcases ho with ho | ho | ho | ho <;> cases ho; done)
theorem binD_mul {S : Store} {x y z : D} (h : binD S .mul x y = some z) : (∃ i j k, x = .int i ∧ y = .int j ∧ intBin .mul i j = some k ∧ z = .int k) ∨ (∃ a i, x = .tup a ∧ y = .int i ∧ (0 ≤ i ∧ i < 2 ^ 62 ∧ a.length * i.toNat ≤ sizeMax) ∧ z = .tup (List.replicate i.toNat a).flatten) ∨
    (∃ a i, x = .str a ∧ y = .int i ∧ (0 ≤ i ∧ i < 2 ^ 62 ∧ a.length * i.toNat ≤ sizeMax) ∧ z = .str (List.replicate i.toNat a).flatten) ∨ ∃ a i, x = .fl a ∧ y = .int i ∧ (0 ≤ i ∧ i < 2 ^ 62 ∧ a.length * i.toNat ≤ sizeMax) ∧ z = .fl (List.replicate i.toNat a).flatten := by
  unfold binD at h
  split at h
  · obtain ⟨k, h1, h2⟩ := map_some h
    exact .inl ⟨_, _, k, rfl, rfl, h1, h2.symm⟩
  · rename_i e; cases e
  · rename_i e; cases e
  · obtain ⟨h1, h2⟩ := ite_some h
    exact .inr (.inl ⟨_, _, rfl, rfl, h1, h2.symm⟩)
  · obtain ⟨h1, h2⟩ := ite_some h
    exact .inr (.inr (.inl ⟨_, _, rfl, rfl, h1, h2.symm⟩))
  · exfalso; simp_all
  · obtain ⟨h1, h2⟩ := ite_some h
    exact .inr (.inr (.inr ⟨_, _, rfl, rfl, h1, h2.symm⟩))
  · cases h
section
variable {X : Cx} {F : Fx} {W : WX} {K : PySem.W.Frag} {T : Ty} {ρ : Pm} {H : Hp} {S : Store}
theorem RD.int_inv {i : Int} {v : V} (h : RD K T ρ H (.int i) v) : v = .int i := by cases h; rfl
theorem RD.str_inv {s : List Nat} {v : V} (h : RD K T ρ H (.str s) v) : v = .str ⟨s.toArray⟩ := by cases h; rfl
theorem RD.bl_inv {b : Bool} {v : V} (h : RD K T ρ H (.bl b) v) : v = .bl b := by cases h; rfl
theorem RD.tup_inv {xs : List D} {v : V} (h : RD K T ρ H (.tup xs) v) : ∃ a vs, v = .ref a ∧ SqT K H a vs ∧ RDs K T ρ H xs vs := by cases h with | tup h r => exact ⟨_, _, rfl, h, r⟩
/-- a list in the model -/
theorem listOf_inv (m : RS K T ρ S H) {d : D} {xs : List D} {v : V} (e : listOf S d = some xs) (h : RD K T ρ H d v) : ∃ a vs, v = .ref a ∧ H a = some (.lst vs) ∧ RDs K T ρ H xs vs := by
  unfold listOf at e
  split at e
  · cases e
    cases h with | fl h q k r => exact ⟨_, _, rfl, h, r⟩
  · split at e
    · rename_i n _ g
      cases e
      cases h with
      | ref h =>
        obtain ⟨a, h1, vs, h2, h3⟩ := m.at_ _ _ g
        rw [h] at h1
        cases h1
        exact ⟨_, vs, rfl, h2, h3⟩
    · cases e
  · cases e
/-- a list or a tuple in the model -/
theorem itemsOf_inv (m : RS K T ρ S H) {d : D} {xs : List D} {v : V} (e : itemsOf S d = some xs) (h : RD K T ρ H d v) : ∃ a vs, v = .ref a ∧ (SqL K H a vs ∨ SqT K H a vs) ∧ RDs K T ρ H xs vs := by
  unfold itemsOf at e
  split at e
  · cases e
    obtain ⟨a, vs, e1, h1, r⟩ := h.tup_inv
    exact ⟨a, vs, e1, .inr h1, r⟩
  · cases e
    cases h with | fl h q k r => exact ⟨_, _, rfl, .inl (.inl (.inl h)), r⟩
  · cases e
    cases h with | sc h r => exact ⟨_, _, rfl, .inl h.sq, r⟩
  · split at e
    · rename_i n _ g
      cases e
      cases h with
      | ref h =>
        obtain ⟨a, h1, vs, h2, h3⟩ := m.at_ _ _ g
        rw [h] at h1
        cases h1
        exact ⟨_, vs, rfl, .inl (.inl (.inl h2)), h3⟩
    · cases e
  · cases e
theorem seqOf_inv (m : RS K T ρ S H) {d : D} {xs : List D} {v : V} (e : seqOf S d = some xs) (h : RD K T ρ H d v) : ∃ a vs, v = .ref a ∧ SqL K H a vs ∧ RDs K T ρ H xs vs := by
  cases d with
  | tup _ => cases e
  | fl ys =>
    cases e
    cases h with | fl h q k r => exact ⟨_, _, rfl, .inl (.inl h), r⟩
  | sc ys =>
    cases e
    cases h with | sc h r => exact ⟨_, _, rfl, h.sq, r⟩
  | ref n =>
    obtain ⟨a, vs, e1, h1, r⟩ := listOf_inv m (show listOf S (.ref n) = some xs from e) h
    exact ⟨a, vs, e1, .inl (.inl h1), r⟩
  | _ => cases e
theorem sizeMax_le {n : Nat} (h : n ≤ sizeMax) : n ≤ sizeLine := le_size (by unfold sizeMax at h; omega)
theorem str_app (a b : List Nat) : (⟨a.toArray⟩ ++ ⟨b.toArray⟩ : Str) = ⟨(a ++ b).toArray⟩ := by
  show Str.append _ _ = _
  unfold Str.append
  simp
theorem op_addE : OpR X (binaryOp .Add) (BinR X F .add) := by
  refine OpRw (op_add.or (op_add_str.or (op_catA.or op_cat))) fun v w H Q h => ?_
  obtain ⟨ρ, x, y, S, z, m, rx, ry, e, q⟩ := h
  rcases binD_add e with ⟨i, j, rfl, rfl, rfl⟩ | ⟨a, b, rfl, rfl, hl, rfl⟩ | ⟨a, b, rfl, rfl, hl, rfl⟩ | ⟨a, b, ha, hb, hl, rfl⟩
  · exact .inl ⟨i, j, rx.int_inv, ry.int_inv, q ρ H _ .refl m (.int _)⟩
  · refine .inr (.inl ⟨_, _, rx.str_inv, ry.str_inv, sizeMax_le (by simpa [Str.length] using hl), ?_⟩)
    rw [str_app]
    exact q ρ H _ .refl m (.str _)
  · obtain ⟨a1, vs, rfl, h1, r1⟩ := rx.tup_inv
    obtain ⟨b1, ws, rfl, h2, r2⟩ := ry.tup_inv
    refine .inr (.inr (.inl ⟨a1, b1, vs, ws, rfl, rfl, h1, h2, sizeMax_le (by rw [← r1.length, ← r2.length]; exact hl), fun z => ?_, fun _ z => ?_, fun _ _ p hp => ?_⟩))
    · subst z
      cases r1
      exact q ρ H _ .refl m (by simpa using ry)
    · subst z
      cases r2
      exact q ρ H _ .refl m (by simpa using rx)
    · exact q ρ _ _ (ext_new hp) (m.new hp) (RD.new_tup m hp (r1.append r2))
  · obtain ⟨a1, vs, rfl, h1, r1⟩ := listOf_inv m ha rx
    obtain ⟨b1, ws, rfl, h2, r2⟩ := listOf_inv m hb ry
    exact .inr (.inr (.inr ⟨a1, b1, vs, ws, rfl, rfl, h1, h2, sizeMax_le (by rw [← r1.length, ← r2.length]; exact hl), fun p hp => have n := new_fl m hp (r1.append r2); q _ _ _ n.1 n.2.1 n.2.2⟩))
theorem op_subE : OpR X (binaryOp .Sub) (BinR X F .sub) := by
  refine OpRw op_sub fun v w H Q h => ?_
  obtain ⟨ρ, x, y, S, z, m, rx, ry, e, q⟩ := h
  obtain ⟨i, j, k, rfl, rfl, hk, rfl⟩ := binD_int (.inl rfl) e
  cases hk
  exact ⟨i, j, rx.int_inv, ry.int_inv, q ρ H _ .refl m (.int _)⟩
theorem op_fdivE : OpR X (binaryOp .FloorDiv) (BinR X F .fdiv) := by
  refine OpRw op_fdivW fun v w H Q h => ?_
  obtain ⟨ρ, x, y, S, z, m, rx, ry, e, q⟩ := h
  obtain ⟨i, j, k, rfl, rfl, hk, rfl⟩ := binD_int (.inr (.inl rfl)) e
  obtain ⟨h1, rfl⟩ := ite_some hk
  exact ⟨i, j, rx.int_inv, ry.int_inv, h1, q ρ H _ .refl m (.int _)⟩
theorem op_modE : OpR X (binaryOp .Mod) (BinR X F .mod) := by
  refine OpRw op_modN fun v w H Q h => ?_
  obtain ⟨ρ, x, y, S, z, m, rx, ry, e, q⟩ := h
  obtain ⟨i, j, k, rfl, rfl, hk, rfl⟩ := binD_int (.inr (.inr (.inl rfl))) e
  obtain ⟨h1, rfl⟩ := ite_some hk
  exact ⟨i, j, rx.int_inv, ry.int_inv, h1, q ρ H _ .refl m (.int _)⟩
theorem op_powE : OpR X (binaryOp .Pow) (BinR X F .pow) := by
  refine OpRw op_pow fun v w H Q h => ?_
  obtain ⟨ρ, x, y, S, z, m, rx, ry, e, q⟩ := h
  obtain ⟨i, j, k, rfl, rfl, hk, rfl⟩ := binD_int (.inr (.inr (.inr rfl))) e
  obtain ⟨h1, rfl⟩ := ite_some hk
  exact ⟨i, j, rx.int_inv, ry.int_inv, h1, q ρ H _ .refl m (.int _)⟩
/-! ### data -/
theorem allSome_len {α β : Type} {f : α → Option β} : ∀ {xs : List α} {ys : List β}, allSome f xs = some ys → xs.length = ys.length
  | [], _, h => by cases h; rfl
  | x :: xs, ys, h => by
    unfold allSome at h
    split at h
    · cases h
    · split at h
      · cases h
      · rename_i e; cases h; simp [allSome_len e]
/-- the model's data of a value -/
def pdL (f : D → PyData) : List D → List PyData
  | [] => []
  | x :: xs => f x :: pdL f xs
mutual
def pd : D → PyData
  | .non => .none
  | .bl b => .bool b
  | .int i => .int i
  | .str s => .str ⟨s.toArray⟩
  | .tup xs => .tuple (pds xs)
  | .fl xs => .list (pds xs)
  | _ => .none
def pds : List D → List PyData
  | [] => []
  | x :: xs => pd x :: pds xs
end
/-- plain data, so deep at most -/
def plain : Nat → D → Bool
  | 0, _ => false
  | n + 1, d => match d with
    | .non => true
    | .bl _ => true
    | .int _ => true
    | .str s => s.all (· < 1114112)
    | .tup xs => xs.all (plain n)
    | .fl xs => xs.all (plain n)
    | _ => false
theorem rsv_all {S : Store} {n : Nat} (ih : ∀ d e, rsv S n d = some e → plain n e = true) : ∀ {xs ys : List D}, allSome (rsv S n) xs = some ys → ys.all (plain n) = true
  | [], _, h => by cases h; rfl
  | x :: xs, ys, h => by
    unfold allSome at h
    split at h
    · cases h
    · rename_i y e
      split at h
      · cases h
      · rename_i zs e2
        cases h
        simp only [List.all_cons, Bool.and_eq_true]
        exact ⟨ih _ _ e, rsv_all ih e2⟩
theorem rsv_plain {S : Store} : ∀ (n : Nat) (d e : D), rsv S n d = some e → plain n e = true
  | 0, _, _, h => by cases h
  | n + 1, d, e, h => by
    unfold rsv at h
    split at h
    · cases h; rfl
    · cases h; rfl
    · cases h; rfl
    · obtain ⟨h1, h2⟩ := ite_some h
      subst h2
      exact h1
    · obtain ⟨ys, h1, h2⟩ := map_some h
      subst h2
      exact rsv_all (rsv_plain n) h1
    · obtain ⟨ys, h1, h2⟩ := map_some h
      subst h2
      exact rsv_all (rsv_plain n) h1
    · split at h
      · obtain ⟨ys, h1, h2⟩ := map_some h
        subst h2
        exact rsv_all (rsv_plain n) h1
      · cases h
    · cases h
theorem dp_all (m : RS K T ρ S H) {n : Nat} (ih : ∀ d e v, rsv S n d = some e → RD K T ρ H d v → Dp K H v (pd e)) : ∀ {xs ys : List D} {vs : List V}, allSome (rsv S n) xs = some ys → RDs K T ρ H xs vs → DpAll K H vs (pds ys)
  | [], _, _, h, r => by cases h; cases r; exact .nil
  | x :: xs, ys, vs, h, r => by
    unfold allSome at h
    split at h
    · cases h
    · rename_i y e
      split at h
      · cases h
      · rename_i zs e2
        cases h
        cases r with
        | cons r1 r2 => exact .cons (ih _ _ _ e r1) (dp_all m ih e2 r2)
theorem rsv_dp (m : RS K T ρ S H) : ∀ (n : Nat) (d e : D) (v : V), rsv S n d = some e → RD K T ρ H d v → Dp K H v (pd e)
  | 0, _, _, _, h, _ => by cases h
  | n + 1, d, e, v, h, r => by
    unfold rsv at h
    split at h
    · cases h; cases r; exact .non
    · cases h; cases r; exact .bl _
    · cases h; cases r; exact .int _
    · obtain ⟨_, h2⟩ := ite_some h
      subst h2
      cases r; exact .str _
    · obtain ⟨ys, h1, h2⟩ := map_some h
      subst h2
      cases r with | tup q r => exact .tup q (dp_all m (rsv_dp m n) h1 r)
    · obtain ⟨ys, h1, h2⟩ := map_some h
      subst h2
      cases r with | fl q o k r => exact .lst (.inl (.inl q)) (dp_all m (rsv_dp m n) h1 r)
    · split at h
      · rename_i g
        obtain ⟨ys, h1, h2⟩ := map_some h
        subst h2
        cases r with
        | ref q =>
          obtain ⟨a, z1, vs, z2, z3⟩ := m.at_ _ _ g
          rw [q] at z1
          cases z1
          exact .lst (.inl (.inl z2)) (dp_all m (rsv_dp m n) h1 z3)
      · cases h
    · cases h
mutual
theorem eqD_pd : ∀ (n : Nat) (x y : D), plain n x = true → plain n y = true → eqD x y = PyData.eqv (pd x) (pd y)
  | 0, _, _, h, _ => by cases h
  | n + 1, x, y, hx, hy => by
    cases x <;> cases y <;> first
      | (cases hx; done)
      | (cases hy; done)
      | (simp [eqD, pd, PyData.eqv]; done)
      | (simp only [eqD, pd, PyData.eqv]; exact eqDs_pd n _ _ hx hy)
      | (rename_i a b; simp only [eqD, pd, PyData.eqv]; rw [Bool.eq_iff_iff]; simp)
theorem eqDs_pd : ∀ (n : Nat) (xs ys : List D), xs.all (plain n) = true → ys.all (plain n) = true → eqDs xs ys = PyData.eqvAll (pds xs) (pds ys)
  | n, [], [], _, _ => by simp [eqDs, pds, PyData.eqvAll]
  | n, [], _ :: _, _, _ => by simp [eqDs, pds, PyData.eqvAll]
  | n, _ :: _, [], _, _ => by simp [eqDs, pds, PyData.eqvAll]
  | n, x :: xs, y :: ys, hx, hy => by
    simp only [List.all_cons, Bool.and_eq_true] at hx hy
    simp only [eqDs, pds, PyData.eqvAll]
    rw [eqD_pd n x y hx.1 hy.1, eqDs_pd n xs ys hx.2 hy.2]
end
theorem plain_lays {n : Nat} (ih : ∀ x : D, plain n x = true → (pd x).canLay0 = true ∧ (pd x).depth ≤ n) : ∀ (xs : List D), xs.all (plain n) = true → PyData.canLayAll0 (pds xs) = true ∧ PyData.depthAll (pds xs) ≤ n
  | [], _ => ⟨rfl, Nat.zero_le _⟩
  | x :: xs, h => by
    simp only [List.all_cons, Bool.and_eq_true] at h
    have h1 := ih x h.1
    have h2 := plain_lays ih xs h.2
    refine ⟨?_, ?_⟩
    · simp only [pds, PyData.canLayAll0, Bool.and_eq_true]
      exact ⟨h1.1, h2.1⟩
    · simp only [pds, PyData.depthAll]
      omega
theorem plain_lay : ∀ (n : Nat) (x : D), plain n x = true → (pd x).canLay0 = true ∧ (pd x).depth ≤ n
  | 0, _, h => by cases h
  | n + 1, x, h => by
    cases x with
    | non => exact ⟨rfl, Nat.zero_le _⟩
    | bl b => exact ⟨rfl, Nat.zero_le _⟩
    | int b => exact ⟨rfl, Nat.zero_le _⟩
    | str b =>
      refine ⟨?_, Nat.zero_le _⟩
      show PyData.strOk ⟨b.toArray⟩ = true
      unfold PyData.strOk
      have h : b.all (· < 1114112) = true := h
      rw [← h]
      simp
    | tup xs =>
      have := plain_lays (plain_lay n) xs h
      refine ⟨?_, ?_⟩
      · simp only [pd, PyData.canLay0]; exact this.1
      · simp only [pd, PyData.depth]; exact Nat.succ_le_succ this.2
    | fl xs =>
      have := plain_lays (plain_lay n) xs h
      refine ⟨?_, ?_⟩
      · simp only [pd, PyData.canLay0]; exact this.1
      · simp only [pd, PyData.depth]; exact Nat.succ_le_succ this.2
    | _ => cases h
theorem rsv_shaped {d e : D} (h : rsv S 60 d = some e) : SeqAt.shaped (pd e) = true := by
  have := plain_lay 60 e (rsv_plain 60 d e h)
  unfold SeqAt.shaped
  rw [Bool.and_eq_true]
  exact ⟨this.1, decide_eq_true (by omega)⟩
/-- a comparison of the evaluator's -/
def CmpS (X : Cx) (F : Fx) (o : Cop) : R2 := fun v w H Q => ∃ ρ x y S b, RS X.K F.T ρ S H ∧ RD X.K F.T ρ H x v ∧ RD X.K F.T ρ H y w ∧ cmpS S o x y = some b ∧ Q (.bl b) H
theorem eqS_inv (m : RS K T ρ S H) {x y : D} {v w : V} {b : Bool} (h : eqS S x y = some b) (rx : RD K T ρ H x v) (ry : RD K T ρ H y w) :
    ∃ d e, Dp K H v d ∧ Dp K H w e ∧ SeqAt.shaped d = true ∧ SeqAt.shaped e = true ∧ PyData.eqv d e = b := by
  unfold eqS at h
  split at h
  · cases h
  · rename_i x' hx
    split at h
    · cases h
    · rename_i y' hy
      cases h
      exact ⟨pd x', pd y', rsv_dp m 60 _ _ _ hx rx, rsv_dp m 60 _ _ _ hy ry, rsv_shaped hx, rsv_shaped hy, (eqD_pd 60 _ _ (rsv_plain _ _ _ hx) (rsv_plain _ _ _ hy)).symm⟩
theorem op_eqS (hu : X.A.units + 64 < cLine) : OpR X (compareOp .Eq) (CmpS X F .eq) := by
  refine OpRw (op_eqD hu) fun v w H Q h => ?_
  obtain ⟨ρ, x, y, S, b, m, rx, ry, e, q⟩ := h
  obtain ⟨d, e', h1, h2, h3, h4, h5⟩ := eqS_inv m e rx ry
  exact ⟨d, e', h1, h2, h3, h4, by rw [h5]; exact q⟩
theorem op_neS (hu : X.A.units + 64 < cLine) : OpR X (compareOp .NotEq) (CmpS X F .ne) := by
  refine OpRw (op_neD hu) fun v w H Q h => ?_
  obtain ⟨ρ, x, y, S, b, m, rx, ry, e, q⟩ := h
  obtain ⟨k, hk, rfl⟩ := map_some e
  obtain ⟨d, e', h1, h2, h3, h4, h5⟩ := eqS_inv m hk rx ry
  exact ⟨d, e', h1, h2, h3, h4, by rw [h5]; exact q⟩
theorem cmpD_int {o : Cop} {x y : D} {b : Bool} (ho : o = .lt ∨ o = .le ∨ o = .gt ∨ o = .ge) (h : cmpS S o x y = some b) : ∃ i j, x = .int i ∧ y = .int j ∧ cmpI o i j = some b := by
  unfold cmpS at h
  split at h
  all_goals first
    | (exfalso; rcases ho with ho | ho | ho | ho <;> cases ho; done)
    | exact ⟨_, _, rfl, rfl, h⟩
    | cases h
theorem op_ltS : OpR X (compareOp .Lt) (CmpS X F .lt) := by
  refine OpRw op_lt fun v w H Q h => ?_
  obtain ⟨ρ, x, y, S, b, m, rx, ry, e, q⟩ := h
  obtain ⟨i, j, rfl, rfl, e⟩ := cmpD_int (.inl rfl) e
  cases e
  exact ⟨i, j, rx.int_inv, ry.int_inv, q⟩
theorem op_leS : OpR X (compareOp .LtE) (CmpS X F .le) := by
  refine OpRw op_le fun v w H Q h => ?_
  obtain ⟨ρ, x, y, S, b, m, rx, ry, e, q⟩ := h
  obtain ⟨i, j, rfl, rfl, e⟩ := cmpD_int (.inr (.inl rfl)) e
  cases e
  exact ⟨i, j, rx.int_inv, ry.int_inv, q⟩
theorem op_gtS : OpR X (compareOp .Gt) (CmpS X F .gt) := by
  refine OpRw op_gt fun v w H Q h => ?_
  obtain ⟨ρ, x, y, S, b, m, rx, ry, e, q⟩ := h
  obtain ⟨i, j, rfl, rfl, e⟩ := cmpD_int (.inr (.inr (.inl rfl))) e
  cases e
  exact ⟨i, j, rx.int_inv, ry.int_inv, q⟩
theorem op_geS : OpR X (compareOp .GtE) (CmpS X F .ge) := by
  refine OpRw op_ge fun v w H Q h => ?_
  obtain ⟨ρ, x, y, S, b, m, rx, ry, e, q⟩ := h
  obtain ⟨i, j, rfl, rfl, e⟩ := cmpD_int (.inr (.inr (.inr rfl))) e
  cases e
  exact ⟨i, j, rx.int_inv, ry.int_inv, q⟩
end
end Lk
end

section
/-! E4: in, comparisons, truth, and | or | not, the conditional expression. -/
set_option Elab.async false
set_option linter.all false
set_option maxRecDepth 100000
set_option maxHeartbeats 2000000
namespace Lk
open PySem PySem.Spec PyProof.Rows L2 SlX
section
variable {X : Cx} {F : Fx} {W : WX} {K : PySem.W.Frag} {T : Ty} {ρ : Pm} {H : Hp} {S : Store}
theorem allSome_any : ∀ {xs ys : List D} {x : D} (n : Nat), (∀ d e, rsv S n d = some e → plain n e = true) → plain n x = true → allSome (rsv S n) xs = some ys → (ys.any fun y => eqD y x) = ((pds ys).any fun z => PyData.eqv z (pd x))
  | [], ys, x, n, _, _, h => by cases h; rfl
  | d :: xs, ys, x, n, ih, hx, h => by
    unfold allSome at h
    split at h
    · cases h
    · rename_i y e
      split at h
      · cases h
      · rename_i zs e2
        cases h
        simp only [List.any_cons, pds]
        rw [allSome_any n ih hx e2, eqD_pd n y x (ih _ _ e) hx]
theorem pds_shaped {n : Nat} (hn : n ≤ 63) {ys : List D} (h : ys.all (plain n) = true) : SeqAt.shaped (.list (pds ys)) = true ∧ SeqAt.shaped (.tuple (pds ys)) = true := by
  have := plain_lays (plain_lay n) ys h
  constructor
  · unfold SeqAt.shaped
    rw [Bool.and_eq_true]
    refine ⟨by simp only [PyData.canLay0]; exact this.1, decide_eq_true ?_⟩
    simp only [PyData.depth]; omega
  · unfold SeqAt.shaped
    rw [Bool.and_eq_true]
    refine ⟨by simp only [PyData.canLay0]; exact this.1, decide_eq_true ?_⟩
    simp only [PyData.depth]; omega
def rInT (K : PySem.W.Frag) : R2 := fun x y H Q => ∃ d ds, Dp K H x d ∧ Dp K H y (.tuple ds) ∧ SeqAt.shaped d = true ∧ SeqAt.shaped (.tuple ds) = true ∧ Q (.bl (ds.any fun z => PyData.eqv z d)) H
def rNotInT (K : PySem.W.Frag) : R2 := fun x y H Q => ∃ d ds, Dp K H x d ∧ Dp K H y (.tuple ds) ∧ SeqAt.shaped d = true ∧ SeqAt.shaped (.tuple ds) = true ∧ Q (.bl (!ds.any fun z => PyData.eqv z d)) H
theorem op_inT (hu : X.A.units + 65 < cLine) : OpR X (compareOp .In) (rInT X.K) := by
  intro pins s σ H x y v u Q I rx ry h
  obtain ⟨d, ds, hd, he, sd, se, q⟩ := h
  obtain ⟨as, r1⟩ := Dp.reads I d x v hd rx
  obtain ⟨bs, r2⟩ := Dp.reads I (.tuple ds) y u he ry
  exact SeqAt.in_tuple_reads r2 r1 (SeqAt.canLay_of_shaped se) (SeqAt.canLay_of_shaped sd) (room_in_shaped sd hu) ⟨.bl _, H, I, rfl, q⟩
theorem op_notInT (hu : X.A.units + 65 < cLine) : OpR X (compareOp .NotIn) (rNotInT X.K) := by
  intro pins s σ H x y v u Q I rx ry h
  obtain ⟨d, ds, hd, he, sd, se, q⟩ := h
  obtain ⟨as, r1⟩ := Dp.reads I d x v hd rx
  obtain ⟨bs, r2⟩ := Dp.reads I (.tuple ds) y u he ry
  exact SeqAt.notIn_tuple_reads r2 r1 (SeqAt.canLay_of_shaped se) (SeqAt.canLay_of_shaped sd) (room_in_shaped sd hu) ⟨.bl _, H, I, rfl, q⟩
theorem inS_inv (m : RS K T ρ S H) {x y : D} {v w : V} {b : Bool} (h : inS S x y = some b) (rx : RD K T ρ H x v) (ry : RD K T ρ H y w) :
    (∃ (c : Nat) (z : Str), v = .str ⟨#[c]⟩ ∧ w = .str z ∧ decide (c ∈ z.cps.toList) = b) ∨ ∃ d ds, Dp K H v d ∧ (Dp K H w (.list ds) ∨ Dp K H w (.tuple ds)) ∧ SeqAt.shaped d = true ∧ SeqAt.shaped (.list ds) = true ∧ SeqAt.shaped (.tuple ds) = true ∧ (ds.any fun z => PyData.eqv z d) = b := by
  unfold inS at h
  split at h
  · split at h
    · cases h
      exact .inl ⟨_, _, rx.str_inv, ry.str_inv, by simp⟩
    · cases h
  · split at h
    · rename_i ys hy
      unfold memD at h
      split at h
      · cases h
      · rename_i x' hx
        split at h
        · cases h
        · rename_i zs hz
          cases h
          have sh := pds_shaped (n := 60) (by decide) (rsv_all (rsv_plain 60) hz)
          refine .inr ⟨pd x', pds zs, rsv_dp m 60 _ _ _ hx rx, ?_, rsv_shaped hx, sh.1, sh.2, (allSome_any 60 (rsv_plain 60) (rsv_plain _ _ _ hx) hz).symm⟩
          obtain ⟨a, vs, rfl, ha, rs⟩ := itemsOf_inv m hy ry
          rcases ha with ha | ha
          · exact .inl (.lst ha (dp_all m (rsv_dp m 60) hz rs))
          · exact .inr (.tup ha (dp_all m (rsv_dp m 60) hz rs))
    · cases h
theorem op_inS (hu : X.A.units + 65 < cLine) : OpR X (compareOp .In) (CmpS X F .inn) := by
  refine OpRw (op_in_sign.or ((op_inD hu).or (op_inT hu))) fun v w H Q h => ?_
  obtain ⟨ρ, x, y, S, b, m, rx, ry, e, q⟩ := h
  rcases inS_inv m (show inS S x y = some b from e) rx ry with ⟨c, z, h1, h2, h3⟩ | ⟨d, ds, h1, h2, h3, h4, h5, h6⟩
  · exact .inl ⟨c, z, h1, h2, by rw [h3]; exact q⟩
  · rcases h2 with h2 | h2
    · exact .inr (.inl ⟨d, ds, h1, h2, h3, h4, by rw [h6]; exact q⟩)
    · exact .inr (.inr ⟨d, ds, h1, h2, h3, h5, by rw [h6]; exact q⟩)
theorem op_ninS (hu : X.A.units + 65 < cLine) : OpR X (compareOp .NotIn) (CmpS X F .nin) := by
  refine OpRw (op_notIn_sign.or ((op_notInD hu).or (op_notInT hu))) fun v w H Q h => ?_
  obtain ⟨ρ, x, y, S, b, m, rx, ry, e, q⟩ := h
  obtain ⟨k, hk, rfl⟩ := map_some (show (inS S x y).map (!·) = some b from e)
  rcases inS_inv m hk rx ry with ⟨c, z, h1, h2, h3⟩ | ⟨d, ds, h1, h2, h3, h4, h5, h6⟩
  · exact .inl ⟨c, z, h1, h2, by rw [h3]; exact q⟩
  · rcases h2 with h2 | h2
    · exact .inr (.inl ⟨d, ds, h1, h2, h3, h4, by rw [h6]; exact q⟩)
    · exact .inr (.inr ⟨d, ds, h1, h2, h3, h5, by rw [h6]; exact q⟩)

/-! ### a comparison, as a value and as a test -/
/-- a comparison's rule, of data or of an instance -/
def CmpC (X : Cx) (F : Fx) (W : XK) (o : Cop) (tb : List (Nat × Nat)) : R2 := fun v w H Q => ∃ ρ x y S, RS X.K F.T ρ S H ∧ RD X.K F.T ρ H x v ∧ RD X.K F.T ρ H y w ∧ Run X.K F.T F.Z (rdR X F) W ρ H (cmpC F.cal o tb x y S) Q
theorem sE_cmp {op : CmpOp} {o : Cop} {tb : List (Nat × Nat)} {a b : Expr} {x y : XE} {pos : Pos} (ho : ∀ σ, OpR X (compareOp op) (CmpC X F (fun c d H => W c d σ H) o tb)) (ha : PE X a (tE X F W x)) (hb : PE X b (tE X F W y)) (hm : behindInMarks op b = false) :
    PE X (.Compare a [op] [b] pos) (tE X F W (.cmp o tb x y)) := by
  refine ⟨fun pins s σ H Q I h => ?_⟩
  refine (pe_cmpR (ho σ) ha hb hm).run pins s σ H Q I ?_
  refine Go.mono (Go.bind2 h) fun v H1 q1 => Go.mono q1 fun w H2 q2 => ?_
  obtain ⟨ρ, s, x, y, S, m, e, r1, r2, r⟩ := q2
  exact ⟨ρ, x, y, S, m, r1, r2, r⟩
/-- the truth of what comes -/
theorem tT_tE {x : XE} {σ : L2.St} {H : Hp} {Q : Bool → Hp → Prop} (h : tT X F W x σ H Q) : tE X F W x σ H fun v H1 => ∃ k, v = .bl k ∧ Q k H1 := by
  refine Go.mono (Go.bind (rA := rdR X F) h) fun v H1 q => ?_
  obtain ⟨ρ, s, a, S, S0, _, m, e, r, q⟩ := q
  obtain ⟨k, hk, q⟩ := Run.opt q
  cases a <;> cases hk
  exact ⟨k, r.bl_inv, Run.here m q rfl⟩
theorem sT_cmp {op : CmpOp} {o : Cop} {tb : List (Nat × Nat)} {a b : Expr} {x y : XE} {pos : Pos} (ho : ∀ σ, OpR X (compareOp op) (CmpC X F (fun c d H => W c d σ H) o tb)) (ha : PE X a (tE X F W x)) (hb : PE X b (tE X F W y)) (hm : behindInMarks op b = false) :
    PT X (.Compare a [op] [b] pos) (tT X F W (.cmp o tb x y)) := by
  refine ⟨fun pins s σ H Q I h => ?_⟩
  refine (pt_cmpR (ho σ) ha hb hm).run pins s σ H Q I ?_
  refine Go.mono (Go.bind2 (tT_tE h)) fun v H1 q1 => Go.mono q1 fun w H2 q2 => ?_
  obtain ⟨ρ, s, x, y, S, m, e, r1, r2, r⟩ := q2
  exact ⟨ρ, x, y, S, m, r1, r2, r⟩
/-- a plain expression as a test -/
theorem sT_val {e : Expr} {x : XE} (h : PE X e (tE X F W x)) (he : ∀ whole, isTrue e X.env whole = (do let v ← whole; standAt e.pos; holding [v] (truthy v))) : PT X e (tT X F W x) :=
  PTw (pt_val h he) fun σ H Q q => tT_tE q
theorem sE_isN {a : Expr} {x : XE} {j : Nat} {pos pos' : Pos} (ha : PE X a (tE X F W x)) : PE X (.Compare a [.Is] [.Constant .none j pos'] pos) (tE X F W (.isN x)) := by
  refine PEw (pe_cmp (pc_isN ha)) fun σ H Q q => ?_
  refine Go.mono (Go.bind (rA := rdR X F) q) fun v H1 q => ?_
  obtain ⟨ρ, s, a, S, S0, _, m, e, r, q⟩ := q
  have e : isNon a = decide (v = .non) := by
    cases r <;> simp [isNon]
  rw [← e]
  exact Run.here (a := D.bl _) m q (RD.bl _)
theorem sE_noN {a : Expr} {x : XE} {j : Nat} {pos pos' : Pos} (ha : PE X a (tE X F W x)) : PE X (.Compare a [.IsNot] [.Constant .none j pos'] pos) (tE X F W (.noN x)) := by
  refine PEw (pe_cmp (pc_notN ha)) fun σ H Q q => ?_
  refine Go.mono (Go.bind (rA := rdR X F) q) fun v H1 q => ?_
  obtain ⟨ρ, s, a, S, S0, _, m, e, r, q⟩ := q
  have e : (!isNon a) = !decide (v = .non) := by
    cases r <;> simp [isNon]
  rw [← e]
  exact Run.here (a := D.bl _) m q (RD.bl _)
theorem sT_isN {a : Expr} {x : XE} {j : Nat} {pos pos' : Pos} (ha : PE X a (tE X F W x)) : PT X (.Compare a [.Is] [.Constant .none j pos'] pos) (tT X F W (.isN x)) := by
  refine PTw (pt_cmp (pc_isN ha)) fun σ H Q q => ?_
  refine Go.mono (Go.bind (rA := rdR X F) (tT_tE q)) fun v H1 q => ?_
  obtain ⟨ρ, s, a, S, S0, _, m, e, r, q⟩ := q
  have e : isNon a = decide (v = .non) := by
    cases r <;> simp [isNon]
  rw [← e]
  exact Run.here (a := D.bl _) m q (RD.bl _)
theorem sT_noN {a : Expr} {x : XE} {j : Nat} {pos pos' : Pos} (ha : PE X a (tE X F W x)) : PT X (.Compare a [.IsNot] [.Constant .none j pos'] pos) (tT X F W (.noN x)) := by
  refine PTw (pt_cmp (pc_notN ha)) fun σ H Q q => ?_
  refine Go.mono (Go.bind (rA := rdR X F) (tT_tE q)) fun v H1 q => ?_
  obtain ⟨ρ, s, a, S, S0, _, m, e, r, q⟩ := q
  have e : (!isNon a) = !decide (v = .non) := by
    cases r <;> simp [isNon]
  rw [← e]
  exact Run.here (a := D.bl _) m q (RD.bl _)

/-! ### and, or, not -/
/-- a step that is a bool: two ways -/
theorem Go.bool {β δ : Type} {rB : Pm → Hp → β → δ → Prop} {a : XE} {k : Env → D → M β} {σV : L2.St} {H : Hp} {Q : δ → Hp → Prop} (h : Go X F W rB (fun σ => M.bind (ev F.cal a σ) (k σ)) σV H Q) (hk : ∀ σ d S, (∀ b, d ≠ .bl b) → k σ d S = .bad) :
    tE X F W a σV H fun v H1 => ∃ c, v = .bl c ∧ Go X F W rB (fun σ => k σ (.bl c)) σV H1 Q := by
  refine Go.mono (Go.bind (rA := rdR X F) h) fun v H1 q => ?_
  obtain ⟨ρ, s, a, S, S0, _, m, e, r, q⟩ := q
  by_cases hb : ∃ b, a = .bl b
  · obtain ⟨b, rfl⟩ := hb
    exact ⟨b, r.bl_inv, ρ, s, S, m, e, q⟩
  · rw [hk s a S fun b z => hb ⟨b, z⟩] at q
    exact q.elim
theorem Go.boolT {β δ : Type} {rB : Pm → Hp → β → δ → Prop} {a : XE} {k : Env → D → M β} {σV : L2.St} {H : Hp} {Q : δ → Hp → Prop} (h : Go X F W rB (fun σ => M.bind (ev F.cal a σ) (k σ)) σV H Q) (hk : ∀ σ d S, (∀ b, d ≠ .bl b) → k σ d S = .bad) :
    tT X F W a σV H fun c H1 => Go X F W rB (fun σ => k σ (.bl c)) σV H1 Q := by
  obtain ⟨ρ, s, S, m, e, r⟩ := h
  refine ⟨ρ, s, S, m, e, ?_⟩
  have r : Run X.K F.T F.Z rB (fun c d H => W c d σV H) ρ H (M.bind (ev F.cal a s) (k s) S) Q := r
  unfold M.bind at r
  unfold tst M.bind
  cases z : ev F.cal a s S with
  | bad => rw [z] at r; exact r
  | exc c p S1 => rw [z] at r; exact r
  | ok d S1 =>
    rw [z] at r
    by_cases hb : ∃ b, d = .bl b
    · obtain ⟨b, rfl⟩ := hb
      intro ρ' H' v x1 m1 hv
      cases hv
      exact ⟨ρ', s, S1, m1, e.mono m x1, Run.shift x1 m1 r⟩
    · have : k s d S1 = .bad := hk s d S1 fun b z => hb ⟨b, z⟩
      simp only [this] at r
      exact r.elim
theorem sE_and {a b : Expr} {rest : List Expr} {pos : Pos} {x y : XE} (ha : PE X a (tE X F W x)) (hb : PE X (.BoolOp .And (b :: rest) pos) (tE X F W y)) : PE X (.BoolOp .And (a :: b :: rest) pos) (tE X F W (.and x y)) := by
  refine PEw (pe_and ha hb) fun σ H Q q => ?_
  refine Go.mono (Go.bool q fun σ d S hd => ?_) fun v H1 q => ?_
  · cases d <;> first | rfl | exact absurd rfl (hd _)
  · obtain ⟨c, rfl, q⟩ := q
    refine ⟨c, rfl, ?_⟩
    cases c with
    | true => exact q
    | false =>
      obtain ⟨ρ, s, S, m, e, r⟩ := q
      exact Run.here (a := D.bl false) m r (RD.bl _)
theorem sE_or {a b : Expr} {rest : List Expr} {pos : Pos} {x y : XE} (ha : PE X a (tE X F W x)) (hb : PE X (.BoolOp .Or (b :: rest) pos) (tE X F W y)) : PE X (.BoolOp .Or (a :: b :: rest) pos) (tE X F W (.or x y)) := by
  refine PEw (pe_or ha hb) fun σ H Q q => ?_
  refine Go.mono (Go.bool q fun σ d S hd => ?_) fun v H1 q => ?_
  · cases d <;> first | rfl | exact absurd rfl (hd _)
  · obtain ⟨c, rfl, q⟩ := q
    refine ⟨c, rfl, ?_⟩
    cases c with
    | false => exact q
    | true =>
      obtain ⟨ρ, s, S, m, e, r⟩ := q
      exact Run.here (a := D.bl true) m r (RD.bl _)
theorem sE_one {op : BoolOp} {a : Expr} {pos : Pos} {x : XE} (ha : PE X a (tE X F W x)) : PE X (.BoolOp op [a] pos) (tE X F W x) := pe_one ha
theorem sE_not {a : Expr} {pos : Pos} {x : XE} (ha : PE X a (tE X F W x)) : PE X (.UnaryOp .Not a pos) (tE X F W (.not x)) := by
  refine PEw (pe_not ha) fun σ H Q q => ?_
  refine Go.mono (Go.bool q fun σ d S hd => ?_) fun v H1 q => ?_
  · cases d <;> first | rfl | exact absurd rfl (hd _)
  · obtain ⟨c, rfl, q⟩ := q
    obtain ⟨ρ, s, S, m, e, r⟩ := q
    exact ⟨c, rfl, Run.here (a := D.bl (!c)) m r (RD.bl _)⟩
/-- a test's run, the answer known -/
theorem tT_assoc {x : XE} {a : XE} {k : Env → D → M D} (hx : ∀ σ, ev F.cal x σ = M.bind (ev F.cal a σ) (k σ)) {σ : L2.St} {H : Hp} {Q : Bool → Hp → Prop} (h : tT X F W x σ H Q) :
    Go X F W (fun _ _ (a b : Bool) => a = b) (fun σ => M.bind (ev F.cal a σ) fun d => M.bind (k σ d) fun z => M.opt (truth z)) σ H Q := by
  obtain ⟨ρ, s, S, m, e, r⟩ := h
  refine ⟨ρ, s, S, m, e, ?_⟩
  unfold tst at r
  rw [hx, M.bind_assoc] at r
  exact r
theorem sW_and1 {a : Expr} {pos : Pos} {x : XE} (ha : PT X a (tT X F W x)) : PW X (.BoolOp .And [a] pos) (tT X F W x) := pw_and1 ha
theorem sW_or1 {a : Expr} {pos : Pos} {x : XE} (ha : PT X a (tT X F W x)) : PW X (.BoolOp .Or [a] pos) (tT X F W x) := pw_or1 ha
theorem sW_and {a b : Expr} {rest : List Expr} {pos : Pos} {x y : XE} (ha : PT X a (tT X F W x)) (hb : PW X (.BoolOp .And (b :: rest) pos) (tT X F W y)) : PW X (.BoolOp .And (a :: b :: rest) pos) (tT X F W (.and x y)) := by
  refine PWw (pw_and ha hb) fun σ H Q q => ?_
  refine Go.mono (Go.boolT (tT_assoc (fun _ => rfl) q) fun σ d S hd => ?_) fun c H1 q => ?_
  · cases d <;> first | rfl | exact absurd rfl (hd _)
  · cases c with
    | true => exact q
    | false =>
      obtain ⟨ρ, s, S, m, e, r⟩ := q
      exact Run.here (a := false) (v := false) m r rfl
theorem sW_or {a b : Expr} {rest : List Expr} {pos : Pos} {x y : XE} (ha : PT X a (tT X F W x)) (hb : PW X (.BoolOp .Or (b :: rest) pos) (tT X F W y)) : PW X (.BoolOp .Or (a :: b :: rest) pos) (tT X F W (.or x y)) := by
  refine PWw (pw_or ha hb) fun σ H Q q => ?_
  refine Go.mono (Go.boolT (tT_assoc (fun _ => rfl) q) fun σ d S hd => ?_) fun c H1 q => ?_
  · cases d <;> first | rfl | exact absurd rfl (hd _)
  · cases c with
    | false => exact q
    | true =>
      obtain ⟨ρ, s, S, m, e, r⟩ := q
      exact Run.here (a := true) (v := true) m r rfl
theorem sT_not {a : Expr} {pos : Pos} {x : XE} (ha : PT X a (tT X F W x)) : PT X (.UnaryOp .Not a pos) (tT X F W (.not x)) := by
  refine PTw (pt_not ha) fun σ H Q q => ?_
  refine Go.mono (Go.boolT (tT_assoc (fun _ => rfl) q) fun σ d S hd => ?_) fun c H1 q => ?_
  · cases d <;> first | rfl | exact absurd rfl (hd _)
  · obtain ⟨ρ, s, S, m, e, r⟩ := q
    exact Run.here (a := !c) (v := !c) m r rfl
theorem sE_ite {t a b : Expr} {pos : Pos} {x y z : XE} (ht : PT X t (tT X F W x)) (ha : PE X a (tE X F W y)) (hb : PE X b (tE X F W z)) : PE X (.IfExp t a b pos) (tE X F W (.ite x y z)) := by
  refine PEw (pe_ifExp ht ha hb) fun σ H Q q => ?_
  refine Go.mono (Go.boolT q fun σ d S hd => ?_) fun c H1 q => ?_
  · cases d <;> first | rfl | exact absurd rfl (hd _)
  · cases c <;> exact q
end
end Lk
end

section
/-! Ed: dicts of the evaluator and those of the model. -/
set_option Elab.async false
set_option linter.all false
set_option maxRecDepth 100000
set_option maxHeartbeats 2000000
namespace Lk
open PySem PySem.Spec PyProof.Rows L2 SlX

/-! ### keys -/
theorem beq_arr (x y : List Nat) : (x == y) = decide ((⟨x.toArray⟩ : Str) = ⟨y.toArray⟩) := by
  by_cases h : x = y
  · subst h; simp
  · have : ¬ (⟨x.toArray⟩ : Str) = ⟨y.toArray⟩ := fun z => h (by have := congrArg (fun s : Str => s.cps.toList) z; simpa using this)
    rw [decide_eq_false this]
    simpa using h
theorem int_beq (a b : Int) : (a == b) = decide (a = b) := by by_cases h : a = b <;> simp [h]
theorem keyD_eq {a b : D} {p q : Key} (ha : keyD a = some p) (hb : keyD b = some q) : eqD a b = decide (p = q) := by
  cases a <;> cases ha <;> cases b <;> cases hb
  · simp only [eqD]; rw [key_ll]
  · simp only [eqD]; rw [key_lr]
  · simp only [eqD]; rw [key_rl]
  · simp only [eqD]
    rw [beq_arr]
    by_cases h : (⟨Array.mk ‹List Nat›⟩ : Str) = ⟨Array.mk ‹List Nat›⟩ <;> simp
mutual
theorem nkD_eq : ∀ (a b : D) (p q : NestedKey), nkD a = some p → nkD b = some q → eqD a b = NestedKey.beq p q
  | .non, b, p, q, ha, hb => by
    cases ha
    cases b <;> simp only [nkD] at hb <;> first
      | (cases hb; done)
      | (cases hb; simp [eqD, NestedKey.beq]; done)
      | (obtain ⟨_, _, rfl⟩ := Option.map_eq_some_iff.mp hb; simp [eqD, NestedKey.beq])
  | .bl x, b, p, q, ha, hb => by
    cases ha
    cases b <;> simp only [nkD] at hb <;> first
      | (cases hb; done)
      | (cases hb; cases x <;> simp [eqD, NestedKey.beq]; done)
      | (rename_i y; cases hb; cases x <;> cases y <;> simp [eqD, NestedKey.beq]; done)
      | (cases hb; rw [eqD, NestedKey.beq]; exact int_beq _ _)
      | (obtain ⟨_, _, rfl⟩ := Option.map_eq_some_iff.mp hb; simp [eqD, NestedKey.beq])
  | .int x, b, p, q, ha, hb => by
    cases ha
    cases b <;> simp only [nkD] at hb <;> first
      | (cases hb; done)
      | (cases hb; rw [eqD, NestedKey.beq]; exact int_beq _ _)
      | (cases hb; simp [eqD, NestedKey.beq]; done)
      | (obtain ⟨_, _, rfl⟩ := Option.map_eq_some_iff.mp hb; simp [eqD, NestedKey.beq])
  | .str x, b, p, q, ha, hb => by
    cases ha
    cases b <;> simp only [nkD] at hb <;> first
      | (cases hb; done)
      | (cases hb; rw [eqD, NestedKey.beq]; exact beq_arr _ _)
      | (cases hb; simp [eqD, NestedKey.beq]; done)
      | (obtain ⟨_, _, rfl⟩ := Option.map_eq_some_iff.mp hb; simp [eqD, NestedKey.beq])
  | .tup xs, b, p, q, ha, hb => by
    simp only [nkD] at ha
    obtain ⟨ps, hp, rfl⟩ := Option.map_eq_some_iff.mp ha
    cases b <;> simp only [nkD] at hb <;> first
      | (cases hb; done)
      | (cases hb; simp [eqD, NestedKey.beq]; done)
      | (obtain ⟨qs, hq, rfl⟩ := Option.map_eq_some_iff.mp hb
         rw [eqD, NestedKey.beq]
         exact nkDs_eq xs _ ps qs hp hq)
  | .fl _, _, _, _, ha, _ => by cases ha
  | .sc _, _, _, _, ha, _ => by cases ha
  | .dc _ _, _, _, _, ha, _ => by cases ha
  | .ob _ _, _, _, _, ha, _ => by cases ha
  | .ref _, _, _, _, ha, _ => by cases ha
  | .cls _, _, _, _, ha, _ => by cases ha
theorem nkDs_eq : ∀ (as bs : List D) (ps qs : List NestedKey), nkDs as = some ps → nkDs bs = some qs → eqDs as bs = NestedKey.beqAll ps qs
  | [], bs, ps, qs, ha, hb => by
    cases ha
    cases bs with
    | nil => cases hb; rfl
    | cons b bs =>
      unfold nkDs at hb
      split at hb
      · cases hb; simp [eqDs, NestedKey.beqAll]
      · cases hb
  | a :: as, bs, ps, qs, ha, hb => by
    unfold nkDs at ha
    split at ha
    · rename_i k ks h1 h2
      cases ha
      cases bs with
      | nil => cases hb; simp [eqDs, NestedKey.beqAll]
      | cons b bs =>
        unfold nkDs at hb
        split at hb
        · rename_i k' ks' h3 h4
          cases hb
          rw [eqDs, NestedKey.beqAll, nkD_eq a b k k' h1 h3, nkDs_eq as bs ks ks' h2 h4]
        · cases hb
    · cases ha
end
mutual
theorem keyB_nk : ∀ (d : D) (n : Nat), keyB d n = true → ∃ q, nkD d = some q ∧ q.depth ≤ n
  | .non, n, _ => ⟨_, rfl, Nat.zero_le _⟩
  | .bl b, n, _ => ⟨_, rfl, Nat.zero_le _⟩
  | .int i, n, _ => ⟨_, rfl, Nat.zero_le _⟩
  | .str x, n, _ => ⟨_, rfl, Nat.zero_le _⟩
  | .tup xs, 0, h => by simp [keyB] at h
  | .tup xs, n + 1, h => by
    obtain ⟨ks, h1, h2⟩ := keyBs_nk xs n (by simpa [keyB] using h)
    exact ⟨.tup ks, by simp [nkD, h1], by simpa [NestedKey.depth] using h2⟩
  | .fl _, _, h => by simp [keyB] at h
  | .sc _, _, h => by simp [keyB] at h
  | .dc _ _, _, h => by simp [keyB] at h
  | .ob _ _, _, h => by simp [keyB] at h
  | .ref _, _, h => by simp [keyB] at h
  | .cls _, _, h => by simp [keyB] at h
theorem keyBs_nk : ∀ (ds : List D) (n : Nat), keyBs ds n = true → ∃ qs, nkDs ds = some qs ∧ NestedKey.depthAll qs ≤ n
  | [], _, _ => ⟨[], rfl, Nat.zero_le _⟩
  | d :: ds, n, h => by
    simp only [keyBs, Bool.and_eq_true] at h
    obtain ⟨q, h1, h2⟩ := keyB_nk d n h.1
    obtain ⟨qs, h3, h4⟩ := keyBs_nk ds n h.2
    exact ⟨q :: qs, by simp [nkDs, h1, h3], by simp only [NestedKey.depthAll]; omega⟩
end
/-- what fits is a key -/
theorem fitK_key {w : World} {t t2 : Bool} {kvs : List (D × D)} {k : D} (h : fitK t kvs k = some t2) : (∃ x, KeyR w k x t2) ∧ (kvs = [] ∨ t2 = t) := by
  unfold fitK at h
  cases hL : keyL k with
  | true =>
    rw [hL] at h
    have key : ∃ x, KeyR w k x false := by
      cases k <;> first
        | (simp [keyL] at hL; done)
        | exact ⟨_, _, rfl, rfl⟩
    cases t <;> cases kvs <;> simp only at h <;> cases h
    · exact ⟨key, .inr rfl⟩
    · exact ⟨key, .inr rfl⟩
    · exact ⟨key, .inl rfl⟩
  | false =>
    rw [hL] at h
    cases hT : keyT k with
    | false => rw [hT] at h; cases h
    | true =>
      rw [hT] at h
      have key : ∃ x, KeyR w k x true := by
        cases k <;> first
          | (simp [keyT] at hT; done)
          | (rename_i xs
             obtain ⟨qs, h3, h4⟩ := keyBs_nk xs 7 (by simpa [keyT] using hT)
             exact ⟨_, ⟨xs, rfl⟩, .tup qs, by simp [nkD, h3], by simp only [NestedKey.depth]; omega, rfl⟩)
      cases t <;> cases kvs <;> simp only at h <;> cases h
      · exact ⟨key, .inl rfl⟩
      · exact ⟨key, .inr rfl⟩
      · exact ⟨key, .inr rfl⟩
section
variable {X : Cx} {pins : List (Addr × Obj)} {σ : L2.St} {H : Hp} {s : Shared} {K : PySem.W.Frag} {T : Ty} {ρ : Pm} {S : Store}
theorem keyD_v {k : D} {q : Key} {v : V} (hk : keyD k = some q) (r : RD K T ρ H k v) : v = kV q := by
  cases k <;> cases hk <;> cases r <;> rfl
theorem keyD_rd {k : D} {q : Key} (hk : keyD k = some q) : RD K T ρ H k (kV q) := by
  cases k <;> cases hk
  · exact .int _
  · exact .str _
mutual
theorem nk_is (I : L2.Inv X pins σ H s) : ∀ (d : D) (q : NestedKey) (v : V) (u : Value), nkD d = some q → RD X.K T ρ H d v → RelV v u → NestedIs s.heap q u
  | .non, q, v, u, h, r, ru => by cases h; cases r; cases (show u = Value.none from ru); exact .none
  | .bl b, q, v, u, h, r, ru => by cases h; cases r; cases (show u = Value.bool b from ru); exact .bool (by cases b <;> rfl)
  | .int i, q, v, u, h, r, ru => by cases h; cases r; obtain ⟨t, rfl⟩ := (show ∃ t, u = Value.int i t from ru); exact .int _ _
  | .str x, q, v, u, h, r, ru => by cases h; cases r; obtain ⟨t, rfl⟩ := (show ∃ t, u = Value.str ⟨x.toArray⟩ t from ru); exact .text _ _
  | .tup xs, q, v, u, h, r, ru => by
    simp only [nkD] at h
    obtain ⟨qs, hq, rfl⟩ := Option.map_eq_some_iff.mp h
    obtain ⟨a, vs, rfl, hs, rs⟩ := r.tup_inv
    cases (show u = Value.ref a from ru)
    obtain ⟨its, rv, ⟨o, h1, h2, n, h3⟩, _⟩ := I.tuple hs
    exact .tup h1 h2 h3 (by simpa using nks_is I xs qs vs its hq rs rv)
  | .fl _, _, _, _, h, _, _ => by cases h
  | .sc _, _, _, _, h, _, _ => by cases h
  | .dc _ _, _, _, _, h, _, _ => by cases h
  | .ob _ _, _, _, _, h, _, _ => by cases h
  | .ref _, _, _, _, h, _, _ => by cases h
  | .cls _, _, _, _, h, _, _ => by cases h
theorem nks_is (I : L2.Inv X pins σ H s) : ∀ (ds : List D) (qs : List NestedKey) (vs : List V) (us : List Value), nkDs ds = some qs → RDs X.K T ρ H ds vs → Vals vs us → NestedAll s.heap qs us
  | [], qs, vs, us, h, r, ru => by cases h; cases r; cases ru; exact .nil
  | d :: ds, qs, vs, us, h, r, ru => by
    unfold nkDs at h
    split at h
    · rename_i k ks h1 h2
      cases h
      cases r with
      | cons r1 r2 =>
        cases ru with
        | cons u1 u2 => exact .cons (nk_is I d k _ _ h1 r1 u1) (nks_is I ds ks _ _ h2 r2 u2)
    · cases h
end

/-! ### a dict whose keys are numbers and texts -/
abbrev PL (K : PySem.W.Frag) (T : Ty) (ρ : Pm) (H : Hp) : List (D × D) → List (Key × Value) → Prop := Paired fun p q => keyD p.1 = some q.1 ∧ ∃ v, RD K T ρ H p.2 v ∧ RelV v q.2
theorem PL.get {kvs : List (D × D)} {L : List (Key × Value)} {k : D} {q : Key} (hk : keyD k = some q) (r : PL K T ρ H kvs L) : match getK k kvs with
    | some d => ∃ u v, valueAt L q = some u ∧ RD K T ρ H d v ∧ RelV v u
    | none => valueAt L q = none := by
  induction r with
  | nil => rfl
  | @cons p e ps es h t ih =>
    obtain ⟨pk, pd⟩ := p
    obtain ⟨h1, v, h2, h3⟩ := h
    have he := keyD_eq h1 hk
    unfold getK
    rw [he]
    by_cases z : e.1 = q
    · rw [decide_eq_true z]
      exact ⟨e.2, v, by simp [valueAt, List.find?_cons, z], h2, h3⟩
    · rw [decide_eq_false z]
      have b : valueAt (e :: es) q = valueAt es q := by simp [valueAt, List.find?_cons, z]
      rw [b]
      exact ih
theorem PL.set {kvs : List (D × D)} {L : List (Key × Value)} {k d : D} {q : Key} {u : Value} {v : V} (hk : keyD k = some q) (rd : RD K T ρ H d v) (ru : RelV v u) (r : PL K T ρ H kvs L) : PL K T ρ H (setK k d kvs) (L.map fun kv => if kv.1 = q then (kv.1, u) else kv) := by
  induction r with
  | nil => exact .nil
  | @cons p e ps es h t ih =>
    obtain ⟨pk, pd⟩ := p
    obtain ⟨h1, v', h2, h3⟩ := h
    unfold setK
    rw [keyD_eq h1 hk, List.map_cons]
    by_cases z : e.1 = q
    · rw [decide_eq_true z, if_pos z]
      exact .cons ⟨h1, v, rd, ru⟩ ih
    · rw [decide_eq_false z, if_neg z]
      exact .cons ⟨h1, v', h2, h3⟩ ih
theorem PL.any {kvs : List (D × D)} {L : List (Key × Value)} {k : D} {q : Key} (hk : keyD k = some q) (r : PL K T ρ H kvs L) : (getK k kvs).isSome = L.any fun kv => kv.1 = q := by
  induction r with
  | nil => rfl
  | @cons p e ps es h t ih =>
    obtain ⟨pk, pd⟩ := p
    obtain ⟨h1, v', h2, h3⟩ := h
    unfold getK
    rw [keyD_eq h1 hk, List.any_cons]
    by_cases z : e.1 = q
    · simp [z]
    · simp [z, ih]
theorem PL.put {kvs : List (D × D)} {L : List (Key × Value)} {k d : D} {q : Key} {u : Value} {v : V} (hk : keyD k = some q) (rd : RD K T ρ H d v) (ru : RelV v u) (r : PL K T ρ H kvs L) : PL K T ρ H (putK kvs k d) (stored L q u) := by
  have ha := r.any hk
  unfold putK stored
  cases g : getK k kvs with
  | some x =>
    rw [g] at ha
    rw [if_pos (show (L.any fun kv => decide (kv.1 = q)) = true from ha.symm)]
    exact r.set hk rd ru
  | none =>
    rw [g] at ha
    rw [if_neg (by rw [← ha]; simp)]
    exact Paired.snoc r ⟨hk, v, rd, ru⟩
theorem PL.del {kvs : List (D × D)} {L : List (Key × Value)} {k : D} {q : Key} (hk : keyD k = some q) (r : PL K T ρ H kvs L) : PL K T ρ H (delK k kvs) (without L q) := by
  induction r with
  | nil => exact .nil
  | @cons p e ps es h t ih =>
    obtain ⟨pk, pd⟩ := p
    obtain ⟨h1, v', h2, h3⟩ := h
    unfold delK
    rw [keyD_eq h1 hk]
    unfold without at ih ⊢
    rw [List.filter_cons]
    by_cases z : e.1 = q
    · have a : ¬ decide (e.1 ≠ q) = true := by simp [z]
      rw [decide_eq_true z, if_neg a]
      exact ih
    · have a : decide (e.1 ≠ q) = true := by simp [z]
      rw [decide_eq_false z, if_pos a]
      exact .cons ⟨h1, v', h2, h3⟩ ih
theorem PL.nd {kvs : List (D × D)} {L : List (Key × Value)} (r : PL K T ρ H kvs L) : NdK kvs ↔ (L.map (·.1)).Nodup := by
  unfold NdK
  induction r with
  | nil => simp
  | @cons p e ps es h t ih =>
    obtain ⟨h1, _⟩ := h
    rw [List.map_cons, List.map_cons, List.pairwise_cons, List.nodup_cons, ih]
    have key : (∀ a ∈ ps.map (·.1), eqD p.1 a = false) ↔ e.1 ∉ es.map (·.1) := by
      clear ih
      induction t with
      | nil => simp
      | @cons p' e' ps' es' h' t' ih' =>
        obtain ⟨h1', _⟩ := h'
        rw [List.map_cons, List.map_cons, List.forall_mem_cons, List.mem_cons, not_or, ih', keyD_eq h1 h1']
        simp
    rw [key]
theorem toL (hw : T.w = X.w) {a : Addr} {xs : Ents} {kvs : List (D × D)} (hp : DyP a xs s.heap) (r : RVs X.K T ρ H false kvs xs) (nd : NdK kvs) : ∃ L, s.heap.DictOf (mixKind X.prog X.w) a L ∧ PL X.K T ρ H kvs L := by
  obtain ⟨hl, hs, o, es, ep, h1, h2, h3, h4⟩ := hp
  have key : ∀ {t : Bool} {kvs : List (D × D)} {xs : Ents} {es : List DictEntry}, t = false → RVs X.K T ρ H t kvs xs → Paired EntR xs es → ∃ L, PySem.Pairs (mixKind X.prog X.w) es L ∧ PL X.K T ρ H kvs L ∧ ∀ e ∈ es, ∃ k, (mixKind X.prog X.w).is k e.key = true ∧ e.hash = (mixKind X.prog X.w).hash k := by
    intro t kvs xs es ht r
    induction kvs generalizing xs es with
    | nil => cases r; intro p; cases p; exact ⟨[], .nil, .nil, fun _ z => nomatch z⟩
    | cons kv kvs ih =>
      cases r with
      | cons hk rk rd rr =>
        subst ht
        intro p
        cases p with
        | cons pe pt =>
          obtain ⟨L, g1, g2, g3⟩ := ih rr pt
          obtain ⟨q, hq, rfl⟩ := hk
          obtain ⟨e1, e2, e3⟩ := pe
          have ek := keyD_v hq rk
          subst ek
          refine ⟨(q, _) :: L, .cons (kV_is e2) rfl g1, .cons ⟨hq, _, rd, e3⟩ g2, fun e he => ?_⟩
          rcases List.mem_cons.mp he with rfl | he
          · exact ⟨q, kV_is e2, by rw [e1, hw]; rfl⟩
          · exact g3 e he
  obtain ⟨L, g1, g2, g3⟩ := key rfl r h4
  exact ⟨L, ⟨o, es, ep, h1, h2, h3, fun e he => g3 e (Array.mem_toList_iff.mpr he), g1, g2.nd.mp nd⟩, g2⟩
theorem fromL (hw : T.w = X.w) {a : Addr} {h : Heap} {L : List (Key × Value)} {kvs : List (D × D)} (hd : h.DictOf (mixKind X.prog X.w) a L) (r : PL K T ρ H kvs L) (hl : kvs.length ≤ sizeLine) (hs : (a == sysModules) = false) : ∃ xs, DyP a xs h ∧ RVs K T ρ H false kvs xs ∧ NdK kvs := by
  obtain ⟨o, es, ep, h1, h2, h3, h4, h5, h6⟩ := hd
  have key : ∀ {kvs : List (D × D)} {L : List (Key × Value)} {es : List DictEntry}, PySem.Pairs (mixKind X.prog X.w) es L → PL K T ρ H kvs L → (∀ e ∈ es, ∃ k, (mixKind X.prog X.w).is k e.key = true ∧ e.hash = (mixKind X.prog X.w).hash k) → ∃ xs, Paired EntR xs es ∧ RVs K T ρ H false kvs xs ∧ xs.length = kvs.length := by
    intro kvs L es p
    induction p generalizing kvs with
    | nil => intro r _; cases r; exact ⟨[], .nil, .nil, rfl⟩
    | @cons e kv es L hk hv t ih =>
      intro r hh
      cases r with
      | @cons p _ ps _ h t' =>
        obtain ⟨g1, v, g2, g3⟩ := h
        obtain ⟨xs, x1, x2, x3⟩ := ih t' fun e he => hh e (List.mem_cons_of_mem _ he)
        obtain ⟨k0, z1, z2⟩ := hh e List.mem_cons_self
        have ek := (mixKind X.prog X.w).inj _ _ _ z1 hk
        rw [← ek] at g1
        clear ek
        have rk : RelV (kV k0) e.key := by
          rcases keyIs_shape (show keyIs k0 e.key = true from z1) with ⟨i, tk, rfl, e2⟩ | ⟨y, tk, rfl, e2⟩
          · rw [e2]; exact ⟨tk, rfl⟩
          · rw [e2]; exact ⟨tk, rfl⟩
        exact ⟨((mixKind X.prog X.w).hash k0, kV k0, v) :: xs, .cons ⟨z2, rk, by rw [hv]; exact g3⟩ x1, .cons ⟨k0, g1, by rw [hw]; rfl⟩ (keyD_rd g1) g2 x2, by simp [x3]⟩
  obtain ⟨xs, x1, x2, x3⟩ := key h5 r fun e he => h4 e (Array.mem_toList_iff.mp he)
  exact ⟨xs, ⟨by rw [x3]; exact hl, hs, o, es, ep, h1, h2, h3, x1⟩, x2, r.nd.mpr h6⟩

/-! ### a dict whose keys are tuples -/
abbrev PT' (K : PySem.W.Frag) (T : Ty) (ρ : Pm) (H : Hp) : List (D × D) → List (NestedKey × Addr × Value) → Prop := Paired fun p q => nkD p.1 = some q.1 ∧ q.1.depth ≤ 8 ∧ (∃ xs, p.1 = .tup xs) ∧ RD K T ρ H p.1 (.ref q.2.1) ∧ ∃ v, RD K T ρ H p.2 v ∧ RelV v q.2.2
theorem nk_dec {a b : D} {p q : NestedKey} (ha : nkD a = some p) (hb : nkD b = some q) : eqD a b = decide (p = q) := by rw [nkD_eq a b p q ha hb, NestedKey.decide_eq]
theorem PT'.get {kvs : List (D × D)} {L : List (NestedKey × Addr × Value)} {k : D} {q : NestedKey} (hk : nkD k = some q) (r : PT' K T ρ H kvs L) : match getK k kvs with
    | some d => ∃ b u v, atKey L q = some (b, u) ∧ RD K T ρ H d v ∧ RelV v u
    | none => atKey L q = none := by
  induction r with
  | nil => rfl
  | @cons p e ps es h t ih =>
    obtain ⟨pk, pd⟩ := p
    obtain ⟨ek, eb, ev⟩ := e
    obtain ⟨h1, _, _, _, v, h2, h3⟩ := h
    have he := nk_dec h1 hk
    unfold getK
    rw [he]
    by_cases z : ek = q
    · rw [decide_eq_true z]
      exact ⟨eb, ev, v, by simp [atKey, List.find?_cons, z], h2, h3⟩
    · rw [decide_eq_false z]
      have b : atKey ((ek, eb, ev) :: es) q = atKey es q := by simp [atKey, List.find?_cons, z]
      rw [b]
      exact ih
theorem PT'.set {kvs : List (D × D)} {L : List (NestedKey × Addr × Value)} {k d : D} {q : NestedKey} {u : Value} {v : V} (hk : nkD k = some q) (rd : RD K T ρ H d v) (ru : RelV v u) (r : PT' K T ρ H kvs L) : PT' K T ρ H (setK k d kvs) (L.map (putAt q u)) := by
  induction r with
  | nil => exact .nil
  | @cons p e ps es h t ih =>
    obtain ⟨pk, pd⟩ := p
    obtain ⟨ek, eb, ev⟩ := e
    obtain ⟨h1, h2, h3, h4, v', h5, h6⟩ := h
    unfold setK
    rw [nk_dec h1 hk, List.map_cons]
    unfold putAt
    by_cases z : ek = q
    · rw [decide_eq_true z, if_pos z]
      exact .cons ⟨h1, h2, h3, h4, v, rd, ru⟩ ih
    · rw [decide_eq_false z, if_neg z]
      exact .cons ⟨h1, h2, h3, h4, v', h5, h6⟩ ih
theorem PT'.put {kvs : List (D × D)} {L : List (NestedKey × Addr × Value)} {k d : D} {q : NestedKey} {b : Addr} {u : Value} {v : V} (hk : nkD k = some q) (hd : q.depth ≤ 8) (ht : ∃ xs, k = .tup xs) (rk : RD K T ρ H k (.ref b)) (rd : RD K T ρ H d v) (ru : RelV v u) (r : PT' K T ρ H kvs L) : PT' K T ρ H (putK kvs k d) (storedH L q b u) := by
  have ha := r.get hk
  unfold putK storedH
  cases g : getK k kvs with
  | some x =>
    rw [g] at ha
    obtain ⟨b', u', v', e, _⟩ := ha
    rw [if_pos (by rw [e]; rfl)]
    exact r.set hk rd ru
  | none =>
    rw [g] at ha
    rw [if_neg (by rw [show atKey L q = none from ha]; simp)]
    exact Paired.snoc r ⟨hk, hd, ht, rk, v, rd, ru⟩
theorem PT'.del {kvs : List (D × D)} {L : List (NestedKey × Addr × Value)} {k : D} {q : NestedKey} (hk : nkD k = some q) (r : PT' K T ρ H kvs L) : PT' K T ρ H (delK k kvs) (withoutH L q) := by
  induction r with
  | nil => exact .nil
  | @cons p e ps es h t ih =>
    obtain ⟨pk, pd⟩ := p
    obtain ⟨ek, eb, ev⟩ := e
    unfold delK
    rw [nk_dec h.1 hk]
    unfold withoutH at ih ⊢
    rw [List.filter_cons]
    by_cases z : ek = q
    · rw [decide_eq_true z]
      simpa [z] using ih
    · rw [decide_eq_false z]
      simp only [ne_eq, z, not_false_eq_true, decide_true, if_true]
      first
        | exact .cons h ih
        | (simp [z]; exact .cons h ih)
theorem PT'.nd {kvs : List (D × D)} {L : List (NestedKey × Addr × Value)} (r : PT' K T ρ H kvs L) : NdK kvs ↔ (L.map (·.1)).Nodup := by
  unfold NdK
  induction r with
  | nil => simp
  | @cons p e ps es h t ih =>
    have h1 := h.1
    rw [List.map_cons, List.map_cons, List.pairwise_cons, List.nodup_cons, ih]
    have key : (∀ a ∈ ps.map (·.1), eqD p.1 a = false) ↔ e.1 ∉ es.map (·.1) := by
      clear ih
      induction t with
      | nil => simp
      | @cons p' e' ps' es' h' t' ih' =>
        rw [List.map_cons, List.map_cons, List.forall_mem_cons, List.mem_cons, not_or, ih', nk_dec h1 h'.1]
        simp
    rw [key]
theorem PT'.is (I : L2.Inv X pins σ H s) {kvs : List (D × D)} {L : List (NestedKey × Addr × Value)} (r : PT' X.K T ρ H kvs L) : ∀ x ∈ L, (nestedKind X.prog X.w).is s.heap x.1 x.2.1 := by
  induction r with
  | nil => exact fun _ z => nomatch z
  | @cons p e ps es h t ih =>
    intro x hx
    rcases List.mem_cons.mp hx with rfl | hx
    · exact ⟨nk_is I p.1 x.1 _ _ h.1 h.2.2.2.1 rfl, h.2.1⟩
    · exact ih x hx
theorem toT (I : L2.Inv X pins σ H s) (hw : T.w = X.w) {a : Addr} {xs : Ents} {kvs : List (D × D)} (hp : DyP a xs s.heap) (r : RVs X.K T ρ H true kvs xs) (nd : NdK kvs) : ∃ L, s.heap.DictOfH (nestedKind X.prog X.w) a L ∧ PT' X.K T ρ H kvs L := by
  obtain ⟨hl, hs, o, es, ep, h1, h2, h3, h4⟩ := hp
  have key : ∀ {t : Bool} {kvs : List (D × D)} {xs : Ents} {es : List DictEntry}, t = true → RVs X.K T ρ H t kvs xs → Paired EntR xs es → ∃ L, es = L.map (entryOfKey (nestedKind X.prog X.w)) ∧ PT' X.K T ρ H kvs L := by
    intro t kvs xs es ht r
    induction kvs generalizing xs es with
    | nil => cases r; intro p; cases p; exact ⟨[], rfl, .nil⟩
    | cons kv kvs ih =>
      cases r with
      | cons hk rk rd rr =>
        subst ht
        intro p
        cases p with
        | @cons _ e _ _ pe pt =>
          obtain ⟨L, g1, g2⟩ := ih rr pt
          obtain ⟨⟨ys, hy⟩, q, hq, hq8, rfl⟩ := hk
          obtain ⟨e1, e2, e3⟩ := pe
          subst hy
          obtain ⟨b, vs, ek, _⟩ := rk.tup_inv
          subst ek
          obtain ⟨eh, ekey, eval⟩ := e
          cases (show ekey = Value.ref b from e2)
          refine ⟨(q, b, eval) :: L, ?_, .cons ⟨hq, hq8, ⟨ys, rfl⟩, rk, _, rd, e3⟩ g2⟩
          rw [List.map_cons, g1]
          have : eh = q.hash X.w := by rw [← hw]; exact e1
          rw [this]
          rfl
  obtain ⟨L, g1, g2⟩ := key rfl r h4
  exact ⟨L, ⟨o, es, ep, h1, h2, h3, g1, g2.is I, g2.nd.mp nd⟩, g2⟩
theorem fromT (hw : T.w = X.w) {a : Addr} {h : Heap} {L : List (NestedKey × Addr × Value)} {kvs : List (D × D)} (hd : h.DictOfH (nestedKind X.prog X.w) a L) (r : PT' K T ρ H kvs L) (hl : kvs.length ≤ sizeLine) (hs : (a == sysModules) = false) : ∃ xs, DyP a xs h ∧ RVs K T ρ H true kvs xs ∧ NdK kvs := by
  obtain ⟨o, es, ep, h1, h2, h3, h4, h5, h6⟩ := hd
  have key : ∀ {kvs : List (D × D)} {L : List (NestedKey × Addr × Value)}, PT' K T ρ H kvs L → ∃ xs, Paired EntR xs (L.map (entryOfKey (nestedKind X.prog X.w))) ∧ RVs K T ρ H true kvs xs ∧ xs.length = kvs.length := by
    intro kvs L r
    induction r with
    | nil => exact ⟨[], .nil, .nil, rfl⟩
    | @cons p e ps es h t ih =>
      obtain ⟨xs, x1, x2, x3⟩ := ih
      obtain ⟨g1, g2, g3, g4, v, g5, g6⟩ := h
      exact ⟨(e.1.hash X.w, .ref e.2.1, v) :: xs, .cons ⟨rfl, rfl, g6⟩ x1, .cons ⟨g3, e.1, g1, g2, by rw [hw]⟩ g4 g5 x2, by simp [x3]⟩
  obtain ⟨xs, x1, x2, x3⟩ := key r
  exact ⟨xs, ⟨by rw [x3]; exact hl, hs, o, es, ep, h1, h2, h3, by rw [h4]; exact x1⟩, x2, r.nd.mpr h6⟩
/-- without keys it is of either kind -/
theorem RVs.any {t : Bool} {kvs : List (D × D)} {xs : Ents} {t2 : Bool} (h : kvs = [] ∨ t2 = t) (r : RVs K T ρ H t kvs xs) : RVs K T ρ H t2 kvs xs := by
  rcases h with h | h
  · subst h; cases r; exact .nil
  · subst h; exact r
end
end Lk
end

section
/-! Eo: look-ups and stores. -/
set_option Elab.async false
set_option linter.all false
set_option maxRecDepth 100000
set_option maxHeartbeats 2000000
namespace Lk
open PySem PySem.Spec PyProof.Rows L2 SlX
/-- a dict of the evaluator's, in the model -/
structure DkAt (K : PySem.W.Frag) (T : Ty) (ρ : Pm) (H : Hp) (a : Addr) (t : Bool) (kvs : List (D × D)) : Prop where
  ex : ∃ xs, Rd H a (DyO a xs) ∧ NdK kvs ∧ RVs K T ρ H t kvs xs
section
variable {X : Cx} {pins : List (Addr × Obj)} {σ : L2.St} {H : Hp} {s : Shared} {K : PySem.W.Frag} {T : Ty} {ρ : Pm} {S : Store} {A : Around} {E : Value → Shared → Prop} {a : Addr} {t t2 : Bool} {kvs : List (D × D)} {k d : D} {u w : Value} {vk vd : V}
theorem dict_inv (m : RS K T ρ S H) {v : V} (h : dictOf S d = some (t, kvs)) (r : RD K T ρ H d v) : ∃ a, v = .ref a ∧ DkAt K T ρ H a t kvs := by
  unfold dictOf at h
  split at h
  · cases h
    cases r with
    | dc h1 _ _ h2 h3 => exact ⟨_, rfl, _, .inr ⟨_, h1⟩, h2, h3⟩
  · cases r with
    | @ref n p hn =>
      split at h
      · rename_i g
        cases h
        obtain ⟨p', h1, xs, h2, h3, h4⟩ := m.at_ _ _ g
        rw [hn] at h1
        cases h1
        exact ⟨p, rfl, xs, .inl h2, h3, h4⟩
      · cases h
  · cases h
theorem DkAt.dy (I : L2.Inv X pins σ H s) (dk : DkAt X.K T ρ H a t kvs) : ∃ xs, Rd H a (DyO a xs) ∧ DyP a xs s.heap ∧ NdK kvs ∧ RVs X.K T ρ H t kvs xs := by
  obtain ⟨xs, h1, h2, h3⟩ := dk.ex
  exact ⟨xs, h1, (h1.ok I.hok).1, h2, h3⟩
theorem RVs.len : ∀ {t : Bool} {kvs : List (D × D)} {xs : Ents}, RVs K T ρ H t kvs xs → kvs.length = xs.length
  | _, _, _, .nil => rfl
  | _, _, _, .cons _ _ _ r => by simp [RVs.len r]
theorem DkAt.small (I : L2.Inv X pins σ H s) (dk : DkAt X.K T ρ H a t kvs) : kvs.length ≤ sizeLine := by
  obtain ⟨xs, _, hp, _, r⟩ := dk.dy I
  rw [r.len]; exact hp.1
theorem DkAt.nsys (I : L2.Inv X pins σ H s) (dk : DkAt X.K T ρ H a t kvs) : (a == sysModules) = false := by
  obtain ⟨xs, _, hp, _⟩ := dk.dy I
  exact hp.2.1
theorem DkAt.typ (I : L2.Inv X pins σ H s) (dk : DkAt X.K T ρ H a t kvs) : s.TypeIs (.ref a) "dict" := by
  obtain ⟨xs, _, ⟨_, _, o, es, ep, h1, h2, _⟩, _⟩ := dk.dy I
  exact ⟨o, h1, h2.1⟩
theorem DkAt.bare (I : L2.Inv X pins σ H s) (dk : DkAt X.K T ρ H a t kvs) : ∃ ob, s.heap.get? a = some ob ∧ ob.dict = none := by
  obtain ⟨xs, _, ⟨_, _, o, es, ep, h1, h2, _⟩, _⟩ := dk.dy I
  exact ⟨o, h1, h2.2.1⟩
theorem DkAt.any (h : kvs = [] ∨ t2 = t) (dk : DkAt K T ρ H a t kvs) : DkAt K T ρ H a t2 kvs := by
  obtain ⟨xs, h1, h2, h3⟩ := dk.ex
  exact ⟨xs, h1, h2, h3.any h⟩
/-- what a look-up finds -/
def Found (K : PySem.W.Frag) (T : Ty) (ρ : Pm) (H : Hp) (o : Option D) (r : Option Value) : Prop := match o with
  | some d => ∃ u v, r = some u ∧ RD K T ρ H d v ∧ RelV v u
  | none => r = none
theorem run_find (I : L2.Inv X pins σ H s) (hw : T.w = X.w) (hu : A.units + 8 < cLine) (dk : DkAt X.K T ρ H a t kvs) (hf : fitK t kvs k = some t2) (rk : RD X.K T ρ H k vk) (ru : RelV vk u) {Q : Option Value → Shared → Prop} (h : ∀ r n, Found X.K T ρ H (getK k kvs) r → Q r { s with toks := n }) :
    wpAny (model X.prog X.w) A (dictGet a u) Q E s := by
  obtain ⟨⟨x, hx⟩, hor⟩ := fitK_key (w := T.w) hf
  obtain ⟨xs, _, hp, nd, r⟩ := (dk.any hor).dy I
  cases t2 with
  | false =>
    obtain ⟨q, hq, _⟩ := hx
    obtain ⟨L, g1, g2⟩ := toL hw hp r nd
    have ek := keyD_v hq rk
    subst ek
    have := g2.get hq
    refine wpAny_dictGet_of (kV_is ru) g1.mapOf (h _ _ ?_)
    unfold Found
    revert this
    cases getK k kvs with
    | none => exact fun z => z
    | some d => exact fun ⟨u, v, z1, z2, z3⟩ => ⟨u, v, z1, z2, z3⟩
  | true =>
    obtain ⟨⟨ys, hy⟩, q, hq, hq8, _⟩ := hx
    obtain ⟨L, g1, g2⟩ := toT I hw hp r nd
    subst hy
    obtain ⟨b, vs, ek, _⟩ := rk.tup_inv
    subst ek
    cases (show u = Value.ref b from ru)
    have := g2.get hq
    refine wpAny_dictGet_heap (knd := nestedKind X.prog X.w) hu ⟨nk_is I _ _ _ _ hq rk rfl, hq8⟩ g1 (h _ _ ?_)
    unfold Found
    revert this
    cases getK (.tup ys) kvs with
    | none => intro z; rw [show atKey L q = none from z]; rfl
    | some d => exact fun ⟨b', u, v, z1, z2, z3⟩ => ⟨u, v, by rw [z1]; rfl, z2, z3⟩
theorem Found.isSome {o : Option D} {r : Option Value} (h : Found K T ρ H o r) : o.isSome = r.isSome := by
  cases o with
  | none => rw [show r = none from h]; rfl
  | some d => obtain ⟨u, v, e, _⟩ := h; rw [e]; rfl
/-- k in d -/
theorem run_has (I : L2.Inv X pins σ H s) (hw : T.w = X.w) (hu : A.units + 9 < cLine) (dk : DkAt X.K T ρ H a t kvs) (hf : fitK t kvs k = some t2) (rk : RD X.K T ρ H k vk) (ru : RelV vk u) {Q : Bool → Shared → Prop} (h : ∀ n, Q (getK k kvs).isSome { s with toks := n }) :
    wpAny (model X.prog X.w) A (contains (.ref a) u) Q E s := by
  have ty := dk.typ I
  refine wpAny_contains_slot ty F.slot_dict_contains (wpAny_call_entry F.slot_dict_contains ty F.entry_dict_contains ?_ (F.args_dict_contains_2 _ _))
  show wpAny _ A.in1 (dictGet a u >>= _) _ _ s
  refine wpAny_bind (run_find I hw (by rw [Around.in1_units]; omega) dk hf rk ru fun r n hr => ?_)
  have hi := hr.isSome
  have hq := h n
  rw [hi] at hq
  cases r with
  | some x =>
    show wpAny _ _ (ret (.bool true)) _ _ _
    exact wpAny_pure ⟨_, rfl, wpAny_truthy_bool hq⟩
  | none =>
    show wpAny _ _ (Builtin.Dict.pendingKey? a u >>= _) _ _ _
    exact wpAny_bind (wpAny_pendingKey_other (dk.nsys I) (wpAny_pure ⟨_, rfl, wpAny_truthy_bool hq⟩))
/-- d[k], there -/
theorem run_item (I : L2.Inv X pins σ H s) (hw : T.w = X.w) (hu : A.units + 9 < cLine) (dk : DkAt X.K T ρ H a t kvs) (hf : fitK t kvs k = some t2) (rk : RD X.K T ρ H k vk) (ru : RelV vk u) (hg : getK k kvs = some d) {Q : Value → Shared → Prop} (h : ∀ x v n, RD X.K T ρ H d v → RelV v x → Q x { s with toks := n }) :
    wpAny (model X.prog X.w) A (getItem (.ref a) u) Q E s := by
  have ty := dk.typ I
  unfold getItem
  refine wpAny_holding (wpAny_bind (wpAny_sequenceKey ty (by decide) (wpAny_bind ?_)))
  refine wpAny_callSpecial?_slot (name := Str.ofString "__getitem__") ty F.slot_dict_getitem (wpAny_call_entry F.slot_dict_getitem ty F.entry_dict_getitem ?_ (F.args_dict_getitem_2 _ _))
  show wpAny _ A.in1 (dictGet a u >>= _) _ _ s
  refine wpAny_bind (run_find I hw (by rw [Around.in1_units]; omega) dk hf rk ru fun r n hr => ?_)
  rw [hg] at hr
  obtain ⟨x, v, rfl, r1, r2⟩ := hr
  exact wpAny_pure ⟨x, rfl, wpAny_pure (h x v n r1 r2)⟩
/-- d.get(k), d.get(k, x) -/
theorem run_get1 (I : L2.Inv X pins σ H s) (hw : T.w = X.w) (hu : A.units + 9 < cLine) (dk : DkAt X.K T ρ H a t kvs) (hf : fitK t kvs k = some t2) (rk : RD X.K T ρ H k vk) (ru : RelV vk u) {Q : Value → Shared → Prop} (h : ∀ r n, Found X.K T ρ H (getK k kvs) r → Q (r.getD .none) { s with toks := n }) :
    wpAny (model X.prog X.w) A (call (.builtin "dict.get") [.ref a, u]) Q E s := by
  refine wpAny_call_entry F.slot_dict_get (dk.typ I) F.entry_dict_get ?_ (F.args_dict_get_2 _ _)
  show wpAny _ A.in1 (dictGet a u >>= _) _ _ s
  refine wpAny_bind (run_find I hw (by rw [Around.in1_units]; omega) dk hf rk ru fun r n hr => ?_)
  have hq := h r n hr
  cases r with
  | some x => exact wpAny_pure ⟨x, rfl, hq⟩
  | none =>
    show wpAny _ _ (Builtin.Dict.missed a u >>= _) _ _ _
    exact wpAny_bind (wpAny_missed_other (dk.nsys I) (wpAny_pure ⟨_, rfl, hq⟩))
theorem run_get2 (I : L2.Inv X pins σ H s) (hw : T.w = X.w) (hu : A.units + 9 < cLine) (dk : DkAt X.K T ρ H a t kvs) (hf : fitK t kvs k = some t2) (rk : RD X.K T ρ H k vk) (ru : RelV vk u) {Q : Value → Shared → Prop} (h : ∀ r n, Found X.K T ρ H (getK k kvs) r → Q (r.getD w) { s with toks := n }) :
    wpAny (model X.prog X.w) A (call (.builtin "dict.get") [.ref a, u, w]) Q E s := by
  refine wpAny_call_entry F.slot_dict_get (dk.typ I) F.entry_dict_get ?_ (F.args_dict_get_3 _ _ _)
  show wpAny _ A.in1 (dictGet a u >>= _) _ _ s
  refine wpAny_bind (run_find I hw (by rw [Around.in1_units]; omega) dk hf rk ru fun r n hr => ?_)
  have hq := h r n hr
  cases r with
  | some x => exact wpAny_pure ⟨x, rfl, hq⟩
  | none =>
    show wpAny _ _ (Builtin.Dict.missed a u >>= _) _ _ _
    exact wpAny_bind (wpAny_missed_other (dk.nsys I) (wpAny_pure ⟨_, rfl, hq⟩))
theorem putK_len (kvs : List (D × D)) (k d : D) : (putK kvs k d).length ≤ kvs.length + 1 := by
  have : ∀ l : List (D × D), (setK k d l).length = l.length := by
    intro l
    induction l with
    | nil => rfl
    | cons p l ih => obtain ⟨q, v⟩ := p; unfold setK; split <;> simp [ih]
  unfold putK
  split
  · rw [this]; omega
  · simp
theorem dy_obj {xs : Ents} {h : Heap} {H' : Hp} (hp : DyP a xs h) : ObjOk X.prog X.w H' h a (DyO a xs) := by
  obtain ⟨h0, h1, o, es, ep, h2, r⟩ := hp
  exact ⟨⟨h0, h1, o, es, ep, h2, r⟩, ⟨o, h2⟩, fun g1 g2 ⟨z0, z1, o', es', ep', z2, z3⟩ k => ⟨z0, z1, o', es', ep', k _ z2, z3⟩⟩
/-- d[k] = v: the heap is the same but for d -/
theorem run_put (I : L2.Inv X pins σ H s) (hw : T.w = X.w) (hu : A.units + 9 < cLine) (dk : DkAt X.K T ρ H a t kvs) (hf : fitK t kvs k = some t2) (hl : kvs.length < sizeMax) (rk : RD X.K T ρ H k vk) (ru : RelV vk u) (rd : RD X.K T ρ H d vd) (rw' : RelV vd w)
    {Q : Unit → Shared → Prop} (h : ∀ h' n xs, DyP a xs h' → RVs X.K T ρ H t2 (putK kvs k d) xs → NdK (putK kvs k d) → Heap.SameBut a s.heap h' → Q () { s with heap := h', toks := n }) :
    wpAny (model X.prog X.w) A (setItem (.ref a) u w) Q E s := by
  obtain ⟨⟨x, hx⟩, hor⟩ := fitK_key (w := T.w) hf
  obtain ⟨xs, _, hp, nd, r⟩ := (dk.any hor).dy I
  have hz := dk.small I
  have hl2 : (putK kvs k d).length ≤ sizeLine := sizeMax_le (Nat.le_trans (putK_len kvs k d) hl)
  cases t2 with
  | false =>
    obtain ⟨q, hq, _⟩ := hx
    obtain ⟨L, g1, g2⟩ := toL hw hp r nd
    have ek := keyD_v hq rk
    subst ek
    refine wpAny_setItem_pairs (kV_is ru) g1 (fun h' hd' hs => ?_) (by rw [← g2.length]; exact hz)
    obtain ⟨xs', f1, f2, f3⟩ := fromL hw hd' (g2.put hq rd rw') hl2 (dk.nsys I)
    exact h h' _ xs' f1 f2 f3 hs
  | true =>
    obtain ⟨⟨ys, hy⟩, q, hq, hq8, _⟩ := hx
    obtain ⟨L, g1, g2⟩ := toT I hw hp r nd
    subst hy
    obtain ⟨b, vs, ek, _⟩ := rk.tup_inv
    subst ek
    cases (show u = Value.ref b from ru)
    refine wpAny_setItem_heap (knd := nestedKind X.prog X.w) (show A.in1.units + 8 < cLine by rw [Around.in1_units]; omega) ⟨nk_is I _ _ _ _ hq rk rfl, hq8⟩ g1 (fun h' hd' hs => ?_) (by rw [← g2.length]; exact hz)
    obtain ⟨xs', f1, f2, f3⟩ := fromT hw hd' (g2.put hq hq8 ⟨ys, rfl⟩ rk rd rw') hl2 (dk.nsys I)
    exact h h' _ xs' f1 f2 f3 hs
end
end Lk
end

section
/-! Ee: == of dicts of data. -/
set_option Elab.async false
set_option linter.all false
set_option maxRecDepth 100000
set_option maxHeartbeats 2000000
namespace Lk
open PySem PySem.Spec PyProof.Rows L2 SlX
section
variable {X : Cx} {pins : List (Addr × Obj)} {σ : L2.St} {H : Hp} {s : Shared} {K : PySem.W.Frag} {T : Ty} {ρ : Pm} {S : Store} {A : Around} {E : Value → Shared → Prop} {a a2 : Addr} {t t2 : Bool} {kvs kvs2 : List (D × D)} {b : Bool}
theorem run_dictEq {Q : Value → Shared → Prop} (I : L2.Inv X pins σ H s) (m : RS X.K T ρ S H) (hw : T.w = X.w) (hu : A.units + 80 < cLine) (dk : DkAt X.K T ρ H a t kvs) (dk2 : DkAt X.K T ρ H a2 t2 kvs2) (e : eqDc S (t, kvs) (t2, kvs2) = some b) (h : Q (.bool b) s) :
    wpAny (model X.prog X.w) A (compareOp .Eq (.ref a) (.ref a2)) Q E s := by
  cases e
theorem run_dictNe {Q : Value → Shared → Prop} (I : L2.Inv X pins σ H s) (m : RS X.K T ρ S H) (hw : T.w = X.w) (hu : A.units + 80 < cLine) (dk : DkAt X.K T ρ H a t kvs) (dk2 : DkAt X.K T ρ H a2 t2 kvs2) (e : eqDc S (t, kvs) (t2, kvs2) = some b) (h : Q (.bool (!b)) s) :
    wpAny (model X.prog X.w) A (compareOp .NotEq (.ref a) (.ref a2)) Q E s := by
  cases e
end
end Lk
end

section
/-! Ep: comparisons and subscripts, of dicts too. -/
set_option Elab.async false
set_option linter.all false
set_option maxRecDepth 100000
set_option maxHeartbeats 2000000
namespace Lk
open PySem PySem.Spec PyProof.Rows L2 SlX
/-- d[i], d a dict: what is behind its operands -/
theorem dict_tail {prog : Program} {w : World} {A : Around} {E : Value → Shared → Prop} {s : Shared} {value slice : Expr} {d i : Value} {Q : Value → Shared → Prop} (ty : s.TypeIs d "dict") (hs : subscripted slice false d i = operate [d, i] (getItem d i)) (h : wpAny (model prog w) A (getItem d i) Q E s) :
    wpAny (model prog w) A (subscriptTail value slice d i) Q E s := by
  have last : wpAny (model prog w) A (subscripted slice false d i) (fun r s1 => wpAny (model prog w) A (letTemporaryGo value d r >>= fun _ => pure r) Q E s1) E s := by
    rw [hs]
    exact wpAny_operating (wpAny_mono h (fun r s1 q => wpAny_bind (wpAny_letTemporaryGo (wpAny_pure q))) fun _ _ x => x)
  unfold subscriptTail
  refine wpAny_bind ?_
  rw [getitemInPython_of_ne ty.not_modules]
  refine wpAny_bind (wpAny_specialOf ty PySem.F.slot_dict_getitem.lookup ?_)
  first
    | exact wpAny_pure (wpAny_bind last)
    | exact wpAny_bind (wpAny_pure (wpAny_bind last))
    | exact wpAny_bind last
section
variable {X : Cx} {F : Fx} {W : WX} {K : PySem.W.Frag} {T : Ty} {ρ : Pm} {H : Hp} {S : Store}
/-- a comparison of the evaluator's -/
def CmpR (X : Cx) (F : Fx) (o : Cop) : R2 := fun v w H Q => ∃ ρ x y S b, RS X.K F.T ρ S H ∧ RD X.K F.T ρ H x v ∧ RD X.K F.T ρ H y w ∧ cmpD S o x y = some b ∧ Q (.bl b) H
theorem op_ltE : OpR X (compareOp .Lt) (CmpR X F .lt) := OpRw op_ltS fun v w H Q h => h
theorem op_leE : OpR X (compareOp .LtE) (CmpR X F .le) := OpRw op_leS fun v w H Q h => h
theorem op_gtE : OpR X (compareOp .Gt) (CmpR X F .gt) := OpRw op_gtS fun v w H Q h => h
theorem op_geE : OpR X (compareOp .GtE) (CmpR X F .ge) := OpRw op_geS fun v w H Q h => h
theorem op_eqE (hw : F.T.w = X.w) (hu : X.A.units + 80 < cLine) : OpR X (compareOp .Eq) (CmpR X F .eq) := by
  intro pins s σ H x y v u Q I rx ry h
  obtain ⟨ρ, x', y', S, b, m, r1, r2, e, q⟩ := h
  have e : eqA S x' y' = some b := e
  unfold eqA at e
  cases h1 : dictOf S x' with
  | none =>
    cases h2 : dictOf S y' with
    | none =>
      rw [h1, h2] at e
      exact op_eqS (by omega) pins s σ H x y v u Q I rx ry ⟨ρ, x', y', S, b, m, r1, r2, e, q⟩
    | some _ => rw [h1, h2] at e; cases e
  | some p =>
    cases h2 : dictOf S y' with
    | none => rw [h1, h2] at e; cases e
    | some p2 =>
      rw [h1, h2] at e
      obtain ⟨t, kvs⟩ := p
      obtain ⟨t2, kvs2⟩ := p2
      obtain ⟨a, rfl, dk⟩ := dict_inv m h1 r1
      obtain ⟨a2, rfl, dk2⟩ := dict_inv m h2 r2
      cases (show v = Value.ref a from rx)
      cases (show u = Value.ref a2 from ry)
      exact run_dictEq I m hw hu dk dk2 e ⟨.bl b, H, I, rfl, q⟩
theorem op_neE (hw : F.T.w = X.w) (hu : X.A.units + 80 < cLine) : OpR X (compareOp .NotEq) (CmpR X F .ne) := by
  intro pins s σ H x y v u Q I rx ry h
  obtain ⟨ρ, x', y', S, b, m, r1, r2, e, q⟩ := h
  obtain ⟨c, e2, rfl⟩ := map_some (show (eqA S x' y').map (!·) = some b from e)
  clear e
  have e := e2
  unfold eqA at e
  cases h1 : dictOf S x' with
  | none =>
    cases h2 : dictOf S y' with
    | none =>
      rw [h1, h2] at e
      exact op_neS (by omega) pins s σ H x y v u Q I rx ry ⟨ρ, x', y', S, !c, m, r1, r2, by simp only [cmpS]; rw [show eqS S x' y' = some c from e]; rfl, q⟩
    | some _ => rw [h1, h2] at e; cases e
  | some p =>
    cases h2 : dictOf S y' with
    | none => rw [h1, h2] at e; cases e
    | some p2 =>
      rw [h1, h2] at e
      obtain ⟨t, kvs⟩ := p
      obtain ⟨t2, kvs2⟩ := p2
      obtain ⟨a, rfl, dk⟩ := dict_inv m h1 r1
      obtain ⟨a2, rfl, dk2⟩ := dict_inv m h2 r2
      cases (show v = Value.ref a from rx)
      cases (show u = Value.ref a2 from ry)
      exact run_dictNe I m hw hu dk dk2 e ⟨.bl (!c), H, I, rfl, q⟩
theorem op_inE (hw : F.T.w = X.w) (hu : X.A.units + 80 < cLine) : OpR X (compareOp .In) (CmpR X F .inn) := by
  intro pins s σ H x y v u Q I rx ry h
  obtain ⟨ρ, x', y', S, b, m, r1, r2, e, q⟩ := h
  have e : inD S x' y' = some b := e
  unfold inD at e
  cases h1 : dictOf S y' with
  | none =>
    rw [h1] at e
    exact op_inS (by omega) pins s σ H x y v u Q I rx ry ⟨ρ, x', y', S, b, m, r1, r2, e, q⟩
  | some p =>
    rw [h1] at e
    obtain ⟨t, kvs⟩ := p
    simp only at e
    cases h2 : fitK t kvs x' with
    | none => rw [h2] at e; cases e
    | some t2 =>
      rw [h2] at e
      cases e
      obtain ⟨a, rfl, dk⟩ := dict_inv m h1 r2
      cases (show u = Value.ref a from ry)
      show wpAny _ _ (do return Value.bool (← contains (.ref a) v)) _ _ s
      exact wpAny_bind (run_has I hw (by omega) dk h2 r1 rx fun n => wpAny_pure ⟨.bl _, H, I.tok n, rfl, q⟩)
theorem op_ninE (hw : F.T.w = X.w) (hu : X.A.units + 80 < cLine) : OpR X (compareOp .NotIn) (CmpR X F .nin) := by
  intro pins s σ H x y v u Q I rx ry h
  obtain ⟨ρ, x', y', S, b, m, r1, r2, e, q⟩ := h
  obtain ⟨c, e2, rfl⟩ := map_some (show (inD S x' y').map (!·) = some b from e)
  clear e
  have e := e2
  unfold inD at e
  cases h1 : dictOf S y' with
  | none =>
    rw [h1] at e
    exact op_ninS (by omega) pins s σ H x y v u Q I rx ry ⟨ρ, x', y', S, !c, m, r1, r2, by simp only [cmpS]; rw [show inS S x' y' = some c from e]; rfl, q⟩
  | some p =>
    rw [h1] at e
    obtain ⟨t, kvs⟩ := p
    simp only at e
    cases h2 : fitK t kvs x' with
    | none => rw [h2] at e; cases e
    | some t2 =>
      rw [h2] at e
      cases e
      obtain ⟨a, rfl, dk⟩ := dict_inv m h1 r2
      cases (show u = Value.ref a from ry)
      show wpAny _ _ (do return Value.bool (!(← contains (.ref a) v))) _ _ s
      exact wpAny_bind (run_has I hw (by omega) dk h2 r1 rx fun n => wpAny_pure ⟨.bl _, H, I.tok n, rfl, q⟩)
end
end Lk
end

section
/-! E5: subscripts, slices, built-ins. -/
set_option Elab.async false
set_option linter.all false
set_option maxRecDepth 100000
set_option maxHeartbeats 2000000
namespace Lk
open PySem PySem.Spec PyProof.Rows L2 SlX
theorem ite_opt {α : Type} {c : Prop} [Decidable c] {o : Option α} {b : α} (h : (if c then o else none) = some b) : c ∧ o = some b := by
  split at h
  · exact ⟨by assumption, h⟩
  · cases h
theorem ixOf_eq (n : Nat) (i : Int) : ixOf n i = ixN n i := rfl
theorem cutAt_eq (n d : Nat) (o : Option Int) : cutAt n d o = HT.sIx n d o := by cases o <;> rfl
section
variable {X : Cx} {F : Fx} {W : WX} {K : PySem.W.Frag} {T : Ty} {ρ : Pm} {H : Hp} {S : Store}
theorem intOf_inv {d : D} {i : Int} (h : intOf d = some i) : d = .int i := by cases d <;> cases h; rfl
theorem sE_neg {a : Expr} {x : XE} {pos : Pos} (ha : PE X a (tE X F W x)) : PE X (.UnaryOp .USub a pos) (tE X F W (.neg x)) := by
  refine PEw (pe_un un_neg ha) fun σ H Q q => ?_
  refine Go.mono (Go.bind (rA := rdR X F) q) fun v H1 q => ?_
  obtain ⟨ρ, s, a, S, S0, _, m, e, r, q⟩ := q
  obtain ⟨z, hz, q⟩ := Run.opt q
  obtain ⟨i, hi, rfl⟩ := map_some hz
  cases intOf_inv hi
  exact ⟨i, r.int_inv, Run.here m q (RD.int _)⟩
theorem chn_of {o p : Cop} {x y z : XE} {σ : L2.St} {H : Hp} {Q : VK} (q : tE X F W (.chn o p x y z) σ H Q) : tChain (CmpR X F o) (CmpR X F p) (tE X F W x) (tE X F W y) (tE X F W z) σ H Q := by
  refine Go.mono (Go.bind2 q) fun v H1 q1 => Go.mono q1 fun w H2 q2 => ?_
  obtain ⟨ρ, s, x', y', S, m, e, r1, r2, r⟩ := q2
  obtain ⟨ρ3, s3, k, S3, S0, o3, m3, e3, r3, q3⟩ : ∃ ρ3 s3 k S3, ∃ S0 : Store, True ∧ RS X.K F.T ρ3 S3 H2 ∧ EnvR X.K F.T F.Y ρ3 H2 s3 σ ∧ (cmpD S3 o x' y' = some k ∧ RD X.K F.T ρ3 H2 x' v ∧ RD X.K F.T ρ3 H2 y' w) ∧ Run X.K F.T F.Z (rdR X F) (fun c d H => W c d σ H) ρ3 H2 ((match k with
    | true => M.bind (ev F.cal z s3) fun z => fun S => M.opt ((cmpD S p y' z).map D.bl) S
    | false => M.pure (D.bl false)) S3) Q := by
    cases hk : cmpD S o x' y' with
    | none =>
      have r : Run X.K F.T F.Z (rdR X F) (fun c d H => W c d σ H) ρ H2 (M.bind (M.opt (cmpD S o x' y')) _ S) Q := r
      rw [hk] at r
      exact r.elim
    | some k =>
      have r : Run X.K F.T F.Z (rdR X F) (fun c d H => W c d σ H) ρ H2 (M.bind (M.opt (cmpD S o x' y')) _ S) Q := r
      rw [hk] at r
      exact ⟨ρ, s, k, S, S, trivial, m, e, ⟨hk, r1, r2⟩, r⟩
  refine ⟨ρ3, x', y', S3, k, m3, r3.2.1, r3.2.2, r3.1, k, rfl, ?_⟩
  cases k with
  | false => exact Run.here (a := D.bl false) m3 q3 (RD.bl _)
  | true =>
    rw [if_pos rfl]
    refine ⟨ρ3, s3, S3, m3, e3, (Run.bind (rA := rdR X F) q3).mono ?_⟩
    rintro u H4 ⟨ρ4, z', S4, _, x4, m4, r4, q4⟩
    obtain ⟨b, hb, q5⟩ := Run.opt q4
    obtain ⟨b', hb', rfl⟩ := map_some hb
    exact ⟨ρ4, y', z', S4, b', m4, r3.2.2.mono m3 x4, r4, hb', Run.here m4 q5 (RD.bl _)⟩
theorem sE_chn {op op' : CmpOp} {o p : Cop} {a b c : Expr} {x y z : XE} {pos : Pos} (ho : OpR X (compareOp op) (CmpR X F o)) (ho' : OpR X (compareOp op') (CmpR X F p)) (ha : PE X a (tE X F W x)) (hb : PE X b (tE X F W y)) (hc : PE X c (tE X F W z)) (hm : lastMarks [op, op'] [b, c] = false) :
    PE X (.Compare a [op, op'] [b, c] pos) (tE X F W (.chn o p x y z)) := PEw (pe_chain ho ho' ha hb hc hm) fun σ H Q q => chn_of q
theorem sT_chn {op op' : CmpOp} {o p : Cop} {a b c : Expr} {x y z : XE} {pos : Pos} (ho : OpR X (compareOp op) (CmpR X F o)) (ho' : OpR X (compareOp op') (CmpR X F p)) (ha : PE X a (tE X F W x)) (hb : PE X b (tE X F W y)) (hc : PE X c (tE X F W z)) (hm : lastMarks [op, op'] [b, c] = false) :
    PT X (.Compare a [op, op'] [b, c] pos) (tT X F W (.chn o p x y z)) := PTw (pt_chain ho ho' ha hb hc hm) fun σ H Q q => chn_of (tT_tE q)
theorem lastMarks2 {op op' : CmpOp} {b c : Expr} (h : behindInMarks op' c = false) : lastMarks [op, op'] [b, c] = false := h
theorem atI_some {α : Type} {xs : List α} {i : Int} {k : Nat} {x : α} (h1 : ixOf xs.length i = some k) (h2 : xs[k]? = some x) : atI xs i = some x := by
  unfold atI
  rw [← ixOf_eq, h1]
  exact h2
theorem plainIx_of {b : Expr} (h : ∀ lo hi p, b ≠ .Slice lo hi none p) : PlainIx b := fun o i => by
  unfold subscripted
  cases b <;> first | rfl | skip
  rename_i lo hi st p
  cases st with
  | none => exact absurd rfl (h lo hi p)
  | some _ => rfl
/-- a subscript of data -/
def IdxR (X : Cx) (F : Fx) : R2 := fun v w H Q => ∃ ρ x y S z, RS X.K F.T ρ S H ∧ RD X.K F.T ρ H x v ∧ RD X.K F.T ρ H y w ∧ idxV S x y = some z ∧ ∀ u, RD X.K F.T ρ H z u → Q u H
theorem ix_data (hw : F.T.w = X.w) (hu : X.A.units + 80 < cLine) : IxR X (IdxR X F) := by
  intro value slice pins s σ H x y v u Q I rx ry h hs
  obtain ⟨ρ, x', y', S, z, m, r1, r2, hz, q⟩ := h
  unfold idxV at hz
  cases h1 : dictOf S x' with
  | some p =>
    rw [h1] at hz
    obtain ⟨t, kvs⟩ := p
    simp only at hz
    cases h2 : fitK t kvs y' with
    | none => rw [h2] at hz; cases hz
    | some t2 =>
      rw [h2] at hz
      obtain ⟨a, rfl, dk⟩ := dict_inv m h1 r1
      cases (show v = Value.ref a from rx)
      refine dict_tail (dk.typ I) hs ?_
      exact run_item I hw (by omega) dk h2 r2 ry hz fun g vg n rg rv => ⟨vg, H, I.tok n, rv, q vg rg⟩
  | none =>
    rw [h1] at hz
    refine ix_seq value slice pins s σ H x y v u Q I rx ry ?_ hs
    obtain ⟨i, hi, hz1⟩ := bind_some hz
    cases intOf_inv hi
    clear hz
    revert hz1
    unfold idxD
    intro hz
    split at hz
    · rename_i s'
      obtain ⟨hl, hz2⟩ := ite_opt hz
      obtain ⟨k, hk, hz3⟩ := bind_some hz2
      obtain ⟨c, hc, rfl⟩ := map_some hz3
      refine .inr (.inr ⟨⟨s'.toArray⟩, i, c, r1.str_inv, r2.int_inv, sizeMax_le (by simpa [Str.length] using hl), ?_, q _ (RD.str [c])⟩)
      exact atI_some (by simpa using hk) (by simpa using hc)
    · obtain ⟨xs, hx, hz⟩ := bind_some hz
      obtain ⟨k, hk, hz⟩ := bind_some hz
      obtain ⟨a, vs, rfl, ha, rs⟩ := itemsOf_inv m hx r1
      obtain ⟨u, hu, ru⟩ := rs.get hz
      have at_ : atI vs i = some u := atI_some (by rw [← rs.length]; exact hk) hu
      rcases ha with ha | ha
      · exact .inl ⟨a, vs, i, u, rfl, r2.int_inv, ha, at_, q _ ru⟩
      · exact .inr (.inl ⟨a, vs, i, u, rfl, r2.int_inv, ha, at_, q _ ru⟩)
theorem slcD_inv {x z : D} {lo hi : Option Int} (h : slcD S x lo hi = some z) : (∃ s, x = .str s ∧ s.length ≤ sizeMax ∧ z = .str (cut s lo hi)) ∨ (∃ xs, x = .tup xs ∧ z = .tup (cut xs lo hi)) ∨ ∃ xs, seqOf S x = some xs ∧ z = .fl (cut xs lo hi) := by
  unfold slcD at h
  split at h
  · obtain ⟨h1, h2⟩ := ite_some h
    exact .inl ⟨_, rfl, h1, h2.symm⟩
  · cases h
    exact .inr (.inl ⟨_, rfl, rfl⟩)
  · obtain ⟨xs, h1, h2⟩ := map_some h
    exact .inr (.inr ⟨xs, h1, h2.symm⟩)
theorem cutV_rd {xs : List D} {vs : List V} (r : RDs K T ρ H xs vs) (lo hi : Option Int) : RDs K T ρ H (cut xs lo hi) (cutV vs lo hi) := by
  unfold cut cutV
  rw [cutAt_eq, cutAt_eq, r.length]
  exact (r.drop _).take _
theorem cut_whole {α : Type} {xs : List α} {lo hi : Option Int} (h : HT.sIx xs.length 0 lo = 0 ∧ HT.sIx xs.length xs.length hi = xs.length) : cut xs lo hi = xs := by
  unfold cut
  rw [cutAt_eq, cutAt_eq, h.1, h.2]
  simp
/-- an end of a slice, there or not -/
def tB (X : Cx) (F : Fx) (W : WX) (b : XB) : TO := fun σ H Q => Go X F W (fun _ _ (a : Option Int) b => a = b) (evB F.cal b) σ H Q
theorem sO_none : PO X none (tB X F W .no) := by
  refine ⟨fun pins s σ H Q I h => po_none.run pins s σ H Q I ?_⟩
  obtain ⟨ρ, s, S, m, e, r⟩ := h
  exact Run.here (a := none) (v := none) m r rfl
theorem sO_some {e : Expr} {x : XE} (h : PE X e (tE X F W x)) : PO X (some e) (tB X F W (.so x)) := by
  refine ⟨fun pins s σ H Q I q => (po_some h).run pins s σ H Q I ?_⟩
  refine Go.mono (Go.bind (rA := rdR X F) q) fun v H1 q => ?_
  obtain ⟨ρ, s, a, S, S0, o, m, e, r, q⟩ := q
  obtain ⟨z, hz, q1⟩ := Run.opt q
  obtain ⟨i, hi, rfl⟩ := map_some hz
  cases intOf_inv hi
  exact ⟨i, r.int_inv, Run.here m q1 rfl⟩
theorem sE_slc {a : Expr} {lo hi : Option Expr} {x : XE} {l h : XB} {pos p2 : Pos} (ha : PE X a (tE X F W x)) (hl : PO X lo (tB X F W l)) (hh : PO X hi (tB X F W h)) : PE X (.Subscript a (.Slice lo hi none p2) pos) (tE X F W (.slc x l h)) := by
  refine PEw (pe_slice (sl_list.or (sl_tupA.or sl_str)) ha hl hh) fun σ H Q q => ?_
  refine Go.mono (Go.bind (rA := rdR X F) q) fun v H1 q => ?_
  obtain ⟨ρ, s, d, S, S0, _, m, e, r, q⟩ := q
  refine ⟨ρ, s, S, m, e, (Run.bind (rA := fun _ _ (a : Option Int) b => a = b) q).mono ?_⟩
  rintro lo' H2 ⟨ρ2, lo'', S2, _, x2, m2, rfl, q2⟩
  refine ⟨ρ2, s, S2, m2, e.mono m x2, (Run.bind (rA := fun _ _ (a : Option Int) b => a = b) q2).mono ?_⟩
  rintro hi' H3 ⟨ρ3, hi'', S3, _, x3, m3, rfl, q3⟩
  have r3 := (r.mono m x2).mono m2 x3
  obtain ⟨z, hz, q4⟩ := Run.opt q3
  rcases slcD_inv hz with ⟨s', rfl, hl, rfl⟩ | ⟨xs, rfl, rfl⟩ | ⟨xs, hx, rfl⟩
  · refine .inr (.inr ⟨⟨s'.toArray⟩, r3.str_inv, sizeMax_le (by simpa [Str.length] using hl), ?_⟩)
    refine Run.here m3 q4 ?_
    have e : cutS ⟨s'.toArray⟩ lo'' hi'' = ⟨(cut s' lo'' hi'').toArray⟩ := by
      unfold cutS cut
      simp only [cutAt_eq, Str.length, List.size_toArray]
    rw [e]
    exact RD.str _
  · obtain ⟨a1, vs, rfl, ha, rs⟩ := r3.tup_inv
    refine .inr (.inl ⟨a1, vs, rfl, ha, fun hw => ?_, fun _ p hp => ?_⟩)
    · refine Run.here m3 q4 ?_
      rw [cut_whole (by rw [rs.length]; exact hw)]
      exact r3
    · exact q4 ρ3 _ _ (ext_new hp) (m3.new hp) (RD.new_tup m3 hp (cutV_rd rs _ _))
  · obtain ⟨a1, vs, rfl, ha, rs⟩ := seqOf_inv m3 hx r3
    exact .inl ⟨a1, vs, rfl, ha, fun p hp => have n := new_fl m3 hp (cutV_rd rs _ _); q4 _ _ _ n.1 n.2.1 n.2.2⟩
end
end Lk
end

section
/-! E6: calls of built-ins. -/
set_option Elab.async false
set_option linter.all false
set_option maxRecDepth 100000
set_option maxHeartbeats 2000000
namespace Lk
open PySem PySem.Spec PyProof.Rows L2 SlX
theorem CallRw {X : Cx} {f : Value} {r r' : List V → Hp → VK → Prop} (h : CallR X f r) (i : ∀ xs H Q, r' xs H Q → r xs H Q) : CallR X f r' := fun pins s σ H xs us Q I rs q => h pins s σ H xs us Q I rs (i _ _ _ q)
section
variable {X : Cx} {F : Fx} {W : WX} {K : PySem.W.Frag} {T : Ty} {ρ : Pm} {H : Hp} {S : Store}
def BiS (X : Cx) (F : Fx) (b : Bi) : List V → Hp → VK → Prop := fun vs H Q => ∃ ρ ds S z, RS X.K F.T ρ S H ∧ RDs X.K F.T ρ H ds vs ∧ biS S b ds = some z ∧ ∀ ρ' H' u, Ext ρ H ρ' H' → RS X.K F.T ρ' S H' → RD X.K F.T ρ' H' z u → Q u H'
theorem rds1 {d : D} {vs : List V} (h : RDs K T ρ H [d] vs) : ∃ v, vs = [v] ∧ RD K T ρ H d v := by
  cases h with | cons r t => cases t; exact ⟨_, rfl, r⟩
theorem bi1 {b : Bi} {ds : List D} {z : D} (h : biS S b ds = some z) (n1 : b ≠ .min := by intro z; cases z) (n2 : b ≠ .max := by intro z; cases z) : ∃ d, ds = [d] := by
  unfold biS at h
  split at h
  all_goals first
    | exact ⟨_, rfl⟩
    | exact absurd rfl n1
    | exact absurd rfl n2
    | cases h
theorem lenOf_inv (m : RS K T ρ S H) {d : D} {n : Nat} {v : V} (h : lenOf S d = some n) (r : RD K T ρ H d v) : LenV K v H n := by
  unfold lenOf at h
  split at h
  · obtain ⟨h1, rfl⟩ := ite_some h
    rw [r.str_inv]
    exact ⟨sizeMax_le (by simpa [Str.length] using h1), by simp [Str.length]⟩
  · obtain ⟨xs, h1, rfl⟩ := map_some h
    obtain ⟨a, vs, rfl, ha, rs⟩ := itemsOf_inv m h1 r
    rcases ha with ha | ha
    · exact .inl ⟨vs, ha, rs.length⟩
    · exact .inr ⟨vs, ha, rs.length⟩
theorem bs_len : CallR X (.builtin "len") (BiS X F .len) := CallRw call_len fun vs H Q q => by
  obtain ⟨ρ, ds, S, z, m, r, hz, q⟩ := q
  obtain ⟨d, rfl⟩ := bi1 hz
  obtain ⟨v, rfl, rv⟩ := rds1 r
  obtain ⟨n, hn, rfl⟩ := map_some (show (lenOf S d).map (fun (n : Nat) => D.int n) = some z from hz)
  exact ⟨v, n, rfl, lenOf_inv m hn rv, q ρ H _ .refl m (.int _)⟩
theorem rds2 {d e : D} {vs : List V} (h : RDs K T ρ H [d, e] vs) : ∃ v w, vs = [v, w] ∧ RD K T ρ H d v ∧ RD K T ρ H e w := by
  cases h with | cons r t => obtain ⟨w, rfl, rw'⟩ := rds1 t; exact ⟨_, w, rfl, r, rw'⟩
theorem min_inv {ds : List D} {z : D} (h : biS S .min ds = some z) : ∃ i j, ds = [.int i, .int j] ∧ z = .int (if j < i then j else i) := by
  unfold biS at h
  split at h <;> first | (rename_i e; cases e; done) | skip
  · rename_i i j _; cases h; exact ⟨i, j, rfl, rfl⟩
  · cases h
theorem max_inv {ds : List D} {z : D} (h : biS S .max ds = some z) : ∃ i j, ds = [.int i, .int j] ∧ z = .int (if j > i then j else i) := by
  unfold biS at h
  split at h <;> first | (rename_i e; cases e; done) | skip
  · rename_i i j _; cases h; exact ⟨i, j, rfl, rfl⟩
  · cases h
theorem bs_min (hc : X.calm = true) : CallR X (.builtin "min") (BiS X F .min) := CallRw (call_min2 hc) fun vs H Q q => by
  obtain ⟨ρ, ds, S, z, m, r, hz, q⟩ := q
  obtain ⟨i, j, rfl, rfl⟩ := min_inv hz
  obtain ⟨v, w, rfl, rv, rw'⟩ := rds2 r
  exact ⟨i, j, by rw [rv.int_inv, rw'.int_inv], q ρ H _ .refl m (.int _)⟩
theorem bs_max (hc : X.calm = true) : CallR X (.builtin "max") (BiS X F .max) := CallRw (call_max2 hc) fun vs H Q q => by
  obtain ⟨ρ, ds, S, z, m, r, hz, q⟩ := q
  obtain ⟨i, j, rfl, rfl⟩ := max_inv hz
  obtain ⟨v, w, rfl, rv, rw'⟩ := rds2 r
  exact ⟨i, j, by rw [rv.int_inv, rw'.int_inv], q ρ H _ .refl m (.int _)⟩
theorem truth_inv {d : D} {b : Bool} (h : truth d = some b) : d = .bl b := by cases d <;> cases h; rfl
theorem bools_rd : ∀ {xs : List D} {bs : List Bool} {vs : List V}, allSome truth xs = some bs → RDs K T ρ H xs vs → vs = bs.map V.bl
  | [], _, _, h, r => by cases h; cases r; rfl
  | x :: xs, bs, vs, h, r => by
    unfold allSome at h
    split at h
    · cases h
    · rename_i y e
      split at h
      · cases h
      · rename_i zs e2
        cases h
        cases r with
        | cons r1 r2 =>
          cases truth_inv e
          rw [r1.bl_inv, bools_rd e2 r2]; rfl
theorem ints_rd : ∀ {xs : List D} {bs : List Int} {vs : List V}, allSome intOf xs = some bs → RDs K T ρ H xs vs → vs = bs.map V.int
  | [], _, _, h, r => by cases h; cases r; rfl
  | x :: xs, bs, vs, h, r => by
    unfold allSome at h
    split at h
    · cases h
    · rename_i y e
      split at h
      · cases h
      · rename_i zs e2
        cases h
        cases r with
        | cons r1 r2 =>
          cases intOf_inv e
          rw [r1.int_inv, ints_rd e2 r2]; rfl
theorem bs_all (hc : X.calm = true) : CallR X (.builtin "all") (BiS X F .all) := CallRw (cr_all hc) fun vs H Q q => by
  obtain ⟨ρ, ds, S, z, m, r, hz, q⟩ := q
  obtain ⟨d, rfl⟩ := bi1 hz
  obtain ⟨v, rfl, rv⟩ := rds1 r
  obtain ⟨xs, hx, hz⟩ := bind_some (show (seqOf S d).bind (fun xs => (allSome truth xs).map fun bs => D.bl (bs.all id)) = some z from hz)
  obtain ⟨bs, hb, rfl⟩ := map_some hz
  obtain ⟨a, ws, rfl, ha, rs⟩ := seqOf_inv m hx rv
  exact ⟨a, bs, rfl, by rw [← bools_rd hb rs]; exact ha, q ρ H _ .refl m (.bl _)⟩
theorem bs_any (hc : X.calm = true) : CallR X (.builtin "any") (BiS X F .any) := CallRw (cr_any hc) fun vs H Q q => by
  obtain ⟨ρ, ds, S, z, m, r, hz, q⟩ := q
  obtain ⟨d, rfl⟩ := bi1 hz
  obtain ⟨v, rfl, rv⟩ := rds1 r
  obtain ⟨xs, hx, hz⟩ := bind_some (show (seqOf S d).bind (fun xs => (allSome truth xs).map fun bs => D.bl (bs.any id)) = some z from hz)
  obtain ⟨bs, hb, rfl⟩ := map_some hz
  obtain ⟨a, ws, rfl, ha, rs⟩ := seqOf_inv m hx rv
  exact ⟨a, bs, rfl, by rw [← bools_rd hb rs]; exact ha, q ρ H _ .refl m (.bl _)⟩
theorem bs_sum (hc : X.calm = true) : CallR X (.builtin "sum") (BiS X F .sum) := CallRw (cr_sum hc) fun vs H Q q => by
  obtain ⟨ρ, ds, S, z, m, r, hz, q⟩ := q
  obtain ⟨d, rfl⟩ := bi1 hz
  obtain ⟨v, rfl, rv⟩ := rds1 r
  obtain ⟨xs, hx, hz⟩ := bind_some (show (seqOf S d).bind (fun xs => (allSome intOf xs).map fun is => D.int is.sum) = some z from hz)
  obtain ⟨bs, hb, rfl⟩ := map_some hz
  obtain ⟨a, ws, rfl, ha, rs⟩ := seqOf_inv m hx rv
  exact ⟨a, bs, rfl, by rw [← ints_rd hb rs]; exact ha, q ρ H _ .refl m (.int _)⟩
theorem bs_abs : CallR X (.builtin "abs") (BiS X F .abs) := CallRw call_abs fun vs H Q q => by
  obtain ⟨ρ, ds, S, z, m, r, hz, q⟩ := q
  obtain ⟨d, rfl⟩ := bi1 hz
  obtain ⟨v, rfl, rv⟩ := rds1 r
  obtain ⟨i, hi, rfl⟩ := map_some (show (intOf d).map (fun i => D.int (if i < 0 then -i else i)) = some z from hz)
  cases intOf_inv hi
  exact ⟨i, by rw [rv.int_inv], q ρ H _ .refl m (.int _)⟩
theorem bs_tuple : CallR X (.type "tuple") (BiS X F .tuple) := CallRw call_tuple_of fun vs H Q q => by
  obtain ⟨ρ, ds, S, z, m, r, hz, q⟩ := q
  obtain ⟨d, rfl⟩ := bi1 hz
  obtain ⟨v, rfl, rv⟩ := rds1 r
  obtain ⟨xs, hx, rfl⟩ := map_some (show (itemsOf S d).map D.tup = some z from hz)
  obtain ⟨a, ws, rfl, ha, rs⟩ := itemsOf_inv m hx rv
  refine ⟨a, ws, rfl, ?_⟩
  rcases ha with ha | ha
  · exact .inl ⟨ha, fun p hp => q ρ _ _ (ext_new hp) (m.new hp) (RD.new_tup m hp rs)⟩
  · exact .inr ⟨ha, q ρ H _ .refl m (.tup ha rs)⟩
theorem call_list_text (hc : X.calm = true) : CallR X (.type "list") (fun xs H Q => ∃ z : Str, xs = [.str z] ∧ z.cps.size ≤ sizeLine ∧ ∀ l, H l = none → Q (.ref l) (upd H l (.lst (z.cps.toList.map fun c => V.str ⟨#[c]⟩)))) := by
  intro pins s σ H xs us Q I r h
  obtain ⟨z, rfl, hz, q⟩ := h
  obtain ⟨u, rfl, rx⟩ := vals1 r
  obtain ⟨t, rfl⟩ := rx
  refine call_list_str (I.ok.hd hc) z t (fun h' tk acc c' hk hS hi => ?_) hz
  refine ⟨.ref s.heap.objs.size, upd H s.heap.objs.size (.lst (z.cps.toList.map fun c => V.str ⟨#[c]⟩)), I.laid hk (Nat.le_refl _) (show ObjOk X.prog X.w _ _ _ (.lst (z.cps.toList.map fun c => V.str ⟨#[c]⟩)) from ⟨?_, acc.toList, c', ?_, ?_⟩), rfl, q _ (I.hok.fresh (Nat.le_refl _))⟩
  · rw [List.length_map, Array.length_toList]; exact hz
  · refine vals_of_at (by rw [List.length_map, Array.length_toList, Array.length_toList, hi.1]) fun j x w h1 h2 => ?_
    obtain ⟨c, u, hc, rfl⟩ := hi.2 j w (by rw [← Array.getElem?_toList]; exact h2)
    rw [List.getElem?_map, Array.getElem?_toList, hc] at h1
    cases h1
    exact ⟨u, rfl⟩
  · rw [Array.toArray_toList]; exact hS
theorem rds_signs0 : ∀ z : List Nat, RDs K T ρ H (z.map fun c => D.str [c]) (z.map fun c => V.str ⟨#[c]⟩)
  | [] => .nil
  | c :: z => .cons (.str [c]) (rds_signs0 z)
theorem bs_list (hc : X.calm = true) : CallR X (.type "list") (BiS X F .list) := CallRw (call_list_of.or (call_list_text hc)) fun vs H Q q => by
  obtain ⟨ρ, ds, S, z, m, r, hz, q⟩ := q
  obtain ⟨d, rfl⟩ := bi1 hz
  obtain ⟨v, rfl, rv⟩ := rds1 r
  by_cases hs : ∃ y, d = .str y
  · obtain ⟨y, rfl⟩ := hs
    obtain ⟨hl, rfl⟩ := ite_some (show (if y.length ≤ sizeMax then some (D.fl (y.map fun c => .str [c])) else none) = some z from hz)
    refine .inr ⟨⟨y.toArray⟩, by rw [rv.str_inv], sizeMax_le (by simpa using hl), fun p hp => ?_⟩
    have n := new_fl m hp (rds_signs0 (K := X.K) (T := F.T) (ρ := ρ) (H := H) y)
    have := q _ _ _ n.1 n.2.1 n.2.2
    simpa using this
  · have hz : (itemsOf S d).map D.fl = some z := by cases d <;> first | exact hz | exact absurd ⟨_, rfl⟩ hs
    obtain ⟨xs, hx, rfl⟩ := map_some hz
    obtain ⟨a, ws, rfl, ha, rs⟩ := itemsOf_inv m hx rv
    exact .inl ⟨a, ws, rfl, ha, fun p hp => have n := new_fl m hp rs; q _ _ _ n.1 n.2.1 n.2.2⟩
theorem digit_text : ∀ k : Nat, k < 10 → (Str.ofString (toString ((k : Nat) : Int))) = ⟨#[48 + k]⟩ := by
  decide +kernel
theorem bs_str : CallR X (.type "str") (BiS X F .str) := CallRw (call_str_int.or SkE.call_str_str) fun vs H Q q => by
  obtain ⟨ρ, ds, S, z, m, r, hz, q⟩ := q
  obtain ⟨d, rfl⟩ := bi1 hz
  obtain ⟨v, rfl, rv⟩ := rds1 r
  obtain ⟨s, hs, rfl⟩ := map_some (show (textOf d).map D.str = some z from hz)
  unfold textOf at hs
  split at hs
  · rename_i i
    obtain ⟨h1, rfl⟩ := ite_some hs
    refine .inl ⟨i, by rw [rv.int_inv], ?_, ?_⟩
    · have h2 : i.natAbs < 10 := by omega
      have h3 : i.natAbs.log2 ≤ i.natAbs := Nat.log2_le_self _
      omega
    · have e := digit_text i.toNat (by omega)
      rw [show ((i.toNat : Nat) : Int) = i by omega] at e
      have := q ρ H _ .refl m (.str [48 + i.toNat])
      rw [show (toString i : Str) = _ from e]
      exact this
  · cases hs
    exact .inr ⟨_, by rw [rv.str_inv], q ρ H _ .refl m (.str _)⟩
  · cases hs
theorem numOf_inv {d : D} {i : Int} (h : numOf d = some i) : d = .int i ∨ (∃ b, d = .bl b ∧ i = if b then 1 else 0) ∨ ∃ c : Nat, d = .str [c] ∧ 48 ≤ c ∧ c ≤ 57 ∧ i = ((c - 48 : Nat) : Int) := by
  unfold numOf at h
  split at h
  · cases h; exact .inl rfl
  · cases h; exact .inr (.inl ⟨_, rfl, rfl⟩)
  · obtain ⟨h1, h2⟩ := ite_some h
    exact .inr (.inr ⟨_, rfl, h1.1, h1.2, h2.symm⟩)
  · cases h
theorem intText_digit : ∀ k : Nat, k < 10 → PySem.intText? (⟨#[48 + k]⟩ : Str) = some ((k : Nat) : Int) := by
  decide +kernel
theorem bs_int : CallR X (.type "int") (BiS X F .int) := CallRw (call_int1.or call_int_str) fun vs H Q q => by
  obtain ⟨ρ, ds, S, z, m, r, hz, q⟩ := q
  obtain ⟨d, rfl⟩ := bi1 hz
  obtain ⟨v, rfl, rv⟩ := rds1 r
  obtain ⟨i, hi, rfl⟩ := map_some (show (numOf d).map D.int = some z from hz)
  have qq := q ρ H _ .refl m (.int i)
  rcases numOf_inv hi with rfl | ⟨b, rfl, rfl⟩ | ⟨c, rfl, h1, h2, rfl⟩
  · exact .inl (.inl ⟨i, by rw [rv.int_inv], qq⟩)
  · exact .inl (.inr ⟨b, by rw [rv.bl_inv], qq⟩)
  · refine .inr ⟨⟨#[c]⟩, _, by rw [rv.str_inv], ?_, by show 1 ≤ 640; decide, qq⟩
    have := intText_digit (c - 48) (by omega)
    rw [show 48 + (c - 48) = c by omega] at this
    exact this
end
end Lk
end

section
/-! E7: statements. -/
set_option Elab.async false
set_option linter.all false
set_option maxRecDepth 100000
set_option maxHeartbeats 2000000
namespace Lk
open PySem PySem.Spec PyProof.Rows L2 SlX
section
variable {X : Cx} {F : Fx} {W : WX} {K : PySem.W.Frag} {T : Ty} {Z : Xs} {Y : Option Slf} {ρ : Pm} {H : Hp} {S : Store}
/-- where a statement's run goes -/
def RunS (K : PySem.W.Frag) (T : Ty) (Y : Option Slf) (Z : Xs) (W : WX) (ρ : Pm) (H : Hp) (r : Res Flow) (D : Ends) : Prop := match r with
  | .ok (.nx σ) S => ∀ ρ' H' σV, Ext ρ H ρ' H' → RS K T ρ' S H' → EnvR K T Y ρ' H' σ σV → D.nx σV H'
  | .ok (.bk σ) S => ∀ ρ' H' σV, Ext ρ H ρ' H' → RS K T ρ' S H' → EnvR K T Y ρ' H' σ σV → D.bk σV H'
  | .ok (.ct σ) S => ∀ ρ' H' σV, Ext ρ H ρ' H' → RS K T ρ' S H' → EnvR K T Y ρ' H' σ σV → D.ct σV H'
  | .ok (.rt d) S => ∀ ρ' H' v, Ext ρ H ρ' H' → RS K T ρ' S H' → RD K T ρ' H' d v → D.rt v H'
  | .ok (.xc c p σ) S => ∀ ρ' H' σV cls d, Ext ρ H ρ' H' → RS K T ρ' S H' → EnvR K T Y ρ' H' σ σV → XR K T Z ρ' H' c p cls d → W cls d σV H'
  | _ => False
theorem RunS.shift {ρ1 : Pm} {H1 : Hp} {S1 : Store} {r : Res Flow} {D : Ends} (e1 : Ext ρ H ρ1 H1) (m1 : RS K T ρ1 S1 H1) (h : RunS K T Y Z W ρ H r D) : RunS K T Y Z W ρ1 H1 r D := by
  cases r with
  | bad => exact h
  | exc c p S2 => exact h
  | ok f S2 =>
    cases f with
    | nx σ => exact fun ρ2 H2 σV e2 m2 x => h ρ2 H2 σV (e1.trans e2 m1) m2 x
    | bk σ => exact fun ρ2 H2 σV e2 m2 x => h ρ2 H2 σV (e1.trans e2 m1) m2 x
    | ct σ => exact fun ρ2 H2 σV e2 m2 x => h ρ2 H2 σV (e1.trans e2 m1) m2 x
    | rt d => exact fun ρ2 H2 v e2 m2 x => h ρ2 H2 v (e1.trans e2 m1) m2 x
    | xc c p σ => exact fun ρ2 H2 σV cls d e2 m2 x y => h ρ2 H2 σV cls d (e1.trans e2 m1) m2 x y
/-- an expression in a statement -/
theorem RunS.at {α γ : Type} {rA : Pm → Hp → α → γ → Prop} {σ : Env} {σV : L2.St} {m : M α} {k : α → M Flow} {D : Ends} (h : RunS K T Y Z W ρ H (M.at σ m k S) D) (m0 : RS K T ρ S H) (e0 : EnvR K T Y ρ H σ σV) :
    Run K T Z rA (fun c d H => W c d σV H) ρ H (m S) fun v H1 => ∃ ρ1 a S1, m S = .ok a S1 ∧ Ext ρ H ρ1 H1 ∧ RS K T ρ1 S1 H1 ∧ rA ρ1 H1 a v ∧ RunS K T Y Z W ρ1 H1 (k a S1) D := by
  unfold M.at at h
  cases e : m S with
  | bad => rw [e] at h; exact h
  | exc c p S' =>
    rw [e] at h
    exact fun ρ1 H1 cls d e1 m1 x => h ρ1 H1 σV cls d e1 m1 (e0.mono m0 e1) x
  | ok a S1 =>
    rw [e] at h
    have h' : RunS K T Y Z W ρ H (k a S1) D := h
    exact fun ρ1 H1 v e1 m1 r1 => ⟨ρ1, a, S1, rfl, e1, m1, r1, h'.shift e1 m1⟩
def tS (X : Cx) (F : Fx) (W : WX) (m : Env → M Flow) : TS := fun D σV H => ∃ ρ σ S, RS X.K F.T ρ S H ∧ EnvR X.K F.T F.Y ρ H σ σV ∧ RunS X.K F.T F.Y F.Z W ρ H (m σ S) D
/-- an expression, then what hangs on it -/
theorem tS.at {α γ : Type} {rA : Pm → Hp → α → γ → Prop} {m : Env → M α} {k : Env → α → M Flow} {D : Ends} {σV : L2.St} {H : Hp} (h : tS X F W (fun σ => M.at σ (m σ) (k σ)) D σV H) :
    Go X F W rA m σV H fun v H1 => ∃ ρ σ a S S0, m σ S0 = .ok a S ∧ RS X.K F.T ρ S H1 ∧ EnvR X.K F.T F.Y ρ H1 σ σV ∧ rA ρ H1 a v ∧ RunS X.K F.T F.Y F.Z W ρ H1 (k σ a S) D := by
  obtain ⟨ρ, σ, S, m0, e0, r0⟩ := h
  refine ⟨ρ, σ, S, m0, e0, Run.mono (RunS.at (rA := rA) r0 m0 e0) ?_⟩
  rintro v H1 ⟨ρ1, a, S1, o1, e1, m1, r1, q⟩
  exact ⟨ρ1, σ, a, S1, S, o1, m1, e0.mono m0 e1, r1, q⟩
abbrev SS (X : Cx) (F : Fx) (W : WX) (st : Stmt) (x : XS) : Prop := PS X st (tS X F W (ex F.cal x))
abbrev SSs (X : Cx) (F : Fx) (W : WX) (st : List Stmt) (x : XSs) : Prop := PSs X st (tS X F W (exs F.cal x))
theorem RunS.here_nx {σ : Env} {σV : L2.St} {D : Ends} (m : RS K T ρ S H) (e : EnvR K T Y ρ H σ σV) (h : RunS K T Y Z W ρ H (.ok (.nx σ) S) D) : D.nx σV H := h ρ H σV .refl m e
theorem sS_pass {pos : Pos} : SS X F W (.Pass pos) .pass := PSw ps_pass fun D σ H h => by
  obtain ⟨ρ, s, S, m, e, r⟩ := h
  exact RunS.here_nx (σ := s) m e r
theorem sS_brk {pos : Pos} : SS X F W (.Break pos) .brk := PSw ps_break fun D σ H h => by
  obtain ⟨ρ, s, S, m, e, r⟩ := h
  exact r ρ H σ .refl m e
theorem sS_cnt {pos : Pos} : SS X F W (.Continue pos) .cnt := PSw ps_continue fun D σ H h => by
  obtain ⟨ρ, s, S, m, e, r⟩ := h
  exact r ρ H σ .refl m e
theorem sS_nil : SSs X F W [] .nil := PSsw pss_nil fun D σ H h => by
  obtain ⟨ρ, s, S, m, e, r⟩ := h
  exact RunS.here_nx (σ := s) m e r
theorem RunS.seq {m : M Flow} {k : Env → M Flow} {D : Ends} (h : RunS K T Y Z W ρ H (M.bind m (fun f => match f with | .nx σ2 => k σ2 | f => M.pure f) S) D) :
    RunS K T Y Z W ρ H (m S) { D with nx := fun σV H1 => ∃ ρ1 σ1 S1, RS K T ρ1 S1 H1 ∧ EnvR K T Y ρ1 H1 σ1 σV ∧ RunS K T Y Z W ρ1 H1 (k σ1 S1) D } := by
  unfold M.bind at h
  cases e : m S with
  | bad => rw [e] at h; exact h
  | exc c p S' => rw [e] at h; exact h
  | ok f S1 =>
    rw [e] at h
    cases f with
    | nx σ =>
      have h' : RunS K T Y Z W ρ H (k σ S1) D := h
      exact fun ρ1 H1 σV e1 m1 x => ⟨ρ1, σ, S1, m1, x, h'.shift e1 m1⟩
    | bk σ => exact h
    | ct σ => exact h
    | rt d => exact h
    | xc c p σ => exact h
theorem sS_cons {st : Stmt} {rest : List Stmt} {x : XS} {xs : XSs} (h1 : SS X F W st x) (h2 : SSs X F W rest xs) : SSs X F W (st :: rest) (.cons x xs) := by
  refine PSsw (pss_cons h1 h2) fun D σ H h => ?_
  obtain ⟨ρ, s, S, m, e, r⟩ := h
  exact ⟨ρ, s, S, m, e, RunS.seq (k := exs F.cal xs) r⟩
theorem sS_expr {e : Expr} {x : XE} {pos : Pos} (he : PE X e (tE X F W x)) (hs : swapsWith e none pos.line X.env = pure false) : SS X F W (.Expr e pos) (.expr x) := by
  refine PSw (ps_expr he hs) fun D σ H h => ?_
  refine Go.mono (tS.at (rA := rdR X F) h) fun v H1 q => ?_
  obtain ⟨ρ, s, a, S, S0, _, m, e, r, q⟩ := q
  exact RunS.here_nx (σ := s) m e q
theorem sS_ret {e : Expr} {x : XE} {pos : Pos} (he : PE X e (tE X F W x)) : SS X F W (.Return (some e) pos) (.ret x) := by
  refine PSw (ps_ret he) fun D σ H h => ?_
  refine Go.mono (tS.at (rA := rdR X F) h) fun v H1 q => ?_
  obtain ⟨ρ, s, a, S, S0, _, m, e, r, q⟩ := q
  exact q ρ H1 v .refl m r
theorem sS_retN {pos : Pos} : SS X F W (.Return none pos) (.ret (.con .non)) := by
  refine PSw ps_retN fun D σ H h => ?_
  obtain ⟨ρ, s, S, m, e, r⟩ := h
  exact r ρ H .non .refl m .non
theorem sS_if {c : Expr} {a b : List Stmt} {x : XE} {y z : XSs} {pos : Pos} (hc : PT X c (tT X F W x)) (ha : SSs X F W a y) (hb : SSs X F W b z) : SS X F W (.If c a b pos) (.ite x y z) := by
  refine PSw (ps_if hc ha hb) fun D σ H h => ?_
  refine Go.mono (tS.at (rA := fun _ _ (a b : Bool) => a = b) h) fun k H1 q => ?_
  obtain ⟨ρ, s, k', S, S0, _, m, e, rfl, q⟩ := q
  cases k' with
  | true => exact ⟨ρ, s, S, m, e, q⟩
  | false => exact ⟨ρ, s, S, m, e, q⟩
theorem RunS.mono {r : Res Flow} {D D' : Ends} (h : RunS K T Y Z W ρ H r D) (h1 : ∀ σ H, D.nx σ H → D'.nx σ H) (h2 : ∀ σ H, D.bk σ H → D'.bk σ H) (h3 : ∀ σ H, D.ct σ H → D'.ct σ H) (h4 : ∀ v H, D.rt v H → D'.rt v H) : RunS K T Y Z W ρ H r D' := by
  cases r with
  | bad => exact h
  | exc c p S2 => exact h
  | ok f S2 =>
    cases f with
    | nx σ => exact fun ρ2 H2 σV e2 m2 x => h1 _ _ (h ρ2 H2 σV e2 m2 x)
    | bk σ => exact fun ρ2 H2 σV e2 m2 x => h2 _ _ (h ρ2 H2 σV e2 m2 x)
    | ct σ => exact fun ρ2 H2 σV e2 m2 x => h3 _ _ (h ρ2 H2 σV e2 m2 x)
    | rt d => exact fun ρ2 H2 v e2 m2 x => h4 _ _ (h ρ2 H2 v e2 m2 x)
    | xc c p σ => exact h
/-- while: so many turns are left -/
theorem sS_whl {c : Expr} {b : List Stmt} {x : XE} {y : XSs} {pos : Pos} (hp : PassesOwn (model X.prog X.w) X.A X.env X.xe) (hc : PT X c (tT X F W x)) (hb : SSs X F W b y) : SS X F W (.While c b [] pos) (.whl x y) := by
  refine PSw (ps_while hp hc hb) fun D σ H h => ?_
  refine ⟨fun n σ H => tS X F W (whlGo (tst F.cal x) (exs F.cal y) n) D σ H, ⟨turns, h⟩, ?_⟩
  intro n σ H h
  cases n with
  | zero =>
    obtain ⟨ρ, s, S, m, e, r⟩ := h
    exact r.elim
  | succ n =>
    refine Go.mono (tS.at (rA := fun _ _ (a b : Bool) => a = b) h) fun k H1 q => ?_
    obtain ⟨ρ, s, k', S, S0, _, m, e, rfl, q⟩ := q
    cases k' with
    | false => exact RunS.here_nx (σ := s) m e q
    | true =>
      rw [if_pos rfl]
      refine ⟨fun σ H => tS X F W (whlGo (tst F.cal x) (exs F.cal y) n) D σ H, fun σ' H' q => ⟨n, Nat.lt_succ_self _, q⟩, ρ, s, S, m, e, ?_⟩
      revert q
      show RunS X.K F.T F.Y F.Z W ρ H1 (M.bind (exs F.cal y s) _ S) D → _
      unfold M.bind
      cases hz : exs F.cal y s S with
      | bad => exact fun q => q
      | exc c p S' => exact fun q => q
      | ok f S1 =>
        cases f with
        | nx σ => exact fun q ρ1 H2 σV e1 m1 x => ⟨ρ1, σ, S1, m1, x, RunS.shift e1 m1 q⟩
        | ct σ => exact fun q ρ1 H2 σV e1 m1 x => ⟨ρ1, σ, S1, m1, x, RunS.shift e1 m1 q⟩
        | bk σ => exact fun q => q
        | rt d => exact fun q => q
        | xc c p σ => exact fun q => q
end
end Lk
end

section
/-! E8: targets, assignments. -/
set_option Elab.async false
set_option linter.all false
set_option maxRecDepth 100000
set_option maxHeartbeats 2000000
namespace Lk
open PySem PySem.Spec PyProof.Rows L2 SlX
theorem PGw {X : Cx} {e : Expr} {t t' : TG} (h : PG X e t) (i : ∀ v σ H Q, t' v σ H Q → t v σ H Q) : PG X e t' := ⟨fun pins s σ H v u Q I r q => h.run pins s σ H v u Q I r (i v σ H Q q)⟩
theorem PGl {X : Cx} {e : Expr} {t t' : TG} (h : PG X e t) (i : ∀ v σ H Q, σ.length = X.N.length → t' v σ H Q → t v σ H Q) : PG X e t' := ⟨fun pins s σ H v u Q I r q => h.run pins s σ H v u Q I r (i v σ H Q I.len q)⟩
theorem PGsw {X : Cx} {e : List Expr} {t t' : TGs} (h : PGs X e t) (i : ∀ v σ H Q, t' v σ H Q → t v σ H Q) : PGs X e t' := ⟨fun pins s σ H v u Q I r q => h.run pins s σ H v u Q I r (i v σ H Q q)⟩
section
variable {X : Cx} {F : Fx} {W : WX} {K : PySem.W.Frag} {T : Ty} {Z : Xs} {Y : Option Slf} {ρ : Pm} {H : Hp} {S : Store}
def gE (X : Cx) (F : Fx) (t : Tg) : TG := fun v σV H Q => ∃ ρ σ S d σ2, RS X.K F.T ρ S H ∧ EnvR X.K F.T F.Y ρ H σ σV ∧ RD X.K F.T ρ H d v ∧ setTg t d σ = some σ2 ∧ ∀ σV2, EnvR X.K F.T F.Y ρ H σ2 σV2 → (∀ vs, t.sub vs = true → L2.wipe σV2 vs = L2.wipe σV vs) → Q σV2 H
def gEs (X : Cx) (F : Fx) (t : Tgs) : TGs := fun vs σV H Q => ∃ ρ σ S ds σ2, RS X.K F.T ρ S H ∧ EnvR X.K F.T F.Y ρ H σ σV ∧ RDs X.K F.T ρ H ds vs ∧ setTgs t ds σ = some σ2 ∧ ∀ σV2, EnvR X.K F.T F.Y ρ H σ2 σV2 → (∀ vs, t.sub vs = true → L2.wipe σV2 vs = L2.wipe σV vs) → Q σV2 H
theorem wipe_set {σ : L2.St} {i : Nat} {v : Option V} : ∀ {vs : List Nat}, i ∈ vs → L2.wipe (σ.set i v) vs = L2.wipe σ vs
  | [], h => by cases h
  | k :: vs, h => by
    show (L2.wipe (σ.set i v) vs).set k none = (L2.wipe σ vs).set k none
    by_cases hi : i ∈ vs
    · rw [wipe_set hi]
    · have e : i = k := by simpa [hi] using h
      subst e
      have key : ∀ ws : List Nat, i ∉ ws → L2.wipe (σ.set i v) ws = (L2.wipe σ ws).set i v := by
        intro ws
        induction ws with
        | nil => intro _; rfl
        | cons w ws ih =>
          intro hw
          simp only [List.mem_cons, not_or] at hw
          show (L2.wipe (σ.set i v) ws).set w none = ((L2.wipe σ ws).set w none).set i v
          rw [ih hw.2, List.set_comm _ _ hw.1]
      rw [key vs hi, List.set_set]
theorem sG_name {i : Nat} {x : Str} {pos : Pos} (hN : X.N.Nodup) (hi : X.N[i]? = some x) (hx : Loc X.env.scope x) (hf : X.fn x = true ∨ X.env.scope.names.lookup x = some .local) : PG X (.Name x pos) (gE X F (.nm i)) := by
  refine PGl (pg_name hN hi hx hf) fun v σ H Q hl h => ?_
  obtain ⟨ρ, s, S, d, s2, m, e, r, hs, q⟩ := h
  cases hs
  exact q _ (e.set i (by rw [hl]; exact ix_lt hi) r) fun vs hv => wipe_set (by simpa [Tg.sub] using hv)
theorem sGs_nil : PGs X [] (gEs X F .nil) := by
  refine PGsw pgs_nil fun v σ H Q h => ?_
  obtain ⟨ρ, s, S, d, s2, m, e, r, hs, q⟩ := h
  cases d with
  | cons _ _ => cases hs
  | nil =>
    cases hs
    cases r
    exact ⟨rfl, q σ e fun _ _ => rfl⟩
theorem sGs_cons {e : Expr} {es : List Expr} {t : Tg} {ts : Tgs} (h1 : PG X e (gE X F t)) (h2 : PGs X es (gEs X F ts)) (hs : (assignEach (e :: es) X.env).map (·.2) = assign e X.env :: (assignEach es X.env).map (·.2)) : PGs X (e :: es) (gEs X F (.cons t ts)) := by
  refine PGsw (pgs_cons h1 h2 hs) fun v σ H Q h => ?_
  obtain ⟨ρ, s, S, ds, s2, m, e, r, hs, q⟩ := h
  cases ds with
  | nil => cases hs
  | cons d ds =>
    simp only [setTgs] at hs
    cases r with
    | cons r1 r2 =>
      refine ⟨_, _, rfl, ?_⟩
      cases h1 : setTg t d s with
      | none => rw [h1] at hs; cases hs
      | some s1 =>
        rw [h1] at hs
        exact ⟨ρ, s, S, d, s1, m, e, r1, h1, fun σV1 e1 w1 => ⟨ρ, s1, S, ds, s2, m, e1, r2, hs, fun σV2 e2 w2 => q σV2 e2 fun vs hv => by
          simp only [Tgs.sub, Bool.and_eq_true] at hv
          rw [w2 vs hv.2, w1 vs hv.1]⟩⟩
theorem setTgs_len : ∀ {ts : Tgs} {ds : List D} {σ σ2 : Env}, setTgs ts ds σ = some σ2 → ds.length = ts.len
  | .nil, ds, σ, σ2, h => by
    cases ds with
    | nil => rfl
    | cons _ _ => cases h
  | .cons t r, ds, σ, σ2, h => by
    cases ds with
    | nil => cases h
    | cons d ds =>
      simp only [setTgs] at h
      split at h
      · simp [Tgs.len, setTgs_len h]
      · cases h
theorem sG_tup {es : List Expr} {k : Nat} {ts : Tgs} {pos : Pos} (hc : X.calm = true) (h : PGs X es (gEs X F ts)) (hn : (assignEach es X.env).length = ts.len) (hst : (assignEach es X.env).findIdx? (·.1) = none) : PG X (.Tuple es k pos) (gE X F (.tp ts)) := by
  refine PGw (pg_tup hc h hn hst) fun v σ H Q h => ?_
  obtain ⟨ρ, s, S, d, s2, m, e, r, hs, q⟩ := h
  cases d with
  | tup xs =>
    have hs : setTgs ts xs s = some s2 := hs
    obtain ⟨a, vs, rfl, ha, rs⟩ := r.tup_inv
    exact ⟨a, vs, rfl, ha, by rw [← rs.length]; exact setTgs_len hs, ρ, s, S, xs, s2, m, e, rs, hs, q⟩
  | _ => cases hs
theorem assignEach_cons (e : Expr) (es : List Expr) (env : PySem.Env) (h : ∀ v p, e ≠ .Starred v p) : assignEach (e :: es) env = (false, assign e env) :: assignEach es env := by
  cases e <;> first | rfl | exact absurd rfl (h _ _)
theorem RunS.opt {α : Type} {o : Option α} {k : α → M Flow} {D : Ends} (h : RunS K T Y Z W ρ H (M.bind (M.opt o) k S) D) : ∃ a, o = some a ∧ RunS K T Y Z W ρ H (k a S) D := by
  cases o with
  | none => exact h.elim
  | some a => exact ⟨a, rfl, h⟩
/-- the reading of an assignment -/
theorem asg_of {x : XE} {t : Tg} {D : Ends} {σ : L2.St} {H : Hp} (h : tS X F W (ex F.cal (.set t x)) D σ H) : tAsg (tE X F W x) (gE X F t) D σ H := by
  refine Go.mono (tS.at (rA := rdR X F) h) fun v H1 q => ?_
  obtain ⟨ρ, s, a, S, S0, _, m, e, r, q⟩ := q
  obtain ⟨s2, hs, q⟩ := RunS.opt q
  exact ⟨ρ, s, S, a, s2, m, e, r, hs, fun σV2 e2 _ => RunS.here_nx (σ := s2) m e2 q⟩
theorem sS_set {tg e : Expr} {x : XE} {t : Tg} {pos : Pos} (he : PE X e (tE X F W x)) (hg : PG X tg (gE X F t)) (hs : swapsWithSole [tg] e pos.line X.env = pure false) (hw : swappedStores [tg] e X.env = pure none) (h1 : (assignEach [tg] X.env).map (·.2) = [assign tg X.env]) :
    SS X F W (.Assign [tg] e pos) (.set t x) := PSw (ps_asg he hg hs hw h1) fun D σ H h => asg_of h
/-- a, b = x, y | a, b, c = x, y, z: stored from the right -/
theorem sS_par {x y : Str} {i j : Nat} {a b : Expr} {xs : XEs} {px py pt pos : Pos} {kt k2 pt2} (hc : X.calm = true) (hN : X.N.Nodup) (hi : X.N[i]? = some x) (hj : X.N[j]? = some y) (hij : i ≠ j)
    (hx : X.env.scope.names.lookup x = some .local) (hy : X.env.scope.names.lookup y = some .local) (ha : PA X [a, b] (tAs X F W xs))
    (hw : swappedStores [.Tuple [.Name x px, .Name y py] kt pt] (.Tuple [a, b] k2 pt2) X.env = pure (some [x, y])) (hs : swapsWithSole [.Tuple [.Name x px, .Name y py] kt pt] (.Tuple [a, b] k2 pt2) pos.line X.env = pure false) :
    SS X F W (.Assign [.Tuple [.Name x px, .Name y py] kt pt] (.Tuple [a, b] k2 pt2) pos) (.set (.tp (.cons (.nm i) (.cons (.nm j) .nil))) (.tup xs)) := by
  refine PSl (ps_par hc hN hi hj hij hx hy ha hw hs) fun D σ H hl h => ?_
  obtain ⟨ρ, s, S, m, e, r⟩ := h
  refine ⟨ρ, s, S, m, e, ?_⟩
  have r : RunS X.K F.T F.Y F.Z W ρ H (M.at s (M.bind (evs F.cal xs s) fun ds => M.pure (.tup ds)) (fun d => M.bind (M.opt (setTg (.tp (.cons (.nm i) (.cons (.nm j) .nil))) d s)) fun σ2 => M.pure (.nx σ2)) S) D := r
  unfold M.at M.bind at r
  unfold Run
  cases z : evs F.cal xs s S with
  | bad => rw [z] at r; exact r
  | exc c p S1 =>
    rw [z] at r
    exact fun ρ1 H1 cls d e1 m1 w => r ρ1 H1 σ cls d e1 m1 (e.mono m e1) w
  | ok ds S1 =>
    rw [z] at r
    intro ρ1 H1 vs e1 m1 rs
    match ds, rs, r with
    | [d1, d2], .cons r1 (.cons r2 .nil), r => exact ⟨_, _, rfl, r ρ1 H1 _ e1 m1 (((e.mono m e1).set i (by rw [hl]; exact ix_lt hi) r1).set j (by rw [List.length_set, hl]; exact ix_lt hj) r2)⟩
    | [], _, r => exact r.elim
    | [_], _, r => exact r.elim
    | _ :: _ :: _ :: _, _, r => exact r.elim
/-- name op= e -/
theorem aug_of {o : Bop} {f : Int → Int → Int} (hf : ∀ a b z, augD o a b = some z → ∃ i j, a = .int i ∧ b = .int j ∧ z = .int (f i j)) {i : Nat} {y : XE} {D : Ends} {σ : L2.St} {H : Hp} (hl : i < σ.length) (h : tS X F W (ex F.cal (.aug i o y)) D σ H) : tAug i (tE X F W y) (ipI f) D σ H := by
  obtain ⟨ρ, s, S, m, e, r⟩ := h
  obtain ⟨a, ha, r⟩ := RunS.opt (o := slotOf s i) r
  obtain ⟨v, hv, rv⟩ := e.2.2 i a hl (slotOf_some ha)
  refine ⟨v, hv, ρ, s, S, m, e, (RunS.at (rA := rdR X F) r m e).mono ?_⟩
  rintro w H1 ⟨ρ1, b, S1, _, e1, m1, rb, q⟩
  obtain ⟨z, hz, q⟩ := RunS.opt q
  obtain ⟨k, l, rfl, rfl, rfl⟩ := hf _ _ _ hz
  exact ⟨k, l, rv.int_inv, rb.int_inv, RunS.here_nx m1 ((e.mono m e1).set i hl (.int _)) q⟩
theorem sS_augAdd {i : Nat} {x : Str} {e : Expr} {y : XE} {pos pos' : Pos} (hN : X.N.Nodup) (hi : X.N[i]? = some x) (hx : Loc X.env.scope x) (he : PE X e (tE X F W y)) (hf : X.fn x = true ∨ X.env.scope.names.lookup x = some .local) : SS X F W (.AugAssign (.Name x pos') .Add e pos) (.aug i .add y) :=
  PSl (ps_aug hN hi hx he ip_add hf) fun D σ H hl h => aug_of (fun a b z hz => by
    unfold augD at hz
    split at hz
    · cases hz; exact ⟨_, _, rfl, rfl, rfl⟩
    · exfalso; simp_all
    · cases hz) (by rw [hl]; exact ix_lt hi) h
theorem sS_augSub {i : Nat} {x : Str} {e : Expr} {y : XE} {pos pos' : Pos} (hN : X.N.Nodup) (hi : X.N[i]? = some x) (hx : Loc X.env.scope x) (he : PE X e (tE X F W y)) (hf : X.fn x = true ∨ X.env.scope.names.lookup x = some .local) : SS X F W (.AugAssign (.Name x pos') .Sub e pos) (.aug i .sub y) :=
  PSl (ps_aug hN hi hx he ip_sub hf) fun D σ H hl h => aug_of (fun a b z hz => by
    unfold augD at hz
    split at hz
    · exfalso; simp_all
    · cases hz; exact ⟨_, _, rfl, rfl, rfl⟩
    · cases hz) (by rw [hl]; exact ix_lt hi) h
/-- xs[i] = e -/
theorem setD_inv {x k d : D} {S' : Store} (h : setD x k d S = .ok () S') : (∃ n xs i j, x = .ref n ∧ k = .int i ∧ S.get n = some (.lst xs) ∧ ixOf xs.length i = some j ∧ S' = S.put n (.lst (xs.set j d))) ∨
    ∃ n t kvs t2, x = .ref n ∧ S.get n = some (.dic t kvs) ∧ fitK t kvs k = some t2 ∧ kvs.length < sizeMax ∧ S' = S.put n (.dic t2 (putK kvs k d)) := by
  unfold setD at h
  cases x with
  | ref n =>
    simp only at h
    cases g : S.get n with
    | none => rw [g] at h; cases h
    | some o =>
      rw [g] at h
      cases o with
      | lst xs =>
        simp only at h
        cases hj : (intOf k).bind (ixOf xs.length) with
        | none => rw [hj] at h; cases h
        | some j =>
          rw [hj] at h
          cases h
          obtain ⟨i, hi, hj⟩ := bind_some hj
          cases intOf_inv hi
          exact .inl ⟨n, xs, i, j, rfl, rfl, g, hj, rfl⟩
      | dic t kvs =>
        simp only at h
        cases hf : fitK t kvs k with
        | none => rw [hf] at h; cases h
        | some t2 =>
          rw [hf] at h
          cases hl : decide (kvs.length < sizeMax) with
          | false => rw [hl] at h; cases h
          | true =>
            rw [hl] at h
            cases h
            exact .inr ⟨n, t, kvs, t2, rfl, g, hf, of_decide_eq_true hl, rfl⟩
      | ins c fs => cases h
  | _ => cases h
/-- a store into a list or a dict -/
def SetR (X : Cx) (F : Fx) : TSet := fun o i v H Q => ∃ ρ x k d S S', RS X.K F.T ρ S H ∧ RD X.K F.T ρ H x o ∧ RD X.K F.T ρ H k i ∧ RD X.K F.T ρ H d v ∧ setD x k d S = .ok () S' ∧ ∀ H', Ext ρ H ρ H' → RS X.K F.T ρ S' H' → Q H'
theorem set_data (hw : F.T.w = X.w) (hu : X.A.units + 80 < cLine) : PSet X (SetR X F) := by
  intro pins s σ H o i v ov iv u Q I ro ri rv h
  obtain ⟨ρ, x, k, d, S, S', m, r1, r2, r3, hs, q⟩ := h
  rcases setD_inv hs with ⟨n, xs, i', j, rfl, rfl, g, hj, rfl⟩ | ⟨n, t, kvs, t2, rfl, g, hf, hl, rfl⟩
  · cases r1 with
    | @ref _ a hn =>
      obtain ⟨a', h1, vs, h2, h3⟩ := m.at_ _ _ g
      rw [hn] at h1
      cases h1
      refine set_list pins s σ H _ _ _ ov iv u Q I ro ri rv ⟨a, vs, i', j, rfl, r2.int_inv, h2, by rw [← h3.length]; exact hj, ?_⟩
      have ep : Ext ρ H ρ (upd H a (.lst (vs.set j v))) := ext_put m hn
      exact q _ ep (m.put hn trivial ⟨_, upd_same, (h3.set r3 j).mono m ep⟩)
  · cases r1 with
    | @ref _ a hn =>
      cases (show ov = Value.ref a from ro)
      obtain ⟨a', h1, xs, h2, h3, h4⟩ := m.at_ _ _ g
      rw [hn] at h1
      cases h1
      have dk : DkAt X.K F.T ρ H a t kvs := ⟨xs, .inl h2, h3, h4⟩
      refine run_put I hw (by omega) dk hf hl r2 ri r3 rv fun h' tk ys f1 f2 f3 sb => ?_
      have ep : Ext ρ H ρ (upd H a (DyO a ys)) := ext_put m hn
      have J : L2.Inv X pins σ (upd H a (DyO a ys)) { s with heap := h', toks := tk } := by
        obtain ⟨_, _, o, es, ep', g1, _⟩ := id f1
        refine I.write (x := a) (e := a) (by rw [h2]; trivial) (.inl rfl) (fun b w hb e => (sb.2 b hb).trans e) ⟨o, g1⟩ (dy_obj f1)
      exact ⟨_, J, q _ ep (m.put hn trivial ⟨ys, upd_same, f3, f2.mono m ep⟩)⟩
/-- the reading of a store -/
theorem setIx_of {x y : XE} {d : D} {v : V} {k : M Flow} {sg : Env} {σ : L2.St} {D : Ends} (m : RS X.K F.T ρ S H) (e : EnvR X.K F.T F.Y ρ H sg σ) (r : RD X.K F.T ρ H d v)
    (q : RunS X.K F.T F.Y F.Z W ρ H (M.at sg (ev F.cal x sg) (fun a => M.at sg (ev F.cal y sg) fun i => M.bind (setD a i d) fun _ => k) S) D) :
    tE X F W x σ H fun o H2 => tE X F W y σ H2 fun i H3 => SetR X F o i v H3 fun H4 => ∃ ρ4 S4, Ext ρ H ρ4 H4 ∧ RS X.K F.T ρ4 S4 H4 ∧ EnvR X.K F.T F.Y ρ4 H4 sg σ ∧ RunS X.K F.T F.Y F.Z W ρ4 H4 (k S4) D := by
  refine ⟨ρ, sg, S, m, e, (RunS.at (rA := rdR X F) q m e).mono ?_⟩
  rintro o H2 ⟨ρ2, x', S2, _, x2, m2, r2, q2⟩
  refine ⟨ρ2, sg, S2, m2, e.mono m x2, (RunS.at (rA := rdR X F) q2 m2 (e.mono m x2)).mono ?_⟩
  rintro i H3 ⟨ρ3, k', S3, _, x3, m3, r3, q3⟩
  cases hz : setD x' k' d S3 with
  | bad => exact absurd q3 (by show ¬ RunS _ _ _ _ _ _ _ (M.bind (setD x' k' d) _ S3) D; unfold M.bind; rw [hz]; exact fun q => q)
  | exc c p S4 => exact absurd q3 (by show ¬ RunS _ _ _ _ _ _ _ (M.bind (setD x' k' d) _ S3) D; unfold M.bind; rw [hz]; exact fun q => q)
  | ok u S4 =>
    have q4 : RunS X.K F.T F.Y F.Z W ρ3 H3 (k S4) D := by
      have : M.bind (setD x' k' d) (fun _ => k) S3 = k S4 := by unfold M.bind; rw [hz]
      rw [← this]; exact q3
    exact ⟨ρ3, x', k', d, S3, S4, m3, r2.mono m2 x3, r3, (r.mono m x2).mono m2 x3, hz, fun H' x4 m4 => ⟨ρ3, S4, (x2.trans x3 m2).trans x4 m3, m4, ((e.mono m x2).mono m2 x3).mono m3 x4, RunS.shift x4 m4 q4⟩⟩
theorem SetR.mono {o i v : V} {Q Q' : Hp → Prop} (h : SetR X F o i v H Q) (g : ∀ H, Q H → Q' H) : SetR X F o i v H Q' := by
  obtain ⟨ρ, x, k, d, S, S', m, r1, r2, r3, hs, q⟩ := h
  exact ⟨ρ, x, k, d, S, S', m, r1, r2, r3, hs, fun H' e m' => g _ (q H' e m')⟩
theorem sS_setIx {a b e : Expr} {x y z : XE} {pos pos' : Pos} (hw' : F.T.w = X.w) (hu : X.A.units + 80 < cLine) (ha : PE X a (tE X F W x)) (hb : PE X b (tE X F W y)) (he : PE X e (tE X F W z))
    (hA : ∀ v, assign (.Subscript a b pos') X.env v = (do
      let ov ← holding [v] (eval a X.env)
      let iv ← holding [v, ov] (eval b X.env)
      standAt pos'
      holding [v, ov, iv] (setItem ov iv v)
      release [v, ov, iv] []))
    (hs : swapsWithSole [.Subscript a b pos'] e pos.line X.env = pure false) (hw : swappedStores [.Subscript a b pos'] e X.env = pure none) (h1 : (assignEach [.Subscript a b pos'] X.env).map (·.2) = [assign (.Subscript a b pos') X.env]) :
    SS X F W (.Assign [.Subscript a b pos'] e pos) (.setIx x y z) := by
  refine PSw (ps_asg he (pg_sub ha hb (set_data hw' hu) hA) hs hw h1) fun D σ H h => ?_
  refine Go.mono (tS.at (rA := rdR X F) h) fun v H1 q => ?_
  obtain ⟨ρ, s, d, S, S0, _, m, e, r, q⟩ := q
  refine Go.mono (setIx_of m e r q) fun o H2 q2 => Go.mono q2 fun i H3 q3 => q3.mono fun H4 ⟨ρ4, S4, _, m4, e4, q4⟩ => RunS.here_nx (σ := s) m4 e4 q4
/-- two stores, one behind the other -/
theorem sS_setIx2 {a b a2 b2 e : Expr} {x y x2 y2 z : XE} {pos p1 p2 tpos : Pos} {kt : Nat} (hw' : F.T.w = X.w) (hu : X.A.units + 80 < cLine) (hc : X.calm = true) (ha : PE X a (tE X F W x)) (hb : PE X b (tE X F W y)) (ha2 : PE X a2 (tE X F W x2)) (hb2 : PE X b2 (tE X F W y2)) (he : PE X e (tE X F W z))
    (hA : ∀ v, assign (.Subscript a b p1) X.env v = (do
      let ov ← holding [v] (eval a X.env)
      let iv ← holding [v, ov] (eval b X.env)
      standAt p1
      holding [v, ov, iv] (setItem ov iv v)
      release [v, ov, iv] []))
    (hA2 : ∀ v, assign (.Subscript a2 b2 p2) X.env v = (do
      let ov ← holding [v] (eval a2 X.env)
      let iv ← holding [v, ov] (eval b2 X.env)
      standAt p2
      holding [v, ov, iv] (setItem ov iv v)
      release [v, ov, iv] []))
    (hs : swapsWithSole [.Tuple [.Subscript a b p1, .Subscript a2 b2 p2] kt tpos] e pos.line X.env = pure false) (hw : swappedStores [.Tuple [.Subscript a b p1, .Subscript a2 b2 p2] kt tpos] e X.env = pure none) (h1 : (assignEach [.Tuple [.Subscript a b p1, .Subscript a2 b2 p2] kt tpos] X.env).map (·.2) = [assign (.Tuple [.Subscript a b p1, .Subscript a2 b2 p2] kt tpos) X.env]) :
    SS X F W (.Assign [.Tuple [.Subscript a b p1, .Subscript a2 b2 p2] kt tpos] e pos) (.setIx2 x y x2 y2 z) := by
  have hg := pgs_cons (pg_sub ha hb (set_data hw' hu) hA) (pgs_cons (pg_sub ha2 hb2 (set_data hw' hu) hA2) pgs_nil rfl) rfl
  refine PSw (ps_asg he (pg_tup (n := 2) hc hg rfl rfl) hs hw h1) fun D σ H h => ?_
  refine Go.mono (tS.at (rA := rdR X F) h) fun v H1 q => ?_
  obtain ⟨ρ, s, d, S, S0, _, m, e, r, q⟩ := q
  split at q
  · rename_i d1 d2
    obtain ⟨p, vs, rfl, hp, rs⟩ := r.tup_inv
    cases rs with
    | @cons _ _ v1 _ r1 rs =>
      cases rs with
      | @cons _ _ v2 _ r2 rs =>
        cases rs
        refine ⟨p, [v1, v2], rfl, hp, rfl, v1, [v2], rfl, ?_⟩
        refine Go.mono (setIx_of m e r1 q) fun o H2 q2 => Go.mono q2 fun i H3 q3 => q3.mono fun H4 ⟨ρ4, S4, x4, m4, e4, q4⟩ => ⟨v2, [], rfl, ?_⟩
        exact Go.mono (setIx_of m4 e4 (r2.mono m x4) q4) fun o H2 q2 => Go.mono q2 fun i H3 q3 => q3.mono fun H5 ⟨ρ5, S5, _, m5, e5, q5⟩ => ⟨rfl, RunS.here_nx (σ := s) m5 e5 q5⟩
  · exact q.elim
end
end Lk
end

section
/-! E9: loops and comprehensions. -/
set_option Elab.async false
set_option linter.all false
set_option maxRecDepth 100000
set_option maxHeartbeats 2000000
namespace Lk
open PySem PySem.Spec PyProof.Rows L2 SlX
theorem PIw {X : Cx} {tg it : Expr} {w w' : TI} (h : PI X tg it w) (i : ∀ σ H R, w' σ H R → w σ H R) : PI X tg it w' := ⟨fun pins s σ H R I q => h.run pins s σ H R I (i σ H R q)⟩
section
variable {X : Cx} {F : Fx} {W : WX} {K : PySem.W.Frag} {T : Ty} {Z : Xs} {Y : Option Slf} {ρ : Pm} {H : Hp} {S : Store}
/-- an iterator gives these values, as long as the guarded lists stand -/
def IterR (K : PySem.W.Frag) (T : Ty) (ρ0 : Pm) (H0 : Hp) (p : List D × Gd) (J : It) : Prop :=
  ∀ ρ S H, ExtK ρ0 H0 ρ H → RS K T ρ S H → stands S p.2 = true → (∀ i, i < p.1.length → J.go i H) ∧ J.stop p.1.length H ∧ ∀ i v H', i < p.1.length → J.yld i H v H' → Ext ρ H ρ H' ∧ RS K T ρ S H' ∧ ∃ d, p.1[i]? = some d ∧ RD K T ρ H' d v
def tI (X : Cx) (F : Fx) (W : WX) (x : XI) : TI := fun σV H R => Go X F W (fun ρ H p J => IterR X.K F.T ρ H p J) (evI F.cal x) σV H R
/-- for over it -/
theorem sS_for {tg iter : Expr} {b : List Stmt} {t : Tg} {x : XI} {y : XSs} {pos : Pos} (hp : PassesOwn (model X.prog X.w) X.A X.env X.xe) (hc : X.calm = true) (hi : PI X tg iter (tI X F W x)) (hg : PG X tg (gE X F t)) (hb : SSs X F W b y) (hs : ∀ z, foldedSetIterable iter X.env z = pure z) :
    SS X F W (.For tg iter b [] pos) (.for t x y) := by
  refine PSw (ps_for hp hc hi hg hb hs) fun D σ H h => ?_
  refine Go.mono (tS.at (rA := fun ρ H p J => IterR X.K F.T ρ H p J) h) fun J H1 q => ?_
  obtain ⟨ρ0, s0, p, S0, _, _, m0, e0, it, q0⟩ := q
  obtain ⟨xs, g⟩ := p
  refine ⟨fun i n σ H => n = xs.length - i ∧ i ≤ xs.length ∧ ∃ ρ s S, Ext ρ0 H1 ρ H ∧ RS X.K F.T ρ S H ∧ EnvR X.K F.T F.Y ρ H s σ ∧ RunS X.K F.T F.Y F.Z W ρ H (forGo g t (exs F.cal y) (xs.drop i) s S) D,
    ⟨xs.length, by simp, Nat.zero_le _, ρ0, s0, S0, .refl, m0, e0, by simpa using q0⟩, ?_⟩
  rintro i n σ H ⟨rfl, hi, ρ, s, S, x1, m, e, r⟩
  have hst : stands S g = true := by
    by_cases hst : stands S g = true
    · exact hst
    · have hz : M.chk g S = .bad := by unfold M.chk; simp [hst]
      cases hx : xs.drop i with
      | nil => rw [hx] at r; unfold forGo M.bind at r; rw [hz] at r; exact r.elim
      | cons d ds => rw [hx] at r; unfold forGo M.bind at r; rw [hz] at r; exact r.elim
  have hok : M.chk g S = .ok () S := by unfold M.chk; simp [hst]
  obtain ⟨hgo, hstop, hyld⟩ := it ρ S H (x1.k m0 m) m hst
  by_cases hlt : i < xs.length
  · refine .inr ⟨hgo i hlt, fun σ' H' => ∃ ρ s S, Ext ρ0 H1 ρ H' ∧ RS X.K F.T ρ S H' ∧ EnvR X.K F.T F.Y ρ H' s σ' ∧ RunS X.K F.T F.Y F.Z W ρ H' (forGo g t (exs F.cal y) (xs.drop (i + 1)) s S) D,
      fun σ' H' q => ⟨xs.length - (i + 1), by omega, rfl, hlt, q⟩, fun v H' yv => ?_⟩
    obtain ⟨x2, m2, d, hd, rd⟩ := hyld i v H' hlt yv
    have hdr : xs.drop i = d :: xs.drop (i + 1) := by
      rw [List.drop_eq_getElem_cons hlt]
      rw [List.getElem?_eq_getElem hlt] at hd
      cases hd; rfl
    rw [hdr] at r
    have r := r.shift x2 m2
    unfold forGo at r
    rw [M.bind_ok hok] at r
    obtain ⟨s2, hs2, r⟩ := RunS.opt r
    refine ⟨ρ, s, S, d, s2, m2, e.mono m x2, rd, hs2, fun σV2 e2 _ => ⟨ρ, s2, S, m2, e2, ?_⟩⟩
    have x3 := x1.trans x2 m
    revert r
    unfold M.bind
    cases hz : exs F.cal y s2 S with
    | bad => exact fun q => q
    | exc c p S' => exact fun q => q
    | ok f S1 =>
      cases f with
      | nx σ1 => exact fun q ρ1 H2 σV e1 m1 z => ⟨ρ1, σ1, S1, x3.trans e1 m2, m1, z, RunS.shift e1 m1 q⟩
      | ct σ1 => exact fun q ρ1 H2 σV e1 m1 z => ⟨ρ1, σ1, S1, x3.trans e1 m2, m1, z, RunS.shift e1 m1 q⟩
      | bk σ1 => exact fun q => q
      | rt d => exact fun q => q
      | xc c p σ1 => exact fun q => q
  · have hi : i = xs.length := by omega
    subst hi
    rw [List.drop_length] at r
    unfold forGo at r
    rw [M.bind_ok hok] at r
    exact .inl ⟨hstop, RunS.here_nx (σ := s) m e r⟩

/-! ### lists, tuples, ranges -/
theorem pi_both {tg l : Expr} {tl : TE} (hl : PE X l tl) : PI X tg l (fun σ H R => tl σ H fun x H1 => ∃ a, x = .ref a ∧ ((∃ xs, SqL X.K H1 a xs) ∧ R (Itl X.K a) H1 ∨ (∃ xs, SqT X.K H1 a xs) ∧ R (Itt X.K a) H1)) := by
  refine ⟨fun pins s0 σ0 H0 R I0 hq => thn (hl.run pins s0 σ0 H0 _ I0 hq) fun v s1 q => ?_⟩
  obtain ⟨z, H2, I2, rz, a, hz, q⟩ := q
  subst hz
  cases rz
  have fresh := I2.fpOk (H' := H2) (Nat.le_refl _) (I2.hok.fresh (Nat.le_refl _))
  have grown : ∀ o : Obj, Inv X pins σ0 H2 { s1 with heap := s1.heap.push o } := fun o => I2.kept (t' := s1.toks) fun b u e => Heap.get?_push_of_some o e
  have only : ∀ b ∈ [s1.heap.objs.size], FpOk X pins H2 b := fun b hb => by
    rw [List.mem_singleton] at hb
    rw [hb]; exact fresh
  rcases q with ⟨⟨vs, hv⟩, q⟩ | ⟨⟨vs, hv⟩, q⟩
  · obtain ⟨its, _, isl, _⟩ := I2.list hv
    exact wpAny_pyIter_list isl.isList ⟨_, [s1.heap.objs.size], _, _, H2, rfl, grown _, turn_list a _, ⟨_, Heap.get?_push_size _ rfl, rfl, rfl⟩, only, q⟩
  · obtain ⟨its, _, ist, _⟩ := I2.tuple hv
    exact wpAny_pyIter_tuple (show s1.heap.IsTuple a its.toArray from ist) ⟨_, [s1.heap.objs.size], _, _, H2, rfl, grown _, turn_tuple a _, ⟨_, Heap.get?_push_size _ rfl, rfl, rfl⟩, only, q⟩
/-- a value's items, later: the same, if it stands -/
theorem items_later {d : D} {xs : List D} {v : V} {ρ' : Pm} {H' : Hp} {S' : Store} (m : RS K T ρ S H) (hx : itemsOf S d = some xs) (r : RD K T ρ H d v) (e : ExtK ρ H ρ' H') (m' : RS K T ρ' S' H') (hg : stands S' (guardOf S d) = true) : itemsOf S' d = some xs ∧ RD K T ρ' H' d v := by
  refine ⟨?_, r.monoK e⟩
  cases d with
  | ref n =>
    have hx : (match S.get n with | some (.lst xs) => some xs | _ => none) = some xs := hx
    have hg : stands S' (match S.get n with | some x => [(n, x)] | none => []) = true := hg
    show (match S'.get n with | some (.lst xs) => some xs | _ => none) = some xs
    cases g : S.get n with
    | none => rw [g] at hx; cases hx
    | some o =>
      rw [g] at hx hg
      simp only [stands, Bool.and_true] at hg
      cases g' : S'.get n with
      | none => rw [g'] at hg; cases hg
      | some o' =>
        rw [g'] at hg
        rw [sameO_eq hg]
        exact hx
  | _ => exact hx
/-- what the iterator of a list, of a tuple gives -/
theorem iter_seq {d : D} {xs : List D} {a : Addr} (m : RS K T ρ S H) (hx : seqOf S d = some xs) (r : RD K T ρ H d (.ref a)) : IterR K T ρ H (xs, guardOf S d) (Itl K a) := fun ρ' S' H' e' m' hg => by
  have hd : itemsOf S d = some xs := by cases d <;> first | exact hx | cases hx
  obtain ⟨hx', r'⟩ := items_later m hd r e' m' hg
  have hs' : seqOf S' d = some xs := by cases d <;> first | exact hx' | cases hx
  obtain ⟨a', vs, ea, ha, rs⟩ := seqOf_inv m' hs' r'
  cases ea
  refine ⟨fun i hi => ?_, ⟨vs, ha, by rw [← rs.length]; exact Nat.le_refl _⟩, fun i v H2 hi yv => ?_⟩
  · have hi' : i < vs.length := by rw [← rs.length]; exact hi
    exact ⟨vs, vs[i], ha, by simp [hi']⟩
  · obtain ⟨rfl, yv⟩ := yv
    obtain ⟨w, hw, rw'⟩ := rs.get (show xs[i]? = some xs[i] by simp [show i < xs.length from hi])
    rw [yv vs ha] at hw
    cases hw
    exact ⟨.refl, m', xs[i], by simp [show i < xs.length from hi], rw'⟩
theorem iter_tup {xs : List D} {a : Addr} (m : RS K T ρ S H) (r : RD K T ρ H (.tup xs) (.ref a)) : IterR K T ρ H (xs, []) (Itt K a) := fun ρ' S' H' e' m' hg => by
  obtain ⟨a', vs, ea, ha, rs⟩ := (r.monoK e').tup_inv
  cases ea
  refine ⟨fun i hi => ?_, ⟨vs, ha, by rw [← rs.length]; exact Nat.le_refl _⟩, fun i v H2 hi yv => ?_⟩
  · have hi' : i < vs.length := by rw [← rs.length]; exact hi
    exact ⟨vs, vs[i], ha, by simp [hi']⟩
  · obtain ⟨rfl, yv⟩ := yv
    obtain ⟨w, hw, rw'⟩ := rs.get (show xs[i]? = some xs[i] by simp [show i < xs.length from hi])
    rw [yv vs ha] at hw
    cases hw
    exact ⟨.refl, m', xs[i], by simp [show i < xs.length from hi], rw'⟩
/-- range(n), range(a, b) -/
theorem iter_rng {lo : Int} {n : Nat} : IterR K T ρ H ((List.range n).map fun (k : Nat) => D.int (lo + k), []) (Itr lo n) := fun ρ' S' H' e' m' hg => by
  refine ⟨fun i hi => (show i < n by simpa using hi), by simp [Itr], fun i v H2 hi yv => ?_⟩
  obtain ⟨rfl, rfl⟩ := yv
  have hi : i < n := by simpa using hi
  exact ⟨.refl, m', .int (lo + i), by simp [hi], .int _⟩
theorem sI_rng1 {tg a : Expr} {xs : XEs} {p pos : Pos} (hg : Gl X "range") (hm : X.mg "range" = none) (ha : PA X [a] (tAs X F W xs)) (hs : starEach [a] X.env = [(false, eval a X.env)]) (h1 : xs.len = 1) (hpl : xs.plain = true) : PI X tg (.Call (.Name "range" p) [a] [] pos) (tI X F W (.rng xs)) := by
  refine PIw (pi_range1 hg hm ha hs) fun σ H R q => ?_
  refine Go.mono (Go.bind (rA := RDs X.K F.T) q) fun vs H1 q => ?_
  obtain ⟨ρ, s, ds, S, S0, o, m, e, r, q⟩ := q
  obtain ⟨p, hp, q1⟩ := Run.opt q
  obtain ⟨ys, hy, rfl⟩ := map_some hp
  unfold rangeD at hy
  split at hy
  · rename_i n
    obtain ⟨h2, rfl⟩ := ite_some hy
    obtain ⟨v, rfl, rv⟩ := rds1 r
    refine ⟨n, by rw [rv.int_inv], by omega, by omega, Run.here m q1 ?_⟩
    have := iter_rng (K := X.K) (T := F.T) (ρ := ρ) (H := H1) (lo := 0) (n := n.toNat)
    simpa using this
  · have := evs_len hpl o
    rw [h1] at this
    cases this
  · have := evs_len hpl o
    rw [h1] at this
    cases this
  · cases hy
theorem sI_rng2 {tg a b : Expr} {xs : XEs} {p pos : Pos} (hg : Gl X "range") (hm : X.mg "range" = none) (ha : PA X [a, b] (tAs X F W xs)) (hs : starEach [a, b] X.env = [(false, eval a X.env), (false, eval b X.env)]) (hs2 : starEach [b] X.env = [(false, eval b X.env)]) (h1 : xs.len = 2) (hpl : xs.plain = true) : PI X tg (.Call (.Name "range" p) [a, b] [] pos) (tI X F W (.rng xs)) := by
  refine PIw (pi_range2 hg hm ha hs hs2) fun σ H R q => ?_
  refine Go.mono (Go.bind (rA := RDs X.K F.T) q) fun vs H1 q => ?_
  obtain ⟨ρ, s, ds, S, S0, o, m, e, r, q⟩ := q
  obtain ⟨p, hp, q1⟩ := Run.opt q
  obtain ⟨ys, hy, rfl⟩ := map_some hp
  unfold rangeD at hy
  split at hy
  · have := evs_len hpl o
    rw [h1] at this
    cases this
  · rename_i i j
    obtain ⟨h2, rfl⟩ := ite_some hy
    cases r with
    | cons r1 r2 =>
      obtain ⟨v, rfl, r3⟩ := rds1 r2
      exact ⟨i, j, by rw [r1.int_inv, r3.int_inv], ⟨by omega, by omega, by omega, by omega⟩, Run.here m q1 iter_rng⟩
  · have := evs_len hpl o
    rw [h1] at this
    cases this
  · cases hy
/-- range(a, b, c) -/
theorem iter_rngC {lo c : Int} {n : Nat} : IterR K T ρ H ((List.range n).map fun (k : Nat) => D.int (lo + k * c), []) (Itc lo c n) := fun ρ' S' H' e' m' hg => by
  refine ⟨fun i hi => (show i < n by simpa using hi), by simp [Itc], fun i v H2 hi yv => ?_⟩
  obtain ⟨rfl, rfl⟩ := yv
  have hi : i < n := by simpa using hi
  exact ⟨.refl, m', .int (lo + i * c), by simp [hi], .int _⟩
theorem rgc_pos {a b c : Int} (h : b < 1000000 ∧ -1000000 < b ∧ -1000000 < a ∧ a < 1000000 ∧ 0 < c ∧ c < 1000000) : RgC a b c (if a < b then ((b - a - 1) / c + 1).toNat else 0) := by
  have e : Builtin.Range.rangeSize a b c = (((if a < b then ((b - a - 1) / c + 1).toNat else 0 : Nat)) : Int) := by
    unfold Builtin.Range.rangeSize
    rw [if_pos (by omega)]
    split
    · have := Int.ediv_nonneg (a := b - a - 1) (b := c) (by omega) (by omega)
      omega
    · rfl
  refine ⟨by omega, by omega, ?_, e⟩
  unfold Builtin.Range.small
  rw [e]
  have q1 : a < b → 0 ≤ (b - a - 1) / c := fun hh => Int.ediv_nonneg (by omega) (by omega)
  have q2 : a < b → (b - a - 1) / c ≤ b - a - 1 := fun hh => Int.ediv_le_self c (by omega)
  simp only [Builtin.Range.rangeFitsLong, Bool.and_eq_true, Bool.or_eq_true, decide_eq_true_eq, beq_iff_eq, show c > 0 by omega, if_true]
  split
  · have := q1 ‹_›
    have := q2 ‹_›
    omega
  · omega
theorem sI_rng3 {tg a b c : Expr} {xs : XEs} {p pos : Pos} (hg : Gl X "range") (hm : X.mg "range" = none) (ha : PA X [a, b, c] (tAs X F W xs)) (hs : starEach [a, b, c] X.env = (false, eval a X.env) :: starEach [b, c] X.env) (hs2 : (backTo pos (starEach [b, c] X.env)).any (·.1) = false) (h1 : xs.len = 3) (hpl : xs.plain = true) : PI X tg (.Call (.Name "range" p) [a, b, c] [] pos) (tI X F W (.rng xs)) := by
  refine PIw (pi_range3 hg hm ha hs hs2) fun σ H R q => ?_
  refine Go.mono (Go.bind (rA := RDs X.K F.T) q) fun vs H1 q => ?_
  obtain ⟨ρ, s, ds, S, S0, o, m, e, r, q⟩ := q
  obtain ⟨p, hp, q1⟩ := Run.opt q
  obtain ⟨ys, hy, rfl⟩ := map_some hp
  unfold rangeD at hy
  split at hy
  · have := evs_len hpl o
    rw [h1] at this
    cases this
  · have := evs_len hpl o
    rw [h1] at this
    cases this
  · rename_i i j c
    obtain ⟨h2, rfl⟩ := ite_some hy
    cases r with
    | cons r1 r2 =>
      obtain ⟨v, w, rfl, r3, r4⟩ := rds2 r2
      exact ⟨i, j, c, _, by rw [r1.int_inv, r3.int_inv, r4.int_inv], rgc_pos h2, Run.here m q1 iter_rngC⟩
  · cases hy
/-! ### comprehensions -/
def W0 : WX := fun _ _ _ _ => False
theorem RunF.bind {α γ : Type} {rA : Pm → Hp → α → γ → Prop} {W : XK} {m : M α} {k : α → M (List D)} {Q : VK} (h : RunF K T Z W ρ H (M.bind m k S) Q) :
    Run K T Z rA W ρ H (m S) fun v H1 => ∃ ρ1 a S1, Ext ρ H ρ1 H1 ∧ RS K T ρ1 S1 H1 ∧ rA ρ1 H1 a v ∧ RunF K T Z W ρ1 H1 (k a S1) Q := by
  unfold M.bind at h
  cases e : m S with
  | bad => rw [e] at h; exact h
  | exc c p S' => rw [e] at h; exact h
  | ok a S1 =>
    rw [e] at h
    have h' : RunF K T Z W ρ H (k a S1) Q := h
    refine fun ρ1 H1 v e1 m1 r1 => ⟨ρ1, a, S1, e1, m1, r1, ?_⟩
    revert h'
    cases k a S1 with
    | bad => exact fun h => h
    | exc c p S2 => exact fun h ρ2 H2 cls d e2 m2 x => h ρ2 H2 cls d (e1.trans e2 m1) m2 x
    | ok xs S2 => exact fun h ρ2 H2 p vs e2 m2 r2 h2 o k hn => h ρ2 H2 p vs (e1.trans e2 m1) m2 r2 h2 o k (e1.was m1 hn)
/-- what the rest of the turns gives, behind what is there -/
def RunA (K : PySem.W.Frag) (T : Ty) (ρ0 : Pm) (H0 : Hp) (acc : List D) (r : Res (List D)) (Q : VK) : Prop := match r with
  | .ok ys S => ∀ ρ' H' p vs, Ext ρ0 H0 ρ' H' → RS K T ρ' S H' → RDs K T ρ' H' (acc ++ ys) vs → H' p = some (.lst vs) → Out ρ' p → ¬ ρ'.kn p → H0 p = none → (acc ++ ys).length ≤ sizeMax → Q (.ref p) H'
  | _ => False
theorem calm_ok {α : Type} {m : M α} {a : α} {S1 : Store} (h : M.calm m S = .ok a S1) : m S = .ok a S1 := by
  unfold M.calm at h
  cases z : m S with
  | bad => rw [z] at h; cases h
  | exc c p S2 => rw [z] at h; cases h
  | ok b S2 => rw [z] at h; exact h
theorem calm_no {α : Type} {m : M α} {c : Nat} {p : List D} {S1 : Store} : M.calm m S ≠ .exc c p S1 := fun h => by
  unfold M.calm at h
  cases z : m S with
  | bad => rw [z] at h; cases h
  | exc c p S2 => rw [z] at h; cases h
  | ok b S2 => rw [z] at h; cases h
theorem lcGo_no {g : Gd} {t : Tg} {own : List Nat} {σ : Env} {c : Env → M Bool} {e : Env → M D} : ∀ {xs : List D} {S S1 : Store} {k : Nat} {p : List D}, lcGo g t own σ c e xs S ≠ .exc k p S1
  | [], S, S1, k, p => fun h => by
    unfold lcGo M.bind M.chk at h
    split at h
    · cases h
    · rename_i z; split at z <;> cases z
    · cases h
  | x :: xs, S, S1, k, p => fun h => by
    unfold lcGo at h
    unfold M.bind at h
    cases h1 : M.chk g S with
    | bad => rw [h1] at h; cases h
    | exc c p S2 => unfold M.chk at h1; split at h1 <;> cases h1
    | ok u S2 =>
      rw [h1] at h
      simp only at h
      cases h2 : setTg t x (wipeE σ own) with
      | none => rw [h2] at h; cases h
      | some σ2 =>
        rw [h2] at h
        simp only [M.opt, M.pure] at h
        cases h3 : M.calm (c σ2) S2 with
        | bad => rw [h3] at h; cases h
        | exc c p S3 => exact calm_no h3
        | ok b S3 =>
          rw [h3] at h
          cases b with
          | false => exact lcGo_no h
          | true =>
            simp only at h
            cases h4 : M.calm (e σ2) S3 with
            | bad => rw [h4] at h; cases h
            | exc c p S4 => exact calm_no h4
            | ok y S4 =>
              rw [h4] at h
              simp only at h
              cases h5 : lcGo g t own σ c e xs S4 with
              | bad => rw [h5] at h; cases h
              | exc c p S5 => exact lcGo_no h5
              | ok ys S5 => rw [h5] at h; cases h
section
variable {p : Addr} {o2 : HO}
theorem ne_mut {a : Addr} {u : HO} (hp : Mut (H p)) (h : H a = some u) (hn : ¬ Mut (some u)) : a ≠ p := fun z => by
  subst z
  rw [h] at hp
  exact hn hp
mutual
theorem RD.poke (hp : Mut (H p)) (hk : ¬ ρ.kn p) : ∀ {d : D} {v : V}, RD K T ρ H d v → RD K T ρ (upd H p o2) d v
  | _, _, .non => .non
  | _, _, .bl b => .bl b
  | _, _, .int i => .int i
  | _, _, .str s => .str s
  | _, _, .tup h r => .tup (by
      rcases h with (h | ⟨o, h⟩) | h
      · exact .inl (.inl (by rw [upd_ne (ne_mut hp h (fun z => z))]; exact h))
      · exact .inl (.inr ⟨o, by rw [upd_ne (ne_mut hp h (fun z => z))]; exact h⟩)
      · exact .inr h) (RDs.poke hp hk r)
  | _, _, .fl (a := a) h q k r => .fl (by rw [upd_ne (fun z : a = p => hk (z ▸ k))]; exact h) q k (RDs.poke hp hk r)
  | _, _, .sc h r => .sc (h.mono fun o h => by rw [upd_ne (ne_mut hp h (fun z => z))]; exact h) (RDs.poke hp hk r)
  | _, _, .ob (a := a) (dx := dx) h1 h2 q1 q2 k1 k2 r => .ob (by rw [upd_ne (fun z : a = p => hk (z ▸ k1))]; exact h1) (by rw [upd_ne (fun z : dx = p => hk (z ▸ k2))]; exact h2) q1 q2 k1 k2 (RDs.poke hp hk r)
  | _, _, .ref h => .ref h
  | _, _, .cls c => .cls c
  | _, _, .dc (a := a) h q k n r => .dc (by rw [upd_ne (fun z : a = p => hk (z ▸ k))]; exact h) q k n (RVs.poke hp hk r)
theorem RDs.poke (hp : Mut (H p)) (hk : ¬ ρ.kn p) : ∀ {ds : List D} {us : List V}, RDs K T ρ H ds us → RDs K T ρ (upd H p o2) ds us
  | _, _, .nil => .nil
  | _, _, .cons r t => .cons (RD.poke hp hk r) (RDs.poke hp hk t)
theorem RVs.poke (hp : Mut (H p)) (hk : ¬ ρ.kn p) : ∀ {t : Bool} {ds : List (D × D)} {xs : Ents}, RVs K T ρ H t ds xs → RVs K T ρ (upd H p o2) t ds xs
  | _, _, _, .nil => .nil
  | _, _, _, .cons k r r2 t => .cons k (RD.poke hp hk r) (RD.poke hp hk r2) (RVs.poke hp hk t)
end
theorem RS.poke (m : RS K T ρ S H) (hp : Mut (H p)) (hk : ¬ ρ.kn p) (ho : Out ρ p) : RS K T ρ S (upd H p o2) where
  dom := m.dom
  inj := m.inj
  mu := fun n a h => by rw [upd_ne (fun z => ho n (by rw [← z]; exact h))]; exact m.mu n a h
  at_ := fun n o h => by
    obtain ⟨a, h1, h2⟩ := m.at_ n o h
    have ne : a ≠ p := fun z => ho n (by rw [← z]; exact h1)
    refine ⟨a, h1, ?_⟩
    cases o with
    | lst xs =>
      obtain ⟨us, h3, h4⟩ := h2
      exact ⟨us, by rw [upd_ne ne]; exact h3, h4.poke hp hk⟩
    | dic t kvs =>
      obtain ⟨xs, h3, h4, h5⟩ := h2
      exact ⟨xs, by rw [upd_ne ne]; exact h3, h4, h5.poke hp hk⟩
    | ins c fs =>
      obtain ⟨dx, vs, h3, h4, h5, h6, h7⟩ := h2
      exact ⟨dx, vs, by rw [upd_ne ne]; exact h3, by rw [upd_ne (fun z => hk (by rw [← z]; exact h6))]; exact h4, h5, h6, h7.poke hp hk⟩
  kd := fun b h => by
    obtain ⟨u, hu⟩ := m.kd b h
    exact ⟨u, by rw [upd_ne (fun z => hk (by rw [← z]; exact h))]; exact hu⟩
  tb := fun p' hp' => by
    obtain ⟨ps, h1, h2, h3⟩ := m.tb p' hp'
    have ne : p'.1 ≠ p := fun z => by rw [← z, h1] at hp; exact hp
    refine ⟨ps, by rw [upd_ne ne]; exact h1, h2, fun pos cv hc => ?_⟩
    obtain ⟨c, e1, e2, e3, e4⟩ := h3 pos cv hc
    exact ⟨c, e1, by rw [upd_ne (fun z => hk (by rw [← z]; exact e4))]; exact e2, e3, e4⟩
theorem Ext.poke {ρ' : Pm} {H' : Hp} (e : Ext ρ H ρ' H') (hp : H p = none) : Ext ρ H ρ' (upd H' p o2) := ⟨e.le, fun b o h q n => by rw [upd_ne (ne_of_none h hp)]; exact e.fr0 b o h q n, fun b ps h => by rw [upd_ne (ne_of_none h hp)]; exact e.tk b ps h, e.nw, e.kl, e.kw⟩
end
theorem wipe_twice {σ : L2.St} : ∀ vs : List Nat, L2.wipe (L2.wipe σ vs) vs = L2.wipe σ vs := by
  intro vs
  have key : ∀ (ws vs : List Nat) (σ : L2.St), (∀ w ∈ ws, w ∈ vs) → L2.wipe (L2.wipe σ ws) vs = L2.wipe σ vs := by
    intro ws
    induction ws with
    | nil => intro vs σ _; rfl
    | cons w ws ih =>
      intro vs σ h
      show L2.wipe ((L2.wipe σ ws).set w none) vs = _
      rw [wipe_set (h w (by simp)), ih vs σ fun z hz => h z (by simp [hz])]
  exact key vs vs σ fun _ h => h
theorem tF_lcm {elt tg iter : Expr} {ifs : List Expr} {scope : Scope} {own : List (Str × Nat)} {t : Tg} {it : XI} {c e : XE} (hc : X.calm = true) (hN : X.N.Nodup) (hi : PI X tg iter (tI X F W it)) (ok : BlkOk X.N X.env.scope scope own) (hnz : F.Y = none ∨ ∀ w ∈ own.map (·.2), w ≠ 0) (hsub : t.sub (own.map (·.2)) = true)
    (hg : ∀ (s : Shared) (H : Hp) (C : Addr) (cl : List (Str × Addr)) (fp : List Addr), PG (X.blk s H scope (compEnvC scope cl C X.env) fp) tg (gE X F t)) (ht : ∀ (s : Shared) (H : Hp) (C : Addr) (cl : List (Str × Addr)) (fp : List Addr), PTs (X.blk s H scope (compEnvC scope cl C X.env) fp) ifs (tT X F W0 c))
    (he : ∀ (s : Shared) (H : Hp) (C : Addr) (cl : List (Str × Addr)) (fp : List Addr), PE (X.blk s H scope (compEnvC scope cl C X.env) fp) elt (tE X F W0 e)) {σ : L2.St} {H : Hp} {Q : VK} (hl : σ.length = X.N.length)
    (h : tF X F W (fun σ => M.bind (evI F.cal it σ) fun p => lcAll p t (own.map (·.2)) σ (fun σ => M.bind (ev F.cal c σ) fun x => M.opt (truth x)) (fun σ => ev F.cal e σ)) σ H Q) :
    tLc (tI X F W it) (gE X F t) (tT X F W0 c) (tE X F W0 e) (own.map (·.2)) σ H Q := by
  obtain ⟨ρ0, s, S0, m0, e0, r0⟩ := h
  refine ⟨ρ0, s, S0, m0, e0, (RunF.bind (rA := fun ρ H p J => IterR X.K F.T ρ H p J) r0).mono ?_⟩
  rintro J H1 ⟨ρ1, ⟨xs, g⟩, S1, x1, m1, itr, r1⟩ D0 hD
  have e1 := e0.mono m0 x1
  have hlen : xs.length ≤ sizeMax := by
    by_cases hz : xs.length ≤ sizeMax
    · exact hz
    · unfold lcAll at r1
      rw [decide_eq_false hz] at r1
      exact r1.elim
  have r1 : RunF X.K F.T F.Z (fun c d H => W c d σ H) ρ1 H1 (lcGo g t (own.map (·.2)) s (fun σ => M.bind (ev F.cal c σ) fun x => M.opt (truth x)) (fun σ => ev F.cal e σ) xs S1) Q := by
    unfold lcAll at r1
    rw [decide_eq_true hlen] at r1
    exact r1
  have nk0 : ¬ ρ1.kn D0 := fun k => by
    obtain ⟨u, hu⟩ := m1.kd D0 k
    rw [hD] at hu; cases hu
  refine ⟨fun i n H => n = xs.length - i ∧ i ≤ xs.length ∧ ∃ ρ S acc accV, Ext ρ1 H1 ρ H ∧ RS X.K F.T ρ S H ∧ H D0 = some (.lst accV) ∧ Out ρ D0 ∧ ¬ ρ.kn D0 ∧ RDs X.K F.T ρ H acc accV ∧ acc.length ≤ i ∧
    RunA X.K F.T ρ1 H1 acc (lcGo g t (own.map (·.2)) s (fun σ => M.bind (ev F.cal c σ) fun x => M.opt (truth x)) (fun σ => ev F.cal e σ) (xs.drop i) S) Q, ⟨xs.length, by simp, Nat.zero_le _, ρ1, S1, [], [], ext_new hD, m1.new hD, upd_same, m1.out_new hD, nk0, .nil, Nat.le_refl _, ?_⟩, ?_⟩
  · rw [List.drop_zero]
    unfold RunA
    revert r1
    cases hz : lcGo g t (own.map (·.2)) s (fun σ => M.bind (ev F.cal c σ) fun x => M.opt (truth x)) (fun σ => ev F.cal e σ) xs S1 with
    | bad => exact fun r => r
    | exc k p S2 => exact absurd hz lcGo_no
    | ok ys S2 => exact fun r ρ' H' p vs x m r' hp o k hn _ => r ρ' H' p vs x m (by simpa using r') hp o k hn
  rintro i n H2 ⟨rfl, hi, ρ, S, acc, accV, x2, m2, hD2, o2, k2, ra, la, r⟩
  have hst : stands S g = true := by
    by_cases hst : stands S g = true
    · exact hst
    · have hz : M.chk g S = .bad := by unfold M.chk; simp [hst]
      cases hx : xs.drop i with
      | nil => rw [hx] at r; unfold lcGo M.bind at r; rw [hz] at r; exact r.elim
      | cons d ds => rw [hx] at r; unfold lcGo M.bind at r; rw [hz] at r; exact r.elim
  have hok : M.chk g S = .ok () S := by unfold M.chk; simp [hst]
  obtain ⟨hgo, hstop, hyld⟩ := itr ρ S H2 (x2.k m1 m2) m2 hst
  by_cases hlt : i < xs.length
  · refine .inr ⟨hgo i hlt, fun H => ∃ ρ S acc accV, Ext ρ1 H1 ρ H ∧ RS X.K F.T ρ S H ∧ H D0 = some (.lst accV) ∧ Out ρ D0 ∧ ¬ ρ.kn D0 ∧ RDs X.K F.T ρ H acc accV ∧ acc.length ≤ i + 1 ∧
      RunA X.K F.T ρ1 H1 acc (lcGo g t (own.map (·.2)) s (fun σ => M.bind (ev F.cal c σ) fun x => M.opt (truth x)) (fun σ => ev F.cal e σ) (xs.drop (i + 1)) S) Q, fun H' q => ⟨xs.length - (i + 1), by omega, rfl, hlt, q⟩, fun v H3 yv => ?_⟩
    obtain ⟨x3, m3, d, hd, rd⟩ := hyld i v H3 hlt yv
    have hdr : xs.drop i = d :: xs.drop (i + 1) := by
      rw [List.drop_eq_getElem_cons hlt]
      rw [List.getElem?_eq_getElem hlt] at hd
      cases hd; rfl
    rw [hdr] at r
    unfold lcGo at r
    rw [M.bind_ok hok] at r
    cases hs2 : setTg t d (wipeE s (own.map (·.2))) with
    | none => rw [hs2] at r; exact r.elim
    | some s2 =>
      rw [hs2] at r
      have hD3 := x3.fr D0 _ hD2 o2
      refine ⟨ρ, wipeE s (own.map (·.2)), S, d, s2, m3, ((e1.mono m1 x2).mono m2 x3).wipe _ (fun w hw => by
        obtain ⟨p, hp, rfl⟩ := List.mem_map.mp hw
        rw [hl]; exact ix_lt (ok.ix p hp)) hnz, rd, hs2, fun σV2 e2 w2 => ⟨?_, ?_⟩⟩
      · rw [w2 _ hsub, wipe_twice]
      · have r : RunA X.K F.T ρ1 H1 acc (M.bind (M.calm (M.bind (ev F.cal c s2) fun x => M.opt (truth x))) (fun b => match b with
            | true => M.bind (M.calm (ev F.cal e s2)) fun y => M.bind (lcGo g t (own.map (·.2)) s (fun σ => M.bind (ev F.cal c σ) fun x => M.opt (truth x)) (fun σ => ev F.cal e σ) (xs.drop (i + 1))) fun ys => M.pure (y :: ys)
            | false => lcGo g t (own.map (·.2)) s (fun σ => M.bind (ev F.cal c σ) fun x => M.opt (truth x)) (fun σ => ev F.cal e σ) (xs.drop (i + 1))) S) Q := r
        refine ⟨ρ, s2, S, m3, e2, ?_⟩
        cases h3 : M.calm (tst F.cal c s2) S with
        | bad => unfold tst at h3; rw [M.bind_bad h3] at r; exact r.elim
        | exc k p S3 => exact absurd h3 calm_no
        | ok b S3 =>
          rw [calm_ok h3]
          unfold tst at h3
          rw [M.bind_ok h3] at r
          intro ρ4 H4 b' x4 m4 hb
          have hb : b = b' := hb
          subst hb
          have hD4 := x4.fr D0 _ hD3 o2
          have o4 := x4.out hD3 o2
          have k4 : ¬ ρ4.kn D0 := fun k => by
            rcases x4.kw D0 k with z | z
            · exact k2 z
            · rw [hD3] at z; cases z
          have y4 := (x2.trans x3 m2).trans x4 m3
          cases b with
          | false =>
            rw [if_neg (by decide)]
            exact ⟨ρ4, S3, acc, accV, y4, m4, hD4, o4, k4, (ra.mono m2 x3).mono m3 x4, by omega, r⟩
          | true =>
            rw [if_pos rfl]
            refine ⟨ρ4, s2, S3, m4, e2.mono m3 x4, ?_⟩
            cases h4 : M.calm (ev F.cal e s2) S3 with
            | bad => simp only at r; rw [M.bind_bad h4] at r; exact r.elim
            | exc k p S4 => exact absurd h4 calm_no
            | ok y S4 =>
              simp only at r
              rw [M.bind_ok h4] at r
              rw [calm_ok h4]
              intro ρ5 H5 yv x5 m5 ry
              have hD5 := x5.fr D0 _ hD4 o4
              have o5 := x5.out hD4 o4
              have k5 : ¬ ρ5.kn D0 := fun k => by
                rcases x5.kw D0 k with z | z
                · exact k4 z
                · rw [hD4] at z; cases z
              have ra5 := ((ra.mono m2 x3).mono m3 x4).mono m4 x5
              refine ⟨accV, hD5, Nat.lt_of_lt_of_le (by rw [← ra.length]; exact Nat.lt_of_le_of_lt la hlt) (sizeMax_le hlen), ρ5, S4, acc ++ [y], accV ++ [yv], (y4.trans x5 m4).poke hD, m5.poke (by rw [hD5]; trivial) k5 o5, upd_same, o5, k5, (ra5.append (.cons ry .nil)).poke (by rw [hD5]; trivial) k5, by simp; omega, ?_⟩
              generalize hL : lcGo g t (own.map (·.2)) s (fun σ => M.bind (ev F.cal c σ) fun x => M.opt (truth x)) (fun σ => ev F.cal e σ) (xs.drop (i + 1)) = L at r ⊢
              cases hz : L S4 with
              | bad => rw [M.bind_bad hz] at r; exact r
              | exc k p S5 => rw [← hL] at hz; exact absurd hz lcGo_no
              | ok ys S5 =>
                rw [M.bind_ok hz] at r
                exact fun ρ' H' p vs x m r' hp o k hn hl => r ρ' H' p vs x m (by simpa using r') hp o k hn (by simpa using hl)
  · have hi : i = xs.length := by omega
    subst hi
    rw [List.drop_length] at r
    unfold lcGo at r
    rw [M.bind_ok hok] at r
    refine .inl ⟨hstop, r ρ H2 D0 accV x2 m2 (by simpa using ra) hD2 o2 k2 hD (by simpa using Nat.le_trans la hlen)⟩
/-- the comprehension's parts -/
structure LcOk (X : Cx) (F : Fx) (W : WX) (elt tg iter : Expr) (ifs : List Expr) (scope : Scope) (own : List (Str × Nat)) (t : Tg) (it : XI) (c e : XE) : Prop where
  hi : PI X tg iter (tI X F W it)
  ok : BlkOk X.N X.env.scope scope own
  nz : F.Y = none ∨ ∀ w ∈ own.map (·.2), w ≠ 0
  sub : t.sub (own.map (·.2)) = true
  hg : ∀ (s : Shared) (H : Hp) (C : Addr) (cl : List (Str × Addr)) (fp : List Addr), PG (X.blk s H scope (compEnvC scope cl C X.env) fp) tg (gE X F t)
  ht : ∀ (s : Shared) (H : Hp) (C : Addr) (cl : List (Str × Addr)) (fp : List Addr), PTs (X.blk s H scope (compEnvC scope cl C X.env) fp) ifs (tT X F W0 c)
  he : ∀ (s : Shared) (H : Hp) (C : Addr) (cl : List (Str × Addr)) (fp : List Addr), PE (X.blk s H scope (compEnvC scope cl C X.env) fp) elt (tE X F W0 e)
  hs : ∀ x, foldedSetIterable iter X.env x = pure x
abbrev lcX (own : List (Str × Nat)) (t : Tg) (it : XI) (c e : XE) : XE := .lcm (own.map (·.2)) t it c e
section
variable {elt tg iter : Expr} {ifs : List Expr} {scope : Scope} {own : List (Str × Nat)} {t : Tg} {it : XI} {c e : XE} {pos : Pos}
theorem sE_lcm (hc : X.calm = true) (hN : X.N.Nodup) (L : LcOk X F W elt tg iter ifs scope own t it c e) : PE X (.ListComp elt [⟨tg, iter, ifs, 0⟩] scope pos) (tE X F W (lcX own t it c e)) :=
  PEl (pe_lc hc hN L.hi L.ok L.hg L.ht L.he L.hs) fun σ H Q hl q => tF_lcm hc hN L.hi L.ok L.nz L.sub L.hg L.ht L.he hl (fl_of (fun _ => rfl) q)
theorem sE_mlcm (hc : X.calm = true) (hN : X.N.Nodup) (L : LcOk X F W elt tg iter ifs scope own t it c e) : PE X (.ListComp elt [⟨tg, iter, ifs, 0⟩] scope pos) (tE X F W (.mat (lcX own t it c e))) :=
  PEl (pe_lc hc hN L.hi L.ok L.hg L.ht L.he L.hs) fun σ H Q hl q => tF_lcm hc hN L.hi L.ok L.nz L.sub L.hg L.ht L.he hl (mat_of (fun _ => rfl) q)
theorem gName_of {i : Nat} {v : V} {σ : L2.St} {H : Hp} {Q : L2.St → Hp → Prop} (hl : i < σ.length) (h : gE X F (.nm i) v σ H Q) : gName i v σ H Q := by
  obtain ⟨ρ, s, S, d, s2, m, e, r, hs, q⟩ := h
  cases hs
  exact q _ (e.set i hl r) fun vs hv => wipe_set (by simpa [Tg.sub] using hv)
/-- name = [..] -/
theorem sS_setLc {i : Nat} {y : Str} {py spos : Pos} (hc : X.calm = true) (hN : X.N.Nodup) (L : LcOk X F W elt tg iter ifs scope own t it c e) (hy : X.N[i]? = some y) (hyl : X.env.scope.names.lookup y = some .local)
    (hsw : swapsWith (.ListComp elt [⟨tg, iter, ifs, 0⟩] scope pos) (some (.Name y py)) spos.line X.env = pure true) :
    SS X F W (.Assign [.Name y py] (.ListComp elt [⟨tg, iter, ifs, 0⟩] scope pos) spos) (.set (.nm i) (lcX own t it c e)) :=
  PSl (ps_setLc hc hN hy hyl hsw L.hi L.ok L.hg L.ht L.he L.hs) fun D σ H hl h => tF_lcm hc hN L.hi L.ok L.nz L.sub L.hg L.ht L.he hl (fl_of (fun _ => rfl) (Go.mono (asg_of h) fun v H1 q => gName_of (by rw [hl]; exact ix_lt hy) q))
theorem sS_setMLc {i : Nat} {y : Str} {py spos : Pos} (hc : X.calm = true) (hN : X.N.Nodup) (L : LcOk X F W elt tg iter ifs scope own t it c e) (hy : X.N[i]? = some y) (hyl : X.env.scope.names.lookup y = some .local)
    (hsw : swapsWith (.ListComp elt [⟨tg, iter, ifs, 0⟩] scope pos) (some (.Name y py)) spos.line X.env = pure true) :
    SS X F W (.Assign [.Name y py] (.ListComp elt [⟨tg, iter, ifs, 0⟩] scope pos) spos) (.set (.nm i) (.mat (lcX own t it c e))) :=
  PSl (ps_setLc hc hN hy hyl hsw L.hi L.ok L.hg L.ht L.he L.hs) fun D σ H hl h => tF_lcm hc hN L.hi L.ok L.nz L.sub L.hg L.ht L.he hl (mat_of (fun _ => rfl) (Go.mono (asg_of h) fun v H1 q => gName_of (by rw [hl]; exact ix_lt hy) q))
theorem sTs_nil {X' : Cx} (hk : X'.K = X.K) : PTs X' [] (tT X F W0 .yes) := ⟨fun pins s σ H Q I h => pts_nil.run pins s σ H Q I (by
  obtain ⟨ρ, s, S, m, e, r⟩ := h
  exact Run.here (a := true) (v := true) m r rfl)⟩
end
end
end Lk
end

section
/-! Ex: a run of its own, from an empty store. -/
set_option Elab.async false
set_option linter.all false
set_option maxRecDepth 100000
set_option maxHeartbeats 2000000
namespace Lk
open PySem PySem.Spec PyProof.Rows L2 SlX
open Classical in
/-- dicts whose objects are told from now on -/
noncomputable def lockP (P : Addr → Prop) (h : Heap) (H : Hp) : Hp := fun b => if P b then (match H b, h.get? b with
  | some u, some o => some (.frz o u)
  | _, _ => H b) else H b
theorem lock_no {P : Addr → Prop} {h : Heap} {H : Hp} {b : Addr} (n : ¬ P b) : lockP P h H b = H b := by unfold lockP; rw [if_neg n]
theorem lock_yes {P : Addr → Prop} {h : Heap} {H : Hp} {b : Addr} {u : HO} {o : Obj} (y : P b) (hu : H b = some u) (ho : h.get? b = some o) : lockP P h H b = some (.frz o u) := by unfold lockP; rw [if_pos y, hu, ho]
theorem lock_some {P : Addr → Prop} {h : Heap} {H : Hp} {b : Addr} {u : HO} (hu : H b = some u) : ∃ u', lockP P h H b = some u' := by
  unfold lockP
  split
  · rw [hu]
    cases h.get? b with
    | none => exact ⟨u, rfl⟩
    | some o => exact ⟨_, rfl⟩
  · exact ⟨u, hu⟩
theorem lock_void {P : Addr → Prop} {h : Heap} {H : Hp} (hn : ∀ b, h.get? b = none) : lockP P h H = H := by
  funext b
  unfold lockP
  split
  · rw [hn b]
    cases H b <;> rfl
  · rfl
theorem lock_hok {P : Addr → Prop} {pr : Program} {w : World} {h : Heap} {H : Hp} (hP : ∀ b, P b → ∃ xs, H b = some (DyO b xs)) (ok : HOk pr w H h) : HOk pr w (lockP P h H) h := by
  have keep : ∀ {b u}, H b = some u → (∀ xs, u ≠ DyO b xs) → lockP P h H b = some u := fun {b u} e n => by
    rw [lock_no fun y => by obtain ⟨xs, z⟩ := hP b y; rw [e] at z; exact n xs (Option.some.inj z)]; exact e
  intro a o e
  by_cases y : P a
  · obtain ⟨xs, hx⟩ := hP a y
    have ob := ok a _ hx
    obtain ⟨z1, ⟨oo, z2⟩, z3⟩ := ob
    rw [lock_yes y hx z2] at e
    cases e
    exact ⟨z2, z1, ⟨oo, z2⟩, z3⟩
  · rw [lock_no y] at e
    exact (ok a o e).stay (fun b u _ q => q) (fun b q => keep q (fun xs z => by unfold DyO at z; cases z)) fun b xs q => keep q (fun ys z => by unfold DyO at z; cases z)
theorem lock_un {P : Addr → Prop} {h h0 : Heap} {H0 H : Hp} {fs ex : List Addr} (hP : ∀ b, P b → ∃ xs, H b = some (DyO b xs)) (u : Un fs ex H0 H h0 h) : Un fs ex H0 (lockP P h H) h0 h where
  keep := u.keep
  slot := u.slot
  free := fun b o q n x => by
    have := u.free b o q n x
    rw [lock_no fun y => by obtain ⟨xs, z⟩ := hP b y; rw [this] at z; cases z]
    exact this
  there := u.there
  tups := fun b xs q => by
    have := u.tups b xs q
    rw [lock_no fun y => by obtain ⟨ys, z⟩ := hP b y; rw [this] at z; unfold DyO at z; cases z]
    exact this
  frzs := fun b o q z => by
    have := u.frzs b o q z
    rw [lock_no fun y => by obtain ⟨ys, z⟩ := hP b y; rw [this] at z; unfold DyO at z; cases z]
    exact this
  tbls := fun b ps q => by
    obtain ⟨more, this⟩ := u.tbls b ps q
    exact ⟨more, by rw [lock_no fun y => by obtain ⟨ys, z⟩ := hP b y; rw [this] at z; unfold DyO at z; cases z]; exact this⟩
/-- the wish for a value, some dicts' objects told -/
def Told (Q : VK) : VK := fun v H => ∃ P : Addr → Prop, (∀ b, P b → ∃ xs, H b = some (DyO b xs)) ∧ ∀ (h : Heap), (∀ b, P b → ∃ o, h.get? b = some o) → Q v (lockP P h H)
theorem told_ce {outer : List PySem.Env} {P : Program} {w : World} {H : Hp} {s s' : Shared} {Q : VK} {u : Value} (h : CE outer P w H s (Told Q) u s') : CE outer P w H s Q u s' := by
  obtain ⟨v, H1, os, bare, un, hok, rv, P', hP, q⟩ := h
  refine ⟨v, lockP P' s'.heap H1, os, bare, lock_un hP un, lock_hok hP hok, rv, q _ fun b y => ?_⟩
  obtain ⟨xs, hx⟩ := hP b y
  obtain ⟨_, z, _⟩ := hok b _ hx
  exact z
theorem told_ok {P : Program} {w : World} {K : PySem.W.Frag} {mg : Str → Option Value} {base : Heap} {CX : CXT} {k : Nat} {f : Addr} {fd : FuncData} {ps : List Str} {sp sp2 : Sp} (F : FnOk P w K mg base CX k f fd ps sp) (hl : ∀ vs H Q E, sp2 vs H Q E → vs.length = ps.length) (h : ∀ vs H Q E, sp2 vs H Q E → sp vs H (Told Q) E) : FnOk P w K mg base CX k f fd ps sp2 := by
  refine ⟨hl, fun A outer s H args us vs Q E hr he hb hv q => ?_⟩
  refine codeAny_mono (F.run A outer s H args us vs (Told Q) E hr he hb hv (h _ _ _ _ q)) ?_
  rintro (e | fl) s' z
  · exact z
  · cases fl with
    | ret u => exact told_ce z
    | _ => exact z.elim
section
variable {K : PySem.W.Frag} {T : Ty} {Z : Xs} {ρ ρ1 : Pm} {H H1 H2 : Hp} {S S1 : Store}
/-- the values that name no place in the store -/
def Pm.own (ρ : Pm) : Pm := ⟨fun _ => none, fun b => ρ.kn b ∧ Out ρ b⟩
mutual
theorem RD.own : ∀ {d : D} {v : V}, noRef d = true → RD K T ρ H d v → RD K T ρ.own H d v
  | _, _, _, .non => .non
  | _, _, _, .bl b => .bl b
  | _, _, _, .int i => .int i
  | _, _, _, .str s => .str s
  | _, _, n, .tup h r => .tup h (RDs.own (by simpa [noRef] using n) r)
  | _, _, n, .fl h q k r => .fl h (fun _ z => nomatch z) ⟨k, q⟩ (RDs.own (by simpa [noRef] using n) r)
  | _, _, n, .sc h r => .sc h (RDs.own (by simpa [noRef] using n) r)
  | _, _, n, .ob h1 h2 q1 q2 k1 k2 r => .ob h1 h2 (fun _ z => nomatch z) (fun _ z => nomatch z) ⟨k1, q1⟩ ⟨k2, q2⟩ (RDs.own (by simpa [noRef] using n) r)
  | _, _, n, .ref h => by simp [noRef] at n
  | _, _, _, .cls c => .cls c
  | _, _, n, .dc h q k nd r => .dc h (fun _ z => nomatch z) ⟨k, q⟩ nd (RVs.own (by simpa [noRef] using n) r)
theorem RDs.own : ∀ {ds : List D} {vs : List V}, noRefs ds = true → RDs K T ρ H ds vs → RDs K T ρ.own H ds vs
  | _, _, _, .nil => .nil
  | _, _, n, .cons r t => by
    simp only [noRefs, Bool.and_eq_true] at n
    exact .cons (RD.own n.1 r) (RDs.own n.2 t)
theorem RVs.own : ∀ {t : Bool} {ds : List (D × D)} {vs : Ents}, noRefK ds = true → RVs K T ρ H t ds vs → RVs K T ρ.own H t ds vs
  | _, _, _, _, .nil => .nil
  | _, _, _, n, .cons k r r2 t => by
    simp only [noRefK, Bool.and_eq_true] at n
    exact .cons k (RD.own n.1.1 r) (RD.own n.1.2 r2) (RVs.own n.2 t)
end
theorem S0_get (n : Nat) : S0.get n = none := rfl
theorem RS.own (m : RS K T ρ S H) : RS K T ρ.own S0 H where
  dom := fun _ _ z => nomatch z
  inj := fun _ _ _ z => nomatch z
  mu := fun _ _ z => nomatch z
  at_ := fun n o z => by rw [S0_get] at z; cases z
  kd := fun b z => m.kd b z.1
  tb := fun p hp => by
    obtain ⟨ps, h1, h2, h3⟩ := m.tb p hp
    exact ⟨ps, h1, h2, fun pos cv hc => let ⟨c, e1, e2, e3, e4⟩ := h3 pos cv hc; ⟨c, e1, e2, fun _ z => (nomatch z), e4, e3⟩⟩
/-- back in the store that was -/
def Pm.back (ρ : Pm) (H H1 : Hp) : Pm := ⟨ρ.f, fun b => ρ.kn b ∨ (H b = none ∧ ∃ o, H1 b = some o)⟩
def DyC (ρ1 : Pm) (S1 : Store) (b : Addr) : Prop := ∃ n t kvs, ρ1 n = some b ∧ S1.get n = some (.dic t kvs)
theorem own_new (x : Ext ρ.own H ρ1 H1) {n : Nat} {a : Addr} (h : ρ1 n = some a) : H a = none := by
  rcases x.nw n a h with z | z
  · exact nomatch z
  · exact z
theorem dyc_new (x : Ext ρ.own H ρ1 H1) {b : Addr} (h : DyC ρ1 S1 b) : H b = none := by
  obtain ⟨n, _, _, h1, _⟩ := h
  exact own_new x h1
theorem own_stay (x : Ext ρ.own H ρ1 H1) {b : Addr} {o : HO} (h : H b = some o) (n : ∀ ps, o ≠ .tbl ps) : H1 b = some o := x.fr0 b o h (fun _ z => nomatch z) n
theorem back_out (m : RS K T ρ S H) {b : Addr} (h : H b = none) : Out (ρ.back H H1) b := m.out_new h
/-- a value's places, known behind the run -/
theorem back_kn (m : RS K T ρ S H) (x : Ext ρ.own H ρ1 H1) (m1 : RS K T ρ1 S1 H1) {b : Addr} (k : ρ1.kn b) : (ρ.back H H1).kn b ∧ Out (ρ.back H H1) b := by
  rcases x.kw b k with z | z
  · exact ⟨.inl z.1, z.2⟩
  · exact ⟨.inr ⟨z, m1.kd b k⟩, back_out m z⟩
mutual
theorem frz_same1 {g : Nat → Option D} : ∀ d : D, noRef d = true → frzD g d = some d
  | .non, _ => rfl
  | .bl _, _ => rfl
  | .int _, _ => rfl
  | .str _, _ => rfl
  | .tup xs, n => by simp only [frzD]; rw [frz_same xs (by simpa [noRef] using n)]; rfl
  | .fl xs, n => by simp only [frzD]; rw [frz_same xs (by simpa [noRef] using n)]; rfl
  | .sc xs, n => by simp only [frzD]; rw [show noRefs xs = true by simpa [noRef] using n]
  | .dc t kvs, n => by simp only [frzD]; rw [frz_sameK kvs (by simpa [noRef] using n)]; rfl
  | .ob c fs, n => by simp only [frzD]; rw [frz_same fs (by simpa [noRef] using n)]; rfl
  | .ref _, n => by simp [noRef] at n
  | .cls _, _ => rfl
theorem frz_same {g : Nat → Option D} : ∀ ds : List D, noRefs ds = true → frzL g ds = some ds
  | [], _ => rfl
  | d :: ds, n => by
    simp only [noRefs, Bool.and_eq_true] at n
    simp only [frzL]
    rw [frz_same1 d n.1, frz_same ds n.2]; rfl
theorem frz_sameK {g : Nat → Option D} : ∀ ds : List (D × D), noRefK ds = true → frzK g ds = some ds
  | [], _ => rfl
  | (k, d) :: ds, n => by
    simp only [noRefK, Bool.and_eq_true] at n
    simp only [frzK]
    rw [n.1.1, frz_same1 d n.1.2, frz_sameK ds n.2]; rfl
end
/-- what is fixed through a thaw -/
structure Thaw (K : PySem.W.Frag) (T : Ty) (ρ ρ1 : Pm) (H H1 : Hp) (S S1 : Store) (h : Heap) (g : Nat → Option D) : Prop where
  m : RS K T ρ S H
  x : Ext ρ.own H ρ1 H1
  m1 : RS K T ρ1 S1 H1
  hP : ∀ b, DyC ρ1 S1 b → ∃ xs, H1 b = some (DyO b xs)
  hg : ∀ n d a, g n = some d → ρ1 n = some a → RD K T (ρ.back H H1) (lockP (DyC ρ1 S1) h H1) d (.ref a)
section
variable {h : Heap} {g : Nat → Option D}
theorem lk_other {b : Addr} {o : HO} (e : H1 b = some o) (n : ¬ DyC ρ1 S1 b) : lockP (DyC ρ1 S1) h H1 b = some o := by rw [lock_no n]; exact e
theorem dyc_no {b : Addr} (q : Out ρ1 b) : ¬ DyC ρ1 S1 b := fun ⟨n, _, _, h1, _⟩ => q n h1
mutual
theorem frz_rd (t : Thaw K T ρ ρ1 H H1 S S1 h g) : ∀ {d e : D} {v : V}, RD K T ρ1 H1 d v → frzD g d = some e → RD K T (ρ.back H H1) (lockP (DyC ρ1 S1) h H1) e v
  | _, _, _, .non, f => by cases f; exact .non
  | _, _, _, .bl b, f => by cases f; exact .bl b
  | _, _, _, .int i, f => by cases f; exact .int i
  | _, _, _, .str s, f => by cases f; exact .str s
  | _, _, _, .tup hs r, f => by
    simp only [frzD] at f
    obtain ⟨ys, hy, rfl⟩ := Option.map_eq_some_iff.mp f
    refine .tup ?_ (frz_rds t r hy)
    have nt : ∀ {b : Addr} {o : HO}, H1 b = some o → ¬ Mut (some o) → ¬ DyC ρ1 S1 b := fun {b o} e n y => by
      obtain ⟨xs, z⟩ := t.hP b y
      rw [e] at z
      rw [Option.some.inj z] at n
      exact n trivial
    rcases hs with (e | ⟨o, e⟩) | e
    · exact .inl (.inl (lk_other e (nt e fun z => z)))
    · exact .inl (.inr ⟨o, lk_other e (nt e fun z => z)⟩)
    · exact .inr e
  | _, _, _, .fl e q k r, f => by
    simp only [frzD] at f
    obtain ⟨ys, hy, rfl⟩ := Option.map_eq_some_iff.mp f
    have := back_kn t.m t.x t.m1 k
    exact .fl (lk_other e (dyc_no q)) this.2 this.1 (frz_rds t r hy)
  | _, _, _, .sc hs r, f => by
    simp only [frzD] at f
    split at f
    · rename_i n
      cases f
      refine .sc (hs.mono fun o e => lk_other e fun y => ?_) ?_
      · obtain ⟨xs, z⟩ := t.hP _ y
        rw [e] at z
        unfold DyO at z
        cases z
      · exact frz_rds t r (frz_same _ n)
    · cases f
  | _, _, _, .ob e1 e2 q1 q2 k1 k2 r, f => by
    simp only [frzD] at f
    obtain ⟨ys, hy, rfl⟩ := Option.map_eq_some_iff.mp f
    have t1 := back_kn t.m t.x t.m1 k1
    have t2 := back_kn t.m t.x t.m1 k2
    exact .ob (lk_other e1 (dyc_no q1)) (lk_other e2 (dyc_no q2)) t1.2 t2.2 t1.1 t2.1 (frz_rds t r hy)
  | _, _, _, .ref e, f => t.hg _ _ _ f e
  | _, _, _, .cls c, f => by cases f; exact .cls c
  | _, _, _, .dc e q k nd r, f => by
    simp only [frzD] at f
    obtain ⟨ys, hy, rfl⟩ := Option.map_eq_some_iff.mp f
    have := back_kn t.m t.x t.m1 k
    obtain ⟨ke, rr⟩ := frz_rvs t r hy
    exact .dc (lk_other e (dyc_no q)) this.2 this.1 (by unfold NdK at nd ⊢; rw [ke]; exact nd) rr
theorem frz_rds (t : Thaw K T ρ ρ1 H H1 S S1 h g) : ∀ {ds es : List D} {vs : List V}, RDs K T ρ1 H1 ds vs → frzL g ds = some es → RDs K T (ρ.back H H1) (lockP (DyC ρ1 S1) h H1) es vs
  | _, _, _, .nil, f => by cases f; exact .nil
  | _, _, _, .cons r l, f => by
    simp only [frzL] at f
    split at f
    · rename_i y hy
      obtain ⟨ys, hys, rfl⟩ := Option.map_eq_some_iff.mp f
      exact .cons (frz_rd t r hy) (frz_rds t l hys)
    · cases f
theorem frz_rvs (t : Thaw K T ρ ρ1 H H1 S S1 h g) : ∀ {b : Bool} {ds es : List (D × D)} {xs : Ents}, RVs K T ρ1 H1 b ds xs → frzK g ds = some es → es.map (·.1) = ds.map (·.1) ∧ RVs K T (ρ.back H H1) (lockP (DyC ρ1 S1) h H1) b es xs
  | _, _, _, _, .nil, f => by cases f; exact ⟨rfl, .nil⟩
  | _, _, _, _, .cons k r r2 l, f => by
    simp only [frzK] at f
    split at f
    · rename_i n
      split at f
      · rename_i y hy
        obtain ⟨ys, hys, rfl⟩ := Option.map_eq_some_iff.mp f
        obtain ⟨ke, rr⟩ := frz_rvs t l hys
        exact ⟨by simp [ke], .cons k (frz_rd t r (frz_same1 _ n)) (frz_rd t r2 hy) rr⟩
      · cases f
    · cases f
end
/-- what stands at a place -/
theorem frz_ref (m : RS K T ρ S H) (x : Ext ρ.own H ρ1 H1) (m1 : RS K T ρ1 S1 H1) (hP : ∀ b, DyC ρ1 S1 b → ∃ xs, H1 b = some (DyO b xs)) (hh : ∀ b, DyC ρ1 S1 b → ∃ o, h.get? b = some o) : ∀ k, Thaw K T ρ ρ1 H H1 S S1 h (frzR S1 k)
  | 0 => ⟨m, x, m1, hP, fun n d a e _ => by cases e⟩
  | k + 1 => ⟨m, x, m1, hP, fun n d a e ha => by
    have t := frz_ref m x m1 hP hh k
    have nw := own_new x ha
    have out : Out (ρ.back H H1) a := back_out m nw
    unfold frzR at e
    cases g : S1.get n with
    | none => rw [g] at e; cases e
    | some o =>
      rw [g] at e
      obtain ⟨a', h1, h2⟩ := m1.at_ n o g
      rw [ha] at h1
      cases h1
      have kn : (ρ.back H H1).kn a := .inr ⟨nw, mut_some (m1.mu n a ha)⟩
      have one : ∀ {o'}, S1.get n = some o' → (∀ t kvs, o' ≠ .dic t kvs) → ¬ DyC ρ1 S1 a := fun {o'} e1 e2 ⟨n2, t2, kvs2, z1, z2⟩ => by
        rw [← m1.inj n n2 a ha z1] at z2
        rw [e1] at z2
        exact e2 _ _ (Option.some.inj z2)
      cases o with
      | lst xs =>
        obtain ⟨ys, hy, rfl⟩ := Option.map_eq_some_iff.mp e
        obtain ⟨vs, h3, h4⟩ := h2
        exact .fl (lk_other h3 (one g fun _ _ z => nomatch z)) out kn (frz_rds t h4 hy)
      | dic b kvs =>
        obtain ⟨ys, hy, rfl⟩ := Option.map_eq_some_iff.mp e
        obtain ⟨xs, h3, nd, h4⟩ := h2
        obtain ⟨ke, rr⟩ := frz_rvs t h4 hy
        have y : DyC ρ1 S1 a := ⟨n, b, kvs, ha, g⟩
        obtain ⟨ob, hob⟩ := hh a y
        exact .dc (lock_yes y h3 hob) out kn (by unfold NdK at nd ⊢; rw [ke]; exact nd) rr
      | ins c fs =>
        obtain ⟨ys, hy, rfl⟩ := Option.map_eq_some_iff.mp e
        obtain ⟨dx, vs, h3, h4, h5, h6, h7⟩ := h2
        have t2 := back_kn m x m1 h6
        exact .ob (lk_other h3 (one g fun _ _ z => nomatch z)) (lk_other h4 (dyc_no h5)) out t2.2 kn t2.1 (frz_rds t h7 hy)⟩
theorem back_ext (x : Ext ρ.own H ρ1 H1) : Ext ρ H (ρ.back H H1) (lockP (DyC ρ1 S1) h H1) where
  le := fun _ _ e => e
  fr0 := fun b o e _ n => lk_other (own_stay x e n) fun y => by rw [dyc_new x y] at e; cases e
  tk := fun b ps e => by
    obtain ⟨qs, hq, h3⟩ := x.tk b ps e
    exact ⟨qs, lk_other hq (fun y => by rw [dyc_new x y] at e; cases e), h3⟩
  nw := fun _ _ e => .inl e
  kl := fun _ k => .inl k
  kw := fun b k => k.imp id fun z => z.1
theorem back_rs (m : RS K T ρ S H) (x : Ext ρ.own H ρ1 H1) (m1 : RS K T ρ1 S1 H1) (hP : ∀ b, DyC ρ1 S1 b → ∃ xs, H1 b = some (DyO b xs)) : RS K T (ρ.back H H1) S (lockP (DyC ρ1 S1) h H1) := by
  have st : ∀ {b o}, H b = some o → Mut (some o) → lockP (DyC ρ1 S1) h H1 b = some o := fun {b o} e mu => lk_other (own_stay x e fun ps z => by rw [z] at mu; exact mu) fun y => by rw [dyc_new x y] at e; cases e
  refine ⟨m.dom, m.inj, fun n a e => ?_, fun n o e => ?_, fun b k => ?_, fun p hp => ?_⟩
  · have mu := m.mu n a e
    obtain ⟨u, hu⟩ := mut_some mu
    rw [st hu (by rw [← hu]; exact mu), ← hu]; exact mu
  · obtain ⟨a, h1, h2⟩ := m.at_ n o e
    obtain ⟨u, hu⟩ := mut_some (m.mu n a h1)
    exact ⟨a, h1, h2.mono m (back_ext x) (by rw [st hu (by rw [← hu]; exact m.mu n a h1), hu])⟩
  · rcases k with k | ⟨_, o, k⟩
    · obtain ⟨u, hu⟩ := m.kd b k
      by_cases z : ∃ ps, u = .tbl ps
      · obtain ⟨ps, rfl⟩ := z
        obtain ⟨qs, hq, _⟩ := x.tk b ps hu
        exact lock_some hq
      · exact lock_some (own_stay x hu fun ps q => z ⟨ps, q⟩)
    · exact lock_some k
  · obtain ⟨ps, h1, h2, h3⟩ := m1.tb p hp
    refine ⟨ps, lk_other h1 fun y => ?_, h2, fun pos cv hc => ?_⟩
    · obtain ⟨xs, z⟩ := hP _ y
      rw [h1] at z
      unfold DyO at z
      cases z
    · obtain ⟨c, e1, e2, e3, e4⟩ := h3 pos cv hc
      have := back_kn m x m1 e4
      exact ⟨c, e1, lk_other e2 (dyc_no e3), this.2, this.1⟩
end
def voidH : Heap := { objs := #[] }
theorem void_get (b : Addr) : voidH.get? b = none := by
  cases z : voidH.get? b with
  | none => rfl
  | some o => exact absurd (Heap.lt_size z) (by simp [voidH])
/-- a run of its own, as the caller's -/
theorem alone_run {E : XK} {m' : M D} {Q : VK} (m : RS K T ρ S H) (r : Run K T Z (RD K T) E ρ H (M.alone m' S) Q) : Run K T Z (RD K T) E ρ.own H (m' S0) (Told Q) := by
  unfold M.alone at r
  cases z : m' S0 with
  | bad => rw [z] at r; exact r
  | exc c p S1 =>
    rw [z] at r
    simp only at r
    split at r
    · rename_i n
      intro ρ1 H1 cls d x m1 xr
      have hP : ∀ b, DyC ρ1 S1 b → ∃ xs, H1 b = some (DyO b xs) := fun b ⟨n, t, kvs, h1, h2⟩ => by
        obtain ⟨a, h3, xs, h4, _⟩ := m1.at_ _ _ h2
        rw [h1] at h3
        cases h3
        exact ⟨xs, h4⟩
      have e0 : lockP (DyC ρ1 S1) voidH H1 = H1 := lock_void void_get
      have t : Thaw K T ρ ρ1 H H1 S S1 voidH (fun _ => none) := ⟨m, x, m1, hP, fun _ _ _ z => by cases z⟩
      have x2 := back_ext (h := voidH) (S1 := S1) x
      have m2 := back_rs (h := voidH) (S1 := S1) m x m1 hP
      rw [e0] at x2 m2
      refine r _ _ cls d x2 m2 ?_
      obtain ⟨h1, h2⟩ := xr
      refine ⟨h1, ?_⟩
      revert h2
      split
      · exact fun z => z
      · rename_i f x'
        rintro ⟨a, v, g1, g2, g3⟩
        have := frz_rd t g3 (frz_same1 _ (by simpa [noRefs] using n))
        rw [e0] at this
        exact ⟨a, v, g1, g2, this⟩
      · exact fun z => z
    · exact r.elim
  | ok v S1 =>
    rw [z] at r
    simp only at r
    split at r
    · rename_i u hu
      intro ρ1 H1 w x m1 rv
      have hP : ∀ b, DyC ρ1 S1 b → ∃ xs, H1 b = some (DyO b xs) := fun b ⟨n, t, kvs, h1, h2⟩ => by
        obtain ⟨a, h3, xs, h4, _⟩ := m1.at_ _ _ h2
        rw [h1] at h3
        cases h3
        exact ⟨xs, h4⟩
      refine ⟨DyC ρ1 S1, hP, fun h hh => ?_⟩
      exact r _ _ w (back_ext x) (back_rs m x m1 hP) (frz_rd (frz_ref m x m1 hP hh 8) rv hu)
    · exact r.elim
end
end Lk
end

section
/-! Ey: a run of its own that is lent lists and dicts of the store. -/
set_option Elab.async false
set_option linter.all false
set_option maxRecDepth 100000
set_option maxHeartbeats 2000000
namespace Lk
open PySem PySem.Spec PyProof.Rows L2 SlX
section
variable {K : PySem.W.Frag} {T : Ty} {Z : Xs} {ρ ρ1 : Pm} {H H1 H2 : Hp} {S S1 : Store} {h : Heap} {g : Nat → Option D}
/-- the lender's things, as the run sees them -/
def Pm.lend (ρ : Pm) (S : Store) : Pm := ⟨fun _ => none, fun b => (ρ.kn b ∧ Out ρ b) ∨ ∃ n o, ρ n = some b ∧ S.get n = some o ∧ ∀ c fs, o ≠ .ins c fs⟩
theorem lend_dy (m : RS K T ρ S H) : ∀ b, DyC ρ S b → ∃ xs, H b = some (DyO b xs) := fun b ⟨n, t, kvs, h1, h2⟩ => by
  obtain ⟨a, h3, xs, h4, _⟩ := m.at_ _ _ h2
  rw [h1] at h3
  cases h3
  exact ⟨xs, h4⟩
theorem lend_kn {b : Addr} (k : ρ.kn b) (q : Out ρ b) : (ρ.lend S).kn b := .inl ⟨k, q⟩
theorem lend_out {b : Addr} : Out (ρ.lend S) b := fun _ z => nomatch z
theorem lend_rs (m : RS K T ρ S H) : RS K T (ρ.lend S) S0 (lockP (DyC ρ S) h H) where
  dom := fun _ _ z => nomatch z
  inj := fun _ _ _ z => nomatch z
  mu := fun _ _ z => nomatch z
  at_ := fun n o z => by rw [S0_get] at z; cases z
  kd := fun b z => by
    rcases z with ⟨k, _⟩ | ⟨n, o, h1, _⟩
    · obtain ⟨o, e⟩ := m.kd b k
      exact lock_some e
    · obtain ⟨u, hu⟩ := mut_some (m.mu n b h1)
      exact lock_some hu
  tb := fun p hp => by
    obtain ⟨ps, h1, h2, h3⟩ := m.tb p hp
    refine ⟨ps, lk_other h1 fun y => ?_, h2, fun pos cv hc => ?_⟩
    · obtain ⟨xs, z⟩ := lend_dy m _ y
      rw [h1] at z
      unfold DyO at z
      cases z
    · obtain ⟨c, e1, e2, e3, e4⟩ := h3 pos cv hc
      exact ⟨c, e1, lk_other e2 (dyc_no e3), lend_out, lend_kn e4 e3⟩
structure Lend (K : PySem.W.Frag) (T : Ty) (ρ : Pm) (S : Store) (H : Hp) (h : Heap) (g : Nat → Option D) : Prop where
  m : RS K T ρ S H
  hg : ∀ n d a, g n = some d → ρ n = some a → RD K T (ρ.lend S) (lockP (DyC ρ S) h H) d (.ref a)
mutual
theorem lend_rd (t : Lend K T ρ S H h g) : ∀ {d e : D} {v : V}, RD K T ρ H d v → frzD g d = some e → RD K T (ρ.lend S) (lockP (DyC ρ S) h H) e v
  | _, _, _, .non, f => by cases f; exact .non
  | _, _, _, .bl b, f => by cases f; exact .bl b
  | _, _, _, .int i, f => by cases f; exact .int i
  | _, _, _, .str s, f => by cases f; exact .str s
  | _, _, _, .tup hs r, f => by
    simp only [frzD] at f
    obtain ⟨ys, hy, rfl⟩ := Option.map_eq_some_iff.mp f
    refine .tup ?_ (lend_rds t r hy)
    have nt : ∀ {b : Addr} {o : HO}, H b = some o → ¬ Mut (some o) → ¬ DyC ρ S b := fun {b o} e n y => by
      obtain ⟨xs, z⟩ := lend_dy t.m b y
      rw [e] at z
      rw [Option.some.inj z] at n
      exact n trivial
    rcases hs with (e | ⟨o, e⟩) | e
    · exact .inl (.inl (lk_other e (nt e fun z => z)))
    · exact .inl (.inr ⟨o, lk_other e (nt e fun z => z)⟩)
    · exact .inr e
  | _, _, _, .fl e q k r, f => by
    simp only [frzD] at f
    obtain ⟨ys, hy, rfl⟩ := Option.map_eq_some_iff.mp f
    exact .fl (lk_other e (dyc_no q)) lend_out (lend_kn k q) (lend_rds t r hy)
  | _, _, _, .sc hs r, f => by
    simp only [frzD] at f
    split at f
    · rename_i n
      cases f
      refine .sc (hs.mono fun o e => lk_other e fun y => ?_) ?_
      · obtain ⟨xs, z⟩ := lend_dy t.m _ y
        rw [e] at z
        unfold DyO at z
        cases z
      · exact lend_rds t r (frz_same _ n)
    · cases f
  | _, _, _, .ob e1 e2 q1 q2 k1 k2 r, f => by
    simp only [frzD] at f
    obtain ⟨ys, hy, rfl⟩ := Option.map_eq_some_iff.mp f
    exact .ob (lk_other e1 (dyc_no q1)) (lk_other e2 (dyc_no q2)) lend_out lend_out (lend_kn k1 q1) (lend_kn k2 q2) (lend_rds t r hy)
  | _, _, _, .ref e, f => t.hg _ _ _ f e
  | _, _, _, .cls c, f => by cases f; exact .cls c
  | _, _, _, .dc e q k nd r, f => by
    simp only [frzD] at f
    obtain ⟨ys, hy, rfl⟩ := Option.map_eq_some_iff.mp f
    obtain ⟨ke, rr⟩ := lend_rvs t r hy
    exact .dc (lk_other e (dyc_no q)) lend_out (lend_kn k q) (by unfold NdK at nd ⊢; rw [ke]; exact nd) rr
theorem lend_rds (t : Lend K T ρ S H h g) : ∀ {ds es : List D} {vs : List V}, RDs K T ρ H ds vs → frzL g ds = some es → RDs K T (ρ.lend S) (lockP (DyC ρ S) h H) es vs
  | _, _, _, .nil, f => by cases f; exact .nil
  | _, _, _, .cons r l, f => by
    simp only [frzL] at f
    split at f
    · rename_i y hy
      obtain ⟨ys, hys, rfl⟩ := Option.map_eq_some_iff.mp f
      exact .cons (lend_rd t r hy) (lend_rds t l hys)
    · cases f
theorem lend_rvs (t : Lend K T ρ S H h g) : ∀ {b : Bool} {ds es : List (D × D)} {xs : Ents}, RVs K T ρ H b ds xs → frzK g ds = some es → es.map (·.1) = ds.map (·.1) ∧ RVs K T (ρ.lend S) (lockP (DyC ρ S) h H) b es xs
  | _, _, _, _, .nil, f => by cases f; exact ⟨rfl, .nil⟩
  | _, _, _, _, .cons k r r2 l, f => by
    simp only [frzK] at f
    split at f
    · rename_i n
      split at f
      · rename_i y hy
        obtain ⟨ys, hys, rfl⟩ := Option.map_eq_some_iff.mp f
        obtain ⟨ke, rr⟩ := lend_rvs t l hys
        exact ⟨by simp [ke], .cons k (lend_rd t r (frz_same1 _ n)) (lend_rd t r2 hy) rr⟩
      · cases f
    · cases f
end
theorem lend_ref (m : RS K T ρ S H) (hh : ∀ b, DyC ρ S b → ∃ o, h.get? b = some o) : ∀ k, Lend K T ρ S H h (frzQ S k)
  | 0 => ⟨m, fun n d a e _ => by cases e⟩
  | k + 1 => ⟨m, fun n d a e ha => by
    have t := lend_ref m hh k
    unfold frzQ at e
    cases g : S.get n with
    | none => rw [g] at e; cases e
    | some o =>
      rw [g] at e
      obtain ⟨a', h1, h2⟩ := m.at_ n o g
      rw [ha] at h1
      cases h1
      cases o with
      | lst xs =>
        obtain ⟨ys, hy, rfl⟩ := Option.map_eq_some_iff.mp e
        obtain ⟨vs, h3, h4⟩ := h2
        have no : ¬ DyC ρ S a := fun ⟨n2, t2, kvs2, z1, z2⟩ => by
          rw [← m.inj n n2 a ha z1, g] at z2
          cases z2
        exact .fl (lk_other h3 no) lend_out (.inr ⟨n, _, ha, g, fun _ _ z => nomatch z⟩) (lend_rds t h4 hy)
      | dic b kvs =>
        obtain ⟨ys, hy, rfl⟩ := Option.map_eq_some_iff.mp e
        obtain ⟨xs, h3, nd, h4⟩ := h2
        obtain ⟨ke, rr⟩ := lend_rvs t h4 hy
        have y : DyC ρ S a := ⟨n, b, kvs, ha, g⟩
        obtain ⟨ob, hob⟩ := hh a y
        exact .dc (lock_yes y h3 hob) lend_out (.inr ⟨n, _, ha, g, fun _ _ z => nomatch z⟩) (by unfold NdK at nd ⊢; rw [ke]; exact nd) rr
      | ins c fs => cases e⟩
open Classical in
/-- given back -/
noncomputable def unl (ρ : Pm) (S : Store) (H H1 : Hp) : Hp := fun b => if DyC ρ S b then H b else H1 b
theorem unl_yes {b : Addr} (y : DyC ρ S b) : unl ρ S H H1 b = H b := if_pos y
theorem unl_no {b : Addr} (n : ¬ DyC ρ S b) : unl ρ S H H1 b = H1 b := if_neg n
/-- the wish behind the run -/
def Lent (ρ : Pm) (S : Store) (h : Heap) (H : Hp) (Q : VK) : VK := fun v H1 => (∀ b, DyC ρ S b → H1 b = lockP (DyC ρ S) h H b) → Q v (unl ρ S H H1)
def LentE (ρ : Pm) (S : Store) (h : Heap) (H : Hp) (E : XK) : XK := fun c d H1 => (∀ b, DyC ρ S b → H1 b = lockP (DyC ρ S) h H b) → E c d (unl ρ S H H1)
section
variable (m : RS K T ρ S H) (hh : ∀ b, DyC ρ S b → ∃ o, h.get? b = some o) (x : Ext (ρ.lend S) (lockP (DyC ρ S) h H) ρ1 H1) (m1 : RS K T ρ1 S1 H1) (hU : ∀ b, DyC ρ S b → H1 b = lockP (DyC ρ S) h H b)
include m hh hU
theorem frz_at {b : Addr} (y : DyC ρ S b) : ∃ o xs, H1 b = some (.frz o (DyO b xs)) := by
  obtain ⟨xs, hx⟩ := lend_dy m b y
  obtain ⟨o, ho⟩ := hh b y
  exact ⟨o, xs, by rw [hU b y]; exact lock_yes y hx ho⟩
theorem un_dyc {b : Addr} {o : HO} (e : H1 b = some o) (n : ∀ u xs, o ≠ .frz u (DyO b xs)) : ¬ DyC ρ S b := fun y => by
  obtain ⟨u, xs, z⟩ := frz_at m hh hU y
  rw [e] at z
  exact n _ _ (Option.some.inj z)
include x
/-- what stood stands -/
theorem unl_st {b : Addr} {o : HO} (e : H b = some o) (n : ∀ ps, o ≠ .tbl ps) : unl ρ S H H1 b = some o := by
  by_cases y : DyC ρ S b
  · rw [unl_yes y]; exact e
  · rw [unl_no y]
    exact x.fr0 b o (by rw [lock_no y]; exact e) lend_out n
include m1
theorem lent_out {b : Addr} {o : HO} (k : ρ1.kn b) (e : H1 b = some o) (nl : ∀ vs, o ≠ .lst vs) (nd : ∀ u xs, o ≠ .frz u (DyO b xs)) : (ρ.back H H1).kn b ∧ Out (ρ.back H H1) b := by
  have key : ρ1.kn b → (ρ.lend S).kn b ∨ H b = none := fun k => (x.kw b k).imp id fun z => by
    by_cases y : DyC ρ S b
    · obtain ⟨xs, hx⟩ := lend_dy m b y
      obtain ⟨u, hu⟩ := lock_some (P := DyC ρ S) (h := h) hx
      rw [hu] at z; cases z
    · rw [lock_no y] at z; exact z
  rcases key k with z | z
  · rcases z with z | ⟨n, ob, h1, h2, h3⟩
    · exact ⟨.inl z.1, z.2⟩
    · exfalso
      obtain ⟨a, h4, h5⟩ := m.at_ n ob h2
      rw [h1] at h4
      cases h4
      cases ob with
      | lst xs =>
        obtain ⟨vs, h6, _⟩ := h5
        have := unl_st m hh x hU h6 (fun ps z => nomatch z)
        have no : ¬ DyC ρ S b := fun ⟨n2, t2, kvs2, z1, z2⟩ => by
          rw [← m.inj n n2 b h1 z1, h2] at z2
          cases z2
        rw [unl_no no, e] at this
        exact nl _ (Option.some.inj this)
      | dic t kvs =>
        obtain ⟨u, xs, z⟩ := frz_at m hh hU ⟨n, t, kvs, h1, h2⟩
        rw [e] at z
        exact nd _ _ (Option.some.inj z)
      | ins c fs => exact h3 c fs rfl
  · exact ⟨.inr ⟨z, ⟨o, e⟩⟩, m.out_new z⟩
mutual
/-- a value without lists and dicts, behind the run -/
theorem lent_rd : ∀ {d : D} {v : V}, RD K T ρ1 H1 d v → noLd d = true → RD K T (ρ.back H H1) (unl ρ S H H1) d v
  | _, _, .non, _ => .non
  | _, _, .bl b, _ => .bl b
  | _, _, .int i, _ => .int i
  | _, _, .str s, _ => .str s
  | _, _, .tup hs r, n => by
    refine .tup ?_ (lent_rds r (by simpa [noLd] using n))
    rcases hs with (e | ⟨o, e⟩) | e
    · exact .inl (.inl (by rw [unl_no (un_dyc m hh hU e fun u xs z => nomatch z)]; exact e))
    · refine .inl (.inr ⟨o, ?_⟩)
      rw [unl_no (un_dyc m hh hU e fun u xs z => by unfold DyO at z; cases z)]
      exact e
    · exact .inr e
  | _, _, .ob e1 e2 q1 q2 k1 k2 r, n => by
    have t1 := lent_out m hh x m1 hU k1 e1 (fun vs z => by unfold SlO at z; cases z) (fun u xs z => by unfold SlO at z; cases z)
    have t2 := lent_out m hh x m1 hU k2 e2 (fun vs z => nomatch z) (fun u xs z => nomatch z)
    refine .ob ?_ ?_ t1.2 t2.2 t1.1 t2.1 (lent_rds r (by simpa [noLd] using n))
    · rw [unl_no (un_dyc m hh hU e1 fun u xs z => by unfold SlO at z; cases z)]; exact e1
    · rw [unl_no (un_dyc m hh hU e2 fun u xs z => nomatch z)]; exact e2
  | _, _, .cls c, _ => .cls c
  | _, _, .fl .., n => by simp [noLd] at n
  | _, _, .sc .., n => by simp [noLd] at n
  | _, _, .dc .., n => by simp [noLd] at n
  | _, _, .ref _, n => by simp [noLd] at n
theorem lent_rds : ∀ {ds : List D} {vs : List V}, RDs K T ρ1 H1 ds vs → noLds ds = true → RDs K T (ρ.back H H1) (unl ρ S H H1) ds vs
  | _, _, .nil, _ => .nil
  | _, _, .cons r t, n => by
    simp only [noLds, Bool.and_eq_true] at n
    exact .cons (lent_rd r n.1) (lent_rds t n.2)
end
theorem lent_ext : Ext ρ H (ρ.back H H1) (unl ρ S H H1) where
  le := fun _ _ e => e
  fr0 := fun b o e _ n => unl_st m hh x hU e n
  tk := fun b ps e => by
    have y : ¬ DyC ρ S b := fun y => by
      obtain ⟨xs, hx⟩ := lend_dy m b y
      rw [e] at hx
      unfold DyO at hx
      cases hx
    obtain ⟨qs, h1, h2⟩ := x.tk b ps (by rw [lock_no y]; exact e)
    refine ⟨qs, by rw [unl_no y]; exact h1, fun pos cv z => (h2 pos cv z).imp id fun ⟨c, e1, e2⟩ => ⟨c, e1, ?_⟩⟩
    by_cases y2 : DyC ρ S c
    · obtain ⟨xs, hx⟩ := lend_dy m c y2
      obtain ⟨u, hu⟩ := lock_some (P := DyC ρ S) (h := h) hx
      rw [hu] at e2; cases e2
    · rw [lock_no y2] at e2; exact e2
  nw := fun _ _ e => .inl e
  kl := fun _ k => .inl k
  kw := fun b k => k.imp id fun z => z.1
theorem lent_rs : RS K T (ρ.back H H1) S (unl ρ S H H1) := by
  have ex := lent_ext m hh x m1 hU
  have st : ∀ {n a}, ρ n = some a → unl ρ S H H1 a = H a := fun {n a} e => by
    obtain ⟨u, hu⟩ := mut_some (m.mu n a e)
    rw [unl_st m hh x hU hu (fun ps z => by have := m.mu n a e; rw [hu, z] at this; exact this), hu]
  refine ⟨m.dom, m.inj, fun n a e => by rw [st e]; exact m.mu n a e, fun n o e => ?_, fun b k => ?_, fun p hp => ?_⟩
  · obtain ⟨a, h1, h2⟩ := m.at_ n o e
    exact ⟨a, h1, h2.mono m ex (st h1)⟩
  · by_cases y : DyC ρ S b
    · obtain ⟨xs, hx⟩ := lend_dy m b y
      exact ⟨_, by rw [unl_yes y]; exact hx⟩
    · rw [unl_no y]
      rcases k with k | ⟨_, k⟩
      · obtain ⟨u, hu⟩ := m.kd b k
        by_cases z : ∃ ps, u = .tbl ps
        · obtain ⟨ps, rfl⟩ := z
          obtain ⟨qs, h1, _⟩ := x.tk b ps (by rw [lock_no y]; exact hu)
          exact ⟨_, h1⟩
        · exact ⟨u, x.fr0 b u (by rw [lock_no y]; exact hu) lend_out fun ps q => z ⟨ps, q⟩⟩
      · exact k
  · obtain ⟨ps, h1, h2, h3⟩ := m.tb p hp
    obtain ⟨qs, g1, g2⟩ := ex.tk p.1 ps h1
    obtain ⟨rs, f1, f2, f3⟩ := m1.tb p hp
    have y : ¬ DyC ρ S p.1 := un_dyc m hh hU f1 fun u xs z => nomatch z
    rw [unl_no y, f1] at g1
    have e0 : qs = rs := by injection g1 with g1; injection g1 with g1; exact g1.symm
    rw [e0] at g2
    refine ⟨rs, by rw [unl_no y]; exact f1, f2, fun pos cv hc => ?_⟩
    obtain ⟨c, e1, e2, e3, e4⟩ := f3 pos cv hc
    have yc : ¬ DyC ρ S c := un_dyc m hh hU e2 fun u xs z => by unfold LamX.CodeO at z; cases z
    refine ⟨c, e1, by rw [unl_no yc]; exact e2, ?_⟩
    rcases g2 pos cv hc with z | ⟨c2, z1, z2⟩
    · obtain ⟨c2, w1, w2, w3, w4⟩ := h3 pos cv z
      rw [e1] at w1
      cases w1
      exact ⟨w3, .inl w4⟩
    · rw [e1] at z1
      cases z1
      exact ⟨m.out_new z2, .inr ⟨z2, _, e2⟩⟩
end
/-- the run, as the lender's -/
theorem lent_run {E : XK} {as bs : List D} {f : List D → M D} {Q : VK} (m : RS K T ρ S H) (hh : ∀ b, DyC ρ S b → ∃ o, h.get? b = some o) (hb : frzL (frzQ S 8) as = some bs) (r : Run K T Z (RD K T) E ρ H (M.lent as f S) Q) : Run K T Z (RD K T) (LentE ρ S h H E) (ρ.lend S) (lockP (DyC ρ S) h H) (f bs S0) (Lent ρ S h H Q) := by
  unfold M.lent at r
  rw [hb] at r
  simp only at r
  cases z : f bs S0 with
  | bad => rw [z] at r; exact r
  | exc c p S1 =>
    rw [z] at r
    simp only at r
    split at r
    · rename_i n
      intro ρ1 H1 cls d x m1 xr hU
      refine r _ _ cls d (lent_ext m hh x m1 hU) (lent_rs m hh x m1 hU) ?_
      obtain ⟨h1, h2⟩ := xr
      refine ⟨h1, ?_⟩
      revert h2
      split
      · exact fun z => z
      · rename_i f x'
        rintro ⟨a, v, g1, g2, g3⟩
        refine ⟨a, v, g1, ?_, lent_rd m hh x m1 hU g3 (by simpa [noLds] using n)⟩
        rw [unl_no (un_dyc m hh hU g2 fun u xs z => nomatch z)]; exact g2
      · exact fun z => z
    · exact r.elim
  | ok v S1 =>
    rw [z] at r
    simp only at r
    split at r
    · rename_i n
      intro ρ1 H1 w x m1 rv hU
      exact r _ _ w (lent_ext m hh x m1 hU) (lent_rs m hh x m1 hU) (lent_rd m hh x m1 hU rv n)
    · exact r.elim
end
section
variable {K : PySem.W.Frag} {T : Ty} {ρ : Pm} {H H1 : Hp} {S : Store} {P : Program} {w : World} {mg : Str → Option Value} {base : Heap} {A : Around} {outer : List PySem.Env} {s s' : Shared} {h h' : Heap}
theorem lend_none (m : RS K T ρ S H) {b : Addr} (e : H b = none) : lockP (DyC ρ S) h H b = none := by
  rw [lock_no fun y => by obtain ⟨xs, z⟩ := lend_dy m b y; rw [e] at z; cases z]
  exact e
theorem lend_env (m : RS K T ρ S H) (e : Env0 P w K mg base A outer s H) : Env0 P w K mg base A outer s (lockP (DyC ρ S) s.heap H) :=
  ⟨e.frames, e.mod, fun b o q => ⟨(e.bs b o q).1, lend_none m (e.bs b o q).2⟩, e.bsz, e.funs, fun b q => lend_none m (e.frf b q), lock_hok (lend_dy m) e.hok, e.bare⟩
theorem lent_same (m : RS K T ρ S H) (hh : ∀ b, DyC ρ S b → ∃ o, h.get? b = some o) (u : ∀ b o x, lockP (DyC ρ S) h H b = some (.frz o x) → H1 b = some (.frz o x)) : ∀ b, DyC ρ S b → H1 b = lockP (DyC ρ S) h H b := fun b y => by
  obtain ⟨xs, hx⟩ := lend_dy m b y
  obtain ⟨o, ho⟩ := hh b y
  have := lock_yes y hx ho
  rw [this]
  exact u b o _ this
theorem lent_un (m : RS K T ρ S H) (hh : ∀ b, DyC ρ S b → ∃ o, h.get? b = some o) {fs ex : List Addr} (u : Un fs ex (lockP (DyC ρ S) h H) H1 h h') : Un fs ex H (unl ρ S H H1) h h' where
  keep := fun b o q n => u.keep b o q (lend_none m n)
  slot := fun b o q n => u.slot b o q (lend_none m n)
  free := fun b o q n x => by
    rw [unl_no fun y => by obtain ⟨xs, z⟩ := lend_dy m b y; rw [n] at z; cases z]
    exact u.free b o q (lend_none m n) x
  there := u.there
  tups := fun b xs q => by
    have y : ¬ DyC ρ S b := fun y => by obtain ⟨ys, z⟩ := lend_dy m b y; rw [q] at z; unfold DyO at z; cases z
    rw [unl_no y]
    exact u.tups b xs (by rw [lock_no y]; exact q)
  frzs := fun b o x q => by
    have y : ¬ DyC ρ S b := fun y => by obtain ⟨ys, z⟩ := lend_dy m b y; rw [q] at z; unfold DyO at z; cases z
    rw [unl_no y]
    exact u.frzs b o x (by rw [lock_no y]; exact q)
  tbls := fun b ps q => by
    have y : ¬ DyC ρ S b := fun y => by obtain ⟨ys, z⟩ := lend_dy m b y; rw [q] at z; unfold DyO at z; cases z
    rw [unl_no y]
    exact u.tbls b ps (by rw [lock_no y]; exact q)
theorem lent_ub (m : RS K T ρ S H) {fs : List Addr} {B : Heap} (u : UB fs (lockP (DyC ρ S) h H) H1 h B h') : UB fs H (unl ρ S H H1) h B h' where
  keep := fun b o q n => u.keep b o q (lend_none m n)
  slot := u.slot
  free := fun b o q n => by
    rw [unl_no fun y => by obtain ⟨xs, z⟩ := lend_dy m b y; rw [n] at z; cases z]
    exact u.free b o q (lend_none m n)
  there := u.there
  tups := fun b xs q => by
    have y : ¬ DyC ρ S b := fun y => by obtain ⟨ys, z⟩ := lend_dy m b y; rw [q] at z; unfold DyO at z; cases z
    rw [unl_no y]
    exact u.tups b xs (by rw [lock_no y]; exact q)
  frzs := fun b o x q => by
    have y : ¬ DyC ρ S b := fun y => by obtain ⟨ys, z⟩ := lend_dy m b y; rw [q] at z; unfold DyO at z; cases z
    rw [unl_no y]
    exact u.frzs b o x (by rw [lock_no y]; exact q)
  tbls := fun b ps q => by
    have y : ¬ DyC ρ S b := fun y => by obtain ⟨ys, z⟩ := lend_dy m b y; rw [q] at z; unfold DyO at z; cases z
    rw [unl_no y]
    exact u.tbls b ps (by rw [lock_no y]; exact q)
theorem lent_hok (m : RS K T ρ S H) (hh : ∀ b, DyC ρ S b → ∃ o, h.get? b = some o) (hU : ∀ b, DyC ρ S b → H1 b = lockP (DyC ρ S) h H b) (ok : HOk P w H1 h') : HOk P w (unl ρ S H H1) h' := by
  have keep : ∀ {b u}, H1 b = some u → (∀ o xs, u ≠ .frz o (DyO b xs)) → unl ρ S H H1 b = some u := fun {b u} e n => by rw [unl_no (un_dyc m hh hU e n)]; exact e
  intro a o e
  by_cases y : DyC ρ S a
  · rw [unl_yes y] at e
    obtain ⟨xs, hx⟩ := lend_dy m a y
    obtain ⟨u, hu⟩ := hh a y
    rw [hx] at e
    cases e
    have := ok a (.frz u (DyO a xs)) (by rw [hU a y]; exact lock_yes y hx hu)
    exact this.2
  · rw [unl_no y] at e
    exact (ok a o e).stay (fun b u _ q => q) (fun b q => keep q (fun o xs z => by cases z)) fun b xs q => keep q (fun o ys z => by cases z)
theorem lent_ce {Q : VK} {u : Value} (m : RS K T ρ S H) (hh : ∀ b, DyC ρ S b → ∃ o, s.heap.get? b = some o) (c : CE outer P w (lockP (DyC ρ S) s.heap H) s (Lent ρ S s.heap H Q) u s') : CE outer P w H s Q u s' := by
  obtain ⟨v, H1, os, bare, un, hok, rv, q⟩ := c
  have hU := lent_same m hh un.frzs
  exact ⟨v, unl ρ S H H1, os, bare, lent_un m hh un, lent_hok m hh hU hok, rv, q hU⟩
theorem lent_cx {E : XK} {u : Value} (m : RS K T ρ S H) (hh : ∀ b, DyC ρ S b → ∃ o, s.heap.get? b = some o) (c : CX P w outer (lockP (DyC ρ S) s.heap H) s (LentE ρ S s.heap H E) u s') : CX P w outer H s E u s' := by
  obtain ⟨a, B, H1, cls, d, e, fl, hok, ub, na, os, bare, q⟩ := c
  have hU : ∀ b, DyC ρ S b → H1 b = lockP (DyC ρ S) s.heap H b := lent_same m hh ub.frzs
  refine ⟨a, B, unl ρ S H H1, cls, d, e, fl, lent_hok m hh hU hok, ?_, ?_, os, bare, q hU⟩
  · exact lent_ub m ub
  · rw [unl_no fun y => by obtain ⟨o, xs, z⟩ := frz_at m hh hU y; rw [na] at z; cases z]
    exact na
end
end Lk
end

section
/-! E10: calls of defs; what a def promises. -/
set_option Elab.async false
set_option linter.all false
set_option maxRecDepth 100000
set_option maxHeartbeats 2000000
namespace Lk
open PySem PySem.Spec PyProof.Rows L2 SlX
section
variable {X : Cx} {F : Fx} {W : WX} {K : PySem.W.Frag} {T : Ty} {Z : Xs} {Y : Option Slf} {ρ : Pm} {H : Hp} {S : Store}
/-- the promise: what the evaluator computes -/
def spF (K : PySem.W.Frag) (T : Ty) (Z : Xs) (c : List D → M D) : Sp := fun vs H Q E => ∃ ρ ds S, RS K T ρ S H ∧ RDs K T ρ H ds vs ∧ Run K T Z (RD K T) E ρ H (c ds S) Q
/-- an error of a callee reaches the wish -/
def Psv (X : Cx) (W : WX) : Prop := ∀ σ, PassesAt (CX X.prog X.w) X σ (fun cls d H => W cls d σ H)
theorem psv_of (tk : Takes X W) : Psv X W := fun σ => passAt tk σ
theorem psv_none : Psv X W0 := fun σ pins H s e s' I c => by
  obtain ⟨_, _, _, _, _, _, _, _, _, _, _, _, z⟩ := c
  exact z.elim
/-- a value that stands whatever the heap is (a default, a constant) -/
def Fixed (K : PySem.W.Frag) (T : Ty) (d : D) (v : V) : Prop := ∀ (ρ : Pm) (H : Hp), RD K T ρ H d v
inductive Fixeds (K : PySem.W.Frag) (T : Ty) : List D → List V → Prop
  | nil : Fixeds K T [] []
  | cons {d : D} {ds : List D} {v : V} {vs : List V} : Fixed K T d v → Fixeds K T ds vs → Fixeds K T (d :: ds) (v :: vs)
theorem Fixeds.rd : ∀ {ds : List D} {vs : List V}, Fixeds K T ds vs → RDs K T ρ H ds vs
  | _, _, .nil => .nil
  | _, _, .cons r t => .cons (r _ _) t.rd
/-- what a caller knows of a def -/
structure Known (X : Cx) (F : Fx) (k : Nat) (x : Str) (j : Nat) (dfl : List D) : Prop where
  ex : ∃ (f : Addr) (fd : FuncData) (ps : List Str) (ds : List Value) (dvs : List V), X.mg x = some (.ref f) ∧ PySem.W.keepIn X.K (.ref f) = true ∧ FnOk X.prog X.w X.K X.mg X.base (CX X.prog X.w) k f fd ps (spF X.K F.T F.Z (F.cal j)) ∧ Binds X.K fd ps ds ∧ Vals dvs ds ∧ Fixeds X.K F.T dfl dvs
/-- the arguments as they come, then the defaults -/
def planOf (n : Nat) (dfl : List D) : List Pl := (List.range n).map Pl.arg ++ dfl.map Pl.dfl
theorem allSome_append {α β : Type} {f : α → Option β} : ∀ {xs ys : List α} {us ws : List β}, allSome f xs = some us → allSome f ys = some ws → allSome f (xs ++ ys) = some (us ++ ws)
  | [], _, _, _, h, h2 => by cases h; exact h2
  | x :: xs, ys, us, ws, h, h2 => by
    unfold allSome at h
    split at h
    · cases h
    · rename_i y e
      split at h
      · cases h
      · rename_i zs e2
        cases h
        show allSome f (x :: (xs ++ ys)) = _
        unfold allSome
        rw [e, allSome_append e2 h2]
        rfl
theorem planned_plan {as dfl : List D} : planned (planOf as.length dfl) as = some (as ++ dfl) := by
  unfold planned planOf
  refine allSome_append ?_ ?_
  · have key : ∀ (pre post : List D), as = pre ++ post → allSome (fun p => match p with | .arg i => as[i]? | .dfl d => some d) ((List.range' pre.length post.length).map Pl.arg) = some post := by
      intro pre post
      induction post generalizing pre with
      | nil => intro _; rfl
      | cons x post ih =>
        intro e
        rw [List.length_cons, List.range'_succ, List.map_cons]
        unfold allSome
        have h1 : as[pre.length]? = some x := by rw [e]; simp
        simp only [h1]
        have := ih (pre ++ [x]) (by rw [e]; simp)
        rw [List.length_append] at this
        simp only [List.length_cons, List.length_nil] at this
        rw [this]
    have := key [] as (by simp)
    rw [List.range_eq_range']
    exact this
  · induction dfl with
    | nil => rfl
    | cons d dfl ih =>
      rw [List.map_cons]
      unfold allSome
      simp only
      rw [ih]
theorem call_of {j : Nat} {xs : XEs} {dfl : List D} {dvs : List V} (hpl : xs.plain = true) (hd : Fixeds X.K F.T dfl dvs) {σ : L2.St} {H : Hp} {Q : VK} (h : tE X F W (.call j xs (planOf xs.len dfl)) σ H Q) :
    tAs X F W xs σ H fun vs H1 => spF X.K F.T F.Z (F.cal j) (vs ++ dvs) H1 Q (fun cls d H => W cls d σ H) := by
  refine Go.mono (Go.bind (rA := RDs X.K F.T) h) fun vs H1 q => ?_
  obtain ⟨ρ, s, ds, S, S0, o, m, e, r, q⟩ := q
  rw [← evs_len hpl o, planned_plan] at q
  exact ⟨ρ, ds ++ dfl, S, m, r.append hd.rd, q⟩
theorem sE_call {k j : Nat} {x : Str} {e : Expr} {es : List Expr} {xs : XEs} {dfl : List D} {p pos : Pos} (G : Known X F k x j dfl) (hr : Room k X.A) (hg : Gl X x) (hx : Psv X W) (ha : PA X (e :: es) (tAs X F W xs)) (hdb : (x == ("__debug__" : Str)) = false)
    (he : starEach (e :: es) X.env = (false, eval e X.env) :: starEach es X.env) (hpl : (backTo pos (starEach es X.env)).any (·.1) = false) (hxp : xs.plain = true) : PE X (.Call (.Name x p) (e :: es) [] pos) (tE X F W (.call j xs (planOf xs.len dfl))) := by
  obtain ⟨f, fd, ps, ds, dvs, h1, h2, h3, h4, h5, h6⟩ := G.ex
  exact PEw (pe_callSD (E := fun σ cls d H => W cls d σ H) h3 hr hg h1 h2 h4 h5 hx ha hdb he hpl) fun σ H Q q => call_of hxp h6 q
theorem sE_call0 {k j : Nat} {x : Str} {dfl : List D} {p pos : Pos} (G : Known X F k x j dfl) (hr : Room k X.A) (hg : Gl X x) (hx : Psv X W) (hdb : (x == ("__debug__" : Str)) = false) : PE X (.Call (.Name x p) [] [] pos) (tE X F W (.call j .nil (planOf 0 dfl))) := by
  obtain ⟨f, fd, ps, ds, dvs, h1, h2, h3, h4, h5, h6⟩ := G.ex
  refine ⟨fun pins s σ H Q I q => wpAny_Call_Name_kw (ld_glob I hg h1 ?_ hdb)⟩
  have q2 := call_of (xs := .nil) rfl h6 q
  obtain ⟨ρ, s', S, m, e, r⟩ := q2
  exact PySem.W.callWith_K0 I.kIn h2 (run_fnSD (E := fun σ cls d H => W cls d σ H) (us := []) (vs := []) h3 hr h4 h5 (hx σ) I .nil (Run.here (a := []) m r RDs.nil))
/-- a global that is a constant -/
theorem sE_glob {x : Str} {pos : Pos} {d : D} {v : V} {u : Value} (hg : Gl X x) (hm : X.mg x = some u) (r : RelV v u) (hd : Fixed X.K F.T d v) (hdb : (x == ("__debug__" : Str)) = false) : PE X (.Name x pos) (tE X F W (.con d)) :=
  PEw (pe_glob hg hm r hdb) fun σ H Q q => by
    obtain ⟨ρ, s, S, m, e, z⟩ := q
    exact Run.here (a := d) m z (hd ρ H)

/-! ### a def keeps its promise -/
theorem envR_start {N : List Str} {ds : List D} {vs : List V} {n : Nat} (r : RDs K T ρ H ds vs) (hn : n = N.length - vs.length) (hl : vs.length ≤ N.length) : EnvR K T none ρ H (ds.map some ++ List.replicate n none) (L2.start N vs) := by
  have l1 := r.length
  refine ⟨?_, (fun y hy => nomatch hy), fun i d hi q => ?_⟩
  · unfold L2.start
    simp only [List.length_append, List.length_map, List.length_replicate]
    omega
  · unfold L2.start
    by_cases h : i < ds.length
    · rw [List.getElem?_append_left (by simpa using h)] at q
      rw [List.getElem?_append_left (by simpa [← l1] using h)]
      rw [List.getElem?_map] at q ⊢
      cases z : ds[i]? with
      | none => rw [z] at q; cases q
      | some d' =>
        rw [z] at q
        cases q
        obtain ⟨v, hv, rv⟩ := r.get z
        exact ⟨v, by rw [hv]; rfl, rv⟩
    · rw [List.getElem?_append_right (by simpa using h)] at q
      rw [List.getElem?_replicate] at q
      split at q
      · cases q
      · cases q
/-- the body's flow, as a call's end -/
theorem def_of {d : Def} {N : List Str} (hi : d.ini = none) (hN : N.length = d.par + d.loc) (hY : F.Y = none) {E : XK} {vs : List V} {Q : VK} {ds : List D} (m : RS X.K F.T ρ S H) (r : RDs X.K F.T ρ H ds vs) (hz : ds.length = d.par) (q : Run X.K F.T F.Z (RD X.K F.T) E ρ H (bodyOf F.cal d ds S) Q) :
    tS X F (fun cls dd _ H => E cls dd H) (exs F.cal d.body) { nx := fun _ H' => Q .non H', rt := Q } (L2.start N vs) H := by
  unfold bodyOf at q
  rw [hi] at q
  have hl : vs.length = d.par := by rw [← r.length]; exact hz
  refine ⟨ρ, ds.map some ++ List.replicate d.loc none, S, m, by rw [hY]; exact envR_start r (by omega) (by omega), ?_⟩
  simp only at q
  unfold M.bind M.calm at q
  revert q
  cases exs F.cal d.body (ds.map some ++ List.replicate d.loc none) S with
  | bad => exact fun q => q
  | exc c p S1 => exact fun q => q
  | ok f S1 =>
    cases f with
    | nx σ => exact fun q ρ' H' σV e' m' _ => q ρ' H' .non e' m' .non
    | rt v => exact fun q ρ' H' w e' m' rv => q ρ' H' w e' m' rv
    | xc c p σ => exact fun q ρ' H' σV cls dd e' m' _ x => q ρ' H' cls dd e' m' x
    | bk σ => exact fun q => q.elim
    | ct σ => exact fun q => q.elim
/-- the promise of the body alone -/
def spB (K : PySem.W.Frag) (T : Ty) (Z : Xs) (n : Nat) (c : List D → M D) : Sp := fun vs H Q E => ∃ ρ ds S, RS K T ρ S H ∧ RDs K T ρ H ds vs ∧ ds.length = n ∧ Run K T Z (RD K T) E ρ H (c ds S) Q
theorem spF_len {cal : Nat → List D → M D} {d : Def} {vs : List V} {Q : VK} {E : XK} (h : spF K T Z (runDef cal d) vs H Q E) : vs.length = d.par := by
  obtain ⟨ρ, ds, S, m, r, q⟩ := h
  unfold runDef at q
  by_cases hz : ds.length = d.par
  · rw [← r.length, hz]
  · rw [decide_eq_false hz] at q
    exact q.elim
theorem spF_body {cal : Nat → List D → M D} {d : Def} (hp : d.pur = false) {vs : List V} {Q : VK} {E : XK} (h : spF K T Z (runDef cal d) vs H Q E) : spB K T Z d.par (bodyOf cal d) vs H Q E := by
  obtain ⟨ρ, ds, S, m, r, q⟩ := h
  unfold runDef at q
  by_cases hz : ds.length = d.par
  · rw [decide_eq_true hz, hp] at q
    exact ⟨ρ, ds, S, m, r, hz, q⟩
  · rw [decide_eq_false hz] at q
    exact q.elim
theorem spF_alone {cal : Nat → List D → M D} {d : Def} (hp : d.pur = true) {vs : List V} {Q : VK} {E : XK} (h : spF K T Z (runDef cal d) vs H Q E) : spB K T Z d.par (bodyOf cal d) vs H (Told Q) E ∨ ∃ ρ S, RS K T ρ S H ∧ ∀ h : Heap, (∀ b, DyC ρ S b → ∃ o, h.get? b = some o) → spB K T Z d.par (bodyOf cal d) vs (lockP (DyC ρ S) h H) (Lent ρ S h H Q) (LentE ρ S h H E) := by
  obtain ⟨ρ, ds, S, m, r, q⟩ := h
  unfold runDef at q
  by_cases hz : ds.length = d.par
  · rw [decide_eq_true hz, hp] at q
    cases n : noRefs ds with
    | false =>
      rw [n] at q
      simp only at q
      cases hb : frzL (frzQ S 8) ds with
      | none =>
        unfold M.lent at q
        rw [hb] at q
        exact q.elim
      | some bs =>
        refine .inr ⟨ρ, S, m, fun h hh => ?_⟩
        have rb := lend_rds (lend_ref m hh 8) r hb
        exact ⟨ρ.lend S, bs, S0, lend_rs m, rb, by rw [rb.length, ← r.length, hz], lent_run m hh hb q⟩
    | true =>
      rw [n] at q
      exact .inl ⟨ρ.own, ds, S0, m.own, r.own n, hz, alone_run m q⟩
  · rw [decide_eq_false hz] at q
    exact q.elim
theorem lent_ok {P : Program} {w : World} {mg : Str → Option Value} {base : Heap} {k n : Nat} {f : Addr} {fd : FuncData} {ps : List Str} {sp2 : Sp} {c : List D → M D} (F : FnOk P w K mg base (CX P w) k f fd ps (spB K T Z n c)) (hl : ∀ vs H Q E, sp2 vs H Q E → vs.length = ps.length)
    (h : ∀ vs H Q E, sp2 vs H Q E → spB K T Z n c vs H (Told Q) E ∨ ∃ ρ S, RS K T ρ S H ∧ ∀ h : Heap, (∀ b, DyC ρ S b → ∃ o, h.get? b = some o) → spB K T Z n c vs (lockP (DyC ρ S) h H) (Lent ρ S h H Q) (LentE ρ S h H E)) : FnOk P w K mg base (CX P w) k f fd ps sp2 := by
  refine ⟨hl, fun A outer s H args us vs Q E hr he hb hv q => ?_⟩
  rcases h _ _ _ _ q with q | ⟨ρ, S, m, q⟩
  · refine codeAny_mono (F.run A outer s H args us vs (Told Q) E hr he hb hv q) ?_
    rintro (e | fl) s' z
    · exact z
    · cases fl with
      | ret u => exact told_ce z
      | _ => exact z.elim
  · have hh : ∀ b, DyC ρ S b → ∃ o, s.heap.get? b = some o := fun b y => by
      obtain ⟨xs, hx⟩ := lend_dy m b y
      obtain ⟨_, z, _⟩ := he.hok b _ hx
      exact z
    have he' : Env0 P w K mg base A outer s (lockP (DyC ρ S) s.heap H) := lend_env m he
    refine codeAny_mono (F.run A outer s _ args us vs _ _ hr he' hb hv (q s.heap hh)) ?_
    rintro (e | fl) s' z
    · exact lent_cx m hh z
    · cases fl with
      | ret u => exact lent_ce m hh z
      | _ => exact z.elim
/-- a def of the text keeps what the evaluator says, by the defs below it -/
theorem fn_ok {P : Program} {w : World} {mg : Str → Option Value} {base : Heap} {f : Addr} {fd : FuncData} {x qual : Str} {params : Arguments} {body : List Stmt} {scope : Scope} {dvs : List V} {kws : List (Str × V)} {N ps : List Str} {k : Nat} {d : Def} (hY : F.Y = none)
    (U : FunD K x qual params body scope dvs kws f fd) (Sc : FnScope N ps scope) (hi : d.ini = none) (hN : N.length = d.par + d.loc) (hp : ps.length = d.par)
    (hb : ∀ (X : Cx) (E : XK), X.prog = P → X.w = w → X.K = K → X.mg = mg → X.base = base → X.N = N → X.env.scope = scope → Room k X.A → X.calm = true → (∀ y, X.fn y = true) → X.stack = X.env :: X.outer → X.env.frame = some X.env.locals → Takes X (fun cls dd _ H => E cls dd H) → PassesOwn (model X.prog X.w) X.A X.env X.xe →
      SSs X F (fun cls dd _ H => E cls dd H) body d.body) : FnOk P w K mg base (CX P w) (k + 1) f fd ps (spF K F.T F.Z (runDef F.cal d)) := by
  have base : FnOk P w K mg base (CX P w) (k + 1) f fd ps (spB K F.T F.Z d.par (bodyOf F.cal d)) := by
    refine U.ok Sc (fun vs H Q E h => ?_) (fun cdv A outer s H vs Q E hr h => ⟨_, hb (cxOf (CX P w) P w K mg base N qual scope f cdv A outer s H E) E rfl rfl rfl rfl rfl rfl rfl hr rfl (fun _ => rfl) rfl rfl (takes_of rfl rfl rfl rfl) (passes_of rfl), ?_⟩)
    · obtain ⟨ρ, ds, S, m, r, hz, q⟩ := h
      rw [← r.length, hz, hp]
    · obtain ⟨ρ, ds, S, m, r, hz, q⟩ := h
      exact def_of (X := cxOf (CX P w) P w K mg base N qual scope f cdv A outer s H E) hi hN hY m r hz q
  cases hpu : d.pur with
  | false => exact ⟨fun vs H Q E h => by rw [hp]; exact spF_len h, fun A outer s H args us vs Q E hr he hb hv q => base.run A outer s H args us vs Q E hr he hb hv (spF_body hpu q)⟩
  | true => exact lent_ok base (fun vs H Q E h => by rw [hp]; exact spF_len h) fun vs H Q E h => spF_alone hpu h
end
end Lk
end

section
/-! F1: isinstance. -/
set_option Elab.async false
set_option linter.all false
set_option maxRecDepth 100000
set_option maxHeartbeats 2000000
namespace Lk
open PySem PySem.Spec PyProof.Rows L2 SlX
def kdN : Kd → String
  | .int => "int"
  | .bool => "bool"
  | .str => "str"
  | .tup => "tuple"
  | .lst => "list"
  | .dic => "dict"
  | .own _ => "object"
def kdV (T : Ty) : Kd → V
  | .own c => .ref (T c)
  | k => .ty (kdN k)
def kdU (T : Ty) : Kd → Value
  | .own c => .ref (T c)
  | k => .type (kdN k)
def kdOk (n : Nat) : Kd → Bool
  | .own c => decide (c < n)
  | _ => true
/-- what is asked of the own classes: that they are plain ones with slots, and apart -/
structure ClsF (K : PySem.W.Frag) (T : Ty) (n : Nat) : Prop where
  sc : ∀ c, c < n → SCls K (T c)
  is : ∀ c, c < n → SIsi K (T c)
  k1 : ∀ c t, c < n → t ∈ ["NoneType", "bool", "int", "str", "tuple", "list", "dict"] → PySem.W.kitOne K (.type t) (.ref (T c)) = some false
  k2 : ∀ c t, c < n → t ∈ ["int", "bool", "str", "tuple", "list", "dict"] → PySem.W.kitOne K (.ref (T c)) (.type t) = some false
  k3 : ∀ c e, c < n → e < n → PySem.W.kitOne K (.ref (T c)) (.ref (T e)) = some (e == c)
section
variable {X : Cx} {F : Fx} {W : WX} {K : PySem.W.Frag} {T : Ty} {ρ : Pm} {H : Hp} {S : Store} {n : Nat}
theorem kdV_cls (k : Kd) : ClsV (kdV T k) (kdU T k) := by cases k <;> first | exact .ty _ | exact .own _
theorem kdV_rel (k : Kd) : RelV (kdV T k) (kdU T k) := by cases k <;> rfl
theorem kitAny_of {t : Value} {p : Kd → Bool} : ∀ {ks : List Kd}, (∀ k ∈ ks, PySem.W.kitOne K t (kdU T k) = some (p k)) → PySem.W.kitAny K t (ks.map (kdU T)) = some (ks.any p)
  | [], _ => rfl
  | k :: ks, h => by
    show (match PySem.W.kitOne K t (kdU T k) with
      | some true => some true
      | some false => PySem.W.kitAny K t (ks.map (kdU T))
      | none => none) = some (ks.cons k |>.any p)
    rw [h k List.mem_cons_self, List.any_cons]
    cases p k
    · exact kitAny_of fun k hk => h k (List.mem_cons_of_mem _ hk)
    · rfl
/-- a value's type: dicts too -/
def TyY (K : PySem.W.Frag) (H : Hp) (v : V) (t : Value) : Prop := TyX K H v t ∨ (t = .type "dict" ∧ ∃ a xs, v = .ref a ∧ Rd H a (DyO a xs))
theorem kit_ofY {pins : List (Addr × Obj)} {σ : L2.St} {s : Shared} {x : V} {u t : Value} (I : L2.Inv X pins σ H s) (rx : RelV x u) (ty : TyY X.K H x t) : ∃ P : Heap → Prop, PySem.W.KitX X.K u t P ∧ P s.heap ∧ u ≠ .builtin "__main__.__loader__#opaque" := by
  rcases ty with ty | ⟨rfl, a, xs, rfl, hr⟩
  · exact kit_of I rx ty
  · cases (show u = Value.ref a from rx)
    obtain ⟨⟨_, _, o, es, ep, h1, h2, _⟩, _⟩ := hr.ok I.hok
    exact ⟨_, PySem.W.kitx_dict, ⟨o, h1, h2.1⟩, fun z => nomatch z⟩
def isiY (K : PySem.W.Frag) : List V → Hp → VK → Prop := fun xs H Q => ∃ (x c : V) (t u : Value) (b : Bool), xs = [x, c] ∧ ClsV c u ∧ TyY K H x t ∧ PySem.W.kitOne K t u = some b ∧ Q (.bl b) H
def isiTY (K : PySem.W.Frag) : List V → Hp → VK → Prop := fun xs H Q => ∃ (x : V) (tp : Addr) (cs : List V) (t : Value) (us : List Value) (b : Bool), xs = [x, .ref tp] ∧ H tp = some (.tup cs) ∧ Paired ClsV cs us ∧ TyY K H x t ∧ PySem.W.kitAny K t us = some b ∧ Q (.bl b) H
theorem call_isiY : CallR X (.builtin "isinstance") (isiY X.K) := by
  intro pins s σ H xs us Q I r h
  obtain ⟨x, c, t, u, b, rfl, k, ty, e, q⟩ := h
  obtain ⟨w1, w2, rfl, r1, r2⟩ := vals2 r
  rw [k.eq r2]
  obtain ⟨P, Z, p, hx⟩ := kit_ofY I r1 ty
  exact PySem.W.kia_one Z I.kIn p e hx fun n => ⟨.bl b, H, I.tok n, rfl, q⟩
theorem call_isiTY : CallR X (.builtin "isinstance") (isiTY X.K) := by
  intro pins s σ H xs us Q I r h
  obtain ⟨x, tp, cs, t, ws, b, rfl, hT, k, ty, e, q⟩ := h
  obtain ⟨w1, w2, rfl, r1, r2⟩ := vals2 r
  cases (show w2 = Value.ref tp from r2)
  obtain ⟨P, Z, p, hx⟩ := kit_ofY I r1 ty
  obtain ⟨_, its, rv, o, h1, h2, n, h3⟩ := (show ObjOk X.prog X.w H s.heap tp (.tup cs) from I.hok tp _ hT)
  cases ClsV.all k rv
  obtain ⟨oc, od, dt, sl⟩ := o
  cases (show oc = _ from h2)
  cases (show dt = _ from h3)
  exact PySem.W.kia_tup Z I.kIn p h1 e hx fun n => ⟨.bl b, H, I.tok n, rfl, q⟩
theorem kit_ty (C : ClsF K T n) {t : String} {p : Kd → Bool} (k : Kd) (hk : kdOk n k = true) (h1 : t ∈ ["NoneType", "bool", "int", "str", "tuple", "list", "dict"]) (h2 : ∀ c, p (.own c) = false)
    (h3 : ∀ k, (∀ c, k ≠ .own c) → PySem.W.kitOne K (.type t) (.type (kdN k)) = some (p k)) : PySem.W.kitOne K (.type t) (kdU T k) = some (p k) := by
  cases k with
  | own c => rw [h2]; exact C.k1 c t (by simpa [kdOk] using hk) h1
  | _ => exact h3 _ (fun c z => nomatch z)
/-- a value's type, and what isinstance says of it -/
theorem kind_of (C : ClsF K T n) {ks : List Kd} {d : D} {v : V} {b : Bool} (m : RS K T ρ S H) (r : RD K T ρ H d v) (hk : ∀ k ∈ ks, kdOk n k = true) (h : kindOf S n ks d = some b) :
    (∃ t, TyY K H v t ∧ PySem.W.kitAny K t (ks.map (kdU T)) = some b) ∨ ∃ (c : Nat) (a dx : Addr) (vs : List (Option V)), v = .ref a ∧ c < n ∧ Slt H a (T c) dx vs ∧ PySem.W.kitAny K (.ref (T c)) (ks.map (kdU T)) = some b := by
  cases r with
  | non =>
    cases h
    exact .inl ⟨_, .inl (.base .non), kitAny_of fun k hm => kit_ty C (p := fun k => kindIs k .non) k (hk k hm) (by decide) (fun _ => rfl) (fun k hn => by cases k <;> first | exact absurd rfl (hn _) | kernel_rfl)⟩
  | bl x =>
    cases h
    exact .inl ⟨_, .inl (.base (.bl x)), kitAny_of fun k hm => kit_ty C (p := fun k => kindIs k (.bl x)) k (hk k hm) (by decide) (fun _ => rfl) (fun k hn => by cases k <;> first | exact absurd rfl (hn _) | kernel_rfl)⟩
  | int x =>
    cases h
    exact .inl ⟨_, .inl (.base (.int x)), kitAny_of fun k hm => kit_ty C (p := fun k => kindIs k (.int x)) k (hk k hm) (by decide) (fun _ => rfl) (fun k hn => by cases k <;> first | exact absurd rfl (hn _) | kernel_rfl)⟩
  | str x =>
    cases h
    exact .inl ⟨_, .inl (.base (.str _)), kitAny_of fun k hm => kit_ty C (p := fun k => kindIs k (.str x)) k (hk k hm) (by decide) (fun _ => rfl) (fun k hn => by cases k <;> first | exact absurd rfl (hn _) | kernel_rfl)⟩
  | @tup a xs vs hq _ =>
    cases h
    refine .inl ⟨.type "tuple", ?_, kitAny_of fun k hm => kit_ty C (p := fun k => kindIs k (.tup xs)) k (hk k hm) (by decide) (fun _ => rfl) (fun k hn => by cases k <;> first | exact absurd rfl (hn _) | kernel_rfl)⟩
    rcases hq with (hq | ⟨o, hq⟩) | ⟨o, its, n', h1, h2, _⟩
    · exact .inl (.base (.tup hq))
    · exact .inl (.fTuple hq)
    · exact .inl (.kTuple h1 h2)
  | @fl a xs vs hq _ _ _ =>
    cases h
    exact .inl ⟨.type "list", .inl (.base (.lst hq)), kitAny_of fun k hm => kit_ty C (p := fun k => kindIs k (.fl xs)) k (hk k hm) (by decide) (fun _ => rfl) (fun k hn => by cases k <;> first | exact absurd rfl (hn _) | kernel_rfl)⟩
  | sc _ _ => cases h
  | @ob a dx c fs vs h1 h2 _ _ _ _ _ =>
    unfold kindOf at h
    obtain ⟨hc, h⟩ := ite_some h
    cases h
    refine .inr ⟨c, a, dx, vs.map some, rfl, hc, .inr ⟨h1, h2⟩, kitAny_of (p := fun k => match k with | .own k => k == c | _ => false) fun k hm => ?_⟩
    have ho := hk k hm
    cases k with
    | own e => exact C.k3 c e hc (by simpa [kdOk] using ho)
    | _ => exact C.k2 c _ hc (by decide)
  | @ref k a hn =>
    simp only [kindOf] at h
    cases z : S.get k with
    | none => rw [z] at h; cases h
    | some o =>
      rw [z] at h
      obtain ⟨a', h1, h2⟩ := m.at_ _ _ z
      rw [hn] at h1
      cases h1
      cases o with
      | lst xs =>
        obtain ⟨vs, h3, _⟩ := h2
        cases h
        exact .inl ⟨.type "list", .inl (.base (.lst h3)), kitAny_of fun k hm => kit_ty C (p := fun k => match k with | .lst => true | _ => false) k (hk k hm) (by decide) (fun _ => rfl) (fun k hn => by cases k <;> first | exact absurd rfl (hn _) | kernel_rfl)⟩
      | dic t kvs =>
        obtain ⟨xs, h3, _⟩ := h2
        cases h
        exact .inl ⟨.type "dict", .inr ⟨rfl, a, xs, rfl, .inl h3⟩, kitAny_of fun k hm => kit_ty C (p := fun k => match k with | .dic => true | _ => false) k (hk k hm) (by decide) (fun _ => rfl) (fun k hn => by cases k <;> first | exact absurd rfl (hn _) | kernel_rfl)⟩
      | ins c fs =>
        obtain ⟨dx, vs, h3, h4, _⟩ := h2
        obtain ⟨hc, h⟩ := ite_some h
        cases h
        refine .inr ⟨c, a, dx, vs.map some, rfl, hc, .inr ⟨h3, h4⟩, kitAny_of (p := fun k => match k with | .own k => k == c | _ => false) fun k hm => ?_⟩
        have ho := hk k hm
        cases k with
        | own e => exact C.k3 c e hc (by simpa [kdOk] using ho)
        | _ => exact C.k2 c _ hc (by decide)
  | cls c => cases h
  | @dc t a o kvs xs e q k nd r =>
    cases h
    exact .inl ⟨.type "dict", .inr ⟨rfl, a, xs, rfl, .inr ⟨o, e⟩⟩, kitAny_of fun k hm => kit_ty C (p := fun k => kindIs k (.dc t kvs)) k (hk k hm) (by decide) (fun _ => rfl) (fun k hn => by cases k <;> first | exact absurd rfl (hn _) | kernel_rfl)⟩
theorem kitOne_of {t u : Value} {b : Bool} (h : PySem.W.kitAny K t [u] = some b) : PySem.W.kitOne K t u = some b := by
  unfold PySem.W.kitAny at h
  revert h
  cases PySem.W.kitOne K t u with
  | none => exact fun h => h
  | some c => cases c <;> exact fun h => h
/-- isinstance(x, (c1, c2, ..)), x an instance with slots -/
def rIsiSlT (K : PySem.W.Frag) : List V → Hp → VK → Prop := fun xs H Q => ∃ (a C dx tp : Addr) (vs : List (Option V)) (cs : List V) (us : List Value) (b : Bool), xs = [V.ref a, .ref tp] ∧ H tp = some (.tup cs) ∧ Paired ClsV cs us ∧ Slt H a C dx vs ∧ SCls K C ∧ SIsi K C ∧ PySem.W.kitAny K (.ref C) us = some b ∧ Q (.bl b) H
theorem call_isiSlT : CallR X (.builtin "isinstance") (rIsiSlT X.K) := by
  intro pins s σ H xs us Q I r h
  obtain ⟨a, C, dx, tp, vs, cs, ws, b, rfl, hT, k, hsl, hc, hi, e, q⟩ := h
  obtain ⟨u1, u2, rfl, r1, r2⟩ := r.two
  cases (show u1 = Value.ref a from r1)
  cases (show u2 = Value.ref tp from r2)
  obtain ⟨sl, od, _, J, _⟩ := slt_inst I hsl
  obtain ⟨_, its, rv, o, h1, h2, n, h3⟩ := (show ObjOk X.prog X.w H s.heap tp (.tup cs) from I.hok tp _ hT)
  have e3 := ClsV.all k rv
  subst e3
  obtain ⟨oc, od, dt, sl⟩ := o
  simp only at h2 h3
  subst h2 h3
  exact PySem.W.kia_tup (OwX.kitx_slt hc.ic (hc.get _) hi.ca hi.cn hi.ct hi.cm) I.kIn J h1 e (fun z => nomatch z) fun tk => ⟨.bl b, H, I.tok _, rfl, q⟩
theorem kdV_all {T : Ty} : ∀ ks : List Kd, Paired ClsV (ks.map (kdV T)) (ks.map (kdU T))
  | [] => .nil
  | k :: ks => .cons (kdV_cls k) (kdV_all ks)
theorem isi_run {x : XE} {ks : List Kd} {σ : L2.St} {H : Hp} {Q : VK} (q : tE X F W (.isi n ks x) σ H Q) : tE X F W x σ H fun v H1 => ∃ ρ d S b, RS X.K F.T ρ S H1 ∧ RD X.K F.T ρ H1 d v ∧ kindOf S n ks d = some b ∧ ∀ ρ' H', Ext ρ H1 ρ' H' → RS X.K F.T ρ' S H' → Q (.bl b) H' := by
  refine Go.mono (Go.bind (rA := rdR X F) q) fun v H1 q => ?_
  obtain ⟨ρ, s, a, S, S0, _, m, e, r, q⟩ := q
  obtain ⟨b', hb, q⟩ := Run.opt (o := (kindOf S n ks a).map D.bl) q
  obtain ⟨b, hk, rfl⟩ := map_some hb
  exact ⟨ρ, a, S, b, m, r, hk, fun ρ' H' e' m' => q ρ' H' (.bl b) e' m' (.bl b)⟩
theorem sE_isi1 {k : Kd} {e c : Expr} {x : XE} {p pos : Pos} (C : ClsF X.K F.T n) (hk : kdOk n k = true) (hg : Gl X "isinstance") (hm : X.mg "isinstance" = none) (he : PE X e (tE X F W x)) (hc : PE X c (tC (kdV F.T k)))
    (h1 : starEach [e, c] X.env = (false, eval e X.env) :: starEach [c] X.env) (h2 : starEach [c] X.env = [(false, eval c X.env)]) : PE X (.Call (.Name "isinstance" p) [e, c] [] pos) (tE X F W (.isi n [k] x)) := by
  have hcall : CallR X (.builtin "isinstance") (fun xs H Q => isiY X.K xs H Q ∨ rIsiSl X.K (kdU F.T k) xs H Q) := fun pins s σ H xs us Q I r h => h.elim (call_isiY pins s σ H xs us Q I r) (call_isiSl _ pins s σ H xs us Q I r)
  refine PEw (pe_callB hcall hg hm (by decide +kernel) (pa_cons he (pa_cons hc pa_nil h2) h1) (by decide) (by decide) h1 (by rw [h2]; rfl)) fun σ H Q q => ?_
  refine Go.mono (isi_run q) fun v H1 q => ?_
  obtain ⟨ρ, d, S, b, m, r, hb, q⟩ := q
  rcases kind_of C m r (fun k' h => by simp at h; rw [h]; exact hk) hb with ⟨t, ty, kt⟩ | ⟨cc, a, dx, vs, rfl, hlt, sl, kt⟩
  · exact .inl ⟨v, _, t, _, b, rfl, kdV_cls k, ty, kitOne_of kt, q ρ H1 .refl m⟩
  · exact .inr ⟨a, _, dx, vs, _, b, rfl, kdV_rel k, fun w hw => (kdV_cls k).eq hw, sl, C.sc _ hlt, C.is _ hlt, kitOne_of kt, q ρ H1 .refl m⟩
theorem sE_isiT {ks : List Kd} {e : Expr} {cs : List Expr} {x : XE} {p pos pt : Pos} {kt : Nat} (C : ClsF X.K F.T n) (hk : ∀ k ∈ ks, kdOk n k = true) (hl : ks.length ≤ 1000) (hg : Gl X "isinstance") (hm : X.mg "isinstance" = none) (he : PE X e (tE X F W x)) (hc : PA X cs (fun _ H Q => Q (ks.map (kdV F.T)) H))
    (h1 : starEach [e, .Tuple cs kt pt] X.env = (false, eval e X.env) :: starEach [.Tuple cs kt pt] X.env) : PE X (.Call (.Name "isinstance" p) [e, .Tuple cs kt pt] [] pos) (tE X F W (.isi n ks x)) := by
  have hcall : CallR X (.builtin "isinstance") (fun xs H Q => isiTY X.K xs H Q ∨ rIsiSlT X.K xs H Q) := fun pins s σ H xs us Q I r h => h.elim (call_isiTY pins s σ H xs us Q I r) (call_isiSlT pins s σ H xs us Q I r)
  refine PEw (pe_callB hcall hg hm (by decide +kernel) (pa_cons he (pa_cons (pe_tup hc) pa_nil rfl) h1) (by decide) (by decide) h1 rfl) fun σ H Q q => ?_
  refine Go.mono (isi_run q) fun v H1 q => ?_
  obtain ⟨ρ, d, S, b, m, r, hb, q⟩ := q
  refine ⟨by rw [List.length_map, sizeLine_eq]; omega, fun tp hp => ?_⟩
  have e1 : Ext ρ H1 ρ (upd H1 tp (.tup (ks.map (kdV F.T)))) := ext_new hp
  rcases kind_of C (m.new hp) (r.mono m e1) hk hb with ⟨t, ty, kt⟩ | ⟨cc, a, dx, vs, rfl, hlt, sl, kt⟩
  · exact .inl ⟨v, tp, _, t, _, b, rfl, upd_same, kdV_all ks, ty, kt, q ρ _ e1 (m.new hp)⟩
  · exact .inr ⟨a, _, dx, tp, vs, _, _, b, rfl, upd_same, kdV_all ks, sl, C.sc _ hlt, C.is _ hlt, kt, q ρ _ e1 (m.new hp)⟩
end
end Lk
end

section
/-! F2: attributes of finished instances: slots, properties. -/
set_option Elab.async false
set_option linter.all false
set_option maxRecDepth 100000
set_option maxHeartbeats 2000000
namespace Lk
open PySem PySem.Spec PyProof.Rows L2 SlX
/-- e.f is a slot, or a property whose getter keeps its promise -/
def AttF (X : Cx) (F : Fx) (k : Nat) (f : Str) (c : Nat) : Att → Prop
  | .slot i => SCls X.K (F.T c) ∧ ∃ p, Slot1 X.K (F.T c) f p i
  | .prop j => SCls X.K (F.T c) ∧ ∃ p g, PySem.W.findIn X.K (.ref (F.T c)) f = some (some (.ref p)) ∧ PySem.W.specialIn X.K (.ref p) "__get__" = some (some (.builtin "property.__get__")) ∧ PySem.W.takesIn X.K (.ref p) = some true ∧ (∃ rest, PySem.W.recIn X.K p "property" = some (.ref g :: rest)) ∧
      FnR X.prog X.w X.K X.mg X.base (CX X.prog X.w) k g (spF X.K F.T F.Z (F.cal j))
section
variable {X : Cx} {F : Fx} {W : WX} {K : PySem.W.Frag} {T : Ty} {Z : Xs} {ρ : Pm} {H : Hp} {S : Store} {n : Nat}
theorem calm_run {α β : Type} {rel : Pm → Hp → α → β → Prop} {W W' : XK} {m : M α} {Q : β → Hp → Prop} (h : Run K T Z rel W ρ H (M.calm m S) Q) : Run K T Z rel W' ρ H (m S) Q := by
  unfold M.calm at h
  revert h
  cases m S with
  | bad => exact fun h => h
  | exc c p S1 => exact fun h => h.elim
  | ok a S1 => exact fun h => h
theorem no_cx {P : Program} {w : World} {outer : List PySem.Env} {s : Shared} {e : Value} {s' : Shared} (c : CX P w outer H s (fun _ _ _ => False) e s') : False := by
  obtain ⟨_, _, _, _, _, _, _, _, _, _, _, _, z⟩ := c
  exact z.elim
theorem sE_att {k : Nat} {f : Str} {e : Expr} {x : XE} {tb : List (Nat × Att)} {pos : Pos} (A : ∀ c t, tb.lookup c = some t → AttF X F k f c t) (hr : Room (k + 1) X.A) (he : PE X e (tE X F W x)) (hb : attributeBase e f X.env (eval e X.env) = eval e X.env) : PE X (.Attribute e f pos) (tE X F W (.att tb x)) := by
  refine ⟨fun pins s σ H Q I q => attr_of hb (thn (he.run pins s σ H _ I (Go.bind (rA := rdR X F) q)) ?_)⟩
  rintro u s1 ⟨v, H1, I1, ru, ρ, s, d, S, S0, _, m, e, r, q⟩
  cases d with
  | ob c fs =>
    cases r with
    | @ob a dx _ _ vs h1 h2 o1 o2 k1 k2 rs =>
      cases (show u = Value.ref a from ru)
      have hs : Slt H1 a (F.T c) dx (vs.map some) := .inr ⟨h1, h2⟩
      simp only at q
      cases hl : tb.lookup c with
      | none => rw [hl] at q; exact q.elim
      | some t =>
        rw [hl] at q
        have hA := A c t hl
        cases t with
        | slot i =>
          obtain ⟨z, hz, q⟩ := Run.opt (o := fs[i]?) q
          obtain ⟨w, hw, rw'⟩ := rs.get hz
          obtain ⟨sc, p, sl⟩ := hA
          exact getslot_ok I1 hs sc sl (v := w) (by rw [List.getElem?_map, hw]; rfl) fun u' s2 I2 r2 => ⟨w, H1, I2, r2, q ρ H1 w .refl m rw'⟩
        | prop j =>
          obtain ⟨sc, p, g, hf, hg, ht, hc, hF⟩ := hA
          refine getprop_sl (E := fun _ _ _ => False) I1 hs sc hf hg ht hc hF hr (fun _ _ _ _ c => no_cx c) ⟨ρ, [.ob c fs], S, m, .cons (.ob h1 h2 o1 o2 k1 k2 rs) .nil, calm_run q⟩
  | _ => exact q.elim
theorem base_ok {e : Expr} {f : Str} {env : PySem.Env} (h : ∀ x p q, e ≠ .Call (.Name x p) [] [] q) : attributeBase e f env (eval e env) = eval e env := by
  unfold attributeBase
  split
  · exact absurd rfl (h _ _ _)
  · rfl
end
end Lk
end

section
/-! F3: methods of built-in things. -/
set_option Elab.async false
set_option linter.all false
set_option maxRecDepth 100000
set_option maxHeartbeats 2000000
namespace Lk
open PySem PySem.Spec PyProof.Rows L2 SlX
/-- a value's type, wherever it stands so -/
def TyI (X : Cx) (T : String) (v : V) (H : Hp) : Prop := ∀ (pins : List (Addr × Obj)) (σ : L2.St) (s : Shared) (u : Value), L2.Inv X pins σ H s → RelV v u → s.TypeIs u T ∧ ∀ a, u = .ref a → ∃ ob, s.heap.get? a = some ob ∧ ob.dict = none
theorem tyI_of {X : Cx} {T : String} {v : V} {H : Hp} (h : tyV X.K T v H) : TyI X T v H := fun pins σ s u I r => tyV_is I r h
/-- what the method asks and gives, once its owner is known -/
def MthR (X : Cx) (F : Fx) (name : Str) (m : Bm) : Prop := ∀ (ρ : Pm) (d : D) (S : Store) (H : Hp) (v : V), RS X.K F.T ρ S H → RD X.K F.T ρ H d v → mthFits S m d = true →
  ∃ (T id : String) (r : V → List V → Hp → VK → Prop), PlainAttrs T ∧ Slot T name id ∧ typeOf (.builtin id) = pure (.type "method_descriptor") ∧ TyI X T v H ∧ MtR X id r ∧
    ∀ (ρ' : Pm) (S' : Store) (H' : Hp) (as : List D) (vs : List V) (W' : XK) (Q : VK), RS X.K F.T ρ' S' H' → RD X.K F.T ρ' H' d v → RDs X.K F.T ρ' H' as vs → Run X.K F.T F.Z (rdR X F) W' ρ' H' (mthD m d as S') Q → r v vs H' Q
section
variable {X : Cx} {F : Fx} {W : WX} {K : PySem.W.Frag} {T : Ty} {Z : Xs} {ρ : Pm} {H : Hp} {S : Store} {n : Nat}
theorem sE_mth {name : Str} {m : Bm} {o e : Expr} {es : List Expr} {x : XE} {xs : XEs} {apos cpos : Pos} (M : MthR X F name m) (ho : PE X o (tE X F W x)) (ha : PA X (e :: es) (tAs X F W xs)) (hs : starEach (e :: es) X.env = (false, eval e X.env) :: starEach es X.env) (hpl : (backTo cpos (starEach es X.env)).any (·.1) = false)
    (hal : ((backTo cpos (starEach (e :: es) X.env)).all fun x => !x.1) = true) (hb : attributeBase o name X.env (eval o X.env) = eval o X.env) (hl : (apos.endLine == cpos.line) = true) (hn : (e :: es).length < 20) : PE X (.Call (.Attribute o name apos) (e :: es) [] cpos) (tE X F W (.mth m x xs)) := by
  have hfew : ((backTo cpos (starEach (e :: es) X.env)).all (fun x => !x.1) && (backToKw cpos (keywordEach [] X.env)).all (fun x => x.1.isSome) && decide ((e :: es).length + ([] : List Keyword).length + (if ([] : List Keyword).isEmpty then 0 else 1) < 30)) = true := by
    rw [hal, decide_eq_true (by simp only [List.length_nil, List.isEmpty_nil, if_true]; omega)]; rfl
  refine ⟨fun pins s σ H Q I q => wpAny_Call_method_late hb hfew hl rfl (thn (ho.run pins s σ H _ I (Go.bind (rA := rdR X F) q)) ?_)⟩
  rintro v s1 ⟨w, H1, I1, rw', ρ, sg, d, S, S0, _, m1, e1, r1, q1⟩
  cases hf : mthFits S m d with
  | false => simp only [hf] at q1; exact q1.elim
  | true =>
    simp only [hf] at q1
    obtain ⟨T, id, r, pa, sl, ty, tv, mt, rule⟩ := M ρ d S H1 w m1 r1 hf
    obtain ⟨g1, g2⟩ := tv _ _ _ _ I1 rw'
    refine ⟨T, id, pa, sl, ty, g1, g2, ?_⟩
    have hA := ha.run cpos pins s1 σ H1 _ I1 ⟨ρ, sg, S, m1, e1, Run.bind (rA := RDs X.K F.T) q1⟩
    rw [hs] at hA ⊢
    refine Calls.callWith_builtin (by show (false || (backTo cpos (starEach es X.env)).any (·.1)) = false; rw [hpl]; rfl) (Calls.evalArgs_plain (thn hA ?_))
    rintro us s2 ⟨vs, H2, I2, r2, ρ2, as, S2, _, x2, m2, ras, q2⟩
    exact mt pins s2 σ H2 w vs v us Q I2 rw' r2 (rule ρ2 S2 H2 as vs _ Q m2 (r1.mono m1 x2) ras q2)
theorem lst_ty {d : D} {v : V} (m : RS K T ρ S H) {xs : List D} (h : seqOf S d = some xs) (r : RD K T ρ H d v) : tyV K "list" v H := by
  obtain ⟨a, vs, rfl, hq, _⟩ := seqOf_inv m h r
  exact .inl ⟨rfl, vs, hq⟩
theorem RDs.one_inv {as : List D} {vs : List V} {x : D} (h : RDs K T ρ H [x] vs) : ∃ v, vs = [v] ∧ RD K T ρ H x v := by
  cases h with
  | cons r t => cases t; exact ⟨_, rfl, r⟩
theorem mth_append : MthR X F "append" .append := fun ρ d S H v m r hf => by
  cases d with
  | ref a =>
    simp only [mthFits] at hf
    have hl : ∃ xs, S.get a = some (.lst xs) := by
      split at hf
      · exact ⟨_, by assumption⟩
      · cases hf
    obtain ⟨xs, hl⟩ := hl
    refine ⟨"list", "list.append", rAppend, PySem.F.plainAttrs_list, PySem.F.slot_list_append, PySem.F.type_list_append, tyI_of (lst_ty (xs := xs) m (by simp [seqOf, itemsOf, hl]) r), mt_append, fun ρ' S' H' as vs W' Q m' r' ras q => ?_⟩
    cases r' with
    | @ref _ p hn =>
      match as, ras, q with
      | [x], ras, q =>
        obtain ⟨y, rfl, ry⟩ := RDs.one_inv (as := []) ras
        simp only [mthD] at q
        cases hg : S'.get a with
        | none => rw [hg] at q; exact q.elim
        | some o =>
          rw [hg] at q
          cases o with
          | lst ys =>
            simp only at q
            by_cases hz : ys.length < sizeMax
            · rw [if_pos hz] at q
              obtain ⟨p', h1, us, h2, h3⟩ := m'.at_ _ _ hg
              rw [hn] at h1
              cases h1
              have ep : Ext ρ' H' ρ' (upd H' p (.lst (us ++ [y]))) := ext_put m' hn
              refine ⟨p, us, y, rfl, rfl, h2, by rw [← h3.length, sizeLine_eq]; unfold sizeMax at hz; omega, q ρ' _ .non ep (m'.put hn trivial ⟨_, upd_same, (h3.append (.cons ry .nil)).mono m' ep⟩) .non⟩
            · rw [if_neg hz] at q; exact q.elim
          | dic _ => exact q.elim
          | ins _ _ => exact q.elim
      | [], _, q => exact q.elim
      | _ :: _ :: _, _, q => exact q.elim
  | _ => cases hf
theorem str_ty {z : List Nat} {v : V} (r : RD K T ρ H (.str z) v) : tyV K "str" v H := by
  cases r; exact rfl
theorem split_ok {c : Nat} : ∀ (z acc : List Nat), TL.spl [c] 0 acc z = match splitOn c z with
    | [] => [acc]
    | w :: ws => (acc ++ w) :: ws
  | [], acc => by simp [TL.spl, splitOn]
  | x :: xs, acc => by
    unfold TL.spl splitOn
    by_cases h : x = c
    · subst h
      have hp : TL.pre [x] (x :: xs) = true := by simp [TL.pre]
      rw [if_pos hp, if_pos rfl]
      show acc :: TL.spl [x] 0 [] xs = _
      rw [split_ok xs []]
      simp only
      cases hz : splitOn x xs with
      | nil => exact absurd hz (by unfold splitOn; split <;> (try split) <;> (try split) <;> simp)
      | cons w ws => simp
    · have hp : ¬ TL.pre [c] (x :: xs) = true := by simp [TL.pre]; exact h
      rw [if_neg hp, if_neg h, split_ok xs (acc ++ [x])]
      cases hz : splitOn c xs with
      | nil => simp
      | cons w ws => simp
theorem splitOn_len {c : Nat} : ∀ z : List Nat, (splitOn c z).length ≤ z.length + 1
  | [] => by simp [splitOn]
  | x :: xs => by
    have ih := splitOn_len (c := c) xs
    unfold splitOn
    split
    · simp; omega
    · cases hz : splitOn c xs with
      | nil => simp
      | cons w ws => rw [hz] at ih; simp at ih ⊢; omega
theorem strs_map {ws : List (List Nat)} : RDs K T ρ H (ws.map D.str) (ws.map fun w => V.str ⟨w.toArray⟩) := by
  induction ws with
  | nil => exact .nil
  | cons w ws ih => exact .cons (.str w) ih
theorem mth_split : MthR X F "split" .split := fun ρ d S H v m r hf => by
  cases d with
  | str z =>
    refine ⟨"str", "str.split", _, PySem.F.plainAttrs_str, PySem.F.slot_str_split, PySem.F.type_str_split, tyI_of (str_ty r), mt_split, fun ρ' S' H' as vs W' Q m' r' ras q => ?_⟩
    simp only [mthD] at q
    split at q
    · rename_i z' c he
      cases he
      obtain ⟨y, rfl, ry⟩ := RDs.one_inv (as := []) ras
      by_cases hz : z.length ≤ sizeMax ∧ c < 128
      · rw [if_pos hz] at q
        cases r'.str_inv
        cases ry.str_inv
        refine ⟨_, _, rfl, rfl, rfl, ?_, fun p hp => ?_⟩
        · have h1 := hz.1
          rw [sizeLine_eq]
          unfold sizeMax at h1
          show z.toArray.size + 2 ≤ _
          rw [List.size_toArray]; omega
        · have e : (Txt.split ⟨z.toArray⟩ ⟨[c].toArray⟩).map V.str = (splitOn c z).map fun w => V.str ⟨w.toArray⟩ := by
            have hk : ¬ Builtin.Str.strKind ⟨z.toArray⟩ < Builtin.Str.strKind ⟨[c].toArray⟩ := by
              have : Builtin.Str.strKind ⟨[c].toArray⟩ = 1 := by
                unfold Builtin.Str.strKind
                rw [if_pos]
                simp; omega
              rw [this]
              unfold Builtin.Str.strKind
              split
              · omega
              · split <;> omega
            have h1 := TL.split_spl ⟨z.toArray⟩ ⟨[c].toArray⟩ (by simp [TL.tl]) hk
            have h2 : (Txt.split ⟨z.toArray⟩ ⟨[c].toArray⟩).map TL.tl = splitOn c z := by
              rw [h1]
              show TL.spl [c] 0 [] z = _
              rw [split_ok]
              cases hz : splitOn c z with
              | nil => exact absurd hz (by unfold splitOn; split <;> (try split) <;> (try split) <;> simp)
              | cons w ws => simp
            rw [← h2, List.map_map]
            refine List.map_congr_left fun s _ => ?_
            show V.str s = V.str ⟨s.cps.toList.toArray⟩
            simp
          rw [e]
          obtain ⟨x1, m1, r1⟩ := new_fl m' hp (strs_map (K := X.K) (T := F.T) (ρ := ρ') (H := H') (ws := splitOn c z))
          exact q _ _ _ x1 m1 r1
      · rw [if_neg hz] at q; exact q.elim
    · exact q.elim
  | _ => cases hf
theorem join_ok {c : List Nat} : ∀ ws : List (List Nat), TL.joinL c ws = joinOn c ws
  | [] => rfl
  | [_] => rfl
  | w :: x :: r => by
    show w ++ (c ++ TL.joinL c (x :: r)) = w ++ c ++ joinOn c (x :: r)
    rw [join_ok (x :: r), List.append_assoc]
theorem strsOf_inv : ∀ {xs : List D} {ws : List (List Nat)}, strsOf xs = some ws → xs = ws.map D.str
  | [], ws, h => by cases h; rfl
  | x :: xs, ws, h => by
    unfold strsOf allSome at h
    split at h
    · cases h
    · rename_i w hw
      split at h
      · cases h
      · rename_i zs hz
        cases h
        rw [List.map_cons, ← strsOf_inv hz]
        cases x <;> first | cases hw; rfl | cases hw
theorem RDs.strs_inv : ∀ {ws : List (List Nat)} {vs : List V}, RDs K T ρ H (ws.map D.str) vs → vs = (ws.map fun w => (⟨w.toArray⟩ : Str)).map V.str
  | [], _, h => by cases h; rfl
  | w :: ws, _, h => by
    cases h with
    | cons r t => rw [r.str_inv, RDs.strs_inv t]; rfl
theorem mth_join : MthR X F "join" .join := fun ρ d S H v m r hf => by
  cases d with
  | str z =>
    refine ⟨"str", "str.join", _, PySem.F.plainAttrs_str, PySem.F.slot_str_join, PySem.F.type_str_join, tyI_of (str_ty r), mt_join, fun ρ' S' H' as vs W' Q m' r' ras q => ?_⟩
    simp only [mthD] at q
    split at q
    · rename_i z' d' he
      cases he
      obtain ⟨y, rfl, ry⟩ := RDs.one_inv (as := []) ras
      split at q
      · rename_i xs hx
        split at q
        · rename_i ws hw
          by_cases hz : (ws.map (·.length)).sum + ws.length * z.length ≤ sizeMax
          · rw [if_pos hz] at q
            obtain ⟨a, us, rfl, hq, rs⟩ := itemsOf_inv m' hx ry
            rw [strsOf_inv hw] at rs
            rw [rs.strs_inv] at hq
            cases r'.str_inv
            refine ⟨⟨z.toArray⟩, a, ws.map fun w => (⟨w.toArray⟩ : Str), rfl, rfl, hq, ?_, ?_⟩
            · have e1 : (ws.map fun w => (⟨w.toArray⟩ : Str)).map (·.length) = ws.map (·.length) := by
                rw [List.map_map]; exact List.map_congr_left fun w _ => by simp [Str.length]
              rw [e1, List.length_map]
              unfold sizeMax at hz
              show _ + ws.length * z.toArray.size ≤ _
              rw [List.size_toArray]; omega
            · refine q ρ' H' _ .refl m' ?_
              have e2 : (Txt.join ⟨z.toArray⟩ (ws.map fun w => (⟨w.toArray⟩ : Str))) = ⟨(joinOn z ws).toArray⟩ := by
                rw [TL.join_eq]
                have h1 := TL.tl_join ⟨z.toArray⟩ (ws.map fun w => (⟨w.toArray⟩ : Str))
                have h2 : (ws.map fun w => (⟨w.toArray⟩ : Str)).map TL.tl = ws := by
                  rw [List.map_map]
                  exact (List.map_congr_left fun w _ => by simp [TL.tl]).trans (List.map_id ws)
                rw [h2, join_ok] at h1
                refine TL.ext_tl (h1.trans ?_)
                simp [TL.tl]
              rw [e2]
              exact .str _
          · rw [if_neg hz] at q; exact q.elim
        · exact q.elim
      · exact q.elim
    · exact q.elim
  | _ => cases hf
theorem indexD_inv (m : RS K T ρ S H) {x : D} {ys : List D} {a : Addr} {us : List V} {k : Nat} {v : V} (h : indexD S x ys = some k) (rx : RD K T ρ H x v) (rs : RDs K T ρ H ys us) (hq : SqL K H a us) :
    ∃ d ds z, Dp K H (.ref a) (.list ds) ∧ Dp K H v d ∧ SeqAt.shaped (.list ds) = true ∧ SeqAt.shaped d = true ∧ ds[k]? = some z ∧ PyData.eqv z d = true ∧ ∀ (j : Nat) (z' : PyData), j < k → ds[j]? = some z' → PyData.eqv z' d = false := by
  unfold indexD at h
  split at h
  · split at h
    · rename_i x' ys' hx hy
      have pl := rsv_all (rsv_plain 60) hy
      have px := rsv_plain _ _ _ hx
      have sh := pds_shaped (n := 60) (by decide) pl
      have hpds : ∀ (l : List D) (i : Nat), (pds l)[i]? = (l[i]?).map pd := by
        intro l
        induction l with
        | nil => intro i; simp [pds]
        | cons a l ih =>
          intro i
          cases i with
          | zero => simp [pds]
          | succ i => simpa [pds] using ih i
      obtain ⟨hk, h1, h2⟩ := List.findIdx?_eq_some_iff_getElem.mp h
      have eqv_of : ∀ (i : Nat) (hi : i < ys'.length), eqD ys'[i] x' = PyData.eqv (pd ys'[i]) (pd x') := fun i hi => eqD_pd 60 _ _ (List.all_eq_true.mp pl _ (List.getElem_mem hi)) px
      refine ⟨pd x', pds ys', pd ys'[k], .lst hq (dp_all m (rsv_dp m 60) hy rs), rsv_dp m 60 _ _ _ hx rx, sh.1, rsv_shaped hx, by rw [hpds, List.getElem?_eq_getElem hk]; rfl, by rw [← eqv_of k hk]; exact h1, fun j z' hj hz => ?_⟩
      have hjl : j < ys'.length := by omega
      rw [hpds, List.getElem?_eq_getElem hjl] at hz
      cases hz
      rw [← eqv_of j hjl]
      have := h2 j hj
      simpa using this
    · cases h
  · cases h
theorem mth_index (hu : X.A.units + 65 < cLine) : MthR X F "index" .index := fun ρ d S H v m r hf => by
  have lst : ∀ {d : D} {xs : List D} (hd : ∀ z, d ≠ .str z), seqOf S d = some xs → RD X.K F.T ρ H d v → ∃ (T id : String) (r : V → List V → Hp → VK → Prop), PlainAttrs T ∧ Slot T "index" id ∧ typeOf (.builtin id) = pure (.type "method_descriptor") ∧ TyI X T v H ∧ MtR X id r ∧
    ∀ (ρ' : Pm) (S' : Store) (H' : Hp) (as : List D) (vs : List V) (W' : XK) (Q : VK), RS X.K F.T ρ' S' H' → RD X.K F.T ρ' H' d v → RDs X.K F.T ρ' H' as vs → Run X.K F.T F.Z (rdR X F) W' ρ' H' (mthD .index d as S') Q → r v vs H' Q := fun {d xs} hd hs r => by
    refine ⟨"list", "list.index", rIndexD X.K, PySem.F.plainAttrs_list, PySem.F.slot_list_index, PySem.F.type_list_index, tyI_of (lst_ty m hs r), mt_indexD hu, fun ρ' S' H' as vs W' Q m' r' ras q => ?_⟩
    simp only [mthD] at q
    split at q
    · exact absurd rfl (hd _)
    · exact absurd rfl (hd _)
    · rename_i d' x' h1 h2
      obtain ⟨y, rfl, ry⟩ := RDs.one_inv (as := []) ras
      split at q
      · rename_i ys hy
        split at q
        · rename_i k hk
          obtain ⟨a, us, rfl, hq, rs⟩ := seqOf_inv m' hy r'
          obtain ⟨dd, ds, z, g1, g2, g3, g4, g5, g6, g7⟩ := indexD_inv m' hk ry rs hq
          exact ⟨a, y, dd, ds, k, z, rfl, rfl, g1, g2, g3, g4, g5, g6, g7, q ρ' H' (.int k) .refl m' (.int _)⟩
        · exact q.elim
      · exact q.elim
    · exact q.elim
  cases d with
  | str z =>
    refine ⟨"str", "str.index", _, PySem.F.plainAttrs_str, PySem.F.slot_str_index, PySem.F.type_str_index, tyI_of (str_ty r), mt_sindex, fun ρ' S' H' as vs W' Q m' r' ras q => ?_⟩
    simp only [mthD] at q
    split at q
    · rename_i z' c he
      cases he
      obtain ⟨y, rfl, ry⟩ := RDs.one_inv (as := []) ras
      cases r'.str_inv
      cases ry.str_inv
      by_cases hz : z = [97, 98, 99]
      · rw [if_pos hz] at q
        subst hz
        by_cases h1 : c = 97
        · subst h1
          exact ⟨_, _, 0, [], rfl, rfl, by kernel_rfl, q ρ' H' (.int 0) .refl m' (.int _)⟩
        · rw [if_neg h1] at q
          by_cases h2 : c = 98
          · subst h2
            exact ⟨_, _, 1, [], rfl, rfl, by kernel_rfl, q ρ' H' (.int 1) .refl m' (.int _)⟩
          · rw [if_neg h2] at q
            by_cases h3 : c = 99
            · subst h3
              exact ⟨_, _, 2, [], rfl, rfl, by kernel_rfl, q ρ' H' (.int 2) .refl m' (.int _)⟩
            · rw [if_neg h3] at q; exact q.elim
      · rw [if_neg hz] at q; exact q.elim
    · exact q.elim
    · rename_i hn
      exact absurd rfl (hn _)
    · exact q.elim
  | fl xs => exact lst (xs := xs) (fun z h => nomatch h) rfl r
  | ref a =>
    simp only [mthFits] at hf
    split at hf
    · rename_i xs hl
      exact lst (xs := xs) (fun z h => nomatch h) (by simp [seqOf, itemsOf, hl]) r
    · cases hf
  | _ => cases hf
end
end Lk
end

section
/-! F4: C(..): an instance with slots is made. -/
set_option Elab.async false
set_option linter.all false
set_option maxRecDepth 100000
set_option maxHeartbeats 2000000
namespace Lk
open PySem PySem.Spec PyProof.Rows L2 SlX
section
variable {X : Cx} {F : Fx} {W : WX} {K : PySem.W.Frag} {T : Ty} {Z : Xs} {ρ ρ' : Pm} {H H' : Hp} {S S' : Store} {n : Nat} {x dx : Addr}
/-- the heap with the object that is being made -/
def slo (H : Hp) (x dx : Addr) (o1 o2 : HO) : Hp := upd (upd H dx o1) x o2
/-- .. without it -/
def cutH (H : Hp) (x dx : Addr) : Hp := fun b => if b = x then none else if b = dx then none else H b
theorem slo_x {o1 o2 : HO} : slo H x dx o1 o2 x = some o2 := upd_same
theorem slo_dx {o1 o2 : HO} (h : dx ≠ x) : slo H x dx o1 o2 dx = some o1 := by unfold slo; rw [upd_ne h, upd_same]
theorem slo_ne {o1 o2 : HO} {b : Addr} (h1 : b ≠ x) (h2 : b ≠ dx) : slo H x dx o1 o2 b = H b := by unfold slo; rw [upd_ne h1, upd_ne h2]
theorem cut_ne {b : Addr} (h1 : b ≠ x) (h2 : b ≠ dx) : cutH H x dx b = H b := by unfold cutH; rw [if_neg h1, if_neg h2]
theorem cut_x : cutH H x dx x = none := if_pos rfl
theorem cut_dx : cutH H x dx dx = none := by unfold cutH; split <;> simp
theorem slo_cut {o1 o2 : HO} (hx : H x = some o2) (hd : H dx = some o1) : slo (cutH H x dx) x dx o1 o2 = H := by
  funext b
  unfold slo
  by_cases h1 : b = x
  · rw [h1, upd_same, hx]
  · rw [upd_ne h1]
    by_cases h2 : b = dx
    · rw [h2, upd_same, hd]
    · rw [upd_ne h2, cut_ne h1 h2]
theorem ext_slo {o1 o2 : HO} (m : RS K T ρ S H) (hx : H x = none) (hd : H dx = none) (h : dx ≠ x) : Ext ρ H ρ (slo H x dx o1 o2) ∧ RS K T ρ S (slo H x dx o1 o2) := by
  have hx1 : upd H dx o1 x = none := by rw [upd_ne (Ne.symm h)]; exact hx
  exact ⟨(ext_new hd).trans (ext_new hx1) (m.new hd), (m.new hd).new hx1⟩
/-- not the object that is being made, nor its dict -/
structure Apart (ρ : Pm) (H : Hp) (x dx : Addr) : Prop where
  kx : ¬ ρ.kn x
  kd : ¬ ρ.kn dx
  ox : Out ρ x
  od : Out ρ dx
  tx : ∀ vs, ¬ Rd H x (.tup vs)
  td : ∀ vs, ¬ Rd H dx (.tup vs)
  sx : ∀ o vs, H x ≠ some (.frz o (.lst vs))
  sd : ∀ o vs, H dx ≠ some (.frz o (.lst vs))
  bx : ∀ ps, H x ≠ some (.tbl ps)
  bd : ∀ ps, H dx ≠ some (.tbl ps)
theorem Apart.kn {a : Addr} (A : Apart ρ H x dx) (k : ρ.kn a) : cutH H x dx a = H a := cut_ne (fun z => A.kx (by rw [← z]; exact k)) (fun z => A.kd (by rw [← z]; exact k))
theorem Apart.st {a : Addr} {n : Nat} (A : Apart ρ H x dx) (k : ρ n = some a) : cutH H x dx a = H a := cut_ne (fun z => A.ox n (by rw [← z]; exact k)) (fun z => A.od n (by rw [← z]; exact k))
theorem Apart.fz {a : Addr} {o : Obj} {vs : List V} (A : Apart ρ H x dx) (k : H a = some (.frz o (.lst vs))) : cutH H x dx a = H a := cut_ne (fun z => A.sx o vs (by rw [← z]; exact k)) (fun z => A.sd o vs (by rw [← z]; exact k))
theorem Apart.tp {a : Addr} {vs : List V} (A : Apart ρ H x dx) (k : Rd H a (.tup vs)) : cutH H x dx a = H a := cut_ne (fun z => A.tx vs (by rw [← z]; exact k)) (fun z => A.td vs (by rw [← z]; exact k))
mutual
theorem RD.cut (A : Apart ρ H x dx) : ∀ {d : D} {v : V}, RD K T ρ H d v → RD K T ρ (cutH H x dx) d v
  | _, _, .non => .non
  | _, _, .bl b => .bl b
  | _, _, .int i => .int i
  | _, _, .str s => .str s
  | _, _, .tup (a := a) (vs := vs) h r => .tup (by
      rcases h with h | h
      · have e := A.tp h
        refine .inl ?_
        unfold Rd at h ⊢
        rw [e]; exact h
      · exact .inr h) (RDs.cut A r)
  | _, _, .fl h q k r => .fl ((A.kn k).trans h) q k (RDs.cut A r)
  | _, _, .sc (vs := vs) h r => .sc (h.mono fun o h => (A.fz h).trans h) (RDs.cut A r)
  | _, _, .ob h1 h2 q1 q2 k1 k2 r => .ob ((A.kn k1).trans h1) ((A.kn k2).trans h2) q1 q2 k1 k2 (RDs.cut A r)
  | _, _, .ref h => .ref h
  | _, _, .cls c => .cls c
  | _, _, .dc h q k n r => .dc ((A.kn k).trans h) q k n (RVs.cut A r)
theorem RDs.cut (A : Apart ρ H x dx) : ∀ {ds : List D} {vs : List V}, RDs K T ρ H ds vs → RDs K T ρ (cutH H x dx) ds vs
  | _, _, .nil => .nil
  | _, _, .cons r t => .cons (RD.cut A r) (RDs.cut A t)
theorem RVs.cut (A : Apart ρ H x dx) : ∀ {t : Bool} {ds : List (D × D)} {vs : Ents}, RVs K T ρ H t ds vs → RVs K T ρ (cutH H x dx) t ds vs
  | _, _, _, .nil => .nil
  | _, _, _, .cons k r r2 t => .cons k (RD.cut A r) (RD.cut A r2) (RVs.cut A t)
end
theorem RS.cut (m : RS K T ρ S H) (A : Apart ρ H x dx) : RS K T ρ S (cutH H x dx) where
  dom := m.dom
  inj := m.inj
  mu := fun n a h => by rw [A.st h]; exact m.mu n a h
  at_ := fun n o h => by
    obtain ⟨a, h1, h2⟩ := m.at_ n o h
    refine ⟨a, h1, ?_⟩
    cases o with
    | lst xs =>
      obtain ⟨vs, h3, h4⟩ := h2
      exact ⟨vs, (A.st h1).trans h3, h4.cut A⟩
    | dic t kvs =>
      obtain ⟨xs, h3, h4, h5⟩ := h2
      exact ⟨xs, (A.st h1).trans h3, h4, h5.cut A⟩
    | ins c fs =>
      obtain ⟨dx, vs, h3, h4, h5, h6, h7⟩ := h2
      exact ⟨dx, vs, (A.st h1).trans h3, (A.kn h6).trans h4, h5, h6, h7.cut A⟩
  kd := fun b h => by
    obtain ⟨u, hu⟩ := m.kd b h
    exact ⟨u, (A.kn h).trans hu⟩
  tb := fun p hp => by
    obtain ⟨ps, h1, h2, h3⟩ := m.tb p hp
    refine ⟨ps, by rw [cut_ne (fun z => A.bx ps (by rw [← z]; exact h1)) (fun z => A.bd ps (by rw [← z]; exact h1))]; exact h1, h2, fun pos cv hc => ?_⟩
    obtain ⟨c, e1, e2, e3, e4⟩ := h3 pos cv hc
    exact ⟨c, e1, (A.kn e4).trans e2, e3, e4⟩
theorem Ext.cut {o1 o2 : HO} (e : Ext ρ (slo H x dx o1 o2) ρ' H') (hx : H x = none) (hd : H dx = none) : Ext ρ H ρ' (cutH H' x dx) where
  le := e.le
  fr0 := fun b o h q n => by
    have h1 : b ≠ x := fun z => by rw [z, hx] at h; cases h
    have h2 : b ≠ dx := fun z => by rw [z, hd] at h; cases h
    rw [cut_ne h1 h2]
    exact e.fr0 b o (by rw [slo_ne h1 h2]; exact h) q n
  tk := fun b ps h => by
    have h1 : b ≠ x := fun z => by rw [z, hx] at h; cases h
    have h2 : b ≠ dx := fun z => by rw [z, hd] at h; cases h
    obtain ⟨qs, g1, g2⟩ := e.tk b ps (by rw [slo_ne h1 h2]; exact h)
    refine ⟨qs, by rw [cut_ne h1 h2]; exact g1, fun pos cv z => (g2 pos cv z).imp id fun ⟨c, e1, e2⟩ => ⟨c, e1, ?_⟩⟩
    by_cases z1 : c = x
    · rw [z1]; exact hx
    · by_cases z2 : c = dx
      · rw [z2]; exact hd
      · rw [slo_ne z1 z2] at e2; exact e2
  nw := fun n b h => by
    rcases e.nw n b h with z | z
    · exact .inl z
    · refine .inr ?_
      by_cases h1 : b = x
      · rw [h1]; exact hx
      · by_cases h2 : b = dx
        · rw [h2]; exact hd
        · rw [slo_ne h1 h2] at z; exact z
  kl := e.kl
  kw := fun b h => by
    rcases e.kw b h with z | z
    · exact .inl z
    · refine .inr ?_
      by_cases h1 : b = x
      · rw [h1]; exact hx
      · by_cases h2 : b = dx
        · rw [h2]; exact hd
        · rw [slo_ne h1 h2] at z; exact z
/-- the state of the object: fresh, or with the first slots -/
def SlSt (C x dx : Addr) (vs : List V) (o1 o2 : HO) : Prop := (vs = [] ∧ o1 = .own x ∧ o2 = .ins C dx []) ∨ (o1 = .xd [] ∧ o2 = SlO x C dx (vs.map some))
theorem SlSt.slt {C : Addr} {vs : List V} {o1 o2 : HO} (h : SlSt C x dx vs o1 o2) (ne : dx ≠ x) : Slt (slo H x dx o1 o2) x C dx (vs.map some) := by
  rcases h with ⟨rfl, rfl, rfl⟩ | ⟨rfl, rfl⟩
  · exact .inl ⟨slo_x, rfl⟩
  · exact .inr ⟨slo_x, slo_dx ne⟩
theorem SlSt.apart {C : Addr} {vs : List V} {o1 o2 : HO} (h : SlSt C x dx vs o1 o2) (ne : dx ≠ x) (m : RS K T ρ S H) (hx : H x = none) (hd : H dx = none) {ρ' : Pm} {H' : Hp} (e : Ext ρ (slo H x dx o1 o2) ρ' H') : Apart ρ' H' x dx ∧ H' x = some o2 ∧ H' dx = some o1 := by
  have ox := m.out_new hx
  have od := m.out_new hd
  have tx : ∀ ps, o2 ≠ .tbl ps := fun ps z => by
    rcases h with ⟨_, _, rfl⟩ | ⟨_, rfl⟩
    · cases z
    · unfold SlO at z; cases z
  have td : ∀ ps, o1 ≠ .tbl ps := fun ps z => by
    rcases h with ⟨_, rfl, _⟩ | ⟨rfl, _⟩ <;> cases z
  have hx' := e.fr x _ slo_x ox tx
  have hd' := e.fr dx _ (slo_dx ne) od td
  have nk : ∀ {b : Addr}, H b = none → ¬ ρ.kn b := fun hb k => by
    obtain ⟨u, hu⟩ := m.kd _ k
    rw [hb] at hu; cases hu
  refine ⟨⟨fun k => ?_, fun k => ?_, e.out slo_x ox, e.out (slo_dx ne) od, ?_, ?_, ?_, ?_, fun ps z => tx ps (Option.some.inj (hx'.symm.trans z)), fun ps z => td ps (Option.some.inj (hd'.symm.trans z))⟩, hx', hd'⟩
  · rcases e.kw x k with z | z
    · exact nk hx z
    · rw [slo_x] at z; cases z
  · rcases e.kw dx k with z | z
    · exact nk hd z
    · rw [slo_dx ne] at z; cases z
  · intro vs z
    unfold Rd at z
    rw [hx'] at z
    rcases h with ⟨_, _, rfl⟩ | ⟨_, rfl⟩
    · rcases z with z | ⟨o, z⟩ <;> cases z
    · rcases z with z | ⟨o, z⟩ <;> (unfold SlO at z; cases z)
  · intro vs z
    unfold Rd at z
    rw [hd'] at z
    rcases h with ⟨_, rfl, _⟩ | ⟨rfl, _⟩
    · rcases z with z | ⟨o, z⟩ <;> cases z
    · rcases z with z | ⟨o, z⟩ <;> cases z
  · intro o vs z
    rw [hx'] at z
    rcases h with ⟨_, _, rfl⟩ | ⟨_, rfl⟩
    · cases z
    · unfold SlO at z; cases z
  · intro o vs z
    rw [hd'] at z
    rcases h with ⟨_, rfl, _⟩ | ⟨rfl, _⟩ <;> cases z
theorem putS_end (v : V) (vs : List V) : putS vs.length v (vs.map some) = (vs ++ [v]).map some := by
  unfold putS
  have e : vs.length + 1 - (vs.map some).length = 1 := by simp
  rw [e, List.map_append]
  have : (vs.map some ++ List.replicate 1 (none : Option V)).set vs.length (some v) = vs.map some ++ [some v] := by
    rw [List.set_append_right _ _ (by simp)]
    simp
  simpa using this
theorem slH_slo {C : Addr} {o1 o2 : HO} {us : List (Option V)} : slH (slo H x dx o1 o2) x C dx us = slo H x dx (.xd []) (SlO x C dx us) := by
  funext b
  unfold slH slo
  by_cases h1 : b = x
  · rw [h1, upd_same, upd_same]
  · rw [upd_ne h1, upd_ne h1]
    by_cases h2 : b = dx
    · rw [h2, upd_same, upd_same]
    · rw [upd_ne h2, upd_ne h1, upd_ne h2, upd_ne h2]
/-- the slots are set, one behind another; so many stand -/
def tFin (X : Cx) (F : Fx) (W : WX) (c k : Nat) (es : XEs) : TS := fun D σV H => ∃ ρ σ S x dx o1 o2 vs H0, H = slo H0 x dx o1 o2 ∧ dx ≠ x ∧ H0 x = none ∧ H0 dx = none ∧ SlSt (F.T c) x dx vs o1 o2 ∧ vs.length = k ∧ σV[0]? = some (some (.ref x)) ∧
  RS X.K F.T ρ S H0 ∧ EnvR X.K F.T F.Y ρ H0 σ σV ∧ Run X.K F.T F.Z (RDs X.K F.T) (fun c d H => W c d σV H) ρ H0 (evs F.cal es σ S) fun us H' => H' x = none → H' dx = none → D.nx σV (slo H' x dx (.xd []) (SlO x (F.T c) dx ((vs ++ us).map some)))
/-- self.f = e, .. -/
inductive FinOk (X : Cx) (F : Fx) (W : WX) (c : Nat) : Nat → List Stmt → XEs → Prop
  | nil {k : Nat} : 0 < k → FinOk X F W c k [] .nil
  | cons {k : Nat} {nm f : Str} {p : Addr} {e : Expr} {x : XE} {ss : List Stmt} {xs : XEs} {p1 p2 pos : Pos} : PE X (.Name nm p1) (tVar 0) → PE X e (tE X F W x) → Slot1 X.K (F.T c) f p k → FinOk X F W c (k + 1) ss xs → FinOk X F W c k (.Assign [.Attribute (.Name nm p1) f p2] e pos :: ss) (.cons x xs)
theorem not_nm {e : Expr} {o : Expr} {f : Str} {p : Pos} {l : Nat} {env : PySem.Env} : swapsWith e (some (.Attribute o f p)) l env = pure false := by cases e <;> rfl
theorem fin_ok {c : Nat} (sc : SCls X.K (F.T c)) : ∀ {k : Nat} {ss : List Stmt} {xs : XEs}, FinOk X F W c k ss xs → PSs X ss (tFin X F W c k xs)
  | k, _, _, .nil hk => PSsw pss_nil fun D σV H h => by
      obtain ⟨ρ, σ, S, x, dx, o1, o2, vs, H0, rfl, ne, hx, hd, st, hl, _, m, e, r⟩ := h
      have q := Run.here (a := []) (v := []) m r .nil hx hd
      rw [List.append_nil] at q
      rcases st with ⟨rfl, _, _⟩ | ⟨rfl, rfl⟩
      · cases hl; exact absurd hk (Nat.lt_irrefl 0)
      · exact q
  | k, _, _, .cons (x := ex) (xs := xs) hn he hs rest => PSsw (pss_cons (ps_sl hn he not_nm) (fin_ok sc rest)) fun D σV H h => by
      obtain ⟨ρ, σ, S, x, dx, o1, o2, vs, H0, rfl, ne, hx, hd, st, hl, h0, m, e, r⟩ := h
      obtain ⟨xe, me⟩ := ext_slo (o1 := o1) (o2 := o2) m hx hd ne
      refine ⟨ρ, σ, S, me, e.mono m xe, ?_⟩
      have r : Run X.K F.T F.Z (RDs X.K F.T) (fun c d H => W c d σV H) ρ H0 (M.bind (ev F.cal ex σ) (fun d => M.bind (evs F.cal xs σ) fun ds => M.pure (d :: ds)) S) _ := r
      cases z : ev F.cal ex σ S with
      | bad => rw [M.bind_bad z] at r; exact r
      | exc c' p' S1 =>
        unfold M.bind at r
        rw [z] at r
        exact fun ρ1 H1 cls d e1 m1 w => r ρ1 H1 cls d (xe.trans e1 me) m1 w
      | ok d S1 =>
        rw [M.bind_ok z] at r
        intro ρ1 H1 y e1 m1 ry
        obtain ⟨ap, hx1, hd1⟩ := st.apart ne m hx hd e1
        have m2 := m1.cut ap
        have e2 := e1.cut hx hd
        have ry2 := ry.cut ap
        have H1e := slo_cut hx1 hd1
        refine ⟨.ref x, h0, x, F.T c, dx, _, vs.map some, k, rfl, ?_, sc, hs, ?_⟩
        · rw [← H1e]; exact st.slt ne
        · rw [← H1e, slH_slo, ← hl, putS_end]
          refine ⟨ρ1, σ, S1, x, dx, .xd [], _, vs ++ [y], cutH H1 x dx, rfl, ne, cut_x, cut_dx, .inr ⟨rfl, rfl⟩, by simp [hl], h0, m2, e.mono m e2, ?_⟩
          have r2 := r.shift e2 m2
          unfold M.bind at r2
          unfold Run
          cases z2 : evs F.cal xs σ S1 with
          | bad => rw [z2] at r2; exact r2
          | exc c' p' S2 => rw [z2] at r2; exact r2
          | ok ds S2 =>
            rw [z2] at r2
            intro ρ3 H3 us e3 m3 rs hx3 hd3
            have q := r2 ρ3 H3 (y :: us) e3 m3 (.cons (ry2.mono m2 e3) rs) hx3 hd3
            simpa using q
/-- statements, each as it is said -/
inductive SSl (X : Cx) (F : Fx) (W : WX) : List Stmt → XSs → Prop
  | nil : SSl X F W [] .nil
  | cons {s : Stmt} {x : XS} {ss : List Stmt} {xs : XSs} : SS X F W s x → SSl X F W ss xs → SSl X F W (s :: ss) (.cons x xs)
/-- the promise of an __init__: the object, empty, is the first argument -/
def spI (K : PySem.W.Frag) (T : Ty) (Z : Xs) (c : Nat) (f : List D → M D) : Sp := fun vs H Q E => ∃ x dx us ρ ds S H0 Q', vs = .ref x :: us ∧ H = slo H0 x dx (.own x) (.ins (T c) dx []) ∧ dx ≠ x ∧ H0 x = none ∧ H0 dx = none ∧ RS K T ρ S H0 ∧ RDs K T ρ H0 ds us ∧
  Run K T Z (RD K T) E ρ H0 (f ds S) Q' ∧ ∀ H', Q' (.ref x) H' → Q .non H'
/-- the checks, then the slots -/
theorem pre_fin {suf : List Stmt} {t : TS} (hs : PSs X suf t) : ∀ {pre : List Stmt} {xs : XSs}, SSl X F W pre xs → PSs X (pre ++ suf) fun D σV H => tS X F W (exs F.cal xs) { D with nx := t D } σV H
  | _, _, .nil => PSsw hs fun D σV H h => by
      obtain ⟨ρ, σ, S, m, e, r⟩ := h
      exact RunS.here_nx (σ := σ) m e r
  | _, _, .cons h1 h2 => PSsw (pss_cons h1 (pre_fin hs h2)) fun D σV H h => by
      obtain ⟨ρ, σ, S, m, e, r⟩ := h
      exact ⟨ρ, σ, S, m, e, RunS.seq (k := exs F.cal _) r⟩
end
end Lk
end

section
/-! F5: an __init__ keeps its promise; C(..). -/
set_option Elab.async false
set_option linter.all false
set_option maxRecDepth 100000
set_option maxHeartbeats 2000000
namespace Lk
open PySem PySem.Spec PyProof.Rows L2 SlX
section
variable {X : Cx} {F : Fx} {W : WX} {K : PySem.W.Frag} {T : Ty} {Z : Xs} {ρ ρ' : Pm} {H H' : Hp} {S S' : Store} {n : Nat} {x dx : Addr}
theorem envR_init {N : List Str} {ds : List D} {us : List V} {y : Slf} {n : Nat} (r : RDs K T ρ H ds us) (hy : y.x = x) (hn : N.length = 1 + ds.length + n) : EnvR K T (some y) ρ H (none :: (ds.map some ++ List.replicate n none)) (L2.start N (.ref x :: us)) := by
  have l1 := r.length
  unfold L2.start
  refine ⟨?_, fun z hz _ => ?_, fun i d hi q => ?_⟩
  · simp only [List.length_append, List.length_map, List.length_replicate, List.length_cons]
    omega
  · cases hz; simp [hy]
  · cases i with
    | zero => cases q
    | succ i =>
      rw [List.getElem?_cons_succ] at q
      by_cases h : i < ds.length
      · rw [List.getElem?_append_left (by simpa using h), List.getElem?_map] at q
        cases z : ds[i]? with
        | none => rw [z] at q; cases q
        | some d' =>
          rw [z] at q
          cases q
          obtain ⟨v, hv, rv⟩ := r.get z
          refine ⟨v, ?_, rv⟩
          rw [List.map_cons, List.cons_append, List.getElem?_cons_succ, List.getElem?_append_left (by simpa [← l1] using h), List.getElem?_map, hv]
          rfl
      · rw [List.getElem?_append_right (by simpa using h), List.getElem?_replicate] at q
        split at q
        · cases q
        · cases q
theorem EnvR.cut {Y : Option Slf} {σ : Env} {σV : L2.St} (A : Apart ρ H x dx) (h : EnvR K T Y ρ H σ σV) : EnvR K T Y ρ (cutH H x dx) σ σV := ⟨h.1, h.2.1, fun i d hi q => let ⟨v, h1, h2⟩ := h.2.2 i d hi q; ⟨v, h1, h2.cut A⟩⟩
/-- the finished object -/
theorem made_ok {c : Nat} {ds : List D} {us : List V} (m : RS K T ρ S H) (hx : H x = none) (hd : H dx = none) (ne : dx ≠ x) (r : RDs K T ρ H ds us) :
    RS K T ((ρ.know x).know dx) S (slo H x dx (.xd []) (SlO x (T c) dx (us.map some))) ∧ RD K T ((ρ.know x).know dx) (slo H x dx (.xd []) (SlO x (T c) dx (us.map some))) (.ob c ds) (.ref x) := by
  obtain ⟨e1, m1⟩ := ext_slo (o1 := .xd []) (o2 := SlO x (T c) dx (us.map some)) m hx hd ne
  exact ⟨(m1.know slo_x).know (slo_dx ne), .ob slo_x (slo_dx ne) (m.out_new hx) (m.out_new hd) (.inl (.inr rfl)) (.inr rfl) (((r.mono m e1).know x).know dx)⟩
theorem init_ok {P : Program} {w : World} {mg : Str → Option Value} {base : Heap} {f : Addr} {fd : FuncData} {nm qual : Str} {params : Arguments} {body pre suf : List Stmt} {scope : Scope} {dvs : List V} {kws : List (Str × V)} {N ps : List Str} {k c : Nat} {es : XEs} {d : Def}
    (U : FunD K nm qual params body scope dvs kws f fd) (Sc : FnScope N ps scope) (hpu : d.pur = false) (hi : d.ini = some (c, es)) (hN : N.length = 1 + d.par + d.loc) (hp : ps.length = d.par + 1) (sc : SCls K (F.T c)) (hsplit : body = pre ++ suf)
    (hb : ∀ (X : Cx) (E : XK) (y : Slf), X.prog = P → X.w = w → X.K = K → X.mg = mg → X.base = base → X.N = N → X.env.scope = scope → Room k X.A → X.calm = true → (∀ y, X.fn y = true) → X.stack = X.env :: X.outer → X.env.frame = some X.env.locals → Takes X (fun cls dd _ H => E cls dd H) → PassesOwn (model X.prog X.w) X.A X.env X.xe →
      SSl X { F with Y := some y } (fun cls dd _ H => E cls dd H) pre d.body ∧ FinOk X { F with Y := some y } (fun cls dd _ H => E cls dd H) c 0 suf es) : FnOk P w K mg base (CX P w) (k + 1) f fd ps (spI K F.T F.Z c (runDef F.cal d)) := by
  refine U.ok Sc (fun vs H Q E h => ?_) (fun cdv A outer s H vs Q E hr h => ?_)
  · obtain ⟨x, dx, us, ρ, ds, S, H0, Q', rfl, _, _, _, _, _, r, q, _⟩ := h
    unfold runDef at q
    by_cases hz : ds.length = d.par
    · rw [List.length_cons, ← r.length, hz, hp]
    · rw [decide_eq_false hz] at q
      exact q.elim
  · obtain ⟨x, dx, us, ρ, ds, S, H0, Q', rfl, rfl, ne, hx, hd, m, r, q, hQ⟩ := h
    have hlen : ds.length = d.par := by
      unfold runDef at q
      by_cases hz : ds.length = d.par
      · exact hz
      · rw [decide_eq_false hz] at q; exact q.elim
    have hX := hb (cxOf (CX P w) P w K mg base N qual scope f cdv A outer s (slo H0 x dx (.own x) (.ins (F.T c) dx [])) E) E ⟨x, dx, F.T c⟩ rfl rfl rfl rfl rfl rfl rfl hr rfl (fun _ => rfl) rfl rfl (takes_of rfl rfl rfl rfl) (passes_of rfl)
    refine ⟨_, by rw [hsplit]; exact pre_fin (fin_ok sc hX.2) hX.1, ?_⟩
    obtain ⟨xe, me⟩ := ext_slo (o1 := .own x) (o2 := .ins (F.T c) dx []) m hx hd ne
    refine ⟨ρ, _, S, me, envR_init (r.mono m xe) rfl (n := d.loc) (by rw [hN, hlen]), ?_⟩
    have st : SlSt (F.T c) x dx [] (.own x) (.ins (F.T c) dx []) := .inl ⟨rfl, rfl, rfl⟩
    unfold runDef at q
    rw [decide_eq_true hlen, hpu] at q
    unfold bodyOf at q
    rw [hi] at q
    simp only at q
    unfold M.bind M.calm at q
    revert q
    show _ → RunS _ _ _ _ _ _ _ (exs F.cal d.body (none :: (ds.map some ++ List.replicate d.loc none)) S) _
    cases exs F.cal d.body (none :: (ds.map some ++ List.replicate d.loc none)) S with
    | bad => exact fun q => q
    | exc c p S1 => exact fun q => q
    | ok f S1 =>
      cases f with
      | rt v => exact fun q => q.elim
      | bk σ => exact fun q => q.elim
      | ct σ => exact fun q => q.elim
      | xc c p σ => exact fun q ρ' H' σV cls dd e' m' _ x => q ρ' H' cls dd (xe.trans e' me) m' x
      | nx σ =>
        intro q ρ1 H1 σV e1 m1 en
        obtain ⟨ap, hx1, hd1⟩ := st.apart ne m hx hd e1
        have m2 := m1.cut ap
        have e2 := e1.cut hx hd
        simp only at q
        split at q
        · rename_i rest
          have h0 : σV[0]? = some (some (.ref x)) := en.2.1 _ rfl rfl
          refine ⟨ρ1, _, S1, x, dx, _, _, [], cutH H1 x dx, (slo_cut hx1 hd1).symm, ne, cut_x, cut_dx, st, rfl, h0, m2, en.cut ap, ?_⟩
          have q := Run.shift (S1 := S1) e2 m2 q
          unfold Run
          simp only at q ⊢
          cases z : evs F.cal es (none :: rest) S1 with
          | bad => rw [z] at q; exact q
          | exc c' p' S2 => rw [z] at q; exact q
          | ok ds2 S2 =>
            rw [z] at q
            intro ρ3 H3 us3 e3 m3 r3 hx3 hd3
            obtain ⟨xe3, me3⟩ := ext_slo (o1 := .xd []) (o2 := SlO x (F.T c) dx (us3.map some)) m3 hx3 hd3 ne
            obtain ⟨m4, r4⟩ := made_ok (c := c) m3 hx3 hd3 ne r3
            exact hQ _ (q _ _ _ (((e3.trans xe3 m3).know cut_x).know cut_dx) m4 r4)
        · exact q.elim
/-! ### C(..) -/
theorem run_mk {CX : CXT} {k : Nat} {f C : Addr} {fd : FuncData} {ps ks : List Str} {sp : Sp} {pins : List (Addr × Obj)} {σ : L2.St} {H : Hp} {s : Shared} {Q : VK} {E : XK} {us ws : List Value} {g : Value → List Value} {gV : V → List V} (M : Mk X.K C f) (F : FnOk X.prog X.w X.K X.mg X.base CX k f fd ps sp)
    (hr : Room (k + 1) X.A) (hx : PassesAt CX X σ E) (I : Inv X pins σ H s) (hb : ∀ (s : Shared) (u : Value), X.K.In s.heap → BindsTo s fd ⟨u :: us, ks.zip ws⟩ (ps.zip (g u))) (hg : ∀ (v : V) (u : Value), RelV v u → Vals (gV v) (g u))
    (h : ∀ x dx, H x = none → H dx = none → dx ≠ x → sp (gV (.ref x)) (upd (upd H dx (.own x)) x (.ins C dx [])) (fun v H2 => v = .non ∧ Q (.ref x) H2) E) :
    wpAny (model X.prog X.w) X.A (call (.ref C) us (ks.zip ws)) (EP X pins σ Q) X.xe s := by
  have J := Inv.made (C := C) I
  have hN : s.heap.objs.size ≠ s.heap.objs.size + 1 := by omega
  have goal := h (s.heap.objs.size + 1) s.heap.objs.size (I.hok.fresh (by omega)) (I.hok.fresh (by omega)) hN
  have run := F.run _ X.stack _ _ ⟨Value.ref (s.heap.objs.size + 1) :: us, ks.zip ws⟩ (g (Value.ref (s.heap.objs.size + 1))) _ _ E (hr.make C us (ks.zip ws)) (J.env0.make C us (ks.zip ws)) (hb _ _ J.kIn) (hg (.ref (s.heap.objs.size + 1)) _ rfl) goal
  refine wpAny_call (make_map (f := f) I.kIn M.makes M.init (beq_iff_eq.mp M.fn) (codeAny_mono run ?_))
  rintro (e | fl) s' z
  · exact hx pins _ _ e s' J z
  · cases fl with
    | ret u =>
      obtain ⟨v, H', I', rv, rfl, z⟩ := J.after z
      exact ⟨rv, .ref (s.heap.objs.size + 1), H', I', rfl, z⟩
    | _ => exact z.elim
/-- what a caller knows of a class -/
structure MkF (X : Cx) (F : Fx) (k : Nat) (x : Str) (c j : Nat) (dfl : List D) : Prop where
  ex : ∃ (f : Addr) (fd : FuncData) (ps : List Str) (ds : List Value) (dvs : List V), X.mg x = some (.ref (F.T c)) ∧ Mk X.K (F.T c) f ∧ FnOk X.prog X.w X.K X.mg X.base (CX X.prog X.w) k f fd ps (spI X.K F.T F.Z c (F.cal j)) ∧ Binds X.K fd ps ds ∧ Vals dvs ds ∧ Fixeds X.K F.T dfl dvs
/-- .. with keywords, given behind the other arguments -/
structure MkK (X : Cx) (F : Fx) (k : Nat) (x : Str) (n : Nat) (ks : List Str) (c j : Nat) : Prop where
  ex : ∃ (f : Addr) (fd : FuncData) (ps : List Str), X.mg x = some (.ref (F.T c)) ∧ Mk X.K (F.T c) f ∧ FnOk X.prog X.w X.K X.mg X.base (CX X.prog X.w) k f fd ps (spI X.K F.T F.Z c (F.cal j)) ∧ KBn X.K fd ps (n + 1) ks (fun us ws => us ++ ws) (fun vs zs => vs ++ zs)
theorem make_of {c f j n : Nat} {xs : XEs} {dfl : List D} {dvs : List V} (hpl : xs.plain = true) (hd : Fixeds X.K F.T dfl dvs) {σ : L2.St} {H : Hp} {Q : VK} (h : tE X F W (.make c f n xs (planOf xs.len dfl)) σ H Q) (hj : F.cal f = F.cal j) :
    tAs X F W xs σ H fun vs H1 => vs.length = xs.len ∧ ∀ x dx, H1 x = none → H1 dx = none → dx ≠ x → spI X.K F.T F.Z c (F.cal j) (.ref x :: (vs ++ dvs)) (upd (upd H1 dx (.own x)) x (.ins (F.T c) dx [])) (fun v H2 => v = .non ∧ Q (.ref x) H2) (fun cls d H => W cls d σ H) := by
  refine Go.mono (Go.bind (rA := RDs X.K F.T) h) fun vs H1 q => ?_
  obtain ⟨ρ, s, ds, S, S0, o, m, e, r, q⟩ := q
  refine ⟨by rw [← r.length]; exact evs_len hpl o, fun x dx hx hdx ne => ?_⟩
  rw [← evs_len hpl o, planned_plan] at q
  rw [← hj]
  exact ⟨x, dx, _, ρ, ds ++ dfl, S, H1, Q, rfl, rfl, ne, hx, hdx, m, r.append hd.rd, q, fun H' z => ⟨rfl, z⟩⟩
theorem sE_make {k c j n : Nat} {x : Str} {e : Expr} {es : List Expr} {xs : XEs} {dfl : List D} {p pos : Pos} (G : MkF X F k x c j dfl) (hr : Room (k + 1) X.A) (hg : Gl X x) (hx : Psv X W) (ha : PA X (e :: es) (tAs X F W xs)) (hdb : (x == ("__debug__" : Str)) = false)
    (he : starEach (e :: es) X.env = (false, eval e X.env) :: starEach es X.env) (hpl : (backTo pos (starEach es X.env)).any (·.1) = false) (hxp : xs.plain = true) : PE X (.Call (.Name x p) (e :: es) [] pos) (tE X F W (.make c j n xs (planOf xs.len dfl))) := by
  obtain ⟨f, fd, ps, ds, dvs, h1, h2, h3, h4, h5, h6⟩ := G.ex
  refine ⟨fun pins s σ H Q I q => wpAny_Call_Name_kw (ld_glob I hg h1 ?_ hdb)⟩
  refine PySem.W.callWith_K (h₀ := X.base) I.ok.mod.kin h2.kp (thn (ha.run pos pins s σ H _ I (make_of hxp h6 q rfl)) ?_) he hpl
  rintro us s1 ⟨vs, H1, I1, r, hl, z⟩
  refine ⟨I1.kIn, ?_⟩
  have hlen : ∀ u : Value, ((u :: us) ++ ds).length = ps.length := fun u => by
    have n1 : s1.heap.objs.size ≠ s1.heap.objs.size + 1 := by omega
    have q0 := z (s1.heap.objs.size + 1) s1.heap.objs.size (I1.hok.fresh (Nat.le_succ _)) (I1.hok.fresh (Nat.le_refl _)) n1
    have := h3.len _ _ _ _ q0
    rw [← this]
    simp only [List.length_cons, List.length_append]
    rw [r.length, h5.length]
    omega
  exact run_mk (ks := []) (ws := []) (g := fun u => (u :: us) ++ ds) (gV := fun v => v :: (vs ++ dvs)) h2 h3 hr (hx σ) I1 (fun s u hK => h4 s (u :: us) hK (hlen u)) (fun v u rv => .cons rv (r.append h5)) z
end
end Lk
end

section
/-! F6: C(.., k = e, ..). -/
set_option Elab.async false
set_option linter.all false
set_option maxRecDepth 100000
set_option maxHeartbeats 2000000
namespace Lk
open PySem PySem.Spec PyProof.Rows L2 SlX
def XEs.app : XEs → XEs → XEs
  | .nil, ys => ys
  | .cons x xs, ys => .cons x (xs.app ys)
  | .star x xs, ys => .star x (xs.app ys)
section
variable {X : Cx} {F : Fx} {W : WX} {K : PySem.W.Frag} {T : Ty} {Z : Xs} {ρ ρ' : Pm} {H H' : Hp} {S S' : Store} {n : Nat} {x dx : Addr}
theorem XEs.len_app : ∀ (xs ys : XEs), (xs.app ys).len = xs.len + ys.len
  | .nil, ys => by simp [XEs.app, XEs.len]
  | .cons _ xs, ys => by simp [XEs.app, XEs.len, XEs.len_app xs ys]; omega
  | .star _ xs, ys => by simp [XEs.app, XEs.len, XEs.len_app xs ys]
theorem XEs.plain_app : ∀ (xs ys : XEs), (xs.app ys).plain = (xs.plain && ys.plain)
  | .nil, ys => by simp [XEs.app, XEs.plain]
  | .cons _ xs, ys => by simp [XEs.app, XEs.plain, XEs.plain_app xs ys]
  | .star _ xs, ys => by simp [XEs.app, XEs.plain]
theorem evs_app {cal : Nat → List D → M D} : ∀ (xs ys : XEs) (σ : Env), xs.plain = true → evs cal (xs.app ys) σ = M.bind (evs cal xs σ) fun as => M.bind (evs cal ys σ) fun bs => M.pure (as ++ bs)
  | .nil, ys, σ, _ => by
    funext S
    show evs cal ys σ S = M.bind (evs cal ys σ) (fun bs => M.pure ([] ++ bs)) S
    unfold M.bind
    cases evs cal ys σ S <;> rfl
  | .star _ _, _, _, hp => by cases hp
  | .cons x xs, ys, σ, hp => by
    show M.bind (ev cal x σ) (fun a => M.bind (evs cal (xs.app ys) σ) fun as => M.pure (a :: as)) = M.bind (M.bind (ev cal x σ) fun a => M.bind (evs cal xs σ) fun as => M.pure (a :: as)) _
    rw [evs_app xs ys σ (show xs.plain = true from hp)]
    funext S
    simp only [M.bind, M.pure]
    cases ev cal x σ S with
    | ok a S1 =>
      simp only
      cases evs cal xs σ S1 with
      | ok as S2 =>
        simp only
        cases evs cal ys σ S2 <;> rfl
      | exc c p S2 => rfl
      | bad => rfl
    | exc c p S1 => rfl
    | bad => rfl
theorem tAs_app {xs ys : XEs} {σ : L2.St} {H : Hp} {Q : List V → Hp → Prop} (hp : xs.plain = true) (hp2 : ys.plain = true) (h : tAs X F W (xs.app ys) σ H Q) : tAs X F W xs σ H fun vs H1 => tAs X F W ys σ H1 fun zs H2 => vs.length = xs.len ∧ zs.length = ys.len ∧ Q (vs ++ zs) H2 := by
  have h : Go X F W (RDs X.K F.T) (fun s => M.bind (evs F.cal xs s) fun as => M.bind (evs F.cal ys s) fun bs => M.pure (as ++ bs)) σ H Q := by
    obtain ⟨ρ, s, S, m, e, r⟩ := h
    rw [evs_app _ _ _ hp] at r
    exact ⟨ρ, s, S, m, e, r⟩
  refine Go.mono (Go.bind (rA := RDs X.K F.T) h) fun vs H1 q => ?_
  obtain ⟨ρ, s, as, S, S0, o, m, e, r, q⟩ := q
  refine ⟨ρ, s, S, m, e, (Run.bind (rA := RDs X.K F.T) q).mono ?_⟩
  rintro zs H2 ⟨ρ2, bs, S2, o2, x2, m2, r2, q2⟩
  exact ⟨by rw [← r.length]; exact evs_len hp o, by rw [← r2.length]; exact evs_len hp2 o2, q2 ρ2 H2 _ .refl m2 ((r.mono m x2).append r2)⟩
/-- the keywords' values -/
theorem sK_nil : PK X [] (tAs X F W .nil) := ⟨fun pos pins s σ H Q I h => pk_nil.run pos pins s σ H Q I (by
  obtain ⟨ρ, s, S, m, e, r⟩ := h
  exact Run.here (a := []) (v := []) m r .nil)⟩
theorem sK_cons {nm : Option Str} {e : Expr} {p : Pos} {ks : List Keyword} {x : XE} {xs : XEs} (he : PE X e (tE X F W x)) (hr : PK X ks (tAs X F W xs)) : PK X (⟨nm, e, p⟩ :: ks) (tAs X F W (.cons x xs)) :=
  ⟨fun pos pins s σ H Q I h => (pk_cons he hr).run pos pins s σ H Q I (by
    refine Go.mono (Go.bind (rA := rdR X F) h) fun v H1 q => ?_
    obtain ⟨ρ1, s1, a, S1, _, _, m1, e1, r1, q1⟩ := q
    refine ⟨ρ1, s1, S1, m1, e1, (Run.bind (rA := RDs X.K F.T) q1).mono ?_⟩
    rintro vs H2 ⟨ρ2, as, S2, _, x2, m2, r2, q2⟩
    exact Run.here (a := a :: as) m2 q2 (RDs.cons (r1.mono m1 x2) r2))⟩
/-- the names that are given -/
def kwNames : List Keyword → Option (List Str)
  | [] => some []
  | k :: ks => match k.arg, kwNames ks with
    | some n, some ns => some (n :: ns)
    | _, _ => none
theorem kw_ok {env : PySem.Env} {pos : Pos} : ∀ {ks : List Keyword} {ns : List Str}, kwNames ks = some ns → (backToKw pos (keywordEach ks env)).all (·.1.isSome) = true ∧ (backToKw pos (keywordEach ks env)).filterMap (·.1) = ns ∧ (backToKw pos (keywordEach ks env)).any (·.1.isNone) = false ∧ ns.length = ks.length
  | [], _, h => by cases h; exact ⟨rfl, rfl, rfl, rfl⟩
  | ⟨a, v, p⟩ :: ks, ns, h => by
    unfold kwNames at h
    split at h
    · rename_i n ns' h1 h2
      cases h
      obtain ⟨g1, g2, g3, g4⟩ := kw_ok (env := env) (pos := pos) h2
      cases (show a = some n from h1)
      refine ⟨?_, ?_, ?_, by simp [g4]⟩
      · show (true && _) = true
        rw [Bool.true_and]; exact g1
      · show n :: List.filterMap _ (backToKw pos (keywordEach ks env)) = n :: ns'
        rw [g2]
      · show (false || _) = false
        rw [Bool.false_or]; exact g3
    · cases h
theorem sE_makeK {k c j n n' : Nat} {x : Str} {e : Expr} {es : List Expr} {kws : List Keyword} {ks : List Str} {xs ys : XEs} {p pos : Pos} (G : MkK X F k x n ks c j) (hn : xs.len = n) (hk : ys.len = ks.length) (hr : Room (k + 1) X.A) (hg : Gl X x) (hx : Psv X W) (ha : PA X (e :: es) (tAs X F W xs)) (hkw : PK X kws (tAs X F W ys)) (hks : kwNames kws = some ks)
    (hdb : (x == ("__debug__" : Str)) = false) (he : starEach (e :: es) X.env = (false, eval e X.env) :: starEach es X.env) (hpl : (backTo pos (starEach (e :: es) X.env)).any (·.1) = false) (hp1 : xs.plain = true) (hp2 : ys.plain = true) : PE X (.Call (.Name x p) (e :: es) kws pos) (tE X F W (.make c j n' (xs.app ys) (planOf (xs.app ys).len []))) := by
  obtain ⟨f, fd, ps, h1, h2, h3, h4⟩ := G.ex
  obtain ⟨g1, g2, g3, g4⟩ := kw_ok (env := X.env) (pos := pos) hks
  refine ⟨fun pins s σ H Q I q => wpAny_Call_Name_kw (ld_glob I hg h1 ?_ hdb)⟩
  have q := tAs_app hp1 hp2 (make_of (dvs := []) (by rw [XEs.plain_app, hp1, hp2]; rfl) .nil q rfl)
  refine PySem.W.callWith_KW (h₀ := X.base) I.ok.mod.kin h2.kp g1 (thn (ha.run pos pins s σ H _ I q) ?_) (by rw [hpl, g3]; rfl) he
  rintro us s1 ⟨vs, H1, I1, r, z⟩
  refine thn (hkw.run pos pins s1 σ H1 _ I1 z) ?_
  rintro ws s2 ⟨zs, H2, I2, rz, l1, l2, l3, z⟩
  refine ⟨I2.kIn, ?_⟩
  rw [g2]
  refine run_mk (ks := ks) (ws := ws) (g := fun u => (u :: us) ++ ws) (gV := fun v => v :: (vs ++ zs ++ [])) h2 h3 hr (hx σ) I2 (fun s u hK => h4.to s (u :: us) ws hK (by rw [List.length_cons, ← r.length, l1, hn]) (by rw [← rz.length, l2, hk])) (fun v u rv => .cons rv (by rw [List.append_nil]; exact r.append rz)) z
end
end Lk
end

section
/-! F7: raise. -/
set_option Elab.async false
set_option linter.all false
set_option maxRecDepth 100000
set_option maxHeartbeats 2000000
namespace Lk
open PySem PySem.Spec PyProof.Rows L2 SlX
/-- what is known of an own error without fields -/
structure ErrF (X : Cx) (F : Fx) (x : Str) (c : Nat) : Prop where
  ex : ∃ (bmB : List Value) (B newId initId : String), ExcBaseFacts B newId initId bmB ∧ PySem.W.excIn X.K (F.Z.adr c) bmB newId = true
  gl : X.mg x = some (.ref (F.Z.adr c))
  kp : PySem.W.keepIn X.K (.ref (F.Z.adr c)) = true
  rs : Raises X (.ref (F.Z.adr c))
  nf : F.Z.fld c = none
section
variable {X : Cx} {F : Fx} {W : WX}
theorem sS_raise {x m : Str} {c j : Nat} {p p2 pc pos : Pos} (hc : X.calm = true) (tk : Takes X W) (E : ErrF X F x c) (hg : Gl X x) (hdb : (x == ("__debug__" : Str)) = false) : SS X F W (.Raise (some (.Call (.Name x p) [.Constant (.str m) j p2] [] pc)) none pos) (.raise c .nil) := by
  obtain ⟨bmB, B, newId, initId, h1, h2⟩ := E.ex
  refine PSw (ps_raise hc tk (pmk_own h1 h2 E.gl E.kp E.rs hg hdb)) fun D σ H h => ?_
  obtain ⟨ρ, s, S, m, e, r⟩ := h
  refine r ρ H σ _ _ .refl m e ⟨rfl, ?_⟩
  rw [E.nf]
end
end Lk
end

section
/-! F8: try .. except. -/
set_option Elab.async false
set_option linter.all false
set_option maxRecDepth 100000
set_option maxHeartbeats 2000000
namespace Lk
open PySem PySem.Spec PyProof.Rows L2 SlX
section
variable {X : Cx} {F : Fx} {W : WX} {K : PySem.W.Frag} {T : Ty} {Z : Xs} {Y : Option Slf} {ρ : Pm} {H : Hp} {S : Store}
/-- a suite that raises nothing -/
theorem RunS.quiet {m : M Flow} {D : Ends} (h : RunS K T Y Z W ρ H (M.bind m (fun f => match f with
      | .xc _ _ _ => M.bad
      | f => M.pure f) S) D) : RunS K T Y Z W0 ρ H (m S) D := by
  unfold M.bind at h
  revert h
  cases m S with
  | bad => exact fun h => h
  | exc c p S1 => exact fun h => h
  | ok f S1 =>
    cases f with
    | xc c p σ => exact fun h => h.elim
    | nx σ => exact fun h => h
    | bk σ => exact fun h => h
    | ct σ => exact fun h => h
    | rt d => exact fun h => h
/-- the try's body, by what is wanted of its errors -/
theorem RunS.try {m : M Flow} {k : Nat → List D → Env → M Flow} {D : Ends} {W' : WX} (h : RunS K T Y Z W ρ H (M.bind m (fun f => match f with
      | .xc c p σ2 => k c p σ2
      | f => M.pure f) S) D)
    (hw : ∀ c p σ2 S2 ρ' H' σV cls d, Ext ρ H ρ' H' → RS K T ρ' S2 H' → EnvR K T Y ρ' H' σ2 σV → XR K T Z ρ' H' c p cls d → RunS K T Y Z W ρ' H' (k c p σ2 S2) D → W' cls d σV H') : RunS K T Y Z W' ρ H (m S) D := by
  unfold M.bind at h
  revert h
  cases m S with
  | bad => exact fun h => h
  | exc c p S1 => exact fun h => h
  | ok f S1 =>
    cases f with
    | xc c p σ => exact fun h ρ' H' σV cls d e' m' en x => hw c p σ S1 ρ' H' σV cls d e' m' en x (RunS.shift e' m' h)
    | nx σ => exact fun h => h
    | bk σ => exact fun h => h
    | ct σ => exact fun h => h
    | rt d => exact fun h => h
theorem sS_try {x : Str} {C : Value} {yes no : List Nat} {body suite : List Stmt} {b₀ : Stmt} {xb xs : XSs} {np pos pos' : Pos} (hs : X.stack = X.env :: X.outer) (hf : X.env.frame = some X.env.locals) (hc : Names X x C) (tk : Takes X W)
    (hy : ∀ c, yes.contains c = true → PySem.W.exmOne X.K (.ref (F.Z.adr c)) C = some true) (hn : ∀ c, no.contains c = true → PySem.W.exmOne X.K (.ref (F.Z.adr c)) C = some false)
    (hb : ∀ (W' : WX) (pn : List (Addr × Obj)) (xe : Value → Shared → Prop), Takes (X.tr pn xe) W' → PassesOwn (model X.prog X.w) X.A X.env xe → SSs (X.tr pn xe) F W' body xb)
    (hsu : ∀ (a : Addr) (oe : Obj) (pn : List (Addr × Obj)), SSs (X.suite a ((a, oe) :: pn)) F W0 (b₀ :: suite) xs) :
    SS X F W (.Try body [.ExceptHandler (some (.Name x np)) none (b₀ :: suite) pos'] [] [] pos) (.tryy xb (.cons yes no xs .nil)) := by
  refine PSw (ps_try_only (tb := fun W' => tS X F W' (exs F.cal xb)) (ts := fun _ _ _ => tS X F W0 (exs F.cal xs)) hs hf hc tk hb fun a oe cls d pn _ _ => hsu a oe pn) fun D σV H h => ?_
  obtain ⟨ρ, s, S, m, e, r⟩ := h
  refine ⟨ρ, s, S, m, e, RunS.try (k := hnd F.cal (.cons yes no xs .nil)) r ?_⟩
  intro c p σ2 S2 ρ' H' σV' cls d e' m' en x q
  have hcls : cls = .ref (F.Z.adr c) := x.1
  unfold hnd at q
  cases h1 : yes.contains c with
  | true =>
    rw [h1] at q
    exact ⟨true, by rw [hcls]; exact hy c h1, fun _ a _ => ⟨ρ', σ2, S2, m', en, RunS.quiet q⟩, fun z => nomatch z⟩
  | false =>
    cases h2 : no.contains c with
    | false => rw [h1, h2] at q; exact q.elim
    | true =>
      rw [h1, h2] at q
      exact ⟨false, by rw [hcls]; exact hn c h2, (fun z => nomatch z), fun _ => q ρ' H' σV' cls d .refl m' en x⟩
/-- except X as n: return n.f -/
theorem sS_tryF {x n f : Str} {c i : Nat} {no : List Nat} {body : List Stmt} {xb : XSs} {np pos pos' pn pa pr : Pos} (hs : X.stack = X.env :: X.outer) (hf : X.env.frame = some X.env.locals) (hN : X.N.Nodup) (hi : X.N[i]? = some n) (hln : X.env.scope.names.lookup n = some .local) (hc : Names X x (.ref (F.Z.adr c))) (tk : Takes X W)
    (hy : PySem.W.exmOne X.K (.ref (F.Z.adr c)) (.ref (F.Z.adr c)) = some true) (hn : ∀ e, no.contains e = true → PySem.W.exmOne X.K (.ref (F.Z.adr e)) (.ref (F.Z.adr c)) = some false)
    (xf : XfC X.K (F.Z.adr c)) (hno : PySem.W.findIn X.K (.ref (F.Z.adr c)) f = some none) (hfl : F.Z.fld c = some f) (hd1 : (n == ("__debug__" : Str)) = false) (hd2 : (n == ("__classdict__" : Str)) = false)
    (hb : ∀ (W' : WX) (pn : List (Addr × Obj)) (xe : Value → Shared → Prop), Takes (X.tr pn xe) W' → PassesOwn (model X.prog X.w) X.A X.env xe → SSs (X.tr pn xe) F W' body xb) :
    SS X F W (.Try body [.ExceptHandler (some (.Name x np)) (some n) [.Return (some (.Attribute (.Name n pn) f pa)) pr] pos'] [] [] pos) (.tryy xb (.fld c i no .nil)) := by
  refine PSl (ps_try_as (i := i) (tb := fun W' => tS X F W' (exs F.cal xb)) (ts := fun a cls d => fun D σ H => tXf a cls d (F.Z.adr c) f (tVar i) σ H D.rt) hs hf hN hi hln hc tk hb fun a oe cls d pn' hz hv =>
    PSsw (pss_cons (ps_ret (pe_xf xf hno hz hv (pe_var hi (.inl hln) hd1 hd2) rfl)) pss_nil) fun D σ H h => h) fun D σV H hl h => ?_
  obtain ⟨ρ, s, S, m, e, r⟩ := h
  refine ⟨ρ, s, S, m, e, RunS.try (k := hnd F.cal (.fld c i no .nil)) r ?_⟩
  intro c' p σ2 S2 ρ' H' σV' cls d e' m' en x q
  have hcls : cls = .ref (F.Z.adr c') := x.1
  unfold hnd at q
  cases h1 : decide (c' = c ∧ i < σ2.length) with
  | true =>
    rw [h1] at q
    obtain ⟨h1, h3⟩ := of_decide_eq_true h1
    subst h1
    have x2 := x.2
    rw [hfl] at x2
    match p, x2, q with
    | [x0], x2, q =>
      obtain ⟨dd, v, hd, hH, rv⟩ := x2
      exact ⟨true, by rw [hcls]; exact hy, fun _ a _ => ⟨.ref a, by rw [List.getElem?_set_self (by rw [en.1]; exact h3)], rfl, hcls, dd, _, v, hd, hH, by simp, q ρ' H' v .refl m' rv⟩, fun z => nomatch z⟩
    | [], x2, q => exact x2.elim
    | _ :: _ :: _, x2, q => exact x2.elim
  | false =>
    cases h2 : no.contains c' with
    | false => rw [h1, h2] at q; exact q.elim
    | true =>
      rw [h1, h2] at q
      exact ⟨false, by rw [hcls]; exact hn c' h2, (fun z => nomatch z), fun _ => q ρ' H' σV' cls d .refl m' en x⟩
end
end Lk
end

section
/-! F9: an own error whose __init__ says super().__init__(text) and sets one field. -/
set_option Elab.async false
set_option linter.all false
set_option maxRecDepth 100000
set_option maxHeartbeats 2000000
namespace Lk
open PySem PySem.Spec PyProof.Rows L2 SlX
theorem wpAt_mcall {M : Model} {A : Around} {c : Code} {env : PySem.Env} {E : Value → Shared → Prop} {s : Shared} {o : Expr} {name : Str} {apos pos : Pos} {args : List Expr} {Q : Value → Shared → Prop} (hline : (apos.endLine == pos.line) = true)
    (hform : methodCallForm (args.length + ([] : List Keyword).length) (backTo pos (starEach args env)) (backToKw pos (keywordEach [] env)) = true)
    (h : PySem.wpAt M A c (attributeBase o name env (eval o env)) (fun ov s₁ => wpAny M A (calleeOf true o env ov name) (fun fx s₂ => wpAny M A (callWith pos fx.1 fx.2 (backTo pos (starEach args env)) []) Q E s₂) E s₁) E s) :
    PySem.wpAt M A c (eval (.Call (.Attribute o name apos) args [] pos) env) Q E s := by
  rw [arm_eval_Call]
  refine PySem.wpAt_bind (PySem.wpAt_mono h (fun ov s₁ h₁ => PySem.wpAt_of_wpAny (wpAny_bind (wpAny_standAt ?_))) fun _ _ x => x)
  have hpos : methodCallPos true o env apos pos = pure pos := by unfold methodCallPos; simp [hline]
  unfold methodCall
  rw [hform]
  refine wpAny_bind (wpAny_holding (wpAny_mono h₁ (fun fx s₂ h₂ => ?_) fun _ _ x => x))
  exact wpAny_bind (wpAny_of_eq hpos h₂)
/-- the def's body -/
def supBody (tx fl par : Str) (j : Nat) (p0 p1 p2 p3 p4 p5 p6 p7 p8 p9 : Pos) : List Stmt :=
  [.Expr (.Call (.Attribute (.Call (.Name "super" p0) [] [] p1) "__init__" p2) [.Constant (.str tx) j p3] [] p4) p5, .Assign [.Attribute (.Name "self" p6) fl p7] (.Name par p8) p9]
/-- what the written part says of it; C: the class -/
structure SupF (P : Program) (K : PySem.W.Frag) (mg : Str → Option Value) (C f : Addr) (fl par : Str) (fd : FuncData) : Prop where
  ex : ∃ (name qual : Str) (params : Arguments) (scope : Scope) (dV kV doc pm ct oc ccl cl : Value) (an od cdd cld : Option Addr) (osl ccs csl : Array (Option Value)) (cda cc : Addr) (vs : Array Value) (file : Str) (tf : Tok) (ar : Arg) (tx : Str) (j : Nat) (p0 p1 p2 p3 p4 p5 p6 p7 p8 p9 : Pos),
    fd = PySem.W.ksFn name qual params (supBody tx fl par j p0 p1 p2 p3 p4 p5 p6 p7 p8 p9) scope dV kV doc pm an (.ref cda) ct cc ∧
    (p2.endLine == p4.line) = true ∧ K.lookup f = some ⟨oc, od, .func fd, osl⟩ ∧ PySem.W.codeIn K (.ref cda) qual = true ∧
    (params.posonlyargs ++ params.args).head? = some ar ∧ ar.arg = "self" ∧
    K.lookup cda = some ⟨ccl, cdd, .fields vs, ccs⟩ ∧ vs[2]? = some (.str file tf) ∧ ((P.main.file : Str) == file) = true ∧
    K.lookup cc = some ⟨cl, cld, .cell (some (.ref C)), csl⟩ ∧
    scope.names.lookup ("super" : Str) = some .globalImplicit ∧ scope.names.lookup ("__class__" : Str) = some .free ∧ scope.names.lookup ("self" : Str) = some .local ∧ scope.names.lookup par = some .local ∧
    (∀ x ∈ scope.names, x.2 ≠ .cell) ∧ scope.isCoroutine = false ∧ scope.isGenerator = false ∧ scope.kind = .function
  oex : OexC K C
  np : par ≠ "self"
  npd : (par == ("__debug__" : Str)) = false
  sub : PySem.W.mroIn K C (.ref C) = some true
  top : (P.main.scope.names.lookup ("super" : Str)).isSome = false
  sup : mg "super" = none
  sin : PySem.W.ks_superIn K C C "__init__" = some (some (.builtin "ValueError.__init__"))
  sve : PySem.W.subIn K (.ref C) (.type "ValueError") = some true
  opq : PySem.W.nsIn K cStatics "thirdparty.any" = some none
  fno : PySem.W.findIn K (.ref C) fl = some none
/-- what it promises -/
def spX (C : Addr) (fl : Str) : Sp := fun vs H Q _ => ∃ (a : Addr) (y : V), vs = [.ref a, y] ∧ H a = some (exo a C none) ∧ ∀ dx, H dx = none → dx ≠ a → Q .non (upd (upd H dx (exd dx [(fl, y)])) a (exo a C (some dx)))
theorem fn_sup {P : Program} {w : World} {K : PySem.W.Frag} {mg : Str → Option Value} {base : Heap} {CX : CXT} {k : Nat} {C f : Addr} {fl par : Str} {fd : FuncData} (U : SupF P K mg C f fl par fd) : FnOk P w K mg base CX (k + 1) f fd ["self", par] (spX C fl) := by
  obtain ⟨name, qual, params, scope, dV, kV, doc, pm, ct, oc, ccl, cl, an, od, cdd, cld, osl, ccs, csl, cda, cc, vs, file, tf, ar, tx, j, p0, p1, p2, p3, p4, p5, p6, p7, p8, p9, rfl, hline, lk, hcd, hp, har, hcode, hvs, hfile, hcell, ks, kc, kself, kpar, nocell, hco, hgen, hk⟩ := U.ex
  refine ⟨?_, fun A outer s H args us vs' Q E hr e0 hb r hsp => ?_⟩
  · rintro vs H Q E ⟨a, y, rfl, _⟩; rfl
  obtain ⟨a, y, rfl, ea, hQ⟩ := hsp
  match us, r with
  | [_, u], .cons ra (.cons ry .nil) =>
  cases (show _ = Value.ref a from ra)
  have KX : K.In s.heap := e0.mod.kin.keeps fun b o e => (e0.bs b o e).1
  have lim : s.heap.NoLimit := e0.mod.nolimit.keeps fun b o e => (e0.bs b o e).1
  obtain ⟨t1, ho⟩ := exo_at e0.hok ea
  obtain ⟨nm, q, N, bs, bm, sn, sub, ab, col, dd, k0, k1, k2, k3, k5, hC, hbm⟩ := U.oex.cls
  have hcl : PySem.W.clsIn K C = some { name := nm, bases := bs, mro := .ref C :: bm, ns := N, qualname := q, hasDict := true, slotNames := sn, subclasses := sub, abstract := ab, collection := col, hasDel := false } := by unfold PySem.W.clsIn; rw [hC] <;> rfl
  obtain ⟨hh, g, d, t, os⟩ := s
  have up : ∀ b o, b ≠ a → hh.get? b = some o → hh.get? b = some o := fun _ _ _ e => e
  refine PySem.ks_codeAny_call_defAt (binds := (["self", par] : List Str).zip [Value.ref a, u]) hr.depth (KX _ _ lk) rfl lim (PySem.W.codeRec_of KX hcd) rfl hb nocell ?_ ?_ hco hgen hk
  · intro x hx
    simp only [List.zip_cons_cons, List.zip_nil_right, List.mem_cons, List.not_mem_nil, or_false] at hx
    rcases hx with rfl | rfl
    · exact kself
    · exact kpar
  intro h₀ hns hk₀
  have X0 : K.In h₀ := KX.keeps hk₀
  have hoe : h₀.get? a = some (PySem.HandSPX.excO C t1) := hk₀ _ _ ho
  obtain ⟨oL, es, ep, hL, hLr⟩ := hns
  have haL : hh.objs.size ≠ a := fun z => absurd (Heap.lt_size ho) (by rw [← z]; exact Nat.lt_irrefl _)
  have hv1 : (((["self", par] : List Str).zip [Value.ref a, u]).reverse.lookup ("self" : Str)) = some (.ref a) := by
    have n1 : (("self" : Str) == par) = false := by simpa using fun z => U.np z.symm
    simp [List.lookup, n1]
  have hv2 : (((["self", par] : List Str).zip [Value.ref a, u]).reverse.lookup par) = some u := by
    simp [List.lookup]
  have hCne : a ≠ C := fun z => by
    have := KX _ _ hC
    rw [← z] at this
    have e := ho.symm.trans this
    injection e with e
    cases e
  refine PySem.ks_wpAt_execs_cons (PySem.ks_wpAt_Expr_any (hi := by show (scope.kind == ScopeKind.module && _) = false; rw [hk]; rfl) (wpAt_mcall hline rfl ?_))
  refine PySem.ks_wpAt_super_base ks kc (by decide) rfl (X0 _ _ lk) rfl hp rfl (X0 _ _ hcode) rfl hvs hfile U.top ?_
  obtain ⟨mb, hb1, hb2⟩ := e0.mod.blt
  have kb : ∀ b o, base.get? b = some o → h₀.get? b = some o := fun b o e => hk₀ _ _ (e0.bs b o e).1
  refine PySem.W.ks_loadName_global hk ks (PySem.Calls.loadGlobal_builtin (e0.mod.glob.keeps kb) U.sup (hb1.keeps kb) ((hb2 "super" (by decide)).trans (by decide +kernel : bootBuiltins "super" = some (.type "super"))) ⟨rfl, ?_⟩)
  refine wpAny_loadName_free hk kc rfl ⟨_, X0 _ _ hcell, rfl⟩ ?_
  rw [har]
  refine wpAny_loadName_local hk kself ⟨oL, es, ep, hL, hLr⟩ hv1 ?_
  refine PySem.ks_wpAny_isType_cls (X0 _ _ hC) rfl ⟨rfl, ?_⟩
  refine PySem.ks_wpAny_call_super (X0 _ _ hC) rfl hoe rfl (fun c e => by cases e) (PySem.W.looks_mroIn X0 U.sub) (fun h1 e1 k1 => ?_)
  have X1 : K.In h1 := X0.keeps k1
  have hm : PySem.W.alongIn K "__init__" (((Value.ref C :: bm).dropWhile (· != .ref C)).drop 1) = some (some (.builtin "ValueError.__init__")) := by
    have := U.sin
    unfold PySem.W.ks_superIn at this
    rw [hcl] at this
    exact this
  have I1 : PySem.W.InstAt h1 a (PySem.HandSPX.excO C t1) C none := ⟨k1 _ _ hoe, rfl, rfl, trivial⟩
  refine PySem.W.kxs_getMethod PySem.W.kxs_ValueError e1 (PySem.W.looks_opaque X1 U.opq) (l₀ := .ref C :: bm) (fun A Q E s k q => wpAny_bind ((PySem.W.looks_clsIn X1 hcl) A _ E s k (wpAny_pure q))) rfl X1 hm (I1.type.andThen (PySem.W.looks_subIn X1 U.sve)) hCne rfl ?_
  show wpAny _ _ (callWith p4 (.ref h1.objs.size) [] ((false, eval (.Constant (.str tx) j p3) _) :: []) []) _ _ _
  refine PySem.W.kxs_callWith (i := "ValueError.__init__") (x := a) rfl (PySem.Calls.evalArgs_plain (PySem.Calls.spliced_cons (PySem.Calls.Constant_str (PySem.Calls.spliced_nil ⟨Heap.get?_push_size _ rfl, ?_⟩))))
  have hu2 : (h1.push (PySem.W.kxs_mw "ValueError.__init__" a)).get? h1.objs.size = some (PySem.W.kxs_mw "ValueError.__init__" a) := Heap.get?_push_size _ rfl
  have k2' : ∀ b o, h1.get? b = some o → (h1.push (PySem.W.kxs_mw "ValueError.__init__" a)).get? b = some o := fun b o e => Heap.get?_push_of_some _ e
  generalize (h1.push (PySem.W.kxs_mw "ValueError.__init__" a)) = h2 at hu2 k2' ⊢
  have X2 : K.In h2 := X1.keeps k2'
  have ho2 : h2.get? a = some (PySem.HandSPX.excO C t1) := k2' _ _ (k1 _ _ hoe)
  refine wpAny_call (codeAny_of_tree ?_)
  show wpAny _ (Around.in1 _) (callAny (.ref h1.objs.size) ⟨_, []⟩) _ _ _
  simp only [callAny]
  refine wpAny_bind (wpAny_load hu2 ?_)
  simp only [PySem.W.kxs_mw, show (Value.type "method-wrapper" == Value.type "method" || Value.type "method-wrapper" == Value.type "builtin_function_or_method" || Value.type "method-wrapper" == Value.type "method-wrapper") = true by decide, if_true]
  refine PySem.W.KFB.if_so (by decide) ?_
  refine wpAny_bind (PySem.W.check_bound_init F.excBase_ValueError.toExcCallFacts (X2 _ _ hC) ho2 rfl ?_)
  refine wpAny_bind (wpAny_pure (wpAny_pure ?_))
  refine ⟨plainId_quiet F.excBase_ValueError.init.plain _, codeAny_builtin F.excBase_ValueError.initEntry ?_⟩
  refine PySem.W.exc_init_tree (cls := .ref C) (t0 := t1) (dv := none) (c2 := .none) (c3 := .none) (b4 := .bool false) ho2 (by rw [sizeLine_eq]; show 1 ≤ 16777216; decide) fun h3 k3 e3 t3 => ?_
  show PySem.wpAt _ _ _ (execs [Stmt.Assign [.Attribute (.Name "self" p6) fl p7] (.Name par p8) p9] _) _ _ _
  have k3' : ∀ b o, b ≠ a → h₀.get? b = some o → h3.get? b = some o := fun b o hb e => k3 b o hb (k2' _ _ (k1 _ _ e))
  have X3 : K.In h3 := fun b o e => k3' b o (fun z => by
    have := KX _ _ e
    rw [z, ho] at this
    cases this
    have hca := e0.bs
    have e9 := e0.mod.kin _ _ e
    have := (e0.bs _ _ e9).2
    rw [z, ea] at this
    cases this) (X0 _ _ e)
  have hL3 : h3.get? hh.objs.size = some oL := k3' _ _ haL hL
  refine PySem.wpAt_of_wpAny (wpAny_execs_cons (plainObj_wpAny_Assign_Attribute (wpAny_Name (wpAny_loadName_local hk kpar ⟨oL, es, ep, hL3, hLr⟩ hv2 ?_) U.npd) rfl))
  refine wpAny_Name (wpAny_loadName_local hk kself ⟨oL, es, ep, hL3, hLr⟩ hv1 ?_) (by decide)
  refine PySem.W.set_plain X3 (ox := PySem.HandSPX.excO C _) (od := none) ⟨e3, rfl, rfl, trivial⟩ U.oex.sa ?_
  refine PySem.HandSPX.exc_osa X3 e3 hcl (show PySem.HandSPX.refsVE (.ref C :: bm) = true from hbm) rfl U.fno (fun h4 tk4 dx k4 dn dne hx hn => ?_)
  refine wpAny_execs_nil ?_
  have hsz : hh.objs.size ≤ dx := Nat.le_trans (Nat.le_of_lt (Heap.lt_size hL3)) dn
  have hnd : H dx = none := e0.hok.fresh hsz
  have kall : ∀ b o, b ≠ a → hh.get? b = some o → h4.get? b = some o := fun b o hb e => k4 b o hb (k3' b o hb (hk₀ _ _ e))
  have nd : ∀ {b : Addr} {o : Obj}, hh.get? b = some o → b ≠ dx := fun {b o} q => Nat.ne_of_lt (Nat.lt_of_lt_of_le (Heap.lt_size q) hsz)
  have na : ∀ {b : Addr}, H b = none → b ≠ a := fun {b} n z => by
    rw [z, ea] at n
    cases n
  have Un1 : Un (frs outer) [] H (upd (upd H dx (exd dx [(fl, y)])) a (exo a C (some dx))) hh h4 := {
    keep := fun b o q n _ _ => kall b o (na n) q
    slot := fun b o q n _ _ => ⟨o.slots, kall b o (na n) q⟩
    free := fun b o q n _ => by rw [upd_ne (na n), upd_ne (nd q)]; exact n
    there := fun b o q _ => by
      by_cases hb : b = a
      · exact ⟨_, by rw [hb]; exact hx⟩
      · exact ⟨o, kall b o hb q⟩
    tups := fun b xs q => by rw [upd_ne (at_ne ea q exo_tup), upd_ne (ne_of_none q hnd)]; exact q
    frzs := fun b o v q => by rw [upd_ne (at_ne ea q exo_frz), upd_ne (ne_of_none q hnd)]; exact q
    tbls := fun b ps q => ⟨#[], by rw [upd_ne (at_ne ea q exo_tbl), upd_ne (ne_of_none q hnd), q]; simp⟩ }
  refine ⟨.non, _, rfl, e0.bare, Un1, fun b o q => ?_, rfl, hQ dx hnd dne⟩
  by_cases hb : b = a
  · subst hb
    rw [upd_same] at q
    cases q
    exact exo_ok hx
  · rw [upd_ne hb] at q
    by_cases hd : b = dx
    · subst hd
      rw [upd_same] at q
      cases q
      exact exd_ok hn (relO_put (fs := []) ry fun g => True.intro)
    · rw [upd_ne hd] at q
      exact (e0.hok b o q).stay (fun c v hc z => kall c v (by
          rcases hc with hc | hc
          · rw [hc]
            exact hb
          · exact at_ne ea hc exo_own) z)
        (fun c hc => by rw [upd_ne (at_ne ea hc exo_own), upd_ne (ne_of_none hc hnd)]; exact hc) (fun c xs hc => by rw [upd_ne (at_ne ea hc exo_tup), upd_ne (ne_of_none hc hnd)]; exact hc)
end Lk
end

section
/-! F10: raise X(e) of an error with one field. -/
set_option Elab.async false
set_option linter.all false
set_option maxRecDepth 100000
set_option maxHeartbeats 2000000
namespace Lk
open PySem PySem.Spec PyProof.Rows L2 SlX
/-- what is known of an own error with a field -/
structure ErrI (X : Cx) (F : Fx) (x : Str) (c : Nat) : Prop where
  ex : ∃ (f : Addr) (fl par : Str) (fd : FuncData), SupF X.prog X.K X.mg (F.Z.adr c) f fl par fd ∧ PySem.W.findIn X.K (.ref (F.Z.adr c)) "__init__" = some (some (.ref f)) ∧ PySem.W.typeIn X.K (.ref f) = some (.type "function") ∧ Binds X.K fd ["self", par] [] ∧ F.Z.fld c = some fl
  gl : X.mg x = some (.ref (F.Z.adr c))
section
variable {X : Cx} {F : Fx} {W : WX}
theorem upd_del {H : Hp} {a d : Addr} {o1 o2 o3 o4 : HO} (ha : H a = none) (hda : d ≠ a) : upd (del (upd (upd (upd H a o4) d o1) a o2) a) d o3 = upd H d o3 := by
  funext b
  by_cases e : b = d
  · rw [e, upd_same, upd_same]
  · rw [upd_ne e, upd_ne e]
    by_cases e2 : b = a
    · rw [e2, del_same, ha]
    · rw [del_ne e2, upd_ne e2, upd_ne e, upd_ne e2]
theorem passes_no {Q : XK} : Passes (CX X.prog X.w) X (fun _ _ _ => False) := fun pins σ H s e s' I c => (no_cx c).elim
theorem sS_raiseF {x : Str} {c k : Nat} {e : Expr} {y : XE} {p pc pos : Pos} (hc : X.calm = true) (tk : Takes X W) (E : ErrI X F x c) (hr : Room (k + 1 + 1) X.A) (hg : Gl X x) (hdb : (x == ("__debug__" : Str)) = false) (he : PE X e (tE X F W y)) (hst : starEach [e] X.env = [(false, eval e X.env)]) :
    SS X F W (.Raise (some (.Call (.Name x p) [e] [] pc)) none pos) (.raise c (.cons y .nil)) := by
  obtain ⟨f, fl, par, fd, U, hi, ht, hb, hf⟩ := E.ex
  refine PSw (ps_raise hc tk (pmk_oex (CX := CX X.prog X.w) (k := k + 1) (dvs := []) (ds := []) U.oex hi ht (fn_sup U) hr hb .nil (passes_no (Q := fun _ _ _ => False)) hg E.gl (sA_cons he sA_nil hst) hdb hst rfl)) fun D σ H h => ?_
  obtain ⟨ρ, s, S, m, e0, r⟩ := h
  refine ⟨ρ, s, S, m, e0, ?_⟩
  have r : RunS X.K F.T F.Y F.Z W ρ H (M.at s (evs F.cal (.cons y .nil) s) (fun ds => M.pure (.xc c ds s)) S) D := r
  unfold M.at at r
  unfold Run
  cases z : evs F.cal (.cons y .nil) s S with
  | bad => rw [z] at r; exact r
  | exc c p S1 =>
    rw [z] at r
    exact fun ρ1 H1 cls d e1 m1 w => r ρ1 H1 σ cls d e1 m1 (e0.mono m e1) w
  | ok ds S1 =>
    rw [z] at r
    intro ρ1 H1 vs e1 m1 rs
    have hl := evs_len rfl z
    match ds, rs, r, hl with
    | [d1], .cons (v := v1) r1 .nil, r, _ =>
      refine ⟨by show 1 ≤ 1000; decide, fun a ha => ⟨a, v1, rfl, upd_same, fun dx hdx hne => ⟨rfl, dx, [(fl, v1)], upd_same, by rw [upd_ne hne, upd_same], by rw [upd_ne hne] at hdx; exact hdx, ?_⟩⟩⟩
      have hd1 : H1 dx = none := by rw [upd_ne hne] at hdx; exact hdx
      rw [upd_del ha hne]
      refine r ρ1 _ σ _ _ (e1.trans (ext_new hd1) m1) (m1.new hd1) ((e0.mono m e1).mono m1 (ext_new hd1)) ⟨rfl, ?_⟩
      rw [hf]
      exact ⟨dx, v1, rfl, upd_same, r1.mono m1 (ext_new hd1)⟩
end
end Lk
end

section
/-! F11: what is walked: lists, tuples, texts; zip and enumerate of them. -/
set_option Elab.async false
set_option linter.all false
set_option maxRecDepth 100000
set_option maxHeartbeats 2000000
namespace Lk
open PySem PySem.Spec PyProof.Rows L2 SlX
inductive Src where
  | lst (a : Addr) | tup (a : Addr) | txt (z : Str)
def Src.at_ (K : PySem.W.Frag) (H : Hp) (vs : List V) : Src → Prop
  | .lst a => SqL K H a vs
  | .tup a => SqT K H a vs
  | .txt z => vs = z.cps.toList.map fun c => V.str ⟨#[c]⟩
def Src.v : Src → V
  | .lst a => .ref a
  | .tup a => .ref a
  | .txt z => .str z
def Src.ads : Src → List Addr
  | .lst a => [a]
  | .tup a => [a]
  | .txt _ => []
def Src.isIt (h : Heap) (it : Addr) (i : Nat) : Src → Prop
  | .lst a => h.IsListIter it a i
  | .tup a => h.IsTupleIter it a i
  | .txt z => ∃ t, h.IsStrIter it (strIterType z) z t i
section
variable {X : Cx} {pins : List (Addr × Obj)} {σ : L2.St} {H : Hp} {s : Shared}
theorem vals_get : ∀ {vs : List V} {us : List Value} {k : Nat} {u : Value}, Vals vs us → us[k]? = some u → ∃ x, vs[k]? = some x ∧ RelV x u
  | _, _, _, _, .nil, h => by simp at h
  | _, _, 0, _, .cons r _, h => by simp at h; subst h; exact ⟨_, rfl, r⟩
  | _, _, k + 1, u, .cons _ t, h => by
    obtain ⟨x, h1, h2⟩ := vals_get (k := k) (u := u) t (by simpa using h)
    exact ⟨x, by simpa using h1, h2⟩
theorem Src.inj (r : Src) (I : Inv X pins σ H s) {vs ws : List V} (h : r.at_ X.K H vs) (h2 : r.at_ X.K H ws) : vs = ws := by
  cases r with
  | lst a => exact I.list_inj h h2
  | tup a => exact I.tuple_inj h h2
  | txt z => exact (show vs = _ from h).trans (show ws = _ from h2).symm
theorem Src.keep {h h' : Heap} {it : Addr} {i : Nat} (r : Src) (q : r.isIt h it i) (k : ∀ o, h.get? it = some o → h'.get? it = some o) : r.isIt h' it i := by
  cases r with
  | lst a => exact Heap.IsListIter.at q k
  | tup a => exact Heap.IsTupleIter.at q k
  | txt z => obtain ⟨t, o, ho, q⟩ := q; exact ⟨t, o, k _ ho, q⟩
theorem Src.obj {h : Heap} {it : Addr} {i : Nat} (r : Src) (q : r.isIt h it i) : ∃ o, h.get? it = some o ∧ ∀ v, o.data ≠ .cell v := by
  cases r with
  | lst a => obtain ⟨o, h1, _, d⟩ := q; exact ⟨o, h1, fun v z => by rw [d] at z; cases z⟩
  | tup a => obtain ⟨o, h1, _, d⟩ := q; exact ⟨o, h1, fun v z => by rw [d] at z; cases z⟩
  | txt z => obtain ⟨t, o, h1, _, d⟩ := q; exact ⟨o, h1, fun v z => by rw [d] at z; cases z⟩
theorem Src.draws (r : Src) (I : Inv X pins σ H s) {A : Around} (hh : A.handled = none) {vs : List V} (h : r.at_ X.K H vs) {it : Addr} {i : Nat} (hi : r.isIt s.heap it i) (hne : it ∉ r.ads) :
    ∃ (P : Nat → Value → Prop) (St : Nat → Heap → Prop), Draws X.prog X.w A it (it :: r.ads) vs.length P St ∧ St i s.heap ∧ (∀ k v, P k v → ∃ x, vs[k]? = some x ∧ RelV x v) ∧ ∀ k h', St k h' → r.isIt h' it k := by
  cases r with
  | lst a =>
    obtain ⟨its, rv, p, _⟩ := I.list h
    have D := Draws.list (prog := X.prog) (w := X.w) hh it a (fun z => hne (by rw [z]; exact List.mem_singleton.mpr rfl)) its.toArray
    rw [show its.toArray.size = vs.length by rw [List.size_toArray, rv.length]] at D
    exact ⟨_, _, D, ⟨hi, p.isList⟩, fun k v hv => by
      obtain ⟨x, h1, h2⟩ := vals_get rv (show its[k]? = some v by simpa using hv)
      exact ⟨x, h1, h2⟩, fun k h' q => q.1⟩
  | tup a =>
    obtain ⟨its, rv, p, _⟩ := I.tuple h
    have D := Draws.tuple (prog := X.prog) (w := X.w) hh it a (fun z => hne (by rw [z]; exact List.mem_singleton.mpr rfl)) its.toArray
    rw [show its.toArray.size = vs.length by rw [List.size_toArray, rv.length]] at D
    exact ⟨_, _, D, ⟨hi, p⟩, fun k v hv => by
      obtain ⟨x, h1, h2⟩ := vals_get rv (show its[k]? = some v by simpa using hv)
      exact ⟨x, h1, h2⟩, fun k h' q => q.1⟩
  | txt z =>
    obtain ⟨t, hi⟩ := hi
    have e : vs = _ := h
    have D := Draws.text (prog := X.prog) (w := X.w) hh it z t
    rw [show z.cps.size = vs.length by rw [e]; simp] at D
    refine ⟨_, _, D, hi, fun k v hv => ?_, fun k h' q => ⟨t, q⟩⟩
    obtain ⟨c, u, h1, rfl⟩ := hv
    refine ⟨.str ⟨#[c]⟩, ?_, ⟨u, rfl⟩⟩
    rw [e, List.getElem?_map, Array.getElem?_toList, h1]
    rfl
theorem Src.begin (r : Src) (I : Inv X pins σ H s) {vs : List V} (h : r.at_ X.K H vs) {u : Value} (ru : RelV r.v u) :
    ∃ (o : Obj) (Hq : Heap → Prop), Begins u o Hq ∧ Hq s.heap ∧ (∀ h' it, h'.get? it = some o → r.isIt h' it 0) ∧ ∀ a ∈ r.ads, a < s.heap.objs.size := by
  cases r with
  | lst a =>
    cases ru
    obtain ⟨its, rv, p, _⟩ := I.list h
    exact ⟨_, _, begins_list a its.toArray, p.isList, fun h' it e => ⟨_, e, rfl, rfl⟩, fun b hb => by rw [List.mem_singleton.mp hb]; exact p.lt⟩
  | tup a =>
    cases ru
    obtain ⟨its, rv, p, _⟩ := I.tuple h
    obtain ⟨o1, ho1, _⟩ := id p
    exact ⟨_, _, begins_tuple a its.toArray, p, fun h' it e => ⟨_, e, rfl, rfl⟩, fun b hb => by rw [List.mem_singleton.mp hb]; exact Heap.lt_size ho1⟩
  | txt z =>
    obtain ⟨t, rfl⟩ := ru
    exact ⟨_, _, begins_text z t, trivial, fun h' it e => ⟨t, _, e, rfl, rfl⟩, fun b hb => by cases hb⟩
/-! ### zip -/
def ItZ (K : PySem.W.Frag) (a b : Src) : It :=
  ⟨fun i H => ∃ (xs ys : List V), a.at_ K H xs ∧ b.at_ K H ys ∧ i < xs.length ∧ i < ys.length,
    fun i H v H' => ∃ T x y, v = .ref T ∧ H T = none ∧ H' = upd H T (.tup [x, y]) ∧ (∀ xs, a.at_ K H xs → xs[i]? = some x) ∧ ∀ ys, b.at_ K H ys → ys[i]? = some y,
    fun i H => ∃ xs ys : List V, a.at_ K H xs ∧ b.at_ K H ys ∧ i ≤ xs.length ∧ i ≤ ys.length ∧ (i = xs.length ∨ i = ys.length)⟩
theorem turn_zipS {P : Program} {w : World} {K : PySem.W.Frag} {elts : List Expr} {kk : Nat} {tpos : Pos} {a b : Src} {z TI TO i1 i2 : Addr} (D : ZipSep2 z TI TO i1 i2 (i1 :: a.ads) (i2 :: b.ads)) (n1 : i1 ∉ a.ads) (n2 : i2 ∉ b.ads) :
    Turn P w K (.Tuple elts kk tpos) (ItZ K a b) [z, TI, TO, i1, i2] z (fun i h => IsZip h z TI TO .none ∧ IsTupOf2 h TI (.ref i1) (.ref i2) ∧ (∃ x y, IsTupOf2 h TO x y) ∧ a.isIt h i1 i ∧ b.isIt h i2 i) where
  mem := by simp
  obj := fun i h st c hc => by
    obtain ⟨hz, hTI, ⟨x, y, hTO⟩, h1, h2⟩ := st
    have e' : c = z ∨ c = TI ∨ c = TO ∨ c = i1 ∨ c = i2 := by simpa using hc
    rcases e' with q | q | q | q | q
    · rw [q]; exact ⟨_, hz, fun v q => nomatch q⟩
    · rw [q]; exact ⟨_, hTI, fun v q => nomatch q⟩
    · rw [q]; exact ⟨_, hTO, fun v q => nomatch q⟩
    · rw [q]; exact a.obj h1
    · rw [q]; exact b.obj h2
  keep := fun i h h' st k => by
    obtain ⟨hz, hTI, ⟨x, y, hTO⟩, h1, h2⟩ := st
    exact ⟨k z (by simp) _ hz, k TI (by simp) _ hTI, ⟨x, y, k TO (by simp) _ hTO⟩, a.keep h1 fun o q => k i1 (by simp) o q, b.keep h2 fun o q => k i2 (by simp) o q⟩
  item := by
    intro X hP hw hK hc i pins s σ H E I hf st hg
    subst hP hw hK
    obtain ⟨hz, hTI, ⟨x0, y0, hTO⟩, h1, h2⟩ := st
    obtain ⟨xs, ys, hqx, hqy, hx, hy⟩ := hg
    have hd : X.A.in1.handled = none := I.ok.hd hc
    obtain ⟨P1, St1, D1, s1, g1, k1⟩ := a.draws I hd hqx h1 n1
    obtain ⟨P2, St2, D2, s2, g2, k2⟩ := b.draws I hd hqy h2 n2
    have hzl : z < s.heap.objs.size := Heap.lt_size hz
    refine wpAny_pyNext_zipD2_item D D1 D2 hz hTI hTO s1 s2 hx hy fun u u2 h' tk p1 p2 z' TO' h1' h2' hT hsz hk => ?_
    obtain ⟨x, ex, ru⟩ := g1 _ _ p1
    obtain ⟨y, ey, ru2⟩ := g2 _ _ p2
    refine ⟨_, rfl, wpAny_letOwnedTupleGo_zip (s := { s with heap := h', toks := tk }) z' fun h'' z'' sb => ?_⟩
    have hT2 : h''.get? s.heap.objs.size = some { cls := .type "tuple", data := .seq #[u, u2] } := (sb.2 _ (Nat.ne_of_gt hzl)).trans hT
    have new : ObjOk X.prog X.w (upd H s.heap.objs.size (.tup [x, y])) h'' s.heap.objs.size (.tup [x, y]) :=
      ⟨by show 2 ≤ sizeLine; decide, [u, u2], .cons ru (.cons ru2 .nil), ⟨_, hT2, rfl, _, rfl⟩⟩
    have I1 : Inv X pins σ (upd H s.heap.objs.size (.tup [x, y])) { s with heap := h'', toks := tk } :=
      I.turnedNew (t' := tk) (ch := [z, TI, TO, i1, i2]) (fun c o hb q => (sb.2 c (fun q' => hb (by simp [q']))).trans (hk c o (fun q' => hb (by simp [q'])) (fun q' => hb (by simp [q'])) (fun q' => hb (by simp [q'])) (fun q' => hb (by simp [q'])) q)) hf (Nat.le_refl _) new
    refine ⟨.ref s.heap.objs.size, _, I1, rfl, ⟨_, x, y, rfl, I.hok.fresh (Nat.le_refl _), rfl, fun l hl => by rw [a.inj I hl hqx]; exact ex, fun l hl => by rw [b.inj I hl hqy]; exact ey⟩, ⟨z'', ?_, ⟨u, u2, ?_⟩, ?_, ?_⟩, fun c hcm => ?_⟩
    · exact (sb.2 _ D.TIz).trans (hk _ _ D.TIz D.TITO D.TIi1 D.TIi2 hTI)
    · exact (sb.2 _ D.TOz).trans TO'
    · exact a.keep (k1 _ _ h1') fun o q => (sb.2 _ D.zi1.symm).trans q
    · exact b.keep (k2 _ _ h2') fun o q => (sb.2 _ D.zi2.symm).trans q
    · have hlt : c < s.heap.objs.size := by
        have e' : c = z ∨ c = TI ∨ c = TO ∨ c = i1 ∨ c = i2 := by simpa using hcm
        rcases e' with q | q | q | q | q
        · rw [q]; exact hzl
        · rw [q]; exact Heap.lt_size hTI
        · rw [q]; exact Heap.lt_size hTO
        · rw [q]; obtain ⟨_, e1, _⟩ := a.obj h1; exact Heap.lt_size e1
        · rw [q]; obtain ⟨_, e2, _⟩ := b.obj h2; exact Heap.lt_size e2
      rw [upd_ne (Nat.ne_of_lt hlt)]
      exact (hf c hcm).1
  done := by
    intro X hP hw hK hc i pins s σ H E I hf st hg
    subst hP hw hK
    obtain ⟨hz, hTI, ⟨x0, y0, hTO⟩, h1, h2⟩ := st
    obtain ⟨xs, ys, hqx, hqy, hx, hy, hend⟩ := hg
    have hd : X.A.in1.handled = none := I.ok.hd hc
    obtain ⟨P1, St1, D1, s1, g1, k1⟩ := a.draws I hd hqx h1 n1
    obtain ⟨P2, St2, D2, s2, g2, k2⟩ := b.draws I hd hqy h2 n2
    exact wpAny_pyNext_zipD2_end D D1 D2 hz hTI hTO s1 s2 hx hy hend fun h' tk hk => ⟨rfl, I.turnedL (t' := tk) (ch := [z, TI, TO, i1, i2]) (fun c o hb q =>
      hk c o (fun q' => hb (by simp [q'])) (fun q' => hb (by simp [q'])) (fun q' => hb (by simp [q'])) (fun q' => hb (by simp [q'])) q) hf⟩
  self := fun A i s Q E st h => wpAny_pyIter_zip st.1 h
def iZipS (K : PySem.W.Frag) (ta : TA) : TI := fun σ H R => ta σ H fun vs H1 => ∃ (a b : Src) (xs ys : List V), vs = [a.v, b.v] ∧ a.at_ K H1 xs ∧ b.at_ K H1 ys ∧ R (ItZ K a b) H1
theorem pi_zipS {X : Cx} {e e2 : Expr} {ta : TA} {p pos tpos : Pos} {elts : List Expr} {kk : Nat} (hg : Gl X "zip") (hm : X.mg "zip" = none) (ha : PA X [e, e2] ta)
    (hs : starEach [e, e2] X.env = (false, eval e X.env) :: starEach [e2] X.env) (hpl : (backTo pos (starEach [e2] X.env)).any (·.1) = false) :
    PI X (.Tuple elts kk tpos) (.Call (.Name "zip" p) [e, e2] [] pos) (iZipS X.K ta) := by
  refine ⟨fun pins s σ H R I h => ?_⟩
  refine Call_ (ld_blt I hg hm PyProof.Rows.boot_zip (PyProof.Rows.callWith_type1 (thn (ha.run pos pins s σ H _ I h) fun us s1 ⟨vs, H1, I1, r1, q1⟩ => ?_) hs hpl))
  obtain ⟨a, b, xs, ys, ex, hqx, hqy, q⟩ := q1
  subst ex
  cases r1 with
  | @cons _ u _ _ ra rr =>
  cases rr with
  | @cons _ u2 _ _ rb rr =>
    cases rr
    obtain ⟨o1, Q1, B1, q1, i1, l1⟩ := a.begin I1 hqx ra
    obtain ⟨o2, Q2, B2, q2, i2, l2⟩ := b.begin I1 hqy rb
    refine zip_begins2 B1 B2 q1 q2 fun h' hz hTI hTO h1 h2 hsz hk => wpAny_pyIter_zip hz ?_
    have I2 : Inv X pins σ H1 { s1 with heap := h' } := I1.kept (t' := s1.toks) hk
    have m1 : s1.heap.objs.size ∉ a.ads := fun z => Nat.lt_irrefl _ (l1 _ z)
    have m2 : s1.heap.objs.size + 1 ∉ b.ads := fun z => absurd (l2 _ z) (Nat.not_lt_of_le (Nat.le_succ _))
    have sp := zip_sep2 l1 l2
    refine ⟨s1.heap.objs.size + 4, [s1.heap.objs.size + 4, s1.heap.objs.size + 2, s1.heap.objs.size + 3, s1.heap.objs.size, s1.heap.objs.size + 1], _, _, H1, rfl, I2, turn_zipS sp m1 m2, ⟨hz, hTI, ⟨_, _, hTO⟩, i1 _ _ h1, i2 _ _ h2⟩, fun c hcm => ?_, q⟩
    have e' : c = s1.heap.objs.size + 4 ∨ c = s1.heap.objs.size + 2 ∨ c = s1.heap.objs.size + 3 ∨ c = s1.heap.objs.size ∨ c = s1.heap.objs.size + 1 := by simpa using hcm
    have hle : s1.heap.objs.size ≤ c := by
      rcases e' with z | z | z | z | z
      · rw [z]; exact Nat.le_add_right _ _
      · rw [z]; exact Nat.le_add_right _ _
      · rw [z]; exact Nat.le_add_right _ _
      · rw [z]; exact Nat.le_refl _
      · rw [z]; exact Nat.le_add_right _ _
    exact I1.fpOk hle (I1.hok.fresh hle)
/-! ### enumerate -/
theorem meets_enumB {v : Value} {o : Obj} {H : Heap → Prop} (B : Begins v o H) :
    Meets (Builtin.«enumerate.__new__» ⟨[.type "enumerate", v], []⟩) (fun _ R s => H s.heap ∧
      R (.ok (.ret (.ref (s.heap.push o).objs.size)))
        { s with heap := (s.heap.push o).push { cls := .type "enumerate", data := .fields #[.none, .bool false, .ref s.heap.objs.size, rawInt 0, .none, .none] } }) :=
  .of_wp fun prog w A R s h => by
    obtain ⟨hp, g, d, tk, os⟩ := s
    obtain ⟨h1, h⟩ := h
    have hsub := sub_enumerate
    have q1 : ∀ {A' : Around} {E : Value → Shared → Prop} {Q : Value → Shared → Prop}, Q (.ref hp.objs.size) ⟨hp.push o, g, d, tk, os⟩ → wpAny (model prog w) A' (pyIter v) Q E ⟨hp, g, d, tk, os⟩ :=
      fun q => B.iter prog w _ _ ⟨hp, g, d, tk, os⟩ _ h1 q
    wp_walk
    refine wpAny_stack_any fun st => wpAny_pure ?_
    split
    · rename_i c _ _ _ _ _
      cases (c == Value.type "enumerate")
      · wp_walk using q1
        exact ⟨_, rfl, h⟩
      · wp_walk using q1
        exact ⟨_, rfl, h⟩
    · wp_walk using q1
      exact ⟨_, rfl, h⟩
theorem call_enumB {prog : Program} {w : World} {A : Around} {E : Value → Shared → Prop} {s : Shared} {v : Value} {o : Obj} {H : Heap → Prop} {Q : Value → Shared → Prop} (B : Begins v o H) (h1 : H s.heap)
    (h : ∀ h', IsEnum h' (s.heap.objs.size + 1) s.heap.objs.size 0 .none → h'.get? s.heap.objs.size = some o → h'.objs.size = s.heap.objs.size + 2 →
      (∀ b o, s.heap.get? b = some o → h'.get? b = some o) → Q (.ref (s.heap.objs.size + 1)) { s with heap := h' }) :
    wpAny (model prog w) A (call (.type "enumerate") [v]) Q E s := by
  refine callType_new F.called_enumerate (by decide) (F.typeCall_enumerate_1 _) (F.newCall_enumerate_1 _) (fun obj => F.args_object_init_2 obj _) F.entry_enumerate_new (meets_enumB B) ⟨h1, ?_⟩
  have hz : (s.heap.push o).objs.size = s.heap.objs.size + 1 := Heap.size_push ..
  show _ ∧ _
  rw [hz]
  have he : IsEnum ((s.heap.push o).push { cls := .type "enumerate", data := .fields #[.none, .bool false, .ref s.heap.objs.size, rawInt 0, .none, .none] }) (s.heap.objs.size + 1) s.heap.objs.size 0 .none := by
    have := Heap.get?_push_size (s.heap.push o) (o := { cls := .type "enumerate", data := .fields #[.none, .bool false, .ref s.heap.objs.size, rawInt 0, .none, .none] }) rfl
    rw [hz] at this; exact this
  exact ⟨⟨_, he, rfl⟩, h _ he (Heap.get?_push_of_some _ (Heap.get?_push_size _ B.free)) (by rw [Heap.size_push, hz]) fun b o x => Heap.get?_push_of_some _ (Heap.get?_push_of_some _ x)⟩
def ItE (K : PySem.W.Frag) (a : Src) : It :=
  ⟨fun i H => ∃ (xs : List V), a.at_ K H xs ∧ i < xs.length,
    fun i H v H' => ∃ T x, v = .ref T ∧ H T = none ∧ H' = upd H T (.tup [.int (i : Nat), x]) ∧ ∀ xs, a.at_ K H xs → xs[i]? = some x,
    fun i H => ∃ xs : List V, a.at_ K H xs ∧ i = xs.length⟩
theorem turn_enumS {P : Program} {w : World} {K : PySem.W.Frag} {elts : List Expr} {kk : Nat} {tpos : Pos} {a : Src} {e it : Addr} (hei : e ≠ it) (hea : e ∉ a.ads) (hia : it ∉ a.ads) :
    Turn P w K (.Tuple elts kk tpos) (ItE K a) [e, it] e (fun i h => (∃ old, IsEnum h e it ((i : Nat) : Int) old) ∧ a.isIt h it i) where
  mem := by simp
  obj := fun i h st b hb => by
    obtain ⟨⟨old, he⟩, h1⟩ := st
    have e' : b = e ∨ b = it := by simpa using hb
    rcases e' with z | z
    · rw [z]; exact ⟨_, he, fun v q => nomatch q⟩
    · rw [z]; exact a.obj h1
  keep := fun i h h' st k => let ⟨⟨old, he⟩, hi⟩ := st; ⟨⟨old, k e (by simp) _ he⟩, a.keep hi fun o q => k it (by simp) o q⟩
  item := by
    intro X hP hw hK hc i pins s σ H E I hf st hg
    subst hP hw hK
    obtain ⟨⟨old, he⟩, hit⟩ := st
    obtain ⟨xs, hq, hx⟩ := hg
    have hd : X.A.in1.handled = none := I.ok.hd hc
    obtain ⟨P1, St1, D1, s1, g1, k1⟩ := a.draws I hd hq hit hia
    have hel : e < s.heap.objs.size := Heap.lt_size he
    have hil : it < s.heap.objs.size := by obtain ⟨_, q, _⟩ := a.obj hit; exact Heap.lt_size q
    refine wpAny_pyNext_enum_itemD D1 he s1 hx hei (fun z => by rcases List.mem_cons.mp z with z | z; exact hei z; exact hea z) fun u h' tk p1 ho hit' hT hsz hk => ?_
    obtain ⟨x, ex, ru⟩ := g1 _ _ p1
    refine ⟨_, rfl, wpAny_letOwnedTupleGo_enum (s := { s with heap := h', toks := tk + 1 }) ho fun h'' he' sb => ?_⟩
    have hT2 : h''.get? s.heap.objs.size = some { cls := .type "tuple", data := .seq #[.int i tk, u] } := (sb.2 _ (Nat.ne_of_gt hel)).trans hT
    have new : ObjOk X.prog X.w (upd H s.heap.objs.size (.tup [.int (i : Nat), x])) h'' s.heap.objs.size (.tup [.int (i : Nat), x]) :=
      ⟨by show 2 ≤ sizeLine; decide, [.int i tk, u], .cons ⟨_, rfl⟩ (.cons ru .nil), ⟨_, hT2, rfl, _, rfl⟩⟩
    have I1 : Inv X pins σ (upd H s.heap.objs.size (.tup [.int (i : Nat), x])) { s with heap := h'', toks := tk + 1 } :=
      I.turnedNew (ch := [e, it]) (fun b ob hb q => (sb.2 b (fun z => hb (by simp [z]))).trans (hk b ob (fun z => hb (by simp [z])) (fun z => hb (by simp [z])) q)) hf (Nat.le_refl _) new
    refine ⟨.ref s.heap.objs.size, _, I1, rfl, ⟨_, x, rfl, I.hok.fresh (Nat.le_refl _), rfl, fun ys hy => by rw [a.inj I hy hq]; exact ex⟩, ⟨⟨u, ?_⟩, a.keep (k1 _ _ hit') fun o q => (sb.2 it (Ne.symm hei)).trans q⟩, fun b hb => ?_⟩
    · have e1 : ((i + 1 : Nat) : Int) = (i : Int) + 1 := by omega
      rw [e1]; exact he'
    · have hb' : b < s.heap.objs.size := by
        have e' : b = e ∨ b = it := by simpa using hb
        rcases e' with z | z
        · rw [z]; exact hel
        · rw [z]; exact hil
      rw [upd_ne (Nat.ne_of_lt hb')]
      exact (hf b hb).1
  done := by
    intro X hP hw hK hc i pins s σ H E I hf st hg
    subst hP hw hK
    obtain ⟨⟨old, he⟩, hit⟩ := st
    obtain ⟨xs, hq, hx⟩ := hg
    have hd : X.A.in1.handled = none := I.ok.hd hc
    obtain ⟨P1, St1, D1, s1, g1, k1⟩ := a.draws I hd hq hit hia
    subst hx
    obtain ⟨f0, f1, f2, f3, f4, f5⟩ := hf it (by simp)
    exact wpAny_pyNext_enum_endD D1 he s1 fun h' eb => ⟨rfl, I.turned (t' := s.toks) (fun b o hb q => eb b o hb q) f0 f1 f3 f4 f5⟩
  self := fun A i s Q E st h => let ⟨⟨_, he⟩, _⟩ := st; wpAny_pyIter_enum he h
def iEnumS (K : PySem.W.Frag) (ta : TA) : TI := fun σ H R => ta σ H fun vs H1 => ∃ (a : Src) (xs : List V), vs = [a.v] ∧ a.at_ K H1 xs ∧ R (ItE K a) H1
theorem pi_enumS {X : Cx} {e : Expr} {ta : TA} {p pos tpos : Pos} {elts : List Expr} {kk : Nat} (hg : Gl X "enumerate") (hm : X.mg "enumerate" = none) (ha : PA X [e] ta) (hs : starEach [e] X.env = [(false, eval e X.env)]) :
    PI X (.Tuple elts kk tpos) (.Call (.Name "enumerate" p) [e] [] pos) (iEnumS X.K ta) := by
  refine ⟨fun pins s σ H R I h => ?_⟩
  refine Call_ (ld_blt I hg hm boot_enumerate (PyProof.Rows.callWith_type1 (thn (ha.run pos pins s σ H _ I h) fun us s1 ⟨vs, H1, I1, r1, q1⟩ => ?_) hs rfl))
  obtain ⟨a, xs, ex, hq, q⟩ := q1
  subst ex
  cases r1 with
  | @cons _ u _ _ ra rr =>
    cases rr
    obtain ⟨o1, Q1, B1, q1, i1, l1⟩ := a.begin I1 hq ra
    refine call_enumB B1 q1 fun h' he hit hsz hk => wpAny_pyIter_enum he ?_
    have I2 : Inv X pins σ H1 { s1 with heap := h' } := I1.kept (t' := s1.toks) hk
    have m1 : s1.heap.objs.size ∉ a.ads := fun z => Nat.lt_irrefl _ (l1 _ z)
    have m2 : s1.heap.objs.size + 1 ∉ a.ads := fun z => absurd (l1 _ z) (Nat.not_lt_of_le (Nat.le_succ _))
    refine ⟨s1.heap.objs.size + 1, [s1.heap.objs.size + 1, s1.heap.objs.size], _, _, H1, rfl, I2, turn_enumS (a := a) (e := s1.heap.objs.size + 1) (it := s1.heap.objs.size) (Nat.succ_ne_self _) m2 m1, ⟨⟨.none, he⟩, i1 _ _ hit⟩, fun b hb => ?_, q⟩
    have e' : b = s1.heap.objs.size + 1 ∨ b = s1.heap.objs.size := by simpa using hb
    have hle : s1.heap.objs.size ≤ b := by
      rcases e' with z | z
      · rw [z]; exact Nat.le_add_right _ _
      · rw [z]; exact Nat.le_refl _
    exact I1.fpOk hle (I1.hok.fresh hle)
/-! ### one thing walked -/
def iOne (K : PySem.W.Frag) (te : TE) : TI := fun σ H R => te σ H fun v H1 => ∃ (a : Src) (xs : List V), v = a.v ∧ a.at_ K H1 xs ∧ R (match a with | .lst a => Itl K a | .tup a => Itt K a | .txt z => Its z) H1
theorem pi_oneS {X : Cx} {tg l : Expr} {tl : TE} (hl : PE X l tl) : PI X tg l (iOne X.K tl) := by
  refine ⟨fun pins s0 σ0 H0 R I0 hq => thn (hl.run pins s0 σ0 H0 _ I0 hq) fun v s1 q => ?_⟩
  obtain ⟨z, H2, I2, rz, a, xs, hz, hx, q⟩ := q
  subst hz
  have fresh := I2.fpOk (H' := H2) (Nat.le_refl _) (I2.hok.fresh (Nat.le_refl _))
  have grown : ∀ o : Obj, Inv X pins σ0 H2 { s1 with heap := s1.heap.push o } := fun o => I2.kept (t' := s1.toks) fun b u e => Heap.get?_push_of_some o e
  have only : ∀ b ∈ [s1.heap.objs.size], FpOk X pins H2 b := fun b hb => by
    rw [List.mem_singleton] at hb
    rw [hb]; exact fresh
  cases a with
  | lst a =>
    cases rz
    obtain ⟨its, _, isl, _⟩ := I2.list hx
    exact wpAny_pyIter_list isl.isList ⟨_, [s1.heap.objs.size], _, _, H2, rfl, grown _, turn_list a _, ⟨_, Heap.get?_push_size _ rfl, rfl, rfl⟩, only, q⟩
  | tup a =>
    cases rz
    obtain ⟨its, _, ist, _⟩ := I2.tuple hx
    exact wpAny_pyIter_tuple (show s1.heap.IsTuple a its.toArray from ist) ⟨_, [s1.heap.objs.size], _, _, H2, rfl, grown _, turn_tuple a _, ⟨_, Heap.get?_push_size _ rfl, rfl, rfl⟩, only, q⟩
  | txt z =>
    obtain ⟨t, rfl⟩ := rz
    refine wpAny_pyIter_strU ⟨_, [s1.heap.objs.size], _, _, H2, rfl, grown _, turn_str s1.heap.objs.size z t (strIterType z) ?_, ⟨_, Heap.get?_push_size _ rfl, rfl, rfl⟩, only, q⟩
    unfold strIterType
    split
    · exact .inl rfl
    · exact .inr rfl
end
end Lk
end

section
/-! F12: what is walked, in the evaluator. -/
set_option Elab.async false
set_option linter.all false
set_option maxRecDepth 100000
set_option maxHeartbeats 2000000
namespace Lk
open PySem PySem.Spec PyProof.Rows L2 SlX
section
variable {X : Cx} {F : Fx} {W : WX} {K : PySem.W.Frag} {T : Ty} {Z : Xs} {ρ : Pm} {H : Hp} {S : Store}
theorem rds_signs : ∀ z : List Nat, RDs K T ρ H (z.map fun c => D.str [c]) (z.map fun c => V.str ⟨#[c]⟩)
  | [] => .nil
  | c :: z => .cons (.str [c]) (rds_signs z)
/-- a value that is walked, as a source -/
def srcOf : D → V → Src
  | .str z, _ => .txt ⟨z.toArray⟩
  | .tup _, .ref a => .tup a
  | _, .ref a => .lst a
  | _, _ => .lst 0
theorem walk_src (m : RS K T ρ S H) {d : D} {xs : List D} {v : V} (e : walkS S d = some xs) (r : RD K T ρ H d v) : v = (srcOf d v).v ∧ ∃ (vs : List V), (srcOf d v).at_ K H vs ∧ RDs K T ρ H xs vs := by
  cases d with
  | str z =>
    cases e
    cases r
    exact ⟨rfl, _, rfl, by simpa using rds_signs z⟩
  | tup ys =>
    cases e
    obtain ⟨a, vs, rfl, h, rs⟩ := r.tup_inv
    exact ⟨rfl, vs, h, rs⟩
  | fl ys =>
    obtain ⟨a, vs, rfl, h, rs⟩ := seqOf_inv m (show seqOf S (.fl ys) = some xs from e) r
    exact ⟨rfl, vs, h, rs⟩
  | sc ys =>
    obtain ⟨a, vs, rfl, h, rs⟩ := seqOf_inv m (show seqOf S (.sc ys) = some xs from e) r
    exact ⟨rfl, vs, h, rs⟩
  | ref n =>
    obtain ⟨a, vs, rfl, h, rs⟩ := seqOf_inv m (show seqOf S (.ref n) = some xs from e) r
    exact ⟨rfl, vs, h, rs⟩
  | _ => cases e
/-- .. later -/
theorem walk_later {d : D} {xs : List D} {v : V} {ρ' : Pm} {H' : Hp} {S' : Store} (m : RS K T ρ S H) (hx : walkS S d = some xs) (r : RD K T ρ H d v) (e : ExtK ρ H ρ' H') (m' : RS K T ρ' S' H') (hg : stands S' (guardOf S d) = true) : walkS S' d = some xs ∧ RD K T ρ' H' d v := by
  by_cases hs : ∃ z, d = .str z
  · obtain ⟨z, rfl⟩ := hs
    exact ⟨hx, r.monoK e⟩
  · have hx' : itemsOf S d = some xs := by cases d <;> first | exact hx | exact absurd ⟨_, rfl⟩ hs
    have := items_later m hx' r e m' hg
    refine ⟨?_, this.2⟩
    cases d <;> first | exact this.1 | exact absurd ⟨_, rfl⟩ hs
/-- the same source, later -/
theorem src_later {d : D} {xs : List D} {v : V} {ρ' : Pm} {H' : Hp} {S' : Store} (m : RS K T ρ S H) (hx : walkS S d = some xs) (r : RD K T ρ H d v) (e : ExtK ρ H ρ' H') (m' : RS K T ρ' S' H') (hg : stands S' (guardOf S d) = true) :
    ∃ vs, (srcOf d v).at_ K H' vs ∧ RDs K T ρ' H' xs vs := by
  obtain ⟨hx', r'⟩ := walk_later m hx r e m' hg
  exact (walk_src m' hx' r').2
theorem guard_str {d : D} (S : Store) (h : ∃ z, d = .str z) : guardOf S d = [] := by obtain ⟨z, rfl⟩ := h; rfl
/-! ### one thing -/
theorem iter_one {d : D} {xs : List D} {v : V} (m : RS K T ρ S H) (hx : walkS S d = some xs) (r : RD K T ρ H d v) : IterR K T ρ H (xs, guardOf S d) (match srcOf d v with | .lst a => Itl K a | .tup a => Itt K a | .txt z => Its z) := fun ρ' S' H' e' m' hg => by
  obtain ⟨vs, ha, rs⟩ := src_later m hx r e' m' hg
  generalize srcOf d v = a at ha ⊢
  cases a with
  | lst a =>
    refine ⟨fun i hi => ?_, ⟨vs, ha, by rw [← rs.length]; exact Nat.le_refl _⟩, fun i v H2 hi yv => ?_⟩
    · have hi' : i < vs.length := by rw [← rs.length]; exact hi
      exact ⟨vs, vs[i], ha, by simp [hi']⟩
    · obtain ⟨rfl, yv⟩ := yv
      obtain ⟨w, hw, rw'⟩ := rs.get (show xs[i]? = some xs[i] by simp [show i < xs.length from hi])
      rw [yv vs ha] at hw
      cases hw
      exact ⟨.refl, m', xs[i], by simp [show i < xs.length from hi], rw'⟩
  | tup a =>
    refine ⟨fun i hi => ?_, ⟨vs, ha, by rw [← rs.length]; exact Nat.le_refl _⟩, fun i v H2 hi yv => ?_⟩
    · have hi' : i < vs.length := by rw [← rs.length]; exact hi
      exact ⟨vs, vs[i], ha, by simp [hi']⟩
    · obtain ⟨rfl, yv⟩ := yv
      obtain ⟨w, hw, rw'⟩ := rs.get (show xs[i]? = some xs[i] by simp [show i < xs.length from hi])
      rw [yv vs ha] at hw
      cases hw
      exact ⟨.refl, m', xs[i], by simp [show i < xs.length from hi], rw'⟩
  | txt z =>
    have ev : vs = _ := ha
    have hl : xs.length = z.cps.size := by rw [rs.length, ev]; simp
    refine ⟨fun i hi => (show i < z.cps.size by rw [← hl]; exact hi), (show z.cps.size ≤ xs.length by rw [hl]; exact Nat.le_refl _), fun i v H2 hi yv => ?_⟩
    obtain ⟨rfl, c, hc, rfl⟩ := yv
    obtain ⟨w, hw, rw'⟩ := rs.get (show xs[i]? = some xs[i] by simp [show i < xs.length from hi])
    rw [ev, List.getElem?_map, Array.getElem?_toList, hc] at hw
    cases hw
    exact ⟨.refl, m', xs[i], by simp [show i < xs.length from hi], rw'⟩
/-! ### enumerate -/
theorem numbered_len : ∀ (xs : List D) (k : Nat), (numbered k xs).length = xs.length
  | [], _ => rfl
  | x :: xs, k => by simp [numbered, numbered_len xs (k + 1)]
theorem numbered_get : ∀ (xs : List D) (k i : Nat) (x : D), xs[i]? = some x → (numbered k xs)[i]? = some (.tup [.int (k + i : Nat), x])
  | [], _, _, _, h => by simp at h
  | y :: xs, k, 0, x, h => by simp at h; subst h; simp [numbered]
  | y :: xs, k, i + 1, x, h => by
    have := numbered_get xs (k + 1) i x (by simpa using h)
    simp only [numbered, List.getElem?_cons_succ]
    rw [this]
    congr 4
    omega
theorem iter_enm {d : D} {xs : List D} {v : V} (m : RS K T ρ S H) (hx : walkS S d = some xs) (r : RD K T ρ H d v) : IterR K T ρ H (numbered 0 xs, guardOf S d) (ItE K (srcOf d v)) := fun ρ' S' H' e' m' hg => by
  obtain ⟨vs, ha, rs⟩ := src_later m hx r e' m' hg
  have hl := rs.length
  refine ⟨fun i hi => ⟨vs, ha, by rw [← hl]; simpa [numbered_len] using hi⟩, ⟨vs, ha, by rw [← hl]; simp [numbered_len]⟩, fun i v H2 hi yv => ?_⟩
  obtain ⟨T1, x, rfl, hn, rfl, hy⟩ := yv
  have hi' : i < xs.length := by simpa [numbered_len] using hi
  obtain ⟨w, hw, rw'⟩ := rs.get (show xs[i]? = some xs[i] by simp [hi'])
  rw [hy vs ha] at hw
  cases hw
  refine ⟨ext_new hn, m'.new hn, _, numbered_get xs 0 i xs[i] (by simp [hi']), ?_⟩
  rw [Nat.zero_add]
  exact RD.new_tup m' hn (.cons (.int _) (.cons rw' .nil))
theorem sI_enm {a : Expr} {x : XE} {elts : List Expr} {kk : Nat} {tpos p pos : Pos} (hg : Gl X "enumerate") (hm : X.mg "enumerate" = none) (ha : PE X a (tE X F W x)) (hs : starEach [a] X.env = [(false, eval a X.env)]) : PI X (.Tuple elts kk tpos) (.Call (.Name "enumerate" p) [a] [] pos) (tI X F W (.enm x)) := by
  refine PIw (pi_enumS hg hm (pa_cons ha pa_nil hs) hs) fun σ H R q => ?_
  refine Go.mono (Go.bind (rA := rdR X F) q) fun v H1 q => ?_
  obtain ⟨ρ, s, d, S, S0, _, m, e, r, q⟩ := q
  obtain ⟨p, hp, q1⟩ := Run.opt q
  obtain ⟨xs, hx, rfl⟩ := map_some hp
  obtain ⟨hv, vs, h1, _⟩ := walk_src m hx r
  exact ⟨srcOf d v, vs, by rw [← hv], h1, Run.here m q1 (iter_enm m hx r)⟩
/-! ### zip -/
theorem pairs_len : ∀ (xs ys : List D), (pairs xs ys).length = min xs.length ys.length
  | [], ys => by simp [pairs]
  | x :: xs, [] => by simp [pairs]
  | x :: xs, y :: ys => by simp [pairs, pairs_len xs ys]
theorem pairs_get : ∀ (xs ys : List D) (i : Nat) (x y : D), xs[i]? = some x → ys[i]? = some y → (pairs xs ys)[i]? = some (.tup [x, y])
  | [], _, _, _, _, h, _ => by simp at h
  | _ :: _, [], _, _, _, _, h => by simp at h
  | a :: xs, b :: ys, 0, x, y, h, h2 => by simp at h h2; subst h h2; simp [pairs]
  | a :: xs, b :: ys, i + 1, x, y, h, h2 => by
    simp only [pairs, List.getElem?_cons_succ]
    exact pairs_get xs ys i x y (by simpa using h) (by simpa using h2)
theorem stands_append {S : Store} : ∀ {a b : Gd}, stands S (a ++ b) = true → stands S a = true ∧ stands S b = true
  | [], b, h => ⟨rfl, h⟩
  | (n, xs) :: a, b, h => by
    simp only [List.cons_append, stands, Bool.and_eq_true] at h ⊢
    have := stands_append h.2
    exact ⟨⟨h.1, this.1⟩, this.2⟩
theorem iter_zip {d d2 : D} {xs ys : List D} {v v2 : V} (m : RS K T ρ S H) (hx : walkS S d = some xs) (hy : walkS S d2 = some ys) (r : RD K T ρ H d v) (r2 : RD K T ρ H d2 v2) : IterR K T ρ H (pairs xs ys, guardOf S d ++ guardOf S d2) (ItZ K (srcOf d v) (srcOf d2 v2)) := fun ρ' S' H' e' m' hg => by
  obtain ⟨g1, g2⟩ := stands_append hg
  obtain ⟨vs, ha, rs⟩ := src_later m hx r e' m' g1
  obtain ⟨ws, hb, ts⟩ := src_later m hy r2 e' m' g2
  have hl := rs.length
  have hl2 := ts.length
  have hp := pairs_len xs ys
  refine ⟨fun i hi => ⟨vs, ws, ha, hb, ?_, ?_⟩, ⟨vs, ws, ha, hb, ?_, ?_, ?_⟩, fun i v H2 hi yv => ?_⟩
  · have hi : i < (pairs xs ys).length := hi
    omega
  · have hi : i < (pairs xs ys).length := hi
    omega
  · show (pairs xs ys).length ≤ _; omega
  · show (pairs xs ys).length ≤ _; omega
  · show (pairs xs ys).length = _ ∨ (pairs xs ys).length = _; omega
  · have hi : i < (pairs xs ys).length := hi
    obtain ⟨T1, x, y, rfl, hn, rfl, h1, h2⟩ := yv
    have hi1 : i < xs.length := by omega
    have hi2 : i < ys.length := by omega
    obtain ⟨w, hw, rw'⟩ := rs.get (show xs[i]? = some xs[i] by simp [hi1])
    rw [h1 vs ha] at hw
    cases hw
    obtain ⟨w2, hw2, rw2⟩ := ts.get (show ys[i]? = some ys[i] by simp [hi2])
    rw [h2 ws hb] at hw2
    cases hw2
    exact ⟨ext_new hn, m'.new hn, _, pairs_get xs ys i xs[i] ys[i] (by simp [hi1]) (by simp [hi2]), RD.new_tup m' hn (.cons rw' (.cons rw2 .nil))⟩
theorem sI_zip {a b : Expr} {x y : XE} {elts : List Expr} {kk : Nat} {tpos p pos : Pos} (hg : Gl X "zip") (hm : X.mg "zip" = none) (ha : PE X a (tE X F W x)) (hb : PE X b (tE X F W y)) (hs : starEach [a, b] X.env = (false, eval a X.env) :: starEach [b] X.env) (hs2 : starEach [b] X.env = [(false, eval b X.env)]) :
    PI X (.Tuple elts kk tpos) (.Call (.Name "zip" p) [a, b] [] pos) (tI X F W (.zip x y)) := by
  refine PIw (pi_zipS hg hm (pa_cons ha (pa_cons hb pa_nil hs2) hs) hs (by rw [hs2]; rfl)) fun σ H R q => ?_
  refine Go.mono (Go.bind2 q) fun v H1 q1 => Go.mono q1 fun w H2 q2 => ?_
  obtain ⟨ρ, s, d, d2, S, m, e, r1, r2, r⟩ := q2
  obtain ⟨p, hp, q1⟩ := Run.opt r
  split at hp
  · rename_i xs ys hx hy
    cases hp
    obtain ⟨hv, vs, h1, _⟩ := walk_src m hx r1
    obtain ⟨hw, ws, h2, _⟩ := walk_src m hy r2
    exact ⟨srcOf d v, srcOf d2 w, vs, ws, by rw [← hv, ← hw], h1, h2, Run.here m q1 (iter_zip m hx hy r1 r2)⟩
  · cases hp
end
end Lk
end

section
/-! Fd: dicts are walked: keys, items. -/
set_option Elab.async false
set_option linter.all false
set_option maxRecDepth 100000
set_option maxHeartbeats 2000000
namespace Lk
open PySem PySem.Spec PyProof.Rows L2 SlX
/-- the keys of the dict at d, its object o told; its items, each a new tuple -/
def ItKy (d : Addr) (o : Obj) (xs : Ents) : It :=
  ⟨fun i H => H d = some (.frz o (DyO d xs)) ∧ i < xs.length, fun i H v H' => H' = H ∧ ∃ h w, xs[i]? = some (h, v, w), fun i H => H d = some (.frz o (DyO d xs)) ∧ xs.length ≤ i⟩
def ItIt (d : Addr) (o : Obj) (xs : Ents) : It :=
  ⟨fun i H => H d = some (.frz o (DyO d xs)) ∧ i < xs.length, fun i H v H' => ∃ T h k w, xs[i]? = some (h, k, w) ∧ v = .ref T ∧ H T = none ∧ H' = upd H T (.tup [k, w]), fun i H => H d = some (.frz o (DyO d xs)) ∧ xs.length ≤ i⟩
section
variable {X : Cx} {F : Fx} {W : WX} {pins : List (Addr × Obj)} {σ : L2.St} {H : Hp} {s : Shared} {d : Addr} {o : Obj} {xs : Ents}
theorem frz_dy (I : L2.Inv X pins σ H s) (h : H d = some (.frz o (DyO d xs))) : (d == sysModules) = false ∧ s.heap.get? d = some o ∧ o.ExactDict ∧ ∃ (es : Array DictEntry) (ep : Nat), o.data = .dict es ep ∧ es.size = xs.length ∧ Paired EntR xs es.toList ∧ xs.length ≤ sizeLine := by
  obtain ⟨hd, ⟨h0, h1, o', es, ep, g1, g2, g3, g4⟩, _⟩ := I.hok d _ h
  rw [hd] at g1
  cases g1
  exact ⟨h1, hd, g2, es, ep, g3, by rw [← Array.length_toList, ← g4.length], g4, h0⟩
theorem ent_at {es : Array DictEntry} (p : Paired EntR xs es.toList) {i : Nat} {x : Int × V × V} (h : xs[i]? = some x) : ∃ e, es[i]? = some e ∧ EntR x e := by
  obtain ⟨e, h1, h2⟩ := paired_get p h
  exact ⟨e, by simpa using h1, h2⟩
end
section
variable {P : Program} {w : World} {K : PySem.W.Frag} {tg : Expr} {d : Addr} {o : Obj} {es : Array DictEntry} {ep : Nat} {xs : Ents}
theorem turn_ky (it : Addr) (hod : o.data = .dict es ep) : Turn P w K tg (ItKy d o xs) [it] it (fun i h => h.IsKeyIter it d i xs.length ep) where
  mem := by simp
  obj := fun i h st b hb => by
    cases (show b = it by simpa using hb)
    obtain ⟨oi, e, c, dd⟩ := st
    exact ⟨oi, e, fun v z => by rw [dd] at z; cases z⟩
  keep := fun i h h' st k => st.at fun oi e => k it (by simp) oi e
  item := by
    intro X hP hw hK hc i pins s σ H E I hf st hg
    subst hP hw hK
    obtain ⟨hd, hi⟩ := hg
    obtain ⟨z0, z1, z2, z3, z4, z5⟩ := hf it (by simp)
    obtain ⟨hs, hgd, hx, es', ep', hdt, hsz, hpr, _⟩ := frz_dy I hd
    obtain ⟨rfl, rfl⟩ := dict_ep hod hdt
    obtain ⟨en, hen, h1, h2, h3⟩ := ent_at hpr (List.getElem?_eq_getElem hi)
    refine next_key_item st hgd hdt hsz hen fun h' st' sb => ?_
    have J : L2.Inv X pins σ H { s with heap := h' } := I.turned (t' := s.toks) (fun b ob hb e => (sb.2 b hb).trans e) z0 z1 z3 z4 z5
    obtain ⟨oi, e, c, dd⟩ := id st'
    exact ⟨en.key, rfl, go_of (s := { s with heap := h' }) e c dd (by decide) ⟨_, H, J, h2, ⟨rfl, _, _, by rw [List.getElem?_eq_getElem hi]⟩, st', fun b hb => (hf b hb).1⟩⟩
  done := by
    intro X hP hw hK hc i pins s σ H E I hf st hg
    subst hP hw hK
    obtain ⟨hd, hi⟩ := hg
    obtain ⟨z0, z1, z2, z3, z4, z5⟩ := hf it (by simp)
    obtain ⟨hs, hgd, hx, es', ep', hdt, hsz, hpr, _⟩ := frz_dy I hd
    obtain ⟨rfl, rfl⟩ := dict_ep hod hdt
    exact next_key_end (I.ok.hd hc) st hgd hdt hsz hi fun h' eb => ⟨rfl, I.turned (t' := s.toks) (fun b ob hb e => eb b ob hb e) z0 z1 z3 z4 z5⟩
  self := fun A i s Q E st h => by
    refine wpAny_pyIter_slot st.typeIs F.slot_dict_keyiterator_iter (wpAny_call_entry F.slot_dict_keyiterator_iter st.typeIs F.entry_dict_keyiterator_iter (?_ : wpAny _ _ (ret (.ref it)) _ _ s) (F.args_dict_keyiterator_iter_1 _))
    exact wpAny_pure ⟨_, rfl, "dict_keyiterator", _, st.typeIs, F.slot_dict_keyiterator_next.lookup, h⟩
theorem turn_it {elts : List Expr} {kk : Nat} {tpos : Pos} (it : Addr) (hod : o.data = .dict es ep) : Turn P w K (.Tuple elts kk tpos) (ItIt d o xs) [it] it (fun i h => ∃ ok ov, IsItemIter h it d i xs.length ep ok ov) where
  mem := by simp
  obj := fun i h st b hb => by
    cases (show b = it by simpa using hb)
    obtain ⟨_, _, e⟩ := st
    exact ⟨_, e, fun v z => nomatch z⟩
  keep := fun i h h' st k => let ⟨a, b, e⟩ := st; ⟨a, b, k it (by simp) _ e⟩
  item := by
    intro X hP hw hK hc i pins s σ H E I hf st hg
    subst hP hw hK
    obtain ⟨hd, hi⟩ := hg
    obtain ⟨hs, hgd, hx, es', ep', hdt, hsz, hpr, _⟩ := frz_dy I hd
    obtain ⟨e1, e2⟩ := dict_ep hod hdt
    subst e1 e2
    obtain ⟨a, b, he⟩ := st
    have hlt : it < s.heap.objs.size := Heap.lt_size he
    have hi2 : i < es'.size := by rw [hsz]; exact hi
    obtain ⟨en, hen, h1, h2, h3⟩ := ent_at hpr (List.getElem?_eq_getElem hi)
    rw [Array.getElem?_eq_getElem hi2] at hen
    cases hen
    rw [← hsz] at he
    refine wpAny_pyNext_items_item_raw he ⟨o, hgd, hx, hdt⟩ hi2 fun h' ho hT hz hk => ?_
    refine ⟨_, rfl, wpAny_letOwnedTupleGo_items (s := { s with heap := h' }) ho fun h'' he' sb => ?_⟩
    have hT2 := (sb.2 s.heap.objs.size (Nat.ne_of_gt hlt)).trans hT
    have new : ObjOk X.prog X.w (upd H s.heap.objs.size (.tup [xs[i].2.1, xs[i].2.2])) h'' s.heap.objs.size (.tup [xs[i].2.1, xs[i].2.2]) :=
      ⟨by show 2 ≤ sizeLine; decide, [es'[i].key, es'[i].val], .cons h2 (.cons h3 .nil), ⟨_, hT2, rfl, _, rfl⟩⟩
    have J : L2.Inv X pins σ (upd H s.heap.objs.size (.tup [xs[i].2.1, xs[i].2.2])) { s with heap := h'' } :=
      I.turnedNew (t' := s.toks) (ch := [it]) (fun b ob hb e => (sb.2 b (by simpa using hb)).trans (hk b ob (by simpa using hb) e)) hf (Nat.le_refl _) new
    refine ⟨.ref s.heap.objs.size, _, J, rfl, ⟨_, _, _, _, List.getElem?_eq_getElem hi, rfl, I.hok.fresh (Nat.le_refl _), rfl⟩, ⟨_, _, by rw [← hsz]; exact he'⟩, fun b hb => ?_⟩
    cases (show b = it by simpa using hb)
    rw [upd_ne (Nat.ne_of_lt hlt)]
    exact (hf it (by simp)).1
  done := by
    intro X hP hw hK hc i pins s σ H E I hf st hg
    subst hP hw hK
    obtain ⟨hd, hi⟩ := hg
    obtain ⟨z0, z1, z2, z3, z4, z5⟩ := hf it (by simp)
    obtain ⟨hs, hgd, hx, es', ep', hdt, hsz, hpr, _⟩ := frz_dy I hd
    obtain ⟨rfl, rfl⟩ := dict_ep hod hdt
    obtain ⟨a, b, he⟩ := st
    rw [← hsz] at he
    exact wpAny_pyNext_items_end_raw (I.ok.hd hc) he ⟨o, hgd, hx, hdt⟩ (by rw [hsz]; exact hi) fun h' eb => ⟨rfl, I.turned (t' := s.toks) (fun b ob hb e => eb b ob hb e) z0 z1 z3 z4 z5⟩
  self := fun A i s Q E st h => let ⟨_, _, e⟩ := st; PySem.W.kcp_self e h
end
section
variable {X : Cx} {F : Fx} {W : WX} {K : PySem.W.Frag} {T : Ty} {Z : Xs} {ρ : Pm} {H : Hp} {S : Store}
theorem RVs.at_ : ∀ {t : Bool} {kvs : List (D × D)} {xs : Ents} {i : Nat} {x : Int × V × V}, RVs K T ρ H t kvs xs → xs[i]? = some x → ∃ k d, kvs[i]? = some (k, d) ∧ RD K T ρ H k x.2.1 ∧ RD K T ρ H d x.2.2
  | _, _, _, _, _, .nil, h => by simp at h
  | _, _, _, 0, _, .cons _ r1 r2 _, h => by simp at h; subst h; exact ⟨_, _, rfl, r1, r2⟩
  | _, _, _, i + 1, x, .cons _ _ _ r, h => by
    obtain ⟨k, d, h1, h2, h3⟩ := RVs.at_ (i := i) (x := x) r (by simpa using h)
    exact ⟨k, d, by simpa using h1, h2, h3⟩
/-- what the iterator of a dict gives -/
theorem iter_ky {t : Bool} {kvs : List (D × D)} {a : Addr} {o : Obj} {xs : Ents} (m : RS K T ρ S H) (h : H a = some (.frz o (DyO a xs))) (q : Out ρ a) (r : RVs K T ρ H t kvs xs) : IterR K T ρ H (kvs.map (·.1), []) (ItKy a o xs) := fun ρ' S' H' e' m' hg => by
  have h' := e'.im _ _ h (fun z => z) (fun ps z => nomatch z)
  have r' := r.monoK e'
  have hl := r'.len
  refine ⟨fun i hi => ⟨h', by simpa [hl] using hi⟩, ⟨h', by simp [hl]⟩, fun i v H2 hi yv => ?_⟩
  obtain ⟨rfl, hh, w, yv⟩ := yv
  obtain ⟨k, d, g1, g2, g3⟩ := r'.at_ yv
  exact ⟨.refl, m', k, by simp [g1], g2⟩
theorem iter_it {t : Bool} {kvs : List (D × D)} {a : Addr} {o : Obj} {xs : Ents} (m : RS K T ρ S H) (h : H a = some (.frz o (DyO a xs))) (q : Out ρ a) (r : RVs K T ρ H t kvs xs) : IterR K T ρ H (itemTups kvs, []) (ItIt a o xs) := fun ρ' S' H' e' m' hg => by
  have h' := e'.im _ _ h (fun z => z) (fun ps z => nomatch z)
  have r' := r.monoK e'
  have hl := r'.len
  refine ⟨fun i hi => ⟨h', by simpa [hl, itemTups] using hi⟩, ⟨h', by simp [hl, itemTups]⟩, fun i v H2 hi yv => ?_⟩
  obtain ⟨p, hh, kv, w, yv, rfl, hp, rfl⟩ := yv
  obtain ⟨k, d, g1, g2, g3⟩ := r'.at_ yv
  exact ⟨ext_new hp, m'.new hp, .tup [k, d], by simp [itemTups, g1], RD.new_tup m' hp (.cons g2 (.cons g3 .nil))⟩
/-- one thing walked -/
def iAny (K : PySem.W.Frag) (te : TE) : TI := fun σ H R => te σ H fun v H1 => (∃ (a : Src) (xs : List V), v = a.v ∧ a.at_ K H1 xs ∧ R (match a with | .lst a => Itl K a | .tup a => Itt K a | .txt z => Its z) H1) ∨ ∃ (a : Addr) (o : Obj) (xs : Ents), v = .ref a ∧ H1 a = some (.frz o (DyO a xs)) ∧ R (ItKy a o xs) H1
theorem pi_any {tg l : Expr} {tl : TE} (hl : PE X l tl) : PI X tg l (iAny X.K tl) := by
  refine ⟨fun pins s0 σ0 H0 R I0 hq => thn (hl.run pins s0 σ0 H0 _ I0 hq) fun v s1 q => ?_⟩
  obtain ⟨z, H2, I2, rz, q⟩ := q
  have fresh := I2.fpOk (H' := H2) (Nat.le_refl _) (I2.hok.fresh (Nat.le_refl _))
  have grown : ∀ ob : Obj, L2.Inv X pins σ0 H2 { s1 with heap := s1.heap.push ob } := fun ob => I2.kept (t' := s1.toks) fun b u e => Heap.get?_push_of_some ob e
  have only : ∀ b ∈ [s1.heap.objs.size], FpOk X pins H2 b := fun b hb => by
    rw [List.mem_singleton.mp hb]; exact fresh
  rcases q with ⟨a, xs, hz, hx, q⟩ | ⟨a, o, xs, hz, hx, q⟩
  · subst hz
    cases a with
    | lst a =>
      cases rz
      obtain ⟨its, _, isl, _⟩ := I2.list hx
      exact wpAny_pyIter_list isl.isList ⟨_, [s1.heap.objs.size], _, _, H2, rfl, grown _, turn_list a _, ⟨_, Heap.get?_push_size _ rfl, rfl, rfl⟩, only, q⟩
    | tup a =>
      cases rz
      obtain ⟨its, _, ist, _⟩ := I2.tuple hx
      exact wpAny_pyIter_tuple (show s1.heap.IsTuple a its.toArray from ist) ⟨_, [s1.heap.objs.size], _, _, H2, rfl, grown _, turn_tuple a _, ⟨_, Heap.get?_push_size _ rfl, rfl, rfl⟩, only, q⟩
    | txt z =>
      obtain ⟨t, rfl⟩ := rz
      refine wpAny_pyIter_strU ⟨_, [s1.heap.objs.size], _, _, H2, rfl, grown _, turn_str s1.heap.objs.size z t (strIterType z) ?_, ⟨_, Heap.get?_push_size _ rfl, rfl, rfl⟩, only, q⟩
      unfold strIterType
      split
      · exact .inl rfl
      · exact .inr rfl
  · subst hz
    cases rz
    obtain ⟨hs, hgd, hx', es, ep, hdt, hsz, hpr, _⟩ := frz_dy I2 hx
    refine wpAny_pyIter_dict_raw hs ⟨o, hgd, hx', hdt⟩ ⟨_, [s1.heap.objs.size], _, _, H2, rfl, grown _, turn_ky _ hdt, ⟨_, Heap.get?_push_size _ rfl, rfl, ?_⟩, only, q⟩
    rw [hsz]
    rfl
theorem sI_of {tg a : Expr} {x : XE} (ha : PE X a (tE X F W x)) : PI X tg a (tI X F W (.of x)) := by
  refine PIw (pi_any ha) fun σ H R q => ?_
  refine Go.mono (Go.bind (rA := rdR X F) q) fun v H1 q => ?_
  obtain ⟨ρ, s, d, S, S0, _, m, e, r, q⟩ := q
  obtain ⟨p, hp, q1⟩ := Run.opt q
  obtain ⟨xs, hx, rfl⟩ := map_some hp
  by_cases hd : ∃ t kvs, d = .dc t kvs
  · obtain ⟨t, kvs, rfl⟩ := hd
    cases hx
    cases r with
    | @dc _ a o _ ys h1 h2 h3 h4 h5 => exact .inr ⟨a, o, ys, rfl, h1, Run.here m q1 (iter_ky m h1 h2 h5)⟩
  · have hx : walkS S d = some xs := by cases d <;> first | exact hx | exact absurd ⟨_, _, rfl⟩ hd
    obtain ⟨hv, vs, h1, _⟩ := walk_src m hx r
    exact .inl ⟨srcOf d v, vs, hv, h1, Run.here m q1 (iter_one m hx r)⟩
/-- d.items() -/
theorem sI_itm {elts : List Expr} {kk : Nat} {tpos apos cpos : Pos} {e : Expr} {x : XE} (he : PE X e (tE X F W x)) (hbase : attributeBase e "items" X.env (eval e X.env) = eval e X.env) (hline : (apos.endLine == cpos.line) = true) :
    PI X (.Tuple elts kk tpos) (.Call (.Attribute e "items" apos) [] [] cpos) (tI X F W (.itm x)) := by
  refine ⟨fun pins s σ H R I q => ?_⟩
  refine wpAny_Call_method (T := "dict") (id := "dict.items") hbase rfl hline PySem.F.plainAttrs_dict PySem.F.slot_dict_items PySem.F.type_dict_items (thn (he.run pins s σ H _ I (Go.bind (rA := rdR X F) q)) ?_)
  rintro u s1 ⟨v, H1, I1, ru, ρ, sg, d, S, S0, _, m, e, r, q⟩
  cases d with
  | dc t kvs =>
    cases r with
    | @dc _ a o _ ys h1 h2 h3 h4 h5 =>
      cases (show u = Value.ref a from ru)
      obtain ⟨hs, hgd, hx', es, ep, hdt, hsz, hpr, _⟩ := frz_dy I1 h1
      have raw : s1.heap.DictRaw a es ep := ⟨o, hgd, hx', hdt⟩
      refine ⟨raw.typeIs, fun b z => by cases z; exact ⟨o, hgd, hx'.2.1⟩, ?_⟩
      have grow : ∀ b ob (oo : Obj), s1.heap.get? b = some ob → (s1.heap.push oo).get? b = some ob := fun b ob oo z => Heap.get?_push_of_some _ z
      have I2 : L2.Inv X pins σ H1 { s1 with heap := s1.heap.push { cls := .type "dict_items", data := .fields #[.ref a] } } := I1.kept (t' := s1.toks) fun b ob z => grow b ob _ z
      have fin : wpAny (model X.prog X.w) X.A (pyIter (.ref s1.heap.objs.size)) (PIE X pins σ (.Tuple elts kk tpos) R) X.xe { s1 with heap := s1.heap.push { cls := .type "dict_items", data := .fields #[.ref a] } } := by
        refine wpAny_pyIter_items_raw (d := a) ⟨_, Heap.get?_push_size _ rfl, rfl, rfl⟩ (raw.at fun ob z => grow _ _ _ z) (pi_one (tk := s1.toks) I2 _ (turn_it _ hdt) ⟨.none, .none, ?_⟩ (Run.here m q (iter_it m h1 h2 h5)))
        rw [← hsz]
        exact Heap.get?_push_size _ rfl
      show wpAny _ _ (callWith cpos (.builtin "dict.items") [.ref a] [] []) _ X.xe s1
      exact method_meetsIn PySem.F.slot_dict_items PySem.F.entry_dict_items rfl (PySem.evalArgs_none ⟨rfl, raw.typeIs, PySem.F.args_dict_items_1 _, _, meets_dict_items_raw a hs, ⟨es, ep, raw⟩, fin⟩)
  | _ => exact q.elim
end
end Lk
end

section
/-! F13: * of numbers, tuples, texts, lists. -/
set_option Elab.async false
set_option linter.all false
set_option maxRecDepth 100000
set_option maxHeartbeats 4000000
namespace Lk
open PySem PySem.Spec PyProof.Rows L2 SlX
theorem tuple_mul1 (l : Addr) (items : Array Value) (n : Nat) (dd : Option Addr) (sl : Array (Option Value)) (x : Int) (u : Tok) (c0 : (decide (x < -(2 ^ 63)) || decide (x ≥ 2 ^ 63)) = false) (c1 : (items.isEmpty || x == 1) = true) :
    Meets (Builtin.«tuple.__mul__» ⟨[.ref l, .int x u], []⟩) (fun _ R s => s.heap.get? l = some { cls := .type "tuple", dict := dd, data := .seq items n, slots := sl } ∧ R (.ok (.ret (Value.ref l))) s) :=
  .of_wp fun prog w A R s h => by
    obtain ⟨hp, g, d, tk, os⟩ := s
    obtain ⟨hl, h⟩ := h
    have f1 := AutoSeq1.idx_int
    wp_walk using wpAny_loadPart' hl
    refine wpAny_ite_false (decide_eq_false (by rw [c0]; exact Bool.false_ne_true)) ?_
    wp_walk using wpAny_loadPart' hl
    exact ⟨_, rfl, h⟩
theorem tuple_mul0 (l : Addr) (items : Array Value) (n : Nat) (dd : Option Addr) (sl : Array (Option Value)) (x : Int) (u : Tok) (c0 : (decide (x < -(2 ^ 63)) || decide (x ≥ 2 ^ 63)) = false) (c1 : (items.isEmpty || x == 1) = false) (c2 : (decide (x ≤ 0) || items.isEmpty) = true) :
    Meets (Builtin.«tuple.__mul__» ⟨[.ref l, .int x u], []⟩) (fun _ R s => s.heap.get? l = some { cls := .type "tuple", dict := dd, data := .seq items n, slots := sl } ∧ R (.ok (.ret (Value.ref s.heap.objs.size))) { s with heap := s.heap.push { cls := Value.type "tuple", data := Data.seq #[] }, toks := s.toks }) :=
  .of_wp fun prog w A R s h => by
    obtain ⟨hp, g, d, tk, os⟩ := s
    obtain ⟨hl, h⟩ := h
    have f1 := AutoSeq1.idx_int
    wp_walk using wpAny_loadPart' hl
    refine wpAny_ite_false (decide_eq_false (by rw [c0]; exact Bool.false_ne_true)) ?_
    wp_walk using wpAny_loadPart' hl
    exact ⟨_, rfl, h⟩
section
variable {X : Cx} {F : Fx}
/-- tuple * int, any -/
def rRepA (K : PySem.W.Frag) : R2 := fun x y H Q => ∃ l k xs, x = .ref l ∧ y = .int k ∧ SqT K H l xs ∧ 0 ≤ k ∧ k < 2 ^ 62 ∧ xs.length * k.toNat ≤ 1000000 ∧ ((xs = [] ∨ k = 1) → Q (.ref l) H) ∧ (xs ≠ [] → k ≠ 1 → ∀ p, H p = none → Q (.ref p) (upd H p (.tup (List.replicate k.toNat xs).flatten)))
theorem op_repA : OpR X (binaryOp .Mult) (rRepA X.K) := by
  intro pins s σ H x y v u Q I rx ry h
  obtain ⟨l, k, xs, rfl, rfl, hT, h1, h2, hz, q1, q2⟩ := h
  cases rx
  obtain ⟨t, rfl⟩ := ry
  obtain ⟨its, r, ⟨⟨cls, dd, data, sl⟩, ho, hc, n, hd⟩, hs⟩ := I.tuple hT
  simp only at hc hd
  subst hc hd
  have hle : its.length = xs.length := r.length.symm
  have hsz0 : its.toArray.size = xs.length := by rw [List.size_toArray, hle]
  have c0 : (decide (k < -(2 ^ 63)) || decide (k ≥ 2 ^ 63)) = false := by
    rw [decide_eq_false (by omega), decide_eq_false (by omega)] <;> rfl
  refine wpAny_binaryOp_repeat_ref (T := "tuple") (U := "int") (by decide) ⟨_, ho, rfl⟩ (fun s' => typeIs_int s' k t) noFill_tuple_mul F.fills_int_mul F.slot_int_rmul repeat_tuple F.slot_int_index.lookup
    (call_meets F.slot_int_rmul (typeIs_int s k t) F.entry_int_rmul (F.args_int_rmul_2 _ _) (int_rmul_tuple k t l its.toArray n dd sl) ⟨ho, rfl, ⟨_, ho, rfl⟩, ?_⟩)
  by_cases c1 : (its.toArray.isEmpty || k == 1) = true
  · refine call_meets F.slot_tuple_mul ⟨_, ho, rfl⟩ F.entry_tuple_mul (F.args_tuple_mul_2 _ _) (tuple_mul1 l its.toArray n dd sl k t c0 c1) ⟨ho, ?_⟩
    refine ⟨.ref l, H, I, rfl, q1 ?_⟩
    rcases Bool.or_eq_true_iff.mp c1 with z | z
    · refine .inl (List.eq_nil_of_length_eq_zero ?_)
      rw [← hsz0]
      exact Array.isEmpty_iff_size_eq_zero.mp z
    · exact .inr (by simpa using z)
  · have c1 : (its.toArray.isEmpty || k == 1) = false := by simpa using c1
    have hi : its.toArray.isEmpty = false := (Bool.or_eq_false_iff.mp c1).1
    have hk1 : k ≠ 1 := by simpa using (Bool.or_eq_false_iff.mp c1).2
    have hne : xs ≠ [] := fun e => by
      rw [e] at hle
      rw [List.eq_nil_of_length_eq_zero hle] at hi
      cases hi
    by_cases hk0 : k = 0
    · subst hk0
      refine call_meets F.slot_tuple_mul ⟨_, ho, rfl⟩ F.entry_tuple_mul (F.args_tuple_mul_2 _ _) (tuple_mul0 l its.toArray n dd sl 0 t c0 c1 rfl) ⟨ho, ?_⟩
      refine ⟨.ref s.heap.objs.size, _, I.laid (t' := s.toks) (o := .tup (List.replicate (0 : Int).toNat xs).flatten) (fun b ob q => Heap.get?_push_of_some _ q) (Nat.le_refl _) ?_, rfl, q2 hne hk1 _ (I.hok.fresh (Nat.le_refl _))⟩
      exact ⟨by show 0 ≤ sizeLine; omega, [], .nil, IsTup.new _ _⟩
    · have hm : ((its.toArray.size : Nat) : Int) * k ≤ 1000000 := by
        rw [hsz0]
        have e : ((xs.length * k.toNat : Nat) : Int) = ((xs.length : Nat) : Int) * k := by
          rw [Int.natCast_mul, Int.toNat_of_nonneg h1]
        rw [← e]
        omega
      have flen : (List.replicate k.toNat its).flatten.length ≤ sizeLine := by
        rw [PyProof.Rows.lm_len_rep_flat, hle, sizeLine_eq, Nat.mul_comm]
        omega
      have c2 : (decide (k ≤ 0) || its.toArray.isEmpty) = false := by
        rw [hi, Bool.or_false]
        exact decide_eq_false (by omega)
      have c4 : Builtin.Tuple.tupleTooMany (((its.toArray.size : Nat) : Int) * k) = false := by
        unfold Builtin.Tuple.tupleTooMany
        rw [sizeLine_eq]
        exact decide_eq_false (by omega)
      refine call_meets F.slot_tuple_mul ⟨_, ho, rfl⟩ F.entry_tuple_mul (F.args_tuple_mul_2 _ _) (tuple_mulW l its.toArray n dd sl k t c0 c1 c2 (by omega) c4 (by rw [size_rep, List.size_toArray]; exact flen)) ⟨ho, ?_⟩
      rw [size_rep]
      refine ⟨.ref s.heap.objs.size, _, I.laid (t' := s.toks) (o := .tup (List.replicate k.toNat xs).flatten) (fun b ob q => Heap.get?_push_of_some _ q) (Nat.le_refl _) ?_, rfl, q2 hne hk1 _ (I.hok.fresh (Nat.le_refl _))⟩
      exact ⟨by rw [PyProof.Rows.lm_len_rep_flat, sizeLine_eq, Nat.mul_comm]; omega, _, r.rep k.toNat, IsTup.new _ _⟩
/-- text * int -/
def rRepS : R2 := fun x y H Q => ∃ (z : Str) (k : Int), x = .str z ∧ y = .int k ∧ 0 ≤ k ∧ k < 2 ^ 62 ∧ z.length * k.toNat ≤ 1000000 ∧ Q (.str ⟨(List.replicate k.toNat z.cps.toList).flatten.toArray⟩) H
theorem fold_cps (z : Array Nat) : ∀ m : Nat, (List.replicate m z).foldl (· ++ ·) #[] = (List.replicate m z.toList).flatten.toArray := by
  have key : ∀ (m : Nat) (acc : Array Nat), (List.replicate m z).foldl (· ++ ·) acc = (acc.toList ++ (List.replicate m z.toList).flatten).toArray := by
    intro m
    induction m with
    | zero => intro acc; simp
    | succ m ih => intro acc; rw [List.replicate_succ, List.foldl_cons, ih]; simp [List.replicate_succ]
  intro m
  rw [key m #[]]
  simp
theorem op_repS : OpR X (binaryOp .Mult) rRepS := by
  intro pins s σ H x y v u Q I rx ry h
  obtain ⟨z, k, rfl, rfl, h1, h2, hz, q⟩ := h
  obtain ⟨t, rfl⟩ := rx
  obtain ⟨t2, rfl⟩ := ry
  refine PySem.P.mul_str (by rw [decide_eq_false (by omega), decide_eq_false (by omega)]; rfl) (fun a b => ?_) (fun a b => ?_) ?_
  · have hk : 1 ≤ k := by omega
    intro c
    have c2 : k ≤ 2 ^ 62 := by omega
    have hzz : (z.length : Int) * k ≤ 1000000 := by
      have e : ((z.length * k.toNat : Nat) : Int) = ((z.length : Nat) : Int) * k := by rw [Int.natCast_mul, Int.toNat_of_nonneg h1]
      rw [← e]; omega
    have c' : (z.length : Int) > (2 ^ 63 - 1) / k := c
    have := Int.lt_mul_of_ediv_lt (by omega : 0 < k) c'
    omega
  · unfold Builtin.Str.tooLong
    rw [sizeLine_eq]
    exact decide_eq_false (by omega)
  · by_cases hk0 : k < 1
    · rw [if_pos hk0]
      have : k = 0 := by omega
      subst this
      have e : (⟨(List.replicate (0 : Int).toNat z.cps.toList).flatten.toArray⟩ : Str) = Str.empty := rfl
      rw [e] at q
      exact ⟨by decide, .str Str.empty, H, I.tok _, ⟨_, rfl⟩, q⟩
    · rw [if_neg hk0]
      by_cases hc : (k == 1 || z.length == 0) = true
      · rw [if_pos hc]
        refine ⟨.str z, H, I, ⟨_, rfl⟩, ?_⟩
        have e : (⟨(List.replicate k.toNat z.cps.toList).flatten.toArray⟩ : Str) = z := by
          rcases Bool.or_eq_true_iff.mp hc with c | c
          · have : k = 1 := by simpa using c
            subst this
            simp
          · have hl : z.cps = #[] := by
              have c2 : z.length = 0 := by simpa using c
              have : z.cps.size = 0 := c2
              exact Array.eq_empty_of_size_eq_zero this
            cases z with
            | mk cps =>
              simp only at hl
              subst hl
              simp
        rw [e] at q
        exact q
      · rw [if_neg hc]
        refine ⟨?_, .str _, H, I.tok _, ⟨_, rfl⟩, ?_⟩
        · show ((List.replicate k.toNat z.cps).foldl (· ++ ·) #[]).size ≤ sizeLine
          rw [fold_cps, List.size_toArray, sizeLine_eq]
          have hlen : ((List.replicate k.toNat z.cps.toList).flatten).length = k.toNat * z.cps.toList.length := by simp [List.length_flatten, List.map_replicate, List.sum_replicate_nat]
          rw [hlen, Nat.mul_comm]
          have : z.cps.toList.length = z.length := by simp [Str.length]
          rw [this]
          omega
        · rw [fold_cps]; exact q
theorem rep_rd {K : PySem.W.Frag} {T : Ty} {ρ : Pm} {H : Hp} {ds : List D} {vs : List V} (r : RDs K T ρ H ds vs) : ∀ n : Nat, RDs K T ρ H (List.replicate n ds).flatten (List.replicate n vs).flatten
  | 0 => .nil
  | n + 1 => by simp only [List.replicate_succ, List.flatten_cons]; exact r.append (rep_rd r n)
theorem binD_mulA {S : Store} {x y z : D} (h : binD S .mul x y = some z) : (∃ i j k, x = .int i ∧ y = .int j ∧ intBin .mul i j = some k ∧ z = .int k) ∨ (∃ a i, x = .tup a ∧ y = .int i ∧ (0 ≤ i ∧ i < 2 ^ 62 ∧ a.length * i.toNat ≤ sizeMax) ∧ z = .tup (List.replicate i.toNat a).flatten) ∨
    (∃ a i, x = .str a ∧ y = .int i ∧ (0 ≤ i ∧ i < 2 ^ 62 ∧ a.length * i.toNat ≤ sizeMax) ∧ z = .str (List.replicate i.toNat a).flatten) ∨ (∃ a i, x = .fl a ∧ y = .int i ∧ (0 ≤ i ∧ i < 2 ^ 62 ∧ a.length * i.toNat ≤ sizeMax) ∧ z = .fl (List.replicate i.toNat a).flatten) := by
  cases x with
  | int i => cases y <;> first
    | (obtain ⟨k, h1, rfl⟩ := map_some (show (intBin .mul i _).map D.int = some z from h); exact .inl ⟨i, _, k, rfl, rfl, h1, rfl⟩)
    | cases h
  | tup a => cases y <;> first
    | (obtain ⟨h1, rfl⟩ := ite_some h; exact .inr (.inl ⟨a, _, rfl, rfl, h1, rfl⟩))
    | cases h
  | str a => cases y <;> first
    | (obtain ⟨h1, rfl⟩ := ite_some h; exact .inr (.inr (.inl ⟨a, _, rfl, rfl, h1, rfl⟩)))
    | cases h
  | fl a => cases y <;> first
    | (obtain ⟨h1, rfl⟩ := ite_some h; exact .inr (.inr (.inr ⟨a, _, rfl, rfl, h1, rfl⟩)))
    | cases h
  | _ => cases y <;> cases h
theorem op_mulE : OpR X (binaryOp .Mult) (BinR X F .mul) := by
  refine OpRw (op_mul.or (op_repA.or (op_repS.or op_rep))) fun v w H Q h => ?_
  obtain ⟨ρ, x, y, S, z, m, rx, ry, e, q⟩ := h
  rcases binD_mulA e with ⟨i, j, k, rfl, rfl, hk, rfl⟩ | ⟨a, i, rfl, rfl, ⟨h1, h2, h3⟩, rfl⟩ | ⟨a, i, rfl, rfl, ⟨h1, h2, h3⟩, rfl⟩ | ⟨a, i, rfl, rfl, ⟨h1, h2, h3⟩, rfl⟩
  · obtain ⟨hc, rfl⟩ := ite_some hk
    exact .inl ⟨i, j, rx.int_inv, ry.int_inv, hc, q ρ H _ .refl m (.int _)⟩
  · obtain ⟨a1, vs, rfl, hv, r1⟩ := rx.tup_inv
    refine .inr (.inl ⟨a1, i, vs, rfl, ry.int_inv, hv, h1, h2, by rw [← r1.length]; exact h3, fun z => ?_, fun _ _ p hp => ?_⟩)
    · have : (List.replicate i.toNat a).flatten = a := by
        rcases z with z | z
        · subst z; cases r1; simp
        · subst z; simp
      rw [this] at q
      exact q ρ H _ .refl m rx
    · exact q ρ _ _ (ext_new hp) (m.new hp) (RD.new_tup m hp (rep_rd r1 _))
  · refine .inr (.inr (.inl ⟨_, i, rx.str_inv, ry.int_inv, h1, h2, by show _ * _ ≤ sizeMax; simpa [Str.length] using h3, ?_⟩))
    have := q ρ H _ .refl m (.str _)
    simpa using this
  · obtain ⟨a1, vs, rfl, hv, r1⟩ := listOf_inv m (show listOf S (.fl a) = some a from rfl) rx
    refine .inr (.inr (.inr ⟨a1, i, vs, rfl, ry.int_inv, hv, by omega, by omega, sizeMax_le (by rw [← r1.length]; exact h3), fun p hp => ?_⟩))
    have n := new_fl m hp (rep_rd r1 i.toNat)
    exact q _ _ _ n.1 n.2.1 n.2.2
end
end Lk
end

section
/-! FO: own operators. -/
set_option Elab.async false
set_option linter.all false
set_option maxRecDepth 100000
set_option maxHeartbeats 2000000
namespace Lk
open PySem PySem.Spec PyProof.Rows L2 SlX
def tyNames : List String := ["NoneType", "bool", "int", "str", "tuple", "list", "dict"]
section
variable {X : Cx} {F : Fx} {W : WX} {pins : List (Addr × Obj)} {σ : L2.St} {H : Hp} {s : Shared} {ρ : Pm} {S : Store}
theorem looks_val {M : Model} {h : Heap} {u : Value} {t : String} (e : typeOf u = pure (.type t)) : PySem.W.Looks M h (typeOf u) (.type t) := fun A Q E s k q => wpAny_of_eq e q
theorem looks_obj {M : Model} {h : Heap} {a : Addr} {o : Obj} {c : Value} (e : h.get? a = some o) (hc : o.cls = c) : PySem.W.Looks M h (typeOf (.ref a)) c := fun A Q E s k q => wpAny_typeOf_ref (k _ _ e) (by rw [hc]; exact q)
/-- the type of a value: a built-in one, or an own class -/
theorem typ_of (I : L2.Inv X pins σ H s) (m : RS X.K F.T ρ S H) {d : D} {v : V} {u : Value} (r : RD X.K F.T ρ H d v) (ru : L2.RelV v u) :
    (∃ t, t ∈ tyNames ∧ PySem.W.Looks (model X.prog X.w) s.heap (typeOf u) (.type t)) ∨ (∃ c fs, d = .ob c fs ∧ PySem.W.Looks (model X.prog X.w) s.heap (typeOf u) (.ref (F.T c))) ∨ (∃ c, d = .cls c) ∨ ∃ n, d = .ref n ∧ ∀ o, S.get n = some o → ∃ c fs, o = .ins c fs := by
  have lst : ∀ {a : Addr} {vs : List V}, SqL X.K H a vs → v = .ref a → ∃ t, t ∈ tyNames ∧ PySem.W.Looks (model X.prog X.w) s.heap (typeOf u) (.type t) := fun {a vs} h e => by
    subst e
    cases (show u = Value.ref a from ru)
    obtain ⟨its, _, p, _⟩ := I.list h
    obtain ⟨o, h1, h2, _⟩ := p.isList
    exact ⟨"list", by decide, looks_obj h1 h2⟩
  have dct : ∀ {a : Addr} {t : Bool} {kvs : List (D × D)}, DkAt X.K F.T ρ H a t kvs → v = .ref a → ∃ t, t ∈ tyNames ∧ PySem.W.Looks (model X.prog X.w) s.heap (typeOf u) (.type t) := fun {a t kvs} h e => by
    subst e
    cases (show u = Value.ref a from ru)
    obtain ⟨o, h1, h2⟩ := h.typ I
    exact ⟨"dict", by decide, looks_obj h1 h2⟩
  cases d with
  | non => cases r; cases (show u = Value.none from ru); exact .inl ⟨"NoneType", by decide, looks_val (by kernel_rfl)⟩
  | bl b => cases r; cases (show u = Value.bool b from ru); exact .inl ⟨"bool", by decide, looks_val (by first | rfl | kernel_rfl)⟩
  | int i => cases r; obtain ⟨t, rfl⟩ := (show ∃ t, u = Value.int i t from ru); exact .inl ⟨"int", by decide, looks_val (by first | rfl | kernel_rfl)⟩
  | str z => cases r; obtain ⟨t, rfl⟩ := (show ∃ t, u = Value.str ⟨z.toArray⟩ t from ru); exact .inl ⟨"str", by decide, looks_val (by first | rfl | kernel_rfl)⟩
  | tup xs =>
    obtain ⟨a, vs, rfl, h, rs⟩ := r.tup_inv
    cases (show u = Value.ref a from ru)
    obtain ⟨its, _, p, _⟩ := I.tuple h
    obtain ⟨o, h1, h2, _⟩ := p
    exact .inl ⟨"tuple", by decide, looks_obj h1 h2⟩
  | fl xs =>
    obtain ⟨a, vs, e, h, rs⟩ := seqOf_inv m (show seqOf S (.fl xs) = some xs from rfl) r
    exact .inl (lst h e)
  | sc xs =>
    obtain ⟨a, vs, e, h, rs⟩ := seqOf_inv m (show seqOf S (.sc xs) = some xs from rfl) r
    exact .inl (lst h e)
  | dc t kvs =>
    obtain ⟨a, e, dk⟩ := dict_inv m (show dictOf S (.dc t kvs) = some (t, kvs) from rfl) r
    exact .inl (dct dk e)
  | ob c fs =>
    cases r with
    | @ob a dx _ _ vs h1 h2 o1 o2 k1 k2 rs =>
      cases (show u = Value.ref a from ru)
      obtain ⟨sl, od, _, J, _⟩ := slt_inst I (show Slt H a (F.T c) dx (vs.map some) from .inr ⟨h1, h2⟩)
      exact .inr (.inl ⟨c, fs, rfl, J.type⟩)
  | cls c => exact .inr (.inr (.inl ⟨c, rfl⟩))
  | ref n =>
    cases g : S.get n with
    | none => exact .inr (.inr (.inr ⟨n, rfl, fun o z => by rw [g] at z; cases z⟩))
    | some o =>
      cases o with
      | lst xs =>
        obtain ⟨a, vs, e, h, rs⟩ := seqOf_inv m (show seqOf S (.ref n) = some xs by show (match S.get n with | some (.lst xs) => some xs | _ => none) = some xs; rw [g]) r
        exact .inl (lst h e)
      | dic t kvs =>
        obtain ⟨a, e, dk⟩ := dict_inv m (show dictOf S (.ref n) = some (t, kvs) by show (match S.get n with | some (.dic t kvs) => some (t, kvs) | _ => none) = some (t, kvs); rw [g]) r
        exact .inl (dct dk e)
      | ins c fs => exact .inr (.inr (.inr ⟨n, rfl, fun o z => by rw [g] at z; cases z; exact ⟨c, fs, rfl⟩⟩))
/-- an own method -/
structure OwnF (X : Cx) (F : Fx) (k : Nat) (c : Nat) (name : Str) (j : Nat) : Prop where
  ex : ∃ g, PySem.W.findIn X.K (.ref (F.T c)) name = some (some (.ref g)) ∧ PySem.W.isFn X.K (.ref g) = true ∧ FnR X.prog X.w X.K X.mg X.base (CX X.prog X.w) k g (spF X.K F.T F.Z (F.cal j))
/-- an own function is called by an operator -/
theorem run_own {A : Around} {k j : Nat} {g : Addr} {us : List Value} {ws : List V} {ds : List D} {Q : VK} (FR : FnR X.prog X.w X.K X.mg X.base (CX X.prog X.w) k g (spF X.K F.T F.Z (F.cal j))) (hr : Room k A) (e0 : Env0 X.prog X.w X.K X.mg X.base A X.stack s H) (hx : Psv X W) (I : L2.Inv X pins σ H s) (rv : Vals ws us)
    (m : RS X.K F.T ρ S H) (rd : RDs X.K F.T ρ H ds ws) (r : Run X.K F.T F.Z (RD X.K F.T) (fun c d H => W c d σ H) ρ H (F.cal j ds S) Q) : wpAny (model X.prog X.w) A (call (.ref g) us) (EP X pins σ Q) X.xe s := by
  refine wpAny_call (codeAny_mono (FR A X.stack s H us ws Q (fun c d H => W c d σ H) hr e0 rv ⟨ρ, ds, S, m, rd, r⟩) fun r s' hq => ?_)
  cases r with
  | error e => exact hx σ pins H s e s' I hq
  | ok fl =>
    cases fl with
    | ret u => exact I.after hq
    | _ => exact False.elim hq
/-- an own __eq__; no own __ne__ -/
structure EqF (X : Cx) (F : Fx) (k : Nat) (tb : List (Nat × Nat)) (c j : Nat) : Prop where
  ex : ∃ g, PySem.W.findIn X.K (.ref (F.T c)) "__eq__" = some (some (.ref g)) ∧ PySem.W.isFn X.K (.ref g) = true ∧ FnR X.prog X.w X.K X.mg X.base (CX X.prog X.w) k g (spF X.K F.T F.Z (F.cal j))
  ne : PySem.W.findIn X.K (.ref (F.T c)) "__ne__" = some (some (.builtin "object.__ne__"))
  ob : PySem.W.mroIn X.K (F.T c) (.type "object") = some true
  t1 : ∀ t ∈ tyNames, PySem.W.notFirst X.K (F.T c) (.type t) = true
  t2 : ∀ e, (tb.lookup e).isSome = true → PySem.W.notFirst X.K (F.T c) (.ref (F.T e)) = true
/-- an own __lt__, __le__ -/
structure LtF (X : Cx) (F : Fx) (k : Nat) (nm : Str) (tb : List (Nat × Nat)) (c j : Nat) : Prop where
  ex : ∃ g, PySem.W.findIn X.K (.ref (F.T c)) nm = some (some (.ref g)) ∧ PySem.W.isFn X.K (.ref g) = true ∧ FnR X.prog X.w X.K X.mg X.base (CX X.prog X.w) k g (spF X.K F.T F.Z (F.cal j))
  t1 : ∀ t ∈ tyNames, PySem.W.notFirst X.K (F.T c) (.type t) = true
  t2 : ∀ e, (tb.lookup e).isSome = true → PySem.W.notFirst X.K (F.T c) (.ref (F.T e)) = true
end
section
variable {prog : Program} {w : World} {A : Around} {E : Value → Shared → Prop} {s : Shared} {K : PySem.W.Frag} {x C f : Addr} {ox : Obj} {od : Option Obj} {b tb : Value}
theorem ifBound_B {args : List Value} {Q : Option Value → Shared → Prop} (X : K.In s.heap) (I : PySem.W.InstAt s.heap x ox C od) (hs : PySem.W.findIn K (.ref C) "__ne__" = some (some (.builtin "object.__ne__")))
    (h : wpAny (model prog w) A (call (.builtin "object.__ne__") (.ref x :: args)) (fun v => Q (some v)) E s) : wpAny (model prog w) A (callSpecialIfBound? (.ref x) "__ne__" args) Q E s := by
  simp only [callSpecialIfBound?, bindSpecialIfBound?]
  refine wpAny_holding (wpAny_bind (wpAny_bind (wpAny_bind (I.type.here ((PySem.W.looks_findIn X hs).here ?_)))))
  refine wpAny_bind (wpAny_askSetting (wpAny_ite ?_))
  have fin : wpAny (model prog w) A (call (.builtin "object.__ne__") ([.ref x] ++ args) >>= fun v => pure (some v)) Q E s := wpAny_bind (wpAny_mono h (fun v s' h' => wpAny_pure h') fun _ _ h' => h')
  have hbind := F.cmp_object.ne.bind (.ref x)
  split
  · exact wpAny_bind (wpAny_of_eq hbind (wpAny_pure (by exact fin)))
  · exact wpAny_tryCatch (wpAny_bind (wpAny_of_eq hbind (wpAny_pure (by exact fin))))
theorem ne_own {Q : Value → Shared → Prop} (hu : A.units + 1 < cLine) (X : K.In s.heap) (I : PySem.W.InstAt s.heap x ox C od) (hb : PySem.W.Looks (model prog w) s.heap (typeOf b) tb) (hn : PySem.W.notFirst K C tb = true)
    (hne : PySem.W.findIn K (.ref C) "__ne__" = some (some (.builtin "object.__ne__"))) (hob : PySem.W.mroIn K C (.type "object") = some true)
    (hs : PySem.W.findIn K (.ref C) "__eq__" = some (some (.ref f))) (hf : PySem.W.isFn K (.ref f) = true)
    (h : wpAny (model prog w) A.in1 (call (.ref f) [.ref x, b]) (fun v s' => ∃ r, v = .bool r ∧ Q (.bool (!r)) s') E s) : wpAny (model prog w) A (richCompare .NotEq (.ref x) b) Q E s := by
  have one : wpAny (model prog w) A (tryCompare (.ref x) "__ne__" b) (fun r s' => ∃ v, r = some v ∧ Q v s') E s := by
    unfold tryCompare
    refine wpAny_bind (ifBound_B X I hne ?_)
    have sub : PySem.W.Looks (model prog w) s.heap (isInstance (.ref x) (.type "object")) true := I.type.andThen (PySem.W.looks_mroIn X hob)
    refine wpAny_call (codeAny_call_builtin F.cmp_object.ne.plain F.cmpEntry_ne (PySem.W.check_slot F.cmpKind_ne F.cmpSplit_ne sub (F.cmpArgs_ne _ _) ?_))
    unfold Builtin.«object.__ne__»
    repeat (first
      | with_reducible refine wpAny_cRoomFor hu ?_
      | (refine wpAny_bind (m := callSpecialIfBound? (.ref x) (Str.ofString "__eq__") [b])
          (PySem.W.ifBound_K X I hs hf (wpAny_mono h (fun r s' hr => by
            obtain ⟨b, rfl, hq⟩ := hr
            repeat (first | exact ⟨_, rfl, hq⟩ | exact wpAny_pure ⟨_, rfl, hq⟩ | (refine wpAny_bind (m := truthy (.bool _)) (wpAny_truthy_bool ?_)) | wp_step)) fun _ _ e => e)))
      | wp_step)
  unfold richCompare
  simp only [oneThing_ref]
  refine wpAny_holding (wpAny_bind (wpAny_cRoomFor (Nat.lt_of_succ_lt hu) ?_))
  rw [cmpInfo_NotEq]
  dsimp only
  refine wpAny_bind (I.type.here (wpAny_bind (hb.here ?_)))
  split
  · rename_i q
    have e : PySem.W.subIn K tb (.ref C) = some false := by
      rcases Bool.or_eq_true_iff.mp hn with e | e
      · rw [beq_iff_eq.mp e] at q; simp at q
      · exact beq_iff_eq.mp e
    refine wpAny_bind ((PySem.W.looks_subIn X e).here ?_)
    simp only [Bool.false_eq_true, if_false]
    refine wpAny_bind (wpAny_mono one (fun r s' z => ?_) fun _ _ e => e)
    obtain ⟨v, rfl, hq⟩ := z
    exact wpAny_pure hq
  · refine wpAny_bind (wpAny_pure ?_)
    simp only [Bool.false_eq_true, if_false]
    refine wpAny_bind (wpAny_mono one (fun r s' z => ?_) fun _ _ e => e)
    obtain ⟨v, rfl, hq⟩ := z
    exact wpAny_pure hq
/-- an own binary operator, the right operand of a built-in type -/
theorem bin_own {op : Operator} {T : String} {fo ro rc : Option Value} {Q : Value → Shared → Prop} (X : K.In s.heap) (I : PySem.W.InstAt s.heap x ox C od) (hb : PySem.W.Looks (model prog w) s.heap (typeOf b) (.type T)) (hc : PySem.W.selfFirst K C = true)
    (hs : PySem.W.findIn K (.ref C) (PySem.dunder op.info.2) = some (some (.ref f))) (hf : PySem.W.isFn K (.ref f) = true) (hr : PySem.W.findIn K (.ref C) (dunderR op.info.2) = some rc) (hp : rc = none ∨ ∃ g : Addr, rc = some (.ref g))
    (h1 : PySem.W.findIn K (.type T) (PySem.dunder op.info.2) = some fo) (h2 : PySem.W.findIn K (.type T) (dunderR op.info.2) = some ro) (hsub : PySem.W.subIn K (.type T) (.ref C) = some false)
    (h : wpAny (model prog w) A (call (.ref f) [.ref x, b]) (PySem.W.CmpBack Q) E s) : wpAny (model prog w) A (binaryOp op (.ref x) b) Q E s := by
  obtain ⟨cd, rest, hcd, hm⟩ := PySem.W.ksp_first hc
  rcases hi : op.info with ⟨sym, nm⟩
  rw [hi] at hs hr h1 h2
  dsimp only at hs hr h1 h2
  have one := PySem.W.ksp_try X I hs hf h
  obtain ⟨hh, g, d, tt, os⟩ := s
  have a1 : PySem.W.Looks (model prog w) hh (typeOf (.ref x)) (.ref C) := I.type
  have a2 : PySem.W.Looks (model prog w) hh (typeOf b) (.type T) := hb
  have a3 : PySem.W.Looks (model prog w) hh (fillsNumberSlot (.ref C) nm) true := PySem.W.fills_K X hcd hm hs
  have a4 : PySem.W.Looks (model prog w) hh (fillsNumberSlot (.type T) nm) ((fo.isSome && !isSeqSlot fo) || (ro.isSome && !isSeqSlot ro)) := PySem.W.ksp_fillsT X h1 h2
  have a5 : PySem.W.Looks (model prog w) hh (isSubtype (.type T) (.ref C)) false := PySem.W.looks_subIn X hsub
  have a6 : PySem.W.Looks (model prog w) hh (numberSlotInPython (.ref C) nm) true := PySem.W.ksp_inPy X hs hr hp
  have a7 : PySem.W.Looks (model prog w) hh (numberSlotInPython (.type T) nm) false := PySem.W.Looks.of_pure rfl
  have a8 : PySem.W.Looks (model prog w) hh (typeLookup (.type T) (dunderR nm)) ro := PySem.W.looks_findIn X h2
  generalize ((fo.isSome && !isSeqSlot fo) || (ro.isSome && !isSeqSlot ro)) = right at a4
  have hne : (Value.ref C == Value.type T) = false := Bool.eq_false_iff.mpr fun q => by cases beq_iff_eq.mp q
  simp only [binaryOp, hi]
  refine wpAny_holding (wpAny_bind ?_)
  unfold binaryOp1
  refine wpAny_bind (a1.at (wpAny_bind (a2.at (wpAny_bind (a3.at ?_)))))
  simp only [hne, Bool.false_eq_true, if_false]
  cases right with
  | false =>
    ksp_lk
    refine wpAny_mono one (fun r s' z => ?_) fun _ _ e => e
    obtain ⟨v, rfl, hq⟩ := z
    ksp_lk
    exact hq
  | true =>
    ksp_lk
    refine wpAny_mono one (fun r s' z => ?_) fun _ _ e => e
    obtain ⟨v, rfl, hq⟩ := z
    ksp_lk
    exact hq
end
end Lk
end

section
/-! FP: the rules of own operators. -/
set_option Elab.async false
set_option linter.all false
set_option maxRecDepth 100000
set_option maxHeartbeats 2000000
namespace Lk
open PySem PySem.Spec PyProof.Rows L2 SlX
section
variable {X : Cx} {F : Fx} {W : WX} {W' : XK} {pins : List (Addr × Obj)} {σ : L2.St} {H : Hp} {s : Shared} {ρ : Pm} {S : Store}
/-- what an own comparison finds at its right -/
theorem cmp_ty (I : L2.Inv X pins σ H s) (m : RS X.K F.T ρ S H) {tb : List (Nat × Nat)} {c : Nat} {d : D} {v : V} {u : Value} (r : RD X.K F.T ρ H d v) (ru : L2.RelV v u) (hok : okR S tb d = true) (t1 : ∀ t ∈ tyNames, PySem.W.notFirst X.K (F.T c) (.type t) = true) (t2 : ∀ e, (tb.lookup e).isSome = true → PySem.W.notFirst X.K (F.T c) (.ref (F.T e)) = true) :
    ∃ tt, PySem.W.Looks (model X.prog X.w) s.heap (typeOf u) tt ∧ PySem.W.notFirst X.K (F.T c) tt = true := by
  rcases typ_of I m r ru with ⟨t, ht, hl⟩ | ⟨e, fs, rfl, hl⟩ | ⟨e, rfl⟩ | ⟨n, rfl, hn⟩
  · exact ⟨_, hl, t1 t ht⟩
  · exact ⟨_, hl, t2 e hok⟩
  · cases hok
  · have hok : (match S.get n with | some (.lst _) => true | _ => false) = true := hok
    cases g : S.get n with
    | none => rw [g] at hok; cases hok
    | some o =>
      obtain ⟨c', fs, rfl⟩ := hn o g
      rw [g] at hok
      cases hok
/-- a truth value is what the method gives -/
theorem bool_back {w' : Value} {s' : Shared} {d : D} {f : Bool → Bool} {Q : VK} (h : EP X pins σ (fun v H1 => ∃ ρ1 d S1, RS X.K F.T ρ1 S1 H1 ∧ RD X.K F.T ρ1 H1 d v ∧ Run X.K F.T F.Z (rdR X F) W' ρ1 H1 (M.opt ((truth d).map fun b => .bl (f b)) S1) Q) w' s') : ∃ b, w' = .bool b ∧ EP X pins σ Q (.bool (f b)) s' := by
  obtain ⟨z', H', I', rz, ρ1, d, S1, m1, rd, q⟩ := h
  obtain ⟨b0, hb0, q⟩ := Run.opt q
  obtain ⟨b, hb, rfl⟩ := map_some hb0
  cases truth_inv hb
  have ez := rd.bl_inv
  subst ez
  cases (show w' = Value.bool b from rz)
  exact ⟨b, rfl, .bl (f b), H', I', rfl, Run.here m1 q (.bl (f b))⟩
/-- .. called calmly -/
theorem run_calm {A : Around} {k j : Nat} {g : Addr} {us : List Value} {ws : List V} {ds : List D} {f : Bool → Bool} {Q : VK} (FR : FnR X.prog X.w X.K X.mg X.base (CX X.prog X.w) k g (spF X.K F.T F.Z (F.cal j))) (hr : Room k A) (e0 : Env0 X.prog X.w X.K X.mg X.base A X.stack s H) (I : L2.Inv X pins σ H s) (rv : Vals ws us)
    (m : RS X.K F.T ρ S H) (rd : RDs X.K F.T ρ H ds ws) (r : Run X.K F.T F.Z (rdR X F) W' ρ H (M.calm (M.bind (F.cal j ds) fun r => M.opt ((truth r).map fun b => .bl (f b))) S) Q) : wpAny (model X.prog X.w) A (call (.ref g) us) (fun w' s' => ∃ b, w' = .bool b ∧ EP X pins σ Q (.bool (f b)) s') X.xe s := by
  have r' := Run.bind (rA := rdR X F) (calm_run (W' := fun _ _ _ => False) r)
  refine wpAny_mono (run_own (W := W0) (F := F) FR hr e0 psv_none I rv m rd r') (fun w' s' z => ?_) fun _ _ x => x
  obtain ⟨z', H', I', rz, ρ1, d, S1, _, e1, m1, rd', q⟩ := z
  exact bool_back (d := d) ⟨z', H', I', rz, ρ1, d, S1, m1, rd', q⟩
theorem cmpC_eq {op : CmpOp} {o : Cop} {k : Nat} {tb : List (Nat × Nat)} (ho : (op = .Eq ∧ o = .eq) ∨ (op = .NotEq ∧ o = .ne)) (hd : OpR X (compareOp op) (CmpR X F o)) (E : ∀ c f, tb.lookup c = some f → EqF X F k tb c f) (hr : Room (k + 1) X.A) : OpR X (compareOp op) (CmpC X F W' o tb) := by
  intro pins s σ H x y v u Q I rx ry h
  obtain ⟨ρ, x', y', S, m, r1, r2, r⟩ := h
  by_cases hx : ∃ c fs, x' = .ob c fs
  · obtain ⟨c, fs, rfl⟩ := hx
    cases r1 with
    | @ob a dx _ _ vs h1 h2 o1 o2 k1 k2 rs =>
    cases (show v = Value.ref a from rx)
    obtain ⟨sl, od, _, J, _⟩ := slt_inst I (show Slt H a (F.T c) dx (vs.map some) from .inr ⟨h1, h2⟩)
    have key : ∀ (hok : okR S tb y' = true) (f : Nat) (hl : tb.lookup c = some f), ∃ g tt, PySem.W.Looks (model X.prog X.w) s.heap (typeOf u) tt ∧ PySem.W.notFirst X.K (F.T c) tt = true ∧ PySem.W.findIn X.K (.ref (F.T c)) "__eq__" = some (some (.ref g)) ∧ PySem.W.isFn X.K (.ref g) = true ∧ FnR X.prog X.w X.K X.mg X.base (CX X.prog X.w) k g (spF X.K F.T F.Z (F.cal f)) := fun hok f hl => by
      have EF := E c f hl
      obtain ⟨g, hg, hfn, FR⟩ := EF.ex
      obtain ⟨tt, hlk, hnf⟩ := cmp_ty I m r2 ry hok EF.t1 EF.t2
      exact ⟨g, tt, hlk, hnf, hg, hfn, FR⟩
    have vals : Vals [V.ref a, y] [Value.ref a, u] := .cons rfl (.cons ry .nil)
    have rds : RDs X.K F.T ρ H [.ob c fs, y'] [V.ref a, y] := .cons (.ob h1 h2 o1 o2 k1 k2 rs) (.cons r2 .nil)
    obtain ⟨m0, hF⟩ := I.fr
    rcases ho with ⟨rfl, rfl⟩ | ⟨rfl, rfl⟩
    · simp only [cmpC] at r
      cases hok : okR S tb y' with
      | false => simp only [hok] at r; exact r.elim
      | true =>
        cases hl : tb.lookup c with
        | none => simp only [hok, hl] at r; exact r.elim
        | some f =>
          simp only [hok, hl] at r
          obtain ⟨g, tt, hlk, hnf, hg, hfn, FR⟩ := key hok f hl
          show wpAny _ _ (richCompare .Eq (.ref a) u) _ _ _
          refine PySem.W.cmp_K (op := .Eq) hr.units0 hF I.ok.mod.kin J hlk hnf hg hfn ?_
          refine wpAny_mono (run_calm (f := id) FR (hr.mono (by omega)) I.env0 I vals m rds r) (fun w' s' z => ?_) fun _ _ x => x
          obtain ⟨b, rfl, z⟩ := z
          exact z
    · simp only [cmpC] at r
      cases hok : okR S tb y' with
      | false => simp only [hok] at r; exact r.elim
      | true =>
        cases hl : tb.lookup c with
        | none => simp only [hok, hl] at r; exact r.elim
        | some f =>
          simp only [hok, hl] at r
          obtain ⟨g, tt, hlk, hnf, hg, hfn, FR⟩ := key hok f hl
          have EF := E c f hl
          show wpAny _ _ (richCompare .NotEq (.ref a) u) _ _ _
          exact ne_own (by have := hr.un; omega) I.kIn J hlk hnf EF.ne EF.ob hg hfn (run_calm (f := fun b => !b) FR hr.in1 I.env0.in1 I vals m rds r)
  · have e : cmpC F.cal o tb x' y' S = M.opt ((cmpD S o x' y').map .bl) S := by
      rcases ho with ⟨_, rfl⟩ | ⟨_, rfl⟩ <;> (cases x' <;> first | rfl | exact absurd ⟨_, _, rfl⟩ hx)
    rw [e] at r
    obtain ⟨z, hz, r⟩ := Run.opt r
    obtain ⟨b, hb, rfl⟩ := map_some hz
    exact hd pins s σ H x y v u Q I rx ry ⟨ρ, x', y', S, b, m, r1, r2, hb, Run.here m r (.bl b)⟩
theorem cmpC_lt {op : CmpOp} {o : Cop} {k : Nat} {tb : List (Nat × Nat)} (ho : (op = .Lt ∧ o = .lt) ∨ (op = .LtE ∧ o = .le)) (hd : OpR X (compareOp op) (CmpR X F o)) (E : ∀ c f, tb.lookup c = some f → LtF X F k (cmpInfo op).2.1 tb c f) (hr : Room (k + 1) X.A) : OpR X (compareOp op) (CmpC X F W' o tb) := by
  intro pins s σ H x y v u Q I rx ry h
  obtain ⟨ρ, x', y', S, m, r1, r2, r⟩ := h
  by_cases hx : ∃ c fs, x' = .ob c fs
  · obtain ⟨c, fs, rfl⟩ := hx
    cases r1 with
    | @ob a dx _ _ vs h1 h2 o1 o2 k1 k2 rs =>
    cases (show v = Value.ref a from rx)
    obtain ⟨sl, od, _, J, _⟩ := slt_inst I (show Slt H a (F.T c) dx (vs.map some) from .inr ⟨h1, h2⟩)
    have vals : Vals [V.ref a, y] [Value.ref a, u] := .cons rfl (.cons ry .nil)
    have rds : RDs X.K F.T ρ H [.ob c fs, y'] [V.ref a, y] := .cons (.ob h1 h2 o1 o2 k1 k2 rs) (.cons r2 .nil)
    obtain ⟨m0, hF⟩ := I.fr
    have fin : ∀ f, okR S tb y' = true → tb.lookup c = some f → Run X.K F.T F.Z (rdR X F) W' ρ H (M.calm (M.bind (F.cal f [.ob c fs, y']) fun r => M.opt ((truth r).map .bl)) S) Q → wpAny (model X.prog X.w) X.A (richCompare op (.ref a) u) (EP X pins σ Q) X.xe s := fun f hok hl r => by
      have EF := E c f hl
      obtain ⟨g, hg, hfn, FR⟩ := EF.ex
      obtain ⟨tt, hlk, hnf⟩ := cmp_ty I m r2 ry hok EF.t1 EF.t2
      refine PySem.W.cmp_K (op := op) hr.units0 hF I.ok.mod.kin J hlk hnf hg hfn ?_
      refine wpAny_mono (run_calm (f := id) FR (hr.mono (by omega)) I.env0 I vals m rds r) (fun w' s' z => ?_) fun _ _ x => x
      obtain ⟨b, rfl, z⟩ := z
      exact z
    rcases ho with ⟨rfl, rfl⟩ | ⟨rfl, rfl⟩
    · simp only [cmpC] at r
      cases hok : okR S tb y' with
      | false => simp only [hok] at r; exact r.elim
      | true =>
        cases hl : tb.lookup c with
        | none => simp only [hok, hl] at r; exact r.elim
        | some f =>
          simp only [hok, hl] at r
          exact fin f hok hl r
    · simp only [cmpC] at r
      cases hok : okR S tb y' with
      | false => simp only [hok] at r; exact r.elim
      | true =>
        cases hl : tb.lookup c with
        | none => simp only [hok, hl] at r; exact r.elim
        | some f =>
          simp only [hok, hl] at r
          exact fin f hok hl r
  · have e : cmpC F.cal o tb x' y' S = M.opt ((cmpD S o x' y').map .bl) S := by
      rcases ho with ⟨_, rfl⟩ | ⟨_, rfl⟩ <;> (cases x' <;> first | rfl | exact absurd ⟨_, _, rfl⟩ hx)
    rw [e] at r
    obtain ⟨z, hz, r⟩ := Run.opt r
    obtain ⟨b, hb, rfl⟩ := map_some hz
    exact hd pins s σ H x y v u Q I rx ry ⟨ρ, x', y', S, b, m, r1, r2, hb, Run.here m r (.bl b)⟩
theorem cmpC_gt {op : CmpOp} {o : Cop} (ho : o = .gt ∨ o = .ge) (hd : OpR X (compareOp op) (CmpR X F o)) : OpR X (compareOp op) (CmpC X F W' o []) := OpRw hd fun v w H Q q => by
  obtain ⟨ρ, x, y, S, m, rx, ry, r⟩ := q
  by_cases hx : ∃ c fs, x = .ob c fs
  · obtain ⟨c, fs, rfl⟩ := hx
    have e : cmpC F.cal o [] (.ob c fs) y S = .bad := by
      rcases ho with rfl | rfl <;> (simp only [cmpC, List.lookup]; cases okR S [] y <;> rfl)
    rw [e] at r
    exact r.elim
  · have e : cmpC F.cal o [] x y S = M.opt ((cmpD S o x y).map .bl) S := by rcases ho with rfl | rfl <;> (cases x <;> first | rfl | exact absurd ⟨_, _, rfl⟩ hx)
    rw [e] at r
    obtain ⟨z, hz, r⟩ := Run.opt r
    obtain ⟨b, hb, rfl⟩ := map_some hz
    exact ⟨ρ, x, y, S, b, m, rx, ry, hb, Run.here m r (.bl b)⟩
theorem cmpC_in {op : CmpOp} {o : Cop} {k : Nat} {tb : List (Nat × Nat)} (ho : (op = .In ∧ o = .inn) ∨ (op = .NotIn ∧ o = .nin)) (hd : OpR X (compareOp op) (CmpR X F o)) (E : ∀ c f, tb.lookup c = some f → OwnF X F k c "__contains__" f) (hr : Room (k + 1) X.A) : OpR X (compareOp op) (CmpC X F W' o tb) := by
  intro pins s σ H x y v u Q I rx ry h
  obtain ⟨ρ, x', y', S, m, r1, r2, r⟩ := h
  by_cases hy : ∃ c fs, y' = .ob c fs
  · obtain ⟨c, fs, rfl⟩ := hy
    cases r2 with
    | @ob a dx _ _ vs h1 h2 o1 o2 k1 k2 rs =>
    cases (show u = Value.ref a from ry)
    obtain ⟨sl, od, _, J, _⟩ := slt_inst I (show Slt H a (F.T c) dx (vs.map some) from .inr ⟨h1, h2⟩)
    have vals : Vals [V.ref a, x] [Value.ref a, v] := .cons rfl (.cons rx .nil)
    have rds : RDs X.K F.T ρ H [.ob c fs, x'] [V.ref a, x] := .cons (.ob h1 h2 o1 o2 k1 k2 rs) (.cons r1 .nil)
    obtain ⟨m0, hF⟩ := I.fr
    rcases ho with ⟨rfl, rfl⟩ | ⟨rfl, rfl⟩
    · simp only [cmpC] at r
      cases hl : tb.lookup c with
      | none => simp only [hl] at r; exact r.elim
      | some f =>
        simp only [hl] at r
        obtain ⟨g, hg, hfn, FR⟩ := (E c f hl).ex
        refine PySem.W.in_K hF I.ok.mod.kin J hg hfn (wpAny_mono (run_calm (f := id) FR (hr.mono (by omega)) I.env0 I vals m rds r) (fun w' s' z => ?_) fun _ _ x => x)
        obtain ⟨b, rfl, z⟩ := z
        exact wpAny_truthy_bool z
    · simp only [cmpC] at r
      cases hl : tb.lookup c with
      | none => simp only [hl] at r; exact r.elim
      | some f =>
        simp only [hl] at r
        obtain ⟨g, hg, hfn, FR⟩ := (E c f hl).ex
        refine PySem.W.notIn_K hF I.ok.mod.kin J hg hfn (wpAny_mono (run_calm (f := fun b => !b) FR (hr.mono (by omega)) I.env0 I vals m rds r) (fun w' s' z => ?_) fun _ _ x => x)
        obtain ⟨b, rfl, z⟩ := z
        exact wpAny_truthy_bool z
  · have e : cmpC F.cal o tb x' y' S = M.opt ((cmpD S o x' y').map .bl) S := by
      rcases ho with ⟨_, rfl⟩ | ⟨_, rfl⟩ <;> (cases y' <;> first | rfl | exact absurd ⟨_, _, rfl⟩ hy)
    rw [e] at r
    obtain ⟨z, hz, r⟩ := Run.opt r
    obtain ⟨b, hb, rfl⟩ := map_some hz
    exact hd pins s σ H x y v u Q I rx ry ⟨ρ, x', y', S, b, m, r1, r2, hb, Run.here m r (.bl b)⟩
end
end Lk
end

section
/-! FQ: operators, subscripts, built-ins of own instances. -/
set_option Elab.async false
set_option linter.all false
set_option maxRecDepth 100000
set_option maxHeartbeats 2000000
namespace Lk
open PySem PySem.Spec PyProof.Rows L2 SlX
section
variable {prog : Program} {w : World} {A : Around} {E : Value → Shared → Prop} {s : Shared} {K : PySem.W.Frag} {x C f : Addr} {ox : Obj} {od : Option Obj} {b tb : Value}
theorem int_declines {i : Int} {t : Tok} (hn : ∀ p, ox.data ≠ .prim p) : GivesAt (fun s => s.heap.get? x = some ox) (Builtin.«int.__mul__» ⟨[.int i t, .ref x], []⟩) (.val .notImplemented) := fun prog w A R s hd h => by
  unfold Builtin.«int.__mul__» Builtin.Int.intBinary
  refine wpAny_bind (wpAny_of_eq (show slotArgs "__mul__" 1 ⟨[.int i t, .ref x], []⟩ = pure (.int i t, [.ref x]) from rfl) ?_)
  refine wpAny_bind (wpAny_of_eq (show Builtin.Int.intOfSelf (.int i t) = pure i from rfl) ?_)
  refine wpAny_bind ?_
  show wpAny _ _ (asInt? (.ref x)) _ _ _
  unfold asInt?
  refine wpAny_bind (wpAny_load hd ?_)
  have e : (match ox.data with | .prim (.int i _) => (pure (some i) : Sem (Option Int)) | _ => pure none) = pure none := by
    split
    · rename_i z; exact absurd z (hn _)
    · rfl
  refine wpAny_of_eq e ?_
  exact wpAny_bind (wpAny_rule (wpAny_pure h))
theorem int_passes {i : Int} {t : Tok} {nm : Str} (sl : Slot "int" nm "int.__mul__") {Q : Option Value → Shared → Prop} (h : wpAny (model prog w) A (call (.builtin "int.__mul__") [.int i t, .ref x]) (fun v s' => v = .notImplemented ∧ Q none s') E s) : wpAny (model prog w) A (tryMethod (.int i t) nm (.ref x)) Q E s :=
  PySem.wpAny_tryMethod_declines (T := "int") (typeIs_int s i t) sl h
theorem int_tries {i : Int} {t : Tok} {Q : Option Value → Shared → Prop} (hd : s.heap.get? x = some ox) (hn : ∀ p, ox.data ≠ .prim p) (h : Q none s) : wpAny (model prog w) A (tryMethod (.int i t) (PySem.dunder "mul") (.ref x)) Q E s :=
  int_passes F.slot_int_mul (call_givesAt F.slot_int_mul (typeIs_int s i t) F.entry_int_mul (F.args_int_mul_2 _ _) (int_declines hn) hd ⟨rfl, h⟩)
/-- an int times an own instance -/
theorem rev_own {i : Int} {t : Tok} {Q : Value → Shared → Prop} (X : K.In s.heap) (I : PySem.W.InstAt s.heap x ox C od) (hn : ∀ p, ox.data ≠ .prim p) (hc : PySem.W.selfFirst K C = true)
    (hm : ∃ g : Addr, PySem.W.findIn K (.ref C) (PySem.dunder "mul") = some (some (.ref g))) (hsub : PySem.W.mroIn K C (.type "int") = some false)
    (hs : PySem.W.findIn K (.ref C) (dunderR "mul") = some (some (.ref f))) (hf : PySem.W.isFn K (.ref f) = true)
    (h : wpAny (model prog w) A (call (.ref f) [.ref x, .int i t]) (PySem.W.CmpBack Q) E s) : wpAny (model prog w) A (binaryOp .Mult (.int i t) (.ref x)) Q E s := by
  obtain ⟨cd, rest, hcd, hmr⟩ := PySem.W.ksp_first hc
  obtain ⟨g, hg⟩ := hm
  have a3 : PySem.W.Looks (model prog w) s.heap (fillsNumberSlot (.ref C) "mul") true := PySem.W.fills_K X hcd hmr hg
  have a5 : PySem.W.Looks (model prog w) s.heap (isSubtype (.ref C) (.type "int")) false := PySem.W.looks_mroIn X hsub
  have one := PySem.W.ksp_try X I hs hf h
  unfold binaryOp
  refine wpAny_holding (wpAny_bind ?_)
  show wpAny _ _ (binaryOp1 "mul" _ _) _ _ _
  unfold binaryOp1
  refine wpAny_bind (wpAny_typeOf (typeIs_int s i t) (wpAny_bind (I.type.here (wpAny_bind (wpAny_of_eq F.fills_int_mul ?_)))))
  have hne : (Value.type "int" == Value.ref C) = false := Bool.eq_false_iff.mpr fun q => by cases beq_iff_eq.mp q
  simp only [hne, Bool.false_eq_true, if_false]
  refine wpAny_bind (a3.here ?_)
  simp only [Bool.and_self, if_true]
  refine wpAny_bind (a5.here ?_)
  have hpy : numberSlotInPython (.type "int") "mul" = pure false := rfl
  simp only [Bool.false_eq_true, if_false, pure_bind, Bool.not_false, Bool.and_self, if_true, hpy]
  refine wpAny_bind (int_tries I.at_ hn ?_)
  dsimp only
  refine wpAny_bind (wpAny_mono one (fun r s' z => ?_) fun _ _ e => e)
  obtain ⟨v, rfl, hq⟩ := z
  exact wpAny_bind (wpAny_rule (wpAny_pure (wpAny_pure hq)))
end
section
variable {X : Cx} {F : Fx} {W : WX} {W' : XK} {pins : List (Addr × Obj)} {σ : L2.St} {H : Hp} {s : Shared} {ρ : Pm} {S : Store}
theorem ep_back {Q : VK} {u : Value} {s' : Shared} (h : EP X pins σ Q u s') : PySem.W.CmpBack (EP X pins σ Q) u s' := by
  unfold PySem.W.CmpBack
  split
  · obtain ⟨v, H', I', r, q⟩ := h
    cases v <;> first | cases (show _ = _ from r) | (obtain ⟨t, e⟩ := r; cases e)
  · exact h
/-- an own operator -/
structure BinF (X : Cx) (F : Fx) (k : Nat) (nm : String) (c j : Nat) : Prop where
  ex : ∃ g, PySem.W.findIn X.K (.ref (F.T c)) (PySem.dunder nm) = some (some (.ref g)) ∧ PySem.W.isFn X.K (.ref g) = true ∧ FnR X.prog X.w X.K X.mg X.base (CX X.prog X.w) k g (spF X.K F.T F.Z (F.cal j))
  fst : PySem.W.selfFirst X.K (F.T c) = true
  rv : ∃ rc, PySem.W.findIn X.K (.ref (F.T c)) (dunderR nm) = some rc ∧ (rc = none ∨ ∃ g : Addr, rc = some (.ref g))
  ty : ∀ t ∈ tyNames, ∃ fo ro, PySem.W.findIn X.K (.type t) (PySem.dunder nm) = some fo ∧ PySem.W.findIn X.K (.type t) (dunderR nm) = some ro ∧ PySem.W.subIn X.K (.type t) (.ref (F.T c)) = some false
/-- an own __rmul__ -/
structure RevF (X : Cx) (F : Fx) (k : Nat) (c j : Nat) : Prop where
  ex : ∃ g, PySem.W.findIn X.K (.ref (F.T c)) (dunderR "mul") = some (some (.ref g)) ∧ PySem.W.isFn X.K (.ref g) = true ∧ FnR X.prog X.w X.K X.mg X.base (CX X.prog X.w) k g (spF X.K F.T F.Z (F.cal j))
  fst : PySem.W.selfFirst X.K (F.T c) = true
  ml : ∃ g : Addr, PySem.W.findIn X.K (.ref (F.T c)) (PySem.dunder "mul") = some (some (.ref g))
  ni : PySem.W.mroIn X.K (F.T c) (.type "int") = some false
theorem bin_ty (I : L2.Inv X pins σ H s) (m : RS X.K F.T ρ S H) {c : Nat} {d : D} {v : V} {u : Value} (r : RD X.K F.T ρ H d v) (ru : L2.RelV v u) (hok : okB S c d = true) :
    (∃ t, t ∈ tyNames ∧ PySem.W.Looks (model X.prog X.w) s.heap (typeOf u) (.type t)) ∨ PySem.W.Looks (model X.prog X.w) s.heap (typeOf u) (.ref (F.T c)) := by
  rcases typ_of I m r ru with h | ⟨e, fs, rfl, hl⟩ | ⟨e, rfl⟩ | ⟨n, rfl, hn⟩
  · exact .inl h
  · have e : e = c := by simpa [okB] using hok
    subst e
    exact .inr hl
  · cases hok
  · have hok : (match S.get n with | some (.lst _) => true | some (.dic _ _) => true | _ => false) = true := hok
    cases g : S.get n with
    | none => rw [g] at hok; cases hok
    | some o =>
      obtain ⟨c', fs, rfl⟩ := hn o g
      rw [g] at hok
      cases hok
theorem sE_bin {op : Operator} {o : Bop} {k : Nat} {tb rb : List (Nat × Nat)} {a b : Expr} {x y : XE} {pos : Pos} (ho : OpR X (binaryOp op) (BinR X F o)) (hx : Psv X W) (E : ∀ c f, tb.lookup c = some f → BinF X F k op.info.2 c f) (R : ∀ c f, rb.lookup c = some f → op = .Mult ∧ RevF X F k c f) (hr : Room k X.A) (ha : PE X a (tE X F W x)) (hb : PE X b (tE X F W y)) : PE X (.BinOp a op b pos) (tE X F W (.bin o tb rb x y)) := by
  refine ⟨fun pins s σ H Q I q => wpAny_BinOp (binT ha hb I (Go.bind2 q) fun v u s2 x y H2 I2 rx ry q => ?_)⟩
  obtain ⟨ρ, s, x', y', S, m, e, r1, r2, r⟩ := q
  by_cases hob : ∃ c fs, x' = .ob c fs
  · obtain ⟨c, fs, rfl⟩ := hob
    simp only at r
    cases hl : tb.lookup c with
    | none => simp only [hl] at r; exact r.elim
    | some f =>
      cases hok : okB S c y' with
      | false => simp only [hl, hok] at r; exact r.elim
      | true =>
        simp only [hl, hok] at r
        have EF := E c f hl
        obtain ⟨g, hg, hfn, FR⟩ := EF.ex
        have ty := bin_ty I2 m r2 ry hok
        cases r1 with
        | @ob a dx _ _ vs h1 h2 o1 o2 k1 k2 rs =>
        cases (show v = Value.ref a from rx)
        obtain ⟨sl, od, _, J, _⟩ := slt_inst I2 (show Slt H2 a (F.T c) dx (vs.map some) from .inr ⟨h1, h2⟩)
        have fin := wpAny_mono (run_own (W := W) (F := F) FR hr I2.env0 hx I2 (.cons (show L2.RelV (V.ref a) (Value.ref a) from rfl) (.cons ry .nil)) m (.cons (.ob h1 h2 o1 o2 k1 k2 rs) (.cons r2 .nil)) r) (fun w' s' z => ep_back z) fun _ _ x => x
        rcases ty with ⟨t, ht, hlk⟩ | hlk
        · obtain ⟨fo, ro, t1, t2, t3⟩ := EF.ty t ht
          obtain ⟨rc, v1, v2⟩ := EF.rv
          exact bin_own I2.kIn J hlk EF.fst hg hfn v1 v2 t1 t2 t3 fin
        · obtain ⟨m0, hF⟩ := I2.fr
          exact PySem.W.binop_K hF I2.ok.mod.kin J hlk EF.fst hg hfn fin
  · by_cases hoy : ∃ c fs, y' = .ob c fs
    · obtain ⟨c, fs, rfl⟩ := hoy
      cases x' with
      | int i =>
        simp only at r
        cases hl : rb.lookup c with
        | none => simp only [hl] at r; exact r.elim
        | some f =>
          simp only [hl] at r
          obtain ⟨rfl, RF⟩ := R c f hl
          obtain ⟨g, hg, hfn, FR⟩ := RF.ex
          cases r1
          obtain ⟨t, rfl⟩ := (show ∃ t, v = Value.int i t from rx)
          cases r2 with
          | @ob a dx _ _ vs h1 h2 o1 o2 k1 k2 rs =>
          cases (show u = Value.ref a from ry)
          obtain ⟨sl, od, _, J, _⟩ := slt_inst I2 (show Slt H2 a (F.T c) dx (vs.map some) from .inr ⟨h1, h2⟩)
          refine rev_own I2.kIn J (fun p => by simp [PySem.W.instObj]) RF.fst RF.ml RF.ni hg hfn ?_
          exact wpAny_mono (run_own (W := W) (F := F) FR hr I2.env0 hx I2 (.cons (show L2.RelV (V.ref a) (Value.ref a) from rfl) (.cons rx .nil)) m (.cons (.ob h1 h2 o1 o2 k1 k2 rs) (.cons (.int i) .nil)) r) (fun w' s' z => ep_back z) fun _ _ x => x
      | ob c2 fs2 => exact absurd ⟨_, _, rfl⟩ hob
      | _ =>
        simp only at r
        cases hl : rb.lookup c with
        | none => simp only [hl] at r; exact r.elim
        | some f => simp only [hl] at r; exact r.elim
    · have r' : Run X.K F.T F.Z (rdR X F) (fun c d H => W c d σ H) ρ H2 (M.opt (binD S o x' y') S) Q := by
        cases x' <;> first | exact absurd ⟨_, _, rfl⟩ hob | (cases y' <;> first | exact r | exact absurd ⟨_, _, rfl⟩ hoy)
      obtain ⟨z, hz, r⟩ := Run.opt (o := binD S o x' y') r'
      exact ho pins s2 σ H2 x y v u Q I2 rx ry ⟨ρ, x', y', S, z, m, r1, r2, hz, r⟩
/-- an own ~ -/
theorem sE_inv {k : Nat} {tb : List (Nat × Nat)} {a : Expr} {x : XE} {pos : Pos} (hx : Psv X W) (E : ∀ c f, tb.lookup c = some f → OwnF X F k c "__invert__" f) (hr : Room k X.A) (ha : PE X a (tE X F W x)) : PE X (.UnaryOp .Invert a pos) (tE X F W (.inv tb x)) := by
  refine ⟨fun pins s σ H Q I q => UnaryOp_ (thn (ha.run pins s σ H _ I (Go.bind (rA := rdR X F) q)) ?_)⟩
  rintro u s1 ⟨v, H1, I1, ru, ρ, s, d, S, S0, _, m, e, r, q⟩
  cases d with
  | ob c fs =>
    simp only at q
    cases hl : tb.lookup c with
    | none => rw [hl] at q; exact q.elim
    | some f =>
      rw [hl] at q
      obtain ⟨g, hg, hfn, FR⟩ := (E c f hl).ex
      cases r with
      | @ob a dx _ _ vs h1 h2 o1 o2 k1 k2 rs =>
      cases (show u = Value.ref a from ru)
      obtain ⟨sl, od, _, J, _⟩ := slt_inst I1 (show Slt H1 a (F.T c) dx (vs.map some) from .inr ⟨h1, h2⟩)
      obtain ⟨m0, hF⟩ := I1.fr
      exact PySem.W.ksp_inv hF I1.ok.mod.kin J hg hfn (run_own (W := W) (F := F) FR hr I1.env0 hx I1 (.cons (show L2.RelV (V.ref a) (Value.ref a) from rfl) .nil) m (.cons (.ob h1 h2 o1 o2 k1 k2 rs) .nil) q)
  | _ => exact q.elim
/-- an own [ ] -/
structure SubF (X : Cx) (F : Fx) (k : Nat) (c : Nat) (j : Nat) : Prop where
  ex : ∃ g, PySem.W.findIn X.K (.ref (F.T c)) "__getitem__" = some (some (.ref g)) ∧ PySem.W.fnIn X.K g = true ∧ PySem.W.isFn X.K (.ref g) = true ∧ FnR X.prog X.w X.K X.mg X.base (CX X.prog X.w) k g (spF X.K F.T F.Z (F.cal j))
theorem sE_idx {k : Nat} {tb : List (Nat × Nat)} {a b : Expr} {x y : XE} {pos : Pos} (hw : F.T.w = X.w) (hu : X.A.units + 80 < cLine) (hx : Psv X W) (E : ∀ c f, tb.lookup c = some f → SubF X F k c f) (hr : Room (k + 1) X.A) (hs : PlainIx b) (hs2 : ∀ o i, subscripted b true o i = runValue (.builtin "lifetime.subscript" ⟨[o, i], []⟩)) (ha : PE X a (tE X F W x)) (hb : PE X b (tE X F W y)) : PE X (.Subscript a b pos) (tE X F W (.idx tb x y)) := by
  refine ⟨fun pins s σ H Q I q => Subscript_ (binT ha hb I (Go.bind2 q) fun v u s2 x y H2 I2 rx ry q => ?_)⟩
  obtain ⟨ρ, s, x', y', S, m, e, r1, r2, r⟩ := q
  by_cases hob : ∃ c fs, x' = .ob c fs
  · obtain ⟨c, fs, rfl⟩ := hob
    simp only at r
    cases hl : tb.lookup c with
    | none => simp only [hl] at r; exact r.elim
    | some f =>
      simp only [hl] at r
      obtain ⟨g, hg, hfi, hfn, FR⟩ := (E c f hl).ex
      cases r1 with
      | @ob a dx _ _ vs h1 h2 o1 o2 k1 k2 rs =>
      cases (show v = Value.ref a from rx)
      obtain ⟨sl, od, _, J, _⟩ := slt_inst I2 (show Slt H2 a (F.T c) dx (vs.map some) from .inr ⟨h1, h2⟩)
      obtain ⟨m0, hF⟩ := I2.fr
      exact PySem.W.sub_K hF I2.ok.mod.kin J hg hfi hfn (run_own (W := W) (F := F) FR hr.in1 I2.env0.in1 hx I2 (.cons (show L2.RelV (V.ref a) (Value.ref a) from rfl) (.cons ry .nil)) m (.cons (.ob h1 h2 o1 o2 k1 k2 rs) (.cons r2 .nil)) r) (hs2 _ _)
  · have r' : Run X.K F.T F.Z (rdR X F) (fun c d H => W c d σ H) ρ H2 (M.opt (idxV S x' y') S) Q := by
      cases x' <;> first | exact absurd ⟨_, _, rfl⟩ hob | exact r
    obtain ⟨z, hz, r⟩ := Run.opt (o := idxV S x' y') r'
    exact ix_data hw hu a b pins s2 σ H2 x y v u Q I2 rx ry ⟨ρ, x', y', S, z, m, r1, r2, hz, fun u ru => r ρ H2 u .refl m ru⟩ (hs _ _)
end
end Lk
end

section
/-! FR: built-ins of own instances and of dicts. -/
set_option Elab.async false
set_option linter.all false
set_option maxRecDepth 100000
set_option maxHeartbeats 2000000
namespace Lk
open PySem PySem.Spec PyProof.Rows L2 SlX
section
variable {prog : Program} {w : World} {A : Around} {E : Value → Shared → Prop} {s : Shared} {K : PySem.W.Frag} {x C f d : Addr} {ox : Obj} {od : Option Obj}
/-- abs of an own instance -/
theorem abs_own {Q : Value → Shared → Prop} (X : K.In s.heap) (I : PySem.W.InstAt s.heap x ox C od) (hs : PySem.W.findIn K (.ref C) "__abs__" = some (some (.ref f))) (hf : PySem.W.isFn K (.ref f) = true)
    (h : wpAny (model prog w) A.in1 (call (.ref f) [.ref x]) Q E s) : wpAny (model prog w) A (call (.builtin "abs") [.ref x]) Q E s := by
  refine Calls.call_function_entry kind_abs plain_abs entry_abs (args_abs _) ?_
  unfold Builtin.«abs»
  refine wpAny_bind (m := oneArg "abs" _) (wpAny_pure ?_)
  refine wpAny_bind (m := callSpecial? (.ref x) (Str.ofString "__abs__")) (PySem.W.special_fn X I hs (beq_iff_eq.mp hf) (wpAny_mono h (fun r s' hr => ?_) fun _ _ y => y))
  exact wpAny_pure ⟨_, rfl, hr⟩
/-- len of a dict -/
theorem len_raw {es : Array DictEntry} {ep : Nat} {Q : Value → Shared → Prop} (hd : (d == sysModules) = false) (hm : s.heap.DictRaw d es ep) (hfit : (es.size : Int) < 2 ^ 63) (h : Q (.int es.size (s.toks + 1)) { s with toks := s.toks + 1 + 1 }) : wpAny (model prog w) A (call (.builtin "len") [.ref d]) Q E s := by
  refine Calls.call_function_entry kind_len plain_len entry_len (args_len1 _) ?_
  unfold Builtin.«len»
  refine wpAny_bind (m := oneArg "len" _) (wpAny_pure ?_)
  refine wpAny_bind (m := callSpecial? (.ref d) (Str.ofString "__len__")) (wpAny_callSpecial?_slot (name := Str.ofString "__len__") hm.typeIs F.slot_dict_len (call_len_raw hd hm ?_))
  refine wpAny_bind (wpAny_holding (wpAny_pure ?_))
  refine wpAny_bind (wpAny_letGo ?_)
  show wpAny _ _ (if ((es.size : Nat) : Int) < 0 then _ else _) _ _ _
  rw [if_neg (by omega)]
  show wpAny _ _ (if ((es.size : Nat) : Int) ≥ 2 ^ 63 then _ else _) _ _ _
  rw [if_neg (by omega)]
  exact wpAny_bind (wpAny_mkInt (wpAny_pure ⟨_, rfl, h⟩))
end
/-- a built-in of values, perhaps an instance -/
def biK (cal : Nat → List D → M D) (b : Bi) (tb : List (Nat × Nat)) (as : List D) : M D := match as with
  | [.ob c fs] => match tb.lookup c with
    | some f => M.bind (M.calm (cal f [.ob c fs])) fun r => M.opt (match b, r with
      | .len, .int n => if 0 ≤ n ∧ n < 2 ^ 63 then some (.int n) else none
      | .abs, d => some d
      | _, _ => none)
    | none => M.bad
  | as => fun S => M.opt (biD S b as) S
theorem biK_no {cal : Nat → List D → M D} {b : Bi} {tb : List (Nat × Nat)} {d : D} {S : Store} (h : ¬ ∃ c fs, [d] = [D.ob c fs]) : biK cal b tb [d] S = M.opt (biD S b [d]) S := by
  cases d <;> first | rfl | exact absurd ⟨_, _, rfl⟩ h
section
variable {X : Cx} {F : Fx} {W : WX} {W' : XK} {pins : List (Addr × Obj)} {σ : L2.St} {H : Hp} {s : Shared} {ρ : Pm} {S : Store}
def BiC (X : Cx) (F : Fx) (W : XK) (b : Bi) (tb : List (Nat × Nat)) : List V → Hp → VK → Prop := fun vs H Q => ∃ ρ ds S, RS X.K F.T ρ S H ∧ RDs X.K F.T ρ H ds vs ∧ Run X.K F.T F.Z (rdR X F) W ρ H (biK F.cal b tb ds S) Q
theorem sE_bi {b : Bi} {tb : List (Nat × Nat)} {x : Str} {e : Expr} {es : List Expr} {xs : XEs} {p pos : Pos} (h : ∀ (W' : XK) {t : TA}, PA X (e :: es) t → PE X (.Call (.Name x p) (e :: es) [] pos) (fun σ H Q => t σ H fun vs H1 => BiC X F W' b tb vs H1 Q)) (ha : PA X (e :: es) (tAs X F W xs)) :
    PE X (.Call (.Name x p) (e :: es) [] pos) (tE X F W (.bi b tb xs)) := by
  refine ⟨fun pins s σ H Q I q => (h (fun c d H => W c d σ H) ha).run pins s σ H Q I ?_⟩
  refine Go.mono (Go.bind (rA := RDs X.K F.T) q) fun vs H1 q => ?_
  obtain ⟨ρ, s, ds, S, S0, _, m, e, r, q⟩ := q
  exact ⟨ρ, ds, S, m, r, q⟩
theorem rds_one {ds : List D} {vs : List V} (h : RDs X.K F.T ρ H ds vs) (d : D) (e : ds = [d]) : ∃ v, vs = [v] ∧ RD X.K F.T ρ H d v := by subst e; exact rds1 h
/-- neither an instance nor a dict -/
theorem bi_plain {b : Bi} {tb : List (Nat × Nat)} {ds : List D} {Q : VK} (n1 : ∀ c fs, ds ≠ [.ob c fs]) (n2 : ∀ d, ds = [d] → dictOf S d = none) (n3 : b ≠ .dict) (r : Run X.K F.T F.Z (rdR X F) W' ρ H (biK F.cal b tb ds S) Q) : ∃ z, biS S b ds = some z ∧ Run X.K F.T F.Z (rdR X F) W' ρ H (.ok z S) Q := by
  have e1 : biK F.cal b tb ds S = M.opt (biD S b ds) S := by
    unfold biK
    split
    · exact absurd rfl (n1 _ _)
    · rfl
  have e2 : biD S b ds = biS S b ds := by
    unfold biD
    split
    · rename_i d
      rw [n2 d rfl]
      cases b <;> first | rfl | exact absurd rfl n3
    · rfl
  rw [e1, e2] at r
  obtain ⟨z, hz, r⟩ := Run.opt r
  exact ⟨z, hz, r⟩
/-- an instance: its own method is run calmly -/
theorem run_calm1 {A : Around} {k j : Nat} {g : Addr} {us : List Value} {ws : List V} {ds : List D} {f : D → Option D} {Q : VK} (FR : FnR X.prog X.w X.K X.mg X.base (CX X.prog X.w) k g (spF X.K F.T F.Z (F.cal j))) (hr : Room k A) (e0 : Env0 X.prog X.w X.K X.mg X.base A X.stack s H) (I : L2.Inv X pins σ H s) (rv : Vals ws us)
    (m : RS X.K F.T ρ S H) (rd : RDs X.K F.T ρ H ds ws) (r : Run X.K F.T F.Z (rdR X F) W' ρ H (M.bind (M.calm (F.cal j ds)) (fun r => M.opt (f r)) S) Q) : wpAny (model X.prog X.w) A (call (.ref g) us) (fun w' s' => ∃ v H1 ρ1 d z S1, L2.Inv X pins σ H1 s' ∧ L2.RelV v w' ∧ RS X.K F.T ρ1 S1 H1 ∧ RD X.K F.T ρ1 H1 d v ∧ f d = some z ∧ ∀ ρ2 H2 u, Ext ρ1 H1 ρ2 H2 → RS X.K F.T ρ2 S1 H2 → RD X.K F.T ρ2 H2 z u → Q u H2) X.xe s := by
  have r' := calm_run (W' := fun _ _ _ => False) (Run.bind (rA := rdR X F) r)
  refine wpAny_mono (run_own (W := W0) (F := F) FR hr e0 psv_none I rv m rd r') (fun w' s' z => ?_) fun _ _ x => x
  obtain ⟨z', H', I', rz, ρ1, d, S1, _, e1, m1, rd', q⟩ := z
  obtain ⟨z, hz, q⟩ := Run.opt q
  exact ⟨z', H', ρ1, d, z, S1, I', rz, m1, rd', hz, q⟩
theorem bi_len {k : Nat} {tb : List (Nat × Nat)} (E : ∀ c f, tb.lookup c = some f → OwnF X F k c "__len__" f) (hr : Room (k + 1) X.A) : CallR X (.builtin "len") (BiC X F W' .len tb) := by
  intro pins s σ H xs us Q I rs h
  obtain ⟨ρ, ds, S, m, r, q⟩ := h
  by_cases hob : ∃ c fs, ds = [.ob c fs]
  · obtain ⟨c, fs, rfl⟩ := hob
    simp only [biK] at q
    cases hl : tb.lookup c with
    | none => simp only [hl] at q; exact q.elim
    | some f =>
      simp only [hl] at q
      obtain ⟨g, hg, hfn, FR⟩ := (E c f hl).ex
      obtain ⟨v, rfl, rv⟩ := rds1 r
      cases rv with
      | @ob a dx _ _ vs h1 h2 o1 o2 k1 k2 rs' =>
      obtain ⟨u, rfl, ru⟩ := vals1 rs
      cases (show u = Value.ref a from ru)
      obtain ⟨sl, od, _, J, _⟩ := slt_inst I (show Slt H a (F.T c) dx (vs.map some) from .inr ⟨h1, h2⟩)
      obtain ⟨m0, hF⟩ := I.fr
      refine PySem.W.len_K hF I.ok.mod.kin J hg hfn (wpAny_mono (run_calm1 (f := fun r => match Bi.len, r with | .len, .int n => if 0 ≤ n ∧ n < 2 ^ 63 then some (.int n) else none | .abs, d => some d | _, _ => none) FR hr.in1 I.env0.in1 I (.cons (show L2.RelV (V.ref a) (Value.ref a) from rfl) .nil) m (.cons (.ob h1 h2 o1 o2 k1 k2 rs') .nil) q) (fun w' s' z => ?_) fun _ _ x => x)
      obtain ⟨v, H1, ρ1, d, z, S1, I1, rv, m1, rd, hz, q⟩ := z
      cases d with
      | int n =>
        obtain ⟨hn, rfl⟩ := ite_some hz
        cases rd
        obtain ⟨t, rfl⟩ := (show ∃ t, w' = Value.int n t from rv)
        exact ⟨hn, .int n, H1, I1.tok _, ⟨_, rfl⟩, q _ _ _ .refl m1 (.int n)⟩
      | _ => cases hz
  · by_cases hdd : ∃ d t kvs, ds = [d] ∧ dictOf S d = some (t, kvs)
    · obtain ⟨d, t, kvs, rfl, hd⟩ := hdd
      have e1 : biK F.cal .len tb [d] S = M.opt (some (.int kvs.length)) S := by
        rw [biK_no hob]
        simp only [biD, hd]
      rw [e1] at q
      obtain ⟨v, rfl, rv⟩ := rds1 r
      obtain ⟨a, rfl, dk⟩ := dict_inv m hd rv
      obtain ⟨u, rfl, ru⟩ := vals1 rs
      cases (show u = Value.ref a from ru)
      obtain ⟨xs, _, ⟨hz, hs, o, es, ep, g1, g2, g3, g4⟩, _, rr⟩ := dk.dy I
      have en : es.size = kvs.length := by rw [rr.len, g4.length, Array.length_toList]
      refine len_raw hs ⟨o, g1, g2, g3⟩ (by rw [en, rr.len]; unfold sizeLine at hz; omega) ?_
      exact ⟨.int es.size, H, (I.tok _).tok _, ⟨_, rfl⟩, q ρ H _ .refl m (by rw [en]; exact .int _)⟩
    · obtain ⟨z, hz, q⟩ := bi_plain (fun c fs e => hob ⟨c, fs, e⟩) (fun d e => by
        cases hd : dictOf S d with
        | none => rfl
        | some p => exact absurd ⟨d, p.1, p.2, e, hd⟩ hdd) (fun z => by cases z) q
      exact bs_len pins s σ H xs us Q I rs ⟨ρ, ds, S, z, m, r, hz, q⟩
theorem bi_abs {k : Nat} {tb : List (Nat × Nat)} (E : ∀ c f, tb.lookup c = some f → OwnF X F k c "__abs__" f) (hr : Room (k + 1) X.A) : CallR X (.builtin "abs") (BiC X F W' .abs tb) := by
  intro pins s σ H xs us Q I rs h
  obtain ⟨ρ, ds, S, m, r, q⟩ := h
  by_cases hob : ∃ c fs, ds = [.ob c fs]
  · obtain ⟨c, fs, rfl⟩ := hob
    simp only [biK] at q
    cases hl : tb.lookup c with
    | none => simp only [hl] at q; exact q.elim
    | some f =>
      simp only [hl] at q
      obtain ⟨g, hg, hfn, FR⟩ := (E c f hl).ex
      obtain ⟨v, rfl, rv⟩ := rds1 r
      cases rv with
      | @ob a dx _ _ vs h1 h2 o1 o2 k1 k2 rs' =>
      obtain ⟨u, rfl, ru⟩ := vals1 rs
      cases (show u = Value.ref a from ru)
      obtain ⟨sl, od, _, J, _⟩ := slt_inst I (show Slt H a (F.T c) dx (vs.map some) from .inr ⟨h1, h2⟩)
      refine abs_own I.kIn J hg hfn (wpAny_mono (run_calm1 (f := fun r => match Bi.abs, r with | .len, .int n => if 0 ≤ n ∧ n < 2 ^ 63 then some (.int n) else none | .abs, d => some d | _, _ => none) FR hr.in1 I.env0.in1 I (.cons (show L2.RelV (V.ref a) (Value.ref a) from rfl) .nil) m (.cons (.ob h1 h2 o1 o2 k1 k2 rs') .nil) q) (fun w' s' z => ?_) fun _ _ x => x)
      obtain ⟨v, H1, ρ1, d, z, S1, I1, rv, m1, rd, hz, q⟩ := z
      cases hz
      exact ⟨v, H1, I1, rv, q _ _ _ .refl m1 rd⟩
  · by_cases hdd : ∃ d t kvs, ds = [d] ∧ dictOf S d = some (t, kvs)
    · obtain ⟨d, t, kvs, rfl, hd⟩ := hdd
      have e1 : biK F.cal .abs tb [d] S = M.opt none S := by
        rw [biK_no hob]
        simp only [biD, hd]
      rw [e1] at q
      exact q.elim
    · obtain ⟨z, hz, q⟩ := bi_plain (fun c fs e => hob ⟨c, fs, e⟩) (fun d e => by
        cases hd : dictOf S d with
        | none => rfl
        | some p => exact absurd ⟨d, p.1, p.2, e, hd⟩ hdd) (fun z => by cases z) q
      exact bs_abs pins s σ H xs us Q I rs ⟨ρ, ds, S, z, m, r, hz, q⟩
/-- the others, of no instance and no dict -/
theorem bi_rest {b : Bi} {f : Value} (n : b ≠ .len) (n2 : b ≠ .list) (n3 : b ≠ .dict) (h : CallR X f (BiS X F b)) : CallR X f (BiC X F W' b []) := by
  intro pins s σ H xs us Q I rs q
  obtain ⟨ρ, ds, S, m, r, q⟩ := q
  by_cases hob : ∃ c fs, ds = [.ob c fs]
  · obtain ⟨c, fs, rfl⟩ := hob
    exact q.elim
  · by_cases hdd : ∃ d t kvs, ds = [d] ∧ dictOf S d = some (t, kvs)
    · obtain ⟨d, t, kvs, rfl, hd⟩ := hdd
      have e1 : biK F.cal b [] [d] S = M.opt none S := by
        rw [biK_no hob]
        simp only [biD, hd]
        cases b <;> first | rfl | exact absurd rfl n | exact absurd rfl n2 | exact absurd rfl n3
      rw [e1] at q
      exact q.elim
    · obtain ⟨z, hz, q⟩ := bi_plain (fun c fs e => hob ⟨c, fs, e⟩) (fun d e => by
        cases hd : dictOf S d with
        | none => rfl
        | some p => exact absurd ⟨d, p.1, p.2, e, hd⟩ hdd) n3 q
      exact h pins s σ H xs us Q I rs ⟨ρ, ds, S, z, m, r, hz, q⟩
theorem RVs.keys : ∀ {t : Bool} {kvs : List (D × D)} {xs : Ents}, RVs X.K F.T ρ H t kvs xs → RDs X.K F.T ρ H (kvs.map (·.1)) (xs.map (·.2.1))
  | _, _, _, .nil => .nil
  | _, _, _, .cons _ r _ t => .cons r (RVs.keys t)
/-- list(d) too -/
theorem bi_list (hc : X.calm = true) : CallR X (.type "list") (BiC X F W' .list []) := by
  intro pins s σ H xs us Q I rs q
  obtain ⟨ρ, ds, S, m, r, q⟩ := q
  by_cases hob : ∃ c fs, ds = [.ob c fs]
  · obtain ⟨c, fs, rfl⟩ := hob
    exact q.elim
  · by_cases hdd : ∃ d t kvs, ds = [d] ∧ dictOf S d = some (t, kvs)
    · obtain ⟨d, t, kvs, rfl, hd⟩ := hdd
      have e1 : biK F.cal .list [] [d] S = M.opt (some (.fl (kvs.map (·.1)))) S := by
        rw [biK_no hob]
        simp only [biD, hd]
      rw [e1] at q
      obtain ⟨v, rfl, rv⟩ := rds1 r
      obtain ⟨a, rfl, dk⟩ := dict_inv m hd rv
      obtain ⟨u, rfl, ru⟩ := vals1 rs
      cases (show u = Value.ref a from ru)
      obtain ⟨xs, _, ⟨hz, hs, o, es, ep, g1, g2, g3, g4⟩, _, rr⟩ := dk.dy I
      have en : es.size = xs.length := by rw [g4.length, Array.length_toList]
      refine PySem.W.kdl_call (KdlSrc.rawDict hs) (I.ok.hd hc) ⟨o, g1, g2, g3⟩ (by rw [en]; exact hz) fun h' tk acc c' hk hS hi => ?_
      have rk : RDs X.K F.T ρ H (kvs.map (·.1)) (xs.map (·.2.1)) := rr.keys
      refine ⟨.ref s.heap.objs.size, upd H s.heap.objs.size (.lst (xs.map (·.2.1))), I.laid hk (Nat.le_refl _) (show ObjOk X.prog X.w _ _ _ (.lst (xs.map (·.2.1))) from ⟨by rw [List.length_map]; exact hz, acc.toList, c', ?_, ?_⟩), rfl, ?_⟩
      · refine vals_of_at (by have h1 : acc.size = es.size := hi.1; have h2 : acc.toList.length = acc.size := Array.length_toList; rw [List.length_map, h2, h1, en]) fun j y w e1 e2 => ?_
        obtain ⟨hj, rfl⟩ := hi.2 j w (by rw [← Array.getElem?_toList]; exact e2)
        rw [List.getElem?_map] at e1
        cases z : xs[j]? with
        | none => rw [z] at e1; cases e1
        | some q =>
          rw [z] at e1
          cases e1
          obtain ⟨e, ee, er⟩ := ent_at g4 z
          rw [Array.getElem?_eq_getElem hj] at ee
          cases ee
          exact er.2.1
      · rw [Array.toArray_toList]; exact hS
      · have hp : H s.heap.objs.size = none := I.hok.fresh (Nat.le_refl _)
        have n := new_fl m hp rk
        exact q _ _ _ n.1 n.2.1 n.2.2
    · obtain ⟨z, hz, q⟩ := bi_plain (fun c fs e => hob ⟨c, fs, e⟩) (fun d e => by
        cases hd : dictOf S d with
        | none => rfl
        | some p => exact absurd ⟨d, p.1, p.2, e, hd⟩ hdd) (fun z => by cases z) q
      exact bs_list hc pins s σ H xs us Q I rs ⟨ρ, ds, S, z, m, r, hz, q⟩
end
end Lk
end

section
/-! FL: a lambda without parameters, handed to a def that calls it in a try. -/
set_option Elab.async false
set_option linter.all false
set_option maxRecDepth 100000
set_option maxHeartbeats 2000000
namespace Lk
open PySem PySem.Spec PyProof.Rows L2 SlX LamX
/-- a lambda has been made: its code object was there, or is new in the table at P -/
def LamH (H : Hp) (P : Addr) (q : Str) (H1 : Hp) : Prop := H1 = H ∨ ∃ (ps qs : Array Value) (c : Addr), H P = some (.tbl ps) ∧ H c = none ∧ TriplesOk qs.toList ∧ (∀ pos cv, codeAmong pos qs.toList = some cv → codeAmong pos ps.toList = some cv ∨ cv = .ref c) ∧ H1 = upd (upd H P (.tbl qs)) c (CodeO c q)
section
variable {X : Cx} {F : Fx} {W : WX} {pins : List (Addr × Obj)} {σ : L2.St} {H H1 : Hp} {s : Shared} {ρ : Pm} {S : Store} {K : PySem.W.Frag} {T : Ty}
theorem lam_rs {P : Addr} {q : Str} (m : RS K T ρ S H) (hm : (P, q) ∈ T.tabs) (hu : ∀ p ∈ T.tabs, p.1 = P → p.2 = q) (l : LamH H P q H1) : ∃ ρ', Ext ρ H ρ' H1 ∧ RS K T ρ' S H1 := by
  rcases l with rfl | ⟨ps, qs, c, hP, hc, ht, ha, rfl⟩
  · exact ⟨ρ, .refl, m⟩
  · have nPc : P ≠ c := ne_of_none hP hc
    have at_ : ∀ {b}, b ≠ P → b ≠ c → upd (upd H P (.tbl qs)) c (CodeO c q) b = H b := fun {b} h1 h2 => by rw [upd_ne h2, upd_ne h1]
    have ntb : ∀ {b o}, H b = some o → (∀ ps, o ≠ .tbl ps) → upd (upd H P (.tbl qs)) c (CodeO c q) b = some o := fun {b o} e n => by
      rw [at_ (fun z => by rw [z, hP] at e; exact n _ (Option.some.inj e).symm) (ne_of_none e hc)]; exact e
    have ex : Ext ρ H (ρ.know c) (upd (upd H P (.tbl qs)) c (CodeO c q)) := {
      le := fun _ _ e => e
      fr0 := fun b o e _ n => ntb e n
      tk := fun b rs e => by
        by_cases z : b = P
        · subst z
          rw [hP] at e
          cases e
          refine ⟨qs, by rw [upd_ne nPc, upd_same], fun pos cv w => (ha pos cv w).imp id fun z => ⟨c, z, hc⟩⟩
        · exact ⟨rs, by rw [at_ z (ne_of_none e hc)]; exact e, fun _ _ w => .inl w⟩
      nw := fun _ _ e => .inl e
      kl := fun _ k => .inl k
      kw := fun b k => k.imp id fun z => by rw [z]; exact hc }
    refine ⟨_, ex, ⟨m.dom, m.inj, fun n a e => ?_, fun n o e => ?_, fun b k => ?_, fun p hp => ?_⟩⟩
    · obtain ⟨u, hu'⟩ := mut_some (m.mu n a e)
      have mu := m.mu n a e
      rw [hu'] at mu
      rw [ntb hu' fun ps z => by rw [z] at mu; exact mu]
      exact mu
    · obtain ⟨a, h1, h2⟩ := m.at_ n o e
      obtain ⟨u, hu'⟩ := mut_some (m.mu n a h1)
      have mu := m.mu n a h1
      rw [hu'] at mu
      exact ⟨a, h1, h2.mono m ex (by rw [ntb hu' fun ps z => by rw [z] at mu; exact mu, hu'])⟩
    · rcases k with k | k
      · obtain ⟨u, hu'⟩ := m.kd b k
        by_cases z : b = P
        · rw [z]; exact ⟨_, by rw [upd_ne nPc, upd_same]⟩
        · exact ⟨u, by rw [at_ z (ne_of_none hu' hc)]; exact hu'⟩
      · rw [k]; exact ⟨_, upd_same⟩
    · obtain ⟨rs, h1, h2, h3⟩ := m.tb p hp
      by_cases z : p.1 = P
      · have eq := hu p hp z
        rw [z] at h1
        rw [hP] at h1
        cases h1
        refine ⟨qs, by rw [z, upd_ne nPc, upd_same], ht, fun pos cv w => ?_⟩
        rcases ha pos cv w with w | w
        · obtain ⟨c2, e1, e2, e3, e4⟩ := h3 pos cv w
          exact ⟨c2, e1, ntb e2 (codeO_ne ·), e3, .inl e4⟩
        · exact ⟨c, w, by rw [upd_same, eq], m.out_new hc, .inr rfl⟩
      · refine ⟨rs, by rw [at_ z (ne_of_none h1 hc)]; exact h1, h2, fun pos cv w => ?_⟩
        obtain ⟨c2, e1, e2, e3, e4⟩ := h3 pos cv w
        exact ⟨c2, e1, ntb e2 (codeO_ne ·), e3, .inl e4⟩
theorem TabR.tabs (m : RS K T ρ S H) : Tabs T.tabs H := fun p hp => by
  obtain ⟨ps, h1, h2, h3⟩ := m.tb p hp
  exact ⟨ps, h1, h2, fun pos cv hc => let ⟨c, e1, e2, _⟩ := h3 pos cv hc; ⟨c, e1, e2⟩⟩
/-- a lambda is made -/
theorem lam_mk {c P : Addr} {params : Arguments} {body : Expr} {scope : Scope} {lp : Pos} {E : Value → Shared → Prop} {Q : Value → Shared → Prop} (I : L2.Inv X pins σ H s) (B : TabB X.base X.mg c P) (hcode : X.env.code = .ref c)
    (hT : TabS H P (X.env.qual ++ "<lambda>")) (hdef : defaultsOf params X.env = ([], [])) (hfree : ∀ y ∈ scope.names, y.2 = .free → ∃ c, X.env.cells.lookup y.1 = some c)
    (h : ∀ (f k : Addr) (pm ct : Value) (H1 : Hp) (s1 : Shared), L2.Inv X pins σ H1 s1 → LamH H P (X.env.qual ++ "<lambda>") H1 →
      s1.heap.get? f = some (PySem.W.kla_obj "<lambda>" (X.env.qual ++ "<lambda>") params body scope (cloFrom X.env.cells scope.names []) pm k ct) → H1 f = none → f ∉ frs X.stack → H1 k = some (CodeO k (X.env.qual ++ "<lambda>")) → Q (.ref f) s1) :
    wpAny (model X.prog X.w) X.A (eval (.Lambda params body scope lp) X.env) Q E s := by
  obtain ⟨ps, tP, tOk, tAm⟩ := hT
  refine PySem.W.kla_eval hdef ?_
  have inP : s.heap.BuiltinsAt X.mg P := B.bm.keeps I.bk
  have atP : s.heap.get? P = some { cls := .none, data := .fields ps } := I.hok P _ tP
  have far : ∀ f, s.heap.objs.size ≤ f → f ∉ frs X.stack := fun f hf z => by
    rcases List.mem_cons.mp (I.stkSub _ z) with e | e
    · have l := I.lt
      rw [← e] at l
      exact absurd (Nat.lt_of_lt_of_le l hf) (Nat.lt_irrefl _)
    · exact I.nofs hf e
  cases q : codeAmong lp ps.toList with
  | some cv =>
    obtain ⟨k, rfl, ck⟩ := tAm lp cv q
    refine PySem.W.kla_makeFunctionHit (mg := X.mg) (c := c) (P := P) (ps := ps) (closure_ok hfree) I.ok.glob (I.mod.glob.keeps I.bk) hcode (B.code.keeps I.bk) atP tOk q inP fun ct g tk hx sz => ?_
    have J : L2.Inv X pins σ H { s with heap := g.push (PySem.W.kla_obj "<lambda>" (X.env.qual ++ "<lambda>") params body scope (cloFrom X.env.cells scope.names []) ((X.mg "__name__").getD .none) k ct), toks := tk } := I.kept fun b o e => Heap.get?_push_of_some _ (hx b o e)
    exact h g.objs.size k ((X.mg "__name__").getD .none) ct H _ J (.inl rfl) (Heap.get?_push_size _ rfl) (I.hok.fresh sz) (far _ sz) ck
  | none =>
    refine PySem.W.kla_makeFunction (mg := X.mg) (c := c) (P := P) (ps := ps) (closure_ok hfree) I.ok.glob (I.mod.glob.keeps I.bk) hcode (B.code.keeps I.bk) atP tOk q B.gP inP fun k ct g tk hx ge lt rec tb => ?_
    obtain ⟨k2, oc, vs, t, e2, hoc, hd, hv⟩ := rec
    cases e2
    have sz : s.heap.objs.size ≤ g.objs.size := Nat.le_trans ge (Nat.le_of_lt lt)
    have nk : H k = none := I.hok.fresh ge
    have J := inv_table (t' := tk) (more := #[rawInt lp.line, rawInt lp.col, .ref k]) (h' := g.push (PySem.W.kla_obj "<lambda>" (X.env.qual ++ "<lambda>") params body scope (cloFrom X.env.cells scope.names []) ((X.mg "__name__").getD .none) k ct)) I tP
      (fun b o hb e => Heap.get?_push_of_some _ (hx b o hb e)) (Heap.get?_push_of_some _ tb) ge ⟨oc, vs, t, Heap.get?_push_of_some _ hoc, hd, hv⟩
    have el : (ps ++ #[rawInt lp.line, rawInt lp.col, .ref k]).toList = ps.toList ++ [rawInt lp.line, rawInt lp.col, .ref k] := by simp
    refine h g.objs.size k ((X.mg "__name__").getD .none) ct _ _ J (.inr ⟨ps, _, k, tP, nk, by rw [el]; exact PySem.TriplesOk_snoc _ _ _ _ tOk, fun pos cv w => by rw [el] at w; exact among_app _ tOk w, rfl⟩) (Heap.get?_push_size _ rfl) ?_ (far _ sz) upd_same
    have n1 : g.objs.size ≠ k := Nat.ne_of_gt lt
    have n2 : g.objs.size ≠ P := Nat.ne_of_gt (Nat.lt_of_lt_of_le (Heap.lt_size atP) sz)
    rw [upd_ne n1, upd_ne n2]
    exact I.hok.fresh sz
/-- a constant that a clause gives -/
def conV : D → Option V
  | .non => some .non
  | .bl b => some (.bl b)
  | .int i => some (.int i)
  | .str z => some (.str ⟨z.toArray⟩)
  | _ => none
theorem conV_rd {d : D} {v : V} (h : conV d = some v) : RD K T ρ H d v := by
  cases d <;> cases h
  · exact .non
  · exact .bl _
  · exact .int _
  · exact .str _
/-- the clauses: a class, what it takes and lets pass, the constant that it gives -/
inductive HdA (X : Cx) (Z : Xs) (Ng : List Str) (sg : Scope) : List ExceptHandler → List (List Nat × List Nat × Option D) → List (Value × V) → Prop
  | nil : HdA X Z Ng sg [] [] []
  | cons {x : Str} {C : Value} {yes no : List Nat} {d : D} {v : V} {e : Expr} {np pr pos : Pos} {hds : List ExceptHandler} {hs : List (List Nat × List Nat × Option D)} {l : List (Value × V)} (hg : sg.names.lookup x = some .globalImplicit) (hdb : (x == ("__debug__" : Str)) = false) (hm : X.mg x = some C)
      (hy : ∀ c, yes.contains c = true → PySem.W.exmOne X.K (.ref (Z.adr c)) C = some true) (hn : ∀ c, no.contains c = true → PySem.W.exmOne X.K (.ref (Z.adr c)) C = some false) (hv : conV d = some v)
      (he : ∀ Y : Cx, PE Y e (fun _ H Q => Q v H)) (r : HdA X Z Ng sg hds hs l) : HdA X Z Ng sg (.ExceptHandler (some (.Name x np)) none [.Return (some e) pr] pos :: hds) ((yes, no, some d) :: hs) ((C, v) :: l)
def lOf (l : List (Value × V)) : List (Value × (Addr → Value → Option Addr → TS)) := l.map fun p => (p.1, fun _ _ _ => fun D _ H => D.rt p.2 H)
/-- what the thunk's error comes to -/
def AskE (X : Cx) (F : Fx) (hs : List (List Nat × List Nat × Option D)) (Q : VK) : XK := fun cls dd H => ∃ ρ c p S z, RS X.K F.T ρ S H ∧ XR X.K F.T F.Z ρ H c p cls dd ∧ askH hs c p = some z ∧ ∀ ρ' H' u, Ext ρ H ρ' H' → RS X.K F.T ρ' S H' → RD X.K F.T ρ' H' z u → Q u H'
theorem askE_many {Ng : List Str} {sg : Scope} {hds : List ExceptHandler} {hs : List (List Nat × List Nat × Option D)} {l : List (Value × V)} (hk : HdA X F.Z Ng sg hds hs l) {D : Ends} {cls : Value} {dd : Option Addr} {σ' : L2.St} (h : AskE X F hs D.rt cls dd H) : wMany X.K (fun _ _ _ _ => False) D (lOf l) cls dd σ' H := by
  induction hk with
  | nil =>
    obtain ⟨ρ, c, p, S, z, m, x, hz, q⟩ := h
    cases hz
  | @cons x C yes no d v e np pr pos hds hs l hg hdb hm hy hn hv he r ih =>
    obtain ⟨ρ, c, p, S, z, m, xr, hz, q⟩ := h
    have hcls : cls = .ref (F.Z.adr c) := xr.1
    unfold askH at hz
    cases h1 : yes.contains c with
    | true =>
      rw [h1] at hz
      simp only at hz
      cases hz
      exact ⟨true, by rw [hcls]; exact hy c h1, fun _ a _ => q ρ H v .refl m (conV_rd hv), fun z => nomatch z⟩
    | false =>
      cases h2 : no.contains c with
      | false => rw [h1, h2] at hz; cases hz
      | true =>
        rw [h1, h2] at hz
        exact ⟨false, by rw [hcls]; exact hn c h2, (fun z => nomatch z), fun _ => ih ⟨ρ, c, p, S, z, m, xr, hz, q⟩⟩
theorem hdA_ok {Ng : List Str} {sg : Scope} {hds : List ExceptHandler} {hs : List (List Nat × List Nat × Option D)} {l : List (Value × V)} (hk : HdA X F.Z Ng sg hds hs l) {Y : Cx} (hmg : Y.mg = X.mg) (hsc : Y.env.scope = sg) : HdsOk Y hds (lOf l) := by
  induction hk with
  | nil => exact .nil
  | @cons x C yes no d v e np pr pos hds hs l hg hdb hm hy hn hv he r ih =>
    refine .cons ⟨by show Y.env.scope.names.lookup x = _; rw [hsc]; exact hg, hdb, .inl (by rw [hmg]; exact hm)⟩ (fun a oe cls d pn _ _ => ?_) ih
    exact pss_one (ps_ret (he _))
/-- the def that is handed the lambda -/
structure AskF (X : Cx) (F : Fx) (k : Nat) (x : Str) (n : Nat) (r : XE) (hs : List (List Nat × List Nat × Option D)) : Prop where
  ex : ∃ (a v : Str) (g : Addr) (pg : Arguments) (e : Expr) (hd : ExceptHandler) (hds : List ExceptHandler) (l : List (Value × V)) (sg : Scope) (dV kV doc pm cdv ct oc : Value) (an od : Option Addr) (osl : Array (Option Value)) (Ng : List Str) (pv p1 p2 p3 p4 p8 : Pos),
    X.mg x = some (.ref g) ∧ PySem.W.keepIn X.K (.ref g) = true ∧ X.K.lookup g = some ⟨oc, od, .func (PySem.W.fnOf x x pg [.Try [.Assign [.Name v pv] (.Call (.Name a p1) [] [] p2) p3, .Return (some e) p4] (hd :: hds) [] [] p8] sg dV kV doc pm an cdv ct), osl⟩ ∧ PySem.W.codeIn X.K cdv x = true ∧
    L2.Binds X.K (PySem.W.fnOf x x pg [.Try [.Assign [.Name v pv] (.Call (.Name a p1) [] [] p2) p3, .Return (some e) p4] (hd :: hds) [] [] p8] sg dV kV doc pm an cdv ct) [a] [] ∧ FnScope Ng [a] sg ∧ Ng[0]? = some a ∧ Ng[1]? = some v ∧ Ng.Nodup ∧ Ng.length = n + 2 ∧ Vis sg a ∧ sg.names.lookup v = some .local ∧ (a == ("__debug__" : Str)) = false ∧ (a == ("__classdict__" : Str)) = false ∧
    (∀ env : PySem.Env, swapsWith (.Call (.Name a p1) [] [] p2) (some (.Name v pv)) p3.line env = pure false) ∧ HdA X F.Z Ng sg (hd :: hds) hs l ∧
    ∀ Z : Cx, Z.prog = X.prog → Z.w = X.w → Z.K = X.K → Z.mg = X.mg → Z.base = X.base → Z.N = Ng → Z.env.scope = sg → Room k Z.A → Z.calm = true → PE Z e (tE Z F W0 r)
/-- the try's body -/
def AskB (X : Cx) (F : Fx) (e r : XE) (σ : L2.St) (f c' : Addr) (W' : WX) : TS := fun D σZ HZ => ∃ E : XK, (∀ cls d σ' H', E cls d H' → W' cls d σ' H') ∧ σZ[0]? = some (some (.ref f)) ∧ HZ c' = some (CodeO c' (X.env.qual ++ "<lambda>")) ∧ tE X F (fun cls d _ H => E cls d H) e σ HZ fun w H2 => tE X F W0 r (σZ.set 1 (some w)) H2 D.rt
/-- x(lambda: e) -/
theorem sE_ask {k n : Nat} {x : Str} {r e : XE} {hs : List (List Nat × List Nat × Option D)} {params : Arguments} {body : Expr} {scope : Scope} {c P : Addr} {p lp pos : Pos} (A : AskF X F k x n r hs) (hY : F.Y = none) (hg : Gl X x) (TB : TabB X.base X.mg c P) (hcode : X.env.code = .ref c) (hmT : (P, X.env.qual ++ "<lambda>") ∈ F.T.tabs) (hu : ∀ p ∈ F.T.tabs, p.1 = P → p.2 = X.env.qual ++ "<lambda>")
    (hr : Room (k + 2) X.A) (L : LamS X.env.scope scope) (hdef : defaultsOf params X.env = ([], [])) (hbind : ∀ (q : Str) (cl : List (Str × Addr)) (pm cv ct : Value), bindArgs (PySem.W.kla_fn "<lambda>" q params body scope cl pm cv ct) ⟨[], []⟩ = pure [])
    (hbody : ∀ (A : Around) (outer : List PySem.Env) (s : Shared) (H : Hp) (E : XK) (f c' : Addr), Room k (A.deeper (lamEnv X scope s.heap.objs.size f c')) → PE (lamCx X A outer s H E scope f c') body (tE X F (fun cls d _ H => E cls d H) e))
    (hdb : (x == ("__debug__" : Str)) = false) : PE X (.Call (.Name x p) [.Lambda params body scope lp] [] pos) (tE X F W (.ask n r hs e)) := by
  obtain ⟨a, v, g, pg, e1, hd, hds, l, sg, dV, kV, doc, pm, cdv, ct, oc, an, od, osl, Ng, pv, p1, p2, p3, p4, p8, hm, hk, lk, hcg, hb, Sg, hN0, hN1, hNd, hNl, hva, hvl, hd1, hd2, hsw, hHd, hE⟩ := A.ex
  refine ⟨fun pins s σ H Q I h => ?_⟩
  obtain ⟨ρ, sv, S, m, e0, run⟩ := h
  refine wpAny_Call_Name_kw (ld_glob I hg hm ?_ hdb)
  refine PySem.W.callWith_K (h₀ := X.base) I.ok.mod.kin hk ?_ (by rfl) (by rfl)
  show wpAny _ _ (spliced ((false, eval (.Lambda params body scope lp) X.env) :: backTo pos (starEach [] X.env))) _ _ s
  refine Calls.spliced_cons (lam_mk I TB hcode (TabR.tabs m _ hmT) hdef (L.has I.ok) fun f c' pm' ctv H1 s1 I1 lh hf hfn hfr hco => ?_)
  refine Calls.spliced_nil ⟨I1.kIn, ?_⟩
  obtain ⟨ρ1, x1, m1⟩ := lam_rs m hmT hu lh
  have e2 : EnvR X.K F.T F.Y ρ1 H1 sv σ := e0.mono m x1
  have run1 := Run.shift x1 m1 run
  have rc : codeAny (model X.prog X.w) X.A (.call (.ref g) ⟨[.ref f], []⟩) (CR C8.CX0 X.stack X.prog X.w H1 s1 Q C8.E0) s1 := by
    refine run_ofS (N := Ng) (ps := [a]) (us := [.ref f]) (vs := [.ref f]) lk hcg Sg hr I1.env0 (hb s1 [.ref f] I1.kIn rfl) (.cons rfl .nil) rfl fun hr' => ?_
    obtain ⟨Z, hZ⟩ : ∃ Z : Cx, Z = cxOf C8.CX0 X.prog X.w X.K X.mg X.base Ng x sg g cdv X.A X.stack s1 H1 C8.E0 := ⟨_, rfl⟩
    have act : ∀ (W' : WX) (pn : List (Addr × Obj)) (xe : Value → Shared → Prop) (E : XK), Takes (Z.tr pn xe) W' → (∀ cls d σ' H', E cls d H' → W' cls d σ' H') →
        PE (Z.tr pn xe) (.Call (.Name a p1) [] [] p2) (fun σZ HZ Q => σZ[0]? = some (some (.ref f)) ∧ HZ c' = some (CodeO c' (X.env.qual ++ "<lambda>")) ∧ tE X F (fun cls d _ H => E cls d H) e σ HZ Q) := fun W' pn xe E tk hW => by
      subst hZ
      exact pe_act (i := 0) I1 L hf hfn hfr (hbind _ _ _ _ _) tk hW hr' (fun A outer s H hr2 => hbody A outer s H E f c' hr2) hN0 hva hd1 hd2
    have hZe : Z.N = Ng ∧ Z.env.scope = sg ∧ Z.mg = X.mg ∧ Z.prog = X.prog ∧ Z.w = X.w ∧ Z.K = X.K ∧ Z.base = X.base ∧ Room k Z.A ∧ Z.calm = true ∧ Z.stack = Z.env :: Z.outer ∧ Z.env.frame = some Z.env.locals := by
      subst hZ
      exact ⟨rfl, rfl, rfl, rfl, rfl, rfl, rfl, hr'.mono (Nat.le_succ k), rfl, rfl, rfl⟩
    obtain ⟨z1, z2, z3, z4, z5, z6, z7, z8, z9, z10, z11⟩ := hZe
    have ret : PE Z.nox e1 (tE Z.nox F W0 r) := hE Z.nox z4 z5 z6 z3 z7 z1 z2 z8 z9
    have body : PS Z.nox (.Try [.Assign [.Name v pv] (.Call (.Name a p1) [] [] p2) p3, .Return (some e1) p4] (hd :: hds) [] [] p8) (fun D σZ HZ => AskB X F e r σ f c' (wMany Z.nox.K (fun _ _ _ _ => False) D (lOf l)) D σZ HZ) := by
      refine ps_try_many (X := Z.nox) (tb := AskB X F e r σ f c') z10 z11 takes_none5 (fun W' pn xe tk po => ?_) (hdA_ok hHd z3 z2)
      refine ⟨fun pinsZ sZ σZ HZ D IZ q => ?_⟩
      obtain ⟨E, hW, q1, q2, q3⟩ := q
      have pa := act W' pn xe E tk hW
      have pr : PE (Z.nox.tr pn xe) e1 (tE X F W0 r) := by
        have := hE (Z.nox.tr pn xe) z4 z5 z6 z3 z7 z1 z2 z8 z9
        have e3 : (tE (Z.nox.tr pn xe) F W0 r) = tE X F W0 r := by
          unfold tE Go rdR
          rw [show (Z.nox.tr pn xe).K = X.K from z6]
        rw [e3] at this
        exact this
      have st := pss_cons (ps_set (X := Z.nox.tr pn xe) (i := 1) (x := v) (pos := p3) (pos' := pv) (by rw [show (Z.nox.tr pn xe).N = Ng from z1]; exact hNd) (by rw [show (Z.nox.tr pn xe).N = Ng from z1]; exact hN1) (by rw [show (Z.nox.tr pn xe).env.scope = sg from z2]; exact .inl hvl) pa (hsw _) (.inr (by rw [show (Z.nox.tr pn xe).env.scope = sg from z2]; exact hvl))) (pss_one (ps_ret (pos := p4) pr))
      exact st.run pinsZ sZ σZ HZ D IZ ⟨q1, q2, q3⟩
    refine ⟨_, by rw [hZ] at body; exact (pss_one body).nox, ?_⟩
    have l0 : (L2.start Ng [V.ref f])[0]? = some (some (V.ref f)) := rfl
    refine ⟨AskE X F hs Q, fun cls d σ' H' q => askE_many hHd (D := { nx := fun _ H' => Q .non H', rt := Q }) q, l0, hco, ?_⟩
    refine ⟨ρ1, sv, S, m1, e2, ?_⟩
    have run1 : Run X.K F.T F.Z (rdR X F) (fun c d H => W c d σ H) ρ1 H1 (M.ask hs (ev F.cal e sv) (fun d => ev F.cal r (none :: some d :: List.replicate n none)) S) Q := run1
    unfold M.ask at run1
    cases z : ev F.cal e sv S with
    | bad => rw [z] at run1; exact run1
    | exc c p S2 =>
      rw [z] at run1
      obtain ⟨z', hz', q⟩ := Run.opt run1
      intro ρ3 H3 cls d x3 m3 xr
      exact ⟨ρ3, c, p, S2, z', m3, xr, hz', fun ρ4 H4 u x4 m4 ru => q ρ4 H4 u (x3.trans x4 m3) m4 ru⟩
    | ok d S2 =>
      rw [z] at run1
      simp only at run1
      intro ρ3 H3 w x3 m3 rd
      have q := calm_run (W' := fun c d H => W0 c d ((L2.start Ng [V.ref f]).set 1 (some w)) H) (Run.shift x3 m3 run1)
      refine ⟨ρ3, none :: some d :: List.replicate n none, S2, m3, ?_, q⟩
      have hl : (L2.start Ng [V.ref f]).length = n + 2 := by unfold L2.start; simp; omega
      refine ⟨by simp [hl], (fun y hy => by rw [hY] at hy; cases hy), fun i d' hi hq => ?_⟩
      match i, hq with
      | 0, hq => simp at hq
      | 1, hq =>
        simp at hq
        subst hq
        exact ⟨w, by rw [List.getElem?_set_self (by omega)], rd⟩
      | i + 2, hq =>
        simp only [List.getElem?_cons_succ, List.getElem?_replicate] at hq
        split at hq <;> cases hq
  refine wpAny_call (codeAny_mono rc fun r s2 hq => ?_)
  cases r with
  | error e => exact (show False from hq).elim
  | ok fl =>
    cases fl with
    | ret u => exact I1.after hq
    | next => exact False.elim hq
    | brk => exact False.elim hq
    | cont => exact False.elim hq
end
end Lk
end

section
/-! FS: starred items. -/
set_option Elab.async false
set_option linter.all false
set_option maxRecDepth 100000
set_option maxHeartbeats 2000000
namespace Lk
open PySem PySem.Spec PyProof.Rows L2 SlX
theorem rds_rg {K : PySem.W.Frag} {T : Ty} {ρ : Pm} {H : Hp} (a b : Int) : RDs K T ρ H ((List.range (b - a).toNat).map fun (k : Nat) => D.int (a + k)) (rgV a b) := by
  have key : ∀ l : List Nat, RDs K T ρ H (l.map fun (k : Nat) => D.int (a + k)) (l.map fun (i : Nat) => V.int (a + (i : Nat))) := by
    intro l
    induction l with
    | nil => exact .nil
    | cons x l ih => exact .cons (.int _) ih
  exact key _
section
variable {X : Cx} {F : Fx} {W : WX} {pins : List (Addr × Obj)} {σ : L2.St} {H : Hp} {s : Shared} {ρ : Pm} {S : Store} {K : PySem.W.Frag} {T : Ty}
theorem star_str {z : Str} {t : Tok} {E : Value → Shared → Prop} {Q : List Value → Shared → Prop} (hc : X.calm = true) (I : L2.Inv X pins σ H s) (hz : z.cps.size ≤ sizeLine) (hQ : ∀ us s', L2.Inv X pins σ H s' → Vals (z.cps.toList.map fun c => V.str ⟨#[c]⟩) us → Q us s') : PySem.W.StarOf (model X.prog X.w) X.A E (.str z t) Q s := by
  have hT : s.TypeIs (.str z t) "str" := rfl
  have go : wpAny (model X.prog X.w) X.A (collect (.str z t)) Q E s := by
    refine wpAny_collect_str (I.ok.hd hc) z t (fun s' acc hk hg hd ho hi => ?_) hz
    refine hQ acc.toList s' ?_ ?_
    · have es : s' = { s with heap := s'.heap, toks := s'.toks } := by
        obtain ⟨h1, g1, d1, t1, o1⟩ := s'
        obtain ⟨h2, g2, d2, t2, o2⟩ := s
        simp only at hg hd ho
        subst hg hd ho
        rfl
      rw [es]
      exact I.kept (h' := s'.heap) (t' := s'.toks) hk
    · refine vals_of_at (by rw [List.length_map, Array.length_toList, Array.length_toList, hi.1]) fun j x w h1 h2 => ?_
      obtain ⟨c, u, hc, rfl⟩ := hi.2 j w (by rw [← Array.getElem?_toList]; exact h2)
      rw [List.getElem?_map, Array.getElem?_toList, hc] at h1
      cases h1
      exact ⟨u, rfl⟩
  unfold PySem.W.StarOf notIterableAtAll
  exact wpAny_bind (wpAny_specialOf hT PySem.F.slot_str_iter.lookup (wpAny_pure ⟨rfl, go⟩))
/-- what is walked, as it is spliced -/
theorem star_walk {d : D} {ys : List D} {v : V} {u : Value} {E : Value → Shared → Prop} {Q : List Value → Shared → Prop} (hc : X.calm = true) (I : L2.Inv X pins σ H s) (m : RS X.K F.T ρ S H) (hy : walkS S d = some ys) (hl : ys.length ≤ sizeMax) (rd : RD X.K F.T ρ H d v) (ru : L2.RelV v u) (hQ : ∀ us vs s', L2.Inv X pins σ H s' → RDs X.K F.T ρ H ys vs → Vals vs us → Q us s') : PySem.W.StarOf (model X.prog X.w) X.A E u Q s := by
  by_cases hs : ∃ z, d = .str z
  · obtain ⟨z, rfl⟩ := hs
    cases hy
    cases rd
    obtain ⟨t, rfl⟩ := (show ∃ t, u = Value.str ⟨z.toArray⟩ t from ru)
    refine star_str hc I (sizeMax_le (by simpa using hl)) fun us s' I' rv => hQ us _ s' I' (rds_signs z) ?_
    simpa using rv
  · have hi : itemsOf S d = some ys := by cases d <;> first | exact hy | exact absurd ⟨_, rfl⟩ hs
    obtain ⟨a, vs, rfl, ha, rs⟩ := itemsOf_inv m hi rd
    cases (show u = Value.ref a from ru)
    exact StX.star_any I ha.symm fun us s' I' rv => hQ us vs s' I' rs rv
/-- *e, then the rest -/
theorem sA_star {e : Expr} {es : List Expr} {x : XE} {xs : XEs} {p : Pos} (hc : X.calm = true) (he : PE X e (tE X F W x)) (hr : PA X es (tAs X F W xs)) (hs : starEach (.Starred e p :: es) X.env = (true, eval e X.env) :: starEach es X.env) : PA X (.Starred e p :: es) (tAs X F W (.star x xs)) := by
  refine ⟨fun pos pins s σ H Q I h => ?_⟩
  refine PySem.W.items_star (thn (he.run pins s σ H _ I (Go.bind (rA := rdR X F) h)) fun v s1 ⟨y, H1, I1, ry, ρ, sv, d, S, S0, _, m, e0, rd, q⟩ => ?_) hs
  unfold M.bind at q
  cases hy : walkS S d with
  | none => simp only [hy, M.opt, M.bad] at q; exact q.elim
  | some ys =>
    simp only [hy, M.opt, M.pure] at q
    cases h1 : decide (ys.length ≤ sizeMax) with
    | false => rw [h1] at q; exact q.elim
    | true =>
      rw [h1] at q
      refine star_walk hc I1 m hy (of_decide_eq_true h1) rd ry fun us vs s2 I2 rs rv => ?_
      have q' : Run X.K F.T F.Z (RDs X.K F.T) (fun c d H => W c d σ H) ρ H1 (M.bind (evs F.cal xs sv) (fun xs => match decide (ys.length + xs.length ≤ sizeMax) with
        | true => M.pure (ys ++ xs)
        | false => M.bad) S) Q := q
      refine thn (hr.run pos pins s2 σ H1 _ I2 ⟨ρ, sv, S, m, e0, Run.bind (rA := RDs X.K F.T) q'⟩) fun ws s3 ⟨zs, H3, I3, r3, ρ3, ds, S3, _, x3, m3, rd3, q3⟩ => ?_
      cases h2 : decide (ys.length + ds.length ≤ sizeMax) with
      | false => rw [h2] at q3; exact q3.elim
      | true =>
        rw [h2] at q3
        exact ⟨vs ++ zs, H3, I3, rv.append r3, Run.here (a := ys ++ ds) m3 q3 ((rs.mono m x3).append rd3)⟩
/-- *range(n), then the rest -/
theorem sA_starR {a : Expr} {es : List Expr} {x : XE} {xs : XEs} {p q pos2 : Pos} (hc : X.calm = true) (hg : Gl X "range") (hm : X.mg "range" = none) (ha : PE X a (tE X F W x)) (hs1 : starEach [a] X.env = [(false, eval a X.env)]) (hr : PA X es (tAs X F W xs)) (hs : starEach (.Starred (.Call (.Name "range" q) [a] [] pos2) p :: es) X.env = (true, eval (.Call (.Name "range" q) [a] [] pos2) X.env) :: starEach es X.env) : PA X (.Starred (.Call (.Name "range" q) [a] [] pos2) p :: es) (tAs X F W (.star (.lrng (.cons x .nil)) xs)) := by
  refine ⟨fun pos pins s σ H Q I h => ?_⟩
  obtain ⟨ρ, sv, S, m, e0, r0⟩ := h
  have r1 : Run X.K F.T F.Z (RDs X.K F.T) (fun c d H => W c d σ H) ρ H (M.bind (ev F.cal x sv) (fun d => M.bind (fun S => M.opt (rangeD [d]) S) fun ys => match decide (ys.length ≤ sizeMax) with
    | true => M.bind (evs F.cal xs sv) fun xs => match decide (ys.length + xs.length ≤ sizeMax) with
      | true => M.pure (ys ++ xs)
      | false => M.bad
    | false => M.bad) S) Q := by
    have e1 : evs F.cal (.star (.lrng (.cons x .nil)) xs) sv S = M.bind (ev F.cal x sv) (fun d => M.bind (fun S => M.opt (rangeD [d]) S) fun ys => match decide (ys.length ≤ sizeMax) with
      | true => M.bind (evs F.cal xs sv) fun xs => match decide (ys.length + xs.length ≤ sizeMax) with
        | true => M.pure (ys ++ xs)
        | false => M.bad
      | false => M.bad) S := by
      simp only [evs, ev, M.bind, M.pure]
      cases ev F.cal x sv S with
      | bad => rfl
      | exc c p S1 => rfl
      | ok d S1 =>
        simp only
        cases rangeD [d] with
        | none => rfl
        | some ys => rfl
    rw [← e1]
    exact r0
  refine PySem.W.items_star (thn (prg_1 hg hm ha hs1 pins s σ H (fun i j H1 => i = 0 ∧ ∃ ρ1 S1, RS X.K F.T ρ1 S1 H1 ∧ EnvR X.K F.T F.Y ρ1 H1 sv σ ∧ j < 1000000 ∧ -1000000 < j ∧ Run X.K F.T F.Z (RDs X.K F.T) (fun c d H => W c d σ H) ρ1 H1 (M.bind (evs F.cal xs sv) (fun xs => match decide (j.toNat + xs.length ≤ sizeMax) with
      | true => M.pure ((List.range j.toNat).map (fun (k : Nat) => D.int k) ++ xs)
      | false => M.bad) S1) Q) I ⟨ρ, sv, S, m, e0, Run.mono (Run.bind (rA := rdR X F) r1) ?_⟩) fun v s1 ⟨r, i, j, t, u, w', H1, ev', hr', I1, ei, ρ1, S1, m1, e1, hj1, hj2, q1⟩ => ?_) hs
  · rintro v H1 ⟨ρ1, d, S1, _, x1, m1, rd, q⟩
    unfold M.bind at q
    cases hy : rangeD [d] with
    | none => simp only [hy, M.opt, M.bad] at q; exact q.elim
    | some ys =>
      simp only [hy, M.opt, M.pure] at q
      cases h1 : decide (ys.length ≤ sizeMax) with
      | false => rw [h1] at q; exact q.elim
      | true =>
        rw [h1] at q
        unfold rangeD at hy
        split at hy
        · rename_i n hn
          cases hn
          obtain ⟨h2, rfl⟩ := ite_some hy
          refine ⟨n, rd.int_inv, rfl, ρ1, S1, m1, e0.mono m x1, h2.1, h2.2, ?_⟩
          have q2 : Run X.K F.T F.Z (RDs X.K F.T) (fun c d H => W c d σ H) ρ1 H1 (M.bind (evs F.cal xs sv) (fun xs => match decide (((List.range n.toNat).map fun (k : Nat) => D.int k).length + xs.length ≤ sizeMax) with
            | true => M.pure ((List.range n.toNat).map (fun (k : Nat) => D.int k) ++ xs)
            | false => M.bad) S1) Q := q
          simpa only [List.length_map, List.length_range] using q2
        · rename_i z; cases z
        · rename_i z; cases z
        · cases hy
  · subst ev'
    subst ei
    have z : wpAny (model X.prog X.w) X.A (collect (.ref r)) (fun here s₂ => wpAny (model X.prog X.w) X.A (spliced (backTo pos (starEach es X.env))) (fun vs s₃ => AP X pins σ Q (here ++ vs) s₃) X.xe s₂) X.xe s1 := by
      refine collect_range (n := (j - 0).toNat) (I1.ok.hd hc) hr' (small_one (by omega) (by omega) (by omega) (by omega)) (rangeSize_nat 0 j) (by omega) fun h' tk acc hk hi => ?_
      have I2 : L2.Inv X pins σ H1 { s1 with heap := h', toks := tk } := I1.kept hk
      refine thn (hr.run pos pins _ σ H1 _ I2 ⟨ρ1, sv, S1, m1, e1, Run.bind (rA := RDs X.K F.T) q1⟩) fun ws s3 ⟨zs, H3, I3, r3, ρ3, ds, S3, _, x3, m3, rd3, q3⟩ => ?_
      cases h2 : decide (j.toNat + ds.length ≤ sizeMax) with
      | false => rw [h2] at q3; exact q3.elim
      | true =>
        rw [h2] at q3
        refine ⟨rgV 0 j ++ zs, H3, I3, (vals_rg hi).append r3, Run.here (a := (List.range j.toNat).map (fun (k : Nat) => D.int k) ++ ds) m3 q3 (RDs.append ?_ rd3)⟩
        have := rds_rg (K := X.K) (T := F.T) (ρ := ρ3) (H := H3) 0 j
        simpa using this
    have hT : s1.TypeIs (.ref r) "range" := ⟨_, hr', rfl⟩
    unfold PySem.W.StarOf notIterableAtAll
    exact wpAny_bind (wpAny_specialOf hT PySem.F.slot_range_iter.lookup (wpAny_pure ⟨rfl, z⟩))
end
end Lk
end

section
/-! FT: comprehensions of two clauses. -/
set_option Elab.async false
set_option linter.all false
set_option maxRecDepth 100000
set_option maxHeartbeats 2000000
namespace Lk
open PySem PySem.Spec PyProof.Rows L2 SlX
section
variable {X : Cx} {F : Fx} {W : WX} {K : PySem.W.Frag} {T : Ty} {Y : Option Slf} {ρ : Pm} {H : Hp} {S : Store}
theorem wipeE_get {vs : List Nat} : ∀ {σ : Env} {i : Nat} {d : D}, (wipeE σ vs)[i]? = some (some d) → σ[i]? = some (some d) := by
  induction vs with
  | nil => exact fun h => h
  | cons v vs ih =>
    intro σ i d h
    simp only [wipeE] at h
    by_cases z : v = i
    · subst z
      by_cases l : v < (wipeE σ vs).length
      · rw [List.getElem?_set_self l] at h; cases h
      · rw [List.getElem?_eq_none (by simpa using l)] at h; cases h
    · rw [List.getElem?_set_ne z] at h
      exact ih h
theorem wipeE_len {σ : Env} : ∀ vs : List Nat, (wipeE σ vs).length = σ.length
  | [] => rfl
  | v :: vs => by simp [wipeE, wipeE_len vs]
theorem wipeE_zero {σ : Env} : ∀ vs : List Nat, (∀ w ∈ vs, w ≠ 0) → (wipeE σ vs)[0]? = σ[0]?
  | [], _ => rfl
  | v :: vs, h => by
    simp only [wipeE]
    rw [List.getElem?_set_ne (h v (by simp))]
    exact wipeE_zero vs fun w hw => h w (by simp [hw])
theorem EnvR.monoK {ρ' : Pm} {H' : Hp} (e : ExtK ρ H ρ' H') {σ : Env} {σV : L2.St} (h : EnvR K T Y ρ H σ σV) : EnvR K T Y ρ' H' σ σV :=
  ⟨h.1, h.2.1, fun i d l q => let ⟨v, h1, h2⟩ := h.2.2 i d l q; ⟨v, h1, h2.monoK e⟩⟩
mutual
theorem setTg_ln : ∀ {t : Tg} {d : D} {σ σ2 : Env}, setTg t d σ = some σ2 → σ2.length = σ.length
  | .nm i, d, σ, σ2, h => by simp only [setTg] at h; cases h; simp
  | .tp ts, d, σ, σ2, h => by
    cases d <;> first | (simp [setTg] at h; done) | exact setTgs_ln (by simpa [setTg] using h)
theorem setTgs_ln : ∀ {ts : Tgs} {ds : List D} {σ σ2 : Env}, setTgs ts ds σ = some σ2 → σ2.length = σ.length
  | .nil, ds, σ, σ2, h => by cases ds <;> simp [setTgs] at h; rw [h]
  | .cons t r, ds, σ, σ2, h => by
    cases ds with
    | nil => simp [setTgs] at h
    | cons x xs =>
      simp only [setTgs] at h
      split at h
      · rename_i σ3 hz
        rw [setTgs_ln h, setTg_ln hz]
      · cases h
end
/-- less is known -/
theorem EnvR.less {σ : Env} {σV : L2.St} (h : EnvR K T Y ρ H σ σV) (vs : List Nat) (hz : Y = none ∨ ∀ v ∈ vs, v ≠ 0) : EnvR K T Y ρ H (wipeE σ vs) σV := by
  refine ⟨by rw [wipeE_len]; exact h.1, fun y hy q => ?_, fun i d l q => h.2.2 i d l (wipeE_get q)⟩
  rcases hz with hz | hz
  · rw [hz] at hy; cases hy
  · rw [wipeE_zero vs hz] at q
    exact h.2.1 y hy q
theorem wipeE_twice {σ : Env} (vs : List Nat) : wipeE (wipeE σ vs) vs = wipeE σ vs := by
  have key : ∀ (ws : List Nat) (σ : Env), (∀ w ∈ ws, ∀ d, σ[w]? ≠ some (some d)) → wipeE σ ws = σ := by
    intro ws
    induction ws with
    | nil => intro σ _; rfl
    | cons w ws ih =>
      intro σ h
      simp only [wipeE]
      rw [ih σ fun v hv => h v (by simp [hv])]
      apply List.ext_getElem?
      intro i
      by_cases z : w = i
      · subst z
        by_cases l : w < σ.length
        · rw [List.getElem?_set_self l]
          cases q : σ[w]? with
          | none => rw [List.getElem?_eq_getElem l] at q; cases q
          | some o =>
            cases o with
            | none => rfl
            | some d => exact absurd q (h w (by simp) d)
        · rw [List.getElem?_eq_none (by simpa using l), List.getElem?_eq_none (by simpa using l)]
      · rw [List.getElem?_set_ne z]
  refine key vs _ fun w hw d q => ?_
  have : ∀ (us : List Nat) (σ : Env), w ∈ us → ∀ d, (wipeE σ us)[w]? ≠ some (some d) := by
    intro us
    induction us with
    | nil => intro _ h; simp at h
    | cons u us ih =>
      intro σ h d q
      simp only [wipeE] at q
      by_cases z : u = w
      · subst z
        by_cases l : u < (wipeE σ us).length
        · rw [List.getElem?_set_self l] at q; cases q
        · rw [List.getElem?_eq_none (by simpa using l)] at q; cases q
      · rw [List.getElem?_set_ne z] at q
        exact ih σ (by rcases List.mem_cons.mp h with h | h; exact absurd h.symm z; exact h) d q
  exact this vs σ hw d q
/-- what the rest gives: the list as it is at the end -/
def RunC (K : PySem.W.Frag) (T : Ty) (ρ0 : Pm) (H0 : Hp) (r : Res (List D)) (Q : VK) : Prop := match r with
  | .ok ys S => ∀ ρ' H' p vs, Ext ρ0 H0 ρ' H' → RS K T ρ' S H' → RDs K T ρ' H' ys vs → H' p = some (.lst vs) → Out ρ' p → ¬ ρ'.kn p → H0 p = none → Q (.ref p) H'
  | _ => False
theorem RunC.chk {g : Gd} {k : Unit → M (List D)} {ρ0 : Pm} {H0 : Hp} {Q : VK} (h : RunC K T ρ0 H0 (M.bind (M.chk g) k S) Q) : stands S g = true ∧ RunC K T ρ0 H0 (k () S) Q := by
  by_cases z : stands S g = true
  · have hok : M.chk g S = .ok () S := by unfold M.chk; simp [z]
    rw [M.bind_ok hok] at h
    exact ⟨z, h⟩
  · have hb : M.chk g S = .bad := by unfold M.chk; simp [z]
    rw [M.bind_bad hb] at h
    exact h.elim
theorem RunC.opt {α : Type} {o : Option α} {k : α → M (List D)} {ρ0 : Pm} {H0 : Hp} {Q : VK} (h : RunC K T ρ0 H0 (M.bind (M.opt o) k S) Q) : ∃ a, o = some a ∧ RunC K T ρ0 H0 (k a S) Q := by
  cases o with
  | none => exact h.elim
  | some a => exact ⟨a, rfl, h⟩
theorem RunC.calm {α : Type} {m : M α} {k : α → M (List D)} {ρ0 : Pm} {H0 : Hp} {Q : VK} (h : RunC K T ρ0 H0 (M.bind (M.calm m) k S) Q) : ∃ a S1, m S = .ok a S1 ∧ RunC K T ρ0 H0 (k a S1) Q := by
  cases z : M.calm m S with
  | bad => rw [M.bind_bad z] at h; exact h.elim
  | exc c p S1 => exact absurd z calm_no
  | ok a S1 =>
    rw [M.bind_ok z] at h
    exact ⟨a, S1, calm_ok z, h⟩
/-- where the list that is made stands, and what it holds -/
structure Acc (K : PySem.W.Frag) (T : Ty) (ρ1 : Pm) (H1 : Hp) (D0 : Addr) (ρ : Pm) (S : Store) (H : Hp) (acc : List D) : Prop where
  x : Ext ρ1 H1 ρ H
  m : RS K T ρ S H
  ex : ∃ accV, H D0 = some (.lst accV) ∧ RDs K T ρ H acc accV
  o : Out ρ D0
  k : ¬ ρ.kn D0
theorem Acc.go {ρ1 : Pm} {H1 : Hp} {D0 : Addr} {acc : List D} {ρ' : Pm} {S' : Store} {H' : Hp} (a : Acc K T ρ1 H1 D0 ρ S H acc) (e : Ext ρ H ρ' H') (m' : RS K T ρ' S' H') : Acc K T ρ1 H1 D0 ρ' S' H' acc := by
  obtain ⟨accV, h1, h2⟩ := a.ex
  refine ⟨a.x.trans e a.m, m', ⟨accV, e.fr _ _ h1 a.o, h2.mono a.m e⟩, e.out h1 a.o, fun k => ?_⟩
  rcases e.kw D0 k with z | z
  · exact a.k z
  · rw [h1] at z; cases z
theorem Acc.push {ρ1 : Pm} {H1 : Hp} {D0 : Addr} {acc : List D} {accV : List V} {y : D} {v : V} (a : Acc K T ρ1 H1 D0 ρ S H acc) (hD : H1 D0 = none) (h1 : H D0 = some (.lst accV)) (h2 : RDs K T ρ H acc accV) (r : RD K T ρ H y v) : Acc K T ρ1 H1 D0 ρ S (upd H D0 (.lst (accV ++ [v]))) (acc ++ [y]) :=
  ⟨a.x.poke hD, a.m.poke (by rw [h1]; trivial) a.k a.o, ⟨_, upd_same, (h2.append (.cons r .nil)).poke (by rw [h1]; trivial) a.k⟩, a.o, a.k⟩
/-- without errors -/
def Nox {α : Type} (m : M α) : Prop := ∀ S c p S1, m S ≠ .exc c p S1
theorem Nox.bind {α β : Type} {m : M α} {k : α → M β} (h : Nox m) (hk : ∀ a, Nox (k a)) : Nox (M.bind m k) := fun S c p S1 z => by
  unfold M.bind at z
  cases q : m S with
  | bad => rw [q] at z; cases z
  | exc c' p' S' => exact h _ _ _ _ q
  | ok a S' => rw [q] at z; exact hk a _ _ _ _ z
theorem Nox.calm {α : Type} {m : M α} : Nox (M.calm m) := fun S c p S1 => calm_no
theorem Nox.pure {α : Type} {a : α} : Nox (M.pure a) := fun S c p S1 z => by cases z
theorem Nox.bad {α : Type} : Nox (M.bad : M α) := fun S c p S1 z => by cases z
theorem Nox.opt {α : Type} {o : Option α} : Nox (M.opt o) := by cases o; exact .bad; exact .pure
theorem Nox.chk {g : Gd} : Nox (M.chk g) := fun S c p S1 z => by unfold M.chk at z; split at z <;> cases z
theorem cnGo_nox {g : Gd} {t : Tg} {vs : List Nat} {σ : Env} {c : Env → M Bool} {k : Env → List D → M (List D)} (hk : ∀ σ acc, Nox (k σ acc)) : ∀ (xs acc : List D), Nox (cnGo g t vs σ c k xs acc)
  | [], acc => by unfold cnGo; exact .bind .chk fun _ => .pure
  | x :: xs, acc => by
    unfold cnGo
    refine .bind .chk fun _ => .bind .opt fun σ2 => .bind .calm fun b => ?_
    cases b with
    | true => exact .bind (hk _ _) fun acc2 => cnGo_nox hk xs acc2
    | false => exact cnGo_nox hk xs acc
theorem evC_nox {cal : Nat → List D → M D} {e : Env → M D} : ∀ (cl : XCs) (σ : Env) (acc : List D), Nox (evC cal cl e σ acc)
  | .nil, σ, acc => by
    unfold evC
    refine .bind .calm fun y => ?_
    split
    · exact .pure
    · exact .bad
  | .cons vs tg it t r, σ, acc => by
    unfold evC
    exact .bind .calm fun p => cnGo_nox (fun σ acc => evC_nox r σ acc) _ _
theorem runF_C {W' : XK} {m : M (List D)} {Q : VK} (h : RunF K T F.Z W' ρ H (m S) Q) (n : Nox m) : RunC K T ρ H (m S) Q := by
  revert h
  cases z : m S with
  | bad => exact fun h => h
  | exc c p S1 => exact absurd z (n _ _ _ _)
  | ok ys S1 => exact fun h => h
abbrev tstM (F : Fx) (c : XE) : Env → M Bool := fun σ => M.bind (ev F.cal c σ) fun x => M.opt (truth x)
theorem tF_lcn {own : List (Str × Nat)} {vs1 : List Nat} {t t1 : Tg} {it it1 : XI} {c c1 e : XE} {scope : Scope} (ok : BlkOk X.N X.env.scope scope own) (hnz : F.Y = none ∨ ∀ w ∈ own.map (·.2), w ≠ 0) (hsub : t.sub (own.map (·.2)) = true) (hsub1 : t1.sub vs1 = true) (hvo : ∀ v ∈ vs1, v ∈ own.map (·.2))
    {σ : L2.St} {H : Hp} {Q : VK} (hl : σ.length = X.N.length)
    (h : tF X F W (fun σ => evC F.cal (.cons (own.map (·.2)) t it c (.cons vs1 t1 it1 c1 .nil)) (fun σ => ev F.cal e σ) (wipeE σ (own.map (·.2))) []) σ H Q) :
    tLc2 (tI X F W it) (gE X F t) (tT X F W0 c) (tI X F W0 it1) (gE X F t1) (tT X F W0 c1) (tE X F W0 e) (own.map (·.2)) vs1 σ H Q := by
  obtain ⟨ρ0, s, S0, m0, e0, r0⟩ := h
  have inO : ∀ w ∈ own.map (·.2), w < σ.length := fun w hw => by
    obtain ⟨p, hp, rfl⟩ := List.mem_map.mp hw
    rw [hl]; exact ix_lt (ok.ix p hp)
  generalize hvs : own.map (·.2) = vs at *
  have r0 : RunC X.K F.T ρ0 H (M.bind (M.calm (evI F.cal it (wipeE s vs))) (fun p => cnGo p.2 t vs (wipeE s vs) (tstM F c) (fun σ acc => evC F.cal (.cons vs1 t1 it1 c1 .nil) (fun σ => ev F.cal e σ) σ acc) p.1 []) S0) Q := runF_C (m := evC F.cal (.cons vs t it c (.cons vs1 t1 it1 c1 .nil)) (fun σ => ev F.cal e σ) (wipeE s vs) []) r0 (evC_nox _ _ _)
  obtain ⟨⟨xs, g⟩, S1, hev, r1⟩ := r0.calm
  refine ⟨ρ0, wipeE s vs, S0, m0, e0.less vs hnz, ?_⟩
  rw [hev]
  intro ρ1 H1 J x1 m1 itr D0 hD
  have r1 : RunC X.K F.T ρ0 H (cnGo g t vs (wipeE s vs) (tstM F c) (fun σ acc => evC F.cal (.cons vs1 t1 it1 c1 .nil) (fun σ => ev F.cal e σ) σ acc) xs [] S1) Q := r1
  have e1 : EnvR X.K F.T F.Y ρ1 H1 s σ := e0.mono m0 x1
  have hD0 : H D0 = none := x1.was m1 hD
  generalize hG : (fun (acc : List D) (zs : List D) => cnGo g t vs (wipeE s vs) (tstM F c) (fun σ acc => evC F.cal (.cons vs1 t1 it1 c1 .nil) (fun σ => ev F.cal e σ) σ acc) zs acc) = G
  have G_nil : ∀ acc, G acc [] = M.bind (M.chk g) fun _ => M.pure acc := fun acc => by rw [← hG]; rfl
  have G_cons : ∀ acc x zs, G acc (x :: zs) = M.bind (M.chk g) fun _ => M.bind (M.opt (setTg t x (wipeE (wipeE s vs) vs))) fun σ2 => M.bind (M.calm (tstM F c σ2)) fun b => match b with
      | true => M.bind (M.bind (M.calm (evI F.cal it1 σ2)) fun p1 => cnGo p1.2 t1 vs1 σ2 (tstM F c1) (fun σ acc => evC F.cal .nil (fun σ => ev F.cal e σ) σ acc) p1.1 acc) fun acc2 => G acc2 zs
      | false => G acc zs := fun acc x zs => by
    rw [← hG]
    rfl
  have r1 : RunC X.K F.T ρ0 H (G [] xs S1) Q := by rw [← hG]; exact r1
  have nk0 : ¬ ρ1.kn D0 := fun k => by
    obtain ⟨u, hu⟩ := m1.kd D0 k
    rw [hD] at hu; cases hu
  refine ⟨fun i n H2 => n = xs.length - i ∧ i ≤ xs.length ∧ ∃ ρ S acc, Ext ρ1 H1 ρ H2 ∧ Acc X.K F.T ρ0 H D0 ρ S H2 acc ∧ RunC X.K F.T ρ0 H (G acc (xs.drop i) S) Q, ⟨xs.length, by simp, Nat.zero_le _, ρ1, S1, [], ext_new hD, ⟨x1.trans (ext_new hD) m1, m1.new hD, ⟨[], upd_same, .nil⟩, m1.out_new hD, nk0⟩, by rw [List.drop_zero]; exact r1⟩, ?_⟩
  rintro i n H2 ⟨rfl, hi, ρ, S, acc, x2, A2, r⟩
  have chk : stands S g = true := by
    cases hx : xs.drop i with
    | nil => rw [hx, G_nil] at r; exact r.chk.1
    | cons d ds => rw [hx, G_cons] at r; exact r.chk.1
  obtain ⟨hgo, hstop, hyld⟩ := itr ρ S H2 (x2.k m1 A2.m) A2.m chk
  by_cases hlt : i < xs.length
  · refine .inr ⟨hgo i hlt, fun H3 => ∃ ρ S acc, Ext ρ1 H1 ρ H3 ∧ Acc X.K F.T ρ0 H D0 ρ S H3 acc ∧ RunC X.K F.T ρ0 H (G acc (xs.drop (i + 1)) S) Q, fun H' q => ⟨xs.length - (i + 1), by omega, rfl, hlt, q⟩, fun v H3 yv => ?_⟩
    obtain ⟨x3, m3, d, hd, rd⟩ := hyld i v H3 hlt yv
    have hdr : xs.drop i = d :: xs.drop (i + 1) := by
      rw [List.drop_eq_getElem_cons hlt]
      rw [List.getElem?_eq_getElem hlt] at hd
      cases hd; rfl
    rw [hdr, G_cons] at r
    obtain ⟨s2, hs2, r⟩ := r.chk.2.opt
    rw [wipeE_twice] at hs2
    have A3 := A2.go x3 m3
    have en3 : EnvR X.K F.T F.Y ρ H3 (wipeE s vs) (L2.wipe σ vs) := ((e1.mono m1 x2).mono A2.m x3).wipe vs inO hnz
    refine ⟨ρ, wipeE s vs, S, d, s2, m3, en3, rd, hs2, fun σV2 e2 w2 => ⟨by rw [w2 _ hsub, wipe_twice], ?_⟩⟩
    obtain ⟨b, S3, hb, r⟩ := r.calm
    refine ⟨ρ, s2, S, m3, e2, ?_⟩
    show Run _ _ _ _ _ _ _ (tstM F c s2 S) _
    rw [hb]
    intro ρ4 H4 b' x4 m4 hbb
    have hbb : b = b' := hbb
    subst hbb
    have A4 := A3.go x4 m4
    have x24 : Ext ρ1 H1 ρ4 H4 := (x2.trans x3 A2.m).trans x4 m3
    cases b with
    | false =>
      rw [if_neg (by decide)]
      exact ⟨ρ4, S3, acc, x24, A4, r⟩
    | true =>
      rw [if_pos rfl]
      simp only at r
      rw [M.bind_assoc] at r
      obtain ⟨⟨ys, g1⟩, S4, hev1, r⟩ := r.calm
      have e4 := e2.mono m3 x4
      refine ⟨ρ4, s2, S3, m4, e4, ?_⟩
      rw [hev1]
      intro ρ5 H5 J1 x5 m5 itr1
      have A5 := A4.go x5 m5
      have e5 := e4.mono m4 x5
      have x25 := x24.trans x5 m4
      have hlv : σV2.length = σ.length := by rw [e2.1]; exact (setTg_ln hs2).trans (by rw [wipeE_len]; exact e1.1.symm)
      refine ⟨fun j k H6 => k = ys.length - j ∧ j ≤ ys.length ∧ ∃ ρ S acc, ExtK ρ5 H5 ρ H6 ∧ Ext ρ1 H1 ρ H6 ∧ Acc X.K F.T ρ0 H D0 ρ S H6 acc ∧ RunC X.K F.T ρ0 H (M.bind (cnGo g1 t1 vs1 s2 (tstM F c1) (fun σ acc => evC F.cal .nil (fun σ => ev F.cal e σ) σ acc) (ys.drop j) acc) (fun acc2 => G acc2 (xs.drop (i + 1))) S) Q, ⟨ys.length, by simp, Nat.zero_le _, ρ5, S4, acc, Ext.refl.k m5 m5, x25, A5, by rw [List.drop_zero]; exact r⟩, ?_⟩
      rintro j k H6 ⟨rfl, hj, ρ6, S6, acc6, x6, y6, A6, r6⟩
      have chk1 : stands S6 g1 = true := by
        cases hx : ys.drop j with
        | nil => rw [hx] at r6; unfold cnGo at r6; rw [M.bind_assoc] at r6; exact r6.chk.1
        | cons d ds => rw [hx] at r6; unfold cnGo at r6; rw [M.bind_assoc] at r6; exact r6.chk.1
      obtain ⟨hgo1, hstop1, hyld1⟩ := itr1 ρ6 S6 H6 x6 A6.m chk1
      by_cases hlt1 : j < ys.length
      · refine .inr ⟨hgo1 j hlt1, fun H7 => ∃ ρ S acc, ExtK ρ5 H5 ρ H7 ∧ Ext ρ1 H1 ρ H7 ∧ Acc X.K F.T ρ0 H D0 ρ S H7 acc ∧ RunC X.K F.T ρ0 H (M.bind (cnGo g1 t1 vs1 s2 (tstM F c1) (fun σ acc => evC F.cal .nil (fun σ => ev F.cal e σ) σ acc) (ys.drop (j + 1)) acc) (fun acc2 => G acc2 (xs.drop (i + 1))) S) Q, fun H' q => ⟨ys.length - (j + 1), by omega, rfl, hlt1, q⟩, fun v1 H7 yv1 => ?_⟩
        obtain ⟨x7, m7, d1, hd1, rd1⟩ := hyld1 j v1 H7 hlt1 yv1
        have hdr1 : ys.drop j = d1 :: ys.drop (j + 1) := by
          rw [List.drop_eq_getElem_cons hlt1]
          rw [List.getElem?_eq_getElem hlt1] at hd1
          cases hd1; rfl
        rw [hdr1] at r6
        unfold cnGo at r6
        rw [M.bind_assoc] at r6
        have r7 := r6.chk.2
        rw [M.bind_assoc] at r7
        obtain ⟨s3, hs3, r7⟩ := r7.opt
        have A7 := A6.go x7 m7
        have en7 : EnvR X.K F.T F.Y ρ6 H7 (wipeE s2 vs1) (L2.wipe σV2 vs1) := ((e5.monoK x6).mono A6.m x7).wipe vs1 (fun w hw => by rw [hlv]; exact inO w (hvo w hw)) (hnz.imp id fun q w hw => q w (hvo w hw))
        refine ⟨ρ6, wipeE s2 vs1, S6, d1, s3, m7, en7, rd1, hs3, fun σV3 e3 w3 => ⟨by rw [w3 _ hsub1, wipe_twice], ?_⟩⟩
        rw [M.bind_assoc] at r7
        obtain ⟨b1, S8, hb1, r8⟩ := r7.calm
        refine ⟨ρ6, s3, S6, m7, e3, ?_⟩
        show Run _ _ _ _ _ _ _ (tstM F c1 s3 S6) _
        rw [hb1]
        intro ρ8 H8 b' x8 m8 hbb
        have hbb : b1 = b' := hbb
        subst hbb
        have A8 := A7.go x8 m8
        have x58 : ExtK ρ5 H5 ρ8 H8 := (x6.go A6.m x7 m7).go m7 x8 m8
        have y58 : Ext ρ1 H1 ρ8 H8 := (y6.trans x7 A6.m).trans x8 m7
        cases b1 with
        | false =>
          rw [if_neg (by decide)]
          exact ⟨ρ8, S8, acc6, x58, y58, A8, r8⟩
        | true =>
          rw [if_pos rfl]
          simp only at r8
          rw [M.bind_assoc] at r8
          unfold evC at r8
          rw [M.bind_assoc] at r8
          obtain ⟨y, S9, hy, r9⟩ := r8.calm
          refine ⟨ρ8, s3, S8, m8, e3.mono m7 x8, ?_⟩
          have hy : ev F.cal e s3 S8 = .ok y S9 := hy
          rw [hy]
          intro ρ9 H9 yv x9 m9 ry
          have A9 := A8.go x9 m9
          obtain ⟨accV, hV, rV⟩ := A9.ex
          cases hz : decide (acc6.length < sizeMax) with
          | false => rw [hz] at r9; exact r9.elim
          | true =>
            rw [hz] at r9
            have A10 := A9.push hD0 hV rV ry
            have hlt' := of_decide_eq_true hz
            exact ⟨accV, hV, Nat.lt_of_lt_of_le (by rw [← rV.length]; exact hlt') (sizeMax_le (Nat.le_refl _)), ρ9, S9, acc6 ++ [y], (x58.go m8 x9 m9).poke (by rw [hV]; trivial) A9.k, (y58.trans x9 m8).poke hD, A10, r9⟩
      · have hj : j = ys.length := by omega
        subst hj
        rw [List.drop_length] at r6
        unfold cnGo at r6
        rw [M.bind_assoc] at r6
        exact .inl ⟨hstop1, ρ6, S6, acc6, y6, A6, r6.chk.2⟩
  · have hi : i = xs.length := by omega
    subst hi
    rw [List.drop_length, G_nil] at r
    have r := r.chk.2
    obtain ⟨accV, hV, rV⟩ := A2.ex
    exact .inl ⟨hstop, r ρ H2 D0 accV A2.x A2.m rV hV A2.o A2.k hD0⟩
/-- the parts of a comprehension of two clauses -/
structure Lc2Ok (X : Cx) (F : Fx) (W : WX) (elt tg iter : Expr) (ifs : List Expr) (tg1 iter1 : Expr) (ifs1 : List Expr) (scope : Scope) (own : List (Str × Nat)) (vs1 : List Nat) (t : Tg) (it : XI) (c : XE) (t1 : Tg) (it1 : XI) (c1 e : XE) : Prop where
  hi : PI X tg iter (tI X F W it)
  ok : BlkOk X.N X.env.scope scope own
  nz : F.Y = none ∨ ∀ w ∈ own.map (·.2), w ≠ 0
  sub : t.sub (own.map (·.2)) = true
  sub1 : t1.sub vs1 = true
  vo : ∀ v ∈ vs1, v ∈ own.map (·.2)
  hg : ∀ (s : Shared) (H : Hp) (C : Addr) (cl : List (Str × Addr)) (fp : List Addr), PG (X.blk s H scope (compEnvC scope cl C X.env) fp) tg (gE X F t)
  ht : ∀ (s : Shared) (H : Hp) (C : Addr) (cl : List (Str × Addr)) (fp : List Addr), PTs (X.blk s H scope (compEnvC scope cl C X.env) fp) ifs (tT X F W0 c)
  hi1 : ∀ (s : Shared) (H : Hp) (C : Addr) (cl : List (Str × Addr)) (fp : List Addr), PI (X.blk s H scope (compEnvC scope cl C X.env) fp) tg1 iter1 (tI X F W0 it1)
  hg1 : ∀ (s : Shared) (H : Hp) (C : Addr) (cl : List (Str × Addr)) (fp : List Addr), PG (X.blk s H scope (compEnvC scope cl C X.env) fp) tg1 (gE X F t1)
  ht1 : ∀ (s : Shared) (H : Hp) (C : Addr) (cl : List (Str × Addr)) (fp : List Addr), PTs (X.blk s H scope (compEnvC scope cl C X.env) fp) ifs1 (tT X F W0 c1)
  he : ∀ (s : Shared) (H : Hp) (C : Addr) (cl : List (Str × Addr)) (fp : List Addr), PE (X.blk s H scope (compEnvC scope cl C X.env) fp) elt (tE X F W0 e)
  hs : ∀ x, foldedSetIterable iter X.env x = pure x
  hs1 : ∀ env x, foldedSetIterable iter1 env x = pure x
abbrev lc2X (own : List (Str × Nat)) (vs1 : List Nat) (t : Tg) (it : XI) (c : XE) (t1 : Tg) (it1 : XI) (c1 e : XE) : XE := .lcn (own.map (·.2)) (.cons (own.map (·.2)) t it c (.cons vs1 t1 it1 c1 .nil)) e
section
variable {elt tg iter tg1 iter1 : Expr} {ifs ifs1 : List Expr} {scope : Scope} {own : List (Str × Nat)} {vs1 : List Nat} {t t1 : Tg} {it it1 : XI} {c c1 e : XE} {pos : Pos}
theorem sE_lcn (hc : X.calm = true) (hN : X.N.Nodup) (L : Lc2Ok X F W elt tg iter ifs tg1 iter1 ifs1 scope own vs1 t it c t1 it1 c1 e) : PE X (.ListComp elt [⟨tg, iter, ifs, 0⟩, ⟨tg1, iter1, ifs1, 0⟩] scope pos) (tE X F W (lc2X own vs1 t it c t1 it1 c1 e)) :=
  PEl (pe_lc2 hc hN L.hi L.ok L.vo L.hg L.ht L.hi1 L.hg1 L.ht1 L.he L.hs L.hs1) fun σ H Q hl q => tF_lcn L.ok L.nz L.sub L.sub1 L.vo hl (fl_of (fun _ => rfl) q)
theorem sS_setLcn {i : Nat} {y : Str} {py spos : Pos} (hc : X.calm = true) (hN : X.N.Nodup) (L : Lc2Ok X F W elt tg iter ifs tg1 iter1 ifs1 scope own vs1 t it c t1 it1 c1 e) (hy : X.N[i]? = some y) (hyl : X.env.scope.names.lookup y = some .local)
    (hsw : swapsWith (.ListComp elt [⟨tg, iter, ifs, 0⟩, ⟨tg1, iter1, ifs1, 0⟩] scope pos) (some (.Name y py)) spos.line X.env = pure true) :
    SS X F W (.Assign [.Name y py] (.ListComp elt [⟨tg, iter, ifs, 0⟩, ⟨tg1, iter1, ifs1, 0⟩] scope pos) spos) (.set (.nm i) (lc2X own vs1 t it c t1 it1 c1 e)) :=
  PSl (ps_setLc2 hc hN hy hyl hsw L.hi L.ok L.vo L.hg L.ht L.hi1 L.hg1 L.ht1 L.he L.hs L.hs1) fun D σ H hl h => tF_lcn L.ok L.nz L.sub L.sub1 L.vo hl (fl_of (fun _ => rfl) (Go.mono (asg_of h) fun v H1 q => gName_of (by rw [hl]; exact ix_lt hy) q))
end
end
end Lk
end

section
/-! F15: list(range(..)). -/
set_option Elab.async false
set_option linter.all false
set_option maxRecDepth 100000
set_option maxHeartbeats 2000000
namespace Lk
open PySem PySem.Spec PyProof.Rows L2 SlX
section
variable {X : Cx} {F : Fx} {W : WX} {K : PySem.W.Frag} {T : Ty} {ρ : Pm} {H : Hp} {S : Store}
theorem fresh_tF {m : Env → M (List D)} {σV : L2.St} {H : Hp} {Q : VK} {ρ : Pm} {s : Env} {S : Store} (m0 : RS X.K F.T ρ S H) (e0 : EnvR X.K F.T F.Y ρ H s σV) (h : RunF X.K F.T F.Z (fun c d H => W c d σV H) ρ H (m s S) Q) : tF X F W m σV H Q := ⟨ρ, s, S, m0, e0, h⟩
/-- the list of a range -/
theorem sF_lrng1 {a : Expr} {x : XE} {p q pos pos2 : Pos} (hc : X.calm = true) (hg : Gl X "list") (hm : X.mg "list" = none) (hg2 : Gl X "range") (hm2 : X.mg "range" = none) (ha : PE X a (tE X F W x)) (hs : starEach [a] X.env = [(false, eval a X.env)]) :
    PE X (.Call (.Name "list" p) [.Call (.Name "range" q) [a] [] pos2] [] pos) (tF X F W (fun σ => M.bind (evs F.cal (.cons x .nil) σ) fun as => M.opt (rangeD as))) := by
  refine PEw (pe_listRg hc hg hm (prg_1 hg2 hm2 ha hs)) fun σ H Q h => ?_
  obtain ⟨ρ, s, S, m, e, r⟩ := h
  refine ⟨ρ, s, S, m, e, ?_⟩
  have r2 := RunF.bind (rA := RDs X.K F.T) r
  have r3 : Run X.K F.T F.Z (RDs X.K F.T) (fun c d H => W c d σ H) ρ H (M.bind (ev F.cal x s) (fun d => M.bind (evs F.cal .nil s) fun ds => M.pure (d :: ds)) S) _ := r2
  refine Run.mono (Run.bind (rA := rdR X F) r3) ?_
  rintro v H1 ⟨ρ1, d, S1, _, e1, m1, rd, q1⟩
  have q2 : Run X.K F.T F.Z (RDs X.K F.T) (fun c d H => W c d σ H) ρ1 H1 (.ok [d] S1) _ := q1
  obtain ⟨ρ2, ds, S2, e2, m2, rs, q3⟩ := Run.here m1 q2 (.cons rd .nil)
  match ds, rs, q3 with
  | [d'], .cons rd' .nil, q3 =>
    cases hy : rangeD [d'] with
    | none => rw [hy] at q3; exact q3.elim
    | some ys =>
      rw [hy] at q3
      unfold rangeD at hy
      split at hy
      · rename_i n hn
        cases hn
        obtain ⟨h2, rfl⟩ := ite_some hy
        refine ⟨n, rd'.int_inv, ⟨by omega, by omega, by omega, by omega, by omega⟩, fun p hp => ?_⟩
        have q4 : RunF X.K F.T F.Z (fun c d H => W c d σ H) ρ2 H1 (.ok _ S2) Q := q3
        refine q4.laid .refl m2 ?_ hp
        have := rds_rg (K := X.K) (T := F.T) (ρ := ρ2) (H := H1) 0 n
        simpa using this
      · rename_i h
        cases h
      · rename_i h
        cases h
      · cases hy
/-- .. of a range with two ends -/
theorem sF_lrng2 {a b : Expr} {x y : XE} {p q pos pos2 : Pos} (hc : X.calm = true) (hg : Gl X "list") (hm : X.mg "list" = none) (hg2 : Gl X "range") (hm2 : X.mg "range" = none) (ha : PE X a (tE X F W x)) (hb : PE X b (tE X F W y)) (hs : starEach [a, b] X.env = (false, eval a X.env) :: starEach [b] X.env) (hs2 : starEach [b] X.env = [(false, eval b X.env)]) :
    PE X (.Call (.Name "list" p) [.Call (.Name "range" q) [a, b] [] pos2] [] pos) (tF X F W (fun σ => M.bind (evs F.cal (.cons x (.cons y .nil)) σ) fun as => M.opt (rangeD as))) := by
  refine PEw (pe_listRg hc hg hm (prg_2 hg2 hm2 ha hb hs hs2 (by rw [hs2]; rfl))) fun σ H Q h => ?_
  obtain ⟨ρ, s, S, m, e, r⟩ := h
  refine ⟨ρ, s, S, m, e, ?_⟩
  have r2 := RunF.bind (rA := RDs X.K F.T) r
  have r3 : Run X.K F.T F.Z (RDs X.K F.T) (fun c d H => W c d σ H) ρ H (M.bind (ev F.cal x s) (fun d => M.bind (evs F.cal (.cons y .nil) s) fun ds => M.pure (d :: ds)) S) _ := r2
  refine Run.mono (Run.bind (rA := rdR X F) r3) ?_
  rintro v H1 ⟨ρ1, d, S1, _, e1, m1, rd, q1⟩
  have q1 : Run X.K F.T F.Z (RDs X.K F.T) (fun c d H => W c d σ H) ρ1 H1 (M.bind (evs F.cal (.cons y .nil) s) (fun ds => M.pure (d :: ds)) S1) _ := q1
  refine ⟨ρ1, s, S1, m1, e.mono m e1, ?_⟩
  have q1' := Run.bind (rA := RDs X.K F.T) q1
  have q2 : Run X.K F.T F.Z (RDs X.K F.T) (fun c d H => W c d σ H) ρ1 H1 (M.bind (ev F.cal y s) (fun d => M.bind (evs F.cal .nil s) fun ds => M.pure (d :: ds)) S1) _ := q1'
  refine Run.mono (Run.bind (rA := rdR X F) q2) ?_
  rintro w H2 ⟨ρ2, d2, S2, _, e2, m2, rd2, q3⟩
  have q3 : Run X.K F.T F.Z (RDs X.K F.T) (fun c d H => W c d σ H) ρ2 H2 (.ok [d2] S2) _ := q3
  obtain ⟨ρ3, ds2, S3, _, e3, m3, rs3, q4⟩ := Run.here m2 q3 (.cons rd2 .nil)
  have q4 : Run X.K F.T F.Z (RDs X.K F.T) (fun c d H => W c d σ H) ρ3 H2 (.ok (d :: ds2) S3) _ := q4
  obtain ⟨ρ4, ds, S4, e4, m4, rs, q5⟩ := Run.here m3 q4 (.cons (rd.mono m1 e3) rs3)
  match ds, rs, q5 with
  | [d', d2'], .cons rd' (.cons rd2' .nil), q5 =>
    cases hy : rangeD [d', d2'] with
    | none => rw [hy] at q5; exact q5.elim
    | some ys =>
      rw [hy] at q5
      unfold rangeD at hy
      split at hy
      · rename_i h
        cases h
      · rename_i i j hn
        cases hn
        obtain ⟨h2, rfl⟩ := ite_some hy
        refine ⟨i, j, rd'.int_inv, rd2'.int_inv, ⟨by omega, by omega, by omega, by omega, by omega⟩, fun p hp => ?_⟩
        have q6 : RunF X.K F.T F.Z (fun c d H => W c d σ H) ρ4 H2 (.ok _ S4) Q := q5
        exact q6.laid .refl m4 (rds_rg i j) hp
      · rename_i h
        cases h
      · cases hy
end
end Lk
end

section
/-! E11: the text is turned into the evaluator's language. -/
set_option Elab.async false
set_option linter.all false
set_option maxRecDepth 100000
set_option maxHeartbeats 4000000
namespace Lk
open PySem PySem.Spec PyProof.Rows L2 SlX LamX

/-- what the text may name: defs by name and number of arguments, constants, built-ins that stand -/
structure Gt where
  defs : List ((Str × Nat) × (Nat × List D))
  cons : List (Str × D)
  blts : List Str
  ncl : Nat := 0
  clss : List (Str × Nat) := []
  atts : List (Str × List (Nat × Att)) := []
  maks : List ((Str × Nat) × (Nat × Nat × List D)) := []
  makk : List ((Str × Nat × List Str) × (Nat × Nat)) := []
  errs : List (Str × Nat) := []
  hans : List (Str × (List Nat × List Nat)) := []
  flds : List ((Str × Str) × (Nat × List Nat)) := []
  eqs : List (Nat × Nat) := []
  erri : List (Str × Nat) := []
  ops : List (String × List (Nat × Nat)) := []
  asks : List (Str × (Nat × XE × List (List Nat × List Nat × Option D))) := []
  lam : Bool := false
/-- the own methods of an operator, by class -/
def Gt.own (G : Gt) (nm : String) : List (Nat × Nat) := (G.ops.lookup nm).getD []
/-- the place of a name that is the def's own -/
def slotIx (N : List Str) (x : Str) : Option Nat := N.findIdx? (· == x)
def isVis (sc : Scope) (x : Str) : Bool := match sc.names.lookup x with
  | some .local => true
  | some .cell => true
  | some .free => true
  | _ => false
def isLoc (sc : Scope) (x : Str) : Bool := match sc.names.lookup x with
  | some .local => true
  | some .cell => true
  | _ => false
def isGlob (sc : Scope) (x : Str) : Bool := match sc.names.lookup x with
  | some .globalImplicit => true
  | _ => false
def okName (x : Str) : Bool := !(x == ("__debug__" : Str)) && !(x == ("__classdict__" : Str)) && !(x == ("__name__" : Str))
def notStar : Expr → Bool
  | .Starred _ _ => false
  | _ => true
def okT : Expr → Bool
  | .IfExp _ _ _ _ => false
  | .NamedExpr _ _ _ => false
  | _ => true
def ceL (f : Expr → Option XE) : List Expr → Option XEs
  | [] => some .nil
  | e :: es => match notStar e, f e, ceL f es with
    | true, some x, some xs => some (.cons x xs)
    | _, _, _ => none
def ceB (f : Expr → Option XE) (op : BoolOp) : List Expr → Option XE
  | [] => none
  | [a] => match okT a with
    | true => f a
    | false => none
  | a :: r => match okT a, f a, ceB f op r with
    | true, some x, some y => some (match op with | .And => .and x y | .Or => .or x y)
    | _, _, _ => none
def opB : Operator → Option Bop
  | .Add => some .add
  | .Sub => some .sub
  | .Mult => some .mul
  | .FloorDiv => some .fdiv
  | .Mod => some .mod
  | .Pow => some .pow
  | .LShift => some .shl
  | .RShift => some .shr
  | .BitOr => some .bor
  | .BitXor => some .bxor
  | .BitAnd => some .band
  | _ => none
def opC : CmpOp → Option Cop
  | .Eq => some .eq
  | .NotEq => some .ne
  | .Lt => some .lt
  | .LtE => some .le
  | .Gt => some .gt
  | .GtE => some .ge
  | .In => some .inn
  | .NotIn => some .nin
  | _ => none
def biOf (x : Str) : Option Bi :=
  if x == ("len" : Str) then some .len else if x == ("all" : Str) then some .all else if x == ("any" : Str) then some .any else if x == ("sum" : Str) then some .sum else if x == ("abs" : Str) then some .abs
  else if x == ("tuple" : Str) then some .tuple else if x == ("list" : Str) then some .list else if x == ("int" : Str) then some .int else if x == ("str" : Str) then some .str else if x == ("min" : Str) then some .min else if x == ("max" : Str) then some .max else none
mutual
def cT (N : List Str) (sc : Scope) : Nat → Expr → Option Tg
  | 0, _ => none
  | n + 1, e => match e with
    | .Name x _ => match slotIx N x, isLoc sc x with
      | some i, true => some (.nm i)
      | _, _ => none
    | .Tuple es _ _ => (cTs N sc n es).map .tp
    | _ => none
def cTs (N : List Str) (sc : Scope) : Nat → List Expr → Option Tgs
  | 0, _ => none
  | n + 1, es => match es with
    | [] => some .nil
    | e :: es => match notStar e, cT N sc n e, cTs N sc n es with
      | true, some t, some ts => some (.cons t ts)
      | _, _, _ => none
end
def ownOf (N : List Str) (scope : Scope) : List (Str × Nat) := scope.names.filterMap fun y => match y.2 with
  | .local => (slotIx N y.1).map fun i => (y.1, i)
  | .cell => (slotIx N y.1).map fun i => (y.1, i)
  | _ => none
def ceO (f : Expr → Option XE) : Option Expr → Option XB
  | none => some .no
  | some e => (f e).map .so
def ceK (f : Expr → Option XE) : List Keyword → Option XEs
  | [] => some .nil
  | k :: ks => match f k.value, ceK f ks with
    | some x, some xs => some (.cons x xs)
    | _, _ => none
def isCall0 : Expr → Bool
  | .Call (.Name _ _) [] [] _ => true
  | _ => false
def bmOf (m : Str) : Option Bm :=
  if m == ("append" : Str) then some .append else if m == ("split" : Str) then some .split else if m == ("join" : Str) then some .join else if m == ("index" : Str) then some .index else none
/-- comprehensions in an __init__ leave self alone -/
def ownOk (N : List Str) (own : List (Str × Nat)) : Bool := !(N.head? == some ("self" : Str)) || own.all fun p => p.2 != 0
section
variable (G : Gt) (N : List Str)
def kdOf (sc : Scope) (x : Str) : Option Kd := match okName x && isGlob sc x with
  | false => none
  | true => match G.clss.lookup x with
    | some c => some (.own c)
    | none => match G.blts.contains x with
      | false => none
      | true => if x == ("int" : Str) then some .int else if x == ("bool" : Str) then some .bool else if x == ("str" : Str) then some .str else if x == ("tuple" : Str) then some .tup else if x == ("list" : Str) then some .lst else if x == ("dict" : Str) then some .dic else none
def kdE (sc : Scope) : Expr → Option Kd
  | .Name x _ => kdOf G sc x
  | _ => none
def kdEs (sc : Scope) : List Expr → Option (List Kd)
  | [] => some []
  | e :: es => match kdE G sc e, kdEs sc es with
    | some k, some ks => some (k :: ks)
    | _, _ => none
/-- items of a display, starred ones among them -/
def ceS (f : Expr → Option XE) (sc : Scope) : List Expr → Option XEs
  | [] => some .nil
  | .Starred e _ :: es => match ceS f sc es with
    | none => none
    | some xs => match e with
      | .Call (.Name r _) [a] [] _ => match r == ("range" : Str) && isGlob sc r && G.blts.contains r && notStar a with
        | true => (f a).map fun x => .star (.lrng (.cons x .nil)) xs
        | false => (f e).map fun x => .star x xs
      | e => (f e).map fun x => .star x xs
  | e :: es => match notStar e, f e, ceS f sc es with
    | true, some x, some xs => some (.cons x xs)
    | _, _, _ => none
def isTupT : Expr → Bool
  | .Tuple _ _ _ => true
  | _ => false
def isBlt (sc : Scope) (x y : Str) : Bool := x == y && isGlob sc x && G.blts.contains x
/-- a call that is walked as such -/
def walked : List Str := ["range", "enumerate", "zip"]
def ceI (f : Expr → Option XE) (sc : Scope) (tg e : Expr) : Option XI := match e with
  | .Call (.Name x _) [a] [] _ => match isBlt G sc x "range" && notStar a, isBlt G sc x "enumerate" && notStar a && isTupT tg, f a with
    | true, _, some y => some (.rng (.cons y .nil))
    | false, true, some y => some (.enm y)
    | _, _, _ => match walked.contains x with
      | true => none
      | false => (f e).map .of
  | .Call (.Name x _) [a, b] [] _ => match isBlt G sc x "range" && notStar a && notStar b, isBlt G sc x "zip" && notStar a && notStar b && isTupT tg, f a, f b with
    | true, _, some y, some z => some (.rng (.cons y (.cons z .nil)))
    | false, true, some y, some z => some (.zip y z)
    | _, _, _, _ => match walked.contains x with
      | true => none
      | false => (f e).map .of
  | .Call (.Name x _) [a, b, c] [] _ => match isBlt G sc x "range" && notStar a && notStar b && notStar c, f a, f b, f c with
    | true, some y, some z, some w => some (.rng (.cons y (.cons z (.cons w .nil))))
    | _, _, _, _ => match walked.contains x with
      | true => none
      | false => (f e).map .of
  | .Call (.Attribute o m ap) [] [] pos => match m == ("items" : Str) && !isCall0 o && (ap.endLine == pos.line) && isTupT tg, f o with
    | true, some y => some (.itm y)
    | _, _ => (f e).map .of
  | .Set _ _ _ => none
  | e => (f e).map .of
def tbOf : Cop → List (Nat × Nat)
  | .eq => G.eqs
  | .ne => G.eqs
  | .lt => G.own "lt"
  | .le => G.own "le"
  | .inn => G.own "contains"
  | .nin => G.own "contains"
  | _ => []
def tbBi : Bi → List (Nat × Nat)
  | .len => G.own "len"
  | .abs => G.own "abs"
  | _ => []
def rbOf : Bop → List (Nat × Nat)
  | .mul => G.own "rmul"
  | _ => []
def noParams : Arguments → Bool
  | ⟨[], [], none, [], [], none, []⟩ => true
  | _ => false
/-- list(range(..)) -/
def ceR (f : Expr → Option XE) (sc : Scope) (x : Str) (as : List Expr) (ks : List Keyword) : Option XE := match ks, as with
  | [], [.Call (.Name r _) rs [] _] => match isBlt G sc x "list" && isBlt G sc r "range", rs with
    | true, [a] => match notStar a, f a with
      | true, some y => some (.lrng (.cons y .nil))
      | _, _ => none
    | true, [a, b] => match notStar a && notStar b, f a, f b with
      | true, some y, some z => some (.lrng (.cons y (.cons z .nil)))
      | _, _, _ => none
    | _, _ => none
  | _, _ => none
end
def Gt.calm (G : Gt) : Gt := { G with lam := false }
/-- the tests of a clause -/
def ceF (f : Expr → Option XE) : List Expr → Option XE
  | [] => some .yes
  | [c] => match okT c with
    | true => f c
    | false => none
  | _ => none
mutual
def Tg.ixs : Tg → List Nat
  | .nm i => [i]
  | .tp ts => ts.ixs
def Tgs.ixs : Tgs → List Nat
  | .nil => []
  | .cons t r => t.ixs ++ r.ixs
end
def askArg : List Expr → List Keyword → Option (Arguments × Expr × Scope)
  | [.Lambda params body scope _], [] => some (params, body, scope)
  | _, _ => none
def ce : Gt → List Str → Nat → Scope → Expr → Option XE
  | _, _, 0, _, _ => none
  | G, N, n + 1, sc, e => match e with
    | .Name x _ => match okName x with
      | false => none
      | true => match isVis sc x with
        | true => (slotIx N x).map .var
        | false => match isGlob sc x with
          | true => (G.cons.lookup x).map .con
          | false => none
    | .Constant c _ _ => match c with
      | .int i => some (.con (.int i))
      | .bool b => some (.con (.bl b))
      | .none => some (.con .non)
      | .str x => some (.con (.str x.cps.toList))
      | _ => none
    | .Tuple es _ _ => match ceS G (ce G N n sc) sc es with
      | some xs => if xs.len ≤ 1000000 then some (.tup xs) else none
      | none => none
    | .List es _ => match ceS G (ce G N n sc) sc es with
      | some xs => if xs.len ≤ 1000000 then some (.lst xs) else none
      | none => none
    | .BinOp a op b _ => match opB op, ce G N n sc a, ce G N n sc b with
      | some o, some x, some y => some (.bin o (G.own op.info.2) (rbOf G o) x y)
      | _, _, _ => none
    | .UnaryOp op a _ => match op with
      | .USub => (ce G N n sc a).map .neg
      | .Not => match okT a with
        | true => (ce G N n sc a).map .not
        | false => none
      | .Invert => (ce G N n sc a).map (.inv (G.own "invert"))
      | _ => none
    | .BoolOp op vs _ => ceB (ce G N n sc) op vs
    | .IfExp t a b _ => match okT t, ce G N n sc t, ce G N n sc a, ce G N n sc b with
      | true, some x, some y, some z => some (.ite x y z)
      | _, _, _, _ => none
    | .Compare a ops bs _ => match ops, bs with
      | [.Is], [.Constant .none _ _] => (ce G N n sc a).map .isN
      | [.IsNot], [.Constant .none _ _] => (ce G N n sc a).map .noN
      | [op], [b] => match opC op, ce G N n sc a, ce G N n sc b with
        | some o, some x, some y => match behindInMarks op b with
          | false => some (.cmp o (tbOf G o) x y)
          | true => none
        | _, _, _ => none
      | [op, op'], [b, c] => match opC op, opC op', ce G N n sc a, ce G N n sc b, ce G N n sc c with
        | some o, some p, some x, some y, some z => match behindInMarks op' c with
          | false => some (.chn o p x y z)
          | true => none
        | _, _, _, _, _ => none
      | _, _ => none
    | .Subscript a i _ => match i with
      | .Slice lo hi st _ => match st, ce G N n sc a, ceO (ce G N n sc) lo, ceO (ce G N n sc) hi with
        | none, some x, some l, some h => some (.slc x l h)
        | _, _, _, _ => none
      | i => match ce G N n sc a, ce G N n sc i with
        | some x, some y => some (.idx (G.own "getitem") x y)
        | _, _ => none
    | .Attribute o f _ => match isCall0 o, G.atts.lookup f, ce G N n sc o with
      | false, some tb, some x => some (.att tb x)
      | _, _, _ => none
    | .Call f as ks pos => match f with
      | .Attribute o m ap => match ks, as with
        | [], e :: es => match bmOf m, isCall0 o, (ap.endLine == pos.line) && decide ((e :: es).length < 20), ce G N n sc o, ceL (ce G N n sc) (e :: es) with
          | some b, false, true, some x, some ys => some (.mth b x ys)
          | _, _, _, _, _ => none
        | _, _ => none
      | .Name x _ => match okName x && isGlob sc x with
        | false => none
        | true => match askArg as ks with
          | some (params, body, scope) => match G.lam && noParams params && LamX.lamSB sc scope, G.asks.lookup x, ce G.calm N n scope body with
            | true, some (m, r, hs), some y => some (.ask m r hs y)
            | _, _, _ => none
          | none => match x == ("isinstance" : Str) with
            | true => match ks, as, G.blts.contains x with
              | [], [e, c], true => match notStar e, ce G N n sc e, c with
                | true, some y, .Name z _ => (kdOf G sc z).map fun k => .isi G.ncl [k] y
                | true, some y, .Tuple cs _ _ => match kdEs G sc cs with
                  | some kds => if kds.length ≤ 1000 then some (.isi G.ncl kds y) else none
                  | none => none
                | _, _, _ => none
              | _, _, _ => none
            | false => match ceL (ce G N n sc) as with
              | none => ceR G (ce G N n sc) sc x as ks
              | some xs => match ks with
                | [] => match G.defs.lookup (x, as.length) with
                  | some (j, dfl) => some (.call j xs (planOf xs.len dfl))
                  | none => match as with
                    | [] => none
                    | _ => match G.maks.lookup (x, as.length) with
                      | some (c, j, dfl) => some (.make c j 0 xs (planOf xs.len dfl))
                      | none => match G.blts.contains x, biOf x with
                        | true, some b => some (.bi b (tbBi G b) xs)
                        | _, _ => none
                | _ => match as with
                  | [] => none
                  | _ => match kwNames ks, ceK (ce G N n sc) ks with
                    | some ns, some ys => match G.makk.lookup (x, as.length, ns) with
                      | some (c, j) => some (.make c j 0 (xs.app ys) (planOf (xs.app ys).len []))
                      | none => none
                    | _, _ => none
      | _ => none
    | .ListComp elt gs scope _ => match gs with
      | [⟨tg, iter, ifs, 0⟩] => match blkC N sc scope (ownOf N scope) && ownOk N (ownOf N scope), cT N scope 8 tg, ceI G (ce G N n sc) sc tg iter, ceF (ce G.calm N n (relS scope sc)) ifs, ce G.calm N n (relS scope sc) elt with
        | true, some t, some it, some c, some e => match t.sub ((ownOf N scope).map (·.2)) with
          | true => some (lcX (ownOf N scope) t it c e)
          | false => none
        | _, _, _, _, _ => none
      | [⟨tg, iter, ifs, 0⟩, ⟨tg1, iter1, ifs1, 0⟩] => match blkC N sc scope (ownOf N scope) && ownOk N (ownOf N scope), cT N scope 8 tg, ceI G (ce G N n sc) sc tg iter, ceF (ce G.calm N n (relS scope sc)) ifs with
        | true, some t, some it, some c => match cT N scope 8 tg1, ceI G.calm (ce G.calm N n (relS scope sc)) (relS scope sc) tg1 iter1, ceF (ce G.calm N n (relS scope sc)) ifs1, ce G.calm N n (relS scope sc) elt with
          | some t1, some it1, some c1, some e => match t.sub ((ownOf N scope).map (·.2)) && t1.sub t1.ixs && t1.ixs.all fun v => ((ownOf N scope).map (·.2)).contains v with
            | true => some (lc2X (ownOf N scope) t1.ixs t it c t1 it1 c1 e)
            | false => none
          | _, _, _, _ => none
        | _, _, _, _ => none
      | _ => none
    | _ => none
/-- where a piece of the text stands -/
structure Good (G : Gt) (N : List Str) (k : Nat) (F : Fx) (X : Cx) (sc : Scope) : Prop where
  hN : X.N = N
  nd : N.Nodup
  hs : X.env.scope = sc
  calm : X.calm = true
  room : Room (k + 1) X.A
  k1 : 1 ≤ k
  hw : F.T.w = X.w
  eqs : ∀ c f, G.eqs.lookup c = some f → EqF X F k G.eqs c f
  lt : ∀ c f, (G.own "lt").lookup c = some f → LtF X F k (cmpInfo .Lt).2.1 (G.own "lt") c f
  le : ∀ c f, (G.own "le").lookup c = some f → LtF X F k (cmpInfo .LtE).2.1 (G.own "le") c f
  cnt : ∀ c f, (G.own "contains").lookup c = some f → OwnF X F k c "__contains__" f
  len : ∀ c f, (G.own "len").lookup c = some f → OwnF X F k c "__len__" f
  abs : ∀ c f, (G.own "abs").lookup c = some f → OwnF X F k c "__abs__" f
  inv : ∀ c f, (G.own "invert").lookup c = some f → OwnF X F k c "__invert__" f
  sub : ∀ c f, (G.own "getitem").lookup c = some f → SubF X F k c f
  bin : ∀ (op : Operator) c f, (G.own op.info.2).lookup c = some f → BinF X F k op.info.2 c f
  rev : ∀ c f, (G.own "rmul").lookup c = some f → RevF X F k c f
  sf : F.Y = none ∨ N.head? = some ("self" : Str)
  cls : ClsF X.K F.T G.ncl
  clg : ∀ x c, G.clss.lookup x = some c → c < G.ncl ∧ X.mg x = some (.ref (F.T c))
  att : ∀ f tb c t, G.atts.lookup f = some tb → tb.lookup c = some t → AttF X F k f c t
  mak : ∀ x n c j dfl, G.maks.lookup (x, n) = some (c, j, dfl) → MkF X F k x c j dfl
  mkk : ∀ x n ks c j, G.makk.lookup (x, n, ks) = some (c, j) → MkK X F k x n ks c j
  defs : ∀ x n j dfl, G.defs.lookup (x, n) = some (j, dfl) → Known X F k x j dfl
  cons : ∀ x d, G.cons.lookup x = some d → ∃ u v, X.mg x = some u ∧ RelV v u ∧ Fixed X.K F.T d v
  blts : ∀ x, G.blts.contains x = true → X.mg x = none
  asks : ∀ x n r hs, G.lam = true → G.asks.lookup x = some (n, r, hs) → AskF X F (k + 1) x n r hs
  lam : G.lam = true → Room (k + 3) X.A ∧ F.Y = none ∧ ∃ c P, TabB X.base X.mg c P ∧ X.env.code = .ref c ∧ (P, X.env.qual ++ "<lambda>") ∈ F.T.tabs ∧ ∀ p ∈ F.T.tabs, p.1 = P → p.2 = X.env.qual ++ "<lambda>"
section
variable {G : Gt} {N : List Str} {k : Nat} {F : Fx} {X : Cx} {W : WX} {sc : Scope}
theorem slotIx_some {x : Str} {i : Nat} (h : slotIx N x = some i) : N[i]? = some x := by
  unfold slotIx at h
  obtain ⟨hi, h1, _⟩ := List.findIdx?_eq_some_iff_getElem.mp h
  rw [List.getElem?_eq_getElem hi]
  simpa using h1
theorem vis_of {x : Str} (h : isVis sc x = true) : Vis sc x := by
  unfold isVis at h
  split at h
  · exact .inl (by assumption)
  · exact .inr (.inl (by assumption))
  · exact .inr (.inr (by assumption))
  · cases h
theorem loc_of {x : Str} (h : isLoc sc x = true) : sc.names.lookup x = some .local ∨ sc.names.lookup x = some .cell := by
  unfold isLoc at h
  split at h
  · exact .inl (by assumption)
  · exact .inr (by assumption)
  · cases h
theorem glob_of {x : Str} (g : Good G N k F X sc) (h : isGlob sc x = true) : Gl X x := by
  unfold isGlob at h
  split at h
  · rename_i e
    show X.env.scope.names.lookup x = some .globalImplicit
    rw [g.hs]; exact e
  · cases h
theorem okName_of {x : Str} (h : okName x = true) : (x == ("__debug__" : Str)) = false ∧ (x == ("__classdict__" : Str)) = false ∧ x ≠ "__name__" := by
  unfold okName at h
  simp only [Bool.and_eq_true, Bool.not_eq_true', beq_eq_false_iff_ne] at h
  exact ⟨beq_eq_false_iff_ne.mpr h.1.1, beq_eq_false_iff_ne.mpr h.1.2, h.2⟩
theorem star_cons {e : Expr} {es : List Expr} {env : PySem.Env} (h : notStar e = true) : starEach (e :: es) env = (false, eval e env) :: starEach es env := by
  cases e <;> first | rfl | cases h
/-- no star at all -/
theorem noStars {f : Expr → Option XE} {env : PySem.Env} {pos : Pos} : ∀ {es : List Expr} {xs : XEs}, ceL f es = some xs → (backTo pos (starEach es env)).any (·.1) = false
  | [], _, _ => rfl
  | e :: es, xs, h => by
    unfold ceL at h
    split at h
    · rename_i h1 h2 h3
      rw [star_cons h1]
      show (false || (backTo pos (starEach es env)).any (·.1)) = false
      rw [noStars h3]; rfl
    · cases h
theorem ceL_ok {f : Expr → Option XE} (hf : ∀ e x, f e = some x → PE X e (tE X F W x)) : ∀ {es : List Expr} {xs : XEs}, ceL f es = some xs → PA X es (tAs X F W xs)
  | [], _, h => by cases h; exact sA_nil
  | e :: es, xs, h => by
    unfold ceL at h
    split at h
    · rename_i h1 h2 h3
      cases h
      exact sA_cons (hf _ _ h2) (ceL_ok hf h3) (star_cons h1)
    · cases h
theorem ceB_ok {f : Expr → Option XE} {op : BoolOp} {pos : Pos} (hf : ∀ e x, f e = some x → PE X e (tE X F W x)) (ht : ∀ e x, f e = some x → okT e = true → PT X e (tT X F W x)) : ∀ {vs : List Expr} {x : XE}, ceB f op vs = some x → PE X (.BoolOp op vs pos) (tE X F W x) ∧ PW X (.BoolOp op vs pos) (tT X F W x)
  | [], _, h => by cases h
  | [a], x, h => by
    unfold ceB at h
    split at h
    · rename_i h1
      refine ⟨sE_one (hf _ _ h), ?_⟩
      cases op
      · exact sW_and1 (ht _ _ h h1)
      · exact sW_or1 (ht _ _ h h1)
    · cases h
  | a :: b :: r, x, h => by
    unfold ceB at h
    split at h
    · rename_i h1 h2 h3
      cases h
      have ih := ceB_ok (pos := pos) hf ht h3
      cases op
      · exact ⟨sE_and (hf _ _ h2) ih.1, sW_and (ht _ _ h2 h1) ih.2⟩
      · exact ⟨sE_or (hf _ _ h2) ih.1, sW_or (ht _ _ h2 h1) ih.2⟩
    · cases h
theorem room_u (g : Good G N k F X sc) : X.A.units + 80 < cLine := by have := g.room.un; omega
theorem op_never {op : Operator} {o : Bop} (h : ∀ (S : Store) (x y : D), binD S o x y = none) : OpR X (binaryOp op) (BinR X F o) := fun pins s σ H x y v u Q I rx ry q => by
  obtain ⟨ρ, x', y', S, z, _, _, _, e, _⟩ := q
  rw [h] at e; cases e
theorem opB_ok {op : Operator} {o : Bop} (h : opB op = some o) : OpR X (binaryOp op) (BinR X F o) := by
  have never : ∀ {op : Operator} {o : Bop}, (o = .shl ∨ o = .shr ∨ o = .bor ∨ o = .bxor ∨ o = .band) → OpR X (binaryOp op) (BinR X F o) := fun {op o} ho => op_never fun S x y => by
    rcases ho with rfl | rfl | rfl | rfl | rfl <;> cases x <;> cases y <;> rfl
  cases op <;> cases h
  · exact op_addE
  · exact op_subE
  · exact op_mulE
  · exact op_modE
  · exact op_powE
  · exact never (by simp)
  · exact never (by simp)
  · exact never (by simp)
  · exact never (by simp)
  · exact never (by simp)
  · exact op_fdivE
theorem opC_ok (g : Good G N k F X sc) {op : CmpOp} {o : Cop} (h : opC op = some o) : OpR X (compareOp op) (CmpR X F o) := by
  have hu := room_u g
  cases op <;> cases h
  · exact op_eqE g.hw hu
  · exact op_neE g.hw hu
  · exact op_ltE
  · exact op_leE
  · exact op_gtE
  · exact op_geE
  · exact op_inE g.hw hu
  · exact op_ninE g.hw hu
/-- another context over the same text -/
structure SameCx (X X' : Cx) : Prop where
  prog : X'.prog = X.prog
  w : X'.w = X.w
  K : X'.K = X.K
  mg : X'.mg = X.mg
  base : X'.base = X.base
theorem HdA.move {X X' : Cx} {Z : Xs} {Ng : List Str} {sg : Scope} {hds : List ExceptHandler} {hs : List (List Nat × List Nat × Option D)} {l : List (Value × V)} (hK : X'.K = X.K) (hm : X'.mg = X.mg) (h : HdA X Z Ng sg hds hs l) : HdA X' Z Ng sg hds hs l := by
  induction h with
  | nil => exact .nil
  | cons hg hdb hm' hy hn hv he r ih => exact .cons hg hdb (by rw [hm]; exact hm') (by rw [hK]; exact hy) (by rw [hK]; exact hn) hv he ih
theorem AskF.move {X X' : Cx} {F : Fx} {k n : Nat} {x : Str} {r : XE} {hs : List (List Nat × List Nat × Option D)} (h : SameCx X X') (A : AskF X F k x n r hs) : AskF X' F k x n r hs := by
  obtain ⟨hp, hw, hK, hm, hb⟩ := h
  obtain ⟨a, v, g, pg, e1, hd, hds, l, sg, dV, kV, doc, pm, cdv, ct, oc, an, od, osl, Ng, pv, p1, p2, p3, p4, p8, q1, q2, q3, q4, q5, q6, q7, q8, q9, q10, q11, q12, q13, q14, q15, q16, q17⟩ := A.ex
  refine ⟨a, v, g, pg, e1, hd, hds, l, sg, dV, kV, doc, pm, cdv, ct, oc, an, od, osl, Ng, pv, p1, p2, p3, p4, p8, ?_, ?_, ?_, ?_, ?_, q6, q7, q8, q9, q10, q11, q12, q13, q14, q15, q16.move hK hm, fun Z z1 z2 z3 z4 z5 => ?_⟩
  · rw [hm]; exact q1
  · rw [hK]; exact q2
  · rw [hK]; exact q3
  · rw [hK]; exact q4
  · rw [hK]; exact q5
  · exact q17 Z (z1.trans hp) (z2.trans hw) (z3.trans hK) (z4.trans hm) (z5.trans hb)
/-- what stands over the same text -/
theorem Good.move {G : Gt} {N : List Str} {k : Nat} {F : Fx} {X X' : Cx} {sc sc' : Scope} (g : Good G N k F X sc) (h : SameCx X X') (hN : X'.N = N) (hs : X'.env.scope = sc') (calm : X'.calm = true) (room : Room (k + 1) X'.A) : Good G.calm N k F X' sc' := by
  obtain ⟨hp, hw, hK, hm, hb⟩ := h
  have att0 := g.att
  have E : ∀ {tb c f}, EqF X F k tb c f → EqF X' F k tb c f := fun e => ⟨by rw [hp, hw, hK, hm, hb]; exact e.ex, by rw [hK]; exact e.ne, by rw [hK]; exact e.ob, by rw [hK]; exact e.t1, by rw [hK]; exact e.t2⟩
  have L : ∀ {nm tb c f}, LtF X F k nm tb c f → LtF X' F k nm tb c f := fun e => ⟨by rw [hp, hw, hK, hm, hb]; exact e.ex, by rw [hK]; exact e.t1, by rw [hK]; exact e.t2⟩
  have O : ∀ {c nm f}, OwnF X F k c nm f → OwnF X' F k c nm f := fun e => ⟨by rw [hp, hw, hK, hm, hb]; exact e.ex⟩
  refine
    { hN := hN, nd := g.nd, hs := hs, calm := calm, room := room, k1 := g.k1, hw := by rw [hw]; exact g.hw
      eqs := fun c f h => E (g.eqs c f h), lt := fun c f h => L (g.lt c f h), le := fun c f h => L (g.le c f h), cnt := fun c f h => O (g.cnt c f h), len := fun c f h => O (g.len c f h), abs := fun c f h => O (g.abs c f h), inv := fun c f h => O (g.inv c f h)
      sub := fun c f h => ⟨by rw [hp, hw, hK, hm, hb]; exact (g.sub c f h).ex⟩
      bin := fun op c f h => let e := g.bin op c f h; ⟨by rw [hp, hw, hK, hm, hb]; exact e.ex, by rw [hK]; exact e.fst, by rw [hK]; exact e.rv, by rw [hK]; exact e.ty⟩
      rev := fun c f h => let e := g.rev c f h; ⟨by rw [hp, hw, hK, hm, hb]; exact e.ex, by rw [hK]; exact e.fst, by rw [hK]; exact e.ml, by rw [hK]; exact e.ni⟩
      sf := g.sf, cls := by rw [hK]; exact g.cls, clg := by rw [hm]; exact g.clg, att := ?_
      mak := fun x n c j dfl h => ⟨by rw [hp, hw, hK, hm, hb]; exact (g.mak x n c j dfl h).ex⟩
      mkk := fun x n ks c j h => ⟨by rw [hp, hw, hK, hm, hb]; exact (g.mkk x n ks c j h).ex⟩
      defs := fun x n j dfl h => ⟨by rw [hp, hw, hK, hm, hb]; exact (g.defs x n j dfl h).ex⟩
      cons := by rw [hm, hK]; exact g.cons
      blts := by rw [hm]; exact g.blts
      asks := fun x n r hs h => (by cases h)
      lam := fun h => (by cases h) }
  intro f tb c t h1 h2
  have e := g.att f tb c t h1 h2
  cases t with
  | slot i => unfold AttF at e ⊢; rw [hK]; exact e
  | prop j => unfold AttF at e ⊢; rw [hp, hw, hK, hm, hb]; exact e
/-- the block of a comprehension -/
theorem Good.blk (g : Good G N k F X sc) (s : Shared) (H : Hp) (scope : Scope) (C : Addr) (cl : List (Str × Addr)) (fp : List Addr) : Good G.calm N k F (X.blk s H scope (compEnvC scope cl C X.env) fp) (relS scope sc) :=
  g.move ⟨rfl, rfl, rfl, rfl, rfl⟩ g.hN (by rw [← g.hs]; rfl) g.calm g.room
/-- the body of a lambda -/
theorem Good.lamC (g : Good G N k F X sc) (A : Around) (outer : List PySem.Env) (s : Shared) (H : Hp) (E : XK) (scope : Scope) (f c' : Addr) (hr : Room (k + 1) (A.deeper (lamEnv X scope s.heap.objs.size f c'))) : Good G.calm N k F (lamCx X A outer s H E scope f c') scope :=
  g.move ⟨rfl, rfl, rfl, rfl, rfl⟩ g.hN rfl rfl hr
mutual
theorem cT_ok (hN : X.N = N) (nd : N.Nodup) (hc : X.calm = true) {sc' : Scope} (hl : ∀ x, isLoc sc' x = true → L2.Loc X.env.scope x ∧ (X.fn x = true ∨ X.env.scope.names.lookup x = some .local)) : ∀ (n : Nat) {e : Expr} {t : Tg}, cT N sc' n e = some t → PG X e (gE X F t)
  | 0, _, _, h => by cases h
  | n + 1, e, t, h => by
    unfold cT at h
    split at h
    · split at h
      · rename_i h1 h2
        cases h
        exact sG_name (by rw [hN]; exact nd) (by rw [hN]; exact slotIx_some h1) (hl _ h2).1 (hl _ h2).2
      · cases h
    · obtain ⟨ts, h1, rfl⟩ := map_some h
      have := cTs_ok hN nd hc hl n h1
      exact sG_tup hc this.1 this.2.1 this.2.2
    · cases h
theorem cTs_ok (hN : X.N = N) (nd : N.Nodup) (hc : X.calm = true) {sc' : Scope} (hl : ∀ x, isLoc sc' x = true → L2.Loc X.env.scope x ∧ (X.fn x = true ∨ X.env.scope.names.lookup x = some .local)) : ∀ (n : Nat) {es : List Expr} {ts : Tgs}, cTs N sc' n es = some ts → PGs X es (gEs X F ts) ∧ (assignEach es X.env).length = ts.len ∧ (assignEach es X.env).findIdx? (·.1) = none
  | 0, _, _, h => by cases h
  | n + 1, es, ts, h => by
    unfold cTs at h
    split at h
    · cases h
      exact ⟨sGs_nil, rfl, rfl⟩
    · rename_i e es
      split at h
      · rename_i t ts h1 h2 h3
        cases h
        have ih := cTs_ok hN nd hc hl n h3
        have hs : ∀ v p, e ≠ .Starred v p := fun v p z => by rw [z] at h1; cases h1
        have ha := assignEach_cons e es X.env hs
        refine ⟨sGs_cons (cT_ok hN nd hc hl n h2) ih.1 (by rw [ha]; rfl), ?_, ?_⟩
        · rw [ha]; simp [Tgs.len, ih.2.1]
        · rw [ha, List.findIdx?_cons]
          simp [ih.2.2]
      · cases h
end
theorem isBlt_of (g : Good G N k F X sc) {x y : Str} (h : isBlt G sc x y = true) : x = y ∧ Gl X y ∧ X.mg y = none := by
  unfold isBlt at h
  simp only [Bool.and_eq_true] at h
  have e := eq_of_beq h.1.1
  subst e
  exact ⟨rfl, glob_of g h.1.2, g.blts _ h.2⟩
/-- a display's items -/
theorem ceS_ok (g : Good G N k F X sc) {f : Expr → Option XE} (hf : ∀ e x, f e = some x → PE X e (tE X F W x)) : ∀ {es : List Expr} {xs : XEs}, ceS G f sc es = some xs → PA X es (tAs X F W xs)
  | [], _, h => by cases h; exact sA_nil
  | e :: es, xs, h => by
    by_cases hst : ∃ e' p, e = .Starred e' p
    · obtain ⟨e', p, rfl⟩ := hst
      simp only [ceS] at h
      split at h
      · cases h
      · rename_i ys hy
        have ih := ceS_ok g hf hy
        split at h
        · rename_i r q a pos
          split at h
          · rename_i h1
            obtain ⟨x, hx, rfl⟩ := map_some h
            simp only [Bool.and_eq_true] at h1
            have e := eq_of_beq h1.1.1.1
            subst e
            exact sA_starR g.calm (glob_of g h1.1.1.2) (g.blts _ h1.1.2) (hf _ _ hx) (star_cons h1.2) ih rfl
          · obtain ⟨x, hx, rfl⟩ := map_some h
            exact sA_star g.calm (hf _ _ hx) ih rfl
        · obtain ⟨x, hx, rfl⟩ := map_some h
          exact sA_star g.calm (hf _ _ hx) ih rfl
    · have e1 : ceS G f sc (e :: es) = (match notStar e, f e, ceS G f sc es with | true, some x, some xs => some (.cons x xs) | _, _, _ => none) := by
        cases e <;> first | rfl | exact absurd ⟨_, _, rfl⟩ hst
      rw [e1] at h
      split at h
      · rename_i h1 h2 h3
        cases h
        exact sA_cons (hf _ _ h2) (ceS_ok g hf h3) (star_cons h1)
      · cases h
theorem ceF_ok {X' : Cx} {f : Expr → Option XE} (hf : ∀ e x, f e = some x → okT e = true → PT X' e (tT X F W0 x)) {ifs : List Expr} {c : XE} (hN : X'.K = X.K) (h : ceF f ifs = some c) : PTs X' ifs (tT X F W0 c) := by
  unfold ceF at h
  split at h
  · cases h; exact sTs_nil (X := X) hN
  · split at h
    · rename_i h1
      exact pts_one (hf _ _ h h1)
    · cases h
  · cases h
/-- what is walked -/
theorem ceI_ok (g : Good G N k F X sc) {f : Expr → Option XE} (hf : ∀ e x, f e = some x → PE X e (tE X F W x)) {tg e : Expr} {x : XI} (h : ceI G f sc tg e = some x) : PI X tg e (tI X F W x) ∧ ∀ z, foldedSetIterable e X.env z = pure z := by
  have base : ∀ {e : Expr} {x : XI}, (f e).map XI.of = some x → PI X tg e (tI X F W x) := fun h => by
    obtain ⟨y, hy, rfl⟩ := map_some h
    exact sI_of (hf _ _ hy)
  unfold ceI at h
  split at h
  · rename_i x' p a pos
    refine ⟨?_, fun _ => rfl⟩
    split at h
    · rename_i y h1 h2
      cases h
      simp only [Bool.and_eq_true] at h1
      obtain ⟨rfl, h4, h5⟩ := isBlt_of g h1.1
      exact sI_rng1 h4 h5 (sA_cons (hf _ _ h2) sA_nil (star_cons h1.2)) (star_cons h1.2) rfl rfl
    · rename_i y _ h1 h2
      cases h
      simp only [Bool.and_eq_true] at h1
      obtain ⟨rfl, h4, h5⟩ := isBlt_of g h1.1.1
      cases tg <;> first
        | exact sI_enm h4 h5 (hf _ _ h2) (star_cons h1.1.2)
        | (have := h1.2; cases this)
    · split at h
      · cases h
      · exact base h
  · rename_i x' p a b pos
    refine ⟨?_, fun _ => rfl⟩
    split at h
    · rename_i y z h1 h2 h3
      cases h
      simp only [Bool.and_eq_true] at h1
      obtain ⟨rfl, h4, h5⟩ := isBlt_of g h1.1.1
      have s2 : starEach [b] X.env = [(false, eval b X.env)] := star_cons h1.2
      exact sI_rng2 h4 h5 (sA_cons (hf _ _ h2) (sA_cons (hf _ _ h3) sA_nil s2) (star_cons h1.1.2)) (by rw [star_cons h1.1.2, s2]) s2 rfl rfl
    · rename_i y z _ h1 h2 h3
      cases h
      simp only [Bool.and_eq_true] at h1
      obtain ⟨rfl, h4, h5⟩ := isBlt_of g h1.1.1.1
      have s2 : starEach [b] X.env = [(false, eval b X.env)] := star_cons h1.1.2
      cases tg <;> first
        | exact sI_zip h4 h5 (hf _ _ h2) (hf _ _ h3) (star_cons h1.1.1.2) s2
        | (have := h1.2; cases this)
    · split at h
      · cases h
      · exact base h
  · rename_i x' p a b c pos
    refine ⟨?_, fun _ => rfl⟩
    split at h
    · rename_i y z w h1 h2 h3 h4
      cases h
      simp only [Bool.and_eq_true] at h1
      obtain ⟨rfl, h5, h6⟩ := isBlt_of g h1.1.1.1
      have s3 : starEach [c] X.env = [(false, eval c X.env)] := star_cons h1.2
      have s2 : starEach [b, c] X.env = (false, eval b X.env) :: starEach [c] X.env := star_cons h1.1.2
      exact sI_rng3 h5 h6 (sA_cons (hf _ _ h2) (sA_cons (hf _ _ h3) (sA_cons (hf _ _ h4) sA_nil s3) s2) (star_cons h1.1.1.2)) (star_cons h1.1.1.2) (by rw [s2, s3]; rfl) rfl rfl
    · split at h
      · cases h
      · exact base h
  · rename_i o m ap pos
    refine ⟨?_, fun _ => rfl⟩
    split at h
    · rename_i y h1 h2
      cases h
      simp only [Bool.and_eq_true, Bool.not_eq_true'] at h1
      have e := eq_of_beq h1.1.1.1
      subst e
      cases tg <;> first
        | exact sI_itm (hf _ _ h2) (base_ok fun x p q z => by subst z; cases h1.1.1.2) h1.1.2
        | (have := h1.2; cases this)
    · exact base h
  · cases h
  · rename_i h1 h2 h3 h4 h5
    refine ⟨base h, fun z => ?_⟩
    cases e <;> first | rfl | exact absurd rfl (h5 _ _ _)
theorem ceR_ok (g : Good G N k F X sc) {f : Expr → Option XE} (hf : ∀ e x, f e = some x → PE X e (tE X F W x)) {x : Str} {as : List Expr} {ks : List Keyword} {y : XE} {p pos : Pos} (h : ceR G f sc x as ks = some y) : PE X (.Call (.Name x p) as ks pos) (tE X F W y) := by
  unfold ceR at h
  split at h
  · split at h
    · rename_i h1
      split at h
      · rename_i z h2 h3
        cases h
        simp only [Bool.and_eq_true] at h1
        obtain ⟨rfl, h4, h5⟩ := isBlt_of g h1.1
        obtain ⟨rfl, h6, h7⟩ := isBlt_of g h1.2
        exact fresh_fl (sF_lrng1 g.calm h4 h5 h6 h7 (hf _ _ h3) (star_cons h2)) fun _ => rfl
      · cases h
    · rename_i h1
      split at h
      · rename_i z w h2 h3 h3'
        cases h
        simp only [Bool.and_eq_true] at h1 h2
        obtain ⟨rfl, h4, h5⟩ := isBlt_of g h1.1
        obtain ⟨rfl, h6, h7⟩ := isBlt_of g h1.2
        exact fresh_fl (sF_lrng2 g.calm h4 h5 h6 h7 (hf _ _ h3) (hf _ _ h3') (star_cons h2.1) (star_cons h2.2)) fun _ => rfl
      · cases h
    · cases h
  · cases h
theorem cmp_ok (g : Good G N k F X sc) {op : CmpOp} {o : Cop} {W' : XK} (h : opC op = some o) : OpR X (compareOp op) (CmpC X F W' o (tbOf G o)) := by
  have hd := opC_ok g h
  cases op <;> cases h
  · exact cmpC_eq (.inl ⟨rfl, rfl⟩) hd g.eqs g.room
  · exact cmpC_eq (.inr ⟨rfl, rfl⟩) hd g.eqs g.room
  · exact cmpC_lt (.inl ⟨rfl, rfl⟩) hd g.lt g.room
  · exact cmpC_lt (.inr ⟨rfl, rfl⟩) hd g.le g.room
  · exact cmpC_gt (.inl rfl) hd
  · exact cmpC_gt (.inr rfl) hd
  · exact cmpC_in (.inl ⟨rfl, rfl⟩) hd g.cnt g.room
  · exact cmpC_in (.inr ⟨rfl, rfl⟩) hd g.cnt g.room
theorem bi_ok (g : Good G N k F X sc) {x : Str} {b : Bi} {e : Expr} {es : List Expr} {p pos : Pos} (h : biOf x = some b) (hg : Gl X x) (hm : X.mg x = none) (hn : x ≠ "__name__") (hdb : (x == ("__debug__" : Str)) = false)
    (he : starEach (e :: es) X.env = (false, eval e X.env) :: starEach es X.env) (hpl : (backTo pos (starEach es X.env)).any (·.1) = false) (W' : XK) {t : TA} (ha : PA X (e :: es) t) : PE X (.Call (.Name x p) (e :: es) [] pos) (fun σ H Q => t σ H fun vs H1 => BiC X F W' b (tbBi G b) vs H1 Q) := by
  have hu := room_u g
  have nb : ∀ {b b' : Bi}, b ≠ b' → b ≠ b' := fun h => h
  unfold biOf at h
  repeat' split at h
  all_goals first
    | (cases h; done)
    | (rename_i hx; have e := eq_of_beq hx; subst e; cases h; first
        | exact pe_callB (bi_len g.len g.room) hg hm (by decide +kernel) ha hn hdb he hpl
        | exact pe_callB (bi_rest (by intro z; cases z) (by intro z; cases z) (by intro z; cases z) (bs_all g.calm)) hg hm (by decide +kernel) ha hn hdb he hpl
        | exact pe_callB (bi_rest (by intro z; cases z) (by intro z; cases z) (by intro z; cases z) (bs_any g.calm)) hg hm (by decide +kernel) ha hn hdb he hpl
        | exact pe_callB (bi_rest (by intro z; cases z) (by intro z; cases z) (by intro z; cases z) (bs_sum g.calm)) hg hm (by decide +kernel) ha hn hdb he hpl
        | exact pe_callB (bi_abs g.abs g.room) hg hm (by decide +kernel) ha hn hdb he hpl
        | exact pe_callB (bi_rest (by intro z; cases z) (by intro z; cases z) (by intro z; cases z) (bs_min g.calm)) hg hm (by decide +kernel) ha hn hdb he hpl
        | exact pe_callB (bi_rest (by intro z; cases z) (by intro z; cases z) (by intro z; cases z) (bs_max g.calm)) hg hm (by decide +kernel) ha hn hdb he hpl
        | exact pe_callTy (bi_rest (by intro z; cases z) (by intro z; cases z) (by intro z; cases z) bs_tuple) hg hm (by decide +kernel) ha hn hdb he hpl
        | exact pe_callTy (bi_list g.calm) hg hm (by decide +kernel) ha hn hdb he hpl
        | exact pe_callTy (bi_rest (by intro z; cases z) (by intro z; cases z) (by intro z; cases z) bs_int) hg hm (by decide +kernel) ha hn hdb he hpl
        | exact pe_callTy (bi_rest (by intro z; cases z) (by intro z; cases z) (by intro z; cases z) bs_str) hg hm (by decide +kernel) ha hn hdb he hpl)
theorem ceL_len {f : Expr → Option XE} : ∀ {es : List Expr} {xs : XEs}, ceL f es = some xs → xs.len = es.length
  | [], _, h => by cases h; rfl
  | e :: es, xs, h => by
    unfold ceL at h
    split at h
    · rename_i h1 h2 h3
      cases h
      simp [XEs.len, ceL_len h3]
    · cases h
theorem ceK_ok {f : Expr → Option XE} (hf : ∀ e x, f e = some x → PE X e (tE X F W x)) : ∀ {ks : List Keyword} {xs : XEs}, ceK f ks = some xs → PK X ks (tAs X F W xs) ∧ xs.len = ks.length
  | [], _, h => by cases h; exact ⟨sK_nil, rfl⟩
  | ⟨a, v, p⟩ :: ks, xs, h => by
    unfold ceK at h
    split at h
    · rename_i h1 h2
      cases h
      have ih := ceK_ok hf h2
      exact ⟨sK_cons (hf _ _ h1) ih.1, by simp [XEs.len, ih.2]⟩
    · cases h
theorem call0_ok {e : Expr} (h : isCall0 e = false) {f : Str} {env : PySem.Env} : attributeBase e f env (eval e env) = eval e env := base_ok fun x p q z => by subst z; cases h
theorem bm_ok (g : Good G N k F X sc) {m : Str} {b : Bm} (h : bmOf m = some b) : MthR X F m b := by
  unfold bmOf at h
  repeat' split at h
  all_goals first
    | (cases h; done)
    | (rename_i hx; have e := eq_of_beq hx; subst e; cases h; first
        | exact mth_append
        | exact mth_split
        | exact mth_join
        | exact mth_index (by have := room_u g; omega))
/-- a class's name -/
theorem kd_ok (g : Good G N k F X sc) {x : Str} {kd : Kd} (h : kdOf G sc x = some kd) (p : Pos) : kdOk G.ncl kd = true ∧ PE X (.Name x p) (tC (kdV F.T kd)) := by
  unfold kdOf at h
  split at h
  · cases h
  · rename_i h1
    simp only [Bool.and_eq_true] at h1
    obtain ⟨d1, d2, d3⟩ := okName_of h1.1
    have gl := glob_of g h1.2
    split at h
    · rename_i c hc
      cases h
      obtain ⟨hl, hm⟩ := g.clg _ _ hc
      exact ⟨by simpa [kdOk] using hl, pe_glob gl hm rfl d1⟩
    · split at h
      · cases h
      · rename_i hb
        have hm := g.blts _ hb
        repeat' split at h
        all_goals first
          | (cases h; done)
          | (rename_i hx; have e := eq_of_beq hx; subst e; cases h; exact ⟨rfl, pe_bltn gl hm (by decide +kernel) rfl d3 d1⟩)
theorem kds_ok (g : Good G N k F X sc) : ∀ {cs : List Expr} {kds : List Kd}, kdEs G sc cs = some kds → (∀ kd ∈ kds, kdOk G.ncl kd = true) ∧ PA X cs (fun _ H Q => Q (kds.map (kdV F.T)) H)
  | [], _, h => by cases h; exact ⟨(fun _ z => nomatch z), pa_nil⟩
  | e :: es, kds, h => by
    unfold kdEs at h
    split at h
    · rename_i kd ks h1 h2
      cases h
      have ih := kds_ok g h2
      cases e <;> first
        | (simp only [kdE] at h1; cases h1; done)
        | (rename_i y p
           have hk := kd_ok g (show kdOf G sc y = some kd from h1) p
           exact ⟨fun z hz => by
             rcases List.mem_cons.mp hz with z' | z'
             · rw [z']; exact hk.1
             · exact ih.1 z z', PAw (pa_cons hk.2 ih.2 rfl) fun σ H Q q => q⟩)
    · cases h
theorem ownOk_of {own : List (Str × Nat)} (g : Good G N k F X sc) (h : ownOk N own = true) : F.Y = none ∨ ∀ w ∈ own.map (·.2), w ≠ 0 := by
  rcases g.sf with z | z
  · exact .inl z
  · refine .inr fun w hw => ?_
    unfold ownOk at h
    rw [z] at h
    have e : ((some ("self" : Str)) == some ("self" : Str)) = true := by decide
    rw [e, Bool.not_true, Bool.false_or] at h
    obtain ⟨p, hp, rfl⟩ := List.mem_map.mp hw
    simpa using List.all_eq_true.mp h p hp
end
end Lk
end

section
/-! E12: what ce gives is the model's. -/
set_option Elab.async false
set_option linter.all false
set_option maxRecDepth 100000
set_option maxHeartbeats 4000000
namespace Lk
open PySem PySem.Spec PyProof.Rows L2 SlX LamX
section
variable {G : Gt} {N : List Str} {k : Nat} {F : Fx}
/-- an expression is right: as a value, as a test -/
def Right (F : Fx) (X : Cx) (W : WX) (e : Expr) (x : XE) : Prop := PE X e (tE X F W x) ∧ (okT e = true → PT X e (tT X F W x))
theorem Right.val {X : Cx} {W : WX} {e : Expr} {x : XE} (h : PE X e (tE X F W x)) (he : ∀ whole, isTrue e X.env whole = (do let v ← whole; standAt e.pos; holding [v] (truthy v))) : Right F X W e x := ⟨h, fun _ => sT_val h he⟩
theorem folded_any {f : Expr → Option XE} {sc : Scope} {tg e : Expr} {x : XI} (h : ceI G f sc tg e = some x) {env : PySem.Env} {z : Value} : foldedSetIterable e env z = pure z := by
  cases e <;> first | rfl | (simp only [ceI] at h; cases h)
theorem any_all {α : Type} {l : List (Bool × α)} (h : l.any (·.1) = false) : (l.all fun x => !x.1) = true := by
  rw [List.all_eq_true]
  intro x hx
  cases hb : x.1 with
  | false => rfl
  | true => rw [List.any_eq_false] at h; exact absurd hb (h x hx)
theorem ceL_cons {f : Expr → Option XE} {e : Expr} {es : List Expr} {xs : XEs} (h : ceL f (e :: es) = some xs) : notStar e = true ∧ ∃ ys, ceL f es = some ys := by
  unfold ceL at h
  split at h
  · exact ⟨by assumption, _, by assumption⟩
  · cases h
theorem ceL_plain {f : Expr → Option XE} : ∀ {es : List Expr} {xs : XEs}, ceL f es = some xs → xs.plain = true
  | [], _, h => by cases h; rfl
  | e :: es, xs, h => by
    unfold ceL at h
    split at h
    · rename_i h1 h2 h3
      cases h
      have := ceL_plain h3
      exact this
    · cases h
theorem ceK_plain {f : Expr → Option XE} : ∀ {ks : List Keyword} {xs : XEs}, ceK f ks = some xs → xs.plain = true
  | [], _, h => by cases h; rfl
  | k :: ks, xs, h => by
    unfold ceK at h
    split at h
    · rename_i h1 h2
      cases h
      have := ceK_plain h2
      exact this
    · cases h
theorem askArg_inv {as : List Expr} {ks : List Keyword} {params : Arguments} {body : Expr} {scope : Scope} (h : askArg as ks = some (params, body, scope)) : ∃ lp, as = [.Lambda params body scope lp] ∧ ks = [] := by
  unfold askArg at h
  split at h
  · cases h; exact ⟨_, rfl, rfl⟩
  · cases h
theorem noParams_ok {params : Arguments} (h : noParams params = true) : (∀ env : PySem.Env, defaultsOf params env = ([], [])) ∧ ∀ (body : Expr) (scope : Scope) (q : Str) (cl : List (Str × Addr)) (pm cv ct : Value), bindArgs (PySem.W.kla_fn "<lambda>" q params body scope cl pm cv ct) ⟨[], []⟩ = pure [] := by
  unfold noParams at h
  split at h
  · exact ⟨fun _ => rfl, fun _ _ _ _ _ _ _ => rfl⟩
  · cases h
theorem rev_ok {sc : Scope} {X : Cx} (g : Good G N k F X sc) {op : Operator} {o : Bop} {c f : Nat} (h1 : opB op = some o) (h : (rbOf G o).lookup c = some f) : op = .Mult ∧ RevF X F k c f := by
  cases op <;> cases h1 <;> first | cases h | exact ⟨rfl, g.rev c f h⟩
theorem sub_plain {i : Expr} (hs : ∀ lo hi st p, i = .Slice lo hi st p → False) (o j : Value) : subscripted i true o j = runValue (.builtin "lifetime.subscript" ⟨[o, j], []⟩) := by
  cases i <;> first | rfl | exact (hs _ _ _ _ rfl).elim
/-- a comprehension's parts are right -/
theorem lc_ok {n : Nat} {sc : Scope} {X : Cx} {W : WX} (g : Good G N k F X sc) (ihE : ∀ e x, ce G N n sc e = some x → PE X e (tE X F W x)) {elt : Expr} {gs : List Comprehension} {scope : Scope} {p : Pos} {x : XE}
    (ihB : ∀ e x, ce G.calm N n (relS scope sc) e = some x → ∀ (s : Shared) (H : Hp) (C : Addr) (cl : List (Str × Addr)) (fp : List Addr), Right F (X.blk s H scope (compEnvC scope cl C X.env) fp) W0 e x)
    (h : ce G N (n + 1) sc (.ListComp elt gs scope p) = some x) : (∃ tg iter ifs t it c e, gs = [⟨tg, iter, ifs, 0⟩] ∧ x = lcX (ownOf N scope) t it c e ∧ LcOk X F W elt tg iter ifs scope (ownOf N scope) t it c e) ∨
      ∃ tg iter ifs tg1 iter1 ifs1 vs1 t it c t1 it1 c1 e, gs = [⟨tg, iter, ifs, 0⟩, ⟨tg1, iter1, ifs1, 0⟩] ∧ x = lc2X (ownOf N scope) vs1 t it c t1 it1 c1 e ∧ Lc2Ok X F W elt tg iter ifs tg1 iter1 ifs1 scope (ownOf N scope) vs1 t it c t1 it1 c1 e := by
  have hG : ∀ {tg t}, cT N scope 8 tg = some t → ∀ (s : Shared) (H : Hp) (C : Addr) (cl : List (Str × Addr)) (fp : List Addr), PG (X.blk s H scope (compEnvC scope cl C X.env) fp) tg (gE X F t) := fun h2 s H C cl fp =>
    cT_ok (X := X.blk s H scope (compEnvC scope cl C X.env) fp) g.hN g.nd g.calm (fun y hy => by
      have hk : ∀ kd, kd ≠ NameKind.free → scope.names.lookup y = some kd → (relS scope X.env.scope).names.lookup y = some kd := fun kd hn hl => lookup_relS_keep hn hl
      rcases loc_of hy with z | z
      · exact ⟨.inl (hk _ (by decide) z), .inr (hk _ (by decide) z)⟩
      · exact ⟨.inr (hk _ (by decide) z), .inl (by show (scope.names.lookup y == some NameKind.cell) = true; rw [z]; rfl)⟩) 8 h2
  have hF : ∀ {ifs c}, ceF (ce G.calm N n (relS scope sc)) ifs = some c → ∀ (s : Shared) (H : Hp) (C : Addr) (cl : List (Str × Addr)) (fp : List Addr), PTs (X.blk s H scope (compEnvC scope cl C X.env) fp) ifs (tT X F W0 c) := fun h2 s H C cl fp =>
    ceF_ok (fun e x he ho => (ihB e x he s H C cl fp).2 ho) rfl h2
  have hB : ∀ {b : Bool}, (blkC N sc scope (ownOf N scope) && b) = true → BlkOk X.N X.env.scope scope (ownOf N scope) := fun h1 => by
    simp only [Bool.and_eq_true] at h1
    rw [g.hN, g.hs]; exact blkOk_by h1.1
  simp only [ce] at h
  split at h
  · rename_i tg iter ifs
    split at h
    · rename_i t it c e h1 h2 h3 h6 h4
      have hI := ceI_ok (tg := tg) g ihE h3
      split at h
      · rename_i h5
        cases h
        refine .inl ⟨tg, iter, ifs, t, it, c, e, rfl, rfl, hI.1, hB h1, ownOk_of g ?_, h5, hG h2, hF h6, fun s H C cl fp => (ihB _ _ h4 s H C cl fp).1, hI.2⟩
        simp only [Bool.and_eq_true] at h1
        exact h1.2
      · cases h
    · cases h
  · rename_i tg iter ifs tg1 iter1 ifs1
    split at h
    · rename_i t it c h1 h2 h3 h6
      have hI := ceI_ok (tg := tg) g ihE h3
      split at h
      · rename_i t1 it1 c1 e h7 h8 h9 h4
        have hI1 := fun (s : Shared) (H : Hp) (C : Addr) (cl : List (Str × Addr)) (fp : List Addr) => ceI_ok (W := W0) (tg := tg1) (g.blk s H scope C cl fp) (fun e x he => (ihB e x he s H C cl fp).1) h8
        split at h
        · rename_i h5
          cases h
          simp only [Bool.and_eq_true] at h5
          refine .inr ⟨tg, iter, ifs, tg1, iter1, ifs1, t1.ixs, t, it, c, t1, it1, c1, e, rfl, rfl, hI.1, hB h1, ownOk_of g ?_, h5.1.1, h5.1.2, fun v hv => by simpa using List.all_eq_true.mp h5.2 v hv, hG h2, hF h6, fun s H C cl fp => (hI1 s H C cl fp).1, hG h7, hF h9, fun s H C cl fp => (ihB _ _ h4 s H C cl fp).1, hI.2, ?_⟩
          · simp only [Bool.and_eq_true] at h1
            exact h1.2
          · exact fun env x => folded_any h8
        · cases h
      · cases h
    · cases h
  · cases h
theorem ce_ok {N : List Str} {k : Nat} {F : Fx} : ∀ (n : Nat) {G : Gt} (sc : Scope) (e : Expr) (x : XE), ce G N n sc e = some x → ∀ (X : Cx) (W : WX), Good G N k F X sc → Psv X W → Right F X W e x
  | 0, _, _, _, _, h, _, _, _, _ => by cases h
  | n + 1, G, sc, e, x, h, X, W, g, hx => by
    have ih : ∀ e x, ce G N n sc e = some x → Right F X W e x := fun e x h => ce_ok n sc e x h X W g hx
    have ihE : ∀ e x, ce G N n sc e = some x → PE X e (tE X F W x) := fun e x h => (ih e x h).1
    have ihT : ∀ e x, ce G N n sc e = some x → okT e = true → PT X e (tT X F W x) := fun e x h => (ih e x h).2
    have hN : X.N.Nodup := by rw [g.hN]; exact g.nd
    cases e with
    | Name y p =>
      simp only [ce] at h
      split at h
      · cases h
      · rename_i h1
        obtain ⟨d1, d2, d3⟩ := okName_of h1
        split at h
        · rename_i h2
          obtain ⟨i, hi, rfl⟩ := map_some h
          exact .val (sE_var (by rw [g.hN]; exact slotIx_some hi) (by rw [g.hs]; exact vis_of h2) d1 d2) fun _ => rfl
        · split at h
          · rename_i h3
            obtain ⟨d, hd, rfl⟩ := map_some h
            obtain ⟨u, v, hm, r, fx⟩ := g.cons y d hd
            exact .val (sE_glob (glob_of g h3) hm r fx d1) fun _ => rfl
          · cases h
    | Constant c j p =>
      simp only [ce] at h
      split at h
      · cases h; exact .val sE_int fun _ => rfl
      · cases h; exact .val sE_bl fun _ => rfl
      · cases h; exact .val sE_non fun _ => rfl
      · cases h; exact .val sE_str fun _ => rfl
      · cases h
    | Tuple es j p =>
      simp only [ce] at h
      split at h
      · rename_i xs hxs
        obtain ⟨hl, rfl⟩ := ite_some h
        exact .val (sE_tup (ceS_ok g ihE hxs) hl) fun _ => rfl
      · cases h
    | List es p =>
      simp only [ce] at h
      split at h
      · rename_i xs hxs
        obtain ⟨hl, rfl⟩ := ite_some h
        exact .val (sE_lst (ceS_ok g ihE hxs) hl) fun _ => rfl
      · cases h
    | BinOp a op b p =>
      simp only [ce] at h
      split at h
      · rename_i o x y h1 h2 h3
        cases h
        exact .val (sE_bin (opB_ok h1) hx (fun c f hc => g.bin op c f hc) (fun c f hc => rev_ok g h1 hc) (g.room.mono (by omega)) (ihE _ _ h2) (ihE _ _ h3)) fun _ => rfl
      · cases h
    | UnaryOp op a p =>
      simp only [ce] at h
      split at h
      · obtain ⟨y, hy, rfl⟩ := map_some h
        exact .val (sE_neg (ihE _ _ hy)) fun _ => rfl
      · split at h
        · rename_i h1
          obtain ⟨y, hy, rfl⟩ := map_some h
          exact ⟨sE_not (ihE _ _ hy), fun _ => sT_not (ihT _ _ hy h1)⟩
        · cases h
      · obtain ⟨y, hy, rfl⟩ := map_some h
        exact .val (sE_inv hx g.inv (g.room.mono (by omega)) (ihE _ _ hy)) fun _ => rfl
      · cases h
    | BoolOp op vs p =>
      simp only [ce] at h
      have := ceB_ok (pos := p) ihE ihT h
      exact ⟨this.1, fun _ => this.2.pt⟩
    | IfExp t a b p =>
      simp only [ce] at h
      split at h
      · rename_i x y z h1 h2 h3 h4
        cases h
        exact ⟨sE_ite (ihT _ _ h2 h1) (ihE _ _ h3) (ihE _ _ h4), fun z => nomatch z⟩
      · cases h
    | Compare a ops bs p =>
      simp only [ce] at h
      split at h
      · obtain ⟨y, hy, rfl⟩ := map_some h
        exact ⟨sE_isN (ihE _ _ hy), fun _ => sT_isN (ihE _ _ hy)⟩
      · obtain ⟨y, hy, rfl⟩ := map_some h
        exact ⟨sE_noN (ihE _ _ hy), fun _ => sT_noN (ihE _ _ hy)⟩
      · split at h
        · rename_i o x y h1 h2 h3
          split at h
          · rename_i h4
            cases h
            exact ⟨sE_cmp (fun σ => cmp_ok g h1) (ihE _ _ h2) (ihE _ _ h3) h4, fun _ => sT_cmp (fun σ => cmp_ok g h1) (ihE _ _ h2) (ihE _ _ h3) h4⟩
          · cases h
        · cases h
      · split at h
        · rename_i o q x y z h1 h2 h3 h4 h5
          split at h
          · rename_i h6
            cases h
            exact ⟨sE_chn (opC_ok g h1) (opC_ok g h2) (ihE _ _ h3) (ihE _ _ h4) (ihE _ _ h5) (lastMarks2 h6), fun _ => sT_chn (opC_ok g h1) (opC_ok g h2) (ihE _ _ h3) (ihE _ _ h4) (ihE _ _ h5) (lastMarks2 h6)⟩
          · cases h
        · cases h
      · cases h
    | Subscript a i p =>
      simp only [ce] at h
      split at h
      · split at h
        · rename_i h1 h2 h3
          cases h
          have po : ∀ {o : Option Expr} {b : XB}, ceO (ce G N n sc) o = some b → PO X o (tB X F W b) := fun {o b} ho => by
            cases o with
            | none => cases ho; exact sO_none
            | some e =>
              obtain ⟨y, hy, rfl⟩ := map_some (show ((ce G N n sc) e).map XB.so = some b from ho)
              exact sO_some (ihE _ _ hy)
          exact .val (sE_slc (ihE _ _ h1) (po h2) (po h3)) fun _ => rfl
        · cases h
      · rename_i hs
        split at h
        · rename_i x y h1 h2
          cases h
          exact .val (sE_idx g.hw (room_u g) hx g.sub g.room (plainIx_of fun lo hi q z => hs lo hi none q z) (sub_plain hs) (ihE _ _ h1) (ihE _ _ h2)) fun _ => rfl
        · cases h
    | Attribute o f p =>
      simp only [ce] at h
      split at h
      · rename_i tb x h1 h2 h3
        cases h
        exact .val (sE_att (fun c t hc => g.att _ _ c t h2 hc) g.room (ihE _ _ h3) (call0_ok h1)) fun _ => rfl
      · cases h
    | Call f as ks p =>
      simp only [ce] at h
      split at h
      · rename_i o m ap
        split at h
        · rename_i e es
          split at h
          · rename_i b x ys h1 h2 h3 h5 h6
            cases h
            obtain ⟨h4, ys', h7⟩ := ceL_cons h6
            simp only [Bool.and_eq_true, decide_eq_true_eq] at h3
            exact .val (sE_mth (bm_ok g h1) (ihE _ _ h5) (ceL_ok ihE h6) (star_cons h4) (noStars h7) (any_all (noStars h6)) (call0_ok h2) h3.1 h3.2) fun _ => rfl
          · cases h
        · cases h
      · rename_i y q
        split at h
        · cases h
        · rename_i h1
          simp only [Bool.and_eq_true] at h1
          obtain ⟨d1, d2, d3⟩ := okName_of h1.1
          have gl := glob_of g h1.2
          split at h
          · rename_i params body scope ha
            obtain ⟨lp, rfl, rfl⟩ := askArg_inv ha
            split at h
            · rename_i m r hs y h2 h3 h4
              cases h
              simp only [Bool.and_eq_true] at h2
              obtain ⟨r3, hY, c, P, TB, hco, hmt, hu⟩ := g.lam h2.1.1
              obtain ⟨hdef, hbind⟩ := noParams_ok h2.1.2
              exact .val (sE_ask (g.asks _ _ _ _ h2.1.1 h3) hY gl TB hco hmt hu r3 (by rw [g.hs]; exact lamS_by h2.2) (hdef X.env) (hbind body scope) (fun A outer s H E f c' hr => (ce_ok n scope body y h4 (lamCx X A outer s H E scope f c') _ (g.lamC A outer s H E scope f c' hr) (psv_of (takes_of rfl rfl rfl rfl))).1) d1) fun _ => rfl
            · cases h
          rename_i hna
          clear hna
          split at h
          · rename_i hy
            have e := eq_of_beq hy
            subst e
            split at h
            · rename_i e c hb
              split at h
              · rename_i y z pz h2 h3
                obtain ⟨kd, hk, rfl⟩ := map_some h
                have := kd_ok g hk pz
                exact .val (sE_isi1 g.cls this.1 gl (g.blts _ hb) (ihE _ _ h3) this.2 (star_cons h2) rfl) fun _ => rfl
              · rename_i y cs kt pt h2 h3
                split at h
                · rename_i kds hk
                  obtain ⟨hl, rfl⟩ := ite_some h
                  have := kds_ok g hk
                  exact .val (sE_isiT g.cls this.1 hl gl (g.blts _ hb) (ihE _ _ h3) this.2 (star_cons h2)) fun _ => rfl
                · cases h
              · cases h
            · cases h
          · split at h
            · exact .val (ceR_ok g ihE h) fun _ => rfl
            · rename_i xs hxs
              have hpa := ceL_ok ihE hxs
              have hst : ∀ {e es}, as = e :: es → notStar e = true ∧ ∃ ys, ceL (ce G N n sc) es = some ys := fun {e es} z => by
                rw [z] at hxs
                unfold ceL at hxs
                split at hxs
                · exact ⟨by assumption, _, by assumption⟩
                · cases hxs
              split at h
              · split at h
                · rename_i j dfl hj
                  cases h
                  refine .val ?_ fun _ => rfl
                  have kn := g.defs _ _ _ _ hj
                  cases as with
                  | nil =>
                    cases hxs
                    exact sE_call0 kn (g.room.mono (by omega)) gl hx d1
                  | cons e es =>
                    obtain ⟨h2, ys, hys⟩ := hst rfl
                    exact sE_call kn (g.room.mono (by omega)) gl hx hpa d1 (star_cons h2) (noStars hys) (ceL_plain hxs)
                · split at h
                  · cases h
                  · rename_i hne
                    cases as with
                    | nil => exact absurd rfl hne
                    | cons e es =>
                      obtain ⟨h2, ys, hys⟩ := hst rfl
                      split at h
                      · rename_i c j dfl hj
                        cases h
                        exact .val (sE_make (g.mak _ _ _ _ _ hj) g.room gl hx hpa d1 (star_cons h2) (noStars hys) (ceL_plain hxs)) fun _ => rfl
                      · split at h
                        · rename_i b h3 h4
                          cases h
                          exact .val (sE_bi (fun W' _ ha => bi_ok g h4 gl (g.blts _ h3) d3 d1 (star_cons h2) (noStars hys) W' ha) hpa) fun _ => rfl
                        · cases h
              · split at h
                · cases h
                · rename_i hne
                  cases as with
                  | nil => exact absurd rfl hne
                  | cons e es =>
                    obtain ⟨h2, ys, hys⟩ := hst rfl
                    split at h
                    · rename_i ns zs h3 h4
                      split at h
                      · rename_i c j hj
                        cases h
                        have hk := ceK_ok ihE h4
                        have hl := kw_ok (env := X.env) (pos := p) h3
                        exact .val (sE_makeK (g.mkk _ _ _ _ _ hj) (ceL_len hxs) (by rw [hk.2, hl.2.2.2]) g.room gl hx hpa hk.1 h3 d1 (star_cons h2) (noStars hxs) (ceL_plain hxs) (ceK_plain h4)) fun _ => rfl
                      · cases h
                    · cases h
      · cases h
    | ListComp elt gs scope p =>
      rcases lc_ok g ihE (fun e x h s H C cl fp => ce_ok n _ e x h _ W0 (g.blk s H scope C cl fp) psv_none) h with ⟨tg, iter, ifs, t, it, c, e, rfl, rfl, L⟩ | ⟨tg, iter, ifs, tg1, iter1, ifs1, vs1, t, it, c, t1, it1, c1, e, rfl, rfl, L⟩
      · exact .val (sE_lcm g.calm hN L) fun _ => rfl
      · exact .val (sE_lcn g.calm hN L) fun _ => rfl
    | _ => simp only [ce] at h; cases h
end
end Lk
end

section
/-! E13: statements of the text. -/
set_option Elab.async false
set_option linter.all false
set_option maxRecDepth 100000
set_option maxHeartbeats 4000000
namespace Lk
open PySem PySem.Spec PyProof.Rows L2 SlX LamX
def isStar : Expr → Bool
  | .Starred .. => true
  | _ => false
def isComp : Expr → Bool
  | .ListComp _ _ _ _ => true
  | .SetComp _ _ _ _ => true
  | .DictComp _ _ _ _ _ => true
  | _ => false
def isTupE : Expr → Bool
  | .Tuple _ _ _ => true
  | _ => false
def nmF (sc : Scope) (l : Nat) : Expr → Option Str
  | .Name id pos => if sc.names.lookup id == some .local && pos.line == l then some id else none
  | _ => none
/-- which names are stored from the right, if any -/
def swapR (sc : Scope) (ts vs : List Expr) : Option (Option (List Str)) :=
  if !(ts.length == 2 || ts.length == 3) || vs.length != ts.length then some none
  else if vs.any isStar then some none
  else
    let names := ts.filterMap (nmF sc ((ts.head?.map (·.pos.line)).getD 0))
    if names.length != ts.length || names.eraseDups.length != names.length then some none
    else if vs.all (foldedForSure 8) then some none
    else if vs.all (constantsAlone 8) then none
    else some (some names)
theorem swapR_ok {env : PySem.Env} {sc : Scope} {ts vs : List Expr} {k k2 : Nat} {p p2 : Pos} {r : Option (List Str)} (hk : env.blockKind = .function) (hs : env.scope = sc) (h : swapR sc ts vs = some r) : swappedStores [.Tuple ts k p] (.Tuple vs k2 p2) env = pure r := by
  subst hs
  unfold swapR at h
  unfold swappedStores
  simp only [hk]
  have e2 : (ScopeKind.function != ScopeKind.function) = false := by decide
  simp only [e2, Bool.or_false]
  simp only at h
  by_cases c1 : (!(ts.length == 2 || ts.length == 3) || vs.length != ts.length) = true
  · rw [if_pos c1] at h ⊢; cases h; rfl
  · rw [if_neg c1] at h ⊢
    rw [show (vs.any _) = vs.any isStar from congrArg (fun f => vs.any f) (funext fun x => by cases x <;> rfl)]
    by_cases c2 : vs.any isStar = true
    · rw [if_pos c2] at h ⊢; cases h; rfl
    · rw [if_neg c2] at h ⊢
      rw [show (List.filterMap _ ts) = List.filterMap (nmF env.scope ((ts.head?.map (·.pos.line)).getD 0)) ts from congrArg (fun f => List.filterMap f ts) (funext fun x => by cases x <;> rfl)]
      generalize hn : (List.filterMap (nmF env.scope ((ts.head?.map (·.pos.line)).getD 0)) ts) = names at h ⊢
      by_cases c3 : (names.length != ts.length || names.eraseDups.length != names.length) = true
      · rw [if_pos c3] at h ⊢; cases h; rfl
      · rw [if_neg c3] at h ⊢
        by_cases c4 : vs.all (foldedForSure 8) = true
        · rw [if_pos c4] at h ⊢; cases h; rfl
        · rw [if_neg c4] at h ⊢
          by_cases c5 : vs.all (constantsAlone 8) = true
          · rw [if_pos c5] at h; cases h
          · rw [if_neg c5] at h ⊢; cases h; rfl
/-- three names stored from the right -/
theorem sS_par3 {X : Cx} {F : Fx} {W : WX} {x y z : Str} {i j l : Nat} {a b c : Expr} {xs : XEs} {px py pz pt pos : Pos} {kt k2 pt2} (hc : X.calm = true) (hN : X.N.Nodup) (hi : X.N[i]? = some x) (hj : X.N[j]? = some y) (hk : X.N[l]? = some z) (hij : i ≠ j) (hil : i ≠ l) (hjl : j ≠ l)
    (hx : X.env.scope.names.lookup x = some .local) (hy : X.env.scope.names.lookup y = some .local) (hz : X.env.scope.names.lookup z = some .local) (ha : PA X [a, b, c] (tAs X F W xs))
    (hw : swappedStores [.Tuple [.Name x px, .Name y py, .Name z pz] kt pt] (.Tuple [a, b, c] k2 pt2) X.env = pure (some [x, y, z])) (hs : swapsWithSole [.Tuple [.Name x px, .Name y py, .Name z pz] kt pt] (.Tuple [a, b, c] k2 pt2) pos.line X.env = pure false) :
    SS X F W (.Assign [.Tuple [.Name x px, .Name y py, .Name z pz] kt pt] (.Tuple [a, b, c] k2 pt2) pos) (.set (.tp (.cons (.nm i) (.cons (.nm j) (.cons (.nm l) .nil)))) (.tup xs)) := by
  refine PSl (ps_par3 hc hN hi hj hk hij hil hjl hx hy hz ha hw hs) fun D σ H hl h => ?_
  obtain ⟨ρ, s, S, m, e, r⟩ := h
  refine ⟨ρ, s, S, m, e, ?_⟩
  have r : RunS X.K F.T F.Y F.Z W ρ H (M.at s (M.bind (evs F.cal xs s) fun ds => M.pure (.tup ds)) (fun d => M.bind (M.opt (setTg (.tp (.cons (.nm i) (.cons (.nm j) (.cons (.nm l) .nil)))) d s)) fun σ2 => M.pure (.nx σ2)) S) D := r
  unfold M.at M.bind at r
  unfold Run
  cases z : evs F.cal xs s S with
  | bad => rw [z] at r; exact r
  | exc c p S1 =>
    rw [z] at r
    exact fun ρ1 H1 cls d e1 m1 w => r ρ1 H1 σ cls d e1 m1 (e.mono m e1) w
  | ok ds S1 =>
    rw [z] at r
    intro ρ1 H1 vs e1 m1 rs
    match ds, rs, r with
    | [d1, d2, d3], .cons r1 (.cons r2 (.cons r3 .nil)), r =>
      exact ⟨_, _, _, rfl, r ρ1 H1 _ e1 m1 ((((e.mono m e1).set i (by rw [hl]; exact ix_lt hi) r1).set j (by rw [List.length_set, hl]; exact ix_lt hj) r2).set l (by rw [List.length_set, List.length_set, hl]; exact ix_lt hk) r3)⟩
    | [], _, r => exact r.elim
    | [_], _, r => exact r.elim
    | [_, _], _, r => exact r.elim
    | _ :: _ :: _ :: _ :: _, _, r => exact r.elim
/-- an item of a tuple that is bound to a name; m: its list is changed later -/
def ceQ (f : Expr → Option XE) (m : Bool) : Expr → Option XE
  | .List es p => match m with
    | true => match ceL f es with
      | some xs => if xs.len ≤ 1000000 then some (.mat (.lst xs)) else none
      | none => none
    | false => f (.List es p)
  | e => f e
def ceLm (f : Expr → Option XE) : List Bool → List Expr → Option XEs
  | _, [] => some .nil
  | ms, e :: es => match notStar e, ceQ f (ms.headD false) e, ceLm f ms.tail es with
    | true, some x, some xs => some (.cons x xs)
    | _, _, _ => none
def muF (N : List Str) (mu : List Nat) : Expr → Bool
  | .Name x _ => match slotIx N x with
    | some i => mu.contains i
    | none => false
  | _ => false
section
variable {G : Gt} {N : List Str} {k : Nat} {F : Fx} {X : Cx} {W : WX} {sc : Scope}
theorem ceQ_ok {f : Expr → Option XE} (hf : ∀ e x, f e = some x → PE X e (tE X F W x)) {m : Bool} {e : Expr} {x : XE} (h : ceQ f m e = some x) : PE X e (tE X F W x) := by
  unfold ceQ at h
  split at h
  · split at h
    · split at h
      · rename_i xs hxs
        obtain ⟨hl, rfl⟩ := ite_some h
        exact sE_mlst (ceL_ok hf hxs) hl
      · cases h
    · exact hf _ _ h
  · exact hf _ _ h
theorem ceLm_ok {f : Expr → Option XE} (hf : ∀ e x, f e = some x → PE X e (tE X F W x)) : ∀ {ms : List Bool} {es : List Expr} {xs : XEs}, ceLm f ms es = some xs → PA X es (tAs X F W xs)
  | _, [], _, h => by cases h; exact sA_nil
  | ms, e :: es, xs, h => by
    unfold ceLm at h
    split at h
    · rename_i h1 h2 h3
      cases h
      exact sA_cons (ceQ_ok hf h2) (ceLm_ok hf h3) (star_cons h1)
    · cases h
end
section
variable (G : Gt) (N : List Str)
/-- the items of a tuple that is unpacked at once -/
def ceT (n : Nat) (sc : Scope) (mu : List Nat) (us vs : List Expr) : Option XEs := match ceLm (ce G N n sc) (us.map (muF N mu)) vs with
  | some xs => if xs.len ≤ 1000000 then some xs else none
  | none => none
/-- a value that is bound to a name; m: its list is changed later -/
def cv (n : Nat) (sc : Scope) (m : Bool) (e : Expr) : Option XE := match m with
  | false => ce G N n sc e
  | true => match e with
    | .List es _ => match ceL (ce G N n sc) es with
      | some xs => if xs.len ≤ 1000000 then some (.mat (.lst xs)) else none
      | none => none
    | .ListComp _ gs _ _ => match gs with
      | [_] => (ce G N n sc e).map .mat
      | _ => none
    | e => ce G N n sc e
/-- the comprehension's list is stored within its frame -/
def swapL (sc : Scope) (y : Str) (py : Pos) (e : Expr) : Bool := match e with
  | .ListComp _ _ s _ => sc.names.lookup y == some .local && py.line == e.pos.line && !(s.names.any fun (n, k) => n == y && (k == .local || k == .cell))
  | _ => false
/-- what a suite behind except may say -/
def ceu (sc : Scope) : Expr → Option XE
  | .Constant c _ _ => match c with
    | .int i => some (.con (.int i))
    | .bool b => some (.con (.bl b))
    | .none => some (.con .non)
    | .str x => some (.con (.str x.cps.toList))
    | _ => none
  | .Name x _ => match okName x, isVis sc x with
    | true, true => (slotIx N x).map .var
    | _, _ => none
  | _ => none
def csu (sc : Scope) : Nat → List Stmt → Option XSs
  | 0, _ => none
  | n + 1, ss => match ss with
    | [] => some .nil
    | st :: r => match csu sc n r with
      | none => none
      | some xs => match st with
        | .Pass _ => some (.cons .pass xs)
        | .Continue _ => some (.cons .cnt xs)
        | .Break _ => some (.cons .brk xs)
        | .Return (some e) _ => (ceu N sc e).map fun x => .cons (.ret x) xs
        | .If (.Name x p) a b _ => match ceu N sc (.Name x p), csu sc n a, csu sc n b with
          | some t, some y, some z => some (.cons (.ite t y z) xs)
          | _, _, _ => none
        | .Assign [.Name y _] e _ => match slotIx N y, isLoc sc y, isComp e, ceu N sc e with
          | some i, true, false, some x => some (.cons (.set (.nm i) x) xs)
          | _, _, _, _ => none
        | _ => none
def css (f : Stmt → Option XS) : List Stmt → Option XSs
  | [] => some .nil
  | s :: r => match f s, css f r with
    | some x, some xs => some (.cons x xs)
    | _, _ => none
def cs (mu : List Nat) (sc : Scope) : Nat → Stmt → Option XS
  | 0, _ => none
  | n + 1, st => match st with
    | .Pass _ => some .pass
    | .Break _ => some .brk
    | .Continue _ => some .cnt
    | .Expr e _ => match isComp e with
      | true => none
      | false => (ce G N n sc e).map .expr
    | .Return v _ => match v with
      | none => some (.ret (.con .non))
      | some e => (ce G N n sc e).map .ret
    | .If c a b _ => match okT c, ce G N n sc c, css (cs mu sc n) a, css (cs mu sc n) b with
      | true, some x, some y, some z => some (.ite x y z)
      | _, _, _, _ => none
    | .While c b o _ => match o, okT c, ce G N n sc c, css (cs mu sc n) b with
      | [], true, some x, some y => some (.whl x y)
      | _, _, _, _ => none
    | .For tg it b o _ => match o, cT N sc 8 tg, ceI G (ce G N n sc) sc tg it, css (cs mu sc n) b with
      | [], some t, some x, some y => some (.for t x y)
      | _, _, _, _ => none
    | .AugAssign tg op e _ => match tg with
      | .Name x _ => match slotIx N x, isLoc sc x, ce G N n sc e with
        | some i, true, some y => match op with
          | .Add => some (.aug i .add y)
          | .Sub => some (.aug i .sub y)
          | _ => none
        | _, _, _ => none
      | _ => none
    | .Try b hs o fi _ => match hs, o, fi with
      | [.ExceptHandler (some (.Name x _)) nm su _], [], [] => match okName x && isGlob sc x, css (cs mu sc n) b with
        | true, some xb => match nm with
          | none => match su, G.hans.lookup x, csu N sc 12 su with
            | _ :: _, some (yes, no), some xs => some (.tryy xb (.cons yes no xs .nil))
            | _, _, _ => none
          | some y => match su with
            | [.Return (some (.Attribute (.Name z _) f _)) _] => match y == z && okName y && sc.names.lookup y == some .local, slotIx N y, G.flds.lookup (x, f) with
              | true, some i, some (c, no) => some (.tryy xb (.fld c i no .nil))
              | _, _, _ => none
            | _ => none
        | _, _ => none
      | _, _, _ => none
    | .Raise e fr _ => match e, fr with
      | some (.Call (.Name x _) [.Constant (.str _) _ _] [] _), none => match okName x && isGlob sc x, G.errs.lookup x with
        | true, some c => some (.raise c .nil)
        | _, _ => none
      | some (.Call (.Name x _) [e] [] _), none => match okName x && isGlob sc x && notStar e, G.erri.lookup x, ce G N n sc e with
        | true, some c, some y => some (.raise c (.cons y .nil))
        | _, _, _ => none
      | _, _ => none
    | .Assign ts e _ => match ts with
      | [tg] => match tg with
        | .Name y py => match slotIx N y, isLoc sc y with
          | some i, true => match isComp e with
            | false => (cv G N n sc (mu.contains i) e).map (.set (.nm i))
            | true => match e with
              | .ListComp _ _ _ _ => (cv G N n sc (mu.contains i) e).map (.set (.nm i))
              | _ => none
          | _, _ => none
        | .Subscript a b _ => match isComp e, b with
          | true, _ => none
          | false, .Slice _ _ _ _ => none
          | false, b => match ce G N n sc a, ce G N n sc b, ce G N n sc e with
            | some x, some y, some z => some (.setIx x y z)
            | _, _, _ => none
        | .Tuple us _ _ => match cT N sc 8 tg with
          | none => none
          | some t => match e with
            | .Tuple vs _ _ => match swapR sc us vs with
              | none => none
              | some none => (ceT G N n sc mu us vs).map fun xs => .set t (.tup xs)
              | some (some _) => match us, vs with
                | [.Name x _, .Name y _], [_, _] => match slotIx N x, slotIx N y, ceT G N n sc mu us vs with
                  | some i, some j, some xs => match i != j && sc.names.lookup x == some .local && sc.names.lookup y == some .local with
                    | true => some (.set (.tp (.cons (.nm i) (.cons (.nm j) .nil))) (.tup xs))
                    | false => none
                  | _, _, _ => none
                | [.Name x _, .Name y _, .Name z _], [_, _, _] => match slotIx N x, slotIx N y, slotIx N z, ceT G N n sc mu us vs with
                  | some i, some j, some l, some xs => match i != j && i != l && j != l && sc.names.lookup x == some .local && sc.names.lookup y == some .local && sc.names.lookup z == some .local with
                    | true => some (.set (.tp (.cons (.nm i) (.cons (.nm j) (.cons (.nm l) .nil)))) (.tup xs))
                    | false => none
                  | _, _, _, _ => none
                | _, _ => none
            | e => match isComp e with
              | true => none
              | false => (ce G N n sc e).map (.set t)
        | _ => none
      | _ => none
    | _ => none
end
end Lk
end

section
/-! E14: what cs gives is the model's. -/
set_option Elab.async false
set_option linter.all false
set_option maxRecDepth 100000
set_option maxHeartbeats 4000000
namespace Lk
open PySem PySem.Spec PyProof.Rows L2 SlX LamX
structure GoodS (G : Gt) (N : List Str) (k : Nat) (F : Fx) (X : Cx) (W : WX) (sc : Scope) : Prop where
  g : Good G N k F X sc
  bk : X.env.blockKind = .function
  fn : ∀ y, X.fn y = true
  pas : PassesOwn (model X.prog X.w) X.A X.env X.xe
  tk : Takes X W
  err : ∀ x c, G.errs.lookup x = some c → ErrF X F x c
  eri : ∀ x c, G.erri.lookup x = some c → ErrI X F x c
  stk : X.stack = X.env :: X.outer
  frm : X.env.frame = some X.env.locals
  han : ∀ x yes no, G.hans.lookup x = some (yes, no) → ∃ C, X.mg x = some C ∧ (∀ c, yes.contains c = true → PySem.W.exmOne X.K (.ref (F.Z.adr c)) C = some true) ∧ ∀ c, no.contains c = true → PySem.W.exmOne X.K (.ref (F.Z.adr c)) C = some false
  fld : ∀ x f c no, G.flds.lookup (x, f) = some (c, no) → X.mg x = some (.ref (F.Z.adr c)) ∧ PySem.W.exmOne X.K (.ref (F.Z.adr c)) (.ref (F.Z.adr c)) = some true ∧ (∀ e, no.contains e = true → PySem.W.exmOne X.K (.ref (F.Z.adr e)) (.ref (F.Z.adr c)) = some false) ∧ XfC X.K (F.Z.adr c) ∧ PySem.W.findIn X.K (.ref (F.Z.adr c)) f = some none ∧ F.Z.fld c = some f
theorem GoodS.psv {G : Gt} {N : List Str} {k : Nat} {F : Fx} {X : Cx} {W : WX} {sc : Scope} (gs : GoodS G N k F X W sc) : Psv X W := psv_of gs.tk
/-- within a try -/
theorem Good.tr {G : Gt} {N : List Str} {k : Nat} {F : Fx} {X : Cx} {sc : Scope} (g : Good G N k F X sc) (pn : List (Addr × Obj)) (xe : Value → Shared → Prop) : Good G N k F (X.tr pn xe) sc := by
  have h : SameCx X (X.tr pn xe) := ⟨rfl, rfl, rfl, rfl, rfl⟩
  have m := g.move h g.hN g.hs g.calm g.room
  exact
    { hN := m.hN, nd := m.nd, hs := m.hs, calm := m.calm, room := m.room, k1 := m.k1, hw := m.hw, eqs := m.eqs, lt := m.lt, le := m.le, cnt := m.cnt, len := m.len, abs := m.abs, inv := m.inv, sub := m.sub, bin := m.bin, rev := m.rev
      sf := m.sf, cls := m.cls, clg := m.clg, att := m.att, mak := m.mak, mkk := m.mkk, defs := m.defs, cons := m.cons, blts := m.blts
      asks := fun x n r hs hl hk => (g.asks x n r hs hl hk).move h
      lam := g.lam }
theorem GoodS.tr {G : Gt} {N : List Str} {k : Nat} {F : Fx} {X : Cx} {W W' : WX} {sc : Scope} (gs : GoodS G N k F X W sc) {pn : List (Addr × Obj)} {xe : Value → Shared → Prop} (tk : Takes (X.tr pn xe) W') (hp : PassesOwn (model X.prog X.w) X.A X.env xe) : GoodS G N k F (X.tr pn xe) W' sc where
  g := gs.g.tr pn xe
  bk := gs.bk
  fn := gs.fn
  pas := hp
  tk := tk
  err := fun x c h => let e := gs.err x c h; ⟨e.ex, e.gl, e.kp, e.rs, e.nf⟩
  eri := fun x c h => let e := gs.eri x c h; ⟨e.ex, e.gl⟩
  stk := gs.stk
  frm := gs.frm
  han := gs.han
  fld := gs.fld
theorem no_sw {e : Expr} {t : Option Expr} {l : Nat} {env : PySem.Env} (h : isComp e = false) : swapsWith e t l env = pure false := by
  cases e <;> first | rfl | cases h
theorem no_sw2 {e tg : Expr} {l : Nat} {env : PySem.Env} (h : ∀ y p, tg ≠ .Name y p) : swapsWith e (some tg) l env = pure false := by
  cases e <;> first | rfl | (cases tg <;> first | rfl | exact absurd rfl (h _ _))
theorem no_sw1 {e tg : Expr} {l : Nat} {env : PySem.Env} (h : isComp e = false) : swapsWithSole [tg] e l env = pure false := no_sw h
theorem swapR_all {sc : Scope} {ts vs : List Expr} {ns : List Str} (h : swapR sc ts vs = some (some ns)) : ns = ts.filterMap (nmF sc ((ts.head?.map (·.pos.line)).getD 0)) ∧ ns.length = ts.length := by
  unfold swapR at h
  simp only at h
  split at h
  · cases h
  · split at h
    · cases h
    · split at h
      · cases h
      · rename_i c3
        split at h
        · cases h
        · split at h
          · cases h
          · cases h
            refine ⟨rfl, ?_⟩
            simp only [Bool.or_eq_true, not_or, bne_iff_ne, ne_eq, Decidable.not_not] at c3
            exact c3.1
theorem nmF_len {sc : Scope} {l : Nat} : ∀ {ts : List Expr}, (ts.filterMap (nmF sc l)).length ≤ ts.length := by
  intro ts
  exact List.length_filterMap_le _ _
theorem nmF_two {sc : Scope} {l : Nat} {x : Str} {p : Pos} {ts : List Expr} {ns : List Str} (h : ns = (.Name x p :: ts).filterMap (nmF sc l)) (hl : ns.length = ts.length + 1) : ∃ ms, ns = x :: ms ∧ ms = ts.filterMap (nmF sc l) ∧ ms.length = ts.length := by
  rw [List.filterMap_cons] at h
  have := nmF_len (sc := sc) (l := l) (ts := ts)
  split at h
  · rw [h] at hl; omega
  · rename_i b hb
    have e : b = x := by
      simp only [nmF] at hb
      split at hb
      · exact (Option.some.inj hb).symm
      · cases hb
    subst e
    exact ⟨_, h, rfl, by rw [h] at hl; simpa using hl⟩
theorem asg_sub {a b : Expr} {pos' : Pos} {env : PySem.Env} (hs : ∀ lo hi st p, b = .Slice lo hi st p → False) (v : Value) : assign (.Subscript a b pos') env v = (do
      let ov ← holding [v] (eval a env)
      let iv ← holding [v, ov] (eval b env)
      standAt pos'
      holding [v, ov, iv] (setItem ov iv v)
      release [v, ov, iv] []) := by
  cases b <;> first | rfl | exact (hs _ _ _ _ rfl).elim
theorem no_st {e : Expr} {y : Str} {py : Pos} {env : PySem.Env} : swappedStores [.Name y py] e env = pure none := rfl
theorem lc_sw {elt : Expr} {gs : List Comprehension} {scope : Scope} {p py : Pos} {y : Str} {l : Nat} {env : PySem.Env} {sc : Scope} (hk : env.blockKind = .function) (hs : env.scope = sc) : swapsWith (.ListComp elt gs scope p) (some (.Name y py)) l env = pure (swapL sc y py (.ListComp elt gs scope p)) := by
  subst hs
  unfold swapsWith swapL
  simp only [hk]
  rfl
section
variable {G : Gt} {N : List Str} {k : Nat} {F : Fx} {X : Cx} {W : WX} {sc : Scope}
/-- a suite behind except: what it says stands wherever the names do -/
theorem ceu_ok {X' : Cx} (hN : X'.N = N) (hs : X'.env.scope = sc) {e : Expr} {x : XE} (h : ceu N sc e = some x) : PE X' e (tE X' F W x) := by
  unfold ceu at h
  split at h
  · split at h
    · cases h; exact sE_int
    · cases h; exact sE_bl
    · cases h; exact sE_non
    · cases h; exact sE_str
    · cases h
  · split at h
    · rename_i h1 h2
      obtain ⟨i, hi, rfl⟩ := map_some h
      obtain ⟨d1, d2, _⟩ := okName_of h1
      exact sE_var (by rw [hN]; exact slotIx_some hi) (by rw [hs]; exact vis_of h2) d1 d2
    · cases h
  · cases h
theorem csu_ok {X' : Cx} (hN : X'.N = N) (nd : N.Nodup) (hs : X'.env.scope = sc) (fn : ∀ y, X'.fn y = true) : ∀ (n : Nat) {ss : List Stmt} {xs : XSs}, csu N sc n ss = some xs → SSs X' F W ss xs
  | 0, _, _, h => by cases h
  | n + 1, ss, xs, h => by
    unfold csu at h
    split at h
    · cases h; exact sS_nil
    · rename_i st r
      split at h
      · cases h
      · rename_i ys hr
        have ih := csu_ok hN nd hs fn n hr
        split at h
        · cases h; exact sS_cons sS_pass ih
        · cases h; exact sS_cons sS_cnt ih
        · cases h; exact sS_cons sS_brk ih
        · obtain ⟨x, hx, rfl⟩ := map_some h
          exact sS_cons (sS_ret (ceu_ok hN hs hx)) ih
        · split at h
          · rename_i h1 h2 h3
            cases h
            exact sS_cons (sS_if (sT_val (ceu_ok hN hs h1) fun _ => rfl) (csu_ok hN nd hs fn n h2) (csu_ok hN nd hs fn n h3)) ih
          · cases h
        · split at h
          · rename_i h1 h2 h3 h4
            cases h
            exact sS_cons (sS_set (ceu_ok hN hs h4) (sG_name (by rw [hN]; exact nd) (by rw [hN]; exact slotIx_some h1) (by rw [hs]; exact loc_of h2) (.inl (fn _))) (no_sw1 h3) rfl rfl) ih
          · cases h
        · cases h
theorem css_ok {f : Stmt → Option XS} (hf : ∀ s x, f s = some x → SS X F W s x) : ∀ {ss : List Stmt} {xs : XSs}, css f ss = some xs → SSs X F W ss xs
  | [], _, h => by cases h; exact sS_nil
  | s :: r, xs, h => by
    unfold css at h
    split at h
    · rename_i h1 h2
      cases h
      exact sS_cons (hf _ _ h1) (css_ok hf h2)
    · cases h
/-- name = e -/
theorem ceT_ok {n : Nat} {mu : List Nat} {us vs : List Expr} {xs : XEs} (ihE : ∀ e x, ce G N n sc e = some x → PE X e (tE X F W x)) (h : ceT G N n sc mu us vs = some xs) : PA X vs (tAs X F W xs) ∧ xs.len ≤ 1000000 := by
  unfold ceT at h
  split at h
  · rename_i ys hy
    obtain ⟨hl, rfl⟩ := ite_some h
    exact ⟨ceLm_ok ihE hy, hl⟩
  · cases h
theorem cv_ok (gs : GoodS G N k F X W sc) {n i : Nat} {y : Str} {py pos : Pos} {m : Bool} {e : Expr} {x : XE} (hi : slotIx N y = some i) (hl : isLoc sc y = true) (hcmp : isComp e = true → ∃ a b c d, e = .ListComp a b c d) (h : cv G N n sc m e = some x) : SS X F W (.Assign [.Name y py] e pos) (.set (.nm i) x) := by
  have g := gs.g
  have hN : X.N.Nodup := by rw [g.hN]; exact g.nd
  have hy : X.N[i]? = some y := by rw [g.hN]; exact slotIx_some hi
  have hL : L2.Loc X.env.scope y := by rw [g.hs]; exact loc_of hl
  have pg : PG X (.Name y py) (gE X F (.nm i)) := sG_name hN hy hL (.inl (gs.fn y))
  have ihE : ∀ n e x, ce G N n sc e = some x → PE X e (tE X F W x) := fun n e x h => (ce_ok n sc e x h X W g gs.psv).1
  have plain : ∀ {x : XE}, isComp e = false → PE X e (tE X F W x) → SS X F W (.Assign [.Name y py] e pos) (.set (.nm i) x) := fun hc he => sS_set he pg (no_sw1 hc) rfl rfl
  have comp : ∀ {a b c d} {z : XE}, e = .ListComp a b c d → ce G N n sc e = some z → SS X F W (.Assign [.Name y py] e pos) (.set (.nm i) z) ∧ (∀ q, b = [q] → SS X F W (.Assign [.Name y py] e pos) (.set (.nm i) (.mat z))) := fun {a b c d z} he hz => by
    subst he
    cases n with
    | zero => cases hz
    | succ n =>
      have hsw := fun l => lc_sw (elt := a) (gs := b) (scope := c) (p := d) (py := py) (y := y) (l := l) gs.bk g.hs
      have hyl : swapL sc y py (.ListComp a b c d) = true → X.env.scope.names.lookup y = some .local := fun hb => by
        rw [g.hs]
        unfold swapL at hb
        simp only [Bool.and_eq_true] at hb
        exact eq_of_beq hb.1.1
      rcases lc_ok g (ihE n) (fun e x h s H C cl fp => ce_ok n _ e x h _ W0 (g.blk s H c C cl fp) psv_none) hz with ⟨tg, iter, ifs, t, it, c', e', rfl, rfl, L⟩ | ⟨tg, iter, ifs, tg1, iter1, ifs1, vs1, t, it, c', t1, it1, c1, e', rfl, rfl, L⟩
      · cases hb : swapL sc y py (.ListComp a [⟨tg, iter, ifs, 0⟩] c d) with
        | false =>
          rw [hb] at hsw
          exact ⟨sS_set (sE_lcm g.calm hN L) pg (hsw pos.line) rfl rfl, fun _ _ => sS_set (sE_mlcm g.calm hN L) pg (hsw pos.line) rfl rfl⟩
        | true =>
          rw [hb] at hsw
          exact ⟨sS_setLc g.calm hN L hy (hyl hb) (hsw _), fun _ _ => sS_setMLc g.calm hN L hy (hyl hb) (hsw _)⟩
      · cases hb : swapL sc y py (.ListComp a [⟨tg, iter, ifs, 0⟩, ⟨tg1, iter1, ifs1, 0⟩] c d) with
        | false =>
          rw [hb] at hsw
          exact ⟨sS_set (sE_lcn g.calm hN L) pg (hsw pos.line) rfl rfl, fun q z => by cases z⟩
        | true =>
          rw [hb] at hsw
          exact ⟨sS_setLcn g.calm hN L hy (hyl hb) (hsw _), fun q z => by cases z⟩
  have both : ∀ {z : XE}, ce G N n sc e = some z → SS X F W (.Assign [.Name y py] e pos) (.set (.nm i) z) := fun {z} hz => by
    cases hc : isComp e with
    | false => exact plain hc (ihE _ _ _ hz)
    | true =>
      obtain ⟨a, b, c, d, rfl⟩ := hcmp hc
      exact (comp rfl hz).1
  unfold cv at h
  cases m with
  | false => exact both h
  | true =>
    simp only at h
    split at h
    · split at h
      · rename_i xs hxs
        obtain ⟨hl, rfl⟩ := ite_some h
        exact plain rfl (sE_mlst (ceL_ok (ihE n) hxs) hl)
      · cases h
    · split at h
      · obtain ⟨z, hz, rfl⟩ := map_some h
        exact (comp rfl hz).2 _ rfl
      · cases h
    · exact both h
theorem cs_ok : ∀ {X : Cx} {W : WX} (gs : GoodS G N k F X W sc) (mu : List Nat) (n : Nat) (st : Stmt) (x : XS), cs G N mu sc n st = some x → SS X F W st x
  | _, _, _, _, 0, _, _, h => by cases h
  | X, W, gs, mu, n + 1, st, x, h => by
    have g := gs.g
    have hN : X.N.Nodup := by rw [g.hN]; exact g.nd
    have ihE : ∀ e x, ce G N n sc e = some x → PE X e (tE X F W x) := fun e x h => (ce_ok n sc e x h X W g gs.psv).1
    have ihT : ∀ e x, ce G N n sc e = some x → okT e = true → PT X e (tT X F W x) := fun e x h => (ce_ok n sc e x h X W g gs.psv).2
    have ihS : ∀ {ss xs}, css (cs G N mu sc n) ss = some xs → SSs X F W ss xs := fun h => css_ok (cs_ok gs mu n) h
    have hG : ∀ {tg t}, cT N sc 8 tg = some t → PG X tg (gE X F t) := fun h => cT_ok g.hN g.nd g.calm (fun y hy => ⟨by rw [g.hs]; exact loc_of hy, .inl (gs.fn y)⟩) 8 h
    cases st with
    | Pass p => simp only [cs] at h; cases h; exact sS_pass
    | Break p => simp only [cs] at h; cases h; exact sS_brk
    | Continue p => simp only [cs] at h; cases h; exact sS_cnt
    | Expr e p =>
      simp only [cs] at h
      split at h
      · cases h
      · rename_i hc
        obtain ⟨y, hy, rfl⟩ := map_some h
        exact sS_expr (ihE _ _ hy) (no_sw hc)
    | Return v p =>
      simp only [cs] at h
      split at h
      · cases h; exact sS_retN
      · obtain ⟨y, hy, rfl⟩ := map_some h
        exact sS_ret (ihE _ _ hy)
    | If c a b p =>
      simp only [cs] at h
      split at h
      · rename_i h1 h2 h3 h4
        cases h
        exact sS_if (ihT _ _ h2 h1) (ihS h3) (ihS h4)
      · cases h
    | While c b o p =>
      simp only [cs] at h
      split at h
      · rename_i h1 h2 h3
        cases h
        exact sS_whl gs.pas (ihT _ _ h2 h1) (ihS h3)
      · cases h
    | For tg it b o p =>
      simp only [cs] at h
      split at h
      · rename_i h1 h2 h3
        cases h
        have hI := ceI_ok (tg := tg) g ihE h2
        exact sS_for gs.pas g.calm hI.1 (hG h1) (ihS h3) hI.2
      · cases h
    | AugAssign tg op e p =>
      simp only [cs] at h
      split at h
      · split at h
        · rename_i h1 h2 h3
          have hL := loc_of h2
          rw [← g.hs] at hL
          have hi := slotIx_some h1
          rw [← g.hN] at hi
          split at h
          · cases h
            exact sS_augAdd hN hi hL (ihE _ _ h3) (.inl (gs.fn _))
          · cases h
            exact sS_augSub hN hi hL (ihE _ _ h3) (.inl (gs.fn _))
          · cases h
        · cases h
      · cases h
    | Try b hs o fi p =>
      simp only [cs] at h
      split at h
      · rename_i x np nm su hp
        split at h
        · rename_i xb h1 h2
          simp only [Bool.and_eq_true] at h1
          obtain ⟨d1, d2, d3⟩ := okName_of h1.1
          have gl := glob_of g h1.2
          have hbody : ∀ (W' : WX) (pn : List (Addr × Obj)) (xe : Value → Shared → Prop), Takes (X.tr pn xe) W' → PassesOwn (model X.prog X.w) X.A X.env xe → SSs (X.tr pn xe) F W' b xb := fun W' pn xe tk hp => css_ok (cs_ok (gs.tr tk hp) mu n) h2
          split at h
          · split at h
            · rename_i b0 su yes no xs h3 h4
              cases h
              obtain ⟨C, hm, hy, hn⟩ := gs.han _ _ _ h3
              exact sS_try gs.stk gs.frm ⟨gl, d1, .inl hm⟩ gs.tk hy hn hbody fun a oe pn => csu_ok (X' := X.suite a ((a, oe) :: pn)) g.hN g.nd g.hs gs.fn 12 h4
            · cases h
          · split at h
            · split at h
              · rename_i i c no h3 h4 h5
                cases h
                simp only [Bool.and_eq_true] at h3
                have e := eq_of_beq h3.1.1
                subst e
                obtain ⟨e1, e2, _⟩ := okName_of h3.1.2
                obtain ⟨hm, hy, hn, xf, hno, hfl⟩ := gs.fld _ _ _ _ h5
                exact sS_tryF gs.stk gs.frm hN (by rw [g.hN]; exact slotIx_some h4) (by rw [g.hs]; exact eq_of_beq h3.2) ⟨gl, d1, .inl hm⟩ gs.tk hy hn xf hno hfl e1 e2 hbody
              · cases h
            · cases h
        · cases h
      · cases h
    | Raise e fr p =>
      simp only [cs] at h
      split at h
      · split at h
        · rename_i c h1 h2
          cases h
          simp only [Bool.and_eq_true] at h1
          obtain ⟨d1, _, _⟩ := okName_of h1.1
          exact sS_raise g.calm gs.tk (gs.err _ _ h2) (glob_of g h1.2) d1
        · cases h
      · split at h
        · rename_i c y h1 h2 h3
          cases h
          simp only [Bool.and_eq_true] at h1
          obtain ⟨d1, _, _⟩ := okName_of h1.1.1
          exact sS_raiseF (k := 0) g.calm gs.tk (gs.eri _ _ h2) (g.room.mono (by have := g.k1; omega)) (glob_of g h1.1.2) d1 (ihE _ _ h3) (star_cons h1.2)
        · cases h
      · cases h
    | Assign ts e p =>
      simp only [cs] at h
      split at h
      · split at h
        · rename_i y py
          split at h
          · rename_i i h1 h2
            split at h
            · rename_i hc
              obtain ⟨z, hz, rfl⟩ := map_some h
              exact cv_ok gs h1 h2 (fun q => by rw [hc] at q; cases q) hz
            · split at h
              · obtain ⟨z, hz, rfl⟩ := map_some h
                exact cv_ok gs h1 h2 (fun _ => ⟨_, _, _, _, rfl⟩) hz
              · cases h
          · cases h
        · rename_i a b py
          split at h
          · cases h
          · cases h
          · rename_i hc hs
            split at h
            · rename_i h1 h2 h3
              cases h
              exact sS_setIx g.hw (room_u g) (ihE _ _ h1) (ihE _ _ h2) (ihE _ _ h3) (asg_sub hs) (no_sw1 hc) (by cases e <;> rfl) rfl
            · cases h
        · rename_i us kt pt
          split at h
          · cases h
          · rename_i t ht
            split at h
            · rename_i vs k2 p2
              split at h
              · cases h
              · rename_i hw
                obtain ⟨z, hz, rfl⟩ := map_some h
                have ha := ceT_ok ihE hz
                exact sS_set (sE_tup ha.1 ha.2) (hG ht) (no_sw1 rfl) (swapR_ok gs.bk g.hs hw) rfl
              · rename_i ns hw
                have hw2 := swapR_ok (k := kt) (k2 := k2) (p := pt) (p2 := p2) gs.bk g.hs hw
                obtain ⟨hns, hnl⟩ := swapR_all hw
                split at h
                · split at h
                  · rename_i h1 h2 h3
                    split at h
                    · rename_i h4
                      cases h
                      simp only [Bool.and_eq_true] at h4
                      obtain ⟨ms, rfl, hns, hnl⟩ := nmF_two hns hnl
                      obtain ⟨ms, rfl, hns, hnl⟩ := nmF_two hns hnl
                      cases hns
                      have ha := ceT_ok ihE h3
                      exact sS_par g.calm hN (by rw [g.hN]; exact slotIx_some h1) (by rw [g.hN]; exact slotIx_some h2) (by simpa using h4.1.1) (by rw [g.hs]; exact eq_of_beq h4.1.2) (by rw [g.hs]; exact eq_of_beq h4.2) ha.1 hw2 (no_sw1 rfl)
                    · cases h
                  · cases h
                · split at h
                  · rename_i h1 h2 h2' h3
                    split at h
                    · rename_i h4
                      cases h
                      simp only [Bool.and_eq_true] at h4
                      obtain ⟨ms, rfl, hns, hnl⟩ := nmF_two hns hnl
                      obtain ⟨ms, rfl, hns, hnl⟩ := nmF_two hns hnl
                      obtain ⟨ms, rfl, hns, hnl⟩ := nmF_two hns hnl
                      cases hns
                      have ha := ceT_ok ihE h3
                      exact sS_par3 g.calm hN (by rw [g.hN]; exact slotIx_some h1) (by rw [g.hN]; exact slotIx_some h2) (by rw [g.hN]; exact slotIx_some h2') (by simpa using h4.1.1.1.1.1) (by simpa using h4.1.1.1.1.2) (by simpa using h4.1.1.1.2) (by rw [g.hs]; exact eq_of_beq h4.1.1.2) (by rw [g.hs]; exact eq_of_beq h4.1.2) (by rw [g.hs]; exact eq_of_beq h4.2) ha.1 hw2 (no_sw1 rfl)
                    · cases h
                  · cases h
                · cases h
            · rename_i hne
              split at h
              · cases h
              · rename_i hc
                obtain ⟨z, hz, rfl⟩ := map_some h
                exact sS_set (ihE _ _ hz) (hG ht) (no_sw1 hc) (by cases e <;> first | rfl | exact absurd rfl (hne _ _ _)) rfl
        · cases h
      · cases h
    | _ => simp only [cs] at h; cases h
end
end Lk
end

section
/-! G1: arguments come to parameters. -/
set_option Elab.async false
set_option linter.all false
set_option maxRecDepth 100000
set_option maxHeartbeats 2000000
namespace Lk
open PySem PySem.Spec PyProof.Rows L2 SlX
/-- positional arguments alone come to the parameters -/
def BindP (params : Arguments) (ps : List Str) : Prop := ∀ (x qual : Str) (body : List Stmt) (scope : Scope) (kV doc pm : Value) (an : Option Addr) (cdv ct : Value) (us : List Value), us.length = ps.length → bindArgs (PySem.W.fnOf x qual params body scope .none kV doc pm an cdv ct) ⟨us, []⟩ = pure (ps.zip us)
section
variable {K : PySem.W.Frag} {x qual : Str} {params : Arguments} {body : List Stmt} {scope : Scope} {kws : List (Str × V)} {f : Addr} {fd : FuncData}
theorem bindsS {ps : List Str} (U : FunD K x qual params body scope [] kws f fd) (h : BindP params ps) : Binds K fd ps [] := U.bindsN fun kV doc pm an cdv ct us hl => h _ _ _ _ kV doc pm an cdv ct us hl
theorem bindsSA {ps : List Str} (U : FunD K x qual params body scope [] kws f fd) (h : BindP params ps) (s : Shared) (us : List Value) (hl : us.length = ps.length) : BindsTo s fd ⟨us, []⟩ (ps.zip us) := U.bindsA (fun kV doc pm an cdv ct us hl => h _ _ _ _ kV doc pm an cdv ct us hl) s us hl
end
end Lk
end

section
/-! G2: a table of defs; all of them keep what the evaluator says. -/
set_option Elab.async false
set_option linter.all false
set_option maxRecDepth 100000
set_option maxHeartbeats 2000000
namespace Lk
open PySem PySem.Spec PyProof.Rows L2 SlX LamX
section
variable {F : Fx} {K : PySem.W.Frag}
/-- FunD.ok, its code object known -/
theorem okC {P : Program} {w : World} {mg : Str → Option Value} {base : Heap} {x qual : Str} {params : Arguments} {body : List Stmt} {scope : Scope} {dvs : List V} {kws : List (Str × V)} {f : Addr} {fd : FuncData} {CX : CXT} {N ps : List Str} {k : Nat} {sp : Sp} (U : FunD K x qual params body scope dvs kws f fd) (S : FnScope N ps scope) (len : ∀ vs H Q E, sp vs H Q E → vs.length = ps.length)
    (hbody : ∀ (cdv : Value) (A : Around) (outer : List PySem.Env) (s : Shared) (H : Hp) (vs : List V) (Q : VK) (E : XK), cdv = fd.code → Room k (A.deeper (envOfC qual scope s.heap.objs.size f cdv)) → sp vs H Q E →
      ∃ t, PSs (cxOf CX P w K mg base N qual scope f cdv A outer s H E) body t ∧ t { nx := fun _ H' => Q .non H', rt := Q } (L2.start N vs) H) : FnOk P w K mg base CX (k + 1) f fd ps sp := by
  obtain ⟨oc, od, dV, kV, doc, pm, an, cdv, ct, osl, rfl, lk, hcd, _, _⟩ := U.ex
  exact fn_of lk hcd S len fun A outer s H vs Q E hr hsp => hbody cdv A outer s H vs Q E rfl hr hsp
theorem fn_okL {P : Program} {w : World} {mg : Str → Option Value} {base : Heap} {f : Addr} {fd : FuncData} {x qual : Str} {params : Arguments} {body : List Stmt} {scope : Scope} {dvs : List V} {kws : List (Str × V)} {N ps : List Str} {k : Nat} {d : Def} (hY : F.Y = none)
    (U : FunD K x qual params body scope dvs kws f fd) (Sc : FnScope N ps scope) (hi : d.ini = none) (hN : N.length = d.par + d.loc) (hp : ps.length = d.par)
    (hb : ∀ (X : Cx) (E : XK), X.prog = P → X.w = w → X.K = K → X.mg = mg → X.base = base → X.N = N → X.env.scope = scope → X.env.code = fd.code → X.env.qual = qual ++ ".<locals>." → Room k X.A → X.calm = true → (∀ y, X.fn y = true) → X.stack = X.env :: X.outer → X.env.frame = some X.env.locals → Takes X (fun cls dd _ H => E cls dd H) → PassesOwn (model X.prog X.w) X.A X.env X.xe →
      SSs X F (fun cls dd _ H => E cls dd H) body d.body) : FnOk P w K mg base (CX P w) (k + 1) f fd ps (spF K F.T F.Z (runDef F.cal d)) := by
  have base : FnOk P w K mg base (CX P w) (k + 1) f fd ps (spB K F.T F.Z d.par (bodyOf F.cal d)) := by
    refine okC U Sc (fun vs H Q E h => ?_) (fun cdv A outer s H vs Q E hcd hr h => ⟨_, hb (cxOf (CX P w) P w K mg base N qual scope f cdv A outer s H E) E rfl rfl rfl rfl rfl rfl rfl hcd rfl hr rfl (fun _ => rfl) rfl rfl (takes_of rfl rfl rfl rfl) (passes_of rfl), ?_⟩)
    · obtain ⟨ρ, ds, S, m, r, hz, q⟩ := h
      rw [← r.length, hz, hp]
    · obtain ⟨ρ, ds, S, m, r, hz, q⟩ := h
      exact def_of (X := cxOf (CX P w) P w K mg base N qual scope f cdv A outer s H E) hi hN hY m r hz q
  cases hpu : d.pur with
  | false => exact ⟨fun vs H Q E h => by rw [hp]; exact spF_len h, fun A outer s H args us vs Q E hr he hb hv q => base.run A outer s H args us vs Q E hr he hb hv (spF_body hpu q)⟩
  | true => exact lent_ok base (fun vs H Q E h => by rw [hp]; exact spF_len h) fun vs H Q E h => spF_alone hpu h
end
/-- where a def stands -/
inductive Loc where
  | fn (x : Str) | meth (c m : Str) | prop (c f : Str)
deriving DecidableEq
def Loc.adr (K : PySem.W.Frag) : Loc → Addr
  | .fn x => He.ga K x
  | .meth c m => He.ma K (He.ga K c) m
  | .prop c f => match PySem.W.recIn K (He.ma K (He.ga K c) f) "property" with
    | some (.ref g :: _) => g
    | _ => 0
/-- a def of the text: where it stands, what it says, its defaults; its names by slot, its class if it is an __init__, the slots whose lists are changed -/
structure DX where
  at_ : Loc
  name : Str
  qual : Str
  params : Arguments
  body : List Stmt
  scope : Scope
  N : List Str
  dfl : List He.Dv := []
  kwd : List (Str × He.Dv) := []
  ini : Option Nat := none
  mu : List Nat := []
  pur : Bool := false
  lam : Bool := false
def DX.ps (x : DX) : List Str := x.params.args.map (·.arg) ++ x.params.kwonlyargs.map (·.arg)
def DX.dvs (K : PySem.W.Frag) (d : DX) : List V := d.dfl.map (He.Dv.v K)
def DX.kws (K : PySem.W.Frag) (d : DX) : List (Str × V) := d.kwd.map fun q => (q.1, q.2.v K)
/-- its scope is plain -/
def scOk (N ps : List Str) (sc : Scope) : Bool := (sc.kind == .function) && !sc.isCoroutine && !sc.isGenerator && decide N.Nodup && decide (N.take ps.length = ps) && (ps.all fun x => isLoc sc x) && sc.names.all fun y => y.2 != .free
theorem scOk_of {N ps : List Str} {sc : Scope} (h : scOk N ps sc = true) : FnScope N ps sc := by
  unfold scOk at h
  simp only [Bool.and_eq_true, Bool.not_eq_true', decide_eq_true_eq] at h
  obtain ⟨⟨⟨⟨⟨⟨h1, h2⟩, h3⟩, h4⟩, h5⟩, h6⟩, h7⟩ := h
  exact ⟨eq_of_beq h1, h2, h3, h4, h5, fun x hx => loc_of (List.all_eq_true.mp h6 x hx), fun y hy z => by
    have := List.all_eq_true.mp h7 y hy
    rw [z] at this
    exact absurd this (by decide)⟩
def isFin : Stmt → Bool
  | .Assign [.Attribute (.Name x _) _ _] _ _ => x == ("self" : Str)
  | _ => false
/-- own methods that are called by their names alone -/
def ownNames : List String := ["contains", "len", "abs", "invert"]
def Gt.at_ (G : Gt) (x : DX) : Gt := { G with lam := x.lam }
section
variable (G : Gt) (slots : Nat → List Str)
/-- self.f = e, .., the slots in order -/
def cFin (N : List Str) (sc : Scope) (c : Nat) : Nat → List Stmt → Option XEs
  | k, [] => if 0 < k then some .nil else none
  | k, s :: ss => match s with
    | .Assign [.Attribute (.Name nm _) f _] e _ => match okName nm && isVis sc nm && N[0]? == some nm && (slots c)[k]? == some f, ce G N 60 sc e, cFin N sc c (k + 1) ss with
      | true, some x, some xs => some (.cons x xs)
      | _, _, _ => none
    | _ => none
def cDef (x : DX) : Option Def := match scOk x.N x.ps x.scope && decide (x.ps.length ≤ x.N.length), x.ini with
  | false, _ => none
  | true, none => (css (cs (G.at_ x) x.N x.mu x.scope 60) x.body).map fun b => ⟨x.ps.length, x.N.length - x.ps.length, none, b, x.pur, none⟩
  | true, some c => match decide (1 ≤ x.ps.length ∧ x.N.head? = some ("self" : Str)), css (cs G.calm x.N x.mu x.scope 60) (x.body.takeWhile fun s => !isFin s), cFin G.calm slots x.N x.scope c 0 (x.body.dropWhile fun s => !isFin s) with
    | true, some b, some es => some ⟨x.ps.length - 1, x.N.length - x.ps.length, some (c, es), b, false, none⟩
    | _, _, _ => none
end
def Gt.bare (G : Gt) : Gt := { G with asks := [], lam := false }
/-- the def that is handed a lambda, as it stands in the text -/
def AskS (X : Cx) (Z : Xs) (G : Gt) (x : Str) (n : Nat) (r : XE) (hs : List (List Nat × List Nat × Option D)) : Prop :=
  ∃ (a v : Str) (g : Addr) (pg : Arguments) (e : Expr) (hd : ExceptHandler) (hds : List ExceptHandler) (l : List (Value × V)) (sg : Scope) (dV kV doc pm cdv ct oc : Value) (an od : Option Addr) (osl : Array (Option Value)) (Ng : List Str) (pv p1 p2 p3 p4 p8 : Pos),
    X.mg x = some (.ref g) ∧ PySem.W.keepIn X.K (.ref g) = true ∧ X.K.lookup g = some ⟨oc, od, .func (PySem.W.fnOf x x pg [.Try [.Assign [.Name v pv] (.Call (.Name a p1) [] [] p2) p3, .Return (some e) p4] (hd :: hds) [] [] p8] sg dV kV doc pm an cdv ct), osl⟩ ∧ PySem.W.codeIn X.K cdv x = true ∧
    L2.Binds X.K (PySem.W.fnOf x x pg [.Try [.Assign [.Name v pv] (.Call (.Name a p1) [] [] p2) p3, .Return (some e) p4] (hd :: hds) [] [] p8] sg dV kV doc pm an cdv ct) [a] [] ∧ FnScope Ng [a] sg ∧ Ng[0]? = some a ∧ Ng[1]? = some v ∧ Ng.Nodup ∧ Ng.length = n + 2 ∧ Vis sg a ∧ sg.names.lookup v = some .local ∧ (a == ("__debug__" : Str)) = false ∧ (a == ("__classdict__" : Str)) = false ∧
    (∀ env : PySem.Env, swapsWith (.Call (.Name a p1) [] [] p2) (some (.Name v pv)) p3.line env = pure false) ∧ HdA X Z Ng sg (hd :: hds) hs l ∧ ce G.bare Ng 60 sg e = some r
/-- what is known, wherever one stands -/
structure Facts (G : Gt) (slots : Nat → List Str) (k : Nat) (F : Fx) (X : Cx) : Prop where
  k1 : 1 ≤ k
  hw : F.T.w = X.w
  cls : ClsF X.K F.T G.ncl
  clg : ∀ x c, G.clss.lookup x = some c → c < G.ncl ∧ X.mg x = some (.ref (F.T c))
  att : ∀ f tb c t, G.atts.lookup f = some tb → tb.lookup c = some t → AttF X F k f c t
  mak : ∀ x n c j dfl, G.maks.lookup (x, n) = some (c, j, dfl) → MkF X F k x c j dfl
  mkk : ∀ x n ks c j, G.makk.lookup (x, n, ks) = some (c, j) → MkK X F k x n ks c j
  defs : ∀ x n j dfl, G.defs.lookup (x, n) = some (j, dfl) → Known X F k x j dfl
  cons : ∀ x d, G.cons.lookup x = some d → ∃ u v, X.mg x = some u ∧ RelV v u ∧ Fixed X.K F.T d v
  blts : ∀ x, G.blts.contains x = true → X.mg x = none
  eqs : ∀ c f, G.eqs.lookup c = some f → EqF X F k G.eqs c f
  lt : ∀ c f, (G.own "lt").lookup c = some f → LtF X F k (cmpInfo .Lt).2.1 (G.own "lt") c f
  le : ∀ c f, (G.own "le").lookup c = some f → LtF X F k (cmpInfo .LtE).2.1 (G.own "le") c f
  own : ∀ nm, nm ∈ ownNames → ∀ c f, (G.own nm).lookup c = some f → OwnF X F k c (PySem.dunder nm) f
  sub : ∀ c f, (G.own "getitem").lookup c = some f → SubF X F k c f
  bin : ∀ (op : Operator) c f, (G.own op.info.2).lookup c = some f → BinF X F k op.info.2 c f
  rev : ∀ c f, (G.own "rmul").lookup c = some f → RevF X F k c f
  ask : ∀ x n r hs, G.asks.lookup x = some (n, r, hs) → AskS X F.Z G x n r hs
  err : ∀ x c, G.errs.lookup x = some c → ErrF X F x c
  eri : ∀ x c, G.erri.lookup x = some c → ErrI X F x c
  han : ∀ x yes no, G.hans.lookup x = some (yes, no) → ∃ C, X.mg x = some C ∧ (∀ c, yes.contains c = true → PySem.W.exmOne X.K (.ref (F.Z.adr c)) C = some true) ∧ ∀ c, no.contains c = true → PySem.W.exmOne X.K (.ref (F.Z.adr c)) C = some false
  fld : ∀ x f c no, G.flds.lookup (x, f) = some (c, no) → X.mg x = some (.ref (F.Z.adr c)) ∧ PySem.W.exmOne X.K (.ref (F.Z.adr c)) (.ref (F.Z.adr c)) = some true ∧ (∀ e, no.contains e = true → PySem.W.exmOne X.K (.ref (F.Z.adr e)) (.ref (F.Z.adr c)) = some false) ∧ XfC X.K (F.Z.adr c) ∧ PySem.W.findIn X.K (.ref (F.Z.adr c)) f = some none ∧ F.Z.fld c = some f
  slt : ∀ c i f, c < G.ncl → (slots c)[i]? = some f → ∃ p, Slot1 X.K (F.T c) f p i
section
variable {G : Gt} {slots : Nat → List Str} {k : Nat} {F : Fx} {X : Cx}
theorem du {c j : Nat} {a b : Str} (e : a = b) (h : OwnF X F k c a j) : OwnF X F k c b j := e ▸ h
theorem Facts.good (f : Facts G slots k F X) {N : List Str} {sc : Scope} {asks : List (Str × (Nat × XE × List (List Nat × List Nat × Option D)))} {lam : Bool} (hN : X.N = N) (nd : N.Nodup) (hs : X.env.scope = sc) (calm : X.calm = true) (room : Room (k + 1) X.A) (sf : F.Y = none ∨ N.head? = some ("self" : Str))
    (ha : ∀ x n r hs, lam = true → asks.lookup x = some (n, r, hs) → AskF X F (k + 1) x n r hs)
    (hl : lam = true → Room (k + 3) X.A ∧ F.Y = none ∧ ∃ c P, TabB X.base X.mg c P ∧ X.env.code = .ref c ∧ (P, X.env.qual ++ "<lambda>") ∈ F.T.tabs ∧ ∀ p ∈ F.T.tabs, p.1 = P → p.2 = X.env.qual ++ "<lambda>") : Good { G with asks := asks, lam := lam } N k F X sc :=
  { hN := hN, nd := nd, hs := hs, calm := calm, room := room, k1 := f.k1, hw := f.hw, eqs := f.eqs, lt := f.lt, le := f.le, cnt := fun c j h => du (by decide +kernel) (f.own "contains" (by decide) c j h), len := fun c j h => du (by decide +kernel) (f.own "len" (by decide) c j h), abs := fun c j h => du (by decide +kernel) (f.own "abs" (by decide) c j h), inv := fun c j h => du (by decide +kernel) (f.own "invert" (by decide) c j h), sub := f.sub, bin := f.bin, rev := f.rev
    sf := sf, cls := f.cls, clg := f.clg, att := f.att, mak := f.mak, mkk := f.mkk, defs := f.defs, cons := f.cons, blts := f.blts, asks := ha, lam := hl }
theorem Facts.withY (f : Facts G slots k F X) (y : Option Slf) : Facts G slots k { F with Y := y } X :=
  { k1 := f.k1, hw := f.hw, cls := f.cls, clg := f.clg, att := fun a b c t h1 h2 => by
      have := f.att a b c t h1 h2
      cases t with
      | slot i => exact this
      | prop j => exact this
    mak := fun x n c j dfl h => ⟨(f.mak x n c j dfl h).ex⟩, mkk := fun x n ks c j h => ⟨(f.mkk x n ks c j h).ex⟩, defs := fun x n j dfl h => ⟨(f.defs x n j dfl h).ex⟩, cons := f.cons, blts := f.blts
    eqs := fun c j h => let e := f.eqs c j h; ⟨e.ex, e.ne, e.ob, e.t1, e.t2⟩
    lt := fun c j h => let e := f.lt c j h; ⟨e.ex, e.t1, e.t2⟩
    le := fun c j h => let e := f.le c j h; ⟨e.ex, e.t1, e.t2⟩
    own := fun nm hn c j h => ⟨(f.own nm hn c j h).ex⟩
    sub := fun c j h => ⟨(f.sub c j h).ex⟩
    bin := fun op c j h => let e := f.bin op c j h; ⟨e.ex, e.fst, e.rv, e.ty⟩
    rev := fun c j h => let e := f.rev c j h; ⟨e.ex, e.fst, e.ml, e.ni⟩
    ask := f.ask
    err := fun x c h => let e := f.err x c h; ⟨e.ex, e.gl, e.kp, e.rs, e.nf⟩
    eri := fun x c h => let e := f.eri x c h; ⟨e.ex, e.gl⟩
    han := f.han, fld := f.fld, slt := f.slt }
theorem Facts.goodS {G' : Gt} (f : Facts G slots k F X) (e1 : G'.errs = G.errs) (e2 : G'.erri = G.erri) (e3 : G'.hans = G.hans) (e4 : G'.flds = G.flds) {W : WX} {N : List Str} {sc : Scope} (g : Good G' N k F X sc) (bk : X.env.blockKind = .function) (fn : ∀ y, X.fn y = true) (pas : PassesOwn (model X.prog X.w) X.A X.env X.xe) (tk : Takes X W) (stk : X.stack = X.env :: X.outer) (frm : X.env.frame = some X.env.locals) : GoodS G' N k F X W sc :=
  { g := g, bk := bk, fn := fn, pas := pas, tk := tk, err := by rw [e1]; exact f.err, eri := by rw [e2]; exact f.eri, stk := stk, frm := frm, han := by rw [e3]; exact f.han, fld := by rw [e4]; exact f.fld }
/-- the def that is handed a lambda keeps its word -/
theorem ask_of (hY : F.Y = none) (hf : ∀ Z : Cx, Z.prog = X.prog → Z.w = X.w → Z.K = X.K → Z.mg = X.mg → Z.base = X.base → Facts G slots k F Z) {x : Str} {n : Nat} {r : XE} {hs : List (List Nat × List Nat × Option D)} (A : AskS X F.Z G x n r hs) : AskF X F (k + 1) x n r hs := by
  obtain ⟨a, v, g, pg, e1, hd, hds, l, sg, dV, kV, doc, pm, cdv, ct, oc, an, od, osl, Ng, pv, p1, p2, p3, p4, p8, q1, q2, q3, q4, q5, q6, q7, q8, q9, q10, q11, q12, q13, q14, q15, q16, q17⟩ := A
  refine ⟨a, v, g, pg, e1, hd, hds, l, sg, dV, kV, doc, pm, cdv, ct, oc, an, od, osl, Ng, pv, p1, p2, p3, p4, p8, q1, q2, q3, q4, q5, q6, q7, q8, q9, q10, q11, q12, q13, q14, q15, q16, fun Z z1 z2 z3 z4 z5 z6 z7 hr hc => ?_⟩
  have g : Good G.bare Ng k F Z sg := (hf Z z1 z2 z3 z4 z5).good (asks := []) (lam := false) z6 q9 z7 hc hr (.inl hY) (fun x n r hs z => by cases z) (fun z => by cases z)
  exact (ce_ok 60 sg e1 r q17 Z W0 g psv_none).1
theorem css_l {W : WX} {f : Stmt → Option XS} (hf : ∀ s x, f s = some x → SS X F W s x) : ∀ {ss : List Stmt} {xs : XSs}, css f ss = some xs → SSl X F W ss xs
  | [], _, h => by cases h; exact .nil
  | s :: ss, xs, h => by
    unfold css at h
    split at h
    · rename_i h1 h2
      cases h
      exact .cons (hf _ _ h1) (css_l hf h2)
    · cases h
theorem cFin_ok {G' : Gt} {W : WX} {N : List Str} {sc : Scope} {c : Nat} (f : Facts G slots k F X) (g : Good G' N k F X sc) (hx : Psv X W) (hc : c < G.ncl) : ∀ {ss : List Stmt} {i : Nat} {es : XEs}, cFin G' slots N sc c i ss = some es → FinOk X F W c i ss es
  | [], i, es, h => by
    obtain ⟨hi, rfl⟩ := ite_some (show (if 0 < i then some XEs.nil else none) = some es from h)
    exact .nil hi
  | s :: ss, i, es, h => by
    unfold cFin at h
    split at h
    · rename_i nm p1 fl p2 e pos
      split at h
      · rename_i x xs h1 h2 h3
        cases h
        simp only [Bool.and_eq_true] at h1
        obtain ⟨d1, d2, _⟩ := okName_of h1.1.1.1
        obtain ⟨p, hp⟩ := f.slt c i fl hc (eq_of_beq h1.2)
        exact .cons (pe_var (by rw [g.hN]; exact eq_of_beq h1.1.2) (by rw [g.hs]; exact vis_of h1.1.1.2) d1 d2) (ce_ok 60 sc e x h2 X W g hx).1 hp (cFin_ok f g hx hc h3)
      · cases h
    · cases h
end
section
variable {P : Program} {w : World} {K : PySem.W.Frag} {mg : Str → Option Value} {base : Heap} {G : Gt} {slots : Nat → List Str} {T : Ty} {Z : Xs}
/-- the def keeps what the evaluator says -/
def DefOk (P : Program) (w : World) (K : PySem.W.Frag) (mg : Str → Option Value) (base : Heap) (T : Ty) (Z : Xs) (k : Nat) (x : DX) (fd : FuncData) (c : List D → M D) : Prop := match x.ini with
  | none => FnOk P w K mg base (CX P w) k (x.at_.adr K) fd x.ps (spF K T Z c)
  | some i => FnOk P w K mg base (CX P w) k (x.at_.adr K) fd x.ps (spI K T Z i c)
/-- the table of the def's lambdas -/
def LamT (base : Heap) (mg : Str → Option Value) (T : Ty) (x : DX) (fd : FuncData) : Prop := x.lam = true → ∃ c P, fd.code = .ref c ∧ TabB base mg c P ∧ (P, (x.qual ++ ".<locals>.") ++ "<lambda>") ∈ T.tabs ∧ ∀ p ∈ T.tabs, p.1 = P → p.2 = (x.qual ++ ".<locals>.") ++ "<lambda>"
theorem def_ok {k : Nat} {cal : Nat → List D → M D} {x : DX} {d : Def} {fd : FuncData} (hd : cDef G slots x = some d) (U : FunD K x.name x.qual x.params x.body x.scope (x.dvs K) (x.kws K) (x.at_.adr K) fd) (hcl : ∀ c, x.ini = some c → c < G.ncl ∧ SCls K (T c)) (hlam : LamT base mg T x fd)
    (hf : ∀ X : Cx, X.prog = P → X.w = w → X.K = K → X.mg = mg → X.base = base → Facts G slots k ⟨T, Z, cal, none⟩ X) : DefOk P w K mg base T Z (k + 4) x fd (runDef cal d) := by
  unfold cDef at hd
  unfold DefOk
  split at hd
  · cases hd
  · rename_i hini h1 h2
    rw [h2]
    simp only [Bool.and_eq_true, decide_eq_true_eq] at h1
    obtain ⟨b, hb, rfl⟩ := map_some hd
    have Sc := scOk_of h1.1
    refine fn_okL (F := ⟨T, Z, cal, none⟩) (k := k + 3) rfl U Sc rfl (by show x.N.length = x.ps.length + (x.N.length - x.ps.length); omega) rfl fun X E e1 e2 e3 e4 e5 e6 e7 ec eq hr hc hfn hst hfr tk hp => ?_
    have fa := hf X e1 e2 e3 e4 e5
    have g : Good (G.at_ x) x.N k ⟨T, Z, cal, none⟩ X x.scope := fa.good (asks := G.asks) (lam := x.lam) e6 Sc.nd e7 hc (hr.mono (by omega)) (.inl rfl)
      (fun y n r hs _ hl => ask_of rfl (fun Z z1 z2 z3 z4 z5 => hf Z (z1.trans e1) (z2.trans e2) (z3.trans e3) (z4.trans e4) (z5.trans e5)) (fa.ask y n r hs hl))
      (fun hl => ⟨hr, rfl, by
        obtain ⟨c, P, hcd, TB, hm, hu⟩ := hlam hl
        exact ⟨c, P, by rw [e4, e5]; exact TB, by rw [ec]; exact hcd, by rw [eq]; exact hm, by rw [eq]; exact hu⟩⟩)
    have gs := fa.goodS (G' := G.at_ x) (by rfl) (by rfl) (by rfl) (by rfl) g (by unfold PySem.Env.blockKind; rw [e7, Sc.kind]; rfl) hfn hp tk hst hfr
    exact css_ok (cs_ok gs x.mu 60) hb
  · rename_i hini c h1 h2
    rw [h2]
    simp only [Bool.and_eq_true, decide_eq_true_eq] at h1
    split at hd
    · rename_i b es h3 h4 h5
      cases hd
      simp only [decide_eq_true_eq] at h3
      have Sc := scOk_of h1.1
      obtain ⟨hc', hsc⟩ := hcl c h2
      refine init_ok (F := ⟨T, Z, cal, none⟩) (k := k + 3) (pre := x.body.takeWhile fun s => !isFin s) (suf := x.body.dropWhile fun s => !isFin s) U Sc rfl rfl (by show x.N.length = 1 + (x.ps.length - 1) + (x.N.length - x.ps.length); omega) (by show x.ps.length = x.ps.length - 1 + 1; omega) hsc (List.takeWhile_append_dropWhile).symm fun X E y e1 e2 e3 e4 e5 e6 e7 hr hc hfn hst hfr tk hp => ?_
      have fa := (hf X e1 e2 e3 e4 e5).withY (some y)
      have g : Good G.calm x.N k ⟨T, Z, cal, some y⟩ X x.scope := fa.good (asks := G.asks) (lam := false) e6 Sc.nd e7 hc (hr.mono (by omega)) (.inr h3.2) (fun _ _ _ _ z => by cases z) (fun z => by cases z)
      have gs := fa.goodS (G' := G.calm) (by rfl) (by rfl) (by rfl) (by rfl) g (by unfold PySem.Env.blockKind; rw [e7, Sc.kind]; rfl) hfn hp tk hst hfr
      exact ⟨css_l (cs_ok gs x.mu 60) h4, cFin_ok fa g gs.psv hc' h5⟩
    · cases hd
/-- all of them, level by level -/
theorem all_ok {defs : List DX} {ds : List Def} (hds : ∀ (j : Nat) (x : DX), defs[j]? = some x → ∃ d, ds[j]? = some d ∧ cDef G slots x = some d)
    (hU : ∀ (j : Nat) (x : DX), defs[j]? = some x → ∃ fd, FunD K x.name x.qual x.params x.body x.scope (x.dvs K) (x.kws K) (x.at_.adr K) fd) (hcl : ∀ (j : Nat) (x : DX) (c : Nat), defs[j]? = some x → x.ini = some c → c < G.ncl ∧ SCls K (T c)) (hlm : ∀ (j : Nat) (x : DX) (fd : FuncData), defs[j]? = some x → FunD K x.name x.qual x.params x.body x.scope (x.dvs K) (x.kws K) (x.at_.adr K) fd → LamT base mg T x fd)
    (hf : ∀ n, (∀ (j : Nat) (x : DX), defs[j]? = some x → ∃ fd, FunD K x.name x.qual x.params x.body x.scope (x.dvs K) (x.kws K) (x.at_.adr K) fd ∧ DefOk P w K mg base T Z (4 * n + 4) x fd (sem ds n j)) →
      ∀ X : Cx, X.prog = P → X.w = w → X.K = K → X.mg = mg → X.base = base → Facts G slots (4 * n + 4) ⟨T, Z, sem ds n, none⟩ X) :
    ∀ n (j : Nat) (x : DX), defs[j]? = some x → ∃ fd, FunD K x.name x.qual x.params x.body x.scope (x.dvs K) (x.kws K) (x.at_.adr K) fd ∧ DefOk P w K mg base T Z (4 * n + 4) x fd (sem ds n j) := by
  intro n
  induction n with
  | zero =>
    intro j x hj
    obtain ⟨fd, U⟩ := hU j x hj
    refine ⟨fd, U, ?_⟩
    unfold DefOk
    split
    · refine ⟨fun vs H Q E h => ?_, fun A outer s H args us vs Q E _ _ _ _ h => ?_⟩
      · obtain ⟨_, _, _, _, _, z⟩ := h; exact z.elim
      · obtain ⟨_, _, _, _, _, z⟩ := h; exact z.elim
    · refine ⟨fun vs H Q E h => ?_, fun A outer s H args us vs Q E _ _ _ _ h => ?_⟩
      · obtain ⟨_, _, _, _, _, _, _, _, _, _, _, _, _, _, _, z, _⟩ := h; exact z.elim
      · obtain ⟨_, _, _, _, _, _, _, _, _, _, _, _, _, _, _, z, _⟩ := h; exact z.elim
  | succ n ih =>
    intro j x hj
    obtain ⟨fd, U⟩ := hU j x hj
    obtain ⟨d, hd, hc⟩ := hds j x hj
    refine ⟨fd, U, ?_⟩
    have e : sem ds (n + 1) j = runDef (sem ds n) d := by
      funext as
      show (match ds[j]? with | some d => runDef (sem ds n) d as | none => M.bad) = _
      rw [hd]
    rw [e]
    exact def_ok hc U (fun c h => hcl j x c hj h) (hlm j x fd hj U) (hf n ih)
end
end Lk
end

section
/-! G3: what is looked up behind the top, and the facts that follow. -/
set_option Elab.async false
set_option linter.all false
set_option maxRecDepth 100000
set_option maxHeartbeats 2000000
namespace Lk
open PySem PySem.Spec PyProof.Rows L2 SlX LamX
/-- the __init__ of an error with a field, as it stands in the text -/
structure SX where
  c : Nat
  name : Str
  qual : Str
  params : Arguments
  scope : Scope
  tx : Str
  j : Nat
  ps : List Pos
def SX.body (x : SX) (fl par : Str) : List Stmt := supBody x.tx fl par x.j (x.ps.getD 0 default) (x.ps.getD 1 default) (x.ps.getD 2 default) (x.ps.getD 3 default) (x.ps.getD 4 default) (x.ps.getD 5 default) (x.ps.getD 6 default) (x.ps.getD 7 default) (x.ps.getD 8 default) (x.ps.getD 9 default)
structure Law where
  cn : List Str
  sl : List (List Str)
  en : List Str
  ef : List (Option (Str × Str))
  defs : List DX
  sups : List SX := []
  askd : List DX := []
  G : Gt
section
variable (L : Law) (P : Program) (K : PySem.W.Frag)
def Law.T (c : Nat) : Addr := He.ga K (L.cn.getD c "")
/-- the code object of a def and its table -/
def codeTab (x : DX) : Option (Addr × Addr) := match K.lookup (x.at_.adr K) with
  | some ⟨_, _, .func fd, _⟩ => (match fd.code with
    | .ref c => (match K.lookup c with
      | some ⟨_, _, .fields vs, _⟩ => (match (vs[11]? : Option Value) with
        | some (Value.ref P) => some (c, P)
        | _ => none)
      | _ => none)
    | _ => none)
  | _ => none
def lamQ (x : DX) : Str := (x.qual ++ ".<locals>.") ++ "<lambda>"
def Law.cs : List (Addr × Addr) := L.defs.filterMap fun x => match x.lam with
  | true => codeTab K x
  | false => none
def Law.tabs : List (Addr × Str) := L.defs.filterMap fun x => match x.lam with
  | true => (codeTab K x).map fun p => (p.2, lamQ x)
  | false => none
def Law.ty (w : World) : Ty := ⟨L.T K, w, L.tabs K⟩
def Law.E (c : Nat) : Addr := He.ga K (L.en.getD c "")
def Law.fl (c : Nat) : Option Str := (L.ef.getD c none).map (·.1)
def Law.Z : Xs := ⟨L.E K, L.fl⟩
def Law.slots (c : Nat) : List Str := L.sl.getD c []
def gloB (x : Str) : Bool := He.eqO (PySem.W.nsIn K mainGlobals x) (some (some (.ref (He.ga K x))))
def freeB (x : Str) : Bool := He.eqO (PySem.W.nsIn K mainGlobals x) (some none)
def sclsB (C : Addr) : Bool := PySem.W.plainGet K C Str.empty && PySem.W.isClsIn K C && PySem.W.plainOver K C && He.eqO (PySem.W.findIn K (.ref C) "__setattr__") (some (some (.builtin "object.__setattr__")))
def sisiB (C : Addr) : Bool := He.eqO (PySem.W.findIn K (.ref C) "__class__") (some (some (.builtin "object.__class__"))) && He.eqO (PySem.W.specialIn K (.builtin "object.__class__") "__get__") (some (some (.builtin "getset_descriptor.__get__"))) &&
  PySem.W.takesIn K (.builtin "object.__class__") == some true && PySem.W.mroIn K C (.type "object") == some true
def slotB (C : Addr) (f : Str) (i : Nat) : Bool := He.eqO (PySem.W.findIn K (.ref C) f) (some (some (.ref (He.ma K C f)))) && He.eqO (PySem.W.specialIn K (.ref (He.ma K C f)) "__get__") (some (some (.builtin "member_descriptor.__get__"))) &&
  PySem.W.takesIn K (.ref (He.ma K C f)) == some true && decide (PySem.W.typeIn K (.ref (He.ma K C f)) = some (.type "member_descriptor")) && PySem.W.slotIn K (He.ma K C f) C == some i && decide (i < 1000)
def clsB (c : Nat) : Bool := gloB K (L.cn.getD c "") && sclsB K (L.T K c) && sisiB K (L.T K c) &&
  (tyNames.all fun t => PySem.W.kitOne K (.type t) (.ref (L.T K c)) == some false) && (["int", "bool", "str", "tuple", "list", "dict"].all fun t => PySem.W.kitOne K (.ref (L.T K c)) (.type t) == some false) &&
  ((List.range L.G.ncl).all fun e => PySem.W.kitOne K (.ref (L.T K c)) (.ref (L.T K e)) == some (e == c)) && ((List.range (L.slots c).length).all fun i => match (L.slots c)[i]? with | some f => slotB K (L.T K c) f i | none => true)
/-- a def that is called by its parameters alone -/
def DX.simple (x : DX) : Bool := x.dfl.isEmpty && x.kwd.isEmpty && x.params.kwonlyargs.isEmpty
def defAt (j : Nat) (l : Loc) (i : Option Nat) : Bool := match L.defs[j]? with
  | some x => decide (x.at_ = l) && (x.ini == i)
  | none => false
def defSm (j : Nat) : Bool := match L.defs[j]? with
  | some x => x.simple
  | none => false
def attB (f : Str) (q : Nat × Att) : Bool := decide (q.1 < L.G.ncl) && match q.2 with
  | .slot i => (L.slots q.1)[i]? == some f
  | .prop j => defAt L j (.prop (L.cn.getD q.1 "") f) none && defSm L j && He.eqO (PySem.W.findIn K (.ref (L.T K q.1)) f) (some (some (.ref (He.ma K (L.T K q.1) f)))) && He.eqO (PySem.W.specialIn K (.ref (He.ma K (L.T K q.1) f)) "__get__") (some (some (.builtin "property.__get__"))) &&
    PySem.W.takesIn K (.ref (He.ma K (L.T K q.1) f)) == some true && match PySem.W.recIn K (He.ma K (L.T K q.1) f) "property" with
      | some (.ref _ :: _) => true
      | _ => false
def mkB (x : Str) (c j : Nat) : Bool := L.cn[c]? == some x && decide (c < L.G.ncl) && defAt L j (.meth x "__init__") (some c) && PySem.W.makesIn K (L.T K c) && He.eqO (PySem.W.findIn K (.ref (L.T K c)) "__init__") (some (some (.ref (He.ma K (L.T K c) "__init__")))) &&
  PySem.W.isFn K (.ref (He.ma K (L.T K c) "__init__")) && PySem.W.keepIn K (.ref (L.T K c))
def conB (x : Str) : D → Bool
  | .int i => (match PySem.W.nsIn K mainGlobals x with
    | some (some (.int j _)) => decide (j = i)
    | _ => false)
  | .str z => (match PySem.W.nsIn K mainGlobals x with
    | some (some (.str y _)) => decide (y.cps.toList = z)
    | _ => false)
  | _ => false
def eqB (q : Nat × Nat) : Bool := decide (q.1 < L.G.ncl) && defAt L q.2 (.meth (L.cn.getD q.1 "") "__eq__") none && defSm L q.2 && He.eqO (PySem.W.findIn K (.ref (L.T K q.1)) "__eq__") (some (some (.ref (He.ma K (L.T K q.1) "__eq__")))) && PySem.W.isFn K (.ref (He.ma K (L.T K q.1) "__eq__")) &&
  He.eqO (PySem.W.findIn K (.ref (L.T K q.1)) "__ne__") (some (some (.builtin "object.__ne__"))) && PySem.W.mroIn K (L.T K q.1) (.type "object") == some true && (tyNames.all fun t => PySem.W.notFirst K (L.T K q.1) (.type t)) && (L.G.eqs.all fun e => PySem.W.notFirst K (L.T K q.1) (.ref (L.T K e.1)))
def errB (x : Str) (c : Nat) : Bool := L.en[c]? == some x && (L.ef.getD c none).isNone && gloB K x && PySem.W.excIn K (L.E K c) [.type "ValueError", .type "Exception", .type "BaseException", .type "object"] "ValueError.__new__" && PySem.W.keepIn K (.ref (L.E K c)) &&
  PySem.W.subIn K (.ref (L.E K c)) (.type "BaseException") == some true && decide (PySem.W.typeIn K (.ref (L.E K c)) = some (.type "type"))
def hanB (x : Str) (yes no : List Nat) : Bool := gloB K x && (yes.all fun c => PySem.W.exmOne K (.ref (L.E K c)) (.ref (He.ga K x)) == some true) && no.all fun c => PySem.W.exmOne K (.ref (L.E K c)) (.ref (He.ga K x)) == some false
def fldB (x f : Str) (c : Nat) (no : List Nat) : Bool := L.en[c]? == some x && gloB K x && PySem.W.exmOne K (.ref (L.E K c)) (.ref (L.E K c)) == some true && (no.all fun e => PySem.W.exmOne K (.ref (L.E K e)) (.ref (L.E K c)) == some false) && xfB K (L.E K c) && He.eqO (PySem.W.findIn K (.ref (L.E K c)) f) (some none) && L.fl c == some f
def oexB (C : Addr) : Bool := (match K.lookup C with
  | some ⟨.type "type", _, .cls cd, sl⟩ => (match cd.mro, sl.toList with
    | .ref C' :: bm, [_, _, _, _, some (.builtin n), _] => C' == C && n == "ValueError.__new__" && !cd.hasDel && cd.hasDict && PySem.HandSPX.refsVE bm
    | _, _ => false)
  | _ => false) && He.eqO (PySem.W.findIn K (.ref C) "__setattr__") (some (some (.builtin "object.__setattr__"))) && PySem.W.subIn K (.ref C) (.type "BaseException") == some true && decide (PySem.W.typeIn K (.ref C) = some (.type "type")) && PySem.W.keepIn K (.ref C)
def fileIn (cda : Addr) : Option Str := match K.lookup cda with
  | some ⟨_, _, .fields vs, _⟩ => (match (vs[2]? : Option Value) with
    | some (Value.str file _) => some file
    | _ => none)
  | _ => none
def cellIn (cc : Addr) : Option Addr := match K.lookup cc with
  | some ⟨_, _, .cell (some (.ref C')), _⟩ => some C'
  | _ => none
def supM (C : Addr) (qual : Str) (cl : List (Str × Addr)) (cd df : Value) : Bool := match cl, cd, df with
  | [(nm, cc)], .ref cda, .none => nm == ("__class__" : Str) && PySem.W.codeIn K (.ref cda) qual && fileIn K cda == some (P.main.file : Str) && cellIn K cc == some C
  | _, _, _ => false
/-- a def of an error with a field -/
def supB (C : Addr) (x : SX) (fl par : Str) : Bool := (match K.lookup (He.ma K C "__init__") with
  | some ⟨_, _, .func fd, _⟩ => supM P K C x.qual fd.closure fd.code fd.defaults
  | _ => false) && oexB K C && decide (par ≠ "self") && !(par == ("__debug__" : Str)) && PySem.W.mroIn K C (.ref C) == some true && (P.main.scope.names.lookup ("super" : Str)).isNone && freeB K "super" &&
  He.eqO (PySem.W.ks_superIn K C C "__init__") (some (some (.builtin "ValueError.__init__"))) && PySem.W.subIn K (.ref C) (.type "ValueError") == some true && He.eqO (PySem.W.nsIn K cStatics "thirdparty.any") (some none) && He.eqO (PySem.W.findIn K (.ref C) fl) (some none) &&
  He.eqO (PySem.W.findIn K (.ref C) "__init__") (some (some (.ref (He.ma K C "__init__")))) && decide (PySem.W.typeIn K (.ref (He.ma K C "__init__")) = some (.type "function")) &&
  (match (x.params.posonlyargs ++ x.params.args).head? with | some ar => ar.arg == ("self" : Str) | none => false) && decide (x.scope.names.lookup ("super" : Str) = some .globalImplicit) && decide (x.scope.names.lookup ("__class__" : Str) = some .free) && decide (x.scope.names.lookup ("self" : Str) = some .local) && decide (x.scope.names.lookup par = some .local) &&
  (x.scope.names.all fun y => y.2 != .cell) && !x.scope.isCoroutine && !x.scope.isGenerator && x.scope.kind == .function && ((x.ps.getD 2 default).endLine == (x.ps.getD 4 default).line)
def eriB (x : Str) (c : Nat) : Bool := L.en[c]? == some x && gloB K x && match L.ef.getD c none, L.sups.find? (fun s => s.c == c) with
  | some (fl, par), some s => supB P K (L.E K c) s fl par
  | _, _ => false
def dxB (x : DX) : Bool := PySem.W.keepIn K (.ref (x.at_.adr K)) && (match K.lookup (x.at_.adr K) with
  | some ⟨_, _, .func fd, _⟩ => PySem.W.codeIn K fd.code x.qual && (He.dflB K fd.defaults (x.dvs K) && He.kwdB K fd.kwdefaults (x.kws K))
  | _ => false) && (match x.ini with
  | some c => decide (c < L.G.ncl)
  | none => true)
def Law.ok : Bool := (L.defs.all fun x => dxB L K x) && ((List.range L.G.ncl).all fun c => clsB L K c) && (L.G.clss.all fun q => decide (q.2 < L.G.ncl) && L.cn[q.2]? == some q.1) && (L.G.atts.all fun q => q.2.all fun t => attB L K q.1 t) &&
  (L.G.maks.all fun q => mkB L K q.1.1 q.2.1 q.2.2.1 && defSm L q.2.2.1 && q.2.2.2.isEmpty) && (L.G.makk.all fun q => mkB L K q.1.1 q.2.1 q.2.2) && (L.G.defs.all fun q => defAt L q.2.1 (.fn q.1.1) none && defSm L q.2.1 && gloB K q.1.1 && q.2.2.isEmpty) &&
  (L.G.cons.all fun q => conB K q.1 q.2) && (L.G.blts.all fun x => freeB K x) && (L.G.eqs.all fun q => eqB L K q) && (L.G.errs.all fun q => errB L K q.1 q.2) && (L.G.erri.all fun q => eriB L P K q.1 q.2) && (L.G.hans.all fun q => hanB L K q.1 q.2.1 q.2.2) && L.G.flds.all fun q => fldB L K q.1.1 q.1.2 q.2.1 q.2.2
def binNames : List String := ["add", "sub", "mul", "matmul", "truediv", "mod", "pow", "lshift", "rshift", "or", "xor", "and", "floordiv"]
theorem binNames_of (op : Operator) : op.info.2 ∈ binNames := by cases op <;> decide
def binB (C : Addr) (nm : String) : Bool := PySem.W.selfFirst K C && (match PySem.W.findIn K (.ref C) (PySem.dunderR nm) with
  | some none => true
  | some (some (.ref _)) => true
  | _ => false) && tyNames.all fun t => (PySem.W.findIn K (.type t) (PySem.dunder nm)).isSome && (PySem.W.findIn K (.type t) (PySem.dunderR nm)).isSome && PySem.W.subIn K (.type t) (.ref C) == some false
def revB (C : Addr) : Bool := PySem.W.selfFirst K C && (match PySem.W.findIn K (.ref C) (PySem.dunder "mul") with
  | some (some (.ref _)) => true
  | _ => false) && PySem.W.mroIn K C (.type "int") == some false
def ltB (C : Addr) (tb : List (Nat × Nat)) : Bool := (tyNames.all fun t => PySem.W.notFirst K C (.type t)) && tb.all fun e => PySem.W.notFirst K C (.ref (L.T K e.1))
def opB1 (nm : String) (tb : List (Nat × Nat)) (q : Nat × Nat) : Bool := decide (q.1 < L.G.ncl) && defAt L q.2 (.meth (L.cn.getD q.1 "") (PySem.dunder nm)) none && defSm L q.2 && He.eqO (PySem.W.findIn K (.ref (L.T K q.1)) (PySem.dunder nm)) (some (some (.ref (He.ma K (L.T K q.1) (PySem.dunder nm))))) && PySem.W.isFn K (.ref (He.ma K (L.T K q.1) (PySem.dunder nm))) &&
  (!binNames.contains nm || binB K (L.T K q.1) nm) && (!(nm == "lt" || nm == "le") || ltB L K (L.T K q.1) tb) && (!(nm == "getitem") || PySem.W.fnIn K (He.ma K (L.T K q.1) (PySem.dunder nm))) && (!(nm == "rmul") || revB K (L.T K q.1))
def tabHd (c P : Addr) : Bool := match K.lookup c with
  | some ⟨.type t, _, .fields vs, _⟩ => t == "code" && !(c == P) && (K.lookup P).isNone && (match (vs[11]? : Option Value), vs.getD 18 Value.none, vs.getD 7 Value.none, vs.getD 9 Value.none, vs.getD 10 Value.none with
    | some (.ref P'), .str _ _, .int _ _, .bool _, .int _ _ => P' == P
    | _, _, _, _, _ => false)
  | _ => false
def lamB (x : DX) : Bool := !x.lam || (match codeTab K x with
  | some (c, P) => tabHd K c P
  | none => false)
def askdB (x : DX) : Bool := dxB L K x && gloB K x.name && decide (x.at_ = .fn x.name) && x.qual == x.name && x.simple && x.ini.isNone
def Law.ok2 : Bool := (L.G.ops.all fun q => q.2.all fun t => opB1 L K q.1 q.2 t) && (L.defs.all fun x => lamB K x) && (L.askd.all fun x => askdB L K x) && (L.tabs K).all fun p => (L.tabs K).all fun q => !(p.1 == q.1) || p.2 == q.2
end
abbrev FnWs : Type := Option (Str × Str × Arguments × FuncBody × Scope × Addr × List Str × Addr)
def fnX (K : PySem.W.Frag) (a : Addr) : He.FnW := match K.lookup a with
  | some ⟨_, _, .func fd, _⟩ => some (fd.name, fd.qualname, fd.params, fd.body, fd.scope, fd.globals, fd.closure, fd.builtins)
  | _ => none
def fnS (K : PySem.W.Frag) (a : Addr) : FnWs := match K.lookup a with
  | some ⟨_, _, .func fd, _⟩ => some (fd.name, fd.qualname, fd.params, fd.body, fd.scope, fd.globals, fd.closure.map (·.1), fd.builtins)
  | _ => none
def DX.val (d : DX) : He.FnW := some (d.name, d.qual, d.params, .stmts d.body, d.scope, mainGlobals, [], builtinsNs)
def SX.val (L : Law) (x : SX) : FnWs := match L.ef.getD x.c none with
  | some (fl, par) => some (x.name, x.qual, x.params, .stmts (x.body fl par), x.scope, mainGlobals, ["__class__"], builtinsNs)
  | none => none
abbrev AlX : Type := Bool × List He.FnW × List FnWs
def obsX (L : Law) (P : Program) (K : PySem.W.Frag) : AlX := (L.ok P K && L.ok2 K, (L.defs ++ L.askd).map fun x => fnX K (x.at_.adr K), L.sups.map fun x => fnS K (He.ma K (L.E K x.c) "__init__"))
def valX (L : Law) : AlX := (true, (L.defs ++ L.askd).map DX.val, L.sups.map (SX.val L))
def asX (g : Addr → Option Obj) (n : Nat) : List Addr := He.asD g n ++ [cStatics]
def tabO : Option Obj → Bool
  | some ⟨.none, none, .fields ⟨[]⟩, ⟨[]⟩⟩ => true
  | _ => false
def KX0 (n : Nat) (g : Addr → Option Obj) : PySem.W.Frag := He.frG g (asX g n)
/-- without the tables -/
def asT (n : Nat) (L : Law) (g : Addr → Option Obj) : List Addr := match L.cs (KX0 n g) with
  | [] => asX g n
  | cs => (asX g n).filter fun a => !(cs.map (·.2)).contains a
def KX1 (n : Nat) (L : Law) (g : Addr → Option Obj) : PySem.W.Frag := He.frG g (asT n L g)
def tabsG (L : Law) (K : PySem.W.Frag) (g : Addr → Option Obj) : Bool := (L.cs K).all fun p => tabO (g p.2)
def obsXG (n : Nat) (L : Law) (P : Program) (g : Addr → Option Obj) : AlX × Bool := (obsX L P (KX1 n L g), tabsG L (KX1 n L g) g)
/-- what the head says -/
def SaysX (L : Law) (P : Program) (h : Heap) : Prop := ∃ K : PySem.W.Frag, K.In h ∧ obsX L P K = valX L ∧ ∀ p ∈ L.cs K, h.get? p.2 = some { cls := .none, data := .fields #[] }
theorem tabO_ok {o : Option Obj} (h : tabO o = true) : o = some { cls := .none, data := .fields #[] } := by
  unfold tabO at h
  split at h
  · rfl
  · cases h
def hookX (n : Nat) (L : Law) (P : Program) : PySem.W.Hook where
  α := AlX × Bool
  obs := fun s => obsXG n L P s.heap.get?
  val := fun _ => (valX L, true)
  says := fun _ h => SaysX L P h
  of := fun _ _ e => ⟨_, He.frG_in, congrArg (·.1) e, fun p hp => tabO_ok (List.all_eq_true.mp (congrArg (·.2) e) p hp)⟩
  keeps := fun _ _ _ ⟨K, hK, c, t⟩ k => ⟨K, PySem.W.Frag.In.keeps hK k, c, fun p hp => k _ _ (t p hp)⟩
theorem obsXG_eq {n : Nat} {L : Law} {P : Program} {g : Addr → Option Obj} {s : Shared} (h : ∀ a, g a = s.heap.get? a) : obsXG n L P g = (hookX n L P).obs s := by
  have e : g = s.heap.get? := funext h
  rw [e] <;> rfl
section
variable {L : Law} {P : Program} {K : PySem.W.Frag}
theorem lookup_in {α β : Type} [BEq α] [LawfulBEq α] {l : List (α × β)} {a : α} {b : β} (h : l.lookup a = some b) : (a, b) ∈ l := by
  induction l with
  | nil => cases h
  | cons q l ih =>
    obtain ⟨x, y⟩ := q
    rw [List.lookup_cons] at h
    by_cases e : a = x
    · subst e
      simp at h
      subst h
      exact List.mem_cons_self
    · have : (a == x) = false := by simpa using e
      rw [this] at h
      exact List.mem_cons_of_mem _ (ih h)
theorem scls_of {C : Addr} (h : sclsB K C = true) : SCls K C := by
  unfold sclsB at h
  simp only [Bool.and_eq_true] at h
  exact ⟨h.1.1.1, h.1.1.2, h.1.2, He.eqO_ok h.2⟩
theorem sisi_of {C : Addr} (h : sisiB K C = true) : SIsi K C := by
  unfold sisiB at h
  simp only [Bool.and_eq_true] at h
  exact ⟨He.eqO_ok h.1.1.1, He.eqO_ok h.1.1.2, eq_of_beq h.1.2, eq_of_beq h.2⟩
theorem slot_of {C : Addr} {f : Str} {i : Nat} (h : slotB K C f i = true) : Slot1 K C f (He.ma K C f) i := by
  unfold slotB at h
  simp only [Bool.and_eq_true, decide_eq_true_eq] at h
  exact ⟨He.eqO_ok h.1.1.1.1.1, He.eqO_ok h.1.1.1.1.2, eq_of_beq h.1.1.1.2, h.1.1.2, eq_of_beq h.1.2, h.2⟩
theorem oex_of {C : Addr} (h : oexB K C = true) : OexC K C := by
  unfold oexB at h
  simp only [Bool.and_eq_true, decide_eq_true_eq] at h
  refine ⟨?_, He.eqO_ok h.1.1.1.2, eq_of_beq h.1.1.2, h.1.2, h.2⟩
  have q := h.1.1.1.1
  split at q
  · rename_i dd cd sl ho
    split at q
    · rename_i C' bm k0 k1 k2 k3 n k5 hm hs
      simp only [Bool.and_eq_true, beq_iff_eq, Bool.not_eq_true'] at q
      obtain ⟨⟨⟨⟨rfl, rfl⟩, hdel⟩, hhd⟩, hr⟩ := q
      obtain ⟨nm, bs, mro, ns, qn, hd, sn, sub, ab, col, del⟩ := cd
      dsimp only at hm hdel hhd
      subst hm hdel hhd
      have hsl : sl = #[k0, k1, k2, k3, some (.builtin "ValueError.__new__"), k5] := by
        obtain ⟨l⟩ := sl
        simp only at hs
        rw [hs]
      subst hsl
      exact ⟨nm, qn, ns, bs, bm, sn, sub, ab, col, dd, k0, k1, k2, k3, k5, ho, hr⟩
    · cases q
  · cases q
/-- a def of the table -/
theorem fun_of {x : DX} (e : fnX K (x.at_.adr K) = x.val) (c : dxB L K x = true) : ∃ fd, FunD K x.name x.qual x.params x.body x.scope (x.dvs K) (x.kws K) (x.at_.adr K) fd := by
  unfold dxB at c
  simp only [Bool.and_eq_true] at c
  obtain ⟨⟨kp, c2⟩, _⟩ := c
  unfold fnX at e
  cases q : K.lookup (x.at_.adr K) with
  | none => rw [q] at c2; cases c2
  | some o =>
    obtain ⟨oc, od, dt, osl⟩ := o
    rw [q] at c2 e
    cases dt with
    | func fd =>
      obtain ⟨n1, n2, n3, n4, n5, n6, n7, n8, n9, n10, n11, n12, n13, n14, n15⟩ := fd
      have e2 : (some (n1, n2, n3, n4, n5, n6, n7, n15) : He.FnW) = some (x.name, x.qual, x.params, .stmts x.body, x.scope, mainGlobals, [], builtinsNs) := e
      simp only [Option.some.injEq, Prod.mk.injEq] at e2
      obtain ⟨h1, h2, h3, h4, h5, h6, h7, h8⟩ := e2
      subst h1 h2 h3 h4 h5 h6 h7 h8
      simp only [Bool.and_eq_true] at c2
      exact ⟨_, ⟨oc, od, n8, n9, n10, n11, n12, n13, n14, osl, rfl, q, c2.1, He.dflB_ok c2.2.1, He.kwdB_ok c2.2.2⟩, kp⟩
    | _ => cases c2
/-- an error with a field -/
theorem sup_of {mg : Str → Option Value} {C : Addr} {x : SX} {fl par : Str} (hmg : mg "super" = none) (e : fnS K (He.ma K C "__init__") = (some (x.name, x.qual, x.params, FuncBody.stmts (x.body fl par), x.scope, mainGlobals, ["__class__"], builtinsNs) : FnWs)) (c : supB P K C x fl par = true) :
    ∃ fd dV kV doc pm an cdv ct cc, fd = PySem.W.ksFn x.name x.qual x.params (x.body fl par) x.scope dV kV doc pm an cdv ct cc ∧ dV = Value.none ∧ SupF P K mg C (He.ma K C "__init__") fl par fd ∧ PySem.W.findIn K (.ref C) "__init__" = some (some (.ref (He.ma K C "__init__"))) ∧ PySem.W.typeIn K (.ref (He.ma K C "__init__")) = some (.type "function") := by
  unfold supB at c
  simp only [Bool.and_eq_true, decide_eq_true_eq, Bool.not_eq_true'] at c
  obtain ⟨⟨⟨⟨⟨⟨⟨⟨⟨⟨⟨⟨⟨⟨⟨⟨⟨⟨⟨⟨⟨⟨c0, c1⟩, c2⟩, c3⟩, c4⟩, c5⟩, c6⟩, c7⟩, c8⟩, c9⟩, c10⟩, c11⟩, c12⟩, c13⟩, c14⟩, c15⟩, c16⟩, c17⟩, c18⟩, c19⟩, c20⟩, c21⟩, c22⟩ := c
  unfold fnS at e
  cases q : K.lookup (He.ma K C "__init__") with
  | none => rw [q] at c0; cases c0
  | some o =>
    obtain ⟨oc, od, dt, osl⟩ := o
    rw [q] at c0 e
    cases dt with
    | func fd =>
      obtain ⟨n1, n2, n3, n4, n5, n6, n7, n8, n9, n10, n11, n12, n13, n14, n15⟩ := fd
      have e2 : (some (n1, n2, n3, n4, n5, n6, n7.map (·.1), n15) : FnWs) = (some (x.name, x.qual, x.params, FuncBody.stmts (x.body fl par), x.scope, mainGlobals, ["__class__"], builtinsNs) : FnWs) := e
      simp only [Option.some.injEq, Prod.mk.injEq] at e2
      obtain ⟨h1, h2, h3, h4, h5, h6, h7, h8⟩ := e2
      subst h1 h2 h3 h4 h5 h6 h8
      have c0' : supM P K C x.qual n7 n13 n8 = true := c0
      clear c0
      unfold supM at c0'
      split at c0'
      · rename_i nm cc cda
        simp only [Bool.and_eq_true] at c0'
        obtain ⟨⟨⟨d1, d2⟩, d3⟩, d4⟩ := c0'
        have en := eq_of_beq d1
        subst en
        have f1 : ∃ ccl cdd vs ccs file tf, K.lookup cda = some ⟨ccl, cdd, .fields vs, ccs⟩ ∧ vs[2]? = some (.str file tf) ∧ ((P.main.file : Str) == file) = true := by
          unfold fileIn at d3
          split at d3
          · rename_i a1 a2 vs a3 hl
            split at d3
            · rename_i file tf hv
              have := eq_of_beq d3
              exact ⟨_, _, _, _, file, tf, hl, hv, by rw [Option.some.inj this]; exact beq_self_eq_true _⟩
            · exact absurd d3 (by simp)
          · exact absurd d3 (by simp)
        have f2 : ∃ cl cld csl, K.lookup cc = some ⟨cl, cld, .cell (some (.ref C)), csl⟩ := by
          unfold cellIn at d4
          split at d4
          · rename_i a1 a2 C' a3 hl
            have := eq_of_beq d4
            rw [Option.some.inj this] at hl
            exact ⟨_, _, _, hl⟩
          · exact absurd d4 (by simp)
        obtain ⟨ccl, cdd, vs, ccs, file, tf, g1, g2, g3⟩ := f1
        obtain ⟨cl, cld, csl, g4⟩ := f2
        have f3 : ∃ ar, (x.params.posonlyargs ++ x.params.args).head? = some ar ∧ ar.arg = "self" := by
          split at c13
          · rename_i ar har
            exact ⟨ar, har, eq_of_beq c13⟩
          · cases c13
        obtain ⟨ar, g5, g6⟩ := f3
        refine ⟨_, .none, n9, n10, n11, n12, .ref cda, n14, cc, rfl, rfl, ⟨⟨x.name, x.qual, x.params, x.scope, .none, n9, n10, n11, n14, oc, ccl, cl, n12, od, cdd, cld, osl, ccs, csl, cda, cc, vs, file, tf, ar, x.tx, x.j, _, _, _, _, _, _, _, _, _, _, rfl, c22, q, d2, g5, g6, g1, g2, g3, g4, c14, c15, c16, c17, fun y hy z => ?_, c19, c20, eq_of_beq c21⟩, oex_of c1, c2, c3, eq_of_beq c4, ?_, hmg, He.eqO_ok c7, eq_of_beq c8, He.eqO_ok c9, He.eqO_ok c10⟩, He.eqO_ok c11, c12⟩
        · have := List.all_eq_true.mp c18 y hy
          rw [z] at this
          exact absurd this (by decide)
        · have : (List.lookup (Str.ofString "super") P.main.scope.names) = none := Option.isNone_iff_eq_none.mp c5
          rw [this]; rfl
      · cases c0'
    | _ => cases c0
end
end Lk
end

section
/-! G4: the facts from what was looked up. -/
set_option Elab.async false
set_option linter.all false
set_option maxRecDepth 100000
set_option maxHeartbeats 2000000
namespace Lk
open PySem PySem.Spec PyProof.Rows L2 SlX LamX
/-! the defs that are handed lambdas -/
def conE : Expr → Option D
  | .Constant c _ _ => match c with
    | .int i => some (.int i)
    | .bool b => some (.bl b)
    | .none => some .non
    | .str x => some (.str x.cps.toList)
    | _ => none
  | _ => none
def hdsOf (G : Gt) (sc : Scope) : List ExceptHandler → Option (List (List Nat × List Nat × Option D))
  | [] => some []
  | .ExceptHandler (some (.Name x _)) none [.Return (some e) _] _ :: r => match okName x && isGlob sc x, G.hans.lookup x, conE e, hdsOf G sc r with
    | true, some (yes, no), some d, some hs => some ((yes, no, some d) :: hs)
    | _, _, _, _ => none
  | _ => none
def askOf (G : Gt) (x : DX) : Option (Nat × XE × List (List Nat × List Nat × Option D)) := match x.body with
  | [.Try [.Assign [.Name v _] (.Call (.Name a _) [] [] _) _, .Return (some e) _] (hd :: hds) [] [] _] => match scOk x.N [a] x.scope && decide (x.ps = [a]) && x.N[0]? == some a && x.N[1]? == some v && okName a && isVis x.scope a && x.scope.names.lookup v == some .local, hdsOf G x.scope (hd :: hds), ce G.bare x.N 60 x.scope e with
    | true, some hs, some r => some (x.N.length - 2, r, hs)
    | _, _, _ => none
  | _ => none
def asksOf (G : Gt) (l : List DX) : List (Str × (Nat × XE × List (List Nat × List Nat × Option D))) := l.filterMap fun x => (askOf G x).map fun q => (x.name, q)
theorem conE_ok {e : Expr} {d : D} (h : conE e = some d) : ∃ v, conV d = some v ∧ ∀ Y : Cx, PE Y e (fun _ H Q => Q v H) := by
  unfold conE at h
  split at h
  · split at h
    · cases h; exact ⟨_, rfl, fun _ => pe_int⟩
    · cases h; exact ⟨_, rfl, fun _ => pe_bl⟩
    · cases h; exact ⟨_, rfl, fun _ => pe_non⟩
    · cases h
      refine ⟨_, rfl, fun Y => ?_⟩
      exact PEw pe_str fun σ H Q q => by
        simp only [Array.toArray_toList] at q
        exact q
    · cases h
  · cases h
theorem hdsOf_ok {G : Gt} {X : Cx} {Z : Xs} {Ng : List Str} {sg : Scope} (han : ∀ x yes no, G.hans.lookup x = some (yes, no) → ∃ C, X.mg x = some C ∧ (∀ c, yes.contains c = true → PySem.W.exmOne X.K (.ref (Z.adr c)) C = some true) ∧ ∀ c, no.contains c = true → PySem.W.exmOne X.K (.ref (Z.adr c)) C = some false) :
    ∀ {hds : List ExceptHandler} {hs : List (List Nat × List Nat × Option D)}, hdsOf G sg hds = some hs → ∃ l, HdA X Z Ng sg hds hs l
  | [], hs, h => by cases h; exact ⟨[], .nil⟩
  | hd :: hds, hs, h => by
    unfold hdsOf at h
    split at h
    · rename_i e; cases e
    · rename_i x np e pr pos r e0
      cases e0
      split at h
      · rename_i yes no d hs' h1 h2 h3 h4
        cases h
        simp only [Bool.and_eq_true] at h1
        obtain ⟨d1, _, _⟩ := okName_of h1.1
        have hg : sg.names.lookup x = some .globalImplicit := by
          have := h1.2
          unfold isGlob at this
          split at this
          · assumption
          · cases this
        obtain ⟨C, hm, hy, hn⟩ := han _ _ _ h2
        obtain ⟨v, hv, he⟩ := conE_ok h3
        obtain ⟨l, ih⟩ := hdsOf_ok han h4
        exact ⟨_, .cons hg d1 hm hy hn hv he ih⟩
      · cases h
    · cases h
theorem asks_in {G : Gt} : ∀ {l : List DX} {x : Str} {q : Nat × XE × List (List Nat × List Nat × Option D)}, (asksOf G l).lookup x = some q → ∃ y ∈ l, y.name = x ∧ askOf G y = some q
  | [], x, q, h => by cases h
  | y :: l, x, q, h => by
    unfold asksOf at h
    rw [List.filterMap_cons] at h
    cases hy : askOf G y with
    | none =>
      rw [hy] at h
      obtain ⟨z, h1, h2, h3⟩ := asks_in (l := l) h
      exact ⟨z, List.mem_cons_of_mem _ h1, h2, h3⟩
    | some p =>
      rw [hy] at h
      simp only [Option.map_some] at h
      rw [List.lookup_cons] at h
      by_cases e : x = y.name
      · subst e
        simp at h
        exact ⟨y, List.mem_cons_self, rfl, by rw [hy, h]⟩
      · have : (x == y.name) = false := by simpa using e
        rw [this] at h
        obtain ⟨z, h1, h2, h3⟩ := asks_in (l := l) h
        exact ⟨z, List.mem_cons_of_mem _ h1, h2, h3⟩
def AllB : List DX → Prop
  | [] => True
  | x :: r => (x.simple = true → BindP x.params x.ps) ∧ AllB r
theorem AllB.get : ∀ {l : List DX} {j : Nat} {x : DX}, AllB l → l[j]? = some x → x.simple = true → BindP x.params x.ps
  | [], _, _, _, h => by simp at h
  | y :: l, 0, x, a, h => by simp at h; subst h; exact a.1
  | y :: l, j + 1, x, a, h => AllB.get (l := l) (j := j) a.2 (by simpa using h)
/-- positional arguments come to the parameters of an error's __init__ -/
def BindS (x : SX) (par : Str) : Prop := ∀ (body : List Stmt) (kV doc pm : Value) (an : Option Addr) (cdv ct : Value) (cc : Addr) (us : List Value), us.length = 2 → bindArgs (PySem.W.ksFn x.name x.qual x.params body x.scope .none kV doc pm an cdv ct cc) ⟨us, []⟩ = pure ((["self", par] : List Str).zip us)
def AllS (L : Law) : List SX → Prop
  | [] => True
  | x :: r => (∀ fl par, L.ef.getD x.c none = some (fl, par) → BindS x par) ∧ AllS L r
theorem AllS.get {L : Law} : ∀ {l : List SX} {x : SX}, AllS L l → x ∈ l → ∀ fl par, L.ef.getD x.c none = some (fl, par) → BindS x par
  | [], _, _, h => by cases h
  | y :: l, x, a, h => by
    rcases List.mem_cons.mp h with e | h
    · rw [e]; exact a.1
    · exact AllS.get a.2 h
section
variable {L : Law} {P : Program} {w : World} {K : PySem.W.Frag} {mg : Str → Option Value} {base h : Heap} {ds : List Def} {n : Nat}
theorem simple_ps {x : DX} (hs : x.simple = true) : x.dvs K = [] := by
  unfold DX.simple at hs
  simp only [Bool.and_eq_true, List.isEmpty_iff] at hs
  unfold DX.dvs
  rw [hs.1.1]; rfl
theorem fnR_of {x : DX} {fd : FuncData} {k : Nat} {c : List D → M D} {T : Ty} {Z : Xs} (hB : BindP x.params x.ps) (hs : x.simple = true) (U : FunD K x.name x.qual x.params x.body x.scope (x.dvs K) (x.kws K) (x.at_.adr K) fd) (hi : x.ini = none) (hd : DefOk P w K mg base T Z k x fd c) : FnR P w K mg base (CX P w) k (x.at_.adr K) (spF K T Z c) := by
  intro A outer s H us vs Q E hr e0 r hsp
  unfold DefOk at hd
  rw [hi] at hd
  rw [simple_ps hs] at U
  have hl : us.length = x.ps.length := by rw [← r.length]; exact hd.len _ _ _ _ hsp
  exact hd.run A outer s H ⟨us, []⟩ us vs Q E hr e0 (bindsSA U hB s us hl) r hsp
theorem defAt_of {j : Nat} {l : Loc} {i : Option Nat} (h : defAt L j l i = true) : ∃ x, L.defs[j]? = some x ∧ x.at_ = l ∧ x.ini = i := by
  unfold defAt at h
  split at h
  · rename_i x hx
    simp only [Bool.and_eq_true, decide_eq_true_eq] at h
    exact ⟨x, hx, h.1, eq_of_beq h.2⟩
  · cases h
theorem defSm_of {j : Nat} {x : DX} (h : defSm L j = true) (hx : L.defs[j]? = some x) : x.simple = true := by
  unfold defSm at h
  rw [hx] at h
  exact h
theorem all_mem {α : Type} {p : α → Bool} {l : List α} (h : l.all p = true) {a : α} (ha : a ∈ l) : p a = true := List.all_eq_true.mp h a ha
structure Says (L : Law) (P : Program) (K : PySem.W.Frag) : Prop where
  dx : ∀ (j : Nat) (x : DX), L.defs[j]? = some x → ∃ fd, FunD K x.name x.qual x.params x.body x.scope (x.dvs K) (x.kws K) (x.at_.adr K) fd
  ini : ∀ (j : Nat) (x : DX) (c : Nat), L.defs[j]? = some x → x.ini = some c → c < L.G.ncl
  ax : ∀ x ∈ L.askd, (∃ fd, FunD K x.name x.qual x.params x.body x.scope (x.dvs K) (x.kws K) (x.at_.adr K) fd) ∧ askdB L K x = true
  ok : L.ok P K = true
  ok2 : L.ok2 K = true
  sup : ∀ s, s ∈ L.sups → fnS K (He.ma K (L.E K s.c) "__init__") = SX.val L s
theorem says_of (c : obsX L P K = valX L) : Says L P K := by
  have c0 : (L.ok P K && L.ok2 K) = true := congrArg (fun z : AlX => z.1) c
  have c1 : L.ok P K = true := by simp only [Bool.and_eq_true] at c0; exact c0.1
  have c4 : L.ok2 K = true := by simp only [Bool.and_eq_true] at c0; exact c0.2
  have c2 : (L.defs ++ L.askd).map (fun x => fnX K (x.at_.adr K)) = (L.defs ++ L.askd).map DX.val := congrArg (fun z : AlX => z.2.1) c
  have c3 : L.sups.map (fun x => fnS K (He.ma K (L.E K x.c) "__init__")) = L.sups.map (SX.val L) := congrArg (fun z : AlX => z.2.2) c
  have cd : ∀ (j : Nat) (x : DX), L.defs[j]? = some x → dxB L K x = true := fun j x hx => by
    have q := c1
    unfold Law.ok at q
    simp only [Bool.and_eq_true] at q
    exact all_mem q.1.1.1.1.1.1.1.1.1.1.1.1.1 (List.mem_of_getElem? hx)
  have val : ∀ x ∈ L.defs ++ L.askd, fnX K (x.at_.adr K) = DX.val x := fun x hx => by
    obtain ⟨i, hi⟩ := List.getElem?_of_mem hx
    have e : ((L.defs ++ L.askd).map fun x => fnX K (x.at_.adr K))[i]? = ((L.defs ++ L.askd).map DX.val)[i]? := by rw [c2]
    rw [List.getElem?_map, List.getElem?_map, hi] at e
    exact Option.some.inj e
  have ca : ∀ x ∈ L.askd, askdB L K x = true := fun x hx => by
    have q := c4
    unfold Law.ok2 at q
    simp only [Bool.and_eq_true] at q
    exact all_mem q.1.2 hx
  refine ⟨fun j x hx => fun_of (val x (List.mem_append_left _ (List.mem_of_getElem? hx))) (cd j x hx), fun j x c hx hc => ?_, fun x hx => ⟨fun_of (L := L) (val x (List.mem_append_right _ hx)) ?_, ca x hx⟩, c1, c4, fun s hs => ?_⟩
  · have q := cd j x hx
    unfold dxB at q
    simp only [Bool.and_eq_true] at q
    have q2 := q.2
    rw [hc] at q2
    simpa using q2
  · have q := ca x hx
    unfold askdB at q
    simp only [Bool.and_eq_true] at q
    exact q.1.1.1.1.1
  · obtain ⟨i, hi⟩ := List.getElem?_of_mem hs
    have e : (L.sups.map fun x => fnS K (He.ma K (L.E K x.c) "__init__"))[i]? = (L.sups.map (SX.val L))[i]? := by rw [c3]
    rw [List.getElem?_map, List.getElem?_map, hi] at e
    exact Option.some.inj e
theorem cls_fact (s : Says L P K) {c : Nat} (hc : c < L.G.ncl) : gloB K (L.cn.getD c "") = true ∧ SCls K (L.T K c) ∧ SIsi K (L.T K c) ∧ (∀ t ∈ tyNames, PySem.W.kitOne K (.type t) (.ref (L.T K c)) = some false) ∧ (∀ t ∈ ["int", "bool", "str", "tuple", "list", "dict"], PySem.W.kitOne K (.ref (L.T K c)) (.type t) = some false) ∧
    (∀ e, e < L.G.ncl → PySem.W.kitOne K (.ref (L.T K c)) (.ref (L.T K e)) = some (e == c)) ∧ ∀ i f, (L.slots c)[i]? = some f → ∃ p, Slot1 K (L.T K c) f p i := by
  have q := s.ok
  unfold Law.ok at q
  simp only [Bool.and_eq_true] at q
  have q1 := all_mem q.1.1.1.1.1.1.1.1.1.1.1.1.2 (List.mem_range.mpr hc)
  unfold clsB at q1
  simp only [Bool.and_eq_true] at q1
  obtain ⟨⟨⟨⟨⟨⟨g1, g2⟩, g3⟩, g4⟩, g5⟩, g6⟩, g7⟩ := q1
  refine ⟨g1, scls_of g2, sisi_of g3, fun t ht => eq_of_beq (all_mem g4 ht), fun t ht => eq_of_beq (all_mem g5 ht), fun e he => eq_of_beq (all_mem g6 (List.mem_range.mpr he)), fun i f hf => ?_⟩
  have hi : i < (L.slots c).length := (List.getElem?_eq_some_iff.mp hf).1
  have := all_mem g7 (List.mem_range.mpr hi)
  rw [hf] at this
  exact ⟨_, slot_of this⟩
theorem glo_mg (KX : K.In h) (Gm : h.Ns mainGlobals mg) {x : Str} (c : gloB K x = true) : mg x = some (.ref (He.ga K x)) := PySem.W.mg_of KX Gm (He.eqO_ok c)
theorem free_mg (KX : K.In h) (Gm : h.Ns mainGlobals mg) {x : Str} (c : freeB K x = true) : mg x = none := PySem.W.mg_none_of KX Gm (He.eqO_ok c)
theorem getD_of {α : Type} {l : List α} {i : Nat} {a d : α} (h : l[i]? = some a) : l.getD i d = a := by simp [List.getD, h]
theorem mk_fact (s : Says L P K) {x : Str} {c j : Nat} (hq : mkB L K x c j = true) : ∃ d, L.defs[j]? = some d ∧ d.at_ = .meth x "__init__" ∧ d.ini = some c ∧ L.cn.getD c "" = x ∧ c < L.G.ncl ∧ Mk K (L.T K c) (d.at_.adr K) := by
  unfold mkB at hq
  simp only [Bool.and_eq_true, decide_eq_true_eq] at hq
  obtain ⟨⟨⟨⟨⟨⟨h1, h2⟩, h3⟩, h4⟩, h5⟩, h6⟩, h7⟩ := hq
  obtain ⟨d, hd, ha, hi⟩ := defAt_of h3
  have e : L.cn.getD c "" = x := getD_of (d := ("" : Str)) (show L.cn[c]? = some x from eq_of_beq h1)
  refine ⟨d, hd, ha, hi, e, h2, ⟨h4, ?_, ?_, h7⟩⟩
  · rw [ha]
    show _ = some (some (Value.ref (He.ma K (He.ga K x) "__init__")))
    have := He.eqO_ok h5
    unfold Law.T at this ⊢
    rw [e] at this ⊢
    exact this
  · rw [ha]
    show PySem.W.isFn K (.ref (He.ma K (He.ga K x) "__init__")) = true
    unfold Law.T at h6
    rw [e] at h6
    exact h6
theorem facts_of (s : Says L P K) (KX : K.In h) (Gm : h.Ns mainGlobals mg) (hB : AllB L.defs) (hBa : AllB L.askd) (hA : L.G.asks = asksOf L.G L.askd) (hS : AllS L L.sups)
    (hKw : ∀ x m ks c j, L.G.makk.lookup (x, m, ks) = some (c, j) → ∀ d fd, L.defs[j]? = some d → FunD K d.name d.qual d.params d.body d.scope (d.dvs K) (d.kws K) (d.at_.adr K) fd → KBn K fd d.ps (m + 1) ks (fun us ws => us ++ ws) (fun vs zs => vs ++ zs))
    (ih : ∀ (j : Nat) (x : DX), L.defs[j]? = some x → ∃ fd, FunD K x.name x.qual x.params x.body x.scope (x.dvs K) (x.kws K) (x.at_.adr K) fd ∧ DefOk P w K mg base (L.ty K w) (L.Z K) (4 * n + 4) x fd (sem ds n j)) :
    ∀ X : Cx, X.prog = P → X.w = w → X.K = K → X.mg = mg → X.base = base → Facts L.G L.slots (4 * n + 4) ⟨L.ty K w, L.Z K, sem ds n, none⟩ X := by
  intro X e1 e2 e3 e4 e5
  subst e1 e2 e3 e4 e5
  have q := s.ok
  unfold Law.ok at q
  simp only [Bool.and_eq_true] at q
  obtain ⟨⟨⟨⟨⟨⟨⟨⟨⟨⟨⟨⟨⟨q1, q2⟩, q3⟩, q4⟩, q5⟩, q6⟩, q7⟩, q8⟩, q9⟩, q10⟩, q11⟩, q12⟩, q13⟩, q14⟩ := q
  have glo : ∀ {x : Str}, gloB X.K x = true → X.mg x = some (.ref (He.ga X.K x)) := fun c => glo_mg KX Gm c
  have adrE : ∀ {c : Nat} {x : Str}, (L.en[c]? == some x) = true → L.E X.K c = He.ga X.K x := fun {c x} hc => by
    unfold Law.E
    rw [getD_of (d := ("" : Str)) (show L.en[c]? = some x from eq_of_beq hc)]
  have p := s.ok2
  unfold Law.ok2 at p
  simp only [Bool.and_eq_true] at p
  obtain ⟨⟨⟨p1, p2⟩, p3⟩, p4⟩ := p
  have op1 : ∀ {nm : String} {c j : Nat}, (L.G.own nm).lookup c = some j → opB1 L X.K nm (L.G.own nm) (c, j) = true := fun {nm c j} hl => by
    unfold Gt.own at hl ⊢
    cases ho : L.G.ops.lookup nm with
    | none => rw [ho] at hl; cases hl
    | some tb =>
      rw [ho] at hl
      exact all_mem (all_mem p1 (lookup_in ho)) (lookup_in hl)
  have own : ∀ {nm : String} {c j : Nat}, (L.G.own nm).lookup c = some j → PySem.W.findIn X.K (.ref (L.T X.K c)) (PySem.dunder nm) = some (some (.ref (He.ma X.K (L.T X.K c) (PySem.dunder nm)))) ∧ PySem.W.isFn X.K (.ref (He.ma X.K (L.T X.K c) (PySem.dunder nm))) = true ∧
      FnR X.prog X.w X.K X.mg X.base (CX X.prog X.w) (4 * n + 4) (He.ma X.K (L.T X.K c) (PySem.dunder nm)) (spF X.K (L.ty X.K X.w) (L.Z X.K) (sem ds n j)) ∧ (!binNames.contains nm || binB X.K (L.T X.K c) nm) = true ∧ (!(nm == "lt" || nm == "le") || ltB L X.K (L.T X.K c) (L.G.own nm)) = true ∧ (!(nm == "getitem") || PySem.W.fnIn X.K (He.ma X.K (L.T X.K c) (PySem.dunder nm))) = true ∧ (!(nm == "rmul") || revB X.K (L.T X.K c)) = true := fun {nm c j} hl => by
    have a := op1 hl
    unfold opB1 at a
    rw [Bool.and_eq_true, Bool.and_eq_true, Bool.and_eq_true, Bool.and_eq_true, Bool.and_eq_true, Bool.and_eq_true, Bool.and_eq_true, Bool.and_eq_true] at a
    obtain ⟨⟨⟨⟨⟨⟨⟨⟨a1, a2⟩, a3⟩, a4⟩, a5⟩, a6⟩, a7⟩, a8⟩, a9⟩ := a
    obtain ⟨d, hd, ha, hi⟩ := defAt_of a2
    have sm := defSm_of a3 hd
    obtain ⟨fd, U, ok⟩ := ih j d hd
    have ad : d.at_.adr X.K = He.ma X.K (L.T X.K c) (PySem.dunder nm) := by rw [ha]; rfl
    have fr := fnR_of (hB.get hd sm) sm U hi ok
    rw [ad] at fr
    exact ⟨He.eqO_ok a4, a5, fr, a6, a7, a8, a9⟩
  have lts : ∀ {nm : String} {c j : Nat} {z : Str}, (nm = "lt" ∨ nm = "le") → PySem.dunder nm = z → (L.G.own nm).lookup c = some j → LtF X ⟨L.ty X.K X.w, L.Z X.K, sem ds n, none⟩ (4 * n + 4) z (L.G.own nm) c j := fun {nm c j z} hn hz hl => by
    subst hz
    obtain ⟨h1, h2, h3, _, h5, _, _⟩ := own hl
    have h5 : ltB L X.K (L.T X.K c) (L.G.own nm) = true := by
      have : (!(nm == "lt" || nm == "le")) = false := by rcases hn with rfl | rfl <;> decide
      rw [this, Bool.false_or] at h5
      exact h5
    unfold ltB at h5
    simp only [Bool.and_eq_true] at h5
    exact ⟨⟨_, h1, h2, h3⟩, fun t ht => all_mem h5.1 ht, fun e he => by
      cases hq : (L.G.own nm).lookup e with
      | none => rw [hq] at he; cases he
      | some f => exact all_mem h5.2 (lookup_in hq)⟩
  have bins : ∀ (op : Operator) (c j : Nat), (L.G.own op.info.2).lookup c = some j → BinF X ⟨L.ty X.K X.w, L.Z X.K, sem ds n, none⟩ (4 * n + 4) op.info.2 c j := fun op c j hl => by
    obtain ⟨h1, h2, h3, h4, _, _, _⟩ := own hl
    have h4 : binB X.K (L.T X.K c) op.info.2 = true := by
      have : (!binNames.contains op.info.2) = false := by simpa using binNames_of op
      rw [this, Bool.false_or] at h4
      exact h4
    unfold binB at h4
    simp only [Bool.and_eq_true] at h4
    obtain ⟨⟨b1, b2⟩, b3⟩ := h4
    refine ⟨⟨_, h1, h2, h3⟩, b1, ?_, fun t ht => ?_⟩
    · split at b2
      · rename_i e; exact ⟨_, e, .inl rfl⟩
      · rename_i g e; exact ⟨_, e, .inr ⟨g, rfl⟩⟩
      · cases b2
    · have := all_mem b3 ht
      simp only [Bool.and_eq_true] at this
      obtain ⟨⟨t1, t2⟩, t3⟩ := this
      obtain ⟨fo, hfo⟩ := Option.isSome_iff_exists.mp t1
      obtain ⟨ro, hro⟩ := Option.isSome_iff_exists.mp t2
      exact ⟨fo, ro, hfo, hro, eq_of_beq t3⟩
  have revs : ∀ (c j : Nat), (L.G.own "rmul").lookup c = some j → RevF X ⟨L.ty X.K X.w, L.Z X.K, sem ds n, none⟩ (4 * n + 4) c j := fun c j hl => by
    obtain ⟨h1, h2, h3, _, _, _, h7⟩ := own hl
    have hd : PySem.dunder "rmul" = PySem.dunderR "mul" := by decide +kernel
    rw [hd] at h1 h2 h3
    have h7 : revB X.K (L.T X.K c) = true := by
      have : (!("rmul" == "rmul")) = false := by decide
      rw [this, Bool.false_or] at h7
      exact h7
    unfold revB at h7
    simp only [Bool.and_eq_true] at h7
    obtain ⟨⟨b1, b2⟩, b3⟩ := h7
    refine ⟨⟨_, h1, h2, h3⟩, b1, ?_, eq_of_beq b3⟩
    split at b2
    · rename_i g e; exact ⟨g, e⟩
    · cases b2
  have subs : ∀ (c j : Nat), (L.G.own "getitem").lookup c = some j → SubF X ⟨L.ty X.K X.w, L.Z X.K, sem ds n, none⟩ (4 * n + 4) c j := fun c j hl => by
    obtain ⟨h1, h2, h3, _, _, h6, _⟩ := own hl
    have hd : PySem.dunder "getitem" = ("__getitem__" : Str) := by decide +kernel
    have : (!("getitem" == "getitem")) = false := by decide
    rw [this, Bool.false_or] at h6
    rw [hd] at h1 h2 h3 h6
    exact ⟨⟨_, h1, h6, h2, h3⟩⟩
  have hans : ∀ x yes no, L.G.hans.lookup x = some (yes, no) → ∃ C, X.mg x = some C ∧ (∀ c, yes.contains c = true → PySem.W.exmOne X.K (.ref ((L.Z X.K).adr c)) C = some true) ∧ ∀ c, no.contains c = true → PySem.W.exmOne X.K (.ref ((L.Z X.K).adr c)) C = some false := by
    intro x yes no hx
    have a := all_mem q13 (lookup_in hx)
    unfold hanB at a
    simp only [Bool.and_eq_true] at a
    exact ⟨_, glo a.1.1, fun c hc => eq_of_beq (all_mem a.1.2 (by simpa using hc)), fun c hc => eq_of_beq (all_mem a.2 (by simpa using hc))⟩
  have askf : ∀ x m r hs, L.G.asks.lookup x = some (m, r, hs) → AskS X (L.Z X.K) L.G x m r hs := by
    intro x m r hs hl
    rw [hA] at hl
    obtain ⟨y, hy, rfl, hq⟩ := asks_in hl
    obtain ⟨⟨fd, U⟩, hb⟩ := s.ax y hy
    unfold askdB at hb
    simp only [Bool.and_eq_true, decide_eq_true_eq] at hb
    obtain ⟨⟨⟨⟨⟨b1, b2⟩, b3⟩, b4⟩, b5⟩, b6⟩ := hb
    have sm : y.simple = true := b5
    obtain ⟨i, hi⟩ := List.getElem?_of_mem hy
    have hbd := hBa.get hi sm
    unfold askOf at hq
    split at hq
    · rename_i v pv a p1 p2 p3 e p4 hd hds p8 hbody
      split at hq
      · rename_i hs' r' c1 c2 c3
        cases hq
        simp only [Bool.and_eq_true, decide_eq_true_eq] at c1
        obtain ⟨⟨⟨⟨⟨⟨c1, c4⟩, c5⟩, c6⟩, c7⟩, c8⟩, c9⟩ := c1
        have Sc := scOk_of c1
        obtain ⟨d1, d2, _⟩ := okName_of c7
        have kp := U.kp
        rw [simple_ps sm] at U
        have hbn := bindsS U hbd
        rw [c4] at hbn
        obtain ⟨oc, od, dV, kV, doc, pm, an, cdv, ct, osl, rfl, lk, hcd, _, _⟩ := U.ex
        have eq := eq_of_beq b4
        have n1 : y.N[1]? = some v := eq_of_beq c6
        have hlen : 2 ≤ y.N.length := by
          have := (List.getElem?_eq_some_iff.mp n1).1
          omega
        obtain ⟨l, hda⟩ := hdsOf_ok (Ng := y.N) hans c2
        have ad : y.at_.adr X.K = He.ga X.K y.name := by rw [b3]; rfl
        rw [eq, hbody] at lk hbn
        rw [eq] at hcd
        exact ⟨a, v, y.at_.adr X.K, y.params, e, hd, hds, l, y.scope, dV, kV, doc, pm, cdv, ct, oc, an, od, osl, y.N, pv, p1, p2, p3, p4, p8, by rw [ad]; exact glo b2, kp, lk, hcd, hbn, Sc, eq_of_beq c5, n1, Sc.nd, by omega, vis_of c8, eq_of_beq c9, d1, d2, fun _ => rfl, hda, c3⟩
      · cases hq
    · cases hq
  refine { k1 := by omega, hw := rfl, lt := fun c j hl => lts (.inl rfl) (by decide +kernel) hl, le := fun c j hl => lts (.inr rfl) (by decide +kernel) hl, own := fun nm _ c j hl => ⟨⟨_, (own hl).1, (own hl).2.1, (own hl).2.2.1⟩⟩, sub := subs, bin := bins, rev := revs, ask := askf, cls := ⟨fun c hc => (cls_fact s hc).2.1, fun c hc => (cls_fact s hc).2.2.1, fun c t hc ht => (cls_fact s hc).2.2.2.1 t ht, fun c t hc ht => (cls_fact s hc).2.2.2.2.1 t ht, fun c e hc he => (cls_fact s hc).2.2.2.2.2.1 e he⟩, clg := ?_, att := ?_, mak := ?_, mkk := ?_, defs := ?_, cons := ?_, blts := fun x hx => free_mg KX Gm (all_mem q9 (by simpa using hx)), eqs := ?_, err := ?_, eri := ?_, han := hans, fld := ?_, slt := fun c i f hc hf => (cls_fact s hc).2.2.2.2.2.2 i f hf }
  · intro x c hx
    have := all_mem q3 (lookup_in hx)
    simp only [Bool.and_eq_true, decide_eq_true_eq] at this
    refine ⟨this.1, ?_⟩
    have g := glo (cls_fact s this.1).1
    rw [getD_of (d := ("" : Str)) (show L.cn[c]? = some x from eq_of_beq this.2)] at g
    show X.mg x = some (.ref (L.T X.K c))
    unfold Law.T
    rw [getD_of (d := ("" : Str)) (show L.cn[c]? = some x from eq_of_beq this.2)]
    exact g
  · intro f tb c t hf hc
    have a := all_mem (all_mem q4 (lookup_in hf)) (lookup_in hc)
    unfold attB at a
    simp only [Bool.and_eq_true, decide_eq_true_eq] at a
    obtain ⟨hl, a⟩ := a
    cases t with
    | slot i => exact ⟨(cls_fact s hl).2.1, (cls_fact s hl).2.2.2.2.2.2 i f (eq_of_beq a)⟩
    | prop j =>
      simp only [Bool.and_eq_true] at a
      obtain ⟨⟨⟨⟨⟨a1, a2⟩, a3⟩, a4⟩, a5⟩, a6⟩ := a
      obtain ⟨d, hd, ha, hi⟩ := defAt_of a1
      have sm := defSm_of a2 hd
      obtain ⟨fd, U, ok⟩ := ih j d hd
      refine ⟨(cls_fact s hl).2.1, He.ma X.K (L.T X.K c) f, d.at_.adr X.K, He.eqO_ok a3, He.eqO_ok a4, eq_of_beq a5, ?_, fnR_of (hB.get hd sm) sm U hi ok⟩
      rw [ha]
      show ∃ rest, _ = some (Value.ref (match PySem.W.recIn X.K (He.ma X.K (He.ga X.K (L.cn.getD c "")) f) "property" with | some (.ref g :: _) => g | _ => 0) :: rest)
      unfold Law.T at a6 ⊢
      cases hr : PySem.W.recIn X.K (He.ma X.K (He.ga X.K (L.cn.getD c "")) f) "property" with
      | none => rw [hr] at a6; cases a6
      | some l =>
        rw [hr] at a6
        split at a6
        · rename_i g r e
          cases e
          exact ⟨r, rfl⟩
        · cases a6
  · intro x m c j dfl hx
    have a := all_mem q5 (lookup_in hx)
    simp only [Bool.and_eq_true] at a
    obtain ⟨⟨a1, a2⟩, a3⟩ := a
    obtain ⟨d, hd, ha, hi, e, hl, mk⟩ := mk_fact s a1
    have sm := defSm_of a2 hd
    obtain ⟨fd, U, ok⟩ := ih j d hd
    unfold DefOk at ok
    rw [hi] at ok
    rw [simple_ps sm] at U
    have hdf : dfl = [] := List.isEmpty_iff.mp a3
    subst hdf
    have g := glo (cls_fact s hl).1
    rw [e] at g
    exact ⟨⟨d.at_.adr X.K, fd, d.ps, [], [], by show X.mg x = some (.ref (L.T X.K c)); unfold Law.T; rw [e]; exact g, mk, ok, bindsS U (hB.get hd sm), .nil, .nil⟩⟩
  · intro x m ks c j hx
    have a := all_mem q6 (lookup_in hx)
    obtain ⟨d, hd, ha, hi, e, hl, mk⟩ := mk_fact s a
    obtain ⟨fd, U, ok⟩ := ih j d hd
    unfold DefOk at ok
    rw [hi] at ok
    have g := glo (cls_fact s hl).1
    rw [e] at g
    exact ⟨⟨d.at_.adr X.K, fd, d.ps, by show X.mg x = some (.ref (L.T X.K c)); unfold Law.T; rw [e]; exact g, mk, ok, hKw x m ks c j hx d fd hd U⟩⟩
  · intro x m j dfl hx
    have a := all_mem q7 (lookup_in hx)
    simp only [Bool.and_eq_true] at a
    obtain ⟨⟨⟨a1, a2⟩, a3⟩, a4⟩ := a
    obtain ⟨d, hd, ha, hi⟩ := defAt_of a1
    have sm := defSm_of a2 hd
    obtain ⟨fd, U, ok⟩ := ih j d hd
    unfold DefOk at ok
    rw [hi] at ok
    have kp := U.kp
    rw [simple_ps sm] at U
    have hdf : dfl = [] := List.isEmpty_iff.mp a4
    subst hdf
    have g := glo a3
    exact ⟨⟨d.at_.adr X.K, fd, d.ps, [], [], by rw [ha]; exact g, kp, ok, bindsS U (hB.get hd sm), .nil, .nil⟩⟩
  · intro x d hx
    have a := all_mem q8 (lookup_in hx)
    cases d with
    | int i =>
      have a : (match PySem.W.nsIn X.K mainGlobals x with
        | some (some (.int j _)) => decide (j = i)
        | _ => false) = true := a
      split at a
      · rename_i j t hn
        have e : j = i := of_decide_eq_true a
        subst e
        exact ⟨_, .int j, PySem.W.mg_of KX Gm hn, ⟨t, rfl⟩, fun ρ H => .int j⟩
      · cases a
    | str z =>
      have a : (match PySem.W.nsIn X.K mainGlobals x with
        | some (some (.str y _)) => decide (y.cps.toList = z)
        | _ => false) = true := a
      split at a
      · rename_i y t hn
        have e : y.cps.toList = z := of_decide_eq_true a
        subst e
        exact ⟨_, .str y, PySem.W.mg_of KX Gm hn, ⟨t, rfl⟩, fun ρ H => by have := RD.str (K := X.K) (T := L.ty X.K X.w) (ρ := ρ) (H := H) y.cps.toList; simpa using this⟩
      · cases a
    | _ => cases a
  · intro c j hx
    have a := all_mem q10 (lookup_in hx)
    unfold eqB at a
    simp only [Bool.and_eq_true, decide_eq_true_eq] at a
    obtain ⟨⟨⟨⟨⟨⟨⟨⟨a1, a2⟩, a3⟩, a4⟩, a5⟩, a6⟩, a7⟩, a8⟩, a9⟩ := a
    obtain ⟨d, hd, ha, hi⟩ := defAt_of a2
    have sm := defSm_of a3 hd
    obtain ⟨fd, U, ok⟩ := ih j d hd
    have ad : d.at_.adr X.K = He.ma X.K (L.T X.K c) "__eq__" := by rw [ha]; rfl
    refine ⟨⟨He.ma X.K (L.T X.K c) "__eq__", He.eqO_ok a4, a5, ?_⟩, He.eqO_ok a6, eq_of_beq a7, fun t ht => all_mem a8 ht, fun e he => ?_⟩
    · have := fnR_of (hB.get hd sm) sm U hi ok
      rw [ad] at this
      exact this
    · cases hl : L.G.eqs.lookup e with
      | none => rw [hl] at he; cases he
      | some f => exact all_mem a9 (lookup_in hl)
  · intro x c hx
    have a := all_mem q11 (lookup_in hx)
    unfold errB at a
    simp only [Bool.and_eq_true, decide_eq_true_eq] at a
    obtain ⟨⟨⟨⟨⟨⟨a1, a2⟩, a3⟩, a4⟩, a5⟩, a6⟩, a7⟩ := a
    refine ⟨⟨_, _, _, _, F.excBase_ValueError, a4⟩, by show X.mg x = some (.ref (L.E X.K c)); rw [adrE a1]; exact glo a3, a5, raises_own (eq_of_beq a6) a7, ?_⟩
    show L.fl c = none
    unfold Law.fl
    rw [Option.isNone_iff_eq_none.mp a2]; rfl
  · intro x c hx
    have a := all_mem q12 (lookup_in hx)
    unfold eriB at a
    simp only [Bool.and_eq_true] at a
    obtain ⟨⟨a1, a2⟩, a3⟩ := a
    split at a3
    · rename_i fl par sx hef hfi
      have hm := List.mem_of_find?_eq_some hfi
      have hc : sx.c = c := by
        have := List.find?_some hfi
        exact eq_of_beq this
      have hv := s.sup sx hm
      unfold SX.val at hv
      rw [hc, hef] at hv
      have fr : freeB X.K "super" = true := by
        unfold supB at a3
        simp only [Bool.and_eq_true] at a3
        exact a3.1.1.1.1.1.1.1.1.1.1.1.1.1.1.1.1.2
      obtain ⟨fd, dV, kV, doc, pm, an, cdv, ct, cc, rfl, rfl, hs1, hs2, hs3⟩ := sup_of (mg := X.mg) (free_mg KX Gm fr) hv a3
      refine ⟨⟨_, fl, par, _, hs1, hs2, hs3, .all fun us hl => hS.get hm fl par (by rw [hc]; exact hef) _ kV doc pm an cdv ct cc us hl, ?_⟩, ?_⟩
      · show L.fl c = some fl
        unfold Law.fl
        rw [hef]; rfl
      · show X.mg x = some (.ref (L.E X.K c))
        rw [adrE a1]; exact glo a2
    · cases a3
  · intro x f c no hx
    have a := all_mem q14 (lookup_in hx)
    unfold fldB at a
    simp only [Bool.and_eq_true] at a
    obtain ⟨⟨⟨⟨⟨⟨a1, a2⟩, a3⟩, a4⟩, a5⟩, a6⟩, a7⟩ := a
    refine ⟨by show X.mg x = some (.ref (L.E X.K c)); rw [adrE a1]; exact glo a2, eq_of_beq a3, fun e he => eq_of_beq (all_mem a4 (by simpa using he)), xfB_ok a5, He.eqO_ok a6, eq_of_beq a7⟩
end
end Lk
end

section
/-! G5: the law's end. -/
set_option Elab.async false
set_option linter.all false
set_option maxRecDepth 100000
set_option maxHeartbeats 2000000
namespace Lk
open PySem PySem.Spec PyProof.Rows L2 SlX LamX
section
variable {P : Program} {w : World} {K : PySem.W.Frag} {mg : Str → Option Value} {base : Heap} {k : Nat} {f : Addr} {fd : FuncData} {ps : List Str} {sp : Sp}
/-- no error leaves it -/
theorem fnOk0 (F : FnOk P w K mg base (CX P w) k f fd ps sp) : FnOk P w K mg base CX0 k f fd ps (fun vs H Q _ => sp vs H Q (fun _ _ _ => False)) := by
  refine ⟨fun vs H Q E h => F.len _ _ _ _ h, fun A outer s H args us vs Q E hr e0 hb r h => ?_⟩
  refine codeAny_mono (F.run A outer s H args us vs Q _ hr e0 hb r h) fun rr s' z => ?_
  cases rr with
  | error e => exact (no_cx z).elim
  | ok fl => cases fl <;> exact z
end
theorem kb_of {K : PySem.W.Frag} {d : DX} {fd : FuncData} {m : Nat} {ks ps : List Str} (U : FunD K d.name d.qual d.params d.body d.scope (d.dvs K) (d.kws K) (d.at_.adr K) fd) (hdf : d.dfl = []) (hps : d.ps = ps)
    (h : ∀ (x qual : Str) (body : List Stmt) (scope : Scope) (kV doc pm : Value) (an : Option Addr) (cdv ct : Value) (us ws : List Value), us.length = m → ws.length = ks.length → bindArgs (PySem.W.fnOf x qual d.params body scope .none kV doc pm an cdv ct) ⟨us, ks.zip ws⟩ = pure (ps.zip (us ++ ws))) : KBn K fd d.ps m ks (fun us ws => us ++ ws) (fun vs zs => vs ++ zs) := by
  have e : d.dvs K = [] := by unfold DX.dvs; rw [hdf]; rfl
  rw [e] at U
  obtain ⟨oc, od, dV, kV, doc, pm, an, cdv, ct, osl, rfl, lk, hcd, hD, hK⟩ := U.ex
  rcases hD with ⟨_, rfl⟩ | ⟨e, _⟩
  · refine ⟨fun s us ws X l1 l2 => ?_, fun r1 r2 => r1.append r2⟩
    rw [hps]
    exact .of_eq (h _ _ _ _ kV doc pm an cdv ct us ws l1 l2)
  · exact absurd rfl e
theorem rds_ints {K : PySem.W.Frag} {T : Ty} {ρ : Pm} {H : Hp} : ∀ ns : List Int, RDs K T ρ H (ns.map D.int) (ns.map V.int)
  | [] => .nil
  | n :: ns => .cons (.int n) (rds_ints ns)
theorem get_nil (n : Nat) : S0.get n = none := by cases n <;> rfl
/-- what is known of the law's promise at the head's heap -/
def LawAtE (P : Program) (w : World) (CX : CXT) (k n : Nat) (x : Str) (mg : Str → Option Value) (fa : Addr) (h : Heap) : Prop :=
  ∃ (K : PySem.W.Frag) (fd : FuncData) (cs : List (Addr × Addr)) (sp : Sp), K.In h ∧ (∀ p ∈ cs, h.get? p.2 = some { cls := .none, data := .fields #[] }) ∧ (∀ p ∈ cs, K.lookup p.2 = none) ∧ (∀ p ∈ cs, PySem.W.CodeHd h p.1 p.2) ∧ (∀ (s : Shared) (u : Value), BindsTo s fd ⟨[u], []⟩ [(x, u)]) ∧
    (∀ (H : Hp) (a : Addr) (ns : List Int), ns.length ≤ n → (∀ p ∈ cs, H p.2 = some (.tbl #[])) → SqL K H a (ns.map V.int) → sp [.ref a] H (fun v _ => v = .bl true) fun _ _ _ => False) ∧
    ∀ base : Heap, K.In base → base.Ns mainGlobals mg → (∀ p ∈ cs, TabB base mg p.1 p.2) → FnOk P w K mg base CX k fa fd [x] sp
theorem walk_ofTE {l : PySem.W.OpenLaw} {n k : Nat} {q : Program} {loose : List Str} {XP : (Str → Option Value) → Heap → Prop} {YP : World → Heap → Prop} {d : DefRec} {x : Str} (hn : l.most = some n) (hn2 : n ≤ sizeLine) (hdf : d.params.defaults = []) (hr : Room k callerA)
    (F : ∀ (w : World) (mg : Str → Option Value) (fa : Addr) (h : Heap), YP w h → h.Ns mainGlobals mg → mg d.name = some (.ref fa) → LawAtE l.prog w CX0 k n x mg fa h) : PySem.W.WalkO q loose XP YP l.row.toRowW d [] (fun f vs => PySem.call f vs) := by
  refine Att.attach_callB hn hdf fun w s₀ s₁ mg mb fa o pm cd doc a vs ns G Y ho hd hcd hmg hobj hints hlen hbits hg => ?_
  obtain ⟨K, fd, cs, sp, KX, hT, nT, C, hb, hsp, hF⟩ := F w mg fa _ Y G.T.g hmg
  exact law_callTs KX G.T.g G.T.b G.T.builtins G.T.nolimit hg hT nT C G.T.bmain hobj hints (Nat.le_trans hlen hn2) hr hF hb (fun H hH hS => hsp H a ns hlen hH hS) fun H e s' z => z
section
variable {L : Law} {P : Program} {w : World} {K : PySem.W.Frag}
theorem cs_of {p : Addr × Addr} (hp : p ∈ L.cs K) : ∃ x ∈ L.defs, x.lam = true ∧ codeTab K x = some p := by
  unfold Law.cs at hp
  obtain ⟨x, hx, h⟩ := List.mem_filterMap.mp hp
  split at h
  · exact ⟨x, hx, by assumption, h⟩
  · cases h
theorem tabs_of {p : Addr × Str} (hp : p ∈ L.tabs K) : ∃ x ∈ L.defs, x.lam = true ∧ ∃ c, codeTab K x = some (c, p.1) ∧ p.2 = lamQ x := by
  unfold Law.tabs at hp
  obtain ⟨x, hx, h⟩ := List.mem_filterMap.mp hp
  split at h
  · obtain ⟨q, hq, e⟩ := map_some h
    subst e
    exact ⟨x, hx, by assumption, q.1, hq, rfl⟩
  · cases h
theorem in_cs {x : DX} (hx : x ∈ L.defs) (hl : x.lam = true) {p : Addr × Addr} (hp : codeTab K x = some p) : p ∈ L.cs K := List.mem_filterMap.mpr ⟨x, hx, by rw [hl]; exact hp⟩
theorem in_tabs {x : DX} (hx : x ∈ L.defs) (hl : x.lam = true) {p : Addr × Addr} (hp : codeTab K x = some p) : (p.2, lamQ x) ∈ L.tabs K := List.mem_filterMap.mpr ⟨x, hx, by rw [hl]; simp only [hp, Option.map_some]⟩
theorem lam_hd (s : Says L P K) {x : DX} (hx : x ∈ L.defs) (hl : x.lam = true) : ∃ c Q, codeTab K x = some (c, Q) ∧ tabHd K c Q = true := by
  have q := s.ok2
  unfold Law.ok2 at q
  simp only [Bool.and_eq_true] at q
  have a := all_mem q.1.1.2 hx
  unfold lamB at a
  rw [hl] at a
  simp only [Bool.not_true, Bool.false_or] at a
  split at a
  · rename_i c Q e; exact ⟨c, Q, e, a⟩
  · cases a
theorem hd_of {h : Heap} (KX : K.In h) {c Q : Addr} (hd : tabHd K c Q = true) : K.lookup Q = none ∧ PySem.W.CodeHd h c Q := by
  unfold tabHd at hd
  split at hd
  · rename_i t dd vs sl hc
    simp only [Bool.and_eq_true, Bool.not_eq_true'] at hd
    obtain ⟨⟨⟨h1, h2⟩, h3⟩, h4⟩ := hd
    have e1 : t = "code" := eq_of_beq h1
    subst e1
    refine ⟨Option.isNone_iff_eq_none.mp h3, ?_⟩
    split at h4
    · rename_i P' file tf flags tg inF text tt g1 g2 g3 g4 g5
      have e := eq_of_beq h4
      subst e
      exact ⟨_, vs, file, tf, flags, tg, inF, text, tt, KX _ _ hc, rfl, rfl, g1, by rw [Array.getD_eq_getD_getElem?, g1]; rfl, g2, g3, g4, g5, fun z => by rw [z] at h2; simp at h2⟩
    · cases h4
  · cases hd
theorem lamT_of (s : Says L P K) {base : Heap} {mg : Str → Option Value} (TB : ∀ p ∈ L.cs K, TabB base mg p.1 p.2) {x : DX} {fd : FuncData} (hx : x ∈ L.defs) (U : FunD K x.name x.qual x.params x.body x.scope (x.dvs K) (x.kws K) (x.at_.adr K) fd) : LamT base mg (L.ty K w) x fd := fun hl => by
  obtain ⟨c, Q, hc, hd⟩ := lam_hd s hx hl
  have hcode : fd.code = .ref c := by
    obtain ⟨oc, od, dV, kV, doc, pm, an, cdv, ct, osl, rfl, lk, _⟩ := U.ex
    unfold codeTab at hc
    rw [lk] at hc
    simp only at hc
    repeat' split at hc
    all_goals first | (cases hc; done) | skip
    cases hc
    rfl
  refine ⟨c, Q, hcode, TB _ (in_cs hx hl hc), in_tabs (p := (c, Q)) hx hl hc, fun p hp e => ?_⟩
  have q := s.ok2
  unfold Law.ok2 at q
  simp only [Bool.and_eq_true] at q
  have := all_mem (all_mem q.2 hp) (in_tabs (p := (c, Q)) hx hl hc)
  rw [Bool.or_eq_true] at this
  rcases this with z | z
  · rw [show p.1 = Q from e] at z
    simp at z
  · exact eq_of_beq z
end
theorem law_F {L : Law} {P : Program} {jl n : Nat} {lx : DX} {ds : List Def} {x : Str} (hl : L.defs[jl]? = some lx) (hli : lx.ini = none) (hat : lx.at_ = .fn "law") (hps : lx.ps = [x]) (hsm : lx.simple = true) (hgl : (L.G.defs.lookup (("law" : Str), 1)).isSome = true)
    (hds : L.defs.map (cDef L.G L.slots) = ds.map some) (hB : AllB L.defs) (hBa : AllB L.askd) (hA : L.G.asks = asksOf L.G L.askd) (hS : AllS L L.sups)
    (hKw : ∀ K x m ks c j, L.G.makk.lookup (x, m, ks) = some (c, j) → ∀ d fd, L.defs[j]? = some d → FunD K d.name d.qual d.params d.body d.scope (d.dvs K) (d.kws K) (d.at_.adr K) fd → KBn K fd d.ps (m + 1) ks (fun us ws => us ++ ws) (fun vs zs => vs ++ zs))
    (plain : ∀ ns : List Int, ns.length ≤ 63 → ∀ d, d = D.sc (ns.map .int) ∨ d = D.fl (ns.map .int) → ∃ S, sem ds n jl [d] S0 = .ok (.bl true) S) :
    ∀ (w : World) (mg : Str → Option Value) (fa : Addr) (h : Heap), SaysX L P h → h.Ns mainGlobals mg → mg ("law" : Str) = some (.ref fa) → LawAtE P w CX0 (4 * n + 4) 63 x mg fa h := by
  rintro w mg fa h ⟨K, KX, c, hT⟩ Gm hfa
  have s := says_of c
  obtain ⟨fd, U⟩ := s.dx jl lx hl
  have hB1 := hB.get hl hsm
  have U2 := U
  rw [simple_ps hsm] at U2
  have hd2 : ∀ (j : Nat) (x : DX), L.defs[j]? = some x → ∃ d, ds[j]? = some d ∧ cDef L.G L.slots x = some d := fun j y hy => by
    have e : (L.defs.map (cDef L.G L.slots))[j]? = (ds.map some)[j]? := by rw [hds]
    rw [List.getElem?_map, List.getElem?_map, hy] at e
    cases hz : ds[j]? with
    | none => rw [hz] at e; cases e
    | some d => rw [hz] at e; exact ⟨d, rfl, Option.some.inj e⟩
  have hcs : ∀ p ∈ L.cs K, K.lookup p.2 = none ∧ PySem.W.CodeHd h p.1 p.2 := fun p hp => by
    obtain ⟨y, hy, hyl, hyc⟩ := cs_of hp
    obtain ⟨c, Q, e1, e2⟩ := lam_hd s hy hyl
    rw [hyc] at e1
    cases e1
    exact hd_of KX e2
  refine ⟨K, fd, L.cs K, fun vs H Q _ => spF K (L.ty K w) (L.Z K) (sem ds n jl) vs H Q (fun _ _ _ => False), KX, hT, fun p hp => (hcs p hp).1, fun p hp => (hcs p hp).2, fun s u => ?_, fun H a ns hn hH hq => ?_, fun base hK hG TB => ?_⟩
  · have := bindsSA U2 hB1 s [u] (by rw [hps]; rfl)
    rw [hps] at this
    exact this
  · have tb : ∀ ρ : Pm, TabR (L.ty K w) ρ H := fun ρ p hp => by
      obtain ⟨y, hy, hyl, c, hc, _⟩ := tabs_of hp
      exact ⟨#[], hH _ (in_cs hy hyl hc), trivial, fun pos cv z => by cases z⟩
    rcases hq with (hq | hq) | hq
    · obtain ⟨S, hS'⟩ := plain ns hn _ (.inr rfl)
      have m0 : RS K (L.ty K w) ⟨fun _ => none, fun b => b = a⟩ S0 H := {
        dom := fun n a h => nomatch h
        inj := fun n m a h => nomatch h
        mu := fun n a h => nomatch h
        at_ := fun n o h => by rw [get_nil] at h; cases h
        kd := fun b h => by rw [h]; exact ⟨_, hq⟩
        tb := tb _ }
      refine ⟨⟨fun _ => none, fun b => b = a⟩, [.fl (ns.map .int)], S0, m0, .cons (.fl hq (fun n z => nomatch z) rfl (rds_ints ns)) .nil, ?_⟩
      rw [hS']
      intro ρ' H' v e m r
      exact r.bl_inv
    · obtain ⟨S, hS'⟩ := plain ns hn _ (.inl rfl)
      have m0 : RS K (L.ty K w) ⟨fun _ => none, fun _ => False⟩ S0 H := ⟨(fun n a h => nomatch h), (fun n m a h => nomatch h), (fun n a h => nomatch h), (fun n o h => by rw [get_nil] at h; cases h), (fun b h => h.elim), tb _⟩
      refine ⟨⟨fun _ => none, fun _ => False⟩, [.sc (ns.map .int)], S0, m0, .cons (.sc (.inl hq) (rds_ints ns)) .nil, ?_⟩
      rw [hS']
      intro ρ' H' v e m r
      exact r.bl_inv
    · obtain ⟨S, hS'⟩ := plain ns hn _ (.inl rfl)
      have m0 : RS K (L.ty K w) ⟨fun _ => none, fun _ => False⟩ S0 H := ⟨(fun n a h => nomatch h), (fun n m a h => nomatch h), (fun n a h => nomatch h), (fun n o h => by rw [get_nil] at h; cases h), (fun b h => h.elim), tb _⟩
      refine ⟨⟨fun _ => none, fun _ => False⟩, [.sc (ns.map .int)], S0, m0, .cons (.sc (.inr hq) (rds_ints ns)) .nil, ?_⟩
      rw [hS']
      intro ρ' H' v e m r
      exact r.bl_inv
  · have all := all_ok (P := P) (w := w) (K := K) (mg := mg) (base := base) (G := L.G) (slots := L.slots) (T := L.ty K w) (Z := L.Z K) hd2 s.dx (fun j y c hy hc => ⟨s.ini j y c hy hc, (cls_fact s (s.ini j y c hy hc)).2.1⟩) (fun j y fd hy U => lamT_of s TB (List.mem_of_getElem? hy) U) (fun m ih => facts_of s KX Gm hB hBa hA hS (hKw K) ih) n jl lx hl
    obtain ⟨fd2, U3, ok⟩ := all
    unfold DefOk at ok
    rw [hli] at ok
    have efd : fd2 = fd := by
      obtain ⟨oc, od, dV, kV, doc, pm, an, cdv, ct, osl, e1, lk, _⟩ := U.ex
      obtain ⟨oc2, od2, dV2, kV2, doc2, pm2, an2, cdv2, ct2, osl2, e2, lk2, _⟩ := U3.ex
      rw [lk] at lk2
      cases lk2
      rfl
    subst efd
    have eadr : lx.at_.adr K = fa := by
      rw [hat]
      show He.ga K "law" = fa
      have hm : mg "law" = some (.ref (He.ga K "law")) := by
        cases hg : L.G.defs.lookup (("law" : Str), 1) with
        | none => rw [hg] at hgl; cases hgl
        | some v =>
          have q := s.ok
          unfold Law.ok at q
          simp only [Bool.and_eq_true] at q
          have := all_mem q.1.1.1.1.1.1.1.2 (lookup_in hg)
          simp only [Bool.and_eq_true] at this
          exact glo_mg KX Gm this.1.2
      rw [hfa] at hm
      cases hm
      rfl
    rw [eadr, hps] at ok
    exact fnOk0 ok
end Lk
end

section
/-! S1: the evaluator's equations, for simp. -/
set_option Elab.async false
set_option linter.all false
set_option maxRecDepth 100000
set_option maxHeartbeats 1000000
namespace Lk
@[simp] theorem M.bind_app {α β : Type} (m : M α) (k : α → M β) (S : Store) : M.bind m k S = (match m S with
  | .ok a S' => k a S'
  | .exc c p S' => .exc c p S'
  | .bad => .bad) := rfl
@[simp] theorem M.pure_app {α : Type} (a : α) (S : Store) : M.pure a S = .ok a S := rfl
@[simp] theorem M.opt_some {α : Type} (a : α) (S : Store) : M.opt (some a) S = .ok a S := rfl
@[simp] theorem M.opt_none {α : Type} (S : Store) : M.opt (none : Option α) S = .bad := rfl
@[simp] theorem M.bad_app {α : Type} (S : Store) : (M.bad : M α) S = .bad := rfl
@[simp] theorem M.calm_app {α : Type} (m : M α) (S : Store) : M.calm m S = (match m S with
  | .exc _ _ _ => .bad
  | r => r) := rfl
@[simp] theorem M.at_app {α : Type} (σ : Env) (m : M α) (k : α → M Flow) (S : Store) : M.at σ m k S = (match m S with
  | .ok a S' => k a S'
  | .exc c p S' => .ok (.xc c p σ) S'
  | .bad => .bad) := rfl
section
variable (cal : Nat → List D → M D) (σ : Env) (S : Store)
@[simp] theorem ev_var (i : Nat) : ev cal (.var i) σ S = M.opt (slotOf σ i) S := rfl
@[simp] theorem ev_con (d : D) : ev cal (.con d) σ S = .ok d S := rfl
@[simp] theorem ev_tup (es : XEs) : ev cal (.tup es) σ S = M.bind (evs cal es σ) (fun ds => M.pure (.tup ds)) S := rfl
@[simp] theorem ev_lst (es : XEs) : ev cal (.lst es) σ S = M.bind (evs cal es σ) (fun ds => M.pure (.fl ds)) S := rfl
/-- a binary operator of two values -/
def binV (cal : Nat → List D → M D) (o : Bop) (tb rb : List (Nat × Nat)) (x y : D) : M D := match x with
    | .ob c _ => fun S => match tb.lookup c, okB S c y with
      | some f, true => cal f [x, y] S
      | _, _ => .bad
    | _ => match y with
      | .ob c _ => match rb.lookup c, x with
        | some f, .int _ => cal f [y, x]
        | _, _ => M.bad
      | _ => fun S => M.opt (binD S o x y) S
@[simp] theorem ev_bin (o : Bop) (tb rb : List (Nat × Nat)) (a b : XE) : ev cal (.bin o tb rb a b) σ S = M.bind (ev cal a σ) (fun x => M.bind (ev cal b σ) fun y => binV cal o tb rb x y) S := rfl
@[simp] theorem binV_int (o : Bop) (tb rb : List (Nat × Nat)) (i j : Int) : binV cal o tb rb (.int i) (.int j) S = M.opt ((intBin o i j).map .int) S := rfl
@[simp] theorem binV_tup (o : Bop) (tb rb : List (Nat × Nat)) (i j : List D) : binV cal o tb rb (.tup i) (.tup j) S = M.opt (binD S o (.tup i) (.tup j)) S := rfl
@[simp] theorem binV_fl (o : Bop) (tb rb : List (Nat × Nat)) (i j : List D) : binV cal o tb rb (.fl i) (.fl j) S = M.opt (binD S o (.fl i) (.fl j)) S := rfl
@[simp] theorem binV_tup_int (o : Bop) (tb rb : List (Nat × Nat)) (i : List D) (j : Int) : binV cal o tb rb (.tup i) (.int j) S = M.opt (binD S o (.tup i) (.int j)) S := rfl
@[simp] theorem ev_cmp (o : Cop) (tb : List (Nat × Nat)) (a b : XE) : ev cal (.cmp o tb a b) σ S = M.bind (ev cal a σ) (fun x => M.bind (ev cal b σ) fun y => cmpC cal o tb x y) S := rfl
@[simp] theorem ev_isN (a : XE) : ev cal (.isN a) σ S = M.bind (ev cal a σ) (fun x => M.pure (.bl (isNon x))) S := rfl
@[simp] theorem ev_noN (a : XE) : ev cal (.noN a) σ S = M.bind (ev cal a σ) (fun x => M.pure (.bl (!isNon x))) S := rfl
@[simp] theorem ev_chn (o p : Cop) (a b c : XE) : ev cal (.chn o p a b c) σ S = M.bind (ev cal a σ) (fun x => M.bind (ev cal b σ) fun y => fun S => M.bind (M.opt (cmpD S o x y)) (fun k => match k with
    | true => M.bind (ev cal c σ) fun z => fun S => M.opt ((cmpD S p y z).map .bl) S
    | false => M.pure (.bl false)) S) S := rfl
@[simp] theorem ev_and (a b : XE) : ev cal (.and a b) σ S = M.bind (ev cal a σ) (fun x => match x with
    | .bl true => ev cal b σ
    | .bl false => M.pure (.bl false)
    | _ => M.bad) S := rfl
@[simp] theorem ev_or (a b : XE) : ev cal (.or a b) σ S = M.bind (ev cal a σ) (fun x => match x with
    | .bl true => M.pure (.bl true)
    | .bl false => ev cal b σ
    | _ => M.bad) S := rfl
@[simp] theorem ev_not (a : XE) : ev cal (.not a) σ S = M.bind (ev cal a σ) (fun x => match x with
    | .bl b => M.pure (.bl (!b))
    | _ => M.bad) S := rfl
@[simp] theorem ev_ite (t a b : XE) : ev cal (.ite t a b) σ S = M.bind (ev cal t σ) (fun x => match x with
    | .bl true => ev cal a σ
    | .bl false => ev cal b σ
    | _ => M.bad) S := rfl
def idxW (cal : Nat → List D → M D) (tb : List (Nat × Nat)) (x y : D) : M D := match x with
    | .ob c _ => match tb.lookup c with
      | some f => cal f [x, y]
      | none => M.bad
    | _ => fun S => M.opt (idxV S x y) S
@[simp] theorem ev_idx (tb : List (Nat × Nat)) (a i : XE) : ev cal (.idx tb a i) σ S = M.bind (ev cal a σ) (fun x => M.bind (ev cal i σ) fun y => idxW cal tb x y) S := rfl
@[simp] theorem idxW_tup (tb : List (Nat × Nat)) (xs : List D) (i : Int) : idxW cal tb (.tup xs) (.int i) S = M.opt (idxD S (.tup xs) i) S := rfl
@[simp] theorem idxW_fl (tb : List (Nat × Nat)) (xs : List D) (i : Int) : idxW cal tb (.fl xs) (.int i) S = M.opt (idxD S (.fl xs) i) S := rfl
@[simp] theorem idxW_sc (tb : List (Nat × Nat)) (xs : List D) (i : Int) : idxW cal tb (.sc xs) (.int i) S = M.opt (idxD S (.sc xs) i) S := rfl
@[simp] theorem idxW_str (tb : List (Nat × Nat)) (xs : List Nat) (i : Int) : idxW cal tb (.str xs) (.int i) S = M.opt (idxD S (.str xs) i) S := rfl
theorem idxW_ref (tb : List (Nat × Nat)) (a : Nat) (i : Int) {xs : List D} (h : S.get a = some (.lst xs)) : idxW cal tb (.ref a) (.int i) S = M.opt (idxD S (.ref a) i) S := by
  show M.opt (idxV S (.ref a) (.int i)) S = _
  unfold idxV dictOf
  simp only [h]
  rfl
@[simp] theorem ev_slc (a : XE) (lo hi : XB) : ev cal (.slc a lo hi) σ S = M.bind (ev cal a σ) (fun x => M.bind (evB cal lo σ) fun l => M.bind (evB cal hi σ) fun h => fun S => M.opt (slcD S x l h) S) S := rfl
@[simp] theorem ev_att (tb : List (Nat × Att)) (a : XE) : ev cal (.att tb a) σ S = M.bind (ev cal a σ) (fun x => match x with
    | .ob c fs => match tb.lookup c with
      | some (.slot i) => M.opt fs[i]?
      | some (.prop f) => M.calm (cal f [x])
      | none => M.bad
    | _ => M.bad) S := rfl
@[simp] theorem ev_call (f : Nat) (es : XEs) (pl : List Pl) : ev cal (.call f es pl) σ S = M.bind (evs cal es σ) (fun as => M.bind (M.opt (planned pl as)) fun ps => cal f ps) S := rfl
@[simp] theorem ev_make (c f n : Nat) (es : XEs) (pl : List Pl) : ev cal (.make c f n es pl) σ S = M.bind (evs cal es σ) (fun as => M.bind (M.opt (planned pl as)) fun ps => cal f ps) S := rfl
@[simp] theorem ev_mth (m : Bm) (o : XE) (es : XEs) : ev cal (.mth m o es) σ S = M.bind (ev cal o σ) (fun x => fun S => match mthFits S m x with
    | true => M.bind (evs cal es σ) (fun as => mthD m x as) S
    | false => .bad) S := rfl
def biV (cal : Nat → List D → M D) (b : Bi) (tb : List (Nat × Nat)) (as : List D) : M D := match as with
    | [.ob c fs] => match tb.lookup c with
      | some f => M.bind (M.calm (cal f [.ob c fs])) fun r => M.opt (match b, r with
        | .len, .int n => if 0 ≤ n ∧ n < 2 ^ 63 then some (.int n) else none
        | .abs, d => some d
        | _, _ => none)
      | none => M.bad
    | as => fun S => M.opt (biD S b as) S
@[simp] theorem ev_bi (b : Bi) (tb : List (Nat × Nat)) (es : XEs) : ev cal (.bi b tb es) σ S = M.bind (evs cal es σ) (fun as => biV cal b tb as) S := rfl
@[simp] theorem biV_int (b : Bi) (tb : List (Nat × Nat)) (i : Int) : biV cal b tb [.int i] S = M.opt (biD S b [.int i]) S := rfl
@[simp] theorem biV_tup (b : Bi) (tb : List (Nat × Nat)) (i : List D) : biV cal b tb [.tup i] S = M.opt (biD S b [.tup i]) S := rfl
@[simp] theorem biV_fl (b : Bi) (tb : List (Nat × Nat)) (i : List D) : biV cal b tb [.fl i] S = M.opt (biD S b [.fl i]) S := rfl
@[simp] theorem biV_sc (b : Bi) (tb : List (Nat × Nat)) (i : List D) : biV cal b tb [.sc i] S = M.opt (biD S b [.sc i]) S := rfl
@[simp] theorem biV_str (b : Bi) (tb : List (Nat × Nat)) (i : List Nat) : biV cal b tb [.str i] S = M.opt (biD S b [.str i]) S := rfl
@[simp] theorem biV_bl (b : Bi) (tb : List (Nat × Nat)) (i : Bool) : biV cal b tb [.bl i] S = M.opt (biD S b [.bl i]) S := rfl
@[simp] theorem biV_ref (b : Bi) (tb : List (Nat × Nat)) (i : Nat) : biV cal b tb [.ref i] S = M.opt (biD S b [.ref i]) S := rfl
@[simp] theorem biV_two (b : Bi) (tb : List (Nat × Nat)) (x y : D) : biV cal b tb [x, y] S = M.opt (biD S b [x, y]) S := by cases x <;> rfl
@[simp] theorem ev_inv (tb : List (Nat × Nat)) (a : XE) : ev cal (.inv tb a) σ S = M.bind (ev cal a σ) (fun x => match x with
    | .ob c _ => match tb.lookup c with
      | some f => cal f [x]
      | none => M.bad
    | _ => M.bad) S := rfl
@[simp] theorem ev_ask (n : Nat) (r : XE) (hs : List (List Nat × List Nat × Option D)) (e : XE) : ev cal (.ask n r hs e) σ S = M.ask hs (ev cal e σ) (fun d => ev cal r (none :: some d :: List.replicate n none)) S := rfl
@[simp] theorem ask_app (hs : List (List Nat × List Nat × Option D)) (m : M D) (k : D → M D) : M.ask hs m k S = (match m S with
  | .ok d S1 => M.calm (k d) S1
  | .exc c p S1 => M.opt (askH hs c p) S1
  | .bad => .bad) := rfl
theorem ev_lcn (own : List Nat) (cl : XCs) (e : XE) : ev cal (.lcn own cl e) σ S = M.bind (evC cal cl (fun σ => ev cal e σ) (wipeE σ own) []) (fun ys => M.pure (.fl ys)) S := rfl
@[simp] theorem ev_isi (n : Nat) (ks : List Kd) (a : XE) : ev cal (.isi n ks a) σ S = M.bind (ev cal a σ) (fun x => fun S => M.opt ((kindOf S n ks x).map .bl) S) S := rfl
theorem ev_lcm (own : List Nat) (tg : Tg) (it : XI) (t e : XE) : ev cal (.lcm own tg it t e) σ S = M.bind (M.bind (evI cal it σ) fun p => lcAll p tg own σ (fun σ => M.bind (ev cal t σ) fun x => M.opt (truth x)) (fun σ => ev cal e σ)) (fun ys => M.pure (.fl ys)) S := rfl
@[simp] theorem ev_yes : ev cal .yes σ S = .ok (.bl true) S := rfl
@[simp] theorem ev_mat (a : XE) : ev cal (.mat a) σ S = M.bind (ev cal a σ) (fun x => fun S => match x with
    | .fl xs => .ok (.ref S.next) (S.new (.lst xs))
    | .dc t kvs => .ok (.ref S.next) (S.new (.dic t kvs))
    | _ => .bad) S := rfl
@[simp] theorem ev_lrng (es : XEs) : ev cal (.lrng es) σ S = M.bind (M.bind (evs cal es σ) fun as => M.opt (rangeD as)) (fun xs => M.pure (.fl xs)) S := rfl
@[simp] theorem evB_no : evB cal .no σ S = .ok none S := rfl
@[simp] theorem evB_so (e : XE) : evB cal (.so e) σ S = M.bind (ev cal e σ) (fun x => M.opt ((intOf x).map some)) S := rfl
@[simp] theorem evI_rng (es : XEs) : evI cal (.rng es) σ S = M.bind (evs cal es σ) (fun as => M.opt ((rangeD as).map fun xs => (xs, []))) S := rfl
@[simp] theorem evI_enm (a : XE) : evI cal (.enm a) σ S = M.bind (ev cal a σ) (fun x => fun S => M.opt ((walkS S x).map fun xs => (numbered 0 xs, guardOf S x)) S) S := rfl
@[simp] theorem evI_zip (a b : XE) : evI cal (.zip a b) σ S = M.bind (ev cal a σ) (fun x => M.bind (ev cal b σ) fun y => fun S => M.opt (match walkS S x, walkS S y with
    | some xs, some ys => some (pairs xs ys, guardOf S x ++ guardOf S y)
    | _, _ => none) S) S := rfl
@[simp] theorem evI_of (a : XE) : evI cal (.of a) σ S = M.bind (ev cal a σ) (fun x => fun S => M.opt ((walkOf S x).map fun xs => (xs, guardOf S x)) S) S := rfl
@[simp] theorem evs_nil : evs cal .nil σ S = .ok [] S := rfl
@[simp] theorem evs_cons (e : XE) (r : XEs) : evs cal (.cons e r) σ S = M.bind (ev cal e σ) (fun x => M.bind (evs cal r σ) fun xs => M.pure (x :: xs)) S := rfl
@[simp] theorem evs_star (e : XE) (r : XEs) : evs cal (.star e r) σ S = M.bind (ev cal e σ) (fun x => M.bind (fun S => M.opt (walkS S x) S) fun ys => match decide (ys.length ≤ sizeMax) with
    | true => M.bind (evs cal r σ) fun xs => match decide (ys.length + xs.length ≤ sizeMax) with
      | true => M.pure (ys ++ xs)
      | false => M.bad
    | false => M.bad) S := rfl
@[simp] theorem ex_aug (i : Nat) (o : Bop) (e : XE) : ex cal (.aug i o e) σ S = M.bind (M.opt (slotOf σ i)) (fun x => M.at σ (ev cal e σ) fun y => M.bind (M.opt (augD o x y)) fun z => M.pure (.nx (σ.set i (some z)))) S := rfl
theorem ex_whl (c : XE) (b : XSs) : ex cal (.whl c b) σ S = whlGo (tst cal c) (exs cal b) turns σ S := rfl
@[simp] theorem tst_app (c : XE) : tst cal c σ S = M.bind (ev cal c σ) (fun x => M.opt (truth x)) S := rfl
@[simp] theorem ex_pass : ex cal .pass σ S = .ok (.nx σ) S := rfl
@[simp] theorem ex_expr (e : XE) : ex cal (.expr e) σ S = M.at σ (ev cal e σ) (fun _ => M.pure (.nx σ)) S := rfl
@[simp] theorem ex_set (t : Tg) (e : XE) : ex cal (.set t e) σ S = M.at σ (ev cal e σ) (fun d => M.bind (M.opt (setTg t d σ)) fun σ2 => M.pure (.nx σ2)) S := rfl
@[simp] theorem ex_setIx (a i e : XE) : ex cal (.setIx a i e) σ S = M.at σ (ev cal e σ) (fun d => M.at σ (ev cal a σ) fun x => M.at σ (ev cal i σ) fun k => M.bind (setD x k d) fun _ => M.pure (.nx σ)) S := rfl
@[simp] theorem ex_ret (e : XE) : ex cal (.ret e) σ S = M.at σ (ev cal e σ) (fun d => M.pure (.rt d)) S := rfl
@[simp] theorem ex_ite (c : XE) (a b : XSs) : ex cal (.ite c a b) σ S = M.at σ (tst cal c σ) (fun k => match k with
    | true => exs cal a σ
    | false => exs cal b σ) S := rfl
theorem ex_for (tg : Tg) (it : XI) (b : XSs) : ex cal (.for tg it b) σ S = M.at σ (evI cal it σ) (fun p => forGo p.2 tg (exs cal b) p.1 σ) S := rfl
@[simp] theorem ex_brk : ex cal .brk σ S = .ok (.bk σ) S := rfl
@[simp] theorem ex_raise (c : Nat) (es : XEs) : ex cal (.raise c es) σ S = M.at σ (evs cal es σ) (fun ds => M.pure (.xc c ds σ)) S := rfl
@[simp] theorem ex_try (b : XSs) (hs : XHs) : ex cal (.tryy b hs) σ S = M.bind (exs cal b σ) (fun f => match f with
    | .xc c p σ2 => hnd cal hs c p σ2
    | f => M.pure f) S := rfl
@[simp] theorem exs_nil : exs cal .nil σ S = .ok (.nx σ) S := rfl
@[simp] theorem exs_cons (s : XS) (r : XSs) : exs cal (.cons s r) σ S = M.bind (ex cal s σ) (fun f => match f with
    | .nx σ2 => exs cal r σ2
    | f => M.pure f) S := rfl
end
@[simp] theorem slotOf_zero (d : D) (σ : Env) : slotOf (some d :: σ) 0 = some d := rfl
@[simp] theorem slotOf_succ (x : Option D) (σ : Env) (i : Nat) : slotOf (x :: σ) (i + 1) = slotOf σ i := by simp [slotOf]
@[simp] theorem setTg_nm (i : Nat) (d : D) (σ : Env) : setTg (.nm i) d σ = some (σ.set i (some d)) := rfl
@[simp] theorem setTg_tp (ts : Tgs) (xs : List D) (σ : Env) : setTg (.tp ts) (.tup xs) σ = setTgs ts xs σ := rfl
@[simp] theorem setTgs_nil (σ : Env) : setTgs .nil [] σ = some σ := rfl
@[simp] theorem setTgs_cons (t : Tg) (r : Tgs) (x : D) (xs : List D) (σ : Env) : setTgs (.cons t r) (x :: xs) σ = (match setTg t x σ with
    | some σ2 => setTgs r xs σ2
    | none => none) := rfl
/-- a def is run -/
theorem sem_fn (ds : List Def) (k j : Nat) (d : Def) (as : List D) (S : Store) (hd : ds[j]? = some d) (hi : d.ini = none) (hl : as.length = d.par) (hp : d.pur = false := by rfl) : sem ds (k + 1) j as S = (match exs (sem ds k) d.body (as.map some ++ List.replicate d.loc none) S with
  | .ok (.nx _) S' => .ok .non S'
  | .ok (.rt v) S' => .ok v S'
  | .ok (.xc c p _) S' => .exc c p S'
  | _ => .bad) := by
  show (match ds[j]? with | some d => runDef (sem ds k) d as | none => M.bad) S = _
  rw [hd]
  show runDef (sem ds k) d as S = _
  unfold runDef
  rw [decide_eq_true hl, hp]
  show bodyOf (sem ds k) d as S = _
  unfold bodyOf
  rw [hi]
  simp only [M.bind_app, M.calm_app]
  cases exs (sem ds k) d.body (as.map some ++ List.replicate d.loc none) S with
  | bad => rfl
  | exc _ _ _ => rfl
  | ok f S' => cases f <;> rfl
theorem sem_ini (ds : List Def) (k j : Nat) (d : Def) (c : Nat) (es : XEs) (as : List D) (S : Store) (hd : ds[j]? = some d) (hi : d.ini = some (c, es)) (hl : as.length = d.par) (hp : d.pur = false := by rfl) : sem ds (k + 1) j as S = (match exs (sem ds k) d.body (none :: (as.map some ++ List.replicate d.loc none)) S with
  | .ok (.nx σ) S' => (match σ with
    | none :: _ => M.bind (evs (sem ds k) es σ) (fun ds => M.pure (.ob c ds)) S'
    | _ => .bad)
  | .ok (.xc c p _) S' => .exc c p S'
  | _ => .bad) := by
  show (match ds[j]? with | some d => runDef (sem ds k) d as | none => M.bad) S = _
  rw [hd]
  show runDef (sem ds k) d as S = _
  unfold runDef
  rw [decide_eq_true hl, hp]
  show bodyOf (sem ds k) d as S = _
  unfold bodyOf
  rw [hi]
  simp only [M.bind_app, M.calm_app]
  cases exs (sem ds k) d.body (none :: (as.map some ++ List.replicate d.loc none)) S with
  | bad => rfl
  | exc _ _ _ => rfl
  | ok f S' =>
    cases f with
    | nx σ =>
      cases σ with
      | nil => rfl
      | cons a r => cases a <;> rfl
    | _ => rfl
/-! ### turns -/
/-- a comprehension whose parts leave the store -/
theorem lcGo_map {g : Gd} {tg : Tg} {own : List Nat} {σ : Env} {t : Env → M Bool} {e : Env → M D} {S : Store} (f : D → D) (hg : stands S g = true) : ∀ {xs : List D}, (∀ x ∈ xs, ∃ σ2, setTg tg x (wipeE σ own) = some σ2 ∧ t σ2 S = .ok true S ∧ e σ2 S = .ok (f x) S) → lcGo g tg own σ t e xs S = .ok (xs.map f) S
  | [], _ => by
    have : M.chk g S = .ok () S := by unfold M.chk; rw [hg]
    simp [lcGo, this]
  | x :: xs, h => by
    have hc : M.chk g S = .ok () S := by unfold M.chk; rw [hg]
    obtain ⟨σ2, h1, h2, h3⟩ := h x List.mem_cons_self
    have ih := lcGo_map (g := g) (tg := tg) (own := own) (σ := σ) (t := t) (e := e) f hg (xs := xs) fun y hy => h y (List.mem_cons_of_mem _ hy)
    simp [lcGo, hc, h1, h2, h3, ih]
theorem lcAll_map {xs : List D} {g : Gd} {tg : Tg} {own : List Nat} {σ : Env} {t : Env → M Bool} {e : Env → M D} {S : Store} (f : D → D) (hl : xs.length ≤ sizeMax) (hg : stands S g = true) (h : ∀ x ∈ xs, ∃ σ2, setTg tg x (wipeE σ own) = some σ2 ∧ t σ2 S = .ok true S ∧ e σ2 S = .ok (f x) S) : lcAll (xs, g) tg own σ t e S = .ok (xs.map f) S := by
  unfold lcAll
  rw [decide_eq_true hl]
  exact lcGo_map f hg h
theorem ev_lc {cal : Nat → List D → M D} {own : List Nat} {tg : Tg} {it : XI} {t e : XE} {σ : Env} {S : Store} {xs : List D} {g : Gd} (f : D → D) (hi : evI cal it σ S = .ok (xs, g) S) (hl : xs.length ≤ sizeMax) (hg : stands S g = true)
    (h : ∀ x ∈ xs, ∃ σ2, setTg tg x (wipeE σ own) = some σ2 ∧ ev cal t σ2 S = .ok (.bl true) S ∧ ev cal e σ2 S = .ok (f x) S) : ev cal (.lcm own tg it t e) σ S = .ok (.fl (xs.map f)) S := by
  rw [ev_lcm]
  simp only [M.bind_app, hi]
  rw [lcAll_map f hl hg fun x hx => ?_]
  · rfl
  · obtain ⟨σ2, h1, h2, h3⟩ := h x hx
    exact ⟨σ2, h1, by simp [h2, truth], h3⟩
/-- .. over a list of things, with a test -/
theorem lcGo_A {α : Type} {g : Gd} {tg : Tg} {own : List Nat} {σ : Env} {t : Env → M Bool} {e : Env → M D} {S : Store} (q f : α → D) (p : α → Bool) (hg : stands S g = true) : ∀ {xs : List α}, (∀ x ∈ xs, ∃ σ2, setTg tg (q x) (wipeE σ own) = some σ2 ∧ t σ2 S = .ok (p x) S ∧ (p x = true → e σ2 S = .ok (f x) S)) → lcGo g tg own σ t e (xs.map q) S = .ok ((xs.filter p).map f) S
  | [], _ => by
    have : M.chk g S = .ok () S := by unfold M.chk; rw [hg]
    simp [lcGo, this]
  | x :: xs, h => by
    have hc : M.chk g S = .ok () S := by unfold M.chk; rw [hg]
    obtain ⟨σ2, h1, h2, h3⟩ := h x List.mem_cons_self
    have ih := lcGo_A (g := g) (tg := tg) (own := own) (σ := σ) (t := t) (e := e) q f p hg (xs := xs) fun y hy => h y (List.mem_cons_of_mem _ hy)
    cases hp : p x with
    | true => simp [lcGo, hc, h1, h2, h3 hp, ih, hp]
    | false => simp [lcGo, hc, h1, h2, ih, hp]
theorem ev_lcA {α : Type} {cal : Nat → List D → M D} {own : List Nat} {tg : Tg} {it : XI} {t e : XE} {σ : Env} {S : Store} {g : Gd} (q f : α → D) (p : α → Bool) (xs : List α) (hi : evI cal it σ S = .ok (xs.map q, g) S) (hl : xs.length ≤ sizeMax) (hg : stands S g = true)
    (h : ∀ x ∈ xs, ∃ σ2, setTg tg (q x) (wipeE σ own) = some σ2 ∧ ev cal t σ2 S = .ok (.bl (p x)) S ∧ (p x = true → ev cal e σ2 S = .ok (f x) S)) : ev cal (.lcm own tg it t e) σ S = .ok (.fl ((xs.filter p).map f)) S := by
  rw [ev_lcm]
  simp only [M.bind_app, hi]
  have hd : decide ((xs.map q).length ≤ sizeMax) = true := by rw [List.length_map]; exact decide_eq_true hl
  have : lcAll (xs.map q, g) tg own σ (fun σ => M.bind (ev cal t σ) fun x => M.opt (truth x)) (fun σ => ev cal e σ) S = .ok ((xs.filter p).map f) S := by
    unfold lcAll
    simp only [hd]
    exact lcGo_A q f p hg fun x hx => by
      obtain ⟨σ2, h1, h2, h3⟩ := h x hx
      exact ⟨σ2, h1, by simp [h2, truth], h3⟩
  rw [this]
  rfl
/-- .. without a test -/
theorem ev_lcB {α : Type} {cal : Nat → List D → M D} {own : List Nat} {tg : Tg} {it : XI} {e : XE} {σ : Env} {S : Store} {g : Gd} (q f : α → D) (xs : List α) (hi : evI cal it σ S = .ok (xs.map q, g) S) (hl : xs.length ≤ sizeMax) (hg : stands S g = true)
    (h : ∀ x ∈ xs, ∃ σ2, setTg tg (q x) (wipeE σ own) = some σ2 ∧ ev cal e σ2 S = .ok (f x) S) : ev cal (.lcm own tg it .yes e) σ S = .ok (.fl (xs.map f)) S := by
  have := ev_lcA (t := .yes) q f (fun _ => true) xs hi hl hg fun x hx => let ⟨σ2, h1, h2⟩ := h x hx; ⟨σ2, h1, rfl, fun _ => h2⟩
  rw [List.filter_eq_self.mpr (fun _ _ => rfl)] at this
  exact this
/-! ### data -/
section
variable (cal : Nat → List D → M D) (tb : List (Nat × Nat)) (S : Store)
@[simp] theorem cmpC_eq_non  (y : D) : cmpC cal .eq tb (.non ) y S = M.opt ((cmpD S .eq (.non ) y).map .bl) S := rfl
@[simp] theorem cmpC_eq_int (i : Int) (y : D) : cmpC cal .eq tb (.int i) y S = M.opt ((cmpD S .eq (.int i) y).map .bl) S := rfl
@[simp] theorem cmpC_eq_str (i : List Nat) (y : D) : cmpC cal .eq tb (.str i) y S = M.opt ((cmpD S .eq (.str i) y).map .bl) S := rfl
@[simp] theorem cmpC_eq_tup (i : List D) (y : D) : cmpC cal .eq tb (.tup i) y S = M.opt ((cmpD S .eq (.tup i) y).map .bl) S := rfl
@[simp] theorem cmpC_eq_fl (i : List D) (y : D) : cmpC cal .eq tb (.fl i) y S = M.opt ((cmpD S .eq (.fl i) y).map .bl) S := rfl
@[simp] theorem cmpC_eq_bl (i : Bool) (y : D) : cmpC cal .eq tb (.bl i) y S = M.opt ((cmpD S .eq (.bl i) y).map .bl) S := rfl
@[simp] theorem cmpC_eq_ref (i : Nat) (y : D) : cmpC cal .eq tb (.ref i) y S = M.opt ((cmpD S .eq (.ref i) y).map .bl) S := rfl
@[simp] theorem cmpC_eq_sc (i : List D) (y : D) : cmpC cal .eq tb (.sc i) y S = M.opt ((cmpD S .eq (.sc i) y).map .bl) S := rfl
@[simp] theorem cmpC_ne_non  (y : D) : cmpC cal .ne tb (.non ) y S = M.opt ((cmpD S .ne (.non ) y).map .bl) S := rfl
@[simp] theorem cmpC_ne_int (i : Int) (y : D) : cmpC cal .ne tb (.int i) y S = M.opt ((cmpD S .ne (.int i) y).map .bl) S := rfl
@[simp] theorem cmpC_ne_str (i : List Nat) (y : D) : cmpC cal .ne tb (.str i) y S = M.opt ((cmpD S .ne (.str i) y).map .bl) S := rfl
@[simp] theorem cmpC_ne_tup (i : List D) (y : D) : cmpC cal .ne tb (.tup i) y S = M.opt ((cmpD S .ne (.tup i) y).map .bl) S := rfl
@[simp] theorem cmpC_ne_fl (i : List D) (y : D) : cmpC cal .ne tb (.fl i) y S = M.opt ((cmpD S .ne (.fl i) y).map .bl) S := rfl
@[simp] theorem cmpC_ne_bl (i : Bool) (y : D) : cmpC cal .ne tb (.bl i) y S = M.opt ((cmpD S .ne (.bl i) y).map .bl) S := rfl
@[simp] theorem cmpC_ne_ref (i : Nat) (y : D) : cmpC cal .ne tb (.ref i) y S = M.opt ((cmpD S .ne (.ref i) y).map .bl) S := rfl
@[simp] theorem cmpC_ne_sc (i : List D) (y : D) : cmpC cal .ne tb (.sc i) y S = M.opt ((cmpD S .ne (.sc i) y).map .bl) S := rfl
@[simp] theorem cmpC_lt_non  (y : D) : cmpC cal .lt tb (.non ) y S = M.opt ((cmpD S .lt (.non ) y).map .bl) S := rfl
@[simp] theorem cmpC_lt_int (i : Int) (y : D) : cmpC cal .lt tb (.int i) y S = M.opt ((cmpD S .lt (.int i) y).map .bl) S := rfl
@[simp] theorem cmpC_lt_str (i : List Nat) (y : D) : cmpC cal .lt tb (.str i) y S = M.opt ((cmpD S .lt (.str i) y).map .bl) S := rfl
@[simp] theorem cmpC_lt_tup (i : List D) (y : D) : cmpC cal .lt tb (.tup i) y S = M.opt ((cmpD S .lt (.tup i) y).map .bl) S := rfl
@[simp] theorem cmpC_lt_fl (i : List D) (y : D) : cmpC cal .lt tb (.fl i) y S = M.opt ((cmpD S .lt (.fl i) y).map .bl) S := rfl
@[simp] theorem cmpC_lt_bl (i : Bool) (y : D) : cmpC cal .lt tb (.bl i) y S = M.opt ((cmpD S .lt (.bl i) y).map .bl) S := rfl
@[simp] theorem cmpC_lt_ref (i : Nat) (y : D) : cmpC cal .lt tb (.ref i) y S = M.opt ((cmpD S .lt (.ref i) y).map .bl) S := rfl
@[simp] theorem cmpC_lt_sc (i : List D) (y : D) : cmpC cal .lt tb (.sc i) y S = M.opt ((cmpD S .lt (.sc i) y).map .bl) S := rfl
@[simp] theorem cmpC_le_non  (y : D) : cmpC cal .le tb (.non ) y S = M.opt ((cmpD S .le (.non ) y).map .bl) S := rfl
@[simp] theorem cmpC_le_int (i : Int) (y : D) : cmpC cal .le tb (.int i) y S = M.opt ((cmpD S .le (.int i) y).map .bl) S := rfl
@[simp] theorem cmpC_le_str (i : List Nat) (y : D) : cmpC cal .le tb (.str i) y S = M.opt ((cmpD S .le (.str i) y).map .bl) S := rfl
@[simp] theorem cmpC_le_tup (i : List D) (y : D) : cmpC cal .le tb (.tup i) y S = M.opt ((cmpD S .le (.tup i) y).map .bl) S := rfl
@[simp] theorem cmpC_le_fl (i : List D) (y : D) : cmpC cal .le tb (.fl i) y S = M.opt ((cmpD S .le (.fl i) y).map .bl) S := rfl
@[simp] theorem cmpC_le_bl (i : Bool) (y : D) : cmpC cal .le tb (.bl i) y S = M.opt ((cmpD S .le (.bl i) y).map .bl) S := rfl
@[simp] theorem cmpC_le_ref (i : Nat) (y : D) : cmpC cal .le tb (.ref i) y S = M.opt ((cmpD S .le (.ref i) y).map .bl) S := rfl
@[simp] theorem cmpC_le_sc (i : List D) (y : D) : cmpC cal .le tb (.sc i) y S = M.opt ((cmpD S .le (.sc i) y).map .bl) S := rfl
@[simp] theorem cmpC_gt_non  (y : D) : cmpC cal .gt tb (.non ) y S = M.opt ((cmpD S .gt (.non ) y).map .bl) S := rfl
@[simp] theorem cmpC_gt_int (i : Int) (y : D) : cmpC cal .gt tb (.int i) y S = M.opt ((cmpD S .gt (.int i) y).map .bl) S := rfl
@[simp] theorem cmpC_gt_str (i : List Nat) (y : D) : cmpC cal .gt tb (.str i) y S = M.opt ((cmpD S .gt (.str i) y).map .bl) S := rfl
@[simp] theorem cmpC_gt_tup (i : List D) (y : D) : cmpC cal .gt tb (.tup i) y S = M.opt ((cmpD S .gt (.tup i) y).map .bl) S := rfl
@[simp] theorem cmpC_gt_fl (i : List D) (y : D) : cmpC cal .gt tb (.fl i) y S = M.opt ((cmpD S .gt (.fl i) y).map .bl) S := rfl
@[simp] theorem cmpC_gt_bl (i : Bool) (y : D) : cmpC cal .gt tb (.bl i) y S = M.opt ((cmpD S .gt (.bl i) y).map .bl) S := rfl
@[simp] theorem cmpC_gt_ref (i : Nat) (y : D) : cmpC cal .gt tb (.ref i) y S = M.opt ((cmpD S .gt (.ref i) y).map .bl) S := rfl
@[simp] theorem cmpC_gt_sc (i : List D) (y : D) : cmpC cal .gt tb (.sc i) y S = M.opt ((cmpD S .gt (.sc i) y).map .bl) S := rfl
@[simp] theorem cmpC_ge_non  (y : D) : cmpC cal .ge tb (.non ) y S = M.opt ((cmpD S .ge (.non ) y).map .bl) S := rfl
@[simp] theorem cmpC_ge_int (i : Int) (y : D) : cmpC cal .ge tb (.int i) y S = M.opt ((cmpD S .ge (.int i) y).map .bl) S := rfl
@[simp] theorem cmpC_ge_str (i : List Nat) (y : D) : cmpC cal .ge tb (.str i) y S = M.opt ((cmpD S .ge (.str i) y).map .bl) S := rfl
@[simp] theorem cmpC_ge_tup (i : List D) (y : D) : cmpC cal .ge tb (.tup i) y S = M.opt ((cmpD S .ge (.tup i) y).map .bl) S := rfl
@[simp] theorem cmpC_ge_fl (i : List D) (y : D) : cmpC cal .ge tb (.fl i) y S = M.opt ((cmpD S .ge (.fl i) y).map .bl) S := rfl
@[simp] theorem cmpC_ge_bl (i : Bool) (y : D) : cmpC cal .ge tb (.bl i) y S = M.opt ((cmpD S .ge (.bl i) y).map .bl) S := rfl
@[simp] theorem cmpC_ge_ref (i : Nat) (y : D) : cmpC cal .ge tb (.ref i) y S = M.opt ((cmpD S .ge (.ref i) y).map .bl) S := rfl
@[simp] theorem cmpC_ge_sc (i : List D) (y : D) : cmpC cal .ge tb (.sc i) y S = M.opt ((cmpD S .ge (.sc i) y).map .bl) S := rfl
@[simp] theorem cmpC_inn_str (i : List Nat) (x : D) : cmpC cal .inn tb x (.str i) S = M.opt ((cmpD S .inn x (.str i)).map .bl) S := rfl
@[simp] theorem cmpC_inn_tup (i : List D) (x : D) : cmpC cal .inn tb x (.tup i) S = M.opt ((cmpD S .inn x (.tup i)).map .bl) S := rfl
@[simp] theorem cmpC_inn_fl (i : List D) (x : D) : cmpC cal .inn tb x (.fl i) S = M.opt ((cmpD S .inn x (.fl i)).map .bl) S := rfl
@[simp] theorem cmpC_inn_ref (i : Nat) (x : D) : cmpC cal .inn tb x (.ref i) S = M.opt ((cmpD S .inn x (.ref i)).map .bl) S := rfl
@[simp] theorem cmpC_inn_sc (i : List D) (x : D) : cmpC cal .inn tb x (.sc i) S = M.opt ((cmpD S .inn x (.sc i)).map .bl) S := rfl
@[simp] theorem cmpC_nin_str (i : List Nat) (x : D) : cmpC cal .nin tb x (.str i) S = M.opt ((cmpD S .nin x (.str i)).map .bl) S := rfl
@[simp] theorem cmpC_nin_tup (i : List D) (x : D) : cmpC cal .nin tb x (.tup i) S = M.opt ((cmpD S .nin x (.tup i)).map .bl) S := rfl
@[simp] theorem cmpC_nin_fl (i : List D) (x : D) : cmpC cal .nin tb x (.fl i) S = M.opt ((cmpD S .nin x (.fl i)).map .bl) S := rfl
@[simp] theorem cmpC_nin_ref (i : Nat) (x : D) : cmpC cal .nin tb x (.ref i) S = M.opt ((cmpD S .nin x (.ref i)).map .bl) S := rfl
@[simp] theorem cmpC_nin_sc (i : List D) (x : D) : cmpC cal .nin tb x (.sc i) S = M.opt ((cmpD S .nin x (.sc i)).map .bl) S := rfl
end
@[simp] theorem eqA_non_non (S : Store)   : eqA S (.non ) (.non ) = eqS S (.non ) (.non ) := rfl
@[simp] theorem eqA_non_int (S : Store)  (j : Int) : eqA S (.non ) (.int j) = eqS S (.non ) (.int j) := rfl
@[simp] theorem eqA_non_str (S : Store)  (j : List Nat) : eqA S (.non ) (.str j) = eqS S (.non ) (.str j) := rfl
@[simp] theorem eqA_non_tup (S : Store)  (j : List D) : eqA S (.non ) (.tup j) = eqS S (.non ) (.tup j) := rfl
@[simp] theorem eqA_non_fl (S : Store)  (j : List D) : eqA S (.non ) (.fl j) = eqS S (.non ) (.fl j) := rfl
@[simp] theorem eqA_non_bl (S : Store)  (j : Bool) : eqA S (.non ) (.bl j) = eqS S (.non ) (.bl j) := rfl
@[simp] theorem eqA_int_non (S : Store) (i : Int)  : eqA S (.int i) (.non ) = eqS S (.int i) (.non ) := rfl
@[simp] theorem eqA_int_int (S : Store) (i : Int) (j : Int) : eqA S (.int i) (.int j) = eqS S (.int i) (.int j) := rfl
@[simp] theorem eqA_int_str (S : Store) (i : Int) (j : List Nat) : eqA S (.int i) (.str j) = eqS S (.int i) (.str j) := rfl
@[simp] theorem eqA_int_tup (S : Store) (i : Int) (j : List D) : eqA S (.int i) (.tup j) = eqS S (.int i) (.tup j) := rfl
@[simp] theorem eqA_int_fl (S : Store) (i : Int) (j : List D) : eqA S (.int i) (.fl j) = eqS S (.int i) (.fl j) := rfl
@[simp] theorem eqA_int_bl (S : Store) (i : Int) (j : Bool) : eqA S (.int i) (.bl j) = eqS S (.int i) (.bl j) := rfl
@[simp] theorem eqA_str_non (S : Store) (i : List Nat)  : eqA S (.str i) (.non ) = eqS S (.str i) (.non ) := rfl
@[simp] theorem eqA_str_int (S : Store) (i : List Nat) (j : Int) : eqA S (.str i) (.int j) = eqS S (.str i) (.int j) := rfl
@[simp] theorem eqA_str_str (S : Store) (i : List Nat) (j : List Nat) : eqA S (.str i) (.str j) = eqS S (.str i) (.str j) := rfl
@[simp] theorem eqA_str_tup (S : Store) (i : List Nat) (j : List D) : eqA S (.str i) (.tup j) = eqS S (.str i) (.tup j) := rfl
@[simp] theorem eqA_str_fl (S : Store) (i : List Nat) (j : List D) : eqA S (.str i) (.fl j) = eqS S (.str i) (.fl j) := rfl
@[simp] theorem eqA_str_bl (S : Store) (i : List Nat) (j : Bool) : eqA S (.str i) (.bl j) = eqS S (.str i) (.bl j) := rfl
@[simp] theorem eqA_tup_non (S : Store) (i : List D)  : eqA S (.tup i) (.non ) = eqS S (.tup i) (.non ) := rfl
@[simp] theorem eqA_tup_int (S : Store) (i : List D) (j : Int) : eqA S (.tup i) (.int j) = eqS S (.tup i) (.int j) := rfl
@[simp] theorem eqA_tup_str (S : Store) (i : List D) (j : List Nat) : eqA S (.tup i) (.str j) = eqS S (.tup i) (.str j) := rfl
@[simp] theorem eqA_tup_tup (S : Store) (i : List D) (j : List D) : eqA S (.tup i) (.tup j) = eqS S (.tup i) (.tup j) := rfl
@[simp] theorem eqA_tup_fl (S : Store) (i : List D) (j : List D) : eqA S (.tup i) (.fl j) = eqS S (.tup i) (.fl j) := rfl
@[simp] theorem eqA_tup_bl (S : Store) (i : List D) (j : Bool) : eqA S (.tup i) (.bl j) = eqS S (.tup i) (.bl j) := rfl
@[simp] theorem eqA_fl_non (S : Store) (i : List D)  : eqA S (.fl i) (.non ) = eqS S (.fl i) (.non ) := rfl
@[simp] theorem eqA_fl_int (S : Store) (i : List D) (j : Int) : eqA S (.fl i) (.int j) = eqS S (.fl i) (.int j) := rfl
@[simp] theorem eqA_fl_str (S : Store) (i : List D) (j : List Nat) : eqA S (.fl i) (.str j) = eqS S (.fl i) (.str j) := rfl
@[simp] theorem eqA_fl_tup (S : Store) (i : List D) (j : List D) : eqA S (.fl i) (.tup j) = eqS S (.fl i) (.tup j) := rfl
@[simp] theorem eqA_fl_fl (S : Store) (i : List D) (j : List D) : eqA S (.fl i) (.fl j) = eqS S (.fl i) (.fl j) := rfl
@[simp] theorem eqA_fl_bl (S : Store) (i : List D) (j : Bool) : eqA S (.fl i) (.bl j) = eqS S (.fl i) (.bl j) := rfl
@[simp] theorem eqA_bl_non (S : Store) (i : Bool)  : eqA S (.bl i) (.non ) = eqS S (.bl i) (.non ) := rfl
@[simp] theorem eqA_bl_int (S : Store) (i : Bool) (j : Int) : eqA S (.bl i) (.int j) = eqS S (.bl i) (.int j) := rfl
@[simp] theorem eqA_bl_str (S : Store) (i : Bool) (j : List Nat) : eqA S (.bl i) (.str j) = eqS S (.bl i) (.str j) := rfl
@[simp] theorem eqA_bl_tup (S : Store) (i : Bool) (j : List D) : eqA S (.bl i) (.tup j) = eqS S (.bl i) (.tup j) := rfl
@[simp] theorem eqA_bl_fl (S : Store) (i : Bool) (j : List D) : eqA S (.bl i) (.fl j) = eqS S (.bl i) (.fl j) := rfl
@[simp] theorem eqA_bl_bl (S : Store) (i : Bool) (j : Bool) : eqA S (.bl i) (.bl j) = eqS S (.bl i) (.bl j) := rfl
@[simp] theorem inD_str (S : Store) (i : List Nat) (x : D) : inD S x (.str i) = inS S x (.str i) := rfl
@[simp] theorem inD_tup (S : Store) (i : List D) (x : D) : inD S x (.tup i) = inS S x (.tup i) := rfl
@[simp] theorem inD_fl (S : Store) (i : List D) (x : D) : inD S x (.fl i) = inS S x (.fl i) := rfl
@[simp] theorem cmpD_eq (S : Store) (x y : D) : cmpD S .eq x y = eqA S x y := rfl
@[simp] theorem cmpD_ne (S : Store) (x y : D) : cmpD S .ne x y = (eqA S x y).map (!·) := rfl
@[simp] theorem cmpD_inn (S : Store) (x y : D) : cmpD S .inn x y = inD S x y := rfl
@[simp] theorem cmpD_nin (S : Store) (x y : D) : cmpD S .nin x y = (inD S x y).map (!·) := rfl
@[simp] theorem cmpD_lt (S : Store) (i j : Int) : cmpD S .lt (.int i) (.int j) = some (decide (i < j)) := rfl
@[simp] theorem cmpD_le (S : Store) (i j : Int) : cmpD S .le (.int i) (.int j) = some (decide (i ≤ j)) := rfl
@[simp] theorem cmpD_gt (S : Store) (i j : Int) : cmpD S .gt (.int i) (.int j) = some (decide (j < i)) := rfl
@[simp] theorem cmpD_ge (S : Store) (i j : Int) : cmpD S .ge (.int i) (.int j) = some (decide (j ≤ i)) := rfl
@[simp] theorem eqS_int (S : Store) (i j : Int) : eqS S (.int i) (.int j) = some (i == j) := rfl
@[simp] theorem eqS_int_non (S : Store) (i : Int) : eqS S (.int i) .non = some false := rfl
@[simp] theorem eqS_non_int (S : Store) (i : Int) : eqS S .non (.int i) = some false := rfl
@[simp] theorem eqS_non (S : Store) : eqS S .non .non = some true := rfl
theorem all_truth (f : D → Bool) : ∀ xs : List D, allSome truth (xs.map fun x => D.bl (f x)) = some (xs.map f)
  | [] => rfl
  | x :: xs => by simp [allSome, truth, all_truth f xs]
@[simp] theorem bi_all_map (S : Store) (f : D → Bool) (xs : List D) : biD S .all [.fl (xs.map fun x => D.bl (f x))] = some (.bl (xs.all f)) := by
  simp [biD, biS, dictOf, seqOf, itemsOf, all_truth, List.all_map]
@[simp] theorem bi_len_tup (S : Store) (xs : List D) : biD S .len [.tup xs] = some (.int xs.length) := rfl
@[simp] theorem bi_len_fl (S : Store) (xs : List D) : biD S .len [.fl xs] = some (.int xs.length) := rfl
@[simp] theorem bi_tuple_fl (S : Store) (xs : List D) : biD S .tuple [.fl xs] = some (.tup xs) := rfl
@[simp] theorem bi_tuple_tup (S : Store) (xs : List D) : biD S .tuple [.tup xs] = some (.tup xs) := rfl
end Lk
end

section
set_option Elab.async false
set_option linter.all false
set_option maxRecDepth 100000
set_option maxHeartbeats 1000000
namespace K01
open Lk
def b0_0 : XSs := (.cons (.set (.nm 2) (.bin .add [(0, 21)] [] (.con (.int 1)) (.call 2 (.cons (.var 4) (.cons (.con (.int 2)) .nil)) [.arg 0, .arg 1]))) (.cons (.set (.nm 6) (.call 1 (.cons (.var 4) (.cons (.var 2) (.cons (.con (.int 5)) .nil))) [.arg 0, .arg 1, .arg 2])) (.cons (.ite (.and (.cmp .eq [(0, 19)] (.var 3) (.con (.int 2))) (.cmp .eq [(0, 19)] (.idx [(0, 24)] (.var 5) (.con (.int 0))) (.var 2))) (.cons (.set (.nm 6) (.bin .add [(0, 21)] [] (.idx [(0, 24)] (.var 5) (.con (.int 1))) (.var 6))) .nil) .nil) (.cons (.ite (.or (.not (.call 6 (.cons (.var 4) (.cons (.var 2) (.cons (.var 6) .nil))) [.arg 0, .arg 1, .arg 2])) (.not (.call 3 (.cons (.var 5) (.cons (.tup (.cons (.var 2) (.cons (.var 6) .nil))) .nil)) [.arg 0, .arg 1]))) (.cons (.ret (.con (.bl false))) .nil) .nil) (.cons (.ite (.not (.call 3 (.cons (.tup (.cons (.var 2) (.cons (.var 6) .nil))) (.cons (.var 5) .nil)) [.arg 0, .arg 1])) (.cons (.ret (.con (.bl false))) .nil) .nil) (.cons (.set (.nm 5) (.tup (.cons (.var 2) (.cons (.var 6) .nil)))) .nil))))))
def b0_1 : XSs := (.cons (.set (.tp (.cons (.nm 4) (.cons (.nm 5) .nil))) (.tup (.cons (.mat (.lst (.cons (.var 0) (.cons (.var 1) (.cons (.con (.int 0)) .nil))))) (.cons (.tup (.cons (.con (.int 1)) (.cons (.tup .nil) .nil))) .nil)))) (.cons (.for (.nm 3) (.rng (.cons (.con (.int 4)) .nil)) b0_0) .nil))
def c0_2 : XE := (.lcm [7] (.nm 7) (.rng (.cons (.con (.int 1)) (.cons (.con (.int 5)) .nil))) .yes (.call 4 (.cons (.var 2) (.cons (.var 7) .nil)) [.arg 0, .arg 1]))
def c0_3 : XE := (.lcm [7] (.nm 7) (.rng (.cons (.con (.int 1)) (.cons (.con (.int 5)) .nil))) .yes (.call 5 (.cons (.var 2) (.cons (.var 7) .nil)) [.arg 0, .arg 1]))
def b0_4 : XSs := (.cons (.ite (.cmp .ne [(0, 19)] c0_2 c0_3) (.cons (.ret (.con (.bl false))) .nil) .nil) .nil)
def e0 : Def := ⟨1, 7, none, (.cons (.set (.nm 0) (.slc (.var 0) .no (.so (.con (.int 63))))) (.cons (.for (.nm 1) (.rng (.cons (.con (.int 0)) (.cons (.bi .max [] (.cons (.con (.int 1)) (.cons (.bi .min [] (.cons (.con (.int 12)) (.cons (.bi .len [(0, 26)] (.cons (.var 0) .nil)) .nil))) .nil))) (.cons (.con (.int 3)) .nil)))) b0_1) (.cons (.for (.nm 2) (.of (.tup (.cons (.con (.int 1)) (.cons (.con (.int 2)) .nil)))) b0_4) (.cons (.ret (.con (.bl true))) .nil)))), false, none⟩
def c1_0 : XE := (.lcm [5] (.nm 5) (.rng (.cons (.var 1) .nil)) .yes (.call 7 (.cons (.var 0) (.cons (.lst (.cons (.con .non) (.cons (.con (.int 0)) (.cons (.con (.int 1)) (.cons (.con (.int 2)) (.cons (.con (.int 9)) .nil)))))) .nil)) [.arg 0, .arg 1]))
def b1_1 : XSs := (.cons (.expr (.mth .append (.var 3) (.cons (.bi .tuple [] (.cons c1_0 .nil)) .nil))) .nil)
def e1 : Def := ⟨3, 3, none, (.cons (.set (.nm 3) (.mat (.lst .nil))) (.cons (.for (.nm 4) (.rng (.cons (.call 2 (.cons (.var 0) (.cons (.bin .add [(0, 21)] [] (.var 2) (.con (.int 1))) .nil)) [.arg 0, .arg 1]) .nil)) b1_1) (.cons (.ret (.bi .tuple [] (.cons (.var 3) .nil))) .nil))), false, none⟩
def e2 : Def := ⟨2, 2, none, (.cons (.setIx (.var 0) (.con (.int 2)) (.bin .add [(0, 21)] [] (.idx [(0, 24)] (.var 0) (.con (.int 2))) (.con (.int 1)))) (.cons (.set (.nm 2) (.bin .fdiv [] [] (.idx [(0, 24)] (.var 0) (.con (.int 2))) (.con (.int 12)))) (.cons (.set (.nm 3) (.bin .add [(0, 21)] [] (.call 9 (.cons (.idx [(0, 24)] (.var 0) (.con (.int 0))) (.cons (.bin .add [(0, 21)] [] (.idx [(0, 24)] (.var 0) (.con (.int 1))) (.var 2)) .nil)) [.arg 0, .arg 1]) (.bin .mul [(0, 29)] [(0, 30)] (.con (.int 31)) (.var 2)))) (.cons (.ret (.call 8 (.cons (.var 3) (.cons (.bin .add [(0, 21)] [] (.bin .mod [] [] (.bi .int [] (.cons (.idx [(0, 24)] (.var 0) (.con (.int 2))) .nil)) (.con (.int 12))) (.con (.int 1))) (.cons (.var 1) .nil))) [.arg 0, .arg 1, .arg 2])) .nil)))), false, none⟩
def c3_0 : XE := (.ask 0 (.tup (.cons (.att [(0, .prop 17)] (.var 1)) (.cons (.att [(0, .prop 18)] (.var 1)) .nil))) [([1], [0, 2, 3], some (.str [100, 97, 116, 97])), ([2], [0, 1, 3], some (.str [114, 111, 119])), ([3], [0, 1, 2], some (.str [110, 117, 109, 98, 101, 114]))] (.bin .add [(0, 21)] [] (.var 5) (.var 6)))
def c3_1 : XE := (.ask 0 (.tup (.cons (.att [(0, .prop 17)] (.var 1)) (.cons (.att [(0, .prop 18)] (.var 1)) .nil))) [([1], [0, 2, 3], some (.str [100, 97, 116, 97])), ([2], [0, 1, 3], some (.str [114, 111, 119])), ([3], [0, 1, 2], some (.str [110, 117, 109, 98, 101, 114]))] (.bin .sub [(0, 32)] [] (.var 6) (.var 5)))
def b3_2 : XSs := (.cons (.set (.nm 4) (.bin .add [(0, 21)] [] (.var 4) (.con (.int 1)))) .nil)
def c3_3 : XE := (.ask 0 (.tup (.cons (.att [(0, .prop 17)] (.var 1)) (.cons (.att [(0, .prop 18)] (.var 1)) .nil))) [([1], [0, 2, 3], some (.str [100, 97, 116, 97])), ([2], [0, 1, 3], some (.str [114, 111, 119])), ([3], [0, 1, 2], some (.str [110, 117, 109, 98, 101, 114]))] (.bin .band [(0, 22)] [] (.var 5) (.var 6)))
def e3 : Def := ⟨2, 5, none, (.cons (.set (.tp (.cons (.nm 5) (.cons (.nm 6) .nil))) (.tup (.cons (.make 0 10 0 (.cons (.idx [(0, 24)] (.var 0) (.con (.int 1))) (.cons (.idx [(0, 24)] (.var 0) (.con (.int 0))) .nil)) [.arg 0, .arg 1]) (.cons (.make 0 10 0 (.cons (.idx [(0, 24)] (.var 1) (.con (.int 1))) (.cons (.idx [(0, 24)] (.var 1) (.con (.int 0))) .nil)) [.arg 0, .arg 1]) .nil)))) (.cons (.set (.nm 2) (.cmp .eq [(0, 19)] (.idx [(0, 24)] (.var 0) (.con (.int 0))) (.idx [(0, 24)] (.var 1) (.con (.int 0))))) (.cons (.ite (.cmp .ne [(0, 19)] c3_0 (.ite (.var 2) (.tup (.cons (.idx [(0, 24)] (.var 0) (.con (.int 0))) (.cons (.bin .add [(0, 21)] [] (.idx [(0, 24)] (.var 0) (.con (.int 1))) (.idx [(0, 24)] (.var 1) (.con (.int 1)))) .nil))) (.con (.str [100, 97, 116, 97])))) (.cons (.ret (.con (.bl false))) .nil) .nil) (.cons (.set (.nm 3) (.and (.var 2) (.cmp .eq [(0, 19)] (.slc (.idx [(0, 24)] (.var 1) (.con (.int 1))) .no (.so (.bi .len [(0, 26)] (.cons (.idx [(0, 24)] (.var 0) (.con (.int 1))) .nil)))) (.idx [(0, 24)] (.var 0) (.con (.int 1)))))) (.cons (.ite (.or (.cmp .ne [(0, 19)] (.cmp .le [(0, 25)] (.var 5) (.var 6)) (.var 3)) (.cmp .ne [(0, 19)] (.cmp .lt [(0, 28)] (.var 5) (.var 6)) (.and (.var 3) (.cmp .ne [(0, 19)] (.var 0) (.var 1))))) (.cons (.ret (.con (.bl false))) .nil) .nil) (.cons (.ite (.cmp .ne [(0, 19)] (.cmp .eq [(0, 19)] (.var 5) (.var 6)) (.cmp .eq [(0, 19)] (.var 0) (.var 1))) (.cons (.ret (.con (.bl false))) .nil) .nil) (.cons (.ite (.cmp .ne [(0, 19)] c3_1 (.ite (.var 3) (.tup (.cons (.idx [(0, 24)] (.var 0) (.con (.int 0))) (.cons (.slc (.idx [(0, 24)] (.var 1) (.con (.int 1))) (.so (.bi .len [(0, 26)] (.cons (.idx [(0, 24)] (.var 0) (.con (.int 1))) .nil))) .no) .nil))) (.con (.str [100, 97, 116, 97])))) (.cons (.ret (.con (.bl false))) .nil) .nil) (.cons (.set (.nm 4) (.con (.int 0))) (.cons (.whl (.and (.cmp .lt [(0, 28)] (.var 4) (.bi .len [(0, 26)] (.cons (.idx [(0, 24)] (.var 0) (.con (.int 1))) .nil))) (.and (.cmp .lt [(0, 28)] (.var 4) (.bi .len [(0, 26)] (.cons (.idx [(0, 24)] (.var 1) (.con (.int 1))) .nil))) (.cmp .eq [(0, 19)] (.idx [(0, 24)] (.idx [(0, 24)] (.var 0) (.con (.int 1))) (.var 4)) (.idx [(0, 24)] (.idx [(0, 24)] (.var 1) (.con (.int 1))) (.var 4))))) b3_2) (.cons (.ret (.cmp .eq [(0, 19)] c3_3 (.ite (.var 2) (.tup (.cons (.idx [(0, 24)] (.var 0) (.con (.int 0))) (.cons (.slc (.idx [(0, 24)] (.var 0) (.con (.int 1))) .no (.so (.var 4))) .nil))) (.con (.str [100, 97, 116, 97]))))) .nil)))))))))), false, none⟩
def e4 : Def := ⟨2, 0, none, (.cons (.ite (.or (.not (.call 12 (.cons (.var 0) (.cons (.con (.int 1)) (.cons (.con (.int 2)) .nil))) [.arg 0, .arg 1, .arg 2])) (.not (.call 12 (.cons (.var 1) (.cons (.con (.int 1)) (.cons (.con (.int 4)) .nil))) [.arg 0, .arg 1, .arg 2]))) (.cons (.raise 3 .nil) .nil) .nil) (.cons (.ret (.call 11 (.cons (.var 0) (.cons (.var 1) .nil)) [.arg 0, .arg 1])) .nil)), false, none⟩
def c5_0 : XE := (.lcm [4] (.nm 4) (.of (.var 2)) .yes (.tup (.cons (.var 4) .nil)))
def c5_1 : XE := (.lcm [5] (.nm 5) (.of (.var 2)) .yes (.tup (.cons (.var 4) (.cons (.var 5) .nil))))
def b5_2 : XSs := (.cons (.set (.nm 3) (.bin .add [(0, 21)] [] (.var 3) c5_1)) .nil)
def e5 : Def := ⟨2, 4, none, (.cons (.set (.nm 2) (.bin .add [(0, 21)] [] (.lst (.cons (.con .non) .nil)) (.lrng (.cons (.bin .add [(0, 21)] [] (.var 1) (.con (.int 1))) .nil)))) (.cons (.ite (.cmp .eq [(0, 19)] (.var 0) (.con (.int 1))) (.cons (.ret c5_0) .nil) .nil) (.cons (.set (.nm 3) (.lst .nil)) (.cons (.for (.nm 4) (.of (.var 2)) b5_2) (.cons (.ret (.var 3)) .nil))))), false, none⟩
def c6_0 : XE := (.lcm [11] (.nm 11) (.of (.var 4)) (.isN (.var 11)) (.var 11))
def c6_1 : XE := (.lcm [4] (.nm 4) (.of (.var 2)) .yes (.bi .len [(0, 26)] (.cons c6_0 .nil)))
def c6_2 : XE := (.lcm [10] (.nm 10) (.rng (.cons (.var 7) .nil)) .yes (.idx [(0, 24)] (.var 6) (.var 10)))
def c6_3 : XE := (.lcm [4] (.nm 4) (.of (.var 3)) .yes (.cmp .inn [(0, 23)] (.var 4) (.var 6)))
def c6_4 : XE := (.lcm [4] (.nm 4) (.of (.var 3)) .yes (.and (.cmp .inn [(0, 23)] (.var 4) (.var 2)) (.cmp .ne [(0, 19)] (.var 4) (.tup (.cons (.con (.bl true)) .nil)))))
def c6_5 : XE := (.lcm [11] (.nm 11) (.of (.var 4)) .yes (.isi 1 [.bool] (.var 11)))
def c6_6 : XE := (.ask 0 (.tup (.cons (.att [(0, .prop 17)] (.var 1)) (.cons (.att [(0, .prop 18)] (.var 1)) .nil))) [([1], [0, 2, 3], some (.str [100, 97, 116, 97])), ([2], [0, 1, 3], some (.str [114, 111, 119])), ([3], [0, 1, 2], some (.str [110, 117, 109, 98, 101, 114]))] (.bin .shl [(0, 27)] [] (.var 6) (.var 4)))
def b6_7 : XSs := (.cons (.set (.nm 8) (.and (.isi 1 [.tup] (.var 4)) (.and (.cmp .eq [(0, 19)] (.bi .len [(0, 26)] (.cons (.var 4) .nil)) (.var 1)) (.cmp .nin [(0, 23)] (.var 4) (.tup (.cons (.tup (.cons (.con (.int 10)) .nil)) (.cons (.tup (.cons (.con (.bl true)) .nil)) .nil))))))) (.cons (.set (.nm 8) (.and (.var 8) (.not (.bi .any [] (.cons c6_5 .nil))))) (.cons (.set (.nm 9) (.ite (.var 8) (.tup (.cons (.var 1) (.cons (.bin .add [(0, 21)] [] (.var 2) (.tup (.cons (.var 4) .nil))) .nil))) (.con (.str [114, 111, 119])))) (.cons (.ite (.cmp .ne [(0, 19)] c6_6 (.var 9)) (.cons (.ret (.con (.bl false))) .nil) .nil) .nil))))
def c6_8 : XE := (.ask 0 (.tup (.cons (.att [(0, .prop 17)] (.var 1)) (.cons (.att [(0, .prop 18)] (.var 1)) .nil))) [([1], [0, 2, 3], some (.str [100, 97, 116, 97])), ([2], [0, 1, 3], some (.str [114, 111, 119])), ([3], [0, 1, 2], some (.str [110, 117, 109, 98, 101, 114]))] (.bin .shr [(0, 31)] [] (.var 6) (.var 5)))
def b6_9 : XSs := (.cons (.set (.nm 9) (.ite (.cmp .le [(0, 25)] (.var 5) (.var 7)) (.tup (.cons (.var 1) (.cons (.slc (.var 2) (.so (.var 5)) .no) .nil))) (.con (.str [110, 117, 109, 98, 101, 114])))) (.cons (.ite (.cmp .ne [(0, 19)] c6_8 (.var 9)) (.cons (.ret (.con (.bl false))) .nil) .nil) .nil))
def c6_10 : XE := (.ask 0 (.tup (.cons (.att [(0, .prop 17)] (.var 1)) (.cons (.att [(0, .prop 18)] (.var 1)) .nil))) [([1], [0, 2, 3], some (.str [100, 97, 116, 97])), ([2], [0, 1, 3], some (.str [114, 111, 119])), ([3], [0, 1, 2], some (.str [110, 117, 109, 98, 101, 114]))] (.bin .mul [(0, 29)] [(0, 30)] (.var 6) (.var 5)))
def c6_11 : XE := (.ask 0 (.tup (.cons (.att [(0, .prop 17)] (.var 1)) (.cons (.att [(0, .prop 18)] (.var 1)) .nil))) [([1], [0, 2, 3], some (.str [100, 97, 116, 97])), ([2], [0, 1, 3], some (.str [114, 111, 119])), ([3], [0, 1, 2], some (.str [110, 117, 109, 98, 101, 114]))] (.bin .mul [(0, 29)] [(0, 30)] (.var 5) (.var 6)))
def b6_12 : XSs := (.cons (.set (.nm 9) (.ite (.and (.cmp .le [(0, 25)] (.bin .mul [(0, 29)] [(0, 30)] (.var 7) (.var 5)) (.con (.int 300))) (.cmp .lt [(0, 28)] (.var 5) (.con (.int 400)))) (.tup (.cons (.var 1) (.cons (.bin .mul [(0, 29)] [(0, 30)] (.var 2) (.var 5)) .nil))) (.con (.str [100, 97, 116, 97])))) (.cons (.set (.nm 9) (.ite (.cmp .eq [(0, 19)] (.var 2) (.tup .nil)) (.tup (.cons (.var 1) (.cons (.tup .nil) .nil))) (.var 9))) (.cons (.ite (.cmp .ne [(0, 19)] c6_10 (.var 9)) (.cons (.ret (.con (.bl false))) .nil) .nil) (.cons (.ite (.cmp .ne [(0, 19)] c6_11 (.var 9)) (.cons (.ret (.con (.bl false))) .nil) .nil) .nil))))
def e6 : Def := ⟨3, 9, none, (.cons (.set (.tp (.cons (.nm 6) (.cons (.nm 7) .nil))) (.tup (.cons (.make 0 10 0 (.cons (.bi .list [] (.cons (.var 2) .nil)) (.cons (.var 1) .nil)) [.arg 0, .arg 1]) (.cons (.bi .len [(0, 26)] (.cons (.var 2) .nil)) .nil)))) (.cons (.ite (.cmp .ne [(0, 19)] (.tup (.cons (.att [(0, .prop 17)] (.var 6)) (.cons (.att [(0, .prop 18)] (.var 6)) (.cons (.bi .len [(0, 26)] (.cons (.var 6) .nil)) .nil)))) (.tup (.cons (.var 1) (.cons (.var 2) (.cons (.var 7) .nil))))) (.cons (.ret (.con (.bl false))) .nil) .nil) (.cons (.ite (.cmp .ne [(0, 19)] (.bi .abs [(0, 20)] (.cons (.var 6) .nil)) (.bi .sum [] (.cons c6_1 .nil))) (.cons (.ret (.con (.bl false))) .nil) .nil) (.cons (.ite (.or (.cmp .ne [(0, 19)] c6_2 (.bi .list [] (.cons (.var 2) .nil))) (.not (.cmp .eq [(0, 19)] (.var 6) (.make 0 10 0 (.cons (.var 2) (.cons (.var 1) .nil)) [.arg 0, .arg 1])))) (.cons (.ret (.con (.bl false))) .nil) .nil) (.cons (.set (.nm 3) (.lst (.cons (.tup (.cons (.con .non) .nil)) (.cons (.tup (.cons (.con (.int 0)) .nil)) (.cons (.tup (.cons (.con (.int 9)) .nil)) (.cons (.tup (.cons (.con .non) (.cons (.con .non) .nil))) (.cons (.tup (.cons (.con (.int 1)) (.cons (.con (.int 9)) .nil))) (.cons (.tup (.cons (.con (.int 10)) .nil)) (.cons (.con .non) (.cons (.con (.int 5)) (.cons (.lst (.cons (.con (.int 0)) .nil)) (.cons (.tup (.cons (.con (.bl true)) .nil)) (.cons (.tup (.cons (.con (.int 1)) (.cons (.con (.int 2)) (.cons (.con (.int 3)) .nil)))) .nil))))))))))))) (.cons (.ite (.cmp .ne [(0, 19)] c6_3 c6_4) (.cons (.ret (.con (.bl false))) .nil) .nil) (.cons (.for (.nm 4) (.of (.var 3)) b6_7) (.cons (.for (.nm 5) (.rng (.cons (.bin .add [(0, 21)] [] (.var 7) (.con (.int 2))) .nil)) b6_9) (.cons (.for (.nm 5) (.of (.tup (.cons (.con (.int 0)) (.cons (.con (.int 1)) (.cons (.con (.int 3)) (.cons (.con (.int 300)) (.cons (.con (.int 301)) (.cons (.bin .pow [] [] (.con (.int 10)) (.con (.int 12))) .nil)))))))) b6_12) (.cons (.ret (.con (.bl true))) .nil)))))))))), false, none⟩
def e7 : Def := ⟨2, 0, none, (.cons (.ret (.idx [(0, 24)] (.var 1) (.call 2 (.cons (.var 0) (.cons (.bi .len [(0, 26)] (.cons (.var 1) .nil)) .nil)) [.arg 0, .arg 1]))) .nil), false, none⟩
def b8_0 : XSs := (.cons (.set (.nm 3) (.bin .mul [(0, 29)] [(0, 30)] (.var 3) (.con (.int 1009)))) .nil)
def e8 : Def := ⟨3, 4, none, (.cons (.set (.nm 3) (.con (.int 1))) (.cons (.for (.nm 4) (.rng (.cons (.bin .mod [] [] (.bi .int [] (.cons (.var 1) .nil)) (.con (.int 24))) .nil)) b8_0) (.cons (.set (.nm 5) (.bin .fdiv [] [] (.bin .sub [(0, 32)] [] (.var 0) (.bin .pow [] [] (.con (.int 10)) (.con (.int 18)))) (.var 3))) (.cons (.ite (.cmp .gt [] (.var 5) (.con (.int 0))) (.cons (.ret (.bin .mod [] [] (.bi .int [] (.cons (.bin .mod [] [] (.bi .int [] (.cons (.var 5) .nil)) (.con (.int 1009))) .nil)) (.var 2))) .nil) .nil) (.cons (.set (.nm 6) (.bin .mod [] [] (.bi .int [] (.cons (.var 0) .nil)) (.con (.int 1000003)))) (.cons (.ret (.bin .mod [] [] (.bi .int [] (.cons (.call 13 (.cons (.bin .mul [(0, 29)] [(0, 30)] (.bin .add [(0, 21)] [] (.var 6) (.bin .mul [(0, 29)] [(0, 30)] (.con (.int 977)) (.var 1))) (.bin .add [(0, 21)] [] (.bin .add [(0, 21)] [] (.var 6) (.bin .mul [(0, 29)] [(0, 30)] (.con (.int 31)) (.var 1))) (.con (.int 5)))) (.cons (.bin .add [(0, 21)] [] (.bin .mod [] [] (.bi .int [] (.cons (.var 1) .nil)) (.con (.int 9))) (.con (.int 1))) (.cons (.con (.int 999983)) .nil))) [.arg 0, .arg 1, .arg 2]) .nil)) (.var 2))) .nil)))))), false, none⟩
def e9 : Def := ⟨2, 0, none, (.cons (.ite (.cmp .lt [(0, 28)] (.var 1) (.bi .len [(0, 26)] (.cons (.var 0) .nil))) (.cons (.ret (.idx [(0, 24)] (.var 0) (.var 1))) .nil) .nil) (.cons (.ret (.con (.int 0))) .nil)), false, none⟩
def c10_0 : XE := (.lcm [4] (.nm 4) (.of (.var 1)) .yes (.call 15 (.cons (.var 4) (.cons (.var 3) (.cons (.con (.int 9)) .nil))) [.arg 0, .arg 1, .arg 2]))
def e10 : Def := ⟨2, 2, some (0, (.cons (.bi .tuple [] (.cons (.var 1) .nil)) (.cons (.var 3) .nil))), (.cons (.ite (.or (.not (.isi 1 [.lst, .tup] (.var 1))) (.cmp .gt [] (.bi .len [(0, 26)] (.cons (.var 1) .nil)) (.con (.int 300)))) (.cons (.raise 1 .nil) .nil) .nil) (.cons (.set (.nm 3) (.call 14 (.cons (.var 1) (.cons (.var 2) .nil)) [.arg 0, .arg 1])) (.cons (.ite (.or (.isN (.var 3)) (.not (.bi .all [] (.cons c10_0 .nil)))) (.cons (.raise 1 .nil) .nil) .nil) .nil))), false, none⟩
def c11_0 : XE := (.lcn [4, 5] (.cons [4, 5] (.nm 4) (.of (.var 2)) .yes (.cons [5] (.nm 5) (.of (.lst (.cons (.con .non) (.star (.lrng (.cons (.bin .add [(0, 21)] [] (.var 1) (.con (.int 1))) .nil)) .nil)))) .yes .nil)) (.tup (.star (.var 4) (.cons (.var 5) .nil))))
def b11_1 : XSs := (.cons (.set (.nm 2) c11_0) .nil)
def e11 : Def := ⟨2, 4, none, (.cons (.set (.nm 2) (.lst (.cons (.tup .nil) .nil))) (.cons (.for (.nm 3) (.rng (.cons (.var 0) .nil)) b11_1) (.cons (.ret (.var 2)) .nil))), false, none⟩
def e12 : Def := ⟨3, 0, none, (.cons (.ret (.and (.isi 1 [.int] (.var 0)) (.and (.not (.isi 1 [.bool] (.var 0))) (.chn .le .le (.var 1) (.var 0) (.var 2))))) .nil), false, none⟩
def e13 : Def := ⟨3, 1, none, (.cons (.set (.nm 3) (.tup (.cons (.con (.int 1000003)) (.cons (.con (.int 1000033)) (.cons (.con (.int 1000037)) (.cons (.con (.int 1000039)) (.cons (.con (.int 1000081)) (.cons (.con (.int 1000099)) (.cons (.con (.int 1000117)) (.cons (.con (.int 1000121)) (.cons (.con (.int 1000133)) (.cons (.con (.int 1000151)) (.cons (.con (.int 1000159)) (.cons (.con (.int 1000171)) (.cons (.con (.int 1000183)) (.cons (.con (.int 1000187)) (.cons (.con (.int 1000193)) (.cons (.con (.int 1000199)) .nil)))))))))))))))))) (.cons (.ret (.bin .mod [] [] (.bi .int [] (.cons (.bin .mod [] [] (.bi .int [] (.cons (.bin .add [(0, 21)] [] (.bin .mul [(0, 29)] [(0, 30)] (.var 0) (.con (.int 48271))) (.bin .mul [(0, 29)] [(0, 30)] (.var 1) (.con (.int 69621)))) .nil)) (.idx [(0, 24)] (.var 3) (.bin .mod [] [] (.bi .int [] (.cons (.var 1) .nil)) (.con (.int 16))))) .nil)) (.var 2))) .nil)), false, none⟩
def e14 : Def := ⟨2, 0, none, (.cons (.ite (.cmp .gt [] (.bi .len [(0, 26)] (.cons (.var 0) .nil)) (.con (.int 0))) (.cons (.set (.nm 1) (.ite (.isi 1 [.tup] (.idx [(0, 24)] (.var 0) (.con (.int 0)))) (.bi .len [(0, 26)] (.cons (.idx [(0, 24)] (.var 0) (.con (.int 0))) .nil)) (.con .non))) .nil) .nil) (.cons (.ret (.ite (.call 12 (.cons (.var 1) (.cons (.con (.int 1)) (.cons (.con (.int 2)) .nil))) [.arg 0, .arg 1, .arg 2]) (.var 1) (.con .non))) .nil)), false, none⟩
def c15_0 : XE := (.lcm [3] (.nm 3) (.of (.var 0)) .yes (.call 16 (.cons (.var 3) (.cons (.var 2) .nil)) [.arg 0, .arg 1]))
def e15 : Def := ⟨3, 1, none, (.cons (.ite (.or (.not (.isi 1 [.tup] (.var 0))) (.cmp .ne [(0, 19)] (.bi .len [(0, 26)] (.cons (.var 0) .nil)) (.var 1))) (.cons (.ret (.con (.bl false))) .nil) .nil) (.cons (.ret (.bi .all [] (.cons c15_0 .nil))) .nil)), false, none⟩
def e16 : Def := ⟨2, 0, none, (.cons (.ret (.or (.isN (.var 0)) (.call 12 (.cons (.var 0) (.cons (.con (.int 0)) (.cons (.var 1) .nil))) [.arg 0, .arg 1, .arg 2]))) .nil), false, none⟩
def e17 : Def := ⟨1, 0, none, (.cons (.ret (.att [(0, .slot 1)] (.var 0))) .nil), false, none⟩
def e18 : Def := ⟨1, 0, none, (.cons (.ret (.att [(0, .slot 0)] (.var 0))) .nil), false, none⟩
def e19 : Def := ⟨2, 0, none, (.cons (.ret (.and (.isi 1 [.own 0] (.var 1)) (.and (.cmp .eq [(0, 19)] (.att [(0, .slot 1)] (.var 0)) (.att [(0, .slot 1)] (.var 1))) (.cmp .eq [(0, 19)] (.att [(0, .slot 0)] (.var 0)) (.att [(0, .slot 0)] (.var 1)))))) .nil), false, none⟩
def c20_0 : XE := (.lcm [2] (.nm 2) (.of (.var 1)) (.isN (.var 2)) (.var 2))
def c20_1 : XE := (.lcm [1] (.nm 1) (.of (.att [(0, .slot 0)] (.var 0))) .yes (.bi .len [(0, 26)] (.cons c20_0 .nil)))
def e20 : Def := ⟨1, 2, none, (.cons (.ret (.bi .sum [] (.cons c20_1 .nil))) .nil), false, none⟩
def e21 : Def := ⟨2, 0, none, (.cons (.ite (.cmp .ne [(0, 19)] (.att [(0, .slot 1)] (.var 0)) (.att [(0, .prop 17)] (.var 1))) (.cons (.raise 1 .nil) .nil) .nil) (.cons (.ret (.make 0 10 0 (.cons (.bin .add [(0, 21)] [] (.att [(0, .slot 0)] (.var 0)) (.att [(0, .prop 18)] (.var 1))) (.cons (.att [(0, .slot 1)] (.var 0)) .nil)) [.arg 0, .arg 1])) .nil)), false, none⟩
def b22_0 : XSs := (.cons (.ite (.cmp .ne [(0, 19)] (.var 3) (.var 4)) (.cons .brk .nil) .nil) (.cons (.set (.nm 2) (.bin .add [(0, 21)] [] (.var 2) (.con (.int 1)))) .nil))
def e22 : Def := ⟨2, 3, none, (.cons (.ite (.cmp .ne [(0, 19)] (.att [(0, .slot 1)] (.var 0)) (.att [(0, .prop 17)] (.var 1))) (.cons (.raise 1 .nil) .nil) .nil) (.cons (.set (.nm 2) (.con (.int 0))) (.cons (.for (.tp (.cons (.nm 3) (.cons (.nm 4) .nil))) (.zip (.att [(0, .slot 0)] (.var 0)) (.att [(0, .prop 18)] (.var 1))) b22_0) (.cons (.ret (.make 0 10 0 (.cons (.slc (.att [(0, .slot 0)] (.var 0)) .no (.so (.var 2))) (.cons (.att [(0, .slot 1)] (.var 0)) .nil)) [.arg 0, .arg 1])) .nil)))), false, none⟩
def e23 : Def := ⟨2, 0, none, (.cons (.ret (.and (.call 15 (.cons (.var 1) (.cons (.att [(0, .slot 1)] (.var 0)) (.cons (.con (.int 9)) .nil))) [.arg 0, .arg 1, .arg 2]) (.cmp .inn [(0, 23)] (.var 1) (.att [(0, .slot 0)] (.var 0))))) .nil), false, none⟩
def e24 : Def := ⟨2, 0, none, (.cons (.ite (.not (.call 12 (.cons (.var 1) (.cons (.con (.int 0)) (.cons (.bin .sub [(0, 32)] [] (.bi .len [(0, 26)] (.cons (.att [(0, .slot 0)] (.var 0)) .nil)) (.con (.int 1))) .nil))) [.arg 0, .arg 1, .arg 2])) (.cons (.raise 3 .nil) .nil) .nil) (.cons (.ret (.idx [(0, 24)] (.att [(0, .slot 0)] (.var 0)) (.var 1))) .nil)), false, none⟩
def e25 : Def := ⟨2, 0, none, (.cons (.ret (.and (.cmp .eq [(0, 19)] (.att [(0, .slot 1)] (.var 0)) (.att [(0, .prop 17)] (.var 1))) (.cmp .eq [(0, 19)] (.att [(0, .slot 0)] (.var 0)) (.slc (.att [(0, .prop 18)] (.var 1)) .no (.so (.bi .len [(0, 26)] (.cons (.att [(0, .slot 0)] (.var 0)) .nil))))))) .nil), false, none⟩
def e26 : Def := ⟨1, 0, none, (.cons (.ret (.bi .len [(0, 26)] (.cons (.att [(0, .slot 0)] (.var 0)) .nil))) .nil), false, none⟩
def e27 : Def := ⟨2, 0, none, (.cons (.ite (.not (.call 15 (.cons (.var 1) (.cons (.att [(0, .slot 1)] (.var 0)) (.cons (.con (.int 9)) .nil))) [.arg 0, .arg 1, .arg 2])) (.cons (.raise 2 .nil) .nil) .nil) (.cons (.ret (.make 0 10 0 (.cons (.tup (.star (.att [(0, .slot 0)] (.var 0)) (.cons (.var 1) .nil))) (.cons (.att [(0, .slot 1)] (.var 0)) .nil)) [.arg 0, .arg 1])) .nil)), false, none⟩
def e28 : Def := ⟨2, 0, none, (.cons (.ret (.and (.cmp .le [(0, 25)] (.var 0) (.var 1)) (.cmp .lt [(0, 28)] (.bi .len [(0, 26)] (.cons (.att [(0, .slot 0)] (.var 0)) .nil)) (.bi .len [(0, 26)] (.cons (.att [(0, .prop 18)] (.var 1)) .nil))))) .nil), false, none⟩
def e29 : Def := ⟨2, 0, none, (.cons (.ret (.make 0 10 0 (.cons (.call 33 (.cons (.att [(0, .slot 0)] (.var 0)) (.cons (.var 1) .nil)) [.arg 0, .arg 1]) (.cons (.att [(0, .slot 1)] (.var 0)) .nil)) [.arg 0, .arg 1])) .nil), false, none⟩
def e30 : Def := ⟨2, 0, none, (.cons (.ret (.make 0 10 0 (.cons (.call 33 (.cons (.att [(0, .slot 0)] (.var 0)) (.cons (.var 1) .nil)) [.arg 0, .arg 1]) (.cons (.att [(0, .slot 1)] (.var 0)) .nil)) [.arg 0, .arg 1])) .nil), false, none⟩
def e31 : Def := ⟨2, 0, none, (.cons (.ite (.not (.call 12 (.cons (.var 1) (.cons (.con (.int 0)) (.cons (.bi .len [(0, 26)] (.cons (.att [(0, .slot 0)] (.var 0)) .nil)) .nil))) [.arg 0, .arg 1, .arg 2])) (.cons (.raise 3 .nil) .nil) .nil) (.cons (.ret (.make 0 10 0 (.cons (.slc (.att [(0, .slot 0)] (.var 0)) (.so (.var 1)) .no) (.cons (.att [(0, .slot 1)] (.var 0)) .nil)) [.arg 0, .arg 1])) .nil)), false, none⟩
def e32 : Def := ⟨2, 0, none, (.cons (.ite (.not (.cmp .le [(0, 25)] (.var 1) (.var 0))) (.cons (.raise 1 .nil) .nil) .nil) (.cons (.ret (.make 0 10 0 (.cons (.slc (.att [(0, .slot 0)] (.var 0)) (.so (.bi .len [(0, 26)] (.cons (.var 1) .nil))) .no) (.cons (.att [(0, .slot 1)] (.var 0)) .nil)) [.arg 0, .arg 1])) .nil)), false, none⟩
def e33 : Def := ⟨2, 0, none, (.cons (.ite (.cmp .gt [] (.bin .mul [(0, 29)] [(0, 30)] (.bi .len [(0, 26)] (.cons (.var 0) .nil)) (.var 1)) (.con (.int 300))) (.cons (.raise 1 .nil) .nil) .nil) (.cons (.ret (.bin .mul [(0, 29)] [(0, 30)] (.var 0) (.var 1))) .nil)), false, none⟩
def ds : List Def := [e0, e1, e2, e3, e4, e5, e6, e7, e8, e9, e10, e11, e12, e13, e14, e15, e16, e17, e18, e19, e20, e21, e22, e23, e24, e25, e26, e27, e28, e29, e30, e31, e32, e33]
end K01
end

section
set_option Elab.async false
set_option linter.all false
set_option maxRecDepth 100000
set_option maxHeartbeats 1000000
namespace K01
open Lk
/-! ### values -/
/-- a cell -/
def cd : Option Nat → D
  | none => .non
  | some n => .int n
@[simp] theorem cd_none : cd none = .non := rfl
@[simp] theorem cd_some (n : Nat) : cd (some n) = .int n := rfl
def ok9 (c : Option Nat) : Bool := c.all (· < 10)
theorem rsv_cd {S : Store} {k : Nat} (c : Option Nat) : rsv S (k + 1) (cd c) = some (cd c) := by cases c <;> rfl
theorem eqD_cd (a b : Option Nat) : eqD (cd a) (cd b) = (a == b) := by
  cases a <;> cases b <;> simp [cd, eqD]
  rw [Bool.eq_iff_iff]
  simp
  omega
theorem isNon_cd (c : Option Nat) : isNon (cd c) = c.isNone := by cases c <;> rfl
abbrev Row := List (Option Nat)
def rw_ (r : Row) : D := .tup (r.map cd)
def rws (rs : List Row) : D := .tup (rs.map rw_)
def dt (rs : List Row) (w : Nat) : D := .ob 0 [rws rs, .int w]
theorem all_rsv {S : Store} {k : Nat} {α : Type} (f : α → D) (h : ∀ x, rsv S k (f x) = some (f x)) : ∀ xs : List α, allSome (rsv S k) (xs.map f) = some (xs.map f)
  | [] => rfl
  | x :: xs => by simp [allSome, h x, all_rsv f h xs]
theorem rsv_row {S : Store} {k : Nat} (r : Row) : rsv S (k + 2) (rw_ r) = some (rw_ r) := by
  show ((allSome (rsv S (k + 1)) (r.map cd)).map D.tup) = _
  rw [all_rsv cd fun x => rsv_cd x]; rfl
theorem rsv_rows {S : Store} {k : Nat} (rs : List Row) : rsv S (k + 3) (rws rs) = some (rws rs) := by
  show ((allSome (rsv S (k + 2)) (rs.map rw_)).map D.tup) = _
  rw [all_rsv rw_ fun x => rsv_row x]; rfl
theorem eqDs_map {α : Type} [BEq α] (f : α → D) (h : ∀ x y, eqD (f x) (f y) = (x == y)) : ∀ xs ys : List α, eqDs (xs.map f) (ys.map f) = (xs == ys)
  | [], [] => rfl
  | [], y :: ys => rfl
  | x :: xs, [] => rfl
  | x :: xs, y :: ys => by
    show (eqD (f x) (f y) && eqDs (xs.map f) (ys.map f)) = _
    rw [h, eqDs_map f h xs ys]; rfl
theorem eqD_row (a b : Row) : eqD (rw_ a) (rw_ b) = (a == b) := eqDs_map cd eqD_cd a b
theorem eqD_rows (a b : List Row) : eqD (rws a) (rws b) = (a == b) := eqDs_map rw_ eqD_row a b
theorem eqS_row {S : Store} (a b : Row) : eqS S (rw_ a) (rw_ b) = some (a == b) := by
  unfold eqS
  rw [rsv_row, rsv_row]
  simp only [eqD_row]
theorem eqS_rows {S : Store} (a b : List Row) : eqS S (rws a) (rws b) = some (a == b) := by
  unfold eqS
  rw [rsv_rows, rsv_rows]
  simp only [eqD_rows]
/-! ### the small defs -/
theorem s12 (k : Nat) (n a b : Int) (S : Store) : sem ds (k + 1) 12 [.int n, .int a, .int b] S = .ok (.bl (decide (a ≤ n) && decide (n ≤ b))) S := by
  rw [sem_fn ds k 12 e12 _ S rfl rfl rfl]
  by_cases h1 : a ≤ n
  · simp [h1, e12, kindOf, kindIs]
  · simp [h1, e12, kindOf, kindIs]
theorem s16 (k : Nat) (x : Option Nat) (S : Store) : sem ds (k + 2) 16 [cd x, .int 9] S = .ok (.bl (ok9 x)) S := by
  rw [sem_fn ds (k + 1) 16 e16 _ S rfl rfl rfl]
  cases x with
  | none => simp [e16, cd, isNon, ok9]
  | some n =>
    have h := s12 k n 0 9 S
    simp [e16, cd, isNon, planned, allSome, h, ok9]
    omega
@[simp] theorem truth_bl (b : Bool) : truth (.bl b) = some b := rfl
theorem bi_all_map' {α : Type} (S : Store) (f : α → Bool) (xs : List α) : biD S .all [.fl (xs.map fun x => D.bl (f x))] = some (.bl (xs.all f)) := by
  have : ∀ xs : List α, allSome truth (xs.map fun x => D.bl (f x)) = some (xs.map f) := by
    intro xs
    induction xs with
    | nil => rfl
    | cons x xs ih => simp [allSome, truth, ih]
  simp [biD, biS, dictOf, seqOf, itemsOf, this, List.all_map]
def okR (w : Nat) (r : Row) : Bool := decide (r.length = w) && r.all ok9
theorem s15 (k : Nat) (xs : Row) (w : Nat) (hl : xs.length ≤ 1000) (S : Store) : sem ds (k + 3) 15 [rw_ xs, .int w, .int 9] S = .ok (.bl (okR w xs)) S := by
  rw [sem_fn ds (k + 2) 15 e15 _ S rfl rfl rfl]
  have hc : ev (sem ds (k + 2)) c15_0 [some (rw_ xs), some (.int w), some (.int 9), none] S = .ok (.fl (xs.map fun x => .bl (ok9 x))) S :=
    ev_lcB cd (fun x => .bl (ok9 x)) xs (g := []) (by simp [walkOf, walkS, itemsOf, guardOf, rw_]) (Nat.le_trans hl (by decide)) rfl fun x hx =>
      ⟨[some (rw_ xs), some (.int w), some (.int 9), some (cd x)], rfl, by simp [planned, allSome, s16 k x S]⟩
  have ha : biD S .all [.fl (xs.map fun x => .bl (ok9 x))] = some (.bl (xs.all ok9)) := bi_all_map' S ok9 xs
  have hc' : ev (sem ds (k + 2)) c15_0 [some (.tup (xs.map cd)), some (.int w), some (.int 9), none] S = .ok (.fl (xs.map fun x => .bl (ok9 x))) S := hc
  have h2 : (((xs.length : Nat) : Int) == (w : Int)) = decide (xs.length = w) := by
    rw [Bool.eq_iff_iff]; simp; omega
  by_cases hw : xs.length = w
  · simp [e15, kindOf, kindIs, hc', rw_, okR, hw, ha]
  · have : ¬ ((xs.length : Int) = (w : Int)) := by omega
    simp [e15, kindOf, kindIs, hc', rw_, okR, hw, this, h2]
end K01
end

section
set_option Elab.async false
set_option linter.all false
set_option maxRecDepth 100000
set_option maxHeartbeats 1000000
namespace K01
open Lk
/-- valid rows -/
structure Vd (rs : List Row) (w : Nat) : Prop where
  one : 1 ≤ w
  two : w ≤ 2
  ok : ∀ r ∈ rs, okR w r = true
theorem Vd.len {rs : List Row} {w : Nat} (h : Vd rs w) {r : Row} (hr : r ∈ rs) : r.length = w := by
  have := h.ok r hr
  unfold okR at this
  simp at this
  exact this.1
/-- rows as a list or a tuple -/
def Seq (rs : List Row) (d : D) : Prop := d = rws rs ∨ d = .fl (rs.map rw_)
theorem s14 (k : Nat) {rs : List Row} {w : Nat} (h : Vd rs w) {d : D} (hd : Seq rs d) (S : Store) : sem ds (k + 2) 14 [d, .int w] S = .ok (.int w) S := by
  rw [sem_fn ds (k + 1) 14 e14 _ S rfl rfl rfl]
  have h12 := s12 k w 1 2 S
  have h1 : (1 : Int) ≤ w := by have := h.one; omega
  have h2 : (w : Int) ≤ 2 := by have := h.two; omega
  cases rs with
  | nil => rcases hd with rfl | rfl <;> simp [e14, rws, planned, allSome, h12, h1, h2]
  | cons r rs =>
    have hl := h.len (List.mem_cons_self (a := r) (l := rs))
    have h3 : (0 : Int) < (rs.length : Int) + 1 := by omega
    have h4 : ¬ ((rs.length : Int) + 1 ≤ 0) := by omega
    rcases hd with rfl | rfl <;> simp [e14, rws, rw_, planned, allSome, h12, h1, h2, idxD, itemsOf, ixOf, kindOf, kindIs, hl, h3, h4]
theorem s10 (k : Nat) {rs : List Row} {w : Nat} (h : Vd rs w) (hn : rs.length ≤ 300) {d : D} (hd : Seq rs d) (S : Store) : sem ds (k + 4) 10 [d, .int w] S = .ok (dt rs w) S := by
  rw [sem_ini ds (k + 3) 10 e10 0 _ _ S rfl rfl rfl]
  have h14 := s14 (k + 1) h hd S
  have hi : ∀ d, Seq rs d → walkOf S d = some (rs.map rw_) ∧ guardOf S d = [] := fun d hd => by rcases hd with rfl | rfl <;> exact ⟨rfl, rfl⟩
  have hc : ev (sem ds (k + 3)) c10_0 [none, some d, some (.int w), some (.int w), none] S = .ok (.fl (rs.map fun r => .bl (okR w r))) S :=
    ev_lcB rw_ (fun r => .bl (okR w r)) rs (g := []) (by simp [hi d hd]) (Nat.le_trans hn (by decide)) rfl fun r hr =>
      ⟨[none, some d, some (.int w), some (.int w), some (rw_ r)], rfl, by
        have hl := h.len hr
        have := s15 k r w (by have := h.two; omega) S
        simp [planned, allSome, this]⟩
  have ha : biD S .all [.fl (rs.map fun r => .bl (okR w r))] = some (.bl true) := by
    rw [bi_all_map' S (okR w) rs, List.all_eq_true.mpr h.ok]
  have h3 : ¬ ((300 : Int) < (rs.length : Int)) := by omega
  rcases hd with rfl | rfl <;> simp [e10, rws, kindOf, kindIs, h3, planned, allSome, h14, hc, ha, isNon, dt] at * <;> simp [h14, hc, ha]
end K01
end

section
set_option Elab.async false
set_option linter.all false
set_option maxRecDepth 100000
set_option maxHeartbeats 1000000
namespace K01
open Lk
theorem s17 (k : Nat) (rs : List Row) (w : Nat) (S : Store) : sem ds (k + 1) 17 [dt rs w] S = .ok (.int w) S := by
  rw [sem_fn ds k 17 e17 _ S rfl rfl rfl]; rfl
theorem s18 (k : Nat) (rs : List Row) (w : Nat) (S : Store) : sem ds (k + 1) 18 [dt rs w] S = .ok (rws rs) S := by
  rw [sem_fn ds k 18 e18 _ S rfl rfl rfl]; rfl
theorem s26 (k : Nat) (rs : List Row) (w : Nat) (S : Store) : sem ds (k + 1) 26 [dt rs w] S = .ok (.int rs.length) S := by
  rw [sem_fn ds k 26 e26 _ S rfl rfl rfl]
  simp [e26, dt, rws]
theorem s19 (k : Nat) (rs ts : List Row) (w v : Nat) (S : Store) : sem ds (k + 1) 19 [dt rs w, dt ts v] S = .ok (.bl (decide (w = v) && (rs == ts))) S := by
  rw [sem_fn ds k 19 e19 _ S rfl rfl rfl]
  have h := eqS_rows (S := S) rs ts
  have h' : eqA S (rws rs) (rws ts) = some (rs == ts) := h
  have hc : ∀ y, cmpC (sem ds k) .eq [(0, 19)] (rws rs) y S = M.opt ((cmpD S .eq (rws rs) y).map .bl) S := fun y => rfl
  by_cases hw : w = v
  · subst hw
    simp [e19, dt, kindOf, hc, h']
  · have : ((w : Int) == (v : Int)) = false := by rw [beq_eq_false_iff_ne]; omega
    simp [e19, dt, kindOf, hw, this]
/-- an own comparison of two data -/
theorem cmp_dt (k : Nat) (rs ts : List Row) (w v : Nat) (S : Store) : cmpC (sem ds (k + 1)) .eq [(0, 19)] (dt rs w) (dt ts v) S = .ok (.bl (decide (w = v) && (rs == ts))) S := by
  have h := s19 k rs ts w v S
  unfold dt at h ⊢
  simp [cmpC, Lk.okR, h]
theorem cmp_dtN (k : Nat) (rs ts : List Row) (w v : Nat) (S : Store) : cmpC (sem ds (k + 1)) .ne [(0, 19)] (dt rs w) (dt ts v) S = .ok (.bl (!(decide (w = v) && (rs == ts)))) S := by
  have h := s19 k rs ts w v S
  unfold dt at h ⊢
  simp [cmpC, Lk.okR, h]
end K01
end

section
set_option Elab.async false
set_option linter.all false
set_option maxRecDepth 100000
set_option maxHeartbeats 1000000
namespace K01
open Lk
/-! ### cuts -/
theorem cut_lo (xs : List D) (n : Nat) (h : n ≤ xs.length) : cut xs (some (n : Int)) none = xs.drop n := by
  unfold cut cutAt
  have h1 : ¬ ((n : Int) < 0) := by omega
  simp only [if_neg h1]
  have h2 : min (n : Int).toNat xs.length = n := by simp; omega
  rw [h2, List.take_of_length_le (by simp)]
theorem cut_hi (xs : List D) (n : Nat) : cut xs none (some (n : Int)) = xs.take n := by
  unfold cut cutAt
  have h1 : ¬ ((n : Int) < 0) := by omega
  simp only [if_neg h1]
  have h2 : min (n : Int).toNat xs.length = min n xs.length := by simp
  rw [h2]
  simp [List.take_eq_take_iff]
theorem s25 (k : Nat) (rs ts : List Row) (w v : Nat) (S : Store) : sem ds (k + 2) 25 [dt rs w, dt ts v] S = .ok (.bl (decide (w = v) && (rs == ts.take rs.length))) S := by
  rw [sem_fn ds (k + 1) 25 e25 _ S rfl rfl rfl]
  have h17 := s17 k ts v S
  have h18 := s18 k ts v S
  have hs : slcD S (rws ts) none (some (rs.length : Int)) = some (rws (ts.take rs.length)) := by
    show some (D.tup (cut (ts.map rw_) none (some (rs.length : Int)))) = _
    rw [cut_hi, ← List.map_take]; rfl
  have h' : eqA S (rws rs) (rws (ts.take rs.length)) = some (rs == ts.take rs.length) := eqS_rows (S := S) _ _
  have hc : ∀ y, cmpC (sem ds (k + 1)) .eq [(0, 19)] (rws rs) y S = M.opt ((cmpD S .eq (rws rs) y).map .bl) S := fun y => rfl
  have hl : biV (sem ds (k + 1)) .len [(0, 26)] [rws rs] S = .ok (.int rs.length) S := by simp [rws]
  unfold dt at h17 h18 ⊢
  by_cases hw : w = v
  · subst hw
    simp [e25, h17, h18, hl, hs, hc, h', intOf]
  · have : ((w : Int) == (v : Int)) = false := by rw [beq_eq_false_iff_ne]; omega
    simp [e25, h17, hw, this]
/-- <= of two data -/
theorem le_dt (k : Nat) (rs ts : List Row) (w v : Nat) (S : Store) : cmpC (sem ds (k + 2)) .le [(0, 25)] (dt rs w) (dt ts v) S = .ok (.bl (decide (w = v) && (rs == ts.take rs.length))) S := by
  have h := s25 k rs ts w v S
  unfold dt at h ⊢
  simp [cmpC, Lk.okR, h]
theorem s28 (k : Nat) (rs ts : List Row) (w v : Nat) (S : Store) : sem ds (k + 3) 28 [dt rs w, dt ts v] S = .ok (.bl (decide (w = v) && (rs == ts.take rs.length) && decide (rs.length < ts.length))) S := by
  rw [sem_fn ds (k + 2) 28 e28 _ S rfl rfl rfl]
  have h18 := s18 (k + 1) ts v S
  have hle := le_dt k rs ts w v S
  have hl : ∀ q : List Row, biV (sem ds (k + 2)) .len [(0, 26)] [rws q] S = .ok (.int q.length) S := fun q => by simp [rws]
  unfold dt at h18 hle ⊢
  cases hb : (decide (w = v) && (rs == ts.take rs.length)) with
  | false => rw [hb] at hle; simp [e28, hle]
  | true => rw [hb] at hle; simp [e28, hle, h18, hl]
end K01
end

section
set_option Elab.async false
set_option linter.all false
set_option maxRecDepth 100000
set_option maxHeartbeats 1000000
namespace K01
open Lk
theorem Vd.app {rs ts : List Row} {w : Nat} (h : Vd rs w) (g : Vd ts w) : Vd (rs ++ ts) w := ⟨h.one, h.two, fun r hr => (List.mem_append.mp hr).elim (h.ok r) (g.ok r)⟩
theorem Vd.drop {rs : List Row} {w : Nat} (h : Vd rs w) (n : Nat) : Vd (rs.drop n) w := ⟨h.one, h.two, fun r hr => h.ok r (List.mem_of_mem_drop hr)⟩
theorem Vd.take {rs : List Row} {w : Nat} (h : Vd rs w) (n : Nat) : Vd (rs.take n) w := ⟨h.one, h.two, fun r hr => h.ok r (List.mem_of_mem_take hr)⟩
theorem s21 (k : Nat) {rs ts : List Row} {w v : Nat} (h : Vd rs w) (g : Vd ts v) (hn : rs.length + ts.length ≤ 300) (S : Store) : sem ds (k + 5) 21 [dt rs w, dt ts v] S = if w = v then .ok (dt (rs ++ ts) w) S else .exc 1 [] S := by
  rw [sem_fn ds (k + 4) 21 e21 _ S rfl rfl rfl]
  have h17 := s17 (k + 3) ts v S
  have h18 := s18 (k + 3) ts v S
  have hb : binV (sem ds (k + 4)) .add [(0, 21)] [] (rws rs) (rws ts) S = .ok (rws (rs ++ ts)) S := by
    have hl : rs.length + ts.length ≤ sizeMax := Nat.le_trans hn (by decide)
    simp [rws, binD, hl]
  by_cases hw : w = v
  · subst hw
    have h10 := s10 k (h.app g) (by simpa using hn) (.inl rfl) S
    rw [if_pos rfl]
    unfold dt at h17 h18 h10 ⊢
    simp [e21, h17, h18, hb, planned, allSome, h10]
  · rw [if_neg hw]
    have : ((w : Int) == (v : Int)) = false := by rw [beq_eq_false_iff_ne]; omega
    unfold dt at h17 ⊢
    simp [e21, h17, this]
theorem s31 (k : Nat) {rs : List Row} {w : Nat} (h : Vd rs w) (hn : rs.length ≤ 300) (n : Nat) (S : Store) : sem ds (k + 5) 31 [dt rs w, .int n] S = if n ≤ rs.length then .ok (dt (rs.drop n) w) S else .exc 3 [] S := by
  rw [sem_fn ds (k + 4) 31 e31 _ S rfl rfl rfl]
  have h12 := s12 (k + 3) n 0 rs.length S
  have hl : biV (sem ds (k + 4)) .len [(0, 26)] [rws rs] S = .ok (.int rs.length) S := by simp [rws]
  have h0 : (0 : Int) ≤ n := by omega
  by_cases hw : n ≤ rs.length
  · rw [if_pos hw]
    have h1 : (n : Int) ≤ rs.length := by omega
    have h10 := s10 k (h.drop n) (by simp; omega) (.inl rfl) S
    have hs : slcD S (rws rs) (some (n : Int)) none = some (rws (rs.drop n)) := by
      show some (D.tup (cut (rs.map rw_) (some (n : Int)) none)) = _
      rw [cut_lo _ _ (by simpa using hw), ← List.map_drop]; rfl
    unfold dt at h10 ⊢
    simp [e31, hl, planned, allSome, h12, h0, h1, hs, intOf, h10]
  · rw [if_neg hw]
    have h1 : ¬ ((n : Int) ≤ rs.length) := by omega
    unfold dt
    simp [e31, hl, planned, allSome, h12, h0, h1]
end K01
end

section
set_option Elab.async false
set_option linter.all false
set_option maxRecDepth 100000
set_option maxHeartbeats 1000000
namespace K01
open Lk
/-! ### draws -/
@[simp] theorem ib_add (i j : Int) : intBin .add i j = some (i + j) := rfl
@[simp] theorem ib_sub (i j : Int) : intBin .sub i j = some (i - j) := rfl
theorem ib_mul (i j : Int) (h : (-(2 ^ 64) < i ∧ i < 2 ^ 64) ∨ (-(2 ^ 64) < j ∧ j < 2 ^ 64)) : intBin .mul i j = some (i * j) := by
  simp only [intBin]
  rw [if_pos h]
theorem ib_mod (i j : Int) (h : j ≠ 0) : intBin .mod i j = some (i.fmod j) := by
  simp only [intBin]
  rw [if_pos h]
theorem ib_fdiv (i j : Int) (h : 0 < j ∧ j.natAbs.log2 < 9000) : intBin .fdiv i j = some (i / j) := by
  simp only [intBin]
  rw [if_pos h]
@[simp] theorem bi_int (S : Store) (i : Int) : biD S .int [.int i] = some (.int i) := rfl
theorem fm (a b : Int) (h : 0 < b) : ∃ r : Nat, a.fmod b = r ∧ (r : Int) < b := by
  have h1 := Int.fmod_nonneg_of_pos a h
  have h2 := Int.fmod_lt_of_pos a h
  exact ⟨(a.fmod b).toNat, by omega, by omega⟩
theorem fmI (a b : Int) (h : 0 < b) : ∃ r : Int, a.fmod b = r ∧ 0 ≤ r ∧ r < b := ⟨_, rfl, Int.fmod_nonneg_of_pos a h, Int.fmod_lt_of_pos a h⟩
theorem d_draw (k : Nat) (x j : Int) (S : Store) : ∃ r : Int, sem ds (k + 1) 13 [.int x, .int j, .int 999983] S = .ok (.int r) S := by
  rw [sem_fn ds k 13 e13 _ S rfl rfl rfl]
  obtain ⟨m, hm, hm2⟩ := fm j 16 (by decide)
  have h1 := ib_mul x 48271 (Or.inr (by decide))
  have h2 := ib_mul j 69621 (Or.inr (by decide))
  have h3 := ib_mod j 16 (by decide)
  rw [hm] at h3
  have h4 : ∃ p : Int, p ≠ 0 ∧ idxD S (.tup [.int 1000003, .int 1000033, .int 1000037, .int 1000039, .int 1000081, .int 1000099, .int 1000117, .int 1000121, .int 1000133, .int 1000151, .int 1000159, .int 1000171, .int 1000183, .int 1000187, .int 1000193, .int 1000199]) m = some (.int p) := by
    match m, hm2 with
    | 0, _ | 1, _ | 2, _ | 3, _ | 4, _ | 5, _ | 6, _ | 7, _ | 8, _ | 9, _ | 10, _ | 11, _ | 12, _ | 13, _ | 14, _ | 15, _ => exact ⟨_, by decide, rfl⟩
    | m + 16, h => omega
  obtain ⟨p, hp, h4⟩ := h4
  have h5 := fun i => ib_mod i p hp
  have h6 := fun i => ib_mod i 999983 (by decide)
  refine ⟨((x * 48271 + j * 69621).fmod p).fmod 999983, ?_⟩
  simp [e13, h1, h2, h3, h4, h5, h6, intOf]
theorem d_cell_at (k : Nat) (zs : List Int) (i : Int) (hi : 0 ≤ i) (S : Store) : ∃ v : Int, sem ds (k + 1) 9 [.fl (zs.map .int), .int i] S = .ok (.int v) S := by
  rw [sem_fn ds k 9 e9 _ S rfl rfl rfl]
  by_cases h : i < zs.length
  · have h2 : i.toNat < zs.length := by omega
    have h3 : idxD S (.fl (zs.map .int)) i = some (.int zs[i.toNat]) := by
      show (ixOf (zs.map D.int).length i).bind _ = _
      simp [ixOf, h, hi, h2]
    exact ⟨zs[i.toNat], by simp [e9, h, intOf, h3]⟩
  · exact ⟨0, by simp [e9, h]⟩
/-- so many times times 1009 -/
def tp : Nat → Int → Int
  | 0, t => t
  | n + 1, t => tp n (t * 1009)
theorem tp_pos : ∀ (n : Nat) (t : Int), 0 < t → 0 < tp n t
  | 0, _, h => h
  | n + 1, t, h => tp_pos n (t * 1009) (by omega)
theorem tp_lt : ∀ (n a : Nat) (t : Int), t < ((2 ^ a : Nat) : Int) → tp n t < ((2 ^ (a + 10 * n) : Nat) : Int)
  | 0, a, t, h => h
  | n + 1, a, t, h => by
    have e : a + 10 * (n + 1) = (a + 10) + 10 * n := by omega
    rw [e]
    refine tp_lt n (a + 10) (t * 1009) ?_
    rw [Nat.pow_add]
    generalize 2 ^ a = u at h
    have : (2 : Nat) ^ 10 = 1024 := rfl
    rw [this]
    omega
@[simp] theorem chk_nil (S : Store) : M.chk [] S = .ok () S := rfl
theorem loop_number (k : Nat) (x0 x1 x2 x5 x6 : Option D) (S : Store) : ∀ (xs : List D) (t : Int) (x4 : Option D), ∃ y4, forGo [] (.nm 4) (exs (sem ds k) b8_0) xs [x0, x1, x2, some (.int t), x4, x5, x6] S = .ok (.nx [x0, x1, x2, some (.int (tp xs.length t)), y4, x5, x6]) S
  | [], t, x4 => ⟨x4, rfl⟩
  | x :: xs, t, x4 => by
    obtain ⟨y4, ih⟩ := loop_number k x0 x1 x2 x5 x6 S xs (t * 1009) (some x)
    refine ⟨y4, ?_⟩
    have hm := ib_mul t 1009 (Or.inr (by decide))
    simp only [List.length_cons, tp]
    rw [← ih]
    simp only [forGo, M.bind_app, chk_nil, setTg_nm, M.opt_some, M.pure_app, List.set_cons_succ, List.set_cons_zero]
    simp only [b8_0, exs_cons, ex_set, M.bind_app, M.at_app, ev_bin, binV_int, Option.map_some, ev_var, ev_con, slotOf_succ, slotOf_zero, M.opt_some, hm, setTg_nm, List.set_cons_succ, List.set_cons_zero, M.pure_app, exs_nil]
theorem d_number (k : Nat) (v j : Int) (hj0 : 0 ≤ j) (hj : j ≤ 12) (b : Nat) (hb : 1 ≤ b) (S : Store) : ∃ r : Nat, r < b ∧ sem ds (k + 2) 8 [.int v, .int j, .int b] S = .ok (.int r) S := by
  rw [sem_fn ds (k + 1) 8 e8 _ S rfl rfl rfl]
  obtain ⟨m, hm, hm2⟩ := fm j 24 (by decide)
  have h1 := ib_mod j 24 (by decide)
  rw [hm] at h1
  have hrg : rangeD [.int (m : Int)] = some ((List.range m).map fun (k : Nat) => .int k) := by
    simp only [rangeD]
    rw [if_pos (by omega)]
    simp
  obtain ⟨y4, hl⟩ := loop_number (k + 1) (some (.int v)) (some (.int j)) (some (.int b)) none none S ((List.range m).map fun (k : Nat) => .int k) 1 none
  rw [List.length_map, List.length_range] at hl
  have hpos : (0 : Int) < tp m 1 := tp_pos m 1 (by decide)
  have hlog : (tp m 1).natAbs.log2 < 9000 := by
    have h := tp_lt m 1 1 (by decide)
    rw [Nat.log2_lt (by omega)]
    have : (tp m 1).natAbs < 2 ^ (1 + 10 * m) := by omega
    exact Nat.lt_of_lt_of_le this (Nat.pow_le_pow_right (by decide) (by omega))
  have h2 := fun i => ib_fdiv i (tp m 1) ⟨hpos, hlog⟩
  have hpw : intBin .pow 10 18 = some 1000000000000000000 := rfl
  obtain ⟨q, hq⟩ : ∃ q, q = (v - 1000000000000000000) / tp m 1 := ⟨_, rfl⟩
  have hb0 : (b : Int) ≠ 0 := by omega
  have hbm := fun i => ib_mod i b hb0
  by_cases hq0 : 0 < q
  · obtain ⟨r, hr, hr2⟩ := fm (q.fmod 1009) b (by omega)
    have h3 := ib_mod q 1009 (by decide)
    have h4 := hbm (q.fmod 1009)
    rw [hr] at h4
    refine ⟨r, by omega, ?_⟩
    simp [e8, h1, ex_for, hrg, hl, hpw, h2, ← hq, hq0, h3, h4]
  · obtain ⟨u, hu, hu1, hu2⟩ := fmI v 1000003 (by decide)
    have h3 := ib_mod v 1000003 (by decide)
    rw [hu] at h3
    have h4 := ib_mul 977 j (Or.inl (by decide))
    have h5 := ib_mul 31 j (Or.inl (by decide))
    have h6 := ib_mul (u + 977 * j) (u + 31 * j + 5) (Or.inl (by constructor <;> omega))
    obtain ⟨g, hg, hg1, hg2⟩ := fmI j 9 (by decide)
    have h7 := ib_mod j 9 (by decide)
    rw [hg] at h7
    obtain ⟨d, hd⟩ := d_draw k ((u + 977 * j) * (u + 31 * j + 5)) (g + 1) S
    obtain ⟨r, hr, hr2⟩ := fm d b (by omega)
    have h8 := hbm d
    rw [hr] at h8
    refine ⟨r, by omega, ?_⟩
    simp [e8, h1, ex_for, hrg, hl, hpw, h2, ← hq, hq0, h3, h4, h5, h6, h7, planned, allSome, hd, h8]
/-! ### stores -/
/-- but for one place all is as before -/
def Oth (a : Nat) (S S' : Store) : Prop := S'.next = S.next ∧ ∀ m, m ≠ a → S'.get m = S.get m
theorem Oth.refl (a : Nat) (S : Store) : Oth a S S := ⟨rfl, fun _ _ => rfl⟩
theorem Oth.trans {a : Nat} {S T U : Store} (h : Oth a S T) (g : Oth a T U) : Oth a S U := ⟨g.1.trans h.1, fun m hm => (g.2 m hm).trans (h.2 m hm)⟩
theorem Oth.put (a : Nat) (S : Store) (o : Ob) : Oth a S (S.put a o) := ⟨rfl, fun m hm => by simp [hm]⟩
/-- a later store: what was there is there -/
def Ge (S S' : Store) : Prop := S.next ≤ S'.next ∧ ∀ m, m < S.next → S'.get m = S.get m
theorem Ge.refl (S : Store) : Ge S S := ⟨Nat.le_refl _, fun _ _ => rfl⟩
theorem Ge.trans {S T U : Store} (h : Ge S T) (g : Ge T U) : Ge S U := ⟨Nat.le_trans h.1 g.1, fun m hm => (g.2 m (Nat.lt_of_lt_of_le hm h.1)).trans (h.2 m hm)⟩
theorem Ge.new (S : Store) (o : Ob) : Ge S (S.new o) := ⟨Nat.le_succ _, fun m hm => by rw [Store.get_new, if_neg (by omega)]⟩
theorem Ge.oth {S T U : Store} (h : Ge S T) {a : Nat} (ha : S.next ≤ a) (g : Oth a T U) : Ge S U := ⟨by rw [g.1]; exact h.1, fun m hm => (g.2 m (by omega)).trans (h.2 m hm)⟩
/-- the cell of the draws -/
def Cl (c : Nat) (S : Store) : Prop := ∃ (zs : List Int) (a n : Int), 0 ≤ a ∧ 0 ≤ n ∧ S.get c = some (.lst [.fl (zs.map .int), .int a, .int n])
theorem d_next (k : Nat) {c : Nat} {S : Store} (h : Cl c S) (b : Nat) (hb : 1 ≤ b) : ∃ (r : Nat) (S' : Store), r < b ∧ Oth c S S' ∧ Cl c S' ∧ sem ds (k + 3) 2 [.ref c, .int b] S = .ok (.int r) S' := by
  obtain ⟨zs, a, n, ha0, hn0, h⟩ := h
  rw [sem_fn ds (k + 2) 2 e2 _ S rfl rfl rfl]
  obtain ⟨S', hS'⟩ : ∃ S', S' = S.put c (.lst [.fl (zs.map .int), .int a, .int (n + 1)]) := ⟨_, rfl⟩
  have hg : S'.get c = some (.lst [.fl (zs.map .int), .int a, .int (n + 1)]) := by rw [hS']; simp
  have i2 : ∀ tb, idxW (sem ds (k + 2)) tb (.ref c) (.int 2) S = .ok (.int n) S := fun tb => by rw [idxW_ref _ _ _ _ _ h]; simp [idxD, itemsOf, h, ixOf]
  have j2 : ∀ tb, idxW (sem ds (k + 2)) tb (.ref c) (.int 2) S' = .ok (.int (n + 1)) S' := fun tb => by rw [idxW_ref _ _ _ _ _ hg]; simp [idxD, itemsOf, hg, ixOf]
  have j0 : ∀ tb, idxW (sem ds (k + 2)) tb (.ref c) (.int 0) S' = .ok (.fl (zs.map .int)) S' := fun tb => by rw [idxW_ref _ _ _ _ _ hg]; simp [idxD, itemsOf, hg, ixOf]
  have j1 : ∀ tb, idxW (sem ds (k + 2)) tb (.ref c) (.int 1) S' = .ok (.int a) S' := fun tb => by rw [idxW_ref _ _ _ _ _ hg]; simp [idxD, itemsOf, hg, ixOf]
  have hset : setD (.ref c) (.int 2) (.int (n + 1)) S = .ok () S' := by
    simp [setD, h, intOf, ixOf, hS']
  have h1 := ib_fdiv (n + 1) 12 (by decide)
  obtain ⟨p, hp⟩ : ∃ p, (n + 1) / 12 = p := ⟨_, rfl⟩
  rw [hp] at h1
  obtain ⟨v, hv⟩ := d_cell_at (k + 1) zs (a + p) (by omega) S'
  have h2 := ib_mul 31 p (Or.inl (by decide))
  obtain ⟨m, hm, hm1, hm2⟩ := fmI (n + 1) 12 (by decide)
  have h3 := ib_mod (n + 1) 12 (by decide)
  rw [hm] at h3
  obtain ⟨r, hr, h4⟩ := d_number k (v + 31 * p) (m + 1) (by omega) (by omega) b hb S'
  refine ⟨r, S', hr, by rw [hS']; exact Oth.put c S _, ⟨zs, a, n + 1, ha0, by omega, hg⟩, ?_⟩
  simp [e2, i2, intOf, hset, j2, j0, j1, h1, h2, h3, planned, allSome, hv, h4]
theorem d_pick (k : Nat) {c : Nat} {S : Store} (h : Cl c S) (xs : List D) (hx : xs ≠ []) : ∃ (y : D) (S' : Store), y ∈ xs ∧ Oth c S S' ∧ Cl c S' ∧ sem ds (k + 4) 7 [.ref c, .fl xs] S = .ok y S' := by
  rw [sem_fn ds (k + 3) 7 e7 _ S rfl rfl rfl]
  have hl : 1 ≤ xs.length := by cases xs with | nil => exact absurd rfl hx | cons => simp
  obtain ⟨r, S', hr, ho, hc, h3⟩ := d_next k h xs.length hl
  refine ⟨xs[r], S', List.getElem_mem hr, ho, hc, ?_⟩
  have hi : idxD S' (.fl xs) r = some xs[r] := by
    show (ixOf xs.length r).bind _ = _
    simp [ixOf, hr]
  simp [e7, planned, allSome, h3, intOf, hi]
/-- the draws go on, the rest stands -/
def Kp (c : Nat) (S S' : Store) : Prop := S.next ≤ S'.next ∧ ∀ m, m < S.next → m ≠ c → S'.get m = S.get m
/-- where the draws stand -/
def In (c : Nat) (S : Store) : Prop := Cl c S ∧ c < S.next
theorem Kp.refl (c : Nat) (S : Store) : Kp c S S := ⟨Nat.le_refl _, fun _ _ _ => rfl⟩
theorem Kp.trans {c : Nat} {S T U : Store} (h : Kp c S T) (g : Kp c T U) : Kp c S U := ⟨Nat.le_trans h.1 g.1, fun m h1 h2 => (g.2 m (Nat.lt_of_lt_of_le h1 h.1) h2).trans (h.2 m h1 h2)⟩
theorem Kp.oth {c : Nat} {S T : Store} (h : Oth c S T) : Kp c S T := ⟨by rw [h.1]; exact Nat.le_refl _, fun m _ h2 => h.2 m h2⟩
theorem Kp.ge {c : Nat} {S T : Store} (h : Ge S T) : Kp c S T := ⟨h.1, fun m h1 _ => h.2 m h1⟩
theorem In.oth {c : Nat} {S T : Store} (h : In c S) (o : Oth c S T) (hc : Cl c T) : In c T := ⟨hc, by rw [o.1]; exact h.2⟩
theorem In.ge {c : Nat} {S T : Store} (h : In c S) (g : Ge S T) : In c T := ⟨by obtain ⟨zs, a, n, h0, h1, hh⟩ := h.1; exact ⟨zs, a, n, h0, h1, (g.2 c h.2).trans hh⟩, Nat.lt_of_lt_of_le h.2 g.1⟩
theorem lcGo_K {α : Type} {c : Nat} {tg : Tg} {own : List Nat} {σ : Env} {t : Env → M Bool} {e : Env → M D} (P : α → Prop) (g : α → D) : ∀ {xs : List D} {S : Store}, In c S → (∀ x ∈ xs, ∃ σ2, setTg tg x (wipeE σ own) = some σ2 ∧ (∀ S, t σ2 S = .ok true S) ∧ ∀ S, In c S → ∃ p S', P p ∧ Kp c S S' ∧ In c S' ∧ e σ2 S = .ok (g p) S') → ∃ (ps : List α) (S' : Store), ps.length = xs.length ∧ (∀ p ∈ ps, P p) ∧ Kp c S S' ∧ In c S' ∧ lcGo [] tg own σ t e xs S = .ok (ps.map g) S'
  | [], S, hI, _ => ⟨[], S, rfl, by simp, Kp.refl c S, hI, rfl⟩
  | x :: xs, S, hI, h => by
    obtain ⟨σ2, h1, h2, h3⟩ := h x List.mem_cons_self
    obtain ⟨p, S1, hp, k1, i1, h3⟩ := h3 S hI
    obtain ⟨ps, S2, hl, hps, k2, i2, ih⟩ := lcGo_K (tg := tg) (own := own) (σ := σ) (t := t) (e := e) P g i1 fun y hy => h y (List.mem_cons_of_mem _ hy)
    refine ⟨p :: ps, S2, by simp [hl], fun q hq => ?_, k1.trans k2, i2, ?_⟩
    · rcases List.mem_cons.mp hq with rfl | hq
      · exact hp
      · exact hps q hq
    · simp [lcGo, h1, h2 S, h3, ih]
theorem ev_lcK {α : Type} {c : Nat} {cal : Nat → List D → M D} {own : List Nat} {tg : Tg} {it : XI} {t e : XE} {σ : Env} {S S0 : Store} {xs : List D} (P : α → Prop) (g : α → D) (hi : evI cal it σ S0 = .ok (xs, []) S) (hl : xs.length ≤ sizeMax) (hI : In c S)
    (h : ∀ x ∈ xs, ∃ σ2, setTg tg x (wipeE σ own) = some σ2 ∧ (∀ S, ev cal t σ2 S = .ok (.bl true) S) ∧ ∀ S, In c S → ∃ p S', P p ∧ Kp c S S' ∧ In c S' ∧ ev cal e σ2 S = .ok (g p) S') : ∃ (ps : List α) (S' : Store), ps.length = xs.length ∧ (∀ p ∈ ps, P p) ∧ Kp c S S' ∧ In c S' ∧ ev cal (.lcm own tg it t e) σ S0 = .ok (.fl (ps.map g)) S' := by
  obtain ⟨ps, S', h1, h2, h3, h4, h5⟩ := lcGo_K (c := c) (tg := tg) (own := own) (σ := σ) (t := fun σ => M.bind (ev cal t σ) fun x => M.opt (truth x)) (e := fun σ => ev cal e σ) P g hI fun x hx => by
    obtain ⟨σ2, g1, g2, g3⟩ := h x hx
    exact ⟨σ2, g1, fun S => by simp [g2, truth], g3⟩
  refine ⟨ps, S', h1, h2, h3, h4, ?_⟩
  rw [ev_lcm]
  simp only [M.bind_app, hi]
  unfold lcAll
  rw [decide_eq_true (show (xs, ([] : Gd)).1.length ≤ sizeMax from hl)]
  simp only [h5]
  rfl
theorem rng_nat (n : Nat) (h : n ≤ 100) : rangeD [.int n] = some ((List.range n).map fun (k : Nat) => .int k) := by
  simp only [rangeD]
  rw [if_pos (by omega)]
  simp
end K01
end

section
set_option Elab.async false
set_option linter.all false
set_option maxRecDepth 100000
set_option maxHeartbeats 1000000
namespace K01
open Lk
/-! ### more operators of data -/
theorem len_own {cal : Nat → List D → M D} {tb : List (Nat × Nat)} {c f : Nat} {fs : List D} {S : Store} {n : Int} (h : tb.lookup c = some f) (hc : cal f [.ob c fs] S = .ok (.int n) S) (h0 : 0 ≤ n) (h1 : n < 2 ^ 63) : biV cal .len tb [.ob c fs] S = .ok (.int n) S := by
  unfold biV
  simp only [h, M.bind_app, M.calm_app, hc]
  rw [if_pos ⟨h0, h1⟩]
  rfl
theorem lt63 (n : Nat) (h : n ≤ 1000) : (n : Int) < 2 ^ 63 := Int.lt_of_le_of_lt (Int.ofNat_le.mpr h) (by decide)
theorem len_dt (k : Nat) (rs : List Row) (w : Nat) (hn : rs.length ≤ 1000) (S : Store) : biV (sem ds (k + 1)) .len [(0, 26)] [dt rs w] S = .ok (.int rs.length) S := len_own rfl (s26 k rs w S) (Int.natCast_nonneg _) (lt63 _ hn)
section
variable {cal : Nat → List D → M D} {S : Store}
theorem b32T {a a' y r : D} {w l : Int} (hle : cmpC cal .le [(0, 25)] y (.ob 0 [a, .int w]) S = .ok (.bl true) S) (hl : biV cal .len [(0, 26)] [y] S = .ok (.int l) S) (hs : slcD S a (some l) none = some a') (hm : cal 10 [a', .int w] S = .ok r S) : exs cal e32.body [some (.ob 0 [a, .int w]), some y] S = .ok (.rt r) S := by
  simp [e32, hle, hl, intOf, hs, planned, allSome, hm]
theorem b32F {a y : D} {w : Int} (hle : cmpC cal .le [(0, 25)] y (.ob 0 [a, .int w]) S = .ok (.bl false) S) : exs cal e32.body [some (.ob 0 [a, .int w]), some y] S = .ok (.xc 1 [] [some (.ob 0 [a, .int w]), some y]) S := by
  simp [e32, hle]
theorem b33T {a a' : D} {l i p : Int} (hl : biV cal .len [(0, 26)] [a] S = .ok (.int l) S) (hm : intBin .mul l i = some p) (hp : p ≤ 300) (hb : binV cal .mul [(0, 29)] [(0, 30)] a (.int i) S = .ok a' S) : exs cal e33.body [some a, some (.int i)] S = .ok (.rt a') S := by
  have h3 : ¬ ((300 : Int) < p) := by omega
  simp [e33, hl, hm, h3, hb]
theorem b33F {a : D} {l i p : Int} (hl : biV cal .len [(0, 26)] [a] S = .ok (.int l) S) (hm : intBin .mul l i = some p) (hp : ¬ p ≤ 300) : exs cal e33.body [some a, some (.int i)] S = .ok (.xc 1 [] [some a, some (.int i)]) S := by
  have h3 : (300 : Int) < p := by omega
  simp [e33, hl, hm, h3]
theorem b29T {a a' r : D} {w i : Int} (hc : cal 33 [a, .int i] S = .ok a' S) (hm : cal 10 [a', .int w] S = .ok r S) : exs cal e29.body [some (.ob 0 [a, .int w]), some (.int i)] S = .ok (.rt r) S := by
  simp [e29, planned, allSome, hc, hm]
theorem b29F {a : D} {w i : Int} (hc : cal 33 [a, .int i] S = .exc 1 [] S) : exs cal e29.body [some (.ob 0 [a, .int w]), some (.int i)] S = .ok (.xc 1 [] [some (.ob 0 [a, .int w]), some (.int i)]) S := by
  simp [e29, planned, allSome, hc]
theorem b30T {a a' r : D} {w i : Int} (hc : cal 33 [a, .int i] S = .ok a' S) (hm : cal 10 [a', .int w] S = .ok r S) : exs cal e30.body [some (.ob 0 [a, .int w]), some (.int i)] S = .ok (.rt r) S := by
  simp [e30, planned, allSome, hc, hm]
theorem b30F {a : D} {w i : Int} (hc : cal 33 [a, .int i] S = .exc 1 [] S) : exs cal e30.body [some (.ob 0 [a, .int w]), some (.int i)] S = .ok (.xc 1 [] [some (.ob 0 [a, .int w]), some (.int i)]) S := by
  simp [e30, planned, allSome, hc]
end
theorem sem_rt {k j : Nat} {d : Def} {as : List D} {S S' : Store} {v : D} (hd : ds[j]? = some d) (hi : d.ini = none) (hl : as.length = d.par) (hp : d.pur = false) (hb : exs (sem ds k) d.body (as.map some ++ List.replicate d.loc none) S = .ok (.rt v) S') : sem ds (k + 1) j as S = .ok v S' := by
  rw [sem_fn ds k j d as S hd hi hl hp, hb]
theorem sem_xc {k j : Nat} {d : Def} {as : List D} {S S' : Store} {c : Nat} {p : List D} {σ : Env} (hd : ds[j]? = some d) (hi : d.ini = none) (hl : as.length = d.par) (hp : d.pur = false) (hb : exs (sem ds k) d.body (as.map some ++ List.replicate d.loc none) S = .ok (.xc c p σ) S') : sem ds (k + 1) j as S = .exc c p S' := by
  rw [sem_fn ds k j d as S hd hi hl hp, hb]
theorem s32 (k : Nat) {rs ts : List Row} {w v : Nat} (g : Vd ts v) (hn : ts.length ≤ 300) (hm : rs.length ≤ 300) (S : Store) : sem ds (k + 5) 32 [dt ts v, dt rs w] S = if w = v ∧ rs = ts.take rs.length then .ok (dt (ts.drop rs.length) v) S else .exc 1 [] S := by
  have hle := le_dt (k + 2) rs ts w v S
  have hl := len_dt (k + 3) rs w (by omega) S
  by_cases hc : w = v ∧ rs = ts.take rs.length
  · rw [if_pos hc]
    have hb : (decide (w = v) && (rs == ts.take rs.length)) = true := by simp [hc.1, ← hc.2]
    rw [hb] at hle
    have h2 : rs.length ≤ ts.length := by have := congrArg List.length hc.2; simp at this; omega
    have h10 := s10 k (g.drop rs.length) (by simp; omega) (.inl rfl) S
    have hs : slcD S (rws ts) (some (rs.length : Int)) none = some (rws (ts.drop rs.length)) := by
      show some (D.tup (cut (ts.map rw_) (some (rs.length : Int)) none)) = _
      rw [cut_lo _ _ (by simpa using h2), ← List.map_drop]; rfl
    exact sem_rt (d := e32) rfl rfl rfl rfl (b32T hle hl hs h10)
  · rw [if_neg hc]
    have hb : (decide (w = v) && (rs == ts.take rs.length)) = false := by
      cases hd : (decide (w = v) && (rs == ts.take rs.length)) with
      | false => rfl
      | true => simp at hd; exact absurd hd hc
    rw [hb] at hle
    exact sem_xc (d := e32) rfl rfl rfl rfl (b32F hle)
theorem s24 (k : Nat) (rs : List Row) (w n : Nat) (h : n < rs.length) (S : Store) : sem ds (k + 2) 24 [dt rs w, .int n] S = .ok (rw_ rs[n]) S := by
  rw [sem_fn ds (k + 1) 24 e24 _ S rfl rfl rfl]
  have h12 := s12 k n 0 ((rs.length : Int) - 1) S
  have h0 : (0 : Int) ≤ n := by omega
  have h1 : (n : Int) ≤ (rs.length : Int) - 1 := by omega
  have hl : biV (sem ds (k + 1)) .len [(0, 26)] [rws rs] S = .ok (.int rs.length) S := by simp [rws]
  have hi : idxW (sem ds (k + 1)) [(0, 24)] (rws rs) (.int n) S = .ok (rw_ rs[n]) S := by
    simp [rws, idxD, itemsOf, ixOf, h]
  unfold dt
  simp [e24, hl, planned, allSome, h12, h0, h1, hi]
/-- how many are nothing -/
def nones (rs : List Row) : Nat := (rs.map fun r => (r.filter (·.isNone)).length).sum
theorem sum_nat {α : Type} (f : α → Nat) : ∀ rs : List α, allSome intOf (rs.map fun r => D.int (f r)) = some (rs.map fun r => (f r : Int))
  | [] => rfl
  | r :: rs => by simp [allSome, intOf, sum_nat f rs]
theorem sum_cast {α : Type} (f : α → Nat) : ∀ rs : List α, (rs.map fun r => (f r : Int)).sum = ((rs.map f).sum : Nat)
  | [] => rfl
  | r :: rs => by simp [sum_cast f rs]
theorem bi_sum {α : Type} (S : Store) (f : α → Nat) (rs : List α) : biD S .sum [.fl (rs.map fun r => D.int (f r))] = some (.int ((rs.map f).sum : Nat)) := by
  have h := sum_nat f rs
  have h2 := sum_cast f rs
  simp only [biD, dictOf, biS, seqOf, itemsOf, Option.bind_some, h, Option.map_some, h2]
theorem s20 (k : Nat) {rs : List Row} {w : Nat} (h : Vd rs w) (hn : rs.length ≤ 300) (S : Store) : sem ds (k + 1) 20 [dt rs w] S = .ok (.int (nones rs)) S := by
  rw [sem_fn ds k 20 e20 _ S rfl rfl rfl]
  have h0 : ∀ r ∈ rs, ev (sem ds k) c20_0 [some (dt rs w), some (rw_ r), none] S = .ok (.fl ((r.filter (·.isNone)).map cd)) S := fun r hr =>
    ev_lcA cd cd (·.isNone) r (g := []) (by simp [walkOf, walkS, itemsOf, guardOf, rw_]) (by have := h.len hr; have := h.two; exact Nat.le_trans (show r.length ≤ 2 by omega) (by decide)) rfl fun x hx =>
      ⟨[some (dt rs w), some (rw_ r), some (cd x)], rfl, by simp [isNon_cd], fun _ => by simp⟩
  have h1 : ev (sem ds k) c20_1 [some (dt rs w), none, none] S = .ok (.fl (rs.map fun r => .int (r.filter (·.isNone)).length)) S :=
    ev_lcB rw_ (fun r => .int (r.filter (·.isNone)).length) rs (g := []) (by simp [walkOf, walkS, itemsOf, guardOf, rws, dt]) (Nat.le_trans hn (by decide)) rfl fun r hr =>
      ⟨[some (dt rs w), some (rw_ r), none], rfl, by simp [h0 r hr]⟩
  have hb := bi_sum S (fun r : Row => (r.filter (·.isNone)).length) rs
  simp [e20, h1, hb, nones]
theorem abs_dt (k : Nat) {rs : List Row} {w : Nat} (h : Vd rs w) (hn : rs.length ≤ 300) (S : Store) : biV (sem ds (k + 1)) .abs [(0, 20)] [dt rs w] S = .ok (.int (nones rs)) S := by
  have h20 := s20 k h hn S
  unfold dt at h20 ⊢
  simp [biV, h20]
/-! ### << -/
theorem s27T (k : Nat) {rs : List Row} {w : Nat} (h : Vd rs w) (hn : rs.length < 300) {r : Row} (hr : okR w r = true) (S : Store) : sem ds (k + 5) 27 [dt rs w, rw_ r] S = .ok (dt (rs ++ [r]) w) S := by
  rw [sem_fn ds (k + 4) 27 e27 _ S rfl rfl rfl]
  have hl : r.length ≤ 2 := by unfold okR at hr; simp at hr; have := h.two; omega
  have h15 := s15 (k + 1) r w (by omega) S
  rw [hr] at h15
  have hv : Vd (rs ++ [r]) w := ⟨h.one, h.two, fun x hx => (List.mem_append.mp hx).elim (h.ok x) fun hx => by rw [List.mem_singleton.mp hx]; exact hr⟩
  have h10 := s10 k hv (by simp; omega) (.inl rfl) S
  have hw : walkS S (rws rs) = some (rs.map rw_) := rfl
  have hz1 : rs.length ≤ sizeMax := Nat.le_trans (Nat.le_of_lt hn) (by decide)
  have hz2 : rs.length + 1 ≤ sizeMax := Nat.le_trans hn (by decide)
  have he : D.tup (rs.map rw_ ++ [rw_ r]) = rws (rs ++ [r]) := by simp [rws]
  unfold dt at h10 ⊢
  simp [e27, planned, allSome, h15, hw, hz1, hz2, he, h10]
theorem s27F (k : Nat) {rs : List Row} {w : Nat} {d : D} (S : Store) (hd : sem ds (k + 4) 15 [d, .int w, .int 9] S = .ok (.bl false) S) : sem ds (k + 5) 27 [dt rs w, d] S = .exc 2 [] S := by
  rw [sem_fn ds (k + 4) 27 e27 _ S rfl rfl rfl]
  unfold dt
  simp [e27, planned, allSome, hd]
/-! ### times -/
def rep (n : Nat) (rs : List Row) : List Row := (List.replicate n rs).flatten
theorem rep_map (n : Nat) (rs : List Row) : (List.replicate n (rs.map rw_)).flatten = (rep n rs).map rw_ := by
  unfold rep
  induction n with
  | zero => rfl
  | succ n ih => rw [List.replicate_succ, List.flatten_cons, ih, List.replicate_succ, List.flatten_cons, List.map_append]
theorem rep_len (n : Nat) (rs : List Row) : (rep n rs).length = n * rs.length := by
  unfold rep
  induction n with
  | zero => simp
  | succ n ih => simp [List.replicate_succ, ih, Nat.succ_mul, Nat.add_comm]
theorem rep_mem {n : Nat} {rs : List Row} {r : Row} (h : r ∈ rep n rs) : r ∈ rs := by
  unfold rep at h
  obtain ⟨q, hq, hr⟩ := List.mem_flatten.mp h
  rw [List.eq_of_mem_replicate hq] at hr
  exact hr
theorem rep_nil (n : Nat) : rep n [] = [] := List.eq_nil_of_length_eq_zero (by rw [rep_len]; simp)
theorem mul_tup {cal : Nat → List D → M D} {tb rb : List (Nat × Nat)} {xs : List D} {i : Int} {S : Store} (h0 : 0 ≤ i) (h1 : i < 2 ^ 62) (h2 : xs.length * i.toNat ≤ sizeMax) : binV cal .mul tb rb (.tup xs) (.int i) S = .ok (.tup (List.replicate i.toNat xs).flatten) S := by
  show M.opt (if 0 ≤ i ∧ i < 2 ^ 62 ∧ xs.length * i.toNat ≤ sizeMax then some (D.tup (List.replicate i.toNat xs).flatten) else none) S = _
  rw [if_pos ⟨h0, h1, h2⟩]
  rfl
theorem s33 (k : Nat) (rs : List Row) (i l : Int) (hl' : l = rs.length) (h0 : 0 ≤ i) (h1 : i < 2 ^ 62) (hs : -(2 ^ 64) < i ∧ i < 2 ^ 64) (hz : l * i ≤ 300 → rs.length * i.toNat ≤ sizeMax) (S : Store) : sem ds (k + 1) 33 [rws rs, .int i] S = if l * i ≤ 300 then .ok (rws (rep i.toNat rs)) S else .exc 1 [] S := by
  have hl : biV (sem ds k) .len [(0, 26)] [rws rs] S = .ok (.int l) S := by simp [rws, hl']
  have hm := ib_mul l i (Or.inr hs)
  by_cases h : l * i ≤ 300
  · rw [if_pos h]
    have hb : binV (sem ds k) .mul [(0, 29)] [(0, 30)] (rws rs) (.int i) S = .ok (rws (rep i.toNat rs)) S := by
      have := mul_tup (cal := sem ds k) (tb := [(0, 29)]) (rb := [(0, 30)]) (xs := rs.map rw_) (S := S) h0 h1 (by rw [List.length_map]; exact hz h)
      rw [rep_map] at this
      exact this
    exact sem_rt (d := e33) rfl rfl rfl rfl (b33T hl hm h hb)
  · rw [if_neg h]
    exact sem_xc (d := e33) rfl rfl rfl rfl (b33F hl hm h)
theorem s29 (k : Nat) {rs : List Row} {w : Nat} (h : Vd rs w) (i l : Int) (hl : l = rs.length) (h0 : 0 ≤ i) (h1 : i < 2 ^ 62) (hs : -(2 ^ 64) < i ∧ i < 2 ^ 64) (hz : l * i ≤ 300 → rs.length * i.toNat ≤ 300) (S : Store) : sem ds (k + 5) 29 [dt rs w, .int i] S = if l * i ≤ 300 then .ok (dt (rep i.toNat rs) w) S else .exc 1 [] S := by
  have h33 := s33 (k + 3) rs i l hl h0 h1 hs (fun h => Nat.le_trans (hz h) (by decide)) S
  by_cases hc : l * i ≤ 300
  · rw [if_pos hc] at h33 ⊢
    have hv : Vd (rep i.toNat rs) w := ⟨h.one, h.two, fun r hr => h.ok r (rep_mem hr)⟩
    have h10 := s10 k hv (by rw [rep_len, Nat.mul_comm]; exact hz hc) (.inl rfl) S
    exact sem_rt (d := e29) rfl rfl rfl rfl (b29T h33 h10)
  · rw [if_neg hc] at h33 ⊢
    exact sem_xc (d := e29) rfl rfl rfl rfl (b29F h33)
theorem s30 (k : Nat) {rs : List Row} {w : Nat} (h : Vd rs w) (i l : Int) (hl : l = rs.length) (h0 : 0 ≤ i) (h1 : i < 2 ^ 62) (hs : -(2 ^ 64) < i ∧ i < 2 ^ 64) (hz : l * i ≤ 300 → rs.length * i.toNat ≤ 300) (S : Store) : sem ds (k + 5) 30 [dt rs w, .int i] S = if l * i ≤ 300 then .ok (dt (rep i.toNat rs) w) S else .exc 1 [] S := by
  have h33 := s33 (k + 3) rs i l hl h0 h1 hs (fun h => Nat.le_trans (hz h) (by decide)) S
  by_cases hc : l * i ≤ 300
  · rw [if_pos hc] at h33 ⊢
    have hv : Vd (rep i.toNat rs) w := ⟨h.one, h.two, fun r hr => h.ok r (rep_mem hr)⟩
    have h10 := s10 k hv (by rw [rep_len, Nat.mul_comm]; exact hz hc) (.inl rfl) S
    exact sem_rt (d := e30) rfl rfl rfl rfl (b30T h33 h10)
  · rw [if_neg hc] at h33 ⊢
    exact sem_xc (d := e30) rfl rfl rfl rfl (b30F h33)
/-! ### & -/
/-- how many rows are the same at the beginning -/
def pre : List Row → List Row → Nat
  | r :: rs, t :: ts => if r = t then pre rs ts + 1 else 0
  | _, _ => 0
theorem pairs_map (rs ts : List Row) : pairs (rs.map rw_) (ts.map rw_) = (rs.zip ts).map fun p => .tup [rw_ p.1, rw_ p.2] := by
  induction rs generalizing ts with
  | nil => rfl
  | cons r rs ih => cases ts with
    | nil => rfl
    | cons t ts => simp [pairs, ih]
theorem cmp_rowN (cal : Nat → List D → M D) (tb : List (Nat × Nat)) (a b : Row) (S : Store) : cmpC cal .ne tb (rw_ a) (rw_ b) S = .ok (.bl (!(a == b))) S := by
  have h : eqA S (rw_ a) (rw_ b) = some (a == b) := eqS_row a b
  have hc : cmpC cal .ne tb (rw_ a) (rw_ b) S = M.opt ((cmpD S .ne (rw_ a) (rw_ b)).map .bl) S := rfl
  rw [hc]; simp [h]
theorem loop22 (k : Nat) (x0 x1 : Option D) (S : Store) : ∀ (rs ts : List Row) (m : Nat) (x3 x4 : Option D), ∃ y3 y4, forGo [] (.tp (.cons (.nm 3) (.cons (.nm 4) .nil))) (exs (sem ds k) b22_0) ((rs.zip ts).map fun p => .tup [rw_ p.1, rw_ p.2]) [x0, x1, some (.int m), x3, x4] S = .ok (.nx [x0, x1, some (.int (m + pre rs ts : Nat)), y3, y4]) S
  | [], ts, m, x3, x4 => ⟨x3, x4, by simp [forGo, pre]⟩
  | r :: rs, [], m, x3, x4 => ⟨x3, x4, by simp [forGo, pre]⟩
  | r :: rs, t :: ts, m, x3, x4 => by
    by_cases h : r = t
    · subst h
      obtain ⟨y3, y4, ih⟩ := loop22 k x0 x1 S rs ts (m + 1) (some (rw_ r)) (some (rw_ r))
      refine ⟨y3, y4, ?_⟩
      have e : m + 1 + pre rs ts = m + (pre rs ts + 1) := by omega
      have e2 : ((m : Int) + 1) = ((m + 1 : Nat) : Int) := by omega
      rw [e] at ih
      simp only [pre, if_pos]
      rw [← ih]
      simp [forGo, b22_0, cmp_rowN]
    · have hb : (r == t) = false := by simp [h]
      refine ⟨some (rw_ r), some (rw_ t), ?_⟩
      simp only [pre, if_neg h]
      simp [forGo, b22_0, cmp_rowN, hb]
theorem pre_le : ∀ rs ts : List Row, pre rs ts ≤ rs.length
  | [], _ => by simp [pre]
  | r :: rs, [] => by simp [pre]
  | r :: rs, t :: ts => by
    by_cases h : r = t
    · have := pre_le rs ts; simp [pre, h]; exact this
    · simp [pre, h]
theorem s22 (k : Nat) {rs ts : List Row} {w v : Nat} (h : Vd rs w) (hn : rs.length ≤ 300) (S : Store) : sem ds (k + 5) 22 [dt rs w, dt ts v] S = if w = v then .ok (dt (rs.take (pre rs ts)) w) S else .exc 1 [] S := by
  rw [sem_fn ds (k + 4) 22 e22 _ S rfl rfl rfl]
  have h17 := s17 (k + 3) ts v S
  have h18 := s18 (k + 3) ts v S
  by_cases hw : w = v
  · subst hw
    rw [if_pos rfl]
    have h10 := s10 k (h.take (pre rs ts)) (by simp; omega) (.inl rfl) S
    obtain ⟨y3, y4, hl⟩ := loop22 (k + 4) (some (dt rs w)) (some (dt ts w)) S rs ts 0 none none
    have hw1 : walkS S (rws rs) = some (rs.map rw_) := rfl
    have hw2 : walkS S (rws ts) = some (ts.map rw_) := rfl
    have hg1 : guardOf S (rws rs) = [] := rfl
    have hg2 : guardOf S (rws ts) = [] := rfl
    have hs : slcD S (rws rs) none (some ((pre rs ts : Nat) : Int)) = some (rws (rs.take (pre rs ts))) := by
      show some (D.tup (cut (rs.map rw_) none (some ((pre rs ts : Nat) : Int)))) = _
      rw [cut_hi, ← List.map_take]; rfl
    simp only [Nat.zero_add] at hl
    generalize sem ds (k + 4) = cal at *
    unfold dt at h17 h18 h10 hl ⊢
    simp [e22, h17, h18, ex_for, hw1, hw2, hg1, hg2, pairs_map]
    simp at hl
    simp [hl, hs, intOf, planned, allSome, h10]
  · rw [if_neg hw]
    have : ((w : Int) == (v : Int)) = false := by rw [beq_eq_false_iff_ne]; omega
    generalize sem ds (k + 4) = cal at *
    unfold dt at h17 ⊢
    simp [e22, h17, this]
end K01
end

section
set_option Elab.async false
set_option linter.all false
set_option maxRecDepth 100000
set_option maxHeartbeats 1000000
namespace K01
open Lk
/-! ### what is asked -/
/-- rows, or the word of an error -/
inductive Rv where
  | ok (w : Nat) (rs : List Row) | data | row | number
def rv : Rv → D
  | .ok w rs => .tup [.int w, rws rs]
  | .data => .str [100, 97, 116, 97]
  | .row => .str [114, 111, 119]
  | .number => .str [110, 117, 109, 98, 101, 114]
theorem beq_rows (rs : List Row) : (rs == rs) = true := by simp
theorem eqS_rv (S : Store) (v : Rv) : eqA S (rv v) (rv v) = some true := by
  cases v with
  | ok w rs =>
    show eqS S (.tup [.int w, rws rs]) (.tup [.int w, rws rs]) = _
    have h : rsv S 60 (.tup [.int w, rws rs]) = some (.tup [.int w, rws rs]) := by
      show ((allSome (rsv S 59) [.int w, rws rs]).map D.tup) = _
      simp [allSome, rsv_rows, show rsv S 59 (.int w) = some (.int w) from rfl]
    unfold eqS
    rw [h]
    have := eqD_rows rs rs
    simp [eqD, eqDs, this]
  | data => rfl
  | row => rfl
  | number => rfl
theorem cmp_rv {cal : Nat → List D → M D} {tb : List (Nat × Nat)} (S : Store) (v : Rv) : cmpC cal .ne tb (rv v) (rv v) S = .ok (.bl false) S := by
  have h := eqS_rv S v
  cases v with
  | ok w rs => exact (by simp [rv] at h ⊢; simp [h])
  | _ => rfl
theorem cmp_rvE {cal : Nat → List D → M D} {tb : List (Nat × Nat)} (S : Store) (v : Rv) : cmpC cal .eq tb (rv v) (rv v) S = .ok (.bl true) S := by
  have h := eqS_rv S v
  cases v with
  | ok w rs => exact (by simp [rv] at h ⊢; simp [h])
  | _ => rfl
def askR : XE := .tup (.cons (.att [(0, .prop 17)] (.var 1)) (.cons (.att [(0, .prop 18)] (.var 1)) .nil))
def askHs : List (List Nat × List Nat × Option D) := [([1], [0, 2, 3], some (.str [100, 97, 116, 97])), ([2], [0, 1, 3], some (.str [114, 111, 119])), ([3], [0, 1, 2], some (.str [110, 117, 109, 98, 101, 114]))]
def exq : Rv → Nat
  | .row => 2
  | .number => 3
  | _ => 1
/-- what a call comes to -/
def come (v : Rv) (S : Store) : Res D := match v with
  | .ok w rs => .ok (dt rs w) S
  | v => .exc (exq v) [] S
theorem ask_ {k : Nat} {σ : Env} {S : Store} {e : XE} {v : Rv} (h : ev (sem ds (k + 1)) e σ S = come v S) : ev (sem ds (k + 1)) (.ask 0 askR askHs e) σ S = .ok (rv v) S := by
  rw [ev_ask, ask_app, h]
  cases v with
  | ok w rs =>
    have h17 := s17 k rs w S
    have h18 := s18 k rs w S
    generalize sem ds (k + 1) = cal at *
    unfold dt at h17 h18
    simp only [come, dt, rv, M.calm_app, askR, ev_tup, evs_cons, evs_nil, ev_att, ev_var, M.bind_app, slotOf_succ, slotOf_zero, M.opt_some, M.pure_app, List.lookup, beq_self_eq_true, h17, h18]
  | data => rfl
  | row => rfl
  | number => rfl
/-! ### what is asked for, and what is none -/
def every : List D := [.tup [.non], .tup [.int 0], .tup [.int 9], .tup [.non, .non], .tup [.int 1, .int 9], .tup [.int 10], .non, .int 5, .fl [.int 0], .tup [.bl true], .tup [.int 1, .int 2, .int 3]]
/-- the row of each, if it is one -/
def evR (w : Nat) (d : D) : Option Row := match w, d with
  | 1, .tup [.non] => some [none]
  | 1, .tup [.int 0] => some [some 0]
  | 1, .tup [.int 9] => some [some 9]
  | 2, .tup [.non, .non] => some [none, none]
  | 2, .tup [.int 1, .int 9] => some [some 1, some 9]
  | _, _ => none
theorem ev_cases {P : D → Prop} (h : ∀ d ∈ every, P d) : True := trivial
theorem s15e (k : Nat) {w : Nat} (h1 : 1 ≤ w) (h2 : w ≤ 2) (S : Store) : ∀ d ∈ every, sem ds (k + 3) 15 [d, .int w, .int 9] S = .ok (.bl (evR w d).isSome) S ∧ (∀ r, evR w d = some r → d = rw_ r ∧ okR w r = true) := by
  have : w = 1 ∨ w = 2 := by omega
  intro d hd
  simp only [every, List.mem_cons, List.not_mem_nil, or_false] at hd
  rcases this with rfl | rfl <;> rcases hd with rfl | rfl | rfl | rfl | rfl | rfl | rfl | rfl | rfl | rfl | rfl <;> refine ⟨rfl, ?_⟩ <;> intro r hr <;> simp [evR] at hr <;> subst hr <;> exact ⟨rfl, rfl⟩
/-- whether it is among some rows -/
def mem (rs : List Row) (d : D) : Bool := rs.any fun r => eqD (rw_ r) d
theorem mem_in (S : Store) (rs : List Row) : ∀ d ∈ every, inD S d (rws rs) = some (mem rs d) := by
  intro d hd
  have hr : rsv S 60 d = some d := by
    simp only [every, List.mem_cons, List.not_mem_nil, or_false] at hd
    rcases hd with rfl | rfl | rfl | rfl | rfl | rfl | rfl | rfl | rfl | rfl | rfl <;> rfl
  show memD S d (rs.map rw_) = _
  unfold memD
  rw [hr, all_rsv rw_ (fun x => rsv_row x)]
  simp [mem, List.any_map, Function.comp_def]
theorem mem_len {rs : List Row} {w : Nat} (h : Vd rs w) {xs : List D} (hm : mem rs (.tup xs) = true) : xs.length = w := by
  obtain ⟨r, hr, he⟩ := List.any_eq_true.mp hm
  have : ∀ (a b : List D), eqDs a b = true → a.length = b.length := by
    intro a
    induction a with
    | nil => intro b hb; cases b <;> simp_all [eqDs]
    | cons x a ih => intro b hb; cases b with
      | nil => simp [eqDs] at hb
      | cons y b => simp [eqDs] at hb; simp [ih b hb.2]
  have := this (r.map cd) xs he
  rw [← this, List.length_map, h.len hr]
theorem mem_not {rs : List Row} {d : D} (hd : ∀ xs, d ≠ .tup xs) : mem rs d = false := by
  cases hm : mem rs d with
  | false => rfl
  | true =>
    obtain ⟨r, hr, he⟩ := List.any_eq_true.mp hm
    cases d <;> simp [rw_, eqD] at he
    exact absurd rfl (hd _)
theorem mem_ten {rs : List Row} {w : Nat} (h : Vd rs w) : mem rs (.tup [.int 10]) = false := by
  cases hm : mem rs (.tup [.int 10]) with
  | false => rfl
  | true =>
    obtain ⟨r, hr, he⟩ := List.any_eq_true.mp hm
    have ho := h.ok r hr
    unfold okR at ho
    simp at ho
    match r, he with
    | [], he => simp [rw_, eqD, eqDs] at he
    | [none], he => simp [rw_, eqD, eqDs] at he
    | [some n], he =>
      have := ho.2
      simp [ok9] at this
      simp [rw_, eqD, eqDs] at he
      omega
    | _ :: _ :: _, he => simp [rw_, eqD, eqDs] at he
def isTrue : D → Bool
  | .tup [.bl true] => true
  | _ => false
theorem both {rs : List Row} {w : Nat} (h : Vd rs w) : ∀ d ∈ every, ((evR w d).isSome && mem rs d) = (mem rs d && !isTrue d) := by
  have h12 : w = 1 ∨ w = 2 := by have := h.one; have := h.two; omega
  intro d hd
  simp only [every, List.mem_cons, List.not_mem_nil, or_false] at hd
  have hno : ∀ {xs : List D}, xs.length ≠ w → mem rs (.tup xs) = false := fun {xs} hx => by
    cases hm : mem rs (.tup xs) with
    | false => rfl
    | true => exact absurd (mem_len h hm) hx
  have h10 := mem_ten h
  have hn1 : mem rs .non = false := mem_not (by intro xs h; cases h)
  have hn2 : mem rs (.int 5) = false := mem_not (by intro xs h; cases h)
  have hn3 : mem rs (.fl [.int 0]) = false := mem_not (by intro xs h; cases h)
  rcases h12 with rfl | rfl <;> rcases hd with rfl | rfl | rfl | rfl | rfl | rfl | rfl | rfl | rfl | rfl | rfl <;> simp [evR, isTrue, h10, hn1, hn2, hn3] <;> exact hno (by decide)
theorem s23 (k : Nat) {rs : List Row} {w : Nat} (h : Vd rs w) (S : Store) : ∀ d ∈ every, sem ds (k + 4) 23 [dt rs w, d] S = .ok (.bl ((evR w d).isSome && mem rs d)) S := by
  intro d hd
  have h15 := (s15e k h.one h.two S d hd).1
  have hm := mem_in S rs d hd
  have hc : cmpC (sem ds (k + 3)) .inn [(0, 23)] d (rws rs) S = .ok (.bl (mem rs d)) S := by
    show M.opt ((inD S d (rws rs)).map D.bl) S = _
    rw [hm]; rfl
  refine sem_rt (d := e23) rfl rfl rfl rfl ?_
  generalize sem ds (k + 3) = cal at *
  show exs cal e23.body [some (.ob 0 [rws rs, .int w]), some d] S = _
  generalize rws rs = x at *
  cases hb : (evR w d).isSome <;> rw [hb] at h15 <;> simp [e23, planned, allSome, h15, hc]
end K01
end

section
set_option Elab.async false
set_option linter.all false
set_option maxRecDepth 100000
set_option maxHeartbeats 1000000
namespace K01
open Lk
/-! ### statements in a row -/
def hd : XSs → XS
  | .cons s _ => s
  | .nil => .pass
def tl : XSs → XSs
  | .cons _ r => r
  | .nil => .nil
section
variable {cal : Nat → List D → M D}
theorem seq {s : XS} {r : XSs} {σ σ2 : Env} {S S2 : Store} (h : ex cal s σ S = .ok (.nx σ2) S2) : exs cal (.cons s r) σ S = exs cal r σ2 S2 := by
  rw [exs_cons, M.bind_app, h]
theorem iteF {c : XE} {a b : XSs} {σ : Env} {S S2 : Store} (h : ev cal c σ S = .ok (.bl false) S2) : ex cal (.ite c a b) σ S = exs cal b σ S2 := by
  rw [ex_ite, M.at_app, tst_app, M.bind_app, h]; rfl
theorem iteT {c : XE} {a b : XSs} {σ : Env} {S S2 : Store} (h : ev cal c σ S = .ok (.bl true) S2) : ex cal (.ite c a b) σ S = exs cal a σ S2 := by
  rw [ex_ite, M.at_app, tst_app, M.bind_app, h]; rfl
theorem iteN {c : XE} {a : XSs} {σ : Env} {S S2 : Store} (h : ev cal c σ S = .ok (.bl false) S2) : ex cal (.ite c a .nil) σ S = .ok (.nx σ) S2 := iteF h
theorem setS {t : Tg} {e : XE} {σ σ2 : Env} {d : D} {S S2 : Store} (h : ev cal e σ S = .ok d S2) (ht : setTg t d σ = some σ2) : ex cal (.set t e) σ S = .ok (.nx σ2) S2 := by
  rw [ex_set, M.at_app, h]; simp [ht]
theorem setN {i : Nat} {e : XE} {σ : Env} {d : D} {S S2 : Store} (h : ev cal e σ S = .ok d S2) : ex cal (.set (.nm i) e) σ S = .ok (.nx (σ.set i (some d))) S2 := setS h rfl
theorem retS {e : XE} {r : XSs} {σ : Env} {d : D} {S S2 : Store} (h : ev cal e σ S = .ok d S2) : exs cal (.cons (.ret e) r) σ S = .ok (.rt d) S2 := by
  rw [exs_cons, M.bind_app, ex_ret, M.at_app, h]; rfl
theorem forS {tg : Tg} {it : XI} {b : XSs} {σ σ2 : Env} {xs : List D} {g : Gd} {S S1 S2 : Store} (h : evI cal it σ S = .ok (xs, g) S1) (hl : forGo g tg (exs cal b) xs σ S1 = .ok (.nx σ2) S2) : ex cal (.for tg it b) σ S = .ok (.nx σ2) S2 := by
  rw [ex_for, M.at_app, h]; exact hl
/-- a for whose turns keep something -/
theorem forI {tg : Tg} {b : Env → M Flow} {S : Store} (I : Env → Prop) : ∀ xs : List D, (∀ x ∈ xs, ∀ σ, I σ → ∃ σ1 σ2, setTg tg x σ = some σ1 ∧ b σ1 S = .ok (.nx σ2) S ∧ I σ2) → ∀ σ, I σ → ∃ σ', I σ' ∧ forGo [] tg b xs σ S = .ok (.nx σ') S
  | [], _, σ, hI => ⟨σ, hI, rfl⟩
  | x :: xs, h, σ, hI => by
    obtain ⟨σ1, σ2, h1, h2, h3⟩ := h x List.mem_cons_self σ hI
    obtain ⟨σ', h4, h5⟩ := forI I xs (fun y hy => h y (List.mem_cons_of_mem _ hy)) σ2 h3
    refine ⟨σ', h4, ?_⟩
    simp [forGo, h1, h2, h5]
theorem cmpF {o : Cop} {tb : List (Nat × Nat)} {a b : XE} {σ : Env} {S S1 S2 : Store} {x y : D} {r : Res D} (h1 : ev cal a σ S = .ok x S1) (h2 : ev cal b σ S1 = .ok y S2) (h3 : cmpC cal o tb x y S2 = r) : ev cal (.cmp o tb a b) σ S = r := by
  rw [ev_cmp, M.bind_app, h1]
  show M.bind (ev cal b σ) _ S1 = _
  rw [M.bind_app, h2]
  exact h3
end
theorem binL {cal : Nat → List D → M D} {o : Bop} {tb rb : List (Nat × Nat)} {c f : Nat} {fs : List D} {y : D} {S : Store} (h : tb.lookup c = some f) (ho : okB S c y = true) : binV cal o tb rb (.ob c fs) y S = cal f [.ob c fs, y] S := by
  simp only [binV, h, ho]
theorem binR {cal : Nat → List D → M D} {o : Bop} {tb rb : List (Nat × Nat)} {c f : Nat} {fs : List D} {i : Int} {S : Store} (h : rb.lookup c = some f) : binV cal o tb rb (.int i) (.ob c fs) S = cal f [.ob c fs, .int i] S := by
  simp only [binV, h]
/-! ### data by themselves -/
def I6 (x0 : Option D) (w n : Int) (a X : D) (σ : Env) : Prop := ∃ x4 x5 x8 x9, σ = [x0, some (.int w), some a, some (.fl every), x4, x5, some X, some (.int n), x8, x9, none, none]
section
variable {cal : Nat → List D → M D} {S : Store} {x0 x4 x5 x8 x9 : Option D} {a X : D}
theorem oneE {w : Nat} (h1 : 1 ≤ w) (h2 : w ≤ 2) {n : Int} : ∀ d ∈ every, ∃ b, ex cal (hd b6_7) [x0, some (.int w), some a, some (.fl every), some d, x5, some X, some (.int n), x8, x9, none, none] S = .ok (.nx [x0, some (.int w), some a, some (.fl every), some d, x5, some X, some (.int n), some (.bl b), x9, none, none]) S ∧
    ex cal (hd (tl b6_7)) [x0, some (.int w), some a, some (.fl every), some d, x5, some X, some (.int n), some (.bl b), x9, none, none] S = .ok (.nx [x0, some (.int w), some a, some (.fl every), some d, x5, some X, some (.int n), some (.bl (evR w d).isSome), x9, none, none]) S := by
  have : w = 1 ∨ w = 2 := by omega
  intro d hd
  simp only [every, List.mem_cons, List.not_mem_nil, or_false] at hd
  rcases this with rfl | rfl <;> rcases hd with rfl | rfl | rfl | rfl | rfl | rfl | rfl | rfl | rfl | rfl | rfl <;> exact ⟨_, rfl, rfl⟩
theorem okB_every : ∀ d ∈ every, okB S 0 d = true := by
  intro d hd
  simp only [every, List.mem_cons, List.not_mem_nil, or_false] at hd
  rcases hd with rfl | rfl | rfl | rfl | rfl | rfl | rfl | rfl | rfl | rfl | rfl <;> rfl
end
theorem add_row {cal : Nat → List D → M D} {tb rb : List (Nat × Nat)} {S : Store} {rs : List Row} {r : Row} (hn : rs.length ≤ 300) : binV cal .add tb rb (rws rs) (.tup [rw_ r]) S = .ok (rws (rs ++ [r])) S := by
  have hz2 : rs.length + 1 ≤ sizeMax := Nat.le_trans (Nat.succ_le_succ hn) (by decide)
  simp [rws, binD, hz2]
/-- << -/
theorem turnA (k : Nat) {rs : List Row} {w : Nat} (h : Vd rs w) (hn : rs.length < 300) (n : Int) (x0 : Option D) (S : Store) : ∀ d ∈ every, ∀ σ, I6 x0 w n (rws rs) (dt rs w) σ → ∃ σ1 σ2, setTg (.nm 4) d σ = some σ1 ∧ exs (sem ds (k + 5)) b6_7 σ1 S = .ok (.nx σ2) S ∧ I6 x0 w n (rws rs) (dt rs w) σ2 := by
  rintro d hd σ ⟨x4, x5, x8, x9, rfl⟩
  refine ⟨_, _, rfl, ?_, ⟨some d, x5, some (.bl (evR w d).isSome), some (rv (match evR w d with | some r => .ok w (rs ++ [r]) | none => .row)), rfl⟩⟩
  obtain ⟨b, hA, hB⟩ := oneE (cal := sem ds (k + 5)) (S := S) (x0 := x0) (x5 := x5) (x8 := x8) (x9 := x9) (a := rws rs) (X := dt rs w) h.one h.two (n := n) d hd
  refine (seq hA).trans ((seq hB).trans ?_)
  obtain ⟨h15, hr⟩ := s15e (k + 1) h.one h.two S d hd
  have ho := okB_every (S := S) d hd
  cases he : evR w d with
  | none =>
    have h27 := s27F k (rs := rs) S (by rw [he] at h15; exact h15)
    refine (seq (setN (S2 := S) (d := rv .row) ?_)).trans ((seq (iteN (cmpF (S1 := S) (S2 := S) (x := rv .row) (y := rv .row) ?_ rfl (cmp_rv S _)))).trans rfl)
    · simp [rv]
    · refine ask_ (k := k + 4) (v := .row) ?_
      show binV (sem ds (k + 5)) .shl [(0, 27)] [] (dt rs w) d S = _
      unfold dt at h27 ⊢
      simp only [binV, List.lookup, beq_self_eq_true, ho, h27]
      rfl
  | some r =>
    obtain ⟨rfl, hok⟩ := hr r he
    have h27 := s27T k h hn hok S
    refine (seq (setN (S2 := S) (d := rv (.ok w (rs ++ [r]))) ?_)).trans ((seq (iteN (cmpF (S1 := S) (S2 := S) (x := rv (.ok w (rs ++ [r]))) (y := rv (.ok w (rs ++ [r]))) ?_ rfl (cmp_rv S _)))).trans rfl)
    · have := add_row (cal := sem ds (k + 5)) (tb := [(0, 21)]) (rb := []) (S := S) (rs := rs) (r := r) (by omega)
      generalize sem ds (k + 5) = cal at *
      simp [rv, this]
    · refine ask_ (k := k + 4) (v := .ok w (rs ++ [r])) ?_
      show binV (sem ds (k + 5)) .shl [(0, 27)] [] (dt rs w) (rw_ r) S = _
      unfold dt at h27 ⊢
      simp only [binV, List.lookup, beq_self_eq_true, ho, h27]
      rfl
/-- >> -/
theorem turnB (k : Nat) {rs : List Row} {w : Nat} (h : Vd rs w) (hn : rs.length ≤ 300) (x0 : Option D) (S : Store) (t : Nat) : ∀ σ, I6 x0 w rs.length (rws rs) (dt rs w) σ → ∃ σ1 σ2, setTg (.nm 5) (.int t) σ = some σ1 ∧ exs (sem ds (k + 5)) b6_9 σ1 S = .ok (.nx σ2) S ∧ I6 x0 w rs.length (rws rs) (dt rs w) σ2 := by
  rintro σ ⟨x4, x5, x8, x9, rfl⟩
  have h31 := s31 k h hn t S
  obtain ⟨v, hv⟩ : ∃ v : Rv, v = if t ≤ rs.length then .ok w (rs.drop t) else .number := ⟨_, rfl⟩
  refine ⟨_, _, rfl, ?_, ⟨x4, some (.int t), x8, some (rv v), rfl⟩⟩
  refine (seq (setN (S2 := S) (d := rv v) ?_)).trans ((seq (iteN (cmpF (S1 := S) (S2 := S) (x := rv v) (y := rv v) ?_ rfl (cmp_rv S _)))).trans rfl)
  · by_cases hc : t ≤ rs.length
    · rw [if_pos hc] at hv
      have hi : (t : Int) ≤ rs.length := by omega
      have hs : slcD S (rws rs) (some (t : Int)) none = some (rws (rs.drop t)) := by
        show some (D.tup (cut (rs.map rw_) (some (t : Int)) none)) = _
        rw [cut_lo _ _ (by simpa using hc), ← List.map_drop]; rfl
      simp [hv, rv, hi, intOf, hs]
    · rw [if_neg hc] at hv
      have hi : ¬ ((t : Int) ≤ rs.length) := by omega
      simp [hv, rv, hi]
  · refine ask_ (k := k + 4) (v := v) ?_
    show binV (sem ds (k + 5)) .shr [(0, 31)] [] (dt rs w) (.int t) S = _
    unfold dt at h31 ⊢
    simp only [binV, List.lookup, beq_self_eq_true, h31, okB, hv]
    by_cases hc : t ≤ rs.length <;> simp [hc, come, dt, exq]
theorem cmp_nil {cal : Nat → List D → M D} {tb : List (Nat × Nat)} {S : Store} (rs : List Row) : cmpC cal .eq tb (rws rs) (.tup []) S = .ok (.bl rs.isEmpty) S := by
  have h : eqA S (rws rs) (rws []) = some (rs == []) := eqS_rows rs []
  show M.opt ((eqA S (rws rs) (rws [])).map D.bl) S = _
  rw [h]
  cases rs <;> rfl
/-- an operator, asked -/
theorem evb {cal : Nat → List D → M D} {o : Bop} {tb rb : List (Nat × Nat)} {i j : Nat} {σ : Env} {x y : D} {S : Store} {r : Res D} (hi : slotOf σ i = some x) (hj : slotOf σ j = some y) (h : binV cal o tb rb x y S = r) : ev cal (.bin o tb rb (.var i) (.var j)) σ S = r := by
  rw [ev_bin, M.bind_app, ev_var, hi, M.opt_some]
  show M.bind (ev cal (.var j) σ) _ S = _
  rw [M.bind_app, ev_var, hj, M.opt_some]
  exact h
theorem shapeC {cal : Nat → List D → M D} {S : Store} {x0 x4 x8 x9 : Option D} {a a' X u v : D} {w l t p : Int} {b : Bool} (hm : intBin .mul l t = some p) (hmul : p ≤ 300 → binV cal .mul [(0, 29)] [(0, 30)] a (.int t) S = .ok a' S)
    (hu : u = if p ≤ 300 ∧ t < 400 then .tup [.int w, a'] else .str [100, 97, 116, 97]) (hnil : cmpC cal .eq [(0, 19)] a (.tup []) S = .ok (.bl b) S) (hvT : b = true → v = .tup [.int w, .tup []]) (hvF : b = false → v = u)
    (h1 : ∀ σ, slotOf σ 6 = some X → slotOf σ 5 = some (.int t) → ev cal c6_10 σ S = .ok v S) (h2 : ∀ σ, slotOf σ 6 = some X → slotOf σ 5 = some (.int t) → ev cal c6_11 σ S = .ok v S) (hc : cmpC cal .ne [(0, 19)] v v S = .ok (.bl false) S) :
    exs cal b6_12 [x0, some (.int w), some a, some (.fl every), x4, some (.int t), some X, some (.int l), x8, x9, none, none] S = .ok (.nx [x0, some (.int w), some a, some (.fl every), x4, some (.int t), some X, some (.int l), x8, some v, none, none]) S := by
  refine (seq (setN (S2 := S) (d := u) ?_)).trans ((seq (setN (S2 := S) (d := v) ?_)).trans ((seq (iteN (cmpF (S1 := S) (S2 := S) (x := v) (y := v) (h1 _ rfl rfl) rfl hc))).trans ((seq (iteN (cmpF (S1 := S) (S2 := S) (x := v) (y := v) (h2 _ rfl rfl) rfl hc))).trans rfl)))
  · by_cases hq : p ≤ 300
    · have hb := hmul hq
      by_cases h4 : t < 400
      · rw [if_pos ⟨hq, h4⟩] at hu
        simp [hu, hm, hq, h4, hb]
      · rw [if_neg fun q => h4 q.2] at hu
        simp [hu, hm, hq, h4]
    · rw [if_neg fun q => hq q.1] at hu
      simp [hu, hm, hq]
  · cases b with
    | true => simp [hnil, hvT rfl]
    | false => simp [hnil, hvF rfl]
def vC (w : Nat) (rs : List Row) (t l : Int) : Rv := if l * t ≤ 300 then .ok w (rep t.toNat rs) else .data
theorem come_vC (w : Nat) (rs : List Row) (t l : Int) (S : Store) : come (vC w rs t l) S = if l * t ≤ 300 then .ok (dt (rep t.toNat rs) w) S else .exc 1 [] S := by
  unfold vC
  by_cases hc : l * t ≤ 300
  · rw [if_pos hc, if_pos hc]; rfl
  · rw [if_neg hc, if_neg hc]; rfl
theorem hzC {rs : List Row} {t l : Int} (hl : l = rs.length) (h0 : 0 ≤ t) : l * t ≤ 300 → rs.length * t.toNat ≤ 300 := by
  intro hle
  have : ((rs.length * t.toNat : Nat) : Int) = l * t := by rw [Int.natCast_mul, Int.toNat_of_nonneg h0, hl]
  generalize l * t = p at *
  omega
theorem askC (k : Nat) {rs : List Row} {w : Nat} (h : Vd rs w) (t l : Int) (hl : l = rs.length) (h0 : 0 ≤ t) (h62 : t < 2 ^ 62) (h64 : -(2 ^ 64) < t ∧ t < 2 ^ 64) (S : Store) (σ : Env) (h6 : slotOf σ 6 = some (dt rs w)) (h5 : slotOf σ 5 = some (.int t)) :
    ev (sem ds (k + 5)) c6_10 σ S = .ok (rv (vC w rs t l)) S ∧ ev (sem ds (k + 5)) c6_11 σ S = .ok (rv (vC w rs t l)) S := by
  have h29 := s29 k h t l hl h0 h62 h64 (hzC hl h0) S
  have h30 := s30 k h t l hl h0 h62 h64 (hzC hl h0) S
  rw [← come_vC] at h29 h30
  exact ⟨ask_ (evb h6 h5 ((binL rfl rfl).trans h29)), ask_ (evb h5 h6 ((binR rfl).trans h30))⟩
/-- * -/
theorem turnC (k : Nat) {rs : List Row} {w : Nat} (h : Vd rs w) (x0 : Option D) (S : Store) (t l : Int) (hl : l = rs.length) (ht : t = 0 ∨ t = 1 ∨ t = 3 ∨ t = 300 ∨ t = 301 ∨ t = 1000000000000) : ∀ σ, I6 x0 w l (rws rs) (dt rs w) σ → ∃ σ1 σ2, setTg (.nm 5) (.int t) σ = some σ1 ∧ exs (sem ds (k + 5)) b6_12 σ1 S = .ok (.nx σ2) S ∧ I6 x0 w l (rws rs) (dt rs w) σ2 := by
  rintro σ ⟨x4, x5, x8, x9, rfl⟩
  have h0 : 0 ≤ t := by omega
  have h62 : t < 2 ^ 62 := by omega
  have h64 : -(2 ^ 64) < t ∧ t < 2 ^ 64 := by omega
  refine ⟨_, _, rfl, shapeC (a' := rws (rep t.toNat rs)) (b := rs.isEmpty) (ib_mul l t (Or.inr h64)) (fun hle => ?_) rfl (cmp_nil rs) (fun he => ?_) (fun he => ?_) (fun σ h6 h5 => (askC k h t l hl h0 h62 h64 S σ h6 h5).1) (fun σ h6 h5 => (askC k h t l hl h0 h62 h64 S σ h6 h5).2) (cmp_rv S _), ⟨x4, some (.int t), x8, some (rv (vC w rs t l)), rfl⟩⟩
  · have := mul_tup (cal := sem ds (k + 5)) (tb := [(0, 29)]) (rb := [(0, 30)]) (xs := rs.map rw_) (S := S) h0 h62 (by rw [List.length_map]; exact Nat.le_trans (hzC hl h0 hle) (by decide))
    rw [rep_map] at this
    exact this
  · have : rs = [] := List.isEmpty_iff.mp he
    subst this
    unfold vC
    rw [rep_nil, hl, if_pos (by simp)]
    rfl
  · have h1 : 1 ≤ l := by cases rs with | nil => cases he | cons => simp at hl; omega
    unfold vC
    by_cases hc : l * t ≤ 300
    · have h4 : t < 400 := by
        rcases ht with rfl | rfl | rfl | rfl | rfl | rfl <;> omega
      rw [if_pos hc, if_pos ⟨hc, h4⟩]
      rfl
    · rw [if_neg hc, if_neg fun q => hc q.1]
      rfl
end K01
end

section
set_option Elab.async false
set_option linter.all false
set_option maxRecDepth 100000
set_option maxHeartbeats 1000000
namespace K01
open Lk
section
variable (k : Nat) {rs : List Row} {w : Nat} {x0 x1 x3 x4 x5 x6 x7 x8 x9 x10 x11 : Option D} (S : Store)
theorem c61 {cal : Nat → List D → M D} (h : Vd rs w) (hn : rs.length ≤ 300) : ev cal c6_1 [x0, x1, some (rws rs), x3, x4, x5, x6, x7, x8, x9, x10, x11] S = .ok (.fl (rs.map fun r => .int (r.filter (·.isNone)).length)) S := by
  have h0 : ∀ r ∈ rs, ev cal c6_0 [x0, x1, some (rws rs), x3, some (rw_ r), x5, x6, x7, x8, x9, x10, x11] S = .ok (.fl ((r.filter (·.isNone)).map cd)) S := fun r hr =>
    ev_lcA cd cd (·.isNone) r (g := []) (by simp [walkOf, walkS, itemsOf, guardOf, rw_]) (by have := h.len hr; have := h.two; exact Nat.le_trans (show r.length ≤ 2 by omega) (by decide)) rfl fun x hx =>
      ⟨[x0, x1, some (rws rs), x3, some (rw_ r), x5, x6, x7, x8, x9, x10, some (cd x)], rfl, by simp [isNon_cd], fun _ => by simp⟩
  refine ev_lcB rw_ (fun r => D.int (r.filter (·.isNone)).length) rs (g := []) ?_ (Nat.le_trans hn (by decide)) rfl fun r hr => ?_
  · rfl
  exact ⟨[x0, x1, some (rws rs), x3, some (rw_ r), x5, x6, x7, x8, x9, x10, x11], rfl, by simp [h0 r hr]⟩
theorem range_get (rs : List Row) : (List.range rs.length).map (fun i => rw_ (rs[i]?.getD [])) = rs.map rw_ := by
  apply List.ext_getElem
  · simp
  · intro i h1 h2
    simp at h1 h2
    simp [h1]
theorem c62' {cal : Nat → List D → M D} {X : D} {l : Int} (hn : rs.length ≤ 100) (hl : rangeD [.int l] = some ((List.range rs.length).map fun (i : Nat) => .int i)) (h24 : ∀ i (hi : i < rs.length), idxW cal [(0, 24)] X (.int i) S = .ok (rw_ rs[i]) S) : ev cal c6_2 [x0, x1, x2, x3, x4, x5, some X, some (.int l), x8, x9, x10, x11] S = .ok (.fl (rs.map rw_)) S := by
  rw [← range_get rs]
  refine ev_lcB (fun (i : Nat) => .int i) (fun i => rw_ (rs[i]?.getD [])) (List.range rs.length) (g := []) ?_ ?_ rfl fun i hi => ?_
  · simp [hl]
  · rw [List.length_range]; exact Nat.le_trans hn (by decide)
  · have hi := List.mem_range.mp hi
    have h24 := h24 i hi
    refine ⟨[x0, x1, x2, x3, x4, x5, some X, some (.int l), x8, x9, some (.int i), x11], rfl, ?_⟩
    simp [h24, hi]
theorem c62 (hn : rs.length ≤ 100) : ev (sem ds (k + 2)) c6_2 [x0, x1, x2, x3, x4, x5, some (dt rs w), some (.int rs.length), x8, x9, x10, x11] S = .ok (.fl (rs.map rw_)) S :=
  c62' S hn (rng_nat rs.length hn) fun i hi => s24 k rs w i hi S
theorem c63 (h : Vd rs w) : ev (sem ds (k + 4)) c6_3 [x0, x1, some (rws rs), some (.fl every), x4, x5, some (dt rs w), x7, x8, x9, x10, x11] S = .ok (.fl (every.map fun d => .bl (mem rs d && !isTrue d))) S := by
  refine ev_lcB id (fun d => .bl (mem rs d && !isTrue d)) every (g := []) (by simp [walkOf, walkS, itemsOf, guardOf]) (by decide) rfl fun d hd => ?_
  have h23 := s23 k h S d hd
  rw [both h d hd] at h23
  refine ⟨[x0, x1, some (rws rs), some (.fl every), some d, x5, some (dt rs w), x7, x8, x9, x10, x11], rfl, ?_⟩
  generalize sem ds (k + 4) = cal at *
  unfold dt at h23 ⊢
  simp [cmpC, h23]
theorem ne_true {cal : Nat → List D → M D} {tb : List (Nat × Nat)} (S : Store) : ∀ d ∈ every, cmpC cal .ne tb d (.tup [.bl true]) S = .ok (.bl (!isTrue d)) S := by
  intro d hd
  simp only [every, List.mem_cons, List.not_mem_nil, or_false] at hd
  rcases hd with rfl | rfl | rfl | rfl | rfl | rfl | rfl | rfl | rfl | rfl | rfl <;> rfl
theorem c64 {cal : Nat → List D → M D} : ev cal c6_4 [x0, x1, some (rws rs), some (.fl every), x4, x5, x6, x7, x8, x9, x10, x11] S = .ok (.fl (every.map fun d => .bl (mem rs d && !isTrue d))) S := by
  refine ev_lcB id (fun d => .bl (mem rs d && !isTrue d)) every (g := []) (by simp [walkOf, walkS, itemsOf, guardOf]) (by decide) rfl fun d hd => ?_
  have hm := mem_in S rs d hd
  have hc : cmpC cal .inn [(0, 23)] d (rws rs) S = .ok (.bl (mem rs d)) S := by
    show M.opt ((inD S d (rws rs)).map D.bl) S = _
    rw [hm]; rfl
  have hne := ne_true (cal := cal) (tb := [(0, 19)]) S d hd
  refine ⟨[x0, x1, some (rws rs), some (.fl every), some d, x5, x6, x7, x8, x9, x10, x11], rfl, ?_⟩
  cases hb : mem rs d <;> rw [hb] at hc <;> simp [hc, hne]
theorem eqD_bls {α : Type} (f : α → Bool) (S : Store) (xs : List α) : eqA S (.fl (xs.map fun x => .bl (f x))) (.fl (xs.map fun x => .bl (f x))) = some true := by
  show eqS S _ _ = _
  unfold eqS
  have h : rsv S 60 (.fl (xs.map fun x => .bl (f x))) = some (.fl (xs.map fun x => .bl (f x))) := by
    show ((allSome (rsv S 59) (xs.map fun x => D.bl (f x))).map D.fl) = _
    rw [all_rsv (fun x => D.bl (f x)) fun x => rfl]; rfl
  rw [h]
  have : ∀ ys : List α, eqDs (ys.map fun x => .bl (f x)) (ys.map fun x => .bl (f x)) = true := by
    intro ys
    induction ys with
    | nil => rfl
    | cons y ys ih => simp [eqDs, eqD, ih]
  simp [eqD, this]
theorem eq_rowsL (S : Store) (rs : List Row) : eqA S (.fl (rs.map rw_)) (.fl (rs.map rw_)) = some true := by
  show eqS S _ _ = _
  unfold eqS
  have h : rsv S 60 (.fl (rs.map rw_)) = some (.fl (rs.map rw_)) := by
    show ((allSome (rsv S 59) (rs.map rw_)).map D.fl) = _
    rw [all_rsv rw_ fun x => rsv_row x]; rfl
  rw [h]
  have := eqD_rows rs rs
  simp [rws, eqD] at this
  simp [eqD, this]
end
theorem eq3 (S : Store) (w n : Int) (rs : List Row) : eqA S (.tup [.int w, rws rs, .int n]) (.tup [.int w, rws rs, .int n]) = some true := by
  show eqS S _ _ = _
  have h : rsv S 60 (.tup [.int w, rws rs, .int n]) = some (.tup [.int w, rws rs, .int n]) := by
    show ((allSome (rsv S 59) [.int w, rws rs, .int n]).map D.tup) = _
    have i1 : ∀ i, rsv S 59 (.int i) = some (.int i) := fun _ => rfl
    simp [allSome, rsv_rows, i1]
  unfold eqS
  rw [h]
  have := eqD_rows rs rs
  simp [eqD, eqDs, this]
section
variable {cal : Nat → List D → M D} {S : Store} {x0 : Option D} {rs : List Row} {w : Nat} {l N : Int}
theorem t6 (hX : cal 10 [.fl (rs.map rw_), .int w] S = .ok (dt rs w) S) (hX2 : cal 10 [rws rs, .int w] S = .ok (dt rs w) S) (hl : l = rs.length) (h17 : cal 17 [dt rs w] S = .ok (.int w) S) (h18 : cal 18 [dt rs w] S = .ok (rws rs) S)
    (hlen : biV cal .len [(0, 26)] [dt rs w] S = .ok (.int l) S) (habs : biV cal .abs [(0, 20)] [dt rs w] S = .ok (.int N) S) (hN : N = nones rs)
    (h61 : ∀ x0 x1 x3 x4 x5 x6 x7 x8 x9 x10 x11, ev cal c6_1 [x0, x1, some (rws rs), x3, x4, x5, x6, x7, x8, x9, x10, x11] S = .ok (.fl (rs.map fun r => .int (r.filter (·.isNone)).length)) S)
    (h62 : ∀ x0 x1 x2 x3 x4 x5 x8 x9 x10 x11, ev cal c6_2 [x0, x1, x2, x3, x4, x5, some (dt rs w), some (.int l), x8, x9, x10, x11] S = .ok (.fl (rs.map rw_)) S)
    (heq : cmpC cal .eq [(0, 19)] (dt rs w) (dt rs w) S = .ok (.bl true) S)
    (h63 : ∀ x0 x1 x4 x5 x7 x8 x9 x10 x11, ev cal c6_3 [x0, x1, some (rws rs), some (.fl every), x4, x5, some (dt rs w), x7, x8, x9, x10, x11] S = .ok (.fl (every.map fun d => .bl (mem rs d && !isTrue d))) S)
    (h64 : ∀ x0 x1 x4 x5 x6 x7 x8 x9 x10 x11, ev cal c6_4 [x0, x1, some (rws rs), some (.fl every), x4, x5, x6, x7, x8, x9, x10, x11] S = .ok (.fl (every.map fun d => .bl (mem rs d && !isTrue d))) S)
    (hr : rangeD [.int (l + 2)] = some ((List.range (rs.length + 2)).map fun (t : Nat) => .int t))
    (tA : ∀ d ∈ every, ∀ σ, I6 x0 w l (rws rs) (dt rs w) σ → ∃ σ1 σ2, setTg (.nm 4) d σ = some σ1 ∧ exs cal b6_7 σ1 S = .ok (.nx σ2) S ∧ I6 x0 w l (rws rs) (dt rs w) σ2)
    (tB : ∀ t : Nat, ∀ σ, I6 x0 w l (rws rs) (dt rs w) σ → ∃ σ1 σ2, setTg (.nm 5) (.int t) σ = some σ1 ∧ exs cal b6_9 σ1 S = .ok (.nx σ2) S ∧ I6 x0 w l (rws rs) (dt rs w) σ2)
    (tC : ∀ t : Int, (t = 0 ∨ t = 1 ∨ t = 3 ∨ t = 300 ∨ t = 301 ∨ t = 1000000000000) → ∀ σ, I6 x0 w l (rws rs) (dt rs w) σ → ∃ σ1 σ2, setTg (.nm 5) (.int t) σ = some σ1 ∧ exs cal b6_12 σ1 S = .ok (.nx σ2) S ∧ I6 x0 w l (rws rs) (dt rs w) σ2) :
    exs cal e6.body [x0, some (.int w), some (rws rs), none, none, none, none, none, none, none, none, none] S = .ok (.rt (.bl true)) S := by
  have hw : biD S .list [rws rs] = some (.fl (rs.map rw_)) := rfl
  have hl2 : ∀ tb, biV cal .len tb [rws rs] S = .ok (.int l) S := fun tb => by simp [rws, hl]
  have hl3 : ∀ tb, biV cal .list tb [rws rs] S = .ok (.fl (rs.map rw_)) S := fun tb => rfl
  have hsum := bi_sum S (fun r : Row => (r.filter (·.isNone)).length) rs
  obtain ⟨σA, ⟨a4, a5, a8, a9, rfl⟩, hA⟩ := forI (b := exs cal b6_7) (S := S) (I6 x0 w l (rws rs) (dt rs w)) every tA [x0, some (.int w), some (rws rs), some (.fl every), none, none, some (dt rs w), some (.int l), none, none, none, none] ⟨none, none, none, none, rfl⟩
  obtain ⟨σB, ⟨b4, b5, b8, b9, rfl⟩, hB⟩ := forI (b := exs cal b6_9) (S := S) (tg := .nm 5) (I6 x0 w l (rws rs) (dt rs w)) ((List.range (rs.length + 2)).map fun (t : Nat) => .int t) (fun x hx => by
    obtain ⟨t, _, rfl⟩ := List.mem_map.mp hx
    exact tB t) _ ⟨a4, a5, a8, a9, rfl⟩
  obtain ⟨σC, ⟨c4, c5, c8, c9, rfl⟩, hC⟩ := forI (b := exs cal b6_12) (S := S) (tg := .nm 5) (I6 x0 w l (rws rs) (dt rs w)) [.int 0, .int 1, .int 3, .int 300, .int 301, .int 1000000000000] (fun x hx => by
    simp only [List.mem_cons, List.not_mem_nil, or_false] at hx
    rcases hx with rfl | rfl | rfl | rfl | rfl | rfl <;> exact tC _ (by simp)) _ ⟨b4, b5, b8, b9, rfl⟩
  have hb := eqD_bls (fun d => mem rs d && !isTrue d) S every
  have hrl := eq_rowsL S rs
  have h3 := eq3 S w l rs
  have hpw : intBin .pow 10 12 = some 1000000000000 := rfl
  have hg : guardOf S (.fl every) = [] := rfl
  refine (seq (σ2 := [x0, some (.int w), some (rws rs), none, none, none, some (dt rs w), some (.int l), none, none, none, none]) (S2 := S) ?_).trans ?_
  · simp [hl3, planned, allSome, hX, hl2]
  refine (seq (iteN (S2 := S) ?_)).trans ?_
  · unfold dt at h17 h18 hlen ⊢
    simp [h17, h18, hlen, h3]
  refine (seq (iteN (S2 := S) ?_)).trans ?_
  · simp [habs, h61, hsum, hN, nones]
  refine (seq (iteN (S2 := S) ?_)).trans ?_
  · simp [h62, hl3, hrl, planned, allSome, hX2, heq]
  refine (seq (σ2 := [x0, some (.int w), some (rws rs), some (.fl every), none, none, some (dt rs w), some (.int l), none, none, none, none]) (S2 := S) ?_).trans ?_
  · simp [every]
  refine (seq (iteN (S2 := S) ?_)).trans ?_
  · simp [h63, h64, hb]
  refine (seq (forS (S1 := S) (g := []) (xs := every) ?_ hA)).trans ?_
  · rfl
  refine (seq (forS (S1 := S) (g := []) (xs := ((List.range (rs.length + 2)).map fun (t : Nat) => .int t)) ?_ hB)).trans ?_
  · simp [hr]
  refine (seq (forS (S1 := S) (g := []) (xs := [.int 0, .int 1, .int 3, .int 300, .int 301, .int 1000000000000]) ?_ hC)).trans ?_
  · simp [hpw, walkOf, walkS, itemsOf, guardOf]
  exact retS rfl
end
theorem rng2 (n : Nat) (h : n ≤ 100) : rangeD [.int ((n : Int) + 2)] = some ((List.range (n + 2)).map fun (t : Nat) => .int t) := by
  have := rng_nat (n + 2)
  by_cases hn : n + 2 ≤ 100
  · rw [← this hn]; rfl
  · simp only [rangeD]
    rw [if_pos (by omega)]
    rfl
/-- data are right by themselves -/
theorem s6 (k : Nat) {rs : List Row} {w : Nat} (h : Vd rs w) (hn : rs.length ≤ 100) (x0 : D) (S : Store) : sem ds (k + 6) 6 [x0, .int w, rws rs] S = .ok (.bl true) S := by
  refine sem_rt (d := e6) rfl rfl rfl rfl ?_
  refine t6 (l := rs.length) (N := nones rs) (s10 (k + 1) h (by omega) (.inr rfl) S) (s10 (k + 1) h (by omega) (.inl rfl) S) rfl (s17 (k + 4) rs w S) (s18 (k + 4) rs w S) (len_dt (k + 4) rs w (by omega) S) (abs_dt (k + 4) h (by omega) S) rfl (fun _ _ _ _ _ _ _ _ _ _ _ => c61 S h (by omega)) (fun _ _ _ _ _ _ _ _ _ _ => c62 (k + 3) S hn) ?_ (fun _ _ _ _ _ _ _ _ _ => c63 (k + 1) S h) (fun _ _ _ _ _ _ _ _ _ _ => c64 S) (rng2 _ hn) (turnA k h (by omega) _ _ S) (turnB k h (by omega) _ S) (fun t ht => turnC k h _ S t _ rfl ht)
  have := cmp_dt (k + 4) rs rs w w S
  simpa using this
end K01
end

section
set_option Elab.async false
set_option linter.all false
set_option maxRecDepth 100000
set_option maxHeartbeats 1000000
namespace K01
open Lk
/-! ### two data -/
def pr (w : Nat) (rs : List Row) : D := .tup [.int w, rws rs]
theorem eq_pr (S : Store) (w v : Nat) (rs ts : List Row) : eqA S (pr w rs) (pr v ts) = some (decide (w = v) && (rs == ts)) := by
  show eqS S _ _ = _
  have h : ∀ (w : Nat) (rs : List Row), rsv S 60 (pr w rs) = some (pr w rs) := fun w rs => by
    show ((allSome (rsv S 59) [.int w, rws rs]).map D.tup) = _
    have i1 : ∀ i, rsv S 59 (.int i) = some (.int i) := fun _ => rfl
    simp [allSome, rsv_rows, i1]; rfl
  unfold eqS
  rw [h, h]
  have h2 := eqD_rows rs ts
  have h3 : ((w : Int) == (v : Int)) = decide (w = v) := by rw [Bool.eq_iff_iff]; simp; omega
  simp [pr, eqD, eqDs, h2, h3]
theorem cmp_prN {cal : Nat → List D → M D} {tb : List (Nat × Nat)} (S : Store) (w v : Nat) (rs ts : List Row) : cmpC cal .ne tb (pr w rs) (pr v ts) S = .ok (.bl (!(decide (w = v) && (rs == ts)))) S := by
  show M.opt ((cmpD S .ne (pr w rs) (pr v ts)).map D.bl) S = _
  simp [eq_pr]
theorem cmp_prE {cal : Nat → List D → M D} {tb : List (Nat × Nat)} (S : Store) (w v : Nat) (rs ts : List Row) : cmpC cal .eq tb (pr w rs) (pr v ts) S = .ok (.bl (decide (w = v) && (rs == ts))) S := by
  show M.opt ((cmpD S .eq (pr w rs) (pr v ts)).map D.bl) S = _
  simp [eq_pr]
theorem cmp_rwsE {cal : Nat → List D → M D} {tb : List (Nat × Nat)} (S : Store) (rs ts : List Row) : cmpC cal .eq tb (rws rs) (rws ts) S = .ok (.bl (rs == ts)) S := by
  show M.opt ((cmpD S .eq (rws rs) (rws ts)).map D.bl) S = _
  have : eqA S (rws rs) (rws ts) = some (rs == ts) := eqS_rows rs ts
  simp [this]
theorem cmp_rowE {cal : Nat → List D → M D} {tb : List (Nat × Nat)} (S : Store) (a b : Row) : cmpC cal .eq tb (rw_ a) (rw_ b) S = .ok (.bl (a == b)) S := by
  show M.opt ((cmpD S .eq (rw_ a) (rw_ b)).map D.bl) S = _
  have : eqA S (rw_ a) (rw_ b) = some (a == b) := eqS_row a b
  simp [this]
theorem cmp_blN {cal : Nat → List D → M D} {tb : List (Nat × Nat)} (S : Store) (a : Bool) : cmpC cal .ne tb (.bl a) (.bl a) S = .ok (.bl false) S := by
  cases a <;> rfl
theorem start_sym (rs ts : List Row) (n : Nat) : (ts.take n == rs) = (rs == ts.take n) := by
  rw [Bool.eq_iff_iff]; simp; exact ⟨Eq.symm, Eq.symm⟩
theorem start_lt (w v : Nat) (rs ts : List Row) : (decide (w = v) && (rs == ts.take rs.length) && decide (rs.length < ts.length)) = ((decide (w = v) && (rs == ts.take rs.length)) && !(decide (w = v) && (rs == ts))) := by
  cases h : (decide (w = v) && (rs == ts.take rs.length)) with
  | false => rfl
  | true =>
    simp at h
    rw [decide_eq_true h.1]
    have hl := congrArg List.length h.2
    simp at hl
    by_cases hlt : rs.length < ts.length
    · have : ¬ rs = ts := fun e => by rw [e] at hlt; omega
      simp [hlt, this]
    · have e : rs = ts := by rw [h.2]; exact List.take_of_length_le (by omega)
      simp [e]
section
variable {cal : Nat → List D → M D} {S : Store} {x2 x3 x5 x6 : Option D} {w v : Nat} {rs ts : List Row}
def cW : XE := (.and (.cmp .lt [(0, 28)] (.var 4) (.bi .len [(0, 26)] (.cons (.idx [(0, 24)] (.var 0) (.con (.int 1))) .nil))) (.and (.cmp .lt [(0, 28)] (.var 4) (.bi .len [(0, 26)] (.cons (.idx [(0, 24)] (.var 1) (.con (.int 1))) .nil))) (.cmp .eq [(0, 19)] (.idx [(0, 24)] (.idx [(0, 24)] (.var 0) (.con (.int 1))) (.var 4)) (.idx [(0, 24)] (.idx [(0, 24)] (.var 1) (.con (.int 1))) (.var 4)))))
theorem cW_ok (m : Nat) : ev cal cW [some (pr w rs), some (pr v ts), x2, x3, some (.int m), x5, x6] S = .ok (.bl (decide (0 < pre (rs.drop m) (ts.drop m)))) S := by
  have i1 : ∀ (w : Nat) (rs : List Row), idxW cal [(0, 24)] (pr w rs) (.int 1) S = .ok (rws rs) S := fun w rs => rfl
  have hl : ∀ q : List Row, biV cal .len [(0, 26)] [rws q] S = .ok (.int q.length) S := fun q => by simp [rws]
  have ix : ∀ (q : List Row) (h : m < q.length), idxW cal [(0, 24)] (rws q) (.int m) S = .ok (rw_ q[m]) S := fun q h => by simp [rws, idxD, itemsOf, ixOf, h]
  by_cases h1 : m < rs.length
  · by_cases h2 : m < ts.length
    · have e1 := ix rs h1
      have e2 := ix ts h2
      have hc := cmp_rowE (cal := cal) (tb := [(0, 19)]) S rs[m] ts[m]
      have hp : decide (0 < pre (rs.drop m) (ts.drop m)) = (rs[m] == ts[m]) := by
        rw [List.drop_eq_getElem_cons h1, List.drop_eq_getElem_cons h2]
        by_cases he : rs[m] = ts[m] <;> simp [pre, he]
      rw [hp]
      have h1' : (m : Int) < rs.length := by omega
      have h2' : (m : Int) < ts.length := by omega
      simp [cW, i1, hl, h1, h2, e1, e2, hc]
    · have hp : decide (0 < pre (rs.drop m) (ts.drop m)) = false := by
        rw [List.drop_eq_nil_of_le (show ts.length ≤ m by omega)]
        cases rs.drop m <;> rfl
      rw [hp]
      simp [cW, i1, hl, h1, h2]
  · have hp : decide (0 < pre (rs.drop m) (ts.drop m)) = false := by
      rw [List.drop_eq_nil_of_le (show rs.length ≤ m by omega)]
      rfl
    rw [hp]
    simp [cW, i1, hl, h1]
theorem pre_step (rs ts : List Row) (m : Nat) (h : 0 < pre (rs.drop m) (ts.drop m)) : m < rs.length ∧ pre (rs.drop m) (ts.drop m) = pre (rs.drop (m + 1)) (ts.drop (m + 1)) + 1 := by
  by_cases h1 : m < rs.length
  · refine ⟨h1, ?_⟩
    by_cases h2 : m < ts.length
    · rw [List.drop_eq_getElem_cons h1, List.drop_eq_getElem_cons h2] at h ⊢
      simp only [pre] at h ⊢
      by_cases he : rs[m] = ts[m]
      · rw [if_pos he]
      · rw [if_neg he] at h; omega
    · rw [List.drop_eq_nil_of_le (show ts.length ≤ m by omega)] at h
      cases hh : rs.drop m <;> rw [hh] at h <;> simp [pre] at h
  · rw [List.drop_eq_nil_of_le (show rs.length ≤ m by omega)] at h
    simp [pre] at h
theorem loopW : ∀ (n m : Nat), m ≤ rs.length → rs.length < n + m → whlGo (tst cal cW) (exs cal b3_2) n [some (pr w rs), some (pr v ts), x2, x3, some (.int m), x5, x6] S = .ok (.nx [some (pr w rs), some (pr v ts), x2, x3, some (.int (m + pre (rs.drop m) (ts.drop m) : Nat)), x5, x6]) S
  | 0, m, h0, h => by omega
  | n + 1, m, h0, h => by
    have hc := cW_ok (cal := cal) (S := S) (x2 := x2) (x3 := x3) (x5 := x5) (x6 := x6) (w := w) (v := v) (rs := rs) (ts := ts) m
    cases hp : decide (0 < pre (rs.drop m) (ts.drop m)) with
    | false =>
      rw [hp] at hc
      have : pre (rs.drop m) (ts.drop m) = 0 := by simp at hp; omega
      simp [whlGo, hc, this]
    | true =>
      rw [hp] at hc
      obtain ⟨h1, h2⟩ := pre_step rs ts m (of_decide_eq_true hp)
      have ih := loopW n (m + 1) (by omega) (by omega)
      have e : m + 1 + pre (rs.drop (m + 1)) (ts.drop (m + 1)) = m + pre (rs.drop m) (ts.drop m) := by omega
      rw [e] at ih
      rw [← ih]
      simp [whlGo, hc, b3_2]
theorem askU {k : Nat} {o : Bop} {tb : List (Nat × Nat)} {i j : Nat} {σ : Env} {x y : D} {u : Rv} (hi : slotOf σ i = some x) (hj : slotOf σ j = some y) (h : binV (sem ds (k + 1)) o tb [] x y S = come u S) : ev (sem ds (k + 1)) (.ask 0 askR askHs (.bin o tb [] (.var i) (.var j))) σ S = .ok (rv u) S := ask_ (evb hi hj h)
def vAdd (w v : Nat) (rs ts : List Row) : Rv := if w = v then .ok w (rs ++ ts) else .data
def vSub (w v : Nat) (rs ts : List Row) : Rv := if w = v ∧ rs = ts.take rs.length then .ok v (ts.drop rs.length) else .data
def vAnd (w v : Nat) (rs ts : List Row) : Rv := if w = v then .ok w (rs.take (pre rs ts)) else .data
theorem t3 (n1 : rs.length ≤ 100) (n2 : ts.length ≤ 100) (hX : cal 10 [rws rs, .int w] S = .ok (dt rs w) S) (hY : cal 10 [rws ts, .int v] S = .ok (dt ts v) S)
    (a1 : ∀ σ, slotOf σ 5 = some (dt rs w) → slotOf σ 6 = some (dt ts v) → ev cal c3_0 σ S = .ok (rv (vAdd w v rs ts)) S)
    (a2 : ∀ σ, slotOf σ 5 = some (dt rs w) → slotOf σ 6 = some (dt ts v) → ev cal c3_1 σ S = .ok (rv (vSub w v rs ts)) S)
    (a3 : ∀ σ, slotOf σ 5 = some (dt rs w) → slotOf σ 6 = some (dt ts v) → ev cal c3_3 σ S = .ok (rv (vAnd w v rs ts)) S)
    (hle : cmpC cal .le [(0, 25)] (dt rs w) (dt ts v) S = .ok (.bl (decide (w = v) && (rs == ts.take rs.length))) S)
    (hlt : cmpC cal .lt [(0, 28)] (dt rs w) (dt ts v) S = .ok (.bl (decide (w = v) && (rs == ts.take rs.length) && decide (rs.length < ts.length))) S)
    (heq : cmpC cal .eq [(0, 19)] (dt rs w) (dt ts v) S = .ok (.bl (decide (w = v) && (rs == ts))) S) :
    exs cal e3.body [some (pr w rs), some (pr v ts), none, none, none, none, none] S = .ok (.rt (.bl true)) S := by
  have i1 : ∀ (w : Nat) (rs : List Row), idxW cal [(0, 24)] (pr w rs) (.int 1) S = .ok (rws rs) S := fun w rs => rfl
  have i0 : ∀ (w : Nat) (rs : List Row), idxW cal [(0, 24)] (pr w rs) (.int 0) S = .ok (.int w) S := fun w rs => rfl
  have hl : ∀ q : List Row, biV cal .len [(0, 26)] [rws q] S = .ok (.int q.length) S := fun q => by simp [rws]
  have hwv : ((w : Int) == (v : Int)) = decide (w = v) := by rw [Bool.eq_iff_iff]; simp; omega
  have hbin : binV cal .add [(0, 21)] [] (rws rs) (rws ts) S = .ok (rws (rs ++ ts)) S := by
    have hl : rs.length + ts.length ≤ sizeMax := Nat.le_trans (show rs.length + ts.length ≤ 200 by omega) (by decide)
    simp [rws, binD, hl]
  have hsl : slcD S (rws ts) none (some (rs.length : Int)) = some (rws (ts.take rs.length)) := by
    show some (D.tup (cut (ts.map rw_) none (some (rs.length : Int)))) = _
    rw [cut_hi, ← List.map_take]; rfl
  have hsp : slcD S (rws rs) none (some ((pre rs ts : Nat) : Int)) = some (rws (rs.take (pre rs ts))) := by
    show some (D.tup (cut (rs.map rw_) none (some ((pre rs ts : Nat) : Int)))) = _
    rw [cut_hi, ← List.map_take]; rfl
  have hsh : rs.length ≤ ts.length → slcD S (rws ts) (some (rs.length : Int)) none = some (rws (ts.drop rs.length)) := fun h2 => by
    show some (D.tup (cut (ts.map rw_) (some (rs.length : Int)) none)) = _
    rw [cut_lo _ _ (by simpa using h2), ← List.map_drop]; rfl
  obtain ⟨st, hst⟩ : ∃ st, st = (decide (w = v) && (rs == ts.take rs.length)) := ⟨_, rfl⟩
  refine (seq (σ2 := [some (pr w rs), some (pr v ts), none, none, none, some (dt rs w), some (dt ts v)]) (S2 := S) ?_).trans ?_
  · simp [i0, i1, planned, allSome, hX, hY]
  refine (seq (σ2 := [some (pr w rs), some (pr v ts), some (.bl (decide (w = v))), none, none, some (dt rs w), some (dt ts v)]) (S2 := S) ?_).trans ?_
  · simp [i0, hwv]
  refine (seq (iteN (S2 := S) (cmpF (S1 := S) (S2 := S) (x := rv (vAdd w v rs ts)) (y := rv (vAdd w v rs ts)) (a1 _ rfl rfl) ?_ (cmp_rv S _)))).trans ?_
  · unfold vAdd
    by_cases h : w = v
    · rw [decide_eq_true h, if_pos h]; simp [i0, i1, hbin, rv]
    · rw [decide_eq_false h, if_neg h]; simp [rv]
  refine (seq (σ2 := [some (pr w rs), some (pr v ts), some (.bl (decide (w = v))), some (.bl st), none, some (dt rs w), some (dt ts v)]) (S2 := S) ?_).trans ?_
  · have hc := cmp_rwsE (cal := cal) (tb := [(0, 19)]) S (ts.take rs.length) rs
    rw [start_sym] at hc
    by_cases h : w = v
    · rw [decide_eq_true h] at hst ⊢
      simp [i1, hl, hsl, intOf, hc, hst]
    · rw [decide_eq_false h] at hst ⊢
      simp [hst]
  refine (seq (iteN (S2 := S) ?_)).trans ?_
  · rw [start_lt, ← hst] at hlt
    rw [← hst] at hle
    have hp := cmp_prN (cal := cal) (tb := [(0, 19)]) S w v rs ts
    have c1 := cmp_blN (cal := cal) (tb := [(0, 19)]) S st
    generalize (decide (w = v) && (rs == ts)) = q at *
    have c2 := cmp_blN (cal := cal) (tb := [(0, 19)]) S (st && !q)
    have eb : ∀ a b, eqS S (.bl a) (.bl b) = some (a == b) := fun a b => by cases a <;> cases b <;> rfl
    cases st with
    | true => cases q <;> simp [hle, hlt, hp, eb]
    | false => simp [hle, hlt, eb]
  refine (seq (iteN (S2 := S) ?_)).trans ?_
  · have hp := cmp_prE (cal := cal) (tb := [(0, 19)]) S w v rs ts
    have c1 := cmp_blN (cal := cal) (tb := [(0, 19)]) S (decide (w = v) && (rs == ts))
    generalize (decide (w = v) && (rs == ts)) = q at *
    simp only [ev_cmp, M.bind_app, ev_var, slotOf_succ, slotOf_zero, M.opt_some, heq, hp, c1]
  refine (seq (iteN (S2 := S) (cmpF (S1 := S) (S2 := S) (x := rv (vSub w v rs ts)) (y := rv (vSub w v rs ts)) (a2 _ rfl rfl) ?_ (cmp_rv S _)))).trans ?_
  · unfold vSub
    by_cases h : w = v ∧ rs = ts.take rs.length
    · have : st = true := by rw [hst]; simp [h.1, ← h.2]
      rw [this, if_pos h]
      have h2 : rs.length ≤ ts.length := by have := congrArg List.length h.2; simp at this; omega
      simp [i0, i1, hl, intOf, hsh h2, rv, h.1]
    · have : st = false := by
        cases hs : st with
        | false => rfl
        | true => rw [hs] at hst; simp at hst; exact absurd hst h
      rw [this, if_neg h]
      simp [rv]
  refine (seq (σ2 := [some (pr w rs), some (pr v ts), some (.bl (decide (w = v))), some (.bl st), some (.int (0 : Nat)), some (dt rs w), some (dt ts v)]) (S2 := S) rfl).trans ?_
  refine (seq (σ2 := [some (pr w rs), some (pr v ts), some (.bl (decide (w = v))), some (.bl st), some (.int (pre rs ts : Nat)), some (dt rs w), some (dt ts v)]) (S2 := S) ?_).trans ?_
  · have := loopW (cal := cal) (S := S) (x2 := some (.bl (decide (w = v)))) (x3 := some (.bl st)) (x5 := some (dt rs w)) (x6 := some (dt ts v)) (w := w) (v := v) (rs := rs) (ts := ts) turns 0 (Nat.zero_le _) (Nat.lt_of_le_of_lt n1 (by decide))
    simp only [Nat.zero_add, List.drop_zero] at this
    exact this
  refine retS (cmpF (S1 := S) (S2 := S) (x := rv (vAnd w v rs ts)) (y := rv (vAnd w v rs ts)) (a3 _ rfl rfl) ?_ (cmp_rvE S _))
  unfold vAnd
  by_cases h : w = v
  · rw [decide_eq_true h, if_pos h]; simp [i0, i1, intOf, hsp, rv]
  · rw [decide_eq_false h, if_neg h]; simp [rv]
end
theorem s3 (k : Nat) {rs ts : List Row} {w v : Nat} (h : Vd rs w) (g : Vd ts v) (n1 : rs.length ≤ 100) (n2 : ts.length ≤ 100) (S : Store) : sem ds (k + 6) 3 [pr w rs, pr v ts] S = .ok (.bl true) S := by
  refine sem_rt (d := e3) rfl rfl rfl rfl ?_
  refine t3 n1 n2 (s10 (k + 1) h (by omega) (.inl rfl) S) (s10 (k + 1) g (by omega) (.inl rfl) S) (fun σ h5 h6 => askU h5 h6 ((binL rfl rfl).trans ?_)) (fun σ h5 h6 => askU h6 h5 ((binL rfl rfl).trans ?_)) (fun σ h5 h6 => askU h5 h6 ((binL rfl rfl).trans ?_)) (le_dt (k + 3) rs ts w v S) ?_ (cmp_dt (k + 4) rs ts w v S)
  · refine (s21 k h g (by omega) S).trans ?_
    unfold vAdd
    by_cases e : w = v
    · rw [if_pos e, if_pos e]; rfl
    · rw [if_neg e, if_neg e]; rfl
  · refine (s32 k g (by omega) (by omega) S).trans ?_
    unfold vSub
    by_cases e : w = v ∧ rs = ts.take rs.length
    · rw [if_pos e, if_pos e]; rfl
    · rw [if_neg e, if_neg e]; rfl
  · refine (s22 k h (by omega) S).trans ?_
    unfold vAnd
    by_cases e : w = v
    · rw [if_pos e, if_pos e]; rfl
    · rw [if_neg e, if_neg e]; rfl
  · have h28 := s28 (k + 2) rs ts w v S
    unfold dt at h28 ⊢
    simp only [cmpC, Lk.okR, List.lookup, beq_self_eq_true, Option.isSome, M.calm_app, M.bind_app, h28]
    rfl
end K01
end

section
set_option Elab.async false
set_option linter.all false
set_option maxRecDepth 100000
set_option maxHeartbeats 1000000
namespace K01
open Lk
theorem forT {tg : Tg} {b : Env → M Flow} (P : Nat → Env → Store → Prop) : ∀ (xs : List D) (i : Nat), (∀ x ∈ xs, ∀ j σ S, P j σ S → ∃ σ1 σ2 S2, setTg tg x σ = some σ1 ∧ b σ1 S = .ok (.nx σ2) S2 ∧ P (j + 1) σ2 S2) → ∀ σ S, P i σ S → ∃ σ' S', P (i + xs.length) σ' S' ∧ forGo [] tg b xs σ S = .ok (.nx σ') S'
  | [], i, _, σ, S, h => ⟨σ, S, h, rfl⟩
  | x :: xs, i, ht, σ, S, h => by
    obtain ⟨σ1, σ2, S2, h1, h2, h3⟩ := ht x List.mem_cons_self i σ S h
    obtain ⟨σ', S', h4, h5⟩ := forT P xs (i + 1) (fun y hy => ht y (List.mem_cons_of_mem _ hy)) σ2 S2 h3
    refine ⟨σ', S', ?_, ?_⟩
    · rw [List.length_cons, show i + (xs.length + 1) = i + 1 + xs.length by omega]; exact h4
    · simp [forGo, h1, h2, h5]
/-! ### rows are drawn -/
def five : List (Option Nat) := [none, some 0, some 1, some 2, some 9]
theorem c10' {cal : Nat → List D → M D} {c w : Nat} {W : Int} (hw : w ≤ 2) (hr : rangeD [.int W] = some ((List.range w).map fun (k : Nat) => .int k)) {x2 x3 x4 x5 : Option D} {S : Store} (hI : In c S)
    (hp : ∀ S, In c S → ∃ (p : Option Nat) (S' : Store), ok9 p = true ∧ Kp c S S' ∧ In c S' ∧ cal 7 [.ref c, .fl (five.map cd)] S = .ok (cd p) S') : ∃ (r : Row) (S' : Store), okR w r = true ∧ Kp c S S' ∧ In c S' ∧ ev cal c1_0 [some (.ref c), some (.int W), x2, x3, x4, x5] S = .ok (.fl (r.map cd)) S' := by
  obtain ⟨ps, S', hl, hp, hk, hi, he⟩ := ev_lcK (c := c) (cal := cal) (own := [5]) (tg := .nm 5) (it := .rng (.cons (.var 1) .nil)) (t := .yes) (e := (.call 7 (.cons (.var 0) (.cons (.lst (.cons (.con .non) (.cons (.con (.int 0)) (.cons (.con (.int 1)) (.cons (.con (.int 2)) (.cons (.con (.int 9)) .nil)))))) .nil)) [.arg 0, .arg 1])) (σ := [some (.ref c), some (.int W), x2, x3, x4, x5]) (S := S) (S0 := S) (xs := (List.range w).map fun (k : Nat) => .int k) (fun p => ok9 p = true) cd (by simp [hr]) (by rw [List.length_map, List.length_range]; exact Nat.le_trans hw (by decide)) hI fun x hx => by
    refine ⟨[some (.ref c), some (.int W), x2, x3, x4, some x], rfl, fun _ => rfl, fun S hI => ?_⟩
    obtain ⟨p, S', h0, h1, h2, h3⟩ := hp S hI
    refine ⟨p, S', h0, h1, h2, ?_⟩
    simp [five] at h3
    simp [planned, allSome, h3]
  refine ⟨ps, S', ?_, hk, hi, he⟩
  unfold okR
  rw [hl, List.length_map, List.length_range]
  simp
  exact hp
theorem c10 (k : Nat) {c w : Nat} (hw : w ≤ 2) {x2 x3 x4 x5 : Option D} {S : Store} (hI : In c S) : ∃ (r : Row) (S' : Store), okR w r = true ∧ Kp c S S' ∧ In c S' ∧ ev (sem ds (k + 4)) c1_0 [some (.ref c), some (.int w), x2, x3, x4, x5] S = .ok (.fl (r.map cd)) S' :=
  c10' hw (rng_nat w (by omega)) hI fun S hI => by
    obtain ⟨y, S', hy, h1, h2, h3⟩ := d_pick k hI.1 (five.map cd) (by decide)
    obtain ⟨p, hp, rfl⟩ := List.mem_map.mp hy
    refine ⟨p, S', ?_, Kp.oth h1, hI.oth h1 h2, h3⟩
    simp only [five, List.mem_cons, List.not_mem_nil, or_false] at hp
    rcases hp with rfl | rfl | rfl | rfl | rfl <;> rfl
theorem app_ok {a : Nat} {x : D} {xs : List D} {S : Store} (h : S.get a = some (.lst xs)) (hz : xs.length < sizeMax) : mthD .append (.ref a) [x] S = .ok .non (S.put a (.lst (xs ++ [x]))) := by
  have e : mthD .append (.ref a) [x] S = (match S.get a with
      | some (.lst xs) => if xs.length < sizeMax then .ok .non (S.put a (.lst (xs ++ [x]))) else .bad
      | _ => .bad) := rfl
  rw [e, h]
  exact if_pos hz
theorem b11 {cal : Nat → List D → M D} {c a : Nat} {W : Int} {r : Row} {S S' S2 : Store} {x2 x x5 : Option D} (hm : mthFits S .append (.ref a) = true) (he : ev cal c1_0 [some (.ref c), some (.int W), x2, some (.ref a), x, x5] S = .ok (.fl (r.map cd)) S') (hap : mthD .append (.ref a) [rw_ r] S' = .ok .non S2) : exs cal b1_1 [some (.ref c), some (.int W), x2, some (.ref a), x, x5] S = .ok (.nx [some (.ref c), some (.int W), x2, some (.ref a), x, x5]) S2 := by
  have hb : biD S' .tuple [.fl (r.map cd)] = some (rw_ r) := rfl
  simp [b1_1, hm, he, hb, hap]
/-- where rows are put -/
def P1 (c a w n0 : Nat) (S0 : Store) (x2 : Option D) (j : Nat) (σ : Env) (S : Store) : Prop := ∃ (rs : List Row) (x4 x5 : Option D), rs.length = j ∧ (∀ r ∈ rs, okR w r = true) ∧ S.get a = some (.lst (rs.map rw_)) ∧ In c S ∧ Kp c S0 S ∧ a < S.next ∧ j ≤ j ∧ σ = [some (.ref c), some (.int w), x2, some (.ref a), x4, x5]
theorem turn1 (k : Nat) {c a w : Nat} (hw : w ≤ 2) (hca : a ≠ c) {S0 : Store} (ha : S0.next ≤ a) {x2 : Option D} (x : D) (j : Nat) (hj : j < 100) (σ : Env) (S : Store) (h : P1 c a w 0 S0 x2 j σ S) : ∃ σ1 σ2 S2, setTg (.nm 4) x σ = some σ1 ∧ exs (sem ds (k + 4)) b1_1 σ1 S = .ok (.nx σ2) S2 ∧ P1 c a w 0 S0 x2 (j + 1) σ2 S2 := by
  obtain ⟨rs, x4, x5, hl, hok, hg, hI, hK, hlt, _, rfl⟩ := h
  obtain ⟨r, S', hr, k1, i1, he⟩ := c10 k hw (c := c) (x2 := x2) (x3 := some (.ref a)) (x4 := some x) (x5 := x5) hI
  have hg' : S'.get a = some (.lst (rs.map rw_)) := (k1.2 a hlt hca).trans hg
  have hm : mthFits S .append (.ref a) = true := by simp [mthFits, hg]
  obtain ⟨S2, hS2⟩ : ∃ S2, S2 = S'.put a (.lst (rs.map rw_ ++ [rw_ r])) := ⟨_, rfl⟩
  have hap : mthD .append (.ref a) [rw_ r] S' = .ok .non S2 := by
    rw [hS2]
    exact app_ok hg' (by rw [List.length_map, hl]; exact Nat.lt_trans hj (by decide))
  refine ⟨_, [some (.ref c), some (.int w), x2, some (.ref a), some x, x5], S2, rfl, ?_, ⟨rs ++ [r], some x, x5, by simp [hl], fun q hq => (List.mem_append.mp hq).elim (hok q) fun hq => by rw [List.mem_singleton.mp hq]; exact hr, by rw [hS2]; simp, ⟨?_, ?_⟩, ?_, ?_, Nat.le_refl _, rfl⟩⟩
  · exact b11 hm he hap
  · obtain ⟨zs, q, n, h0, h1, hh⟩ := i1.1
    exact ⟨zs, q, n, h0, h1, by rw [hS2]; simp [Ne.symm hca, hh]⟩
  · rw [hS2]; exact i1.2
  · refine ⟨?_, fun m h1 h2 => ?_⟩
    · rw [hS2]; exact Nat.le_trans hK.1 k1.1
    · rw [hS2]
      have e : m ≠ a := by omega
      simp [e, k1.2 m (Nat.lt_of_lt_of_le h1 hK.1) h2, hK.2 m h1 h2]
  · rw [hS2]; exact Nat.lt_of_lt_of_le hlt k1.1
theorem P1.mono {c a w : Nat} {S0 : Store} {x2 : Option D} {j : Nat} {σ : Env} {S : Store} (h : P1 c a w 0 S0 x2 j σ S) : True := trivial
theorem forJ {tg : Tg} {b : Env → M Flow} (P : Nat → Env → Store → Prop) (N : Nat) : ∀ (xs : List D) (i : Nat), i + xs.length ≤ N → (∀ x ∈ xs, ∀ j σ S, j < N → P j σ S → ∃ σ1 σ2 S2, setTg tg x σ = some σ1 ∧ b σ1 S = .ok (.nx σ2) S2 ∧ P (j + 1) σ2 S2) → ∀ σ S, P i σ S → ∃ σ' S', P (i + xs.length) σ' S' ∧ forGo [] tg b xs σ S = .ok (.nx σ') S'
  | [], i, _, _, σ, S, h => ⟨σ, S, h, rfl⟩
  | x :: xs, i, hN, ht, σ, S, h => by
    rw [List.length_cons] at hN
    obtain ⟨σ1, σ2, S2, h1, h2, h3⟩ := ht x List.mem_cons_self i σ S (by omega) h
    obtain ⟨σ', S', h4, h5⟩ := forJ P N xs (i + 1) (by omega) (fun y hy => ht y (List.mem_cons_of_mem _ hy)) σ2 S2 h3
    refine ⟨σ', S', ?_, ?_⟩
    · rw [List.length_cons, show i + (xs.length + 1) = i + 1 + xs.length by omega]; exact h4
    · simp [forGo, h1, h2, h5]
theorem b1 {cal : Nat → List D → M D} {c a n : Nat} {W N : Int} {rs : List Row} {S S1 S2 S3 : Store} {x4 x5 : Option D} (hS1 : S1 = S.new (.lst [])) (ha : a = S.next) (hn : cal 2 [.ref c, .int 6] S1 = .ok (.int N) S2) (hr : rangeD [.int N] = some ((List.range n).map fun (k : Nat) => .int k))
    (hl : forGo [] (.nm 4) (exs cal b1_1) ((List.range n).map fun (k : Nat) => .int k) [some (.ref c), some (.int W), some (.int 5), some (.ref a), none, none] S2 = .ok (.nx [some (.ref c), some (.int W), some (.int 5), some (.ref a), x4, x5]) S3) (hg : S3.get a = some (.lst (rs.map rw_))) :
    exs cal e1.body [some (.ref c), some (.int W), some (.int 5), none, none, none] S = .ok (.rt (rws rs)) S3 := by
  refine (seq (σ2 := [some (.ref c), some (.int W), some (.int 5), some (.ref a), none, none]) (S2 := S1) ?_).trans ?_
  · subst hS1 ha; simp
  refine (seq (forS (S1 := S2) (g := []) (xs := (List.range n).map fun (k : Nat) => .int k) ?_ hl)).trans ?_
  · simp [planned, allSome, hn, hr]
  refine retS ?_
  have : biD S3 .tuple [.ref a] = some (rws rs) := by simp [biD, dictOf, hg, biS, itemsOf, rws]
  simp [this]
theorem s1 (k : Nat) {c w : Nat} (h1 : 1 ≤ w) (hw : w ≤ 2) {S : Store} (hI : In c S) : ∃ (rs : List Row) (S' : Store), Vd rs w ∧ rs.length ≤ 5 ∧ Kp c S S' ∧ In c S' ∧ sem ds (k + 5) 1 [.ref c, .int w, .int 5] S = .ok (rws rs) S' := by
  have g1 := Ge.new S (.lst [])
  have i1 := hI.ge g1
  obtain ⟨n, S2, hn, ho, hc, h3⟩ := d_next (k + 1) i1.1 6 (by decide)
  have i2 := i1.oth ho hc
  have hca : S.next ≠ c := by have := hI.2; omega
  have hg2 : S2.get S.next = some (.lst (([] : List Row).map rw_)) := by rw [ho.2 _ hca]; simp
  have hP : P1 c S.next w 0 S (some (.int 5)) 0 [some (.ref c), some (.int w), some (.int 5), some (.ref S.next), none, none] S2 := ⟨[], none, none, rfl, by simp, hg2, i2, (Kp.ge g1).trans (Kp.oth ho), by rw [ho.1]; exact Nat.lt_succ_self _, Nat.le_refl _, rfl⟩
  obtain ⟨σ', S3, hP, hl⟩ := forJ (tg := .nm 4) (b := exs (sem ds (k + 4)) b1_1) (P1 c S.next w 0 S (some (.int 5))) 100 ((List.range n).map fun (k : Nat) => .int k) 0 (by simp; omega) (fun x hx j σ T hj h => turn1 k hw hca (Nat.le_refl _) x j hj σ T h) _ _ hP
  obtain ⟨rs, x4, x5, hlen, hok, hg, hI3, hK, _, _, rfl⟩ := hP
  simp at hlen
  refine ⟨rs, S3, ⟨h1, hw, hok⟩, by omega, hK, hI3, ?_⟩
  exact sem_rt (d := e1) rfl rfl rfl rfl (b1 rfl rfl h3 (rng_nat n (by omega)) hl hg)
/-! ### all rows -/
theorem rows_eq (S : Store) (x0 x1 x3 x4 x5 x6 x7 : Option D) : ∀ w : Int, (w = 1 ∨ w = 2) → ev (sem ds 7) (.cmp .ne [(0, 19)] c0_2 c0_3) [x0, x1, some (.int w), x3, x4, x5, x6, x7] S = .ok (.bl false) S := by
  rintro w (rfl | rfl) <;> rfl
end K01
end

section
set_option Elab.async false
set_option linter.all false
set_option maxRecDepth 100000
set_option maxHeartbeats 1000000
namespace K01
open Lk
theorem b00 {cal : Nat → List D → M D} {c : Nat} {t A W N : Int} {B R0 R1 : D} {S S1 S2 : Store} {z x1 x2 x6 x7 : Option D} (hn : cal 2 [.ref c, .int 2] S = .ok (.int N) S1) (hW : 1 + N = W) (hr : cal 1 [.ref c, .int W, .int 5] S1 = .ok R0 S2)
    (hR1 : t = 2 ∧ A = W → binV cal .add [(0, 21)] [] B R0 S2 = .ok R1 S2) (hR2 : ¬ (t = 2 ∧ A = W) → R1 = R0) (h6 : cal 6 [.ref c, .int W, R1] S2 = .ok (.bl true) S2)
    (h3 : cal 3 [.tup [.int A, B], .tup [.int W, R1]] S2 = .ok (.bl true) S2) (h3' : cal 3 [.tup [.int W, R1], .tup [.int A, B]] S2 = .ok (.bl true) S2) :
    exs cal b0_0 [z, x1, x2, some (.int t), some (.ref c), some (.tup [.int A, B]), x6, x7] S = .ok (.nx [z, x1, some (.int W), some (.int t), some (.ref c), some (.tup [.int W, R1]), some R1, x7]) S2 := by
  refine (seq (σ2 := [z, x1, some (.int W), some (.int t), some (.ref c), some (.tup [.int A, B]), x6, x7]) (S2 := S1) ?_).trans ?_
  · simp [planned, allSome, hn, hW]
  refine (seq (σ2 := [z, x1, some (.int W), some (.int t), some (.ref c), some (.tup [.int A, B]), some R0, x7]) (S2 := S2) ?_).trans ?_
  · simp [planned, allSome, hr]
  have i0 : ∀ A, idxD S2 (.tup [.int A, B]) 0 = some (.int A) := fun _ => rfl
  have i1 : ∀ A, idxD S2 (.tup [.int A, B]) 1 = some B := fun _ => rfl
  refine (seq (σ2 := [z, x1, some (.int W), some (.int t), some (.ref c), some (.tup [.int A, B]), some R1, x7]) (S2 := S2) ?_).trans ?_
  · have ei : ∀ i j : Int, eqS S2 (.int i) (.int j) = some (i == j) := fun _ _ => rfl
    by_cases ht : t = 2
    · by_cases hA : A = W
      · have := hR1 ⟨ht, hA⟩
        simp [ht, i0, i1, hA, this, ei]
      · have := hR2 fun h => hA h.2
        have hA' : (A == W) = false := by simp [hA]
        simp [ht, i0, hA', this, ei]
    · have := hR2 fun h => ht h.1
      have ht' : (t == 2) = false := by simp [ht]
      simp [ht', this, ei]
  refine (seq (iteN (S2 := S2) ?_)).trans ?_
  · simp [planned, allSome, h6, h3]
  refine (seq (iteN (S2 := S2) ?_)).trans ?_
  · simp [planned, allSome, h3']
  refine (seq (σ2 := [z, x1, some (.int W), some (.int t), some (.ref c), some (.tup [.int W, R1]), some R1, x7]) (S2 := S2) ?_).trans ?_
  · simp
  rfl
/-- within the turns -/
def PI (c : Nat) (z x1 : Option D) (j : Nat) (σ : Env) (S : Store) : Prop := ∃ (w : Nat) (rs : List Row) (x2 x3 x6 : Option D), Vd rs w ∧ rs.length ≤ 5 * j ∧ In c S ∧ σ = [z, x1, x2, x3, some (.ref c), some (pr w rs), x6, none]
theorem turnI (c : Nat) (z x1 : Option D) (t : Int) (j : Nat) (σ : Env) (S : Store) (hj : j < 4) (h : PI c z x1 j σ S) : ∃ σ1 σ2 S2, setTg (.nm 3) (.int t) σ = some σ1 ∧ exs (sem ds 7) b0_0 σ1 S = .ok (.nx σ2) S2 ∧ PI c z x1 (j + 1) σ2 S2 := by
  obtain ⟨w, rs, x2, x3, x6, hv, hl, hI, rfl⟩ := h
  obtain ⟨r, S1, hr, ho, hc, hn⟩ := d_next 4 hI.1 2 (by decide)
  have i1 := hI.oth ho hc
  obtain ⟨ts, S2, hv2, hl2, hk2, i2, h1⟩ := s1 2 (w := r + 1) (by omega) (by omega) i1
  obtain ⟨us, hus⟩ : ∃ us : List Row, us = if t = 2 ∧ (w : Int) = ((r + 1 : Nat) : Int) then rs ++ ts else ts := ⟨_, rfl⟩
  have hvu : Vd us (r + 1) ∧ us.length ≤ 5 * (j + 1) := by
    by_cases hc : t = 2 ∧ (w : Int) = ((r + 1 : Nat) : Int)
    · rw [if_pos hc] at hus
      have : w = r + 1 := by omega
      subst this hus
      exact ⟨hv.app hv2, by simp; omega⟩
    · rw [if_neg hc] at hus
      subst hus
      exact ⟨hv2, by omega⟩
  refine ⟨_, [z, x1, some (.int ((r + 1 : Nat) : Int)), some (.int t), some (.ref c), some (pr (r + 1) us), some (rws us), none], S2, rfl, ?_, ⟨r + 1, us, _, _, _, hvu.1, hvu.2, i2, rfl⟩⟩
  refine b00 (N := r) (W := ((r + 1 : Nat) : Int)) (R0 := rws ts) hn (by omega) h1 (fun hc => ?_) (fun hc => ?_) (s6 1 hvu.1 (by omega) _ S2) (s3 1 hv hvu.1 (by omega) (by omega) S2) (s3 1 hvu.1 hv (by omega) (by omega) S2)
  · rw [if_pos hc] at hus
    subst hus
    have hl : rs.length + ts.length ≤ sizeMax := Nat.le_trans (show rs.length + ts.length ≤ 100 by omega) (by decide)
    show M.opt (if (rs.map rw_).length + (ts.map rw_).length ≤ sizeMax then some (D.tup (rs.map rw_ ++ ts.map rw_)) else none) S2 = _
    rw [if_pos (by simpa using hl), ← List.map_append]
    rfl
  · rw [if_neg hc] at hus
    rw [hus]
theorem b01 {cal : Nat → List D → M D} {z : D} {b : Int} {S S1 S3 : Store} {x2 x3 x4 x5 x6 : Option D} {σ2 : Env} (hS1 : S1 = S.new (.lst [z, .int b, .int 0]))
    (hl : forGo [] (.nm 3) (exs cal b0_0) [.int 0, .int 1, .int 2, .int 3] [some z, some (.int b), x2, x3, some (.ref S.next), some (pr 1 []), x6, none] S1 = .ok (.nx σ2) S3) : exs cal b0_1 [some z, some (.int b), x2, x3, x4, x5, x6, none] S = .ok (.nx σ2) S3 := by
  refine (seq (σ2 := [some z, some (.int b), x2, x3, some (.ref S.next), some (pr 1 []), x6, none]) (S2 := S1) ?_).trans ?_
  · subst hS1; simp [pr, rws]
  refine (seq (forS (S1 := S1) (g := []) (xs := [.int 0, .int 1, .int 2, .int 3]) rfl hl)).trans rfl
def PO (z : D) (j : Nat) (σ : Env) (S : Store) : Prop := ∃ x1 x2 x3 x4 x5 x6 : Option D, σ = [some z, x1, x2, x3, x4, x5, x6, none]
theorem turnO (zs : List Int) (b : Int) (hb : 0 ≤ b) (j : Nat) (σ : Env) (S : Store) (h : PO (.fl (zs.map .int)) j σ S) : ∃ σ1 σ2 S2, setTg (.nm 1) (.int b) σ = some σ1 ∧ exs (sem ds 7) b0_1 σ1 S = .ok (.nx σ2) S2 ∧ PO (.fl (zs.map .int)) (j + 1) σ2 S2 := by
  obtain ⟨x1, x2, x3, x4, x5, x6, rfl⟩ := h
  obtain ⟨S1, hS1⟩ : ∃ S1, S1 = S.new (.lst [.fl (zs.map .int), .int b, .int 0]) := ⟨_, rfl⟩
  have hI : In S.next S1 := by
    rw [hS1]
    exact ⟨⟨zs, b, 0, hb, by decide, by simp⟩, Nat.lt_succ_self _⟩
  have hP : PI S.next (some (.fl (zs.map .int))) (some (.int b)) 0 [some (.fl (zs.map .int)), some (.int b), x2, x3, some (.ref S.next), some (pr 1 []), x6, none] S1 := ⟨1, [], x2, x3, x6, ⟨by decide, by decide, by simp⟩, by simp, hI, rfl⟩
  obtain ⟨σ2, S3, hP2, hl⟩ := forJ (tg := .nm 3) (b := exs (sem ds 7) b0_0) (PI S.next (some (.fl (zs.map .int))) (some (.int b))) 4 [.int 0, .int 1, .int 2, .int 3] 0 (by decide) (fun x hx j σ T hj h => by
    simp only [List.mem_cons, List.not_mem_nil, or_false] at hx
    rcases hx with rfl | rfl | rfl | rfl <;> exact turnI _ _ _ _ j σ T hj h) _ _ hP
  obtain ⟨w, rs, y2, y3, y6, _, _, _, rfl⟩ := hP2
  exact ⟨_, _, S3, rfl, b01 hS1 hl, ⟨_, _, _, _, _, _, rfl⟩⟩
theorem rng3 (M : Int) (h0 : 0 ≤ M) (h1 : M ≤ 12) : ∃ xs, rangeD [.int 0, .int M, .int 3] = some xs ∧ ∀ x ∈ xs, ∃ b : Int, 0 ≤ b ∧ x = .int b := by
  refine ⟨_, by simp only [rangeD]; rw [if_pos (by omega)], fun x hx => ?_⟩
  obtain ⟨k, _, rfl⟩ := List.mem_map.mp hx
  exact ⟨0 + k * 3, by omega, rfl⟩
theorem b0 {cal : Nat → List D → M D} {d z : D} {l m Q : Int} {xs : List D} {S S2 : Store} {y1 y2 y3 y4 y5 y6 : Option D} (hs : slcD S d none (some 63) = some z) (hl : ∀ tb, biV cal .len tb [z] S = .ok (.int l) S) (hm : biD S .min [.int 12, .int l] = some (.int m)) (hQ : biD S .max [.int 1, .int m] = some (.int Q)) (hr : rangeD [.int 0, .int Q, .int 3] = some xs)
    (hO : forGo [] (.nm 1) (exs cal b0_1) xs [some z, none, none, none, none, none, none, none] S = .ok (.nx [some z, y1, y2, y3, y4, y5, y6, none]) S2)
    (hq : ∀ (x2 : Option D) (w : Int), (w = 1 ∨ w = 2) → ev cal (.cmp .ne [(0, 19)] c0_2 c0_3) [some z, y1, some (.int w), y3, y4, y5, y6, none] S2 = .ok (.bl false) S2) :
    exs cal e0.body [some d, none, none, none, none, none, none, none] S = .ok (.rt (.bl true)) S2 := by
  refine (seq (σ2 := [some z, none, none, none, none, none, none, none]) (S2 := S) ?_).trans ?_
  · simp [intOf, hs]
  refine (seq (forS (S1 := S) (g := []) (xs := xs) ?_ hO)).trans ?_
  · simp [hl, hm, hQ, hr]
  refine (seq (forS (S1 := S2) (S2 := S2) (g := []) (xs := [.int 1, .int 2]) (σ2 := [some z, y1, some (.int 2), y3, y4, y5, y6, none]) rfl ?_)).trans ?_
  · have e1 := hq none 1 (.inl rfl)
    have e2 := hq none 2 (.inr rfl)
    simp only [forGo, M.bind_app, chk_nil, setTg_nm, M.opt_some, List.set_cons_succ, List.set_cons_zero, b0_4, exs_cons, ex_ite, M.at_app, tst_app, e1, e2, truth, exs_nil, M.pure_app]
  exact retS rfl
theorem plain' (ns : List Int) (hl : ns.length ≤ 63) (d : D) (hd : d = .sc (ns.map .int) ∨ d = .fl (ns.map .int)) : ∃ S, sem ds 8 0 [d] S0 = .ok (.bl true) S := by
  have hs : slcD S0 d none (some 63) = some (.fl (ns.map .int)) := by
    have : cut (ns.map D.int) none (some 63) = ns.map D.int := by
      have := cut_hi (ns.map D.int) 63
      rw [List.take_of_length_le (by simpa using hl)] at this
      exact this
    rcases hd with rfl | rfl
    · show some (D.fl (cut (ns.map D.int) none (some 63))) = _
      rw [this]
    · show some (D.fl (cut (ns.map D.int) none (some 63))) = _
      rw [this]
  obtain ⟨l, hl'⟩ : ∃ l : Int, l = ns.length := ⟨_, rfl⟩
  obtain ⟨m, hm⟩ : ∃ m : Int, m = if l < 12 then l else 12 := ⟨_, rfl⟩
  obtain ⟨M, hM⟩ : ∃ M : Int, M = if m > 1 then m else 1 := ⟨_, rfl⟩
  have hM1 : 0 ≤ M ∧ M ≤ 12 := by
    rw [hM]
    by_cases h1 : m > 1
    · rw [if_pos h1]
      rw [hm] at h1 ⊢
      by_cases h2 : l < 12
      · rw [if_pos h2] at h1 ⊢; omega
      · rw [if_neg h2] at h1 ⊢; omega
    · rw [if_neg h1]; omega
  obtain ⟨xs, hr, hx⟩ := rng3 M hM1.1 hM1.2
  obtain ⟨σ', S2, ⟨y1, y2, y3, y4, y5, y6, rfl⟩, hO⟩ := forT (tg := .nm 1) (b := exs (sem ds 7) b0_1) (PO (.fl (ns.map .int))) xs 0 (fun x hx' j σ S h => by
    obtain ⟨b, hb, rfl⟩ := hx x hx'
    exact turnO ns b hb j σ S h) [some (.fl (ns.map .int)), none, none, none, none, none, none, none] S0 ⟨none, none, none, none, none, none, rfl⟩
  refine ⟨S2, sem_rt (d := e0) rfl rfl rfl rfl (b0 (l := l) hs (fun tb => ?_) (m := m) (Q := M) ?_ ?_ hr hO fun _ w hw => rows_eq S2 _ _ _ _ _ _ _ w hw)⟩
  · show Res.ok (D.int ((ns.map D.int).length : Nat)) S0 = Res.ok (D.int l) S0
    rw [hl', List.length_map]
  · rw [hm]; rfl
  · rw [hM]; rfl
theorem plain : ∀ ns : List Int, ns.length ≤ 63 → ∀ d, d = D.sc (ns.map .int) ∨ d = D.fl (ns.map .int) → ∃ S, sem ds 8 0 [d] S0 = .ok (.bl true) S := fun ns h d hd => plain' ns h d hd
end K01
end

section
set_option Elab.async false
set_option linter.all false
set_option maxRecDepth 100000
set_option maxHeartbeats 0
namespace K01
open PySem PySem.Spec PyProof.Rows L2 SlX LamX Lk
abbrev R : PySem.W.OpenRow := PySem.W.OpenLaw.row PySem.Challenge.rw_lackmark_k01_whole_data
def st (i : Nat) : Stmt := PySem.Challenge.pw_lackmark_k01_whole_data.main.body.getD i (.Pass ⟨0, 0, 0, 0⟩)
def cm (i k : Nat) : Stmt := match st i with
  | .ClassDef _ _ _ body _ _ _ _ _ _ _ => body.getD k (.Pass ⟨0, 0, 0, 0⟩)
  | _ => .Pass ⟨0, 0, 0, 0⟩
def d0 : DX := { at_ := .fn "law", name := "law", qual := "law", params := defArgs (st 29), body := defBody (st 29), scope := defScope (st 29), N := ["_law_script", "_law_by", "_law_wide", "_law_turn", "_law_draw_here", "_law_before", "_law_rows", "_law_top"], mu := [4] }
def d1 : DX := { at_ := .fn "_law_some_rows", name := "_law_some_rows", qual := "_law_some_rows", params := defArgs (st 24), body := defBody (st 24), scope := defScope (st 24), N := ["_law_draw_here", "_law_wide", "_law_bound", "_law_found", "_law_turn", "_law_column"], mu := [0, 3] }
def d2 : DX := { at_ := .fn "_law_next", name := "_law_next", qual := "_law_next", params := defArgs (st 22), body := defBody (st 22), scope := defScope (st 22), N := ["_law_draw_here", "_law_bound", "_law_at", "_law_cell"], mu := [0] }
def d3 : DX := { at_ := .fn "_law_two_right", name := "_law_two_right", qual := "_law_two_right", params := defArgs (st 27), body := defBody (st 27), scope := defScope (st 27), N := ["_law_one", "_law_other", "_law_is_alike", "_law_start", "_law_many", "_law_first", "_law_second"], lam := true }
def d4 : DX := { at_ := .fn "rows_for", name := "rows_for", qual := "rows_for", params := defArgs (st 17), body := defBody (st 17), scope := defScope (st 17), N := ["width", "top"] }
def d5 : DX := { at_ := .fn "_law_all_rows", name := "_law_all_rows", qual := "_law_all_rows", params := defArgs (st 28), body := defBody (st 28), scope := defScope (st 28), N := ["_law_wide", "_law_top", "_law_items", "_law_found", "_law_item", "_law_late"] }
def d6 : DX := { at_ := .fn "_law_one_right", name := "_law_one_right", qual := "_law_one_right", params := defArgs (st 26), body := defBody (st 26), scope := defScope (st 26), N := ["_law_draw_here", "_law_wide", "_law_rows", "_law_every", "_law_row", "_law_times", "_law_data", "_law_many", "_law_is_one", "_law_due", "_law_at", "_law_item"], lam := true }
def d7 : DX := { at_ := .fn "_law_pick", name := "_law_pick", qual := "_law_pick", params := defArgs (st 23), body := defBody (st 23), scope := defScope (st 23), N := ["_law_draw_here", "_law_things"], mu := [0] }
def d8 : DX := { at_ := .fn "_law_number", name := "_law_number", qual := "_law_number", params := defArgs (st 21), body := defBody (st 21), scope := defScope (st 21), N := ["_law_cell", "_law_k", "_law_bound", "_law_power", "_law_times", "_law_rest", "_law_small"] }
def d9 : DX := { at_ := .fn "_law_cell_at", name := "_law_cell_at", qual := "_law_cell_at", params := defArgs (st 19), body := defBody (st 19), scope := defScope (st 19), N := ["_law_script", "_law_k"] }
def d10 : DX := { at_ := .meth "Data" "__init__", name := "__init__", qual := "Data.__init__", params := defArgs (cm 14 1), body := defBody (cm 14 1), scope := defScope (cm 14 1), N := ["self", "rows", "width", "many", "row"], kwd := [("width", .int 1)], ini := some 0 }
def d11 : DX := { at_ := .fn "all_rows", name := "all_rows", qual := "all_rows", params := defArgs (st 16), body := defBody (st 16), scope := defScope (st 16), N := ["width", "top", "found", "column", "row", "item"] }
def d12 : DX := { at_ := .fn "is_number", name := "is_number", qual := "is_number", params := defArgs (st 10), body := defBody (st 10), scope := defScope (st 10), N := ["thing", "least", "most"] }
def d13 : DX := { at_ := .fn "_law_draw", name := "_law_draw", qual := "_law_draw", params := defArgs (st 20), body := defBody (st 20), scope := defScope (st 20), N := ["_law_cell", "_law_k", "_law_bound", "_law_primes"] }
def d14 : DX := { at_ := .fn "width_of", name := "width_of", qual := "width_of", params := defArgs (st 13), body := defBody (st 13), scope := defScope (st 13), N := ["rows", "width"] }
def d15 : DX := { at_ := .fn "is_row", name := "is_row", qual := "is_row", params := defArgs (st 12), body := defBody (st 12), scope := defScope (st 12), N := ["thing", "width", "most", "item"] }
def d16 : DX := { at_ := .fn "is_held", name := "is_held", qual := "is_held", params := defArgs (st 11), body := defBody (st 11), scope := defScope (st 11), N := ["thing", "most"] }
def d17 : DX := { at_ := .prop "Data" "width", name := "width", qual := "Data.width", params := defArgs (cm 14 4), body := defBody (cm 14 4), scope := defScope (cm 14 4), N := ["self"] }
def d18 : DX := { at_ := .prop "Data" "rows", name := "rows", qual := "Data.rows", params := defArgs (cm 14 3), body := defBody (cm 14 3), scope := defScope (cm 14 3), N := ["self"] }
def d19 : DX := { at_ := .meth "Data" "__eq__", name := "__eq__", qual := "Data.__eq__", params := defArgs (cm 14 19), body := defBody (cm 14 19), scope := defScope (cm 14 19), N := ["self", "other"] }
def d20 : DX := { at_ := .meth "Data" "__abs__", name := "__abs__", qual := "Data.__abs__", params := defArgs (cm 14 15), body := defBody (cm 14 15), scope := defScope (cm 14 15), N := ["self", "row", "item"] }
def d21 : DX := { at_ := .meth "Data" "__add__", name := "__add__", qual := "Data.__add__", params := defArgs (cm 14 5), body := defBody (cm 14 5), scope := defScope (cm 14 5), N := ["self", "other"] }
def d22 : DX := { at_ := .meth "Data" "__and__", name := "__and__", qual := "Data.__and__", params := defArgs (cm 14 10), body := defBody (cm 14 10), scope := defScope (cm 14 10), N := ["self", "other", "many", "one", "late"] }
def d23 : DX := { at_ := .meth "Data" "__contains__", name := "__contains__", qual := "Data.__contains__", params := defArgs (cm 14 18), body := defBody (cm 14 18), scope := defScope (cm 14 18), N := ["self", "row"] }
def d24 : DX := { at_ := .meth "Data" "__getitem__", name := "__getitem__", qual := "Data.__getitem__", params := defArgs (cm 14 17), body := defBody (cm 14 17), scope := defScope (cm 14 17), N := ["self", "index"] }
def d25 : DX := { at_ := .meth "Data" "__le__", name := "__le__", qual := "Data.__le__", params := defArgs (cm 14 11), body := defBody (cm 14 11), scope := defScope (cm 14 11), N := ["self", "other"] }
def d26 : DX := { at_ := .meth "Data" "__len__", name := "__len__", qual := "Data.__len__", params := defArgs (cm 14 14), body := defBody (cm 14 14), scope := defScope (cm 14 14), N := ["self"] }
def d27 : DX := { at_ := .meth "Data" "__lshift__", name := "__lshift__", qual := "Data.__lshift__", params := defArgs (cm 14 6), body := defBody (cm 14 6), scope := defScope (cm 14 6), N := ["self", "row"] }
def d28 : DX := { at_ := .meth "Data" "__lt__", name := "__lt__", qual := "Data.__lt__", params := defArgs (cm 14 12), body := defBody (cm 14 12), scope := defScope (cm 14 12), N := ["self", "other"] }
def d29 : DX := { at_ := .meth "Data" "__mul__", name := "__mul__", qual := "Data.__mul__", params := defArgs (cm 14 8), body := defBody (cm 14 8), scope := defScope (cm 14 8), N := ["self", "times"] }
def d30 : DX := { at_ := .meth "Data" "__rmul__", name := "__rmul__", qual := "Data.__rmul__", params := defArgs (cm 14 9), body := defBody (cm 14 9), scope := defScope (cm 14 9), N := ["self", "times"] }
def d31 : DX := { at_ := .meth "Data" "__rshift__", name := "__rshift__", qual := "Data.__rshift__", params := defArgs (cm 14 7), body := defBody (cm 14 7), scope := defScope (cm 14 7), N := ["self", "many"] }
def d32 : DX := { at_ := .meth "Data" "__sub__", name := "__sub__", qual := "Data.__sub__", params := defArgs (cm 14 13), body := defBody (cm 14 13), scope := defScope (cm 14 13), N := ["self", "other"] }
def d33 : DX := { at_ := .fn "repeated", name := "repeated", qual := "repeated", params := defArgs (st 15), body := defBody (st 15), scope := defScope (st 15), N := ["rows", "times"] }
def a0 : DX := { at_ := .fn "_law_asked", name := "_law_asked", qual := "_law_asked", params := defArgs (st 25), body := defBody (st 25), scope := defScope (st 25), N := ["_law_call", "_law_data"] }
def G0 : Gt := { defs := [(("law", 1), (0, [])), (("_law_some_rows", 3), (1, [])), (("_law_next", 2), (2, [])), (("_law_two_right", 2), (3, [])), (("rows_for", 2), (4, [])), (("_law_all_rows", 2), (5, [])), (("_law_one_right", 3), (6, [])), (("_law_pick", 2), (7, [])), (("_law_number", 3), (8, [])), (("_law_cell_at", 2), (9, [])), (("all_rows", 2), (11, [])), (("is_number", 3), (12, [])), (("_law_draw", 3), (13, [])), (("width_of", 2), (14, [])), (("is_row", 3), (15, [])), (("is_held", 2), (16, [])), (("repeated", 2), (33, []))], cons := [("MOST_COLUMNS", .int 2), ("MOST_TOP", .int 4), ("MOST_ROWS", .int 300), ("MOST_NUMBER", .int 9)], blts := ["range", "max", "min", "len", "tuple", "int", "list", "abs", "sum", "isinstance", "any", "bool", "all", "property", "zip"], ncl := 1, clss := [("Data", 0)], atts := [("own_rows", [(0, .slot 0)]), ("own_width", [(0, .slot 1)]), ("width", [(0, .prop 17)]), ("rows", [(0, .prop 18)])], maks := [], makk := [(("Data", 1, ["width"]), (0, 10))], errs := [("BadData", 1), ("BadRow", 2), ("BadNumber", 3)], erri := [], hans := [("BadData", ([1], [0, 2, 3])), ("BadNumber", ([3], [0, 1, 2])), ("BadRow", ([2], [0, 1, 3]))], flds := [], eqs := [(0, 19)], ops := [("abs", [(0, 20)]), ("add", [(0, 21)]), ("and", [(0, 22)]), ("contains", [(0, 23)]), ("getitem", [(0, 24)]), ("le", [(0, 25)]), ("len", [(0, 26)]), ("lshift", [(0, 27)]), ("lt", [(0, 28)]), ("mul", [(0, 29)]), ("rmul", [(0, 30)]), ("rshift", [(0, 31)]), ("sub", [(0, 32)])] }
def askd : List DX := [a0]
def G : Gt := { G0 with asks := asksOf G0 askd }
def LW : Law := { cn := ["Data"], sl := [["own_rows", "own_width"]], en := ["LackError", "BadData", "BadRow", "BadNumber"], ef := [none, none, none, none], defs := [d0, d1, d2, d3, d4, d5, d6, d7, d8, d9, d10, d11, d12, d13, d14, d15, d16, d17, d18, d19, d20, d21, d22, d23, d24, d25, d26, d27, d28, d29, d30, d31, d32, d33], sups := [], askd := askd, G := G }
def nm0 : List PySem.Str := ["LackError", "BadData", "BadRow", "BadNumber", "MOST_NUMBER", "MOST_ROWS", "MOST_COLUMNS", "MOST_TOP", "is_number", "is_held", "is_row", "width_of", "Data", "repeated", "all_rows", "rows_for", "_law_cell_at", "_law_draw", "_law_number", "_law_next", "_law_pick", "_law_some_rows", "_law_asked", "_law_one_right", "_law_two_right", "_law_all_rows"]
def names : List PySem.Str := nm0
abbrev hk : PySem.W.Hook := hookX 6 LW R.prog
def ob (s : PySem.W.SharedT) : AlX × Bool := obsXG 6 LW R.prog (HandSHeadRun.getT s)
theorem ob_eq (s : PySem.W.SharedT) : ob s = hk.obs s.abs := obsXG_eq (HandSHeadRun.getT_eq s)
theorem runf (w : World) : HandSHeadRun.RunEq R (PySem.W.view R.prog [29]) hk ob 20000 names (w.withFollow "special-get-raises" false) := by
  intro os
  kernel_rfl
theorem runt (w : World) : HandSHeadRun.RunEq R (PySem.W.view R.prog [29]) hk ob 20000 names (w.withFollow "special-get-raises" true) := by
  intro os
  kernel_rfl
theorem run (w : World) : HandSHeadRun.RunEq R (PySem.W.view R.prog [29]) hk ob 20000 names w := PySem.W.byRow2 "special-get-raises" runf runt w
end K01
end

section
set_option Elab.async false
set_option linter.all false
set_option maxRecDepth 100000
set_option maxHeartbeats 0
namespace K01
open PySem PySem.Spec PyProof.Rows L2 SlX LamX Lk
theorem bp0 : BindP d0.params ["_law_script"] := fun _ _ _ _ _ _ _ _ _ _ us hl => match us, hl with | [_], _ => rfl
theorem bq0 : BindP d0.params d0.ps := by
  rw [show d0.ps = (["_law_script"] : List Str) from by kernel_rfl]
  exact bp0
theorem bp1 : BindP d1.params ["_law_draw_here", "_law_wide", "_law_bound"] := fun _ _ _ _ _ _ _ _ _ _ us hl => match us, hl with | [_, _, _], _ => rfl
theorem bq1 : BindP d1.params d1.ps := by
  rw [show d1.ps = (["_law_draw_here", "_law_wide", "_law_bound"] : List Str) from by kernel_rfl]
  exact bp1
theorem bp2 : BindP d2.params ["_law_draw_here", "_law_bound"] := fun _ _ _ _ _ _ _ _ _ _ us hl => match us, hl with | [_, _], _ => rfl
theorem bq2 : BindP d2.params d2.ps := by
  rw [show d2.ps = (["_law_draw_here", "_law_bound"] : List Str) from by kernel_rfl]
  exact bp2
theorem bp3 : BindP d3.params ["_law_one", "_law_other"] := fun _ _ _ _ _ _ _ _ _ _ us hl => match us, hl with | [_, _], _ => rfl
theorem bq3 : BindP d3.params d3.ps := by
  rw [show d3.ps = (["_law_one", "_law_other"] : List Str) from by kernel_rfl]
  exact bp3
theorem bp4 : BindP d4.params ["width", "top"] := fun _ _ _ _ _ _ _ _ _ _ us hl => match us, hl with | [_, _], _ => rfl
theorem bq4 : BindP d4.params d4.ps := by
  rw [show d4.ps = (["width", "top"] : List Str) from by kernel_rfl]
  exact bp4
theorem bp5 : BindP d5.params ["_law_wide", "_law_top"] := fun _ _ _ _ _ _ _ _ _ _ us hl => match us, hl with | [_, _], _ => rfl
theorem bq5 : BindP d5.params d5.ps := by
  rw [show d5.ps = (["_law_wide", "_law_top"] : List Str) from by kernel_rfl]
  exact bp5
theorem bp6 : BindP d6.params ["_law_draw_here", "_law_wide", "_law_rows"] := fun _ _ _ _ _ _ _ _ _ _ us hl => match us, hl with | [_, _, _], _ => rfl
theorem bq6 : BindP d6.params d6.ps := by
  rw [show d6.ps = (["_law_draw_here", "_law_wide", "_law_rows"] : List Str) from by kernel_rfl]
  exact bp6
theorem bp7 : BindP d7.params ["_law_draw_here", "_law_things"] := fun _ _ _ _ _ _ _ _ _ _ us hl => match us, hl with | [_, _], _ => rfl
theorem bq7 : BindP d7.params d7.ps := by
  rw [show d7.ps = (["_law_draw_here", "_law_things"] : List Str) from by kernel_rfl]
  exact bp7
theorem bp8 : BindP d8.params ["_law_cell", "_law_k", "_law_bound"] := fun _ _ _ _ _ _ _ _ _ _ us hl => match us, hl with | [_, _, _], _ => rfl
theorem bq8 : BindP d8.params d8.ps := by
  rw [show d8.ps = (["_law_cell", "_law_k", "_law_bound"] : List Str) from by kernel_rfl]
  exact bp8
theorem bp9 : BindP d9.params ["_law_script", "_law_k"] := fun _ _ _ _ _ _ _ _ _ _ us hl => match us, hl with | [_, _], _ => rfl
theorem bq9 : BindP d9.params d9.ps := by
  rw [show d9.ps = (["_law_script", "_law_k"] : List Str) from by kernel_rfl]
  exact bp9
theorem bp11 : BindP d11.params ["width", "top"] := fun _ _ _ _ _ _ _ _ _ _ us hl => match us, hl with | [_, _], _ => rfl
theorem bq11 : BindP d11.params d11.ps := by
  rw [show d11.ps = (["width", "top"] : List Str) from by kernel_rfl]
  exact bp11
theorem bp12 : BindP d12.params ["thing", "least", "most"] := fun _ _ _ _ _ _ _ _ _ _ us hl => match us, hl with | [_, _, _], _ => rfl
theorem bq12 : BindP d12.params d12.ps := by
  rw [show d12.ps = (["thing", "least", "most"] : List Str) from by kernel_rfl]
  exact bp12
theorem bp13 : BindP d13.params ["_law_cell", "_law_k", "_law_bound"] := fun _ _ _ _ _ _ _ _ _ _ us hl => match us, hl with | [_, _, _], _ => rfl
theorem bq13 : BindP d13.params d13.ps := by
  rw [show d13.ps = (["_law_cell", "_law_k", "_law_bound"] : List Str) from by kernel_rfl]
  exact bp13
theorem bp14 : BindP d14.params ["rows", "width"] := fun _ _ _ _ _ _ _ _ _ _ us hl => match us, hl with | [_, _], _ => rfl
theorem bq14 : BindP d14.params d14.ps := by
  rw [show d14.ps = (["rows", "width"] : List Str) from by kernel_rfl]
  exact bp14
theorem bp15 : BindP d15.params ["thing", "width", "most"] := fun _ _ _ _ _ _ _ _ _ _ us hl => match us, hl with | [_, _, _], _ => rfl
theorem bq15 : BindP d15.params d15.ps := by
  rw [show d15.ps = (["thing", "width", "most"] : List Str) from by kernel_rfl]
  exact bp15
theorem bp16 : BindP d16.params ["thing", "most"] := fun _ _ _ _ _ _ _ _ _ _ us hl => match us, hl with | [_, _], _ => rfl
theorem bq16 : BindP d16.params d16.ps := by
  rw [show d16.ps = (["thing", "most"] : List Str) from by kernel_rfl]
  exact bp16
theorem bp17 : BindP d17.params ["self"] := fun _ _ _ _ _ _ _ _ _ _ us hl => match us, hl with | [_], _ => rfl
theorem bq17 : BindP d17.params d17.ps := by
  rw [show d17.ps = (["self"] : List Str) from by kernel_rfl]
  exact bp17
theorem bp18 : BindP d18.params ["self"] := fun _ _ _ _ _ _ _ _ _ _ us hl => match us, hl with | [_], _ => rfl
theorem bq18 : BindP d18.params d18.ps := by
  rw [show d18.ps = (["self"] : List Str) from by kernel_rfl]
  exact bp18
theorem bp19 : BindP d19.params ["self", "other"] := fun _ _ _ _ _ _ _ _ _ _ us hl => match us, hl with | [_, _], _ => rfl
theorem bq19 : BindP d19.params d19.ps := by
  rw [show d19.ps = (["self", "other"] : List Str) from by kernel_rfl]
  exact bp19
theorem bp20 : BindP d20.params ["self"] := fun _ _ _ _ _ _ _ _ _ _ us hl => match us, hl with | [_], _ => rfl
theorem bq20 : BindP d20.params d20.ps := by
  rw [show d20.ps = (["self"] : List Str) from by kernel_rfl]
  exact bp20
theorem bp21 : BindP d21.params ["self", "other"] := fun _ _ _ _ _ _ _ _ _ _ us hl => match us, hl with | [_, _], _ => rfl
theorem bq21 : BindP d21.params d21.ps := by
  rw [show d21.ps = (["self", "other"] : List Str) from by kernel_rfl]
  exact bp21
theorem bp22 : BindP d22.params ["self", "other"] := fun _ _ _ _ _ _ _ _ _ _ us hl => match us, hl with | [_, _], _ => rfl
theorem bq22 : BindP d22.params d22.ps := by
  rw [show d22.ps = (["self", "other"] : List Str) from by kernel_rfl]
  exact bp22
theorem bp23 : BindP d23.params ["self", "row"] := fun _ _ _ _ _ _ _ _ _ _ us hl => match us, hl with | [_, _], _ => rfl
theorem bq23 : BindP d23.params d23.ps := by
  rw [show d23.ps = (["self", "row"] : List Str) from by kernel_rfl]
  exact bp23
theorem bp24 : BindP d24.params ["self", "index"] := fun _ _ _ _ _ _ _ _ _ _ us hl => match us, hl with | [_, _], _ => rfl
theorem bq24 : BindP d24.params d24.ps := by
  rw [show d24.ps = (["self", "index"] : List Str) from by kernel_rfl]
  exact bp24
theorem bp25 : BindP d25.params ["self", "other"] := fun _ _ _ _ _ _ _ _ _ _ us hl => match us, hl with | [_, _], _ => rfl
theorem bq25 : BindP d25.params d25.ps := by
  rw [show d25.ps = (["self", "other"] : List Str) from by kernel_rfl]
  exact bp25
theorem bp26 : BindP d26.params ["self"] := fun _ _ _ _ _ _ _ _ _ _ us hl => match us, hl with | [_], _ => rfl
theorem bq26 : BindP d26.params d26.ps := by
  rw [show d26.ps = (["self"] : List Str) from by kernel_rfl]
  exact bp26
theorem bp27 : BindP d27.params ["self", "row"] := fun _ _ _ _ _ _ _ _ _ _ us hl => match us, hl with | [_, _], _ => rfl
theorem bq27 : BindP d27.params d27.ps := by
  rw [show d27.ps = (["self", "row"] : List Str) from by kernel_rfl]
  exact bp27
theorem bp28 : BindP d28.params ["self", "other"] := fun _ _ _ _ _ _ _ _ _ _ us hl => match us, hl with | [_, _], _ => rfl
theorem bq28 : BindP d28.params d28.ps := by
  rw [show d28.ps = (["self", "other"] : List Str) from by kernel_rfl]
  exact bp28
theorem bp29 : BindP d29.params ["self", "times"] := fun _ _ _ _ _ _ _ _ _ _ us hl => match us, hl with | [_, _], _ => rfl
theorem bq29 : BindP d29.params d29.ps := by
  rw [show d29.ps = (["self", "times"] : List Str) from by kernel_rfl]
  exact bp29
theorem bp30 : BindP d30.params ["self", "times"] := fun _ _ _ _ _ _ _ _ _ _ us hl => match us, hl with | [_, _], _ => rfl
theorem bq30 : BindP d30.params d30.ps := by
  rw [show d30.ps = (["self", "times"] : List Str) from by kernel_rfl]
  exact bp30
theorem bp31 : BindP d31.params ["self", "many"] := fun _ _ _ _ _ _ _ _ _ _ us hl => match us, hl with | [_, _], _ => rfl
theorem bq31 : BindP d31.params d31.ps := by
  rw [show d31.ps = (["self", "many"] : List Str) from by kernel_rfl]
  exact bp31
theorem bp32 : BindP d32.params ["self", "other"] := fun _ _ _ _ _ _ _ _ _ _ us hl => match us, hl with | [_, _], _ => rfl
theorem bq32 : BindP d32.params d32.ps := by
  rw [show d32.ps = (["self", "other"] : List Str) from by kernel_rfl]
  exact bp32
theorem bp33 : BindP d33.params ["rows", "times"] := fun _ _ _ _ _ _ _ _ _ _ us hl => match us, hl with | [_, _], _ => rfl
theorem bq33 : BindP d33.params d33.ps := by
  rw [show d33.ps = (["rows", "times"] : List Str) from by kernel_rfl]
  exact bp33
theorem ba0 : BindP a0.params ["_law_call"] := fun _ _ _ _ _ _ _ _ _ _ us hl => match us, hl with | [_], _ => rfl
theorem bb0 : BindP a0.params a0.ps := by
  rw [show a0.ps = (["_law_call"] : List Str) from by kernel_rfl]
  exact ba0
theorem hBa : AllB LW.askd := ⟨fun _ => bb0, trivial⟩
theorem hA : LW.G.asks = asksOf LW.G LW.askd := by kernel_rfl
theorem hB : AllB LW.defs := ⟨fun _ => bq0, fun _ => bq1, fun _ => bq2, fun _ => bq3, fun _ => bq4, fun _ => bq5, fun _ => bq6, fun _ => bq7, fun _ => bq8, fun _ => bq9, fun h => absurd h (by decide +kernel), fun _ => bq11, fun _ => bq12, fun _ => bq13, fun _ => bq14, fun _ => bq15, fun _ => bq16, fun _ => bq17, fun _ => bq18, fun _ => bq19, fun _ => bq20, fun _ => bq21, fun _ => bq22, fun _ => bq23, fun _ => bq24, fun _ => bq25, fun _ => bq26, fun _ => bq27, fun _ => bq28, fun _ => bq29, fun _ => bq30, fun _ => bq31, fun _ => bq32, fun _ => bq33, trivial⟩
theorem hS : AllS LW LW.sups := trivial
theorem bk10 : ∀ (x qual : Str) (body : List Stmt) (scope : Scope) (kV doc pm : Value) (an : Option Addr) (cdv ct : Value) (us ws : List Value), us.length = 2 → ws.length = 1 → bindArgs (PySem.W.fnOf x qual d10.params body scope .none kV doc pm an cdv ct) ⟨us, (["width"] : List Str).zip ws⟩ = pure ((["self", "rows", "width"] : List Str).zip (us ++ ws)) := fun _ _ _ _ _ _ _ _ _ _ us ws h1 h2 => match us, ws, h1, h2 with | [_, _], [_], _, _ => rfl
theorem hKw : ∀ K x m ks c j, LW.G.makk.lookup (x, m, ks) = some (c, j) → ∀ d fd, LW.defs[j]? = some d → FunD K d.name d.qual d.params d.body d.scope (d.dvs K) (d.kws K) (d.at_.adr K) fd → KBn K fd d.ps (m + 1) ks (fun us ws => us ++ ws) (fun vs zs => vs ++ zs) := by
  intro K x m ks c j h d fd hd U
  have q := lookup_in h
  rw [show LW.G.makk = ([(("Data", 1, ["width"]), (0, 10))] : List ((Str × Nat × List Str) × (Nat × Nat))) from rfl] at q
  simp only [List.mem_cons, List.not_mem_nil, or_false, Prod.mk.injEq] at q
  obtain ⟨⟨rfl, rfl, rfl⟩, rfl, rfl⟩ := q
  cases (show LW.defs[10]? = some d10 from rfl).symm.trans hd
  exact kb_of U rfl (by kernel_rfl) bk10
theorem hds : LW.defs.map (cDef LW.G LW.slots) = ds.map some := by kernel_rfl
end K01
open PySem PySem.W PySem.Calls PyProof.Rows
theorem PySem.Challenge.cw_lackmark_k01_whole_data_holds : PySem.Challenge.rw_lackmark_k01_whole_data.Holds := by
  w_on; o_law
  refine HandSHeadRun.head_any (r := (OpenLaw.row PySem.Challenge.rw_lackmark_k01_whole_data)) (q := view (OpenLaw.row PySem.Challenge.rw_lackmark_k01_whole_data).prog [29]) (H := K01.hk) (ob := K01.ob) (M := 20000) (loose := K01.names) (d := HandSHeadRun.topDef (OpenLaw.row PySem.Challenge.rw_lackmark_k01_whole_data).prog 29) (kwd := []) K01.ob_eq
    (by kernel_rfl) (fun s => by kernel_rfl) K01.run (by kernel_rfl) (by kernel_rfl) (by kernel_rfl) (by rfl) (by first | assumption | decide +kernel) (by decide +kernel) ⟨rfl, rfl, rfl, rfl, rfl, by decide +kernel⟩ ?hw ?hc
  case hw => w_witness2
  case hc =>
    refine Lk.walk_ofTE (l := PySem.Challenge.rw_lackmark_k01_whole_data) (n := 63) (k := 4 * 8 + 4) (x := "_law_script") rfl (by decide) (by kernel_rfl) ⟨rfl, by decide, by decide⟩ ?F
    intro w mg fa h Y G hmg0
    have hmg : mg ("law" : PySem.Str) = some (.ref fa) := by
      have e : (HandSHeadRun.topDef (OpenLaw.row PySem.Challenge.rw_lackmark_k01_whole_data).prog 29).name = ("law" : PySem.Str) := by kernel_rfl
      rw [← e]
      exact hmg0
    exact Lk.law_F (L := K01.LW) (P := PySem.Challenge.rw_lackmark_k01_whole_data.prog) (jl := 0) (n := 8) (lx := K01.d0) (ds := K01.ds) (x := "_law_script") rfl rfl rfl (by kernel_rfl) (by decide +kernel) (by decide +kernel) K01.hds K01.hB K01.hBa K01.hA K01.hS K01.hKw K01.plain w mg fa h Y G hmg
end
