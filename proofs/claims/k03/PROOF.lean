import PyProof.Rows.All
import HandS.ForMost
import HandS.Wide
import KE.KeyNested
import HandS.Exc
import HandS.Spec
import HandS.ForExc
import HandS.Dict
import HandS.SetKeys
import HandS.Flow
import HandS.Style
import HandS.TupAny
import HandS.TupMul
import HandS.IsInst
import HandS.Conv
import PyProof.Rows.SeqMore
import HandS.Zip
import KE.GoesEnum
import HandS.ExcOwn
import HandS.Defaults
import HandS.HeadEnd
import HandS.SortInts
import HandS.SetFor
import HandS.SlotsOwn
import PyProof.InstNe
import HandS.More
import KE.KDictCopyH
import HandS.HeadHook4
import HandS.Head0
import HandS.Head1
import HandS.Head2
import HandS.HeadHook1
import HandS.HeadHook2
import PySem.Challenge.RW_samefault_k03_whole_books_and_lawful_fau
set_option Elab.async false
/-! Mini: a small language of trees, its meaning as plain Lean functions. -/
set_option linter.all false
namespace Mini
open PySem

/-- a value: a tree; `ref` names a shared object of the state -/
inductive T where
  | non | bl (b : Bool) | int (i : Int) | str (s : Str) | tup (xs : List T) | ref (n : Nat) | fn (k : Nat) | cl (k : Nat) | ty (n : String)
  deriving Inhabited

/-- a shared object -/
inductive O where
  | lst (xs : List T)
  | ins (c : Nat) (fs : List (Str × T))
  | dk (fs : List (L2.Key × T))
  | dt (fs : List (T × T))
abbrev S := List O
/-- what a walked list hangs on -/
inductive GI where
  | o (n : Nat) (xs : List T)
  | sl (i : Nat)
/-- a value in hand: a tree; a list of one's own (new, or a slot's); a list that is only read -/
inductive TV where
  | t (x : T) | l (xs : List T) | s (xs : List T) (g : List GI)
  deriving Inhabited
abbrev Env := List (Option TV)
structure Ex where
  c : Nat
  fs : List (Str × T)
inductive Res (α : Type) where
  | ok (a : α) (s : S) | exc (e : Ex) (s : S) | bad
def M (α : Type) := S → Res α
@[inline] def M.pure {α : Type} (a : α) : M α := fun s => .ok a s
@[inline] def M.bind {α β : Type} (m : M α) (f : α → M β) : M β := fun s => match m s with
  | .ok a s' => f a s'
  | .exc e s' => .exc e s'
  | .bad => .bad
instance : Monad M where
  pure := M.pure
  bind := M.bind
def fail {α : Type} : M α := fun _ => .bad
def getS : M S := fun s => .ok s s
/-- what may not raise -/
def noExc {α : Type} (m : M α) : M α := fun s => match m s with
  | .ok a s' => .ok a s'
  | _ => .bad
def ofO {α : Type} : Option α → M α
  | some a => pure a
  | none => fail
def guard (b : Bool) : M Unit := if b then pure () else fail

/-! ### syntax -/
inductive Bo where
  | add | sub | mul | fdiv | mod | pow
  deriving DecidableEq
inductive Co where
  | eq | ne | lt | le | gt | ge | is_ | isnot | in_ | notin
  deriving DecidableEq
inductive Ty where
  | int | bool | str | list | tuple | dict | own (c : Nat)
  deriving DecidableEq
inductive Bi where
  | len | all | any | tuple | list | sum | int | abs | bool | repr | max1 | min1 | max2 | min2 | lenset | sortedset | sorted
  deriving DecidableEq
/-- methods of built-in objects -/
inductive Bm where
  | pop | popAt
  deriving DecidableEq
inductive Tg where
  | v (i : Nat)
  | p (is : List Nat)
  deriving DecidableEq
mutual
inductive E where
  | v (i : Nat)
  | k (t : T)
  | gl (g : Nat)
  | fnv (f : Nat)
  | bin (o : Bo) (a b : E)
  | neg (a : E)
  | not (a : E)
  | and (a b : E)
  | or (a b : E)
  | cmp (o : Co) (a b : E)
  | chn (o p : Co) (a b c : E)
  | ite (c a b : E)
  | tup (es : Es)
  | lst (es : Es)
  | ix (a i : E)
  | sl (a lo hi : E)
  | rev (a : E)
  | call (f : Nat) (es : Es)
  | bi (b : Bi) (es : Es)
  | meth (c : Nat) (m : Str) (o : E) (es : Es)
  | mk (c : Nat) (es : Es)
  | fld (o : E) (f : Str)
  | lc (g : Tg) (it c e : E) (own : List Nat)
  | rng (a b : E)
  | enum (e : E)
  | zip (a b : E)
  | mat (e : E)
  | isi (a : E) (ts : List Ty)
  | bm (m : Bm) (o : E) (es : Es)
  | dnew (tk : Bool)
  | dsing (k v : E)
  | dix (d k : E)
  | din (neg : Bool) (k d : E)
  | dget1 (d k : E)
  | dget2 (d k x : E)
  | dsetd (d k x : E)
  | dlen (d : E)
  | dsort (d : E)
  | eqo (neg : Bool) (a b : E)
  | isc (a : E) (c : Nat)
  | rng3 (a b : E)
inductive Es where
  | nil
  | cons (e : E) (r : Es)
end
mutual
inductive St where
  | asg (i : Nat) (e : E)
  | mv (i j : Nat)
  | asgT (is : List Nat) (e : E)
  | par (i j : Nat) (a b : E)
  | par3 (i j l : Nat) (a b c : E)
  | sub (o i e : E)
  | fst (o : E) (f : Str) (e : E)
  | fsts (os : Es) (fs : List Str) (e : E)
  | ex (e : E)
  | app (i : Nat) (e : E)
  | ext (i : Nat) (e : E)
  | appo (o e : E)
  | ret (e : E)
  | retm (j : Nat)
  | retN
  | ifs (c : E) (a b : Sts)
  | for_ (g : Tg) (it : E) (b : Sts)
  | whl (c : E) (b : Sts)
  | brk
  | cnt
  | pass
  | never
  | dput (d k e : E)
  | aug (i : Nat) (e : E)
  | exto (o e : E)
inductive Sts where
  | nil
  | cons (s : St) (r : Sts)
end
/-- a def -/
structure Fd where
  name : Str
  ps : List Str
  N : List Str
  body : Sts
structure Cd where
  name : Str
  init : Nat
  meths : List (Str × Nat)
  flds : List Str
  sup : List Nat := []
structure Prog where
  fns : List Fd
  cls : List Cd
  consts : List (Str × T)
  wf : Nat := 1000000

/-! ### data -/
mutual
def T.dat (r : Nat → Option PyData) : T → Option PyData
  | .non => some .none
  | .bl b => some (.bool b)
  | .int i => some (.int i)
  | .str s => some (.str s)
  | .tup xs => (T.datAll r xs).map .tuple
  | .ref n => r n
  | .fn _ => none
  | .cl _ => none
  | .ty _ => none
def T.datAll (r : Nat → Option PyData) : List T → Option (List PyData)
  | [] => some []
  | x :: xs => match x.dat r, T.datAll r xs with
    | some d, some ds => some (d :: ds)
    | _, _ => none
end
def refD (s : S) : Nat → Nat → Option PyData
  | 0, _ => none
  | k + 1, n => match s[n]? with
    | some (.lst xs) => (T.datAll (refD s k) xs).map .list
    | _ => none
def TV.dat (s : S) : TV → Option PyData
  | .t x => x.dat (refD s 40)
  | .l xs => (T.datAll (refD s 40) xs).map .list
  | .s xs _ => (T.datAll (refD s 40) xs).map .list

/-! ### equality of trees -/
mutual
def T.eqb : T → T → Bool
  | .non, .non => true
  | .bl a, .bl b => a == b
  | .int a, .int b => decide (a = b)
  | .str a, .str b => decide (a = b)
  | .tup xs, .tup ys => T.eqbAll xs ys
  | .ref a, .ref b => decide (a = b)
  | .fn a, .fn b => decide (a = b)
  | .cl a, .cl b => decide (a = b)
  | .ty a, .ty b => decide (a = b)
  | _, _ => false
def T.eqbAll : List T → List T → Bool
  | [], [] => true
  | x :: xs, y :: ys => T.eqb x y && T.eqbAll xs ys
  | _, _ => false
end
mutual
theorem T.eqb_refl : ∀ x : T, T.eqb x x = true
  | .non => rfl
  | .bl a => by simp [T.eqb]
  | .int a => by simp [T.eqb]
  | .str a => by simp [T.eqb]
  | .tup xs => by simp [T.eqb, T.eqbAll_refl xs]
  | .ref a => by simp [T.eqb]
  | .fn a => by simp [T.eqb]
  | .cl a => by simp [T.eqb]
  | .ty a => by simp [T.eqb]
theorem T.eqbAll_refl : ∀ xs : List T, T.eqbAll xs xs = true
  | [] => rfl
  | x :: xs => by simp [T.eqbAll, T.eqb_refl x, T.eqbAll_refl xs]
end
mutual
theorem T.eq_of_eqb : ∀ x y : T, T.eqb x y = true → x = y := by
  intro x y h
  cases x <;> cases y <;> simp only [T.eqb] at h <;> first
    | rfl
    | (cases h; done)
    | (have e := of_decide_eq_true h; subst e; rfl)
    | (have e := eq_of_beq h; subst e; rfl)
    | (rename_i xs ys; rw [T.eq_of_eqbAll xs ys h])
theorem T.eq_of_eqbAll : ∀ xs ys : List T, T.eqbAll xs ys = true → xs = ys
  | [], [], _ => rfl
  | [], _ :: _, h => by simp [T.eqbAll] at h
  | _ :: _, [], h => by simp [T.eqbAll] at h
  | x :: xs, y :: ys, h => by
    simp only [T.eqbAll, Bool.and_eq_true] at h
    rw [T.eq_of_eqb x y h.1, T.eq_of_eqbAll xs ys h.2]
end
/-- what is walked stands as it was -/
def GI.okS (s : S) : GI → Bool
  | .o n xs => (match s[n]? with
    | some (.lst ys) => T.eqbAll ys xs
    | _ => false)
  | .sl _ => true

/-! ### values -/
def deref (n : Nat) : M (List T) := fun s => match s[n]? with
  | some (.lst xs) => .ok xs s
  | _ => .bad
/-- the items of a list or a tuple -/
def seqOf : TV → M (List T)
  | .l xs => pure xs
  | .s xs _ => pure xs
  | .t (.tup xs) => pure xs
  | .t (.ref n) => deref n
  | .t _ => fail
/-- the items of a list -/
def lstOf : TV → M (List T)
  | .l xs => pure xs
  | .s xs _ => pure xs
  | .t (.ref n) => deref n
  | .t _ => fail
/-- the items of a list that is new or shared -/
def lstOf2 : TV → M (List T)
  | .l xs => pure xs
  | .t (.ref n) => deref n
  | _ => fail
/-- what a loop walks -/
def itOf : TV → M (List T × List GI)
  | .l xs => pure (xs, [])
  | .s xs g => pure (xs, g)
  | .t (.tup xs) => pure (xs, [])
  | .t (.ref n) => do let xs ← deref n; pure (xs, [.o n xs])
  | .t _ => fail
def alloc (o : O) : M T := fun s => .ok (.ref s.length) (s ++ [o])
/-- a value as a tree: a list of one's own becomes a shared one -/
def mat : TV → M T
  | .t x => pure x
  | .l xs => alloc (.lst xs)
  | .s _ _ => fail
/-- a value as an argument -/
def argOf : TV → TV
  | .t x => .t x
  | .l xs => .s xs []
  | .s xs _ => .s xs []
def blOf : TV → M Bool
  | .t (.bl b) => pure b
  | _ => fail
/-- truth -/
def truth : TV → M Bool
  | .t .non => pure false
  | .t (.bl b) => pure b
  | .t (.int i) => pure (i != 0)
  | .t (.str x) => if x.length ≤ sizeLine then pure (x.length != 0) else fail
  | .t (.tup xs) => pure (!xs.isEmpty)
  | .t (.ref n) => do let xs ← deref n; pure (!xs.isEmpty)
  | .l xs => pure (!xs.isEmpty)
  | .s xs _ => pure (!xs.isEmpty)
  | .t _ => fail
def powOk (i j : Int) : Bool := decide (0 ≤ j ∧ j ≤ 1000000 ∧ i.natAbs < 2 ^ 64)
def repOk (n : Nat) (k : Int) : Bool := decide (0 ≤ k ∧ k ≤ 1000 ∧ n ≤ 1000)
/-- a list's kind of a value -/
def isL : TV → Bool
  | .l _ => true
  | .s _ _ => true
  | .t (.ref _) => true
  | _ => false
def intOf : TV → M Int
  | .t (.int i) => pure i
  | _ => fail
def addV : TV → TV → M TV
  | .t (.int i), .t (.int j) => pure (.t (.int (i + j)))
  | .t (.str x), .t (.str y) => if x.length + y.length ≤ sizeLine then pure (.t (.str (x ++ y))) else fail
  | .t (.tup xs), .t (.tup ys) => if xs.length + ys.length ≤ sizeLine then pure (.t (.tup (xs ++ ys))) else fail
  | a, b => if isL a && isL b then do
      let xs ← lstOf a
      let ys ← lstOf b
      if xs.length + ys.length ≤ sizeLine then pure (.l (xs ++ ys)) else fail
    else fail
def mulV : TV → TV → M TV
  | .t (.int i), .t (.int j) => if i.natAbs.log2 + j.natAbs.log2 < 1000000 then pure (.t (.int (i * j))) else fail
  | .t (.tup xs), .t (.int k) => if repOk xs.length k then pure (.t (.tup (List.replicate k.toNat xs).flatten)) else fail
  | _, _ => fail
def bin : Bo → TV → TV → M TV
  | .add, a, b => addV a b
  | .sub, a, b => do
    let i ← intOf a
    let j ← intOf b
    pure (.t (.int (i - j)))
  | .mul, a, b => mulV a b
  | .fdiv, a, b => do
    let i ← intOf a
    let j ← intOf b
    if 0 < j ∧ j.natAbs.log2 < 9000 then pure (.t (.int (i / j))) else fail
  | .mod, a, b => do
    let i ← intOf a
    let j ← intOf b
    if 0 < j then pure (.t (.int (i % j))) else fail
  | .pow, a, b => do
    let i ← intOf a
    let j ← intOf b
    if powOk i j then pure (.t (.int (i ^ j.toNat))) else fail
def ixOf : TV → TV → M TV
  | a, .t (.int i) => do
      let xs ← seqOf a
      let x ← ofO (L2.atI xs i)
      pure (.t x)
  | _, _ => fail
def cut {α : Type} (xs : List α) (lo hi : Option Int) : List α := (xs.drop (HT.sIx xs.length 0 lo)).take (HT.sIx xs.length xs.length hi - HT.sIx xs.length 0 lo)
def partOf : Bool → TV → M (Option Int)
  | true, _ => pure none
  | false, v => do
    let i ← intOf v
    pure (some i)
def slOf (a : TV) (lo hi : Option Int) : M TV := match a with
  | .t (.tup xs) => pure (.t (.tup (cut xs lo hi)))
  | a => do
    let xs ← lstOf a
    pure (.l (cut xs lo hi))
def revOf (a : TV) : M TV := match a with
  | .t (.tup xs) => pure (.t (.tup xs.reverse))
  | a => do
    let xs ← lstOf a
    pure (.l xs.reverse)
/-- two data compared -/
def datEq (a b : TV) : M Bool := fun s => match a.dat s, b.dat s with
  | some d, some e => if SeqAt.shaped d && SeqAt.shaped e then .ok (PyData.eqv d e) s else .bad
  | _, _ => .bad
def datAny (x : TV) (xs : List T) : M Bool := fun s => match x.dat s, T.datAll (refD s 40) xs with
  | some d, some ds => if SeqAt.shaped d && SeqAt.shaped (.list ds) then .ok (ds.any fun e => PyData.eqv e d) s else .bad
  | _, _ => .bad
def isNone : TV → Bool
  | .t .non => true
  | _ => false
def ordI (p : Int → Int → Bool) (a b : TV) : M Bool := do
  let i ← intOf a
  let j ← intOf b
  pure (p i j)
def cmp : Co → TV → TV → M Bool
  | .eq, a, b => datEq a b
  | .ne, a, b => do let r ← datEq a b; pure !r
  | .lt, a, b => ordI (fun i j => decide (i < j)) a b
  | .le, a, b => ordI (fun i j => decide (i ≤ j)) a b
  | .gt, a, b => ordI (fun i j => decide (j < i)) a b
  | .ge, a, b => ordI (fun i j => decide (j ≤ i)) a b
  | .is_, a, b => if isNone b then pure (isNone a) else fail
  | .isnot, a, b => if isNone b then pure (!isNone a) else fail
  | .in_, a, b => do let xs ← seqOf b; datAny a xs
  | .notin, a, b => do let xs ← seqOf b; let r ← datAny a xs; pure !r
/-- the class c' is c, or below it -/
def isSub (P : Prog) (c' c : Nat) : Bool := decide (c' = c) || (match P.cls[c']? with
  | some cd => cd.sup.any fun k => decide (k = c)
  | none => false)
def isTy (P : Prog) (s : S) : TV → Ty → Bool
  | .t (.int _), .int => true
  | .t (.bl _), .int => true
  | .t (.bl _), .bool => true
  | .t (.str _), .str => true
  | .t (.tup _), .tuple => true
  | .l _, .list => true
  | .s _ _, .list => true
  | .t (.ref n), .list => true
  | _, _ => false
def isKnown (s : S) : TV → Bool
  | .t (.fn _) => false
  | .t (.cl _) => false
  | .t (.ty _) => false
  | .t (.ref n) => (match s[n]? with
    | some (.lst _) => true
    | _ => false)
  | _ => true
def rangeT (a b : Int) : List T := (List.range (b - a).toNat).map fun (i : Nat) => T.int (a + (i : Int))
mutual
/-- a tree as a key -/
def keyN : T → Option NestedKey
  | .non => some .none
  | .bl b => some (.num (if b = true then 1 else 0))
  | .int i => some (.num i)
  | .str x => some (.text x)
  | .tup xs => match keyNs xs with
    | some ks => some (.tup ks)
    | none => none
  | _ => none
def keyNs : List T → Option (List NestedKey)
  | [] => some []
  | x :: xs => match keyN x, keyNs xs with
    | some k, some ks => some (k :: ks)
    | _, _ => none
end
/-- what stands at a key -/
def atT (fs : List (T × T)) (k : NestedKey) : Option T := (fs.find? fun p => decide (keyN p.1 = some k)).map (·.2)
def putT (fs : List (T × T)) (x : T) (k : NestedKey) (y : T) : List (T × T) := if (atT fs k).isSome then fs.map fun p => if keyN p.1 = some k then (p.1, y) else p else fs ++ [(x, y)]
/-- what stands at a key of ints and texts -/
def atG {κ : Type} [DecidableEq κ] (fs : List (κ × T)) (k : κ) : Option T := (fs.find? fun p => decide (p.1 = k)).map (·.2)
def putG {κ : Type} [DecidableEq κ] (fs : List (κ × T)) (k : κ) (y : T) : List (κ × T) := if (fs.any fun p => decide (p.1 = k)) = true then fs.map fun p => if p.1 = k then (p.1, y) else p else fs ++ [(k, y)]
/-- a tree as a flat key -/
def keyF : T → Option L2.Key
  | .int i => some (.inl i)
  | .str x => some (.inr x)
  | _ => none
/-- a tuple as a key -/
def keyT : T → Option NestedKey
  | .tup xs => match keyNs xs with
    | some ks => if (NestedKey.tup ks).depth ≤ 8 then some (.tup ks) else none
    | none => none
  | _ => none
def dlook (n : Nat) (x : T) : M (Option T) := fun s => match s[n]? with
  | some (.dk fs) => (match keyF x with
    | some k => .ok (atG fs k) s
    | none => .bad)
  | some (.dt fs) => (match keyT x with
    | some k => .ok (atT fs k) s
    | none => .bad)
  | _ => .bad
def dput (n : Nat) (x y : T) : M Unit := fun s => match s[n]? with
  | some (.dk fs) => (match keyF x with
    | some k => if fs.length < sizeLine then .ok () (s.set n (.dk (putG fs k y))) else .bad
    | none => .bad)
  | some (.dt fs) => (match keyT x with
    | some k => if fs.length < sizeLine then .ok () (s.set n (.dt (putT fs x k y))) else .bad
    | none => .bad)
  | _ => .bad
def keyTv : TV → M T
  | .t x => pure x
  | _ => fail
/-- a dict's number -/
def dref (tv : TV) : M Nat := fun s => match tv with
  | .t (.ref n) => (match s[n]? with
    | some (.dk _) => .ok n s
    | some (.dt _) => .ok n s
    | _ => .bad)
  | _ => .bad
/-- a dict's size -/
def dsize (n : Nat) : M Int := fun s => match s[n]? with
  | some (.dk fs) => .ok fs.length s
  | some (.dt fs) => .ok fs.length s
  | _ => .bad
/-- the first pair of a display -/
def dput0 (n : Nat) (x y : T) : M Unit := fun s => match s[n]?, keyF x with
  | some (.dk []), some k => .ok () (s.set n (.dk [(k, y)]))
  | _, _ => .bad
/-- setdefault -/
def dsetV (n : Nat) (x y : T) : M TV := fun s => match s[n]? with
  | some (.dk fs) => (match keyF x with
    | some k => if fs.length < sizeLine then (match atG fs k with
      | some z => .ok (.t z) s
      | none => .ok (.t y) (s.set n (.dk (putG fs k y)))) else .bad
    | none => .bad)
  | some (.dt fs) => (match keyT x with
    | some k => if fs.length < sizeLine then (match atT fs k with
      | some z => .ok (.t z) s
      | none => .ok (.t y) (s.set n (.dt (putT fs x k y)))) else .bad
    | none => .bad)
  | _ => .bad
def intKeys : List (L2.Key × T) → Option (List Int)
  | [] => some []
  | (.inl i, _) :: r => (intKeys r).map (i :: ·)
  | _ => none
def dkeys (n : Nat) : M (List Int) := fun s => match s[n]? with
  | some (.dk fs) => (match intKeys fs with
    | some ks => .ok ks s
    | none => .bad)
  | _ => .bad
def small62 (i : Int) : Bool := decide (-(2 ^ 62) ≤ i ∧ i < 2 ^ 62)
/-- range(a, b, -1) -/
def rangeT3 (a b : Int) : List T := (List.range (a - b).toNat).map fun (i : Nat) => T.int (a - (i : Int))
def rangeV3 (a b : Int) : M TV := if small62 a && small62 b && decide ((a - b).toNat ≤ sizeLine) then pure (.s (rangeT3 a b) []) else fail
def rangeV (a b : Int) : M TV := if small62 a && small62 b && decide ((b - a).toNat ≤ sizeLine) then pure (.s (rangeT a b) []) else fail
def pairs (xs ys : List T) : List T := List.zipWith (fun x y => .tup [x, y]) xs ys
def enumT (xs : List T) : List T := (List.zip (List.range xs.length) xs).map fun p => .tup [.int p.1, p.2]
def intsOf : List T → Option (List Int)
  | [] => some []
  | .int i :: r => (intsOf r).map (i :: ·)
  | _ :: _ => none
def boolsOf : List T → Option (List Bool)
  | [] => some []
  | .bl i :: r => (boolsOf r).map (i :: ·)
  | _ :: _ => none
def len : TV → M Int
  | .t (.str x) => if x.length ≤ sizeLine then pure x.length else fail
  | a => do let xs ← seqOf a; pure xs.length
def maxI : List Int → Option Int
  | [] => none
  | x :: r => some (r.foldl (fun a b => if b > a then b else a) x)
def minI : List Int → Option Int
  | [] => none
  | x :: r => some (r.foldl (fun a b => if b < a then b else a) x)
/-- what repr shows -/
def reprOk (d : PyData) : Bool := d.showable && !d.hasDict && decide (d.depth ≤ 60) && decide (d.shown.length ≤ sizeLine)
def reprV (a : TV) : M TV := fun s => match a.dat s with
  | some d => if reprOk d then .ok (.t (.str d.shown)) s else .bad
  | none => .bad
def dedup (ns : List Int) : List Int := ns.foldl PyProof.Rows.step_dedup []
def isort (ns : List Int) : List Int := ns.mergeSort fun a b => decide (a ≤ b)
def bi : Bi → List TV → M TV
  | .repr, [a] => reprV a
  | .lenset, [a] => do let xs ← lstOf a; let ns ← ofO (intsOf xs); if ns.length < 4000 then pure (.t (.int (dedup ns).length)) else fail
  | .sorted, [a] => do let xs ← lstOf a; let ns ← ofO (intsOf xs); pure (.l ((isort ns).map T.int))
  | .sortedset, [a] => do let xs ← seqOf a; let ns ← ofO (intsOf xs); if ns.length < 4000 ∧ (dedup ns).length < 64 then pure (.l ((isort (dedup ns)).map T.int)) else fail
  | .len, [a] => do let n ← len a; pure (.t (.int n))
  | .all, [a] => do let xs ← lstOf a; let bs ← ofO (boolsOf xs); pure (.t (.bl (bs.all id)))
  | .any, [a] => do let xs ← lstOf a; let bs ← ofO (boolsOf xs); pure (.t (.bl (bs.any id)))
  | .tuple, [a] => do let xs ← seqOf a; pure (.t (.tup xs))
  | .list, [a] => do let xs ← seqOf a; pure (.l xs)
  | .int, [.t (.int i)] => pure (.t (.int i))
  | .int, [.t (.bl b)] => pure (.t (.int (if b then 1 else 0)))
  | .abs, [.t (.int i)] => pure (.t (.int (if i < 0 then -i else i)))
  | .sum, [a] => do let xs ← lstOf a; let ns ← ofO (intsOf xs); pure (.t (.int ns.sum))
  | .max1, [a] => do let xs ← lstOf a; let ns ← ofO (intsOf xs); let m ← ofO (maxI ns); pure (.t (.int m))
  | .min1, [a] => do let xs ← lstOf a; let ns ← ofO (intsOf xs); let m ← ofO (minI ns); pure (.t (.int m))
  | .max2, [.t (.int i), .t (.int j)] => pure (.t (.int (if j > i then j else i)))
  | .min2, [.t (.int i), .t (.int j)] => pure (.t (.int (if j < i then j else i)))
  | _, _ => fail
def popAtM (n : Nat) (i : Int) : M TV := fun s => match s[n]? with
  | some (.lst xs) => (match L2.ixN xs.length i, (L2.ixN xs.length i).bind (xs[·]?) with
    | some j, some x => if small62 i then .ok (.t x) (s.set n (.lst (xs.eraseIdx j))) else .bad
    | _, _ => .bad)
  | _ => .bad
def popM (n : Nat) : M TV := fun s => match s[n]? with
  | some (.lst xs) => (match xs[xs.length - 1]? with
    | some x => .ok (.t x) (s.set n (.lst xs.dropLast))
    | none => .bad)
  | _ => .bad
def refOf : TV → M Nat
  | .t (.ref n) => do let _ ← deref n; pure n
  | _ => fail
/-- a method of a built-in object -/
def bmV (m : Bm) (n : Nat) (tvs : List TV) : M TV := match m, tvs with
  | .popAt, [a] => do
    let i ← intOf a
    popAtM n i
  | .pop, [] => popM n
  | _, _ => fail
def store (ρ : Env) (i : Nat) (tv : TV) : Env := ρ.set i (some tv)
/-- a loop's target -/
def target (x : T) : Tg → Env → Option Env
  | .v i, ρ => some (store ρ i (.t x))
  | .p is, ρ => match x with
    | .tup xs => if xs.length = is.length then some ((List.zip is xs).foldl (fun ρ p => store ρ p.1 (.t p.2)) ρ) else none
    | _ => none
def wipe (ρ : Env) : List Nat → Env
  | [] => ρ
  | v :: vs => (wipe ρ vs).set v none
/-- a comprehension's turns -/
def lcL (tgt : T → Option Env) (test : Env → M Bool) (elt : Env → M T) (g : S → Bool) : List T → M (List T)
  | [] => fun s => if g s then .ok [] s else .bad
  | x :: xs => fun s => if g s then (match tgt x with
    | none => .bad
    | some ρ => (do
      let b ← test ρ
      if b then do
        let y ← elt ρ
        let r ← lcL tgt test elt g xs
        pure (y :: r)
      else lcL tgt test elt g xs) s) else .bad
/-- what is in hand may be kept -/
def own2 : TV → M TV
  | .s _ _ => fail
  | tv => pure tv
def readV (ρ : Env) (i : Nat) : Option TV := match ρ[i]? with
  | some (some (.t x)) => some (.t x)
  | some (some (.l xs)) => some (.s xs [.sl i])
  | some (some (.s xs _)) => some (.s xs [])
  | _ => none
/-- a name's value, moved out -/
def moveV (ρ : Env) (i : Nat) : Option (TV × Env) := match ρ[i]? with
  | some (some (.l xs)) => some (.l xs, ρ.set i none)
  | some (some tv) => some (tv, ρ)
  | _ => none
abbrev Call := Nat → List TV → M TV
def isNonK : E → Bool
  | .k .non => true
  | _ => false
def hasF (P : Prog) (c : Nat) (f : Str) : Bool := match P.cls[c]? with
  | some cd => cd.flds.any fun g => decide (g = f)
  | none => false
def methOf (P : Prog) (c0 : Nat) (m : Str) (tv : TV) : M (Nat × Nat) := fun s => match tv with
  | .t (.ref n) => (match s[n]? with
    | some (.ins c fs) => if c = c0 then (match (P.cls[c]?).bind (fun cd => cd.meths.lookup m), fs.lookup m with
      | some f, none => .ok (n, f) s
      | _, _ => .bad) else .bad
    | _ => .bad)
  | _ => .bad
def fldOf (P : Prog) (f : Str) (tv : TV) : M TV := fun s => match tv with
  | .t (.ref n) => (match s[n]? with
    | some (.ins c fs) => (match fs.lookup f with
      | some x => if hasF P c f then .ok (.t x) s else .bad
      | none => .bad)
    | _ => .bad)
  | _ => .bad
/-- the own == of an instance -/
def eqOf (P : Prog) (tv : TV) : M (Nat × Nat × Nat) := fun s => match tv with
  | .t (.ref n) => (match s[n]? with
    | some (.ins c _) => (match (P.cls[c]?).bind (fun cd => cd.meths.lookup ("__eq__" : Str)) with
      | some f => .ok (n, c, f) s
      | none => .bad)
    | _ => .bad)
  | _ => .bad
/-- what an own == may meet on the right: not an instance of a class below -/
def eqRight (P : Prog) (c : Nat) (tv : TV) : M Unit := fun s => match tv with
  | .t (.fn _) => .bad
  | .t (.cl _) => .bad
  | .t (.ty _) => .bad
  | .t (.ref n) => (match s[n]? with
    | some (.ins c' _) => if c' = c ∨ ((P.cls[c']?).isSome = true ∧ isSub P c' c = false) then .ok () s else .bad
    | some _ => .ok () s
    | none => .bad)
  | _ => .ok () s
/-- isinstance of an own class -/
def isCls (P : Prog) (c : Nat) (tv : TV) : M Bool := fun s => match tv with
  | .t (.fn _) => .bad
  | .t (.cl _) => .bad
  | .t (.ty _) => .bad
  | .t (.ref n) => (match s[n]? with
    | some (.ins c' _) => if (P.cls[c']?).isSome then .ok (isSub P c' c) s else .bad
    | some _ => .ok false s
    | none => .bad)
  | _ => .ok false s
def make (P : Prog) (C : Call) (c : Nat) (args : List TV) : M TV := match P.cls[c]? with
  | none => fail
  | some cd => do
    let x ← alloc (.ins c [])
    let r ← C cd.init (.t x :: args)
    match r with
    | .t .non => pure (.t x)
    | _ => fail
mutual
def evalV (P : Prog) (C : Call) : E → Env → M TV
  | .v i, ρ => ofO (readV ρ i)
  | .k t, _ => pure (.t t)
  | .gl g, _ => ofO ((P.consts[g]?).map fun p => .t p.2)
  | .fnv f, _ => pure (.t (.fn f))
  | .bin o a b, ρ => do
    let x ← evalV P C a ρ
    let y ← evalV P C b ρ
    bin o x y
  | .neg a, ρ => do
    let x ← evalV P C a ρ
    let i ← intOf x
    pure (.t (.int (-i)))
  | .not a, ρ => do
    let x ← evalV P C a ρ
    let b ← truth x
    pure (.t (.bl (!b)))
  | .and a b, ρ => do
    let x ← evalV P C a ρ
    let t ← truth x
    if t then evalV P C b ρ else pure x
  | .or a b, ρ => do
    let x ← evalV P C a ρ
    let t ← truth x
    if t then pure x else evalV P C b ρ
  | .cmp o a b, ρ => do
    let x ← evalV P C a ρ
    let y ← evalV P C b ρ
    let r ← cmp o x y
    pure (.t (.bl r))
  | .chn o p a b c, ρ => do
    let x ← evalV P C a ρ
    let y ← evalV P C b ρ
    let r ← cmp o x y
    if r then do
      let z ← evalV P C c ρ
      let q ← cmp p y z
      pure (.t (.bl q))
    else pure (.t (.bl false))
  | .ite c a b, ρ => do
    let x ← evalV P C c ρ
    let t ← truth x
    if t then evalV P C a ρ else evalV P C b ρ
  | .tup es, ρ => do
    let xs ← evalTs P C es ρ
    if xs.length ≤ sizeLine then pure (.t (.tup xs)) else fail
  | .lst es, ρ => do
    let xs ← evalTs P C es ρ
    if xs.length ≤ sizeLine then pure (.l xs) else fail
  | .ix a i, ρ => do
    let x ← evalV P C a ρ
    let y ← evalV P C i ρ
    ixOf x y
  | .sl a lo hi, ρ => do
    let x ← evalV P C a ρ
    let l ← evalV P C lo ρ
    let l' ← partOf (isNonK lo) l
    let h ← evalV P C hi ρ
    let h' ← partOf (isNonK hi) h
    slOf x l' h'
  | .rev a, ρ => do
    let x ← evalV P C a ρ
    revOf x
  | .call f es, ρ => do
    let xs ← evalAs P C es ρ
    C f xs
  | .bi b es, ρ => do
    let xs ← evalAs P C es ρ
    bi b xs
  | .meth c m o es, ρ => do
    let x ← evalV P C o ρ
    let nf ← methOf P c m x
    let xs ← evalAs P C es ρ
    C nf.2 (.t (.ref nf.1) :: xs)
  | .mk c es, ρ => do
    let xs ← evalAs P C es ρ
    make P C c xs
  | .fld o f, ρ => do
    let x ← evalV P C o ρ
    fldOf P f x
  | .lc g it c e own, ρ => do
    let tv ← evalV P C it ρ
    let p ← itOf tv
    if p.1.length ≤ sizeLine then do
    let ys ← noExc (lcL (fun x => target x g (wipe ρ own)) (fun ρ' => do let v ← evalV P C c ρ'; truth v) (fun ρ' => do let v ← evalV P C e ρ'; mat v) (fun s => p.2.all (GI.okS s)) p.1)
    pure (.l ys)
    else fail
  | .rng a b, ρ => do
    let x ← evalV P C a ρ
    let i ← intOf x
    let y ← evalV P C b ρ
    let j ← intOf y
    rangeV i j
  | .enum e, ρ => do
    let tv ← evalV P C e ρ
    let p ← itOf tv
    pure (.s (enumT p.1) p.2)
  | .zip a b, ρ => do
    let x ← evalV P C a ρ
    let p ← itOf x
    let y ← evalV P C b ρ
    let q ← itOf y
    let s ← getS
    if p.2.all (GI.okS s) then pure (.s (pairs p.1 q.1) (p.2 ++ q.2)) else fail
  | .mat e, ρ => do
    let tv ← evalV P C e ρ
    let x ← mat tv
    pure (.t x)
  | .isi a ts, ρ => do
    let x ← evalV P C a ρ
    let s ← getS
    if isKnown s x then pure (.t (.bl (ts.any (isTy P s x)))) else fail
  | .bm m o es, ρ => do
    let x ← evalV P C o ρ
    let n ← refOf x
    let xs ← evalAs P C es ρ
    bmV m n xs
  | .dnew tk, _ => do
    let x ← alloc (if tk then .dt [] else .dk [])
    pure (.t x)
  | .dsing k v, ρ => do
    let z ← alloc (.dk [])
    let n ← dref (.t z)
    let x ← evalV P C k ρ
    let x ← keyTv x
    let y ← evalV P C v ρ
    let y ← mat y
    let _ ← dput0 n x y
    pure (.t z)
  | .dix d k, ρ => do
    let x ← evalV P C d ρ
    let n ← dref x
    let y ← evalV P C k ρ
    let y ← keyTv y
    let z ← dlook n y
    let z ← ofO z
    pure (.t z)
  | .din neg k d, ρ => do
    let y ← evalV P C k ρ
    let y ← keyTv y
    let x ← evalV P C d ρ
    let n ← dref x
    let z ← dlook n y
    pure (.t (.bl (if neg then !z.isSome else z.isSome)))
  | .dget1 d k, ρ => do
    let x ← evalV P C d ρ
    let n ← dref x
    let y ← evalV P C k ρ
    let y ← keyTv y
    let z ← dlook n y
    pure (.t (z.getD .non))
  | .dget2 d k x, ρ => do
    let v ← evalV P C d ρ
    let n ← dref v
    let y ← evalV P C k ρ
    let y ← keyTv y
    let w ← evalV P C x ρ
    let w ← mat w
    let z ← dlook n y
    pure (.t (z.getD w))
  | .dsetd d k x, ρ => do
    let v ← evalV P C d ρ
    let n ← dref v
    let y ← evalV P C k ρ
    let y ← keyTv y
    let w ← evalV P C x ρ
    let w ← mat w
    dsetV n y w
  | .dlen d, ρ => do
    let x ← evalV P C d ρ
    let n ← dref x
    let i ← dsize n
    pure (.t (.int i))
  | .dsort d, ρ => do
    let x ← evalV P C d ρ
    let n ← dref x
    let ks ← dkeys n
    if ks.length < 64 then pure (.l ((isort ks).map T.int)) else fail
  | .eqo neg a b, ρ => do
    let x ← evalV P C a ρ
    let y ← evalV P C b ρ
    let nf ← eqOf P x
    let _ ← eqRight P nf.2.1 y
    let r ← noExc (C nf.2.2 [.t (.ref nf.1), argOf y])
    let b ← blOf r
    pure (.t (.bl (if neg then !b else b)))
  | .isc a c, ρ => do
    let x ← evalV P C a ρ
    let b ← isCls P c x
    pure (.t (.bl b))
  | .rng3 a b, ρ => do
    let x ← evalV P C a ρ
    let i ← intOf x
    let y ← evalV P C b ρ
    let j ← intOf y
    rangeV3 i j
def evalAs (P : Prog) (C : Call) : Es → Env → M (List TV)
  | .nil, _ => pure []
  | .cons e r, ρ => do
    let x ← evalV P C e ρ
    let xs ← evalAs P C r ρ
    pure (argOf x :: xs)
def evalTs (P : Prog) (C : Call) : Es → Env → M (List T)
  | .nil, _ => pure []
  | .cons e r, ρ => do
    let x ← evalV P C e ρ
    let y ← mat x
    let xs ← evalTs P C r ρ
    pure (y :: xs)
end

/-! ### statements -/
inductive Out where
  | nx (ρ : Env) | rt (v : TV) | bk (ρ : Env) | ct (ρ : Env)
def lock (ρ : Env) : List GI → Env
  | [] => ρ
  | .sl i :: r => (lock ρ r).set i none
  | .o _ _ :: r => lock ρ r
def lockOk (ρ : Env) (g : List GI) : Bool := g.all fun q => match q with
  | .sl i => (match ρ[i]? with
    | some (some (.l _)) => true
    | _ => false)
  | .o _ _ => true
def forL (tgt : T → Env → Option Env) (body : Env → M Out) (g : S → Bool) : List T → Env → M Out
  | [], ρ => fun s => if g s then .ok (.nx ρ) s else .bad
  | x :: xs, ρ => fun s => if g s then (match tgt x ρ with
    | none => .bad
    | some ρ' => (do
      let r ← body ρ'
      match r with
      | .nx ρ'' => forL tgt body g xs ρ''
      | .ct ρ'' => forL tgt body g xs ρ''
      | .bk ρ'' => pure (.nx ρ'')
      | .rt v => pure (.rt v)) s) else .bad
def whileL (test : Env → M Bool) (body : Env → M Out) : Nat → Env → M Out
  | 0, _ => fail
  | n + 1, ρ => do
    let b ← test ρ
    if b then do
      let r ← body ρ
      match r with
      | .nx ρ' => whileL test body n ρ'
      | .ct ρ' => whileL test body n ρ'
      | .bk ρ' => pure (.nx ρ')
      | .rt v => pure (.rt v)
    else pure (.nx ρ)
def putF (f : Str) (x : T) : List (Str × T) → List (Str × T)
  | [] => [(f, x)]
  | (g, y) :: r => if g = f then (g, x) :: r else (g, y) :: putF f x r
def setFld (P : Prog) (f : Str) (x : T) (tv : TV) : M Unit := fun s => match tv with
  | .t (.ref n) => (match s[n]? with
    | some (.ins c fs) => if hasF P c f && decide (fs.length < 1000) then .ok () (s.set n (.ins c (putF f x fs))) else .bad
    | _ => .bad)
  | _ => .bad
def putItem (x : T) (tv : TV) (i : TV) : M Unit := fun s => match tv, i with
  | .t (.ref n), .t (.int i) => (match s[n]? with
    | some (.lst xs) => (match L2.ixN xs.length i with
      | some j => .ok () (s.set n (.lst (xs.set j x)))
      | none => .bad)
    | _ => .bad)
  | _, _ => .bad
def appendO (x : T) (n : Nat) : M Unit := fun s => match s[n]? with
  | some (.lst xs) => if xs.length < sizeLine then .ok () (s.set n (.lst (xs ++ [x]))) else .bad
  | _ => .bad
def extendO (ys : List T) (n : Nat) : M Unit := fun s => match s[n]? with
  | some (.lst xs) => if xs.length + ys.length ≤ sizeLine then .ok () (s.set n (.lst (xs ++ ys))) else .bad
  | _ => .bad
def ownL (ρ : Env) (i : Nat) : M (List T) := match ρ[i]? with
  | some (some (.l xs)) => pure xs
  | _ => fail
def putFs (P : Prog) (C : Call) : Es → List Str → List T → Env → M Unit
  | .nil, [], [], _ => pure ()
  | .cons o r, f :: fs, x :: xs, ρ => do
    let ov ← evalV P C o ρ
    setFld P f x ov
    putFs P C r fs xs ρ
  | _, _, _, _ => fail
mutual
def evalS (P : Prog) (C : Call) : St → Env → M Out
  | .mv i j, ρ => do
    let p ← ofO (moveV ρ j)
    pure (.nx (store p.2 i p.1))
  | .asg i e, ρ => do
    let tv ← evalV P C e ρ
    let tv ← own2 tv
    pure (.nx (store ρ i tv))
  | .asgT is e, ρ => do
    let tv ← evalV P C e ρ
    match tv with
    | .t x => do
      let ρ' ← ofO (target x (.p is) ρ)
      pure (.nx ρ')
    | _ => fail
  | .par i j a b, ρ => do
    let x ← evalV P C a ρ
    let x ← own2 x
    let y ← evalV P C b ρ
    let y ← own2 y
    pure (.nx (store (store ρ i x) j y))
  | .par3 i j l a b c, ρ => do
    let x ← evalV P C a ρ
    let x ← own2 x
    let y ← evalV P C b ρ
    let y ← own2 y
    let z ← evalV P C c ρ
    let z ← own2 z
    pure (.nx (store (store (store ρ i x) j y) l z))
  | .sub o i e, ρ => do
    let tv ← evalV P C e ρ
    let x ← mat tv
    let ov ← evalV P C o ρ
    let iv ← evalV P C i ρ
    putItem x ov iv
    pure (.nx ρ)
  | .fst o f e, ρ => do
    let tv ← evalV P C e ρ
    let x ← mat tv
    let ov ← evalV P C o ρ
    setFld P f x ov
    pure (.nx ρ)
  | .fsts os fs e, ρ => do
    let tv ← evalV P C e ρ
    match tv with
    | .t (.tup xs) => if xs.length = fs.length then (putFs P C os fs xs ρ >>= fun _ => pure (.nx ρ)) else fail
    | _ => fail
  | .ex e, ρ => do
    let _ ← evalV P C e ρ
    pure (.nx ρ)
  | .app i e, ρ => do
    let xs ← ownL ρ i
    let tv ← evalV P C e ρ
    let x ← mat tv
    if xs.length < sizeLine then pure (.nx (store ρ i (.l (xs ++ [x])))) else fail
  | .ext i e, ρ => do
    let xs ← ownL ρ i
    let tv ← evalV P C e ρ
    let ys ← lstOf2 tv
    if xs.length + ys.length ≤ sizeLine then pure (.nx (store ρ i (.l (xs ++ ys)))) else fail
  | .appo o e, ρ => do
    let ov ← evalV P C o ρ
    let n ← refOf ov
    let tv ← evalV P C e ρ
    let x ← mat tv
    appendO x n
    pure (.nx ρ)
  | .retm j, ρ => do
    let p ← ofO (moveV ρ j)
    let tv ← own2 p.1
    pure (.rt tv)
  | .ret e, ρ => do
    let tv ← evalV P C e ρ
    let tv ← own2 tv
    pure (.rt tv)
  | .retN, _ => pure (.rt (.t .non))
  | .ifs c a b, ρ => do
    let x ← evalV P C c ρ
    let t ← truth x
    if t then evalSs P C a ρ else evalSs P C b ρ
  | .for_ g it b, ρ => do
    let tv ← evalV P C it ρ
    let p ← itOf tv
    if lockOk ρ p.2 then forL (fun x ρ => target x g ρ) (fun ρ => evalSs P C b ρ) (fun s => p.2.all (GI.okS s)) p.1 (lock ρ p.2) else fail
  | .whl c b, ρ => whileL (fun ρ => do let x ← evalV P C c ρ; truth x) (fun ρ => evalSs P C b ρ) P.wf ρ
  | .brk, ρ => pure (.bk ρ)
  | .cnt, ρ => pure (.ct ρ)
  | .pass, ρ => pure (.nx ρ)
  | .never, _ => fail
  | .dput d k e, ρ => do
    let tv ← evalV P C e ρ
    let x ← mat tv
    let dv ← evalV P C d ρ
    let n ← dref dv
    let kv ← evalV P C k ρ
    let y ← keyTv kv
    let _ ← dput n y x
    pure (.nx ρ)
  | .aug i e, ρ => do
    let x ← ofO (readV ρ i)
    let a ← intOf x
    let y ← evalV P C e ρ
    let b ← intOf y
    pure (.nx (store ρ i (.t (.int (a + b)))))
  | .exto o e, ρ => do
    let ov ← evalV P C o ρ
    let n ← refOf ov
    let tv ← evalV P C e ρ
    let ys ← lstOf2 tv
    extendO ys n
    pure (.nx ρ)
def evalSs (P : Prog) (C : Call) : Sts → Env → M Out
  | .nil, ρ => pure (.nx ρ)
  | .cons s r, ρ => do
    let o ← evalS P C s ρ
    match o with
    | .nx ρ' => evalSs P C r ρ'
    | o => pure o
end
def start (fd : Fd) (args : List TV) : Env := args.map some ++ List.replicate (fd.N.length - args.length) none
def fin : Out → M TV
  | .rt v => pure v
  | .nx _ => pure (.t .non)
  | _ => fail
def callN (P : Prog) : Nat → Call
  | 0 => fun _ _ => fail
  | n + 1 => fun k args => match P.fns[k]? with
    | none => fail
    | some fd => if args.length = fd.ps.length then do
        let o ← evalSs P (callN P n) fd.body (start fd args)
        fin o
      else fail
end Mini
/-! Mini: how trees lie in the abstract heap. -/
set_option linter.all false
set_option maxRecDepth 10000
namespace Mini
open PySem PySem.Spec PyProof.Rows L2

/-- where the text's own objects stand -/
structure Lay where
  K : PySem.W.Frag
  ad : Nat → Addr
  cad : Nat → Addr
  w : World
variable {L : Lay}
mutual
def Rep (L : Lay) (ρ : List Addr) (H : Hp) : T → V → Prop
  | .non, v => v = .non
  | .bl b, v => v = .bl b
  | .int i, v => v = .int i
  | .str s, v => v = .str s
  | .tup xs, v => ∃ a vs, v = .ref a ∧ SqT L.K H a vs ∧ RepAll L ρ H xs vs
  | .ref n, v => ∃ a, v = .ref a ∧ ρ[n]? = some a
  | .fn k, v => v = .ref (L.ad k)
  | .cl k, v => v = .ref (L.cad k)
  | .ty n, v => v = .ty n
def RepAll (L : Lay) (ρ : List Addr) (H : Hp) : List T → List V → Prop
  | [], vs => vs = []
  | x :: xs, vs => ∃ v r, vs = v :: r ∧ Rep L ρ H x v ∧ RepAll L ρ H xs r
end
mutual
theorem Rep.mono {ρ r : List Addr} {H H' : Hp} (hs : ∀ a vs, SqT L.K H a vs → SqT L.K H' a vs) : ∀ (x : T) (v : V), Rep L ρ H x v → Rep L (ρ ++ r) H' x v
  | .non, _, h => h
  | .bl _, _, h => h
  | .int _, _, h => h
  | .str _, _, h => h
  | .tup xs, v, h => by
    simp only [Rep] at h ⊢
    obtain ⟨a, vs, e, q, hr⟩ := h
    exact ⟨a, vs, e, hs a vs q, RepAll.mono hs xs vs hr⟩
  | .ref n, v, h => by
    simp only [Rep] at h ⊢
    obtain ⟨a, e, q⟩ := h
    exact ⟨a, e, by rw [List.getElem?_append_left (List.getElem?_eq_some_iff.mp q).1]; exact q⟩
  | .fn _, _, h => h
  | .cl _, _, h => h
  | .ty _, _, h => h
theorem RepAll.mono {ρ r : List Addr} {H H' : Hp} (hs : ∀ a vs, SqT L.K H a vs → SqT L.K H' a vs) : ∀ (xs : List T) (vs : List V), RepAll L ρ H xs vs → RepAll L (ρ ++ r) H' xs vs
  | [], _, h => h
  | x :: xs, vs, h => by
    simp only [RepAll] at h ⊢
    obtain ⟨v, r, e, h1, h2⟩ := h
    exact ⟨v, r, e, Rep.mono hs x v h1, RepAll.mono hs xs r h2⟩
end
section
variable {ρ : List Addr} {H : Hp}
theorem RepAll.length : ∀ {xs : List T} {vs : List V}, RepAll L ρ H xs vs → xs.length = vs.length
  | [], _, h => by simp only [RepAll] at h; rw [h] <;> rfl
  | x :: xs, vs, h => by
    simp only [RepAll] at h
    obtain ⟨v, r, e, _, h2⟩ := h
    rw [e, List.length_cons, List.length_cons, RepAll.length h2]
theorem RepAll.get : ∀ {xs : List T} {vs : List V} {i : Nat} {x : T}, RepAll L ρ H xs vs → xs[i]? = some x → ∃ v, vs[i]? = some v ∧ Rep L ρ H x v
  | [], _, _, _, _, e => by simp at e
  | y :: ys, vs, i, x, h, e => by
    simp only [RepAll] at h
    obtain ⟨v, r, e1, h1, h2⟩ := h
    subst e1
    cases i with
    | zero => simp at e; subst e; exact ⟨v, rfl, h1⟩
    | succ i => simpa using RepAll.get h2 (by simpa using e)
theorem RepAll.cons {x : T} {xs : List T} {v : V} {vs : List V} (h : Rep L ρ H x v) (t : RepAll L ρ H xs vs) : RepAll L ρ H (x :: xs) (v :: vs) := by
  simp only [RepAll]
  exact ⟨v, vs, rfl, h, t⟩
theorem RepAll.nil : RepAll L ρ H [] [] := by simp only [RepAll]
theorem RepAll.uncons {x : T} {xs : List T} {v : V} {vs : List V} (h : RepAll L ρ H (x :: xs) (v :: vs)) : Rep L ρ H x v ∧ RepAll L ρ H xs vs := by
  simp only [RepAll] at h
  obtain ⟨w, r, e, h1, h2⟩ := h
  cases e
  exact ⟨h1, h2⟩
theorem RepAll.append : ∀ {xs ys : List T} {vs ws : List V}, RepAll L ρ H xs vs → RepAll L ρ H ys ws → RepAll L ρ H (xs ++ ys) (vs ++ ws)
  | [], _, _, _, h, k => by simp only [RepAll] at h; subst h; exact k
  | x :: xs, ys, vs, ws, h, k => by
    simp only [RepAll] at h
    obtain ⟨v, r, e, h1, h2⟩ := h
    subst e
    exact (RepAll.append h2 k).cons h1
theorem RepAll.take : ∀ {xs : List T} {vs : List V} (n : Nat), RepAll L ρ H xs vs → RepAll L ρ H (xs.take n) (vs.take n)
  | [], _, n, h => by simp only [RepAll] at h; subst h; simp [RepAll]
  | x :: xs, vs, 0, h => by simp [RepAll]
  | x :: xs, vs, n + 1, h => by
    simp only [RepAll] at h
    obtain ⟨v, r, e, h1, h2⟩ := h
    subst e
    exact (RepAll.take n h2).cons h1
theorem RepAll.drop : ∀ {xs : List T} {vs : List V} (n : Nat), RepAll L ρ H xs vs → RepAll L ρ H (xs.drop n) (vs.drop n)
  | [], _, n, h => by simp only [RepAll] at h; subst h; simp [RepAll]
  | x :: xs, vs, 0, h => h
  | x :: xs, vs, n + 1, h => by
    simp only [RepAll] at h
    obtain ⟨v, r, e, h1, h2⟩ := h
    subst e
    exact RepAll.drop n h2
theorem RepAll.reverse : ∀ {xs : List T} {vs : List V}, RepAll L ρ H xs vs → RepAll L ρ H xs.reverse vs.reverse
  | [], _, h => by simp only [RepAll] at h; subst h; simp [RepAll]
  | x :: xs, vs, h => by
    simp only [RepAll] at h
    obtain ⟨v, r, e, h1, h2⟩ := h
    subst e
    rw [List.reverse_cons, List.reverse_cons]
    exact (RepAll.reverse h2).append (RepAll.nil.cons h1)
theorem RepAll.set {x : T} {v : V} (hx : Rep L ρ H x v) : ∀ {xs : List T} {vs : List V} (n : Nat), RepAll L ρ H xs vs → RepAll L ρ H (xs.set n x) (vs.set n v)
  | [], _, n, h => by simp only [RepAll] at h; subst h; simp [RepAll]
  | y :: ys, vs, n, h => by
    simp only [RepAll] at h
    obtain ⟨w, r, e, h1, h2⟩ := h
    subst e
    cases n with
    | zero => exact h2.cons hx
    | succ n => exact (RepAll.set hx n h2).cons h1
theorem RepAll.rep : ∀ (k : Nat) {xs : List T} {vs : List V}, RepAll L ρ H xs vs → RepAll L ρ H (List.replicate k xs).flatten (List.replicate k vs).flatten
  | 0, _, _, _ => by simp [RepAll]
  | k + 1, xs, vs, h => by
    rw [List.replicate_succ, List.replicate_succ, List.flatten_cons, List.flatten_cons]
    exact h.append (RepAll.rep k h)
end
/-- an object's attributes -/
def FRep {κ : Type} (L : Lay) (ρ : List Addr) (H : Hp) : List (κ × T) → List (κ × V) → Prop := Paired fun p q => p.1 = q.1 ∧ Rep L ρ H p.2 q.2
theorem FRep.mono {κ : Type} {ρ r : List Addr} {H H' : Hp} (hs : ∀ a vs, SqT L.K H a vs → SqT L.K H' a vs) {fs : List (κ × T)} {gs : List (κ × V)} (h : FRep L ρ H fs gs) : FRep L (ρ ++ r) H' fs gs :=
  Paired.mapP h fun p q z => ⟨z.1, Rep.mono hs _ _ z.2⟩
theorem FRep.look {ρ : List Addr} {H : Hp} {f : Str} : ∀ {fs : List (Str × T)} {gs : List (Str × V)}, FRep L ρ H fs gs → (∀ x, fs.lookup f = some x → ∃ v, gs.lookup f = some v ∧ Rep L ρ H x v) ∧ (fs.lookup f = none → gs.lookup f = none)
  | _, _, .nil => ⟨fun x e => by simp at e, fun _ => rfl⟩
  | (a, x) :: fs, (b, v) :: gs, .cons h t => by
    obtain ⟨h1, h2⟩ := h
    have h1 : a = b := h1
    subst h1
    have ih := FRep.look (f := f) (fs := fs) (gs := gs) t
    simp only [List.lookup_cons]
    cases q : f == a with
    | true => exact ⟨fun y e => ⟨v, rfl, by cases e; exact h2⟩, fun e => by simp at e⟩
    | false => exact ih
theorem FRep.length {κ : Type} {ρ : List Addr} {H : Hp} {fs : List (κ × T)} {gs : List (κ × V)} (h : FRep L ρ H fs gs) : fs.length = gs.length := Paired.length h
theorem FRep.put {ρ : List Addr} {H : Hp} {f : Str} {x : T} {v : V} (hx : Rep L ρ H x v) : ∀ {fs : List (Str × T)} {gs : List (Str × V)}, FRep L ρ H fs gs → FRep L ρ H (putF f x fs) (L2.putF f v gs)
  | _, _, .nil => .cons ⟨rfl, hx⟩ .nil
  | (a, y) :: fs, (b, w) :: gs, .cons h t => by
    obtain ⟨h1, h2⟩ := h
    have h1 : a = b := h1
    subst h1
    unfold putF L2.putF
    by_cases q : a = f
    · simp only [q, if_true]; exact .cons ⟨rfl, hx⟩ t
    · simp only [q, if_false]; exact .cons ⟨rfl, h2⟩ (FRep.put hx t)
end Mini
/-! Mini: trees as keys of a dict. -/
set_option linter.all false
namespace Mini
open PySem PySem.Spec PyProof.Rows L2
section
variable {L : Lay} {ρ : List Addr} {H : Hp} {P : Program} {w : World} {h : Heap}
mutual
/-- what a tree stands for is its key in the heap -/
theorem key_is (ok : HOk P w H h) (KX : L.K.In h) : ∀ (x : T) (k : NestedKey) (v : V) (u : Value), Rep L ρ H x v → keyN x = some k → RelV v u → NestedIs h k u
  | .non, k, v, u, r, e, q => by
    simp only [Rep] at r
    subst r
    cases e
    cases (show u = .none from q)
    exact .none
  | .bl b, k, v, u, r, e, q => by
    simp only [Rep] at r
    subst r
    cases e
    cases (show u = .bool b from q)
    exact .bool rfl
  | .int i, k, v, u, r, e, q => by
    simp only [Rep] at r
    subst r
    cases e
    obtain ⟨t, rfl⟩ : ∃ t, u = .int i t := q
    exact .int i t
  | .str x, k, v, u, r, e, q => by
    simp only [Rep] at r
    subst r
    cases e
    obtain ⟨t, rfl⟩ : ∃ t, u = .str x t := q
    exact .text x t
  | .tup xs, k, v, u, r, e, q => by
    simp only [Rep] at r
    obtain ⟨a, vs, rfl, hs, hr⟩ := r
    simp only [keyN] at e
    cases he : keyNs xs with
    | none => rw [he] at e; cases e
    | some ks =>
      rw [he] at e
      cases e
      cases (show u = .ref a from q)
      obtain ⟨its, o, n, rv, ho, hc, hd⟩ := sqT_at ok KX hs
      exact .tup ho hc hd (by simpa using keys_is ok KX xs ks vs its hr he rv)
theorem keys_is (ok : HOk P w H h) (KX : L.K.In h) : ∀ (xs : List T) (ks : List NestedKey) (vs : List V) (us : List Value), RepAll L ρ H xs vs → keyNs xs = some ks → Vals vs us → NestedAll h ks us
  | [], ks, vs, us, r, e, q => by
    simp only [RepAll] at r
    subst r
    cases e
    cases q
    exact .nil
  | x :: xs, ks, vs, us, r, e, q => by
    simp only [RepAll] at r
    obtain ⟨v, r', rfl, h1, h2⟩ := r
    simp only [keyNs] at e
    cases he : keyN x with
    | none => rw [he] at e; cases e
    | some k =>
      cases he2 : keyNs xs with
      | none => rw [he, he2] at e; cases e
      | some ks' =>
        rw [he, he2] at e
        cases e
        cases q with
        | cons q1 q2 => exact .cons (key_is ok KX x k v _ h1 he q1) (keys_is ok KX xs ks' r' _ h2 he2 q2)
end
end
end Mini
/-! Mini: a dict whose keys are trees, as an object of one's own. -/
set_option linter.all false
namespace Mini
open PySem PySem.Spec PyProof.Rows L2
abbrev DX := List (NestedKey × Addr × Value)
/-- the dict object at a as it lies -/
def RawD (w : World) (a : Addr) (xs : DX) (h : Heap) : Prop :=
  ∃ o es ep, h.get? a = some o ∧ o.ExactDict ∧ o.data = .dict es ep ∧ es.toList = xs.map fun x => ⟨x.1.hash w, .ref x.2.1, x.2.2⟩
def HD0 (w : World) (a : Addr) (xs : DX) : HO := .ext (RawD w a xs)
def DRel (L : Lay) (ρ : List Addr) (H : Hp) (p : T × T) (q : NestedKey × Addr × Value) : Prop :=
  keyN p.1 = some q.1 ∧ q.1.depth ≤ 8 ∧ Rep L ρ H p.1 (.ref q.2.1) ∧ ∃ v, RelV v q.2.2 ∧ Rep L ρ H p.2 v
def DRep (L : Lay) (ρ : List Addr) (H : Hp) (fs : List (T × T)) (xs : DX) : Prop := Paired (DRel L ρ H) fs xs ∧ (xs.map (·.1)).Nodup ∧ xs.length ≤ sizeLine
section
variable {L : Lay} {ρ ρ' r : List Addr} {H H' : Hp} {P : Program} {w : World} {h : Heap} {a : Addr} {fs : List (T × T)} {xs : DX}
theorem RawD.ok (z : RawD w a xs h) : ObjOk P w H h a (HD0 w a xs) := by
  refine ⟨z, ?_, fun h1 h2 ⟨o, es, ep, g, q⟩ hk => ⟨o, es, ep, hk o g, q⟩⟩
  obtain ⟨o, _, _, g, _⟩ := z
  exact ⟨o, g⟩
theorem raw_of (ok : HOk P w H h) (e : H a = some (HD0 w a xs)) : RawD w a xs h := (show ObjOk P w H h a (HD0 w a xs) from ok a _ e).1
theorem DRel.is (ok : HOk P w H h) (KX : L.K.In h) {p : T × T} {q : NestedKey × Addr × Value} (d : DRel L ρ H p q) : (nestedKind P w).is h q.1 q.2.1 :=
  ⟨key_is ok KX p.1 q.1 (.ref q.2.1) (.ref q.2.1) d.2.2.1 d.1 rfl, d.2.1⟩
/-- the dict as the library sees it -/
theorem dict_of (ok : HOk P w H h) (KX : L.K.In h) (e : H a = some (HD0 w a xs)) (d : DRep L ρ H fs xs) : h.DictOfH (nestedKind P w) a xs := by
  obtain ⟨o, es, ep, g, q1, q2, q3⟩ := raw_of ok e
  refine ⟨o, es, ep, g, q1, q2, q3, ?_, d.2.1⟩
  have all : ∀ {l : List (T × T)} {m : DX}, Paired (DRel L ρ H) l m → ∀ x ∈ m, (nestedKind P w).is h x.1 x.2.1 := by
    intro l m q
    induction q with
    | nil => intro x hx; cases hx
    | cons hq _ ih =>
      intro x hx
      rcases List.mem_cons.mp hx with rfl | hx
      · exact hq.is ok KX
      · exact ih x hx
  exact all d.1
theorem raw_back {h' : Heap} (d : h'.DictOfH (nestedKind P w) a xs) : RawD w a xs h' := by
  obtain ⟨o, es, ep, g, q1, q2, q3, _⟩ := d
  exact ⟨o, es, ep, g, q1, q2, q3⟩
theorem DRel.mono (hs : ∀ a vs, SqT L.K H a vs → SqT L.K H' a vs) {p : T × T} {q : NestedKey × Addr × Value} (d : DRel L ρ H p q) : DRel L (ρ ++ r) H' p q := by
  obtain ⟨d1, d2, d3, v, d4, d5⟩ := d
  exact ⟨d1, d2, Rep.mono hs _ _ d3, v, d4, Rep.mono hs _ _ d5⟩
theorem DRep.mono (hs : ∀ a vs, SqT L.K H a vs → SqT L.K H' a vs) (d : DRep L ρ H fs xs) : DRep L (ρ ++ r) H' fs xs :=
  ⟨Paired.mapP d.1 fun _ _ z => z.mono hs, d.2⟩
/-- what stands at a key, there and here -/
theorem DRep.at (d : Paired (DRel L ρ H) fs xs) (k : NestedKey) :
    (atT fs k = none ∧ atKey xs k = none) ∨ ∃ x b u v, atT fs k = some x ∧ atKey xs k = some (b, u) ∧ RelV v u ∧ Rep L ρ H x v := by
  induction d with
  | nil => exact .inl ⟨rfl, rfl⟩
  | @cons p q ps qs hq _ ih =>
    obtain ⟨d1, d2, d3, v, d4, d5⟩ := hq
    by_cases c : q.1 = k
    · refine .inr ⟨p.2, q.2.1, q.2.2, v, ?_, ?_, d4, d5⟩
      · simp [atT, d1, c]
      · simp [atKey, c]
    · have e1 : atT (p :: ps) k = atT ps k := by simp [atT, d1, c]
      have e2 : atKey (q :: qs) k = atKey qs k := by simp [atKey, c]
      rw [e1, e2]
      exact ih
theorem DRep.putAt {y : T} {v : V} {u : Value} (rv : RelV v u) (rr : Rep L ρ H y v) (k : NestedKey) (d : Paired (DRel L ρ H) fs xs) :
    Paired (DRel L ρ H) (fs.map fun p => if keyN p.1 = some k then (p.1, y) else p) (xs.map (PySem.putAt k u)) := by
  induction d with
  | nil => exact .nil
  | @cons p q ps qs hq _ ih =>
    refine .cons ?_ ih
    obtain ⟨d1, d2, d3, v', d4, d5⟩ := hq
    by_cases c : q.1 = k
    · have e1 : keyN p.1 = some k := by rw [d1, c]
      simp only [e1, if_true, PySem.putAt, c]
      exact ⟨by rw [e1], by rw [← c]; exact d2, d3, v, rv, rr⟩
    · have e1 : ¬ keyN p.1 = some k := by rw [d1]; simp [c]
      simp only [if_neg e1, PySem.putAt, if_neg c]
      exact ⟨d1, d2, d3, v', d4, d5⟩
theorem DRep.put {x y : T} {k : NestedKey} {b : Addr} {v : V} {u : Value} (hk : keyN x = some k) (dk : k.depth ≤ 8) (rx : Rep L ρ H x (.ref b)) (rv : RelV v u) (rr : Rep L ρ H y v) (d : DRep L ρ H fs xs) (hl : xs.length < sizeLine) :
    DRep L ρ H (putT fs x k y) (storedH xs k b u) := by
  obtain ⟨d1, d2, d3⟩ := d
  rcases DRep.at d1 k with ⟨e1, e2⟩ | ⟨z, b', u', v', e1, e2, _⟩
  · refine ⟨?_, ?_, ?_⟩
    · rw [storedH_new e2]
      unfold putT
      rw [e1]
      exact d1.snoc ⟨hk, dk, rx, v, rv, rr⟩
    · rw [storedH_new e2, List.map_append, List.nodup_append]
      refine ⟨d2, by simp, fun c hc c' hc' => ?_⟩
      simp at hc'
      subst hc'
      rintro rfl
      obtain ⟨q, hq, rfl⟩ := List.mem_map.mp hc
      have : (atKey xs q.1).isSome = true := by
        unfold atKey
        rw [Option.isSome_map, List.find?_isSome]
        exact ⟨q, hq, by simp⟩
      rw [e2] at this
      cases this
    · rw [storedH_new e2, List.length_append]
      simp only [List.length_cons, List.length_nil]
      omega
  · refine ⟨?_, ?_, ?_⟩
    · rw [storedH_old e2]
      unfold putT
      rw [e1]
      exact DRep.putAt rv rr k d1
    · rw [storedH_old e2, List.map_map]
      have : ((fun x : NestedKey × Addr × Value => x.1) ∘ PySem.putAt k u) = (·.1) := by
        funext q
        unfold PySem.putAt
        simp only [Function.comp]
        split <;> rfl
      rw [this]
      exact d2
    · rw [storedH_old e2, List.length_map]
      exact d3
end
end Mini
/-! Mini: how the shared objects lie in the abstract heap. -/
set_option linter.all false
set_option maxRecDepth 10000
namespace Mini
open PySem PySem.Spec PyProof.Rows L2
variable {L : Lay}
/-- a shared object as it lies -/
def ORep (L : Lay) (ρ : List Addr) (H : Hp) (a : Addr) : O → Prop
  | .lst xs => ∃ vs, H a = some (.lst vs) ∧ RepAll L ρ H xs vs
  | .ins c fs => ∃ dx gs, H a = some (.ins (L.cad c) dx gs) ∧ FRep L ρ H fs gs
  | .dk fs => ∃ gs, H a = some (.dK gs) ∧ FRep L ρ H fs gs
  | .dt fs => ∃ xs, H a = some (HD0 L.w a xs) ∧ (a == sysModules) = false ∧ DRep L ρ H fs xs
/-- what a shared object is -/
def isSh : HO → Bool
  | .lst _ => true
  | .ins _ _ _ => true
  | .dK _ => true
  | .ext _ => true
  | _ => false
structure R (L : Lay) (ρ : List Addr) (th : S) (H : Hp) : Prop where
  len : ρ.length = th.length
  nd : ρ.Nodup
  obj : ∀ (i : Nat) (a : Addr) (o : O), ρ[i]? = some a → th[i]? = some o → ORep L ρ H a o
/-- what a step leaves: the shared objects stand where they stood, what is neither shared nor one's own is as it was, what came was new -/
structure Ext (ρ : List Addr) (o : Addr → Prop) (H : Hp) (ρ' : List Addr) (o' : Addr → Prop) (H' : Hp) : Prop where
  pre : ∃ r, ρ' = ρ ++ r
  fr : ∀ b u, H b = some u → b ∉ ρ → ¬ o b → H' b = some u
  new : ∀ b, b ∈ ρ' ∨ o' b → b ∈ ρ ∨ o b ∨ H b = none
abbrev noO : Addr → Prop := fun _ => False
abbrev Ex0 (ρ : List Addr) (H : Hp) (ρ' : List Addr) (H' : Hp) : Prop := Ext ρ noO H ρ' noO H'
section
variable {ρ ρ' ρ'' : List Addr} {o o' o'' : Addr → Prop} {H H' H'' : Hp} {th th' : S}
theorem Ext.refl : Ext ρ o H ρ o H := ⟨⟨[], by simp⟩, fun _ _ h _ _ => h, fun b h => h.elim .inl fun h => .inr (.inl h)⟩
theorem Ext.trans (a : Ext ρ o H ρ' o' H') (b : Ext ρ' o' H' ρ'' o'' H'') : Ext ρ o H ρ'' o'' H'' := by
  refine ⟨?_, fun c u h h1 h2 => ?_, fun c h => ?_⟩
  · obtain ⟨r, e⟩ := a.pre
    obtain ⟨r', e'⟩ := b.pre
    exact ⟨r ++ r', by rw [e', e, List.append_assoc]⟩
  · have z : ∀ q : c ∈ ρ' ∨ o' c, False := fun q => by
      rcases a.new c q with q | q | q
      · exact h1 q
      · exact h2 q
      · rw [h] at q; cases q
    exact b.fr c u (a.fr c u h h1 h2) (fun q => z (.inl q)) fun q => z (.inr q)
  · rcases b.new c h with q | q | q
    · exact a.new c (.inl q)
    · exact a.new c (.inr q)
    · by_cases h1 : c ∈ ρ
      · exact .inl h1
      · by_cases h2 : o c
        · exact .inr (.inl h2)
        · refine .inr (.inr ?_)
          cases e : H c with
          | none => rfl
          | some u => rw [a.fr c u e h1 h2] at q; cases q
/-- a step of an expression among one's own lists -/
theorem Ext.up (a : Ex0 ρ H ρ' H') : Ext ρ o H ρ' o H' := ⟨a.pre, fun b u h h1 _ => a.fr b u h h1 id, fun b h => h.elim (fun h => (a.new b (.inl h)).elim .inl fun h => h.elim False.elim fun h => .inr (.inr h)) fun h => .inr (.inl h)⟩
theorem R.there (r : R L ρ th H) {b : Addr} (h : b ∈ ρ) : ∃ u, H b = some u ∧ isSh u = true := by
  obtain ⟨i, hi, e⟩ := List.getElem_of_mem h
  have e1 : ρ[i]? = some b := by rw [List.getElem?_eq_getElem hi, e]
  have hi2 : i < th.length := by rw [← r.len]; exact hi
  have q := r.obj i b th[i] e1 (List.getElem?_eq_getElem hi2)
  cases ho : th[i] with
  | lst xs =>
    rw [ho] at q
    obtain ⟨vs, q, _⟩ := q
    exact ⟨_, q, rfl⟩
  | ins c fs =>
    rw [ho] at q
    obtain ⟨dx, gs, q, _⟩ := q
    exact ⟨_, q, rfl⟩
  | dk fs =>
    rw [ho] at q
    obtain ⟨gs, q, _⟩ := q
    exact ⟨_, q, rfl⟩
  | dt fs =>
    rw [ho] at q
    obtain ⟨gs, q, _⟩ := q
    exact ⟨_, q, rfl⟩
/-- one's own are lists -/
def OL (o : Addr → Prop) (H : Hp) : Prop := ∀ b, o b → ∃ vs, H b = some (.lst vs)
theorem OL.no : OL noO H := fun _ h => h.elim
theorem R.tup (r : R L ρ th H) (x : Ext ρ o H ρ' o' H') (ho : OL o H) {a : Addr} {vs : List V} (h : SqT L.K H a vs) : SqT L.K H' a vs := by
  have no : ∀ u, H a = some u → isSh u = false → H' a = some u := fun u e n1 => by
    refine x.fr a u e (fun q => ?_) fun q => ?_
    · obtain ⟨u', q, q2⟩ := r.there q
      rw [e] at q; cases q; rw [n1] at q2; cases q2
    · obtain ⟨ys, q⟩ := ho a q
      rw [e] at q; cases q; cases n1
  rcases h with (h | ⟨ob, h⟩) | h
  · exact .inl (.inl (no _ h rfl))
  · exact .inl (.inr ⟨ob, no _ h rfl⟩)
  · exact .inr h
theorem R.rep (r : R L ρ th H) (x : Ext ρ o H ρ' o' H') (ho : OL o H) {y : T} {v : V} (h : Rep L ρ H y v) : Rep L ρ' H' y v := by
  obtain ⟨q, e⟩ := x.pre
  subst e
  exact Rep.mono (fun a vs h => r.tup x ho h) y v h
theorem R.repAll (r : R L ρ th H) (x : Ext ρ o H ρ' o' H') (ho : OL o H) {ys : List T} {vs : List V} (h : RepAll L ρ H ys vs) : RepAll L ρ' H' ys vs := by
  obtain ⟨q, e⟩ := x.pre
  subst e
  exact RepAll.mono (fun a vs h => r.tup x ho h) ys vs h
theorem R.frep (r : R L ρ th H) (x : Ext ρ o H ρ' o' H') (ho : OL o H) {κ : Type} {ys : List (κ × T)} {vs : List (κ × V)} (h : FRep L ρ H ys vs) : FRep L ρ' H' ys vs := by
  obtain ⟨q, e⟩ := x.pre
  subst e
  exact FRep.mono (fun a vs h => r.tup x ho h) h
theorem R.drep (r : R L ρ th H) (x : Ext ρ o H ρ' o' H') (ho : OL o H) {ys : List (T × T)} {xs : DX} (h : DRep L ρ H ys xs) : DRep L ρ' H' ys xs := by
  obtain ⟨q, e⟩ := x.pre
  subst e
  exact DRep.mono (fun a vs h => r.tup x ho h) h
/-- what was new behind a step was new ahead of it -/
theorem R.free (r : R L ρ' th' H') (x : Ext ρ o H ρ' o' H') (ho : ∀ b, o b → ∃ u, H' b = some u) {b : Addr} (h : H' b = none) : H b = none := by
  cases e : H b with
  | none => rfl
  | some u =>
    by_cases h1 : b ∈ ρ
    · obtain ⟨q, e'⟩ := x.pre
      have : b ∈ ρ' := by rw [e']; exact List.mem_append_left _ h1
      obtain ⟨_, z, _⟩ := r.there this; rw [h] at z; cases z
    · by_cases h2 : o b
      · obtain ⟨u, z⟩ := ho b h2
        rw [h] at z; cases z
      · rw [x.fr b u e h1 h2] at h; cases h
end
/-- a list of the written part -/
def KList (L : Lay) (a : Addr) (vs : List V) : Prop :=
  ∃ (o : Obj) (its : Array Value) (n : Nat), L.K.lookup a = some o ∧ o.cls = .type "list" ∧ o.dict = none ∧ o.data = .seq its n ∧ its.size ≤ sizeLine ∧ Vals vs its.toList
/-- a list that is only read: o tells one's own -/
def RdL (L : Lay) (ρ : List Addr) (o : Addr → Prop) (H : Hp) (a : Addr) (vs : List V) : Prop := (Rd H a (.lst vs) ∧ a ∉ ρ ∧ ¬ o a) ∨ KList L a vs
theorem RdL.sq {ρ : List Addr} {o : Addr → Prop} {H : Hp} {a : Addr} {vs : List V} (h : RdL L ρ o H a vs) : SqL L.K H a vs := h.elim (fun h => .inl h.1) .inr
/-- one's own lists: those of the slots -/
def own (env : Env) (σ : L2.St) : Addr → Prop := fun b => ∃ (i : Nat) (xs : List T), env[i]? = some (some (TV.l xs)) ∧ σ[i]? = some (some (V.ref b))
/-- a value in hand: H0 is the heap ahead of the expression -/
def RepV (L : Lay) (H0 : Hp) (σ : L2.St) (ρ : List Addr) (o : Addr → Prop) (H : Hp) : TV → V → Prop
  | .t x, v => Rep L ρ H x v
  | .l xs, v => ∃ a vs, v = .ref a ∧ H a = some (.lst vs) ∧ RepAll L ρ H xs vs ∧ a ∉ ρ ∧ H0 a = none
  | .s xs g, v => ∃ a vs, v = .ref a ∧ RdL L ρ noO H a vs ∧ RepAll L ρ H xs vs ∧ (o a → KList L a vs ∨ ∃ i, GI.sl i ∈ g ∧ σ[i]? = some (some (V.ref a)))
/-- a slot's value -/
def RepS (L : Lay) (ρ : List Addr) (o : Addr → Prop) (H : Hp) : TV → V → Prop
  | .t x, v => Rep L ρ H x v
  | .l xs, v => ∃ a vs, v = .ref a ∧ H a = some (.lst vs) ∧ RepAll L ρ H xs vs ∧ a ∉ ρ
  | .s xs _, v => ∃ a vs, v = .ref a ∧ RdL L ρ o H a vs ∧ RepAll L ρ H xs vs
structure EnvR (L : Lay) (ρ : List Addr) (H : Hp) (env : Env) (σ : L2.St) : Prop where
  len : σ.length = env.length
  get : ∀ (i : Nat) (tv : TV), env[i]? = some (some tv) → ∃ v, σ[i]? = some (some v) ∧ RepS L ρ (own env σ) H tv v
  dis : ∀ (i j : Nat) (xs ys : List T) (a : Addr), env[i]? = some (some (TV.l xs)) → env[j]? = some (some (TV.l ys)) → σ[i]? = some (some (V.ref a)) → σ[j]? = some (some (V.ref a)) → i = j
section
variable {ρ ρ' ρ'' : List Addr} {o o' o'' : Addr → Prop} {H H' H'' H0 : Hp} {th th' : S} {env : Env} {σ : L2.St}
theorem EnvR.ol (e : EnvR L ρ H env σ) : OL (own env σ) H := fun b ⟨i, xs, h1, h2⟩ => by
  obtain ⟨v, q1, a, vs, q2, q3, _⟩ := e.get i _ h1
  rw [h2] at q1; cases q1; cases q2
  exact ⟨vs, q3⟩
theorem EnvR.out (e : EnvR L ρ H env σ) {b : Addr} (h : own env σ b) : b ∉ ρ := by
  obtain ⟨i, xs, h1, h2⟩ := h
  obtain ⟨v, q1, a, vs, q2, q3, _, q5⟩ := e.get i _ h1
  rw [h2] at q1; cases q1; cases q2
  exact q5
/-- a tracked thing that is neither shared nor one's own stays so -/
theorem Ext.out (x : Ext ρ o H ρ' o' H') {a : Addr} {u : HO} (h : H a = some u) (h1 : a ∉ ρ) (h2 : ¬ o a) : a ∉ ρ' ∧ ¬ o' a := by
  refine ⟨fun q => ?_, fun q => ?_⟩
  · rcases x.new a (.inl q) with z | z | z
    · exact h1 z
    · exact h2 z
    · rw [h] at z; cases z
  · rcases x.new a (.inr q) with z | z | z
    · exact h1 z
    · exact h2 z
    · rw [h] at z; cases z
theorem Ext.rdL (x : Ext ρ o H ρ' o' H') {a : Addr} {vs : List V} (h : RdL L ρ o H a vs) : RdL L ρ' o' H' a vs := by
  rcases h with ⟨h | ⟨ob, h⟩, h1, h2⟩ | h
  · exact .inl ⟨.inl (x.fr _ _ h h1 h2), x.out h h1 h2⟩
  · exact .inl ⟨.inr ⟨ob, x.fr _ _ h h1 h2⟩, x.out h h1 h2⟩
  · exact .inr h
theorem RdL.weak {a : Addr} {vs : List V} (h : RdL L ρ o H a vs) : RdL L ρ noO H a vs := h.elim (fun h => .inl ⟨h.1, h.2.1, id⟩) .inr
/-- the slots behind a step of an expression -/
theorem EnvR.ext (e : EnvR L ρ H env σ) (r : R L ρ th H) (x : Ext ρ noO H ρ' o' H') : EnvR L ρ' H' env σ := by
  refine ⟨e.len, fun i tv h => ?_, e.dis⟩
  obtain ⟨v, h1, h2⟩ := e.get i tv h
  refine ⟨v, h1, ?_⟩
  cases tv with
  | t y => exact r.rep x OL.no h2
  | l xs =>
    obtain ⟨a, vs, e1, e2, e3, e4⟩ := h2
    exact ⟨a, vs, e1, x.fr _ _ e2 e4 id, r.repAll x OL.no e3, (x.out e2 e4 id).1⟩
  | s xs g =>
    obtain ⟨a, vs, e1, e2, e3⟩ := h2
    refine ⟨a, vs, e1, ?_, r.repAll x OL.no e3⟩
    rcases e2 with ⟨e2, e4, e5⟩ | e2
    · have z := x.rdL (o := noO) (L := L) (.inl ⟨e2, e4, id⟩)
      rcases z with ⟨z1, z2, _⟩ | z
      · exact .inl ⟨z1, z2, e5⟩
      · exact .inr z
    · exact .inr e2
/-- a value in hand behind a further step -/
theorem RepV.ext {tv : TV} {v : V} (h : RepV L H0 σ ρ o H tv v) (r : R L ρ th H) (x : Ex0 ρ H ρ' H') : RepV L H0 σ ρ' o H' tv v := by
  cases tv with
  | t y => exact r.rep x OL.no h
  | l xs =>
    obtain ⟨a, vs, e1, e2, e3, e4, e5⟩ := h
    exact ⟨a, vs, e1, x.fr _ _ e2 e4 id, r.repAll x OL.no e3, (x.out e2 e4 id).1, e5⟩
  | s xs g =>
    obtain ⟨a, vs, e1, e2, e3, e4⟩ := h
    exact ⟨a, vs, e1, x.rdL e2, r.repAll x OL.no e3, e4⟩
/-- .. told from an earlier heap -/
theorem RepV.back {tv : TV} {v : V} (h : RepV L H σ ρ' o H' tv v) (r : R L ρ th H) (x : Ex0 ρ'' H0 ρ H) : RepV L H0 σ ρ' o H' tv v := by
  cases tv with
  | t y => exact h
  | l xs =>
    obtain ⟨a, vs, e1, e2, e3, e4, e5⟩ := h
    exact ⟨a, vs, e1, e2, e3, e4, r.free x (fun _ z => z.elim) e5⟩
  | s xs g => exact h
end
end Mini
/-! Mini: the readings of Mini's expressions. -/
set_option linter.all false
set_option maxRecDepth 10000
namespace Mini
open PySem PySem.Spec PyProof.Rows L2

/-! ### the monad -/
section
variable {α β : Type} {m : M α} {f : α → M β} {th : S}
theorem bind_app : (m >>= f) th = (match m th with
  | .ok a s' => f a s'
  | .exc e s' => .exc e s'
  | .bad => .bad) := rfl
theorem pure_app {a : α} : (pure a : M α) th = .ok a th := rfl
theorem fail_app : (fail : M α) th = .bad := rfl
theorem bind_pure_app {a : α} : ((pure a : M α) >>= f) th = f a th := rfl
end
def ExR (L : Lay) (ρ : List Addr) (H : Hp) (e : Ex) (cls : Value) (d : Option Addr) : Prop :=
  cls = .ref (L.cad e.c) ∧ (e.fs = [] ∨ ∃ dd gs, d = some dd ∧ H dd = some (.xd gs) ∧ FRep L ρ H e.fs gs)
/-- what is asked of an end -/
def Pst (L : Lay) (W : WX) (ρ : List Addr) (H : Hp) (σ : L2.St) {α : Type} (Φ : α → S → Prop) : Res α → Prop
  | .ok a th => Φ a th
  | .exc e th' => ∀ ρ' cls d H', Ex0 ρ H ρ' H' → R L ρ' th' H' → ExR L ρ' H' e cls d → W cls d σ H'
  | .bad => False
section
variable {L : Lay} {W : WX} {ρ ρ1 : List Addr} {H H1 : Hp} {σ : L2.St} {α β : Type} {th th1 : S} {Φ Ψ : α → S → Prop} {Φ' : β → S → Prop}
theorem Pst.imp {r : Res α} (h : Pst L W ρ H σ Φ r) (k : ∀ a th, Φ a th → Ψ a th) : Pst L W ρ H σ Ψ r := by
  cases r with
  | ok a th => exact k a th h
  | exc e th => exact h
  | bad => exact h
theorem Pst.bind {m : M α} {f : α → M β} (h : Pst L W ρ H σ Φ' ((m >>= f) th)) : Pst L W ρ H σ (fun a th1 => Pst L W ρ H σ Φ' (f a th1)) (m th) := by
  rw [bind_app] at h
  cases e : m th with
  | ok a s => rw [e] at h; exact h
  | exc x s => rw [e] at h; exact h
  | bad => rw [e] at h; exact h
theorem Pst.base {r : Res α} (h : Pst L W ρ H σ Φ r) (x : Ex0 ρ H ρ1 H1) : Pst L W ρ1 H1 σ Φ r := by
  cases r with
  | ok a th => exact h
  | exc e th => exact fun ρ' cls d H' y r' z => h ρ' cls d H' (x.trans y) r' z
  | bad => exact h
end
/-! ### readings -/
section
variable (P : Prog) (L : Lay) (C : Call) (W : WX)
def KV (L : Lay) (ρ : List Addr) (H : Hp) (env : Env) (σ : L2.St) (Q : VK) : TV → S → Prop := fun tv th' =>
  ∀ ρ' v H', Ex0 ρ H ρ' H' → R L ρ' th' H' → RepV L H σ ρ' (own env σ) H' tv v → Q v H'
def SV (c : E) : TE := fun σ H Q => ∃ ρ th env, R L ρ th H ∧ EnvR L ρ H env σ ∧ Pst L W ρ H σ (KV L ρ H env σ Q) (evalV P C c env th)
def ST (c : E) : TT := fun σ H Q => ∃ ρ th env, R L ρ th H ∧ EnvR L ρ H env σ ∧
  Pst L W ρ H σ (fun (b : Bool) th' => ∀ ρ' H', Ex0 ρ H ρ' H' → R L ρ' th' H' → Q b H') ((do let v ← evalV P C c env; truth v : M Bool) th)
/-- an argument -/
def RepG (L : Lay) (ρ : List Addr) (H : Hp) : TV → V → Prop
  | .t x, v => Rep L ρ H x v
  | .s xs _, v => ∃ a vs, v = .ref a ∧ RdL L ρ noO H a vs ∧ RepAll L ρ H xs vs
  | .l _, _ => False
abbrev RepGs (L : Lay) (ρ : List Addr) (H : Hp) : List TV → List V → Prop := Paired (RepG L ρ H)
def SA (es : Es) : TA := fun σ H Q => ∃ ρ th env, R L ρ th H ∧ EnvR L ρ H env σ ∧
  Pst L W ρ H σ (fun (xs : List TV) th' => ∀ ρ' vs H', Ex0 ρ H ρ' H' → R L ρ' th' H' → RepGs L ρ' H' xs vs → Q vs H') (evalAs P C es env th)
def STs (es : Es) : TA := fun σ H Q => ∃ ρ th env, R L ρ th H ∧ EnvR L ρ H env σ ∧
  Pst L W ρ H σ (fun (xs : List T) th' => ∀ ρ' vs H', Ex0 ρ H ρ' H' → R L ρ' th' H' → RepAll L ρ' H' xs vs → Q vs H') (evalTs P C es env th)
end
theorem PE.imp {X : Cx} {e : Expr} {t t' : TE} (h : PE X e t) (k : ∀ σ H Q, t' σ H Q → t σ H Q) : PE X e t' := ⟨fun pins s σ H Q I q => h.run pins s σ H Q I (k σ H Q q)⟩
theorem PT.imp {X : Cx} {e : Expr} {t t' : TT} (h : PT X e t) (k : ∀ σ H Q, t' σ H Q → t σ H Q) : PT X e t' := ⟨fun pins s σ H Q I q => h.run pins s σ H Q I (k σ H Q q)⟩
theorem PA.imp {X : Cx} {e : List Expr} {t t' : TA} (h : PA X e t) (k : ∀ σ H Q, t' σ H Q → t σ H Q) : PA X e t' := ⟨fun pos pins s σ H Q I q => h.run pos pins s σ H Q I (k σ H Q q)⟩
theorem PS.imp {X : Cx} {e : Stmt} {t t' : TS} (h : PS X e t) (k : ∀ D σ H, t' D σ H → t D σ H) : PS X e t' := ⟨fun pins s σ H D I q => h.run pins s σ H D I (k D σ H q)⟩
theorem PSs.imp {X : Cx} {e : List Stmt} {t t' : TS} (h : PSs X e t) (k : ∀ D σ H, t' D σ H → t D σ H) : PSs X e t' := ⟨fun pins s σ H D I q => h.run pins s σ H D I (k D σ H q)⟩

section
variable {P : Prog} {L : Lay} {C : Call} {W : WX} {ρ ρ' ρ1 : List Addr} {H H' H1 H0 : Hp} {σ : L2.St} {env : Env} {th th1 : S} {o o' : Addr → Prop}
theorem sv_step {β : Type} {a : E} {f : TV → M β} {Φ : β → S → Prop} {Q : VK} (hR : R L ρ th H) (hE : EnvR L ρ H env σ) (h : Pst L W ρ H σ Φ ((evalV P C a env >>= f) th))
    (k : ∀ ρ1 th1 H1 tv v, Ex0 ρ H ρ1 H1 → R L ρ1 th1 H1 → EnvR L ρ1 H1 env σ → RepV L H σ ρ1 (own env σ) H1 tv v → Pst L W ρ H σ Φ (f tv th1) → Q v H1) : SV P L C W a σ H Q :=
  ⟨ρ, th, env, hR, hE, h.bind.imp fun tv th1 q ρ1 v H1 x r rv => k ρ1 th1 H1 tv v x r (hE.ext hR x) rv q⟩
theorem st_step {β : Type} {a : E} {f : Bool → M β} {Φ : β → S → Prop} {Q : Bool → Hp → Prop} (hR : R L ρ th H) (hE : EnvR L ρ H env σ) (h : Pst L W ρ H σ Φ (((do let v ← evalV P C a env; truth v : M Bool) >>= f) th))
    (k : ∀ ρ1 th1 H1 b, Ex0 ρ H ρ1 H1 → R L ρ1 th1 H1 → EnvR L ρ1 H1 env σ → Pst L W ρ H σ Φ (f b th1) → Q b H1) : ST P L C W a σ H Q :=
  ⟨ρ, th, env, hR, hE, h.bind.imp fun b th1 q ρ1 H1 x r => k ρ1 th1 H1 b x r (hE.ext hR x) q⟩
theorem bind_assoc' {α β γ : Type} (m : M α) (f : α → M β) (g : β → M γ) : ((m >>= f) >>= g) = (m >>= fun a => f a >>= g) := by
  funext s
  show (match (match m s with | .ok a s' => f a s' | .exc e s' => .exc e s' | .bad => .bad) with | .ok a s' => g a s' | .exc e s' => .exc e s' | .bad => .bad) = _
  cases e : m s with
  | ok a s' => simp only [bind_app, e]
  | exc x s' => simp only [bind_app, e]
  | bad => simp only [bind_app, e]
/-! ### what the heap's steps are -/
theorem upd_frame {p b : Addr} {u w : HO} (h : H p = none) (e : H b = some u) : upd H p w b = some u := by
  rw [upd_ne (ne_of_none e h)]; exact e
theorem Ext.new1 {p : Addr} {w : HO} (h : H p = none) : Ext ρ o H ρ o (upd H p w) := ⟨⟨[], by simp⟩, fun b u e _ _ => upd_frame h e, fun b q => q.elim .inl fun q => .inr (.inl q)⟩
/-- a step that touches no shared object -/
theorem R.ext (r : R L ρ th H) (x : Ext ρ o H ρ o' H') (ho : OL o H) (hs : ∀ b ∈ ρ, ∀ u, H b = some u → H' b = some u) : R L ρ th H' := by
  refine ⟨r.len, r.nd, fun i a ob h1 h2 => ?_⟩
  have q := r.obj i a ob h1 h2
  have ha : a ∈ ρ := List.mem_of_getElem? h1
  cases ob with
  | lst xs =>
    obtain ⟨vs, e, h⟩ := q
    exact ⟨vs, hs a ha _ e, r.repAll x ho h⟩
  | ins c fs =>
    obtain ⟨dx, gs, e, h⟩ := q
    exact ⟨dx, gs, hs a ha _ e, r.frep x ho h⟩
  | dk fs =>
    obtain ⟨gs, e, h⟩ := q
    exact ⟨gs, hs a ha _ e, r.frep x ho h⟩
  | dt fs =>
    obtain ⟨gs, e, e2, h⟩ := q
    exact ⟨gs, hs a ha _ e, e2, r.drep x ho h⟩
theorem R.new1 (r : R L ρ th H) {p : Addr} {w : HO} (h : H p = none) : R L ρ th (upd H p w) := r.ext (o := noO) (o' := noO) (Ext.new1 h) OL.no fun b _ u e => upd_frame h e
theorem R.notin (r : R L ρ th H) {p : Addr} (h : H p = none) : p ∉ ρ := fun q => by
  obtain ⟨_, z, _⟩ := r.there q
  rw [h] at z; cases z
theorem nodup_snoc {ρ : List Addr} {a : Addr} (h : ρ.Nodup) (n : a ∉ ρ) : (ρ ++ [a]).Nodup := by
  rw [List.nodup_append]
  exact ⟨h, by simp, fun x hx y hy => by
    have : y = a := by simpa using hy
    rw [this]; rintro rfl; exact n hx⟩
/-- a list of one's own becomes a shared one -/
theorem R.share (r : R L ρ th H) {a : Addr} {xs : List T} {vs : List V} (e : H a = some (.lst vs)) (h : RepAll L ρ H xs vs) (n : a ∉ ρ) : R L (ρ ++ [a]) (th ++ [.lst xs]) H := by
  have mono : ∀ {y : T} {v : V}, Rep L ρ H y v → Rep L (ρ ++ [a]) H y v := fun {y v} h => Rep.mono (fun _ _ h => h) y v h
  refine ⟨by rw [List.length_append, List.length_append, r.len]; rfl, nodup_snoc r.nd n, fun i b ob h1 h2 => ?_⟩
  by_cases hi : i < ρ.length
  · rw [List.getElem?_append_left hi] at h1
    rw [List.getElem?_append_left (by rw [← r.len]; exact hi)] at h2
    have q := r.obj i b ob h1 h2
    cases ob with
    | lst ys =>
      obtain ⟨ws, e1, q⟩ := q
      exact ⟨ws, e1, RepAll.mono (fun _ _ h => h) _ _ q⟩
    | ins c fs =>
      obtain ⟨dx, gs, e1, q⟩ := q
      exact ⟨dx, gs, e1, FRep.mono (fun _ _ h => h) q⟩
    | dk fs =>
      obtain ⟨gs, e1, q⟩ := q
      exact ⟨gs, e1, FRep.mono (fun _ _ h => h) q⟩
    | dt fs =>
      obtain ⟨gs, e1, e2, q⟩ := q
      exact ⟨gs, e1, e2, DRep.mono (fun _ _ h => h) q⟩
  · have hl : i = ρ.length := by
      have := (List.getElem?_eq_some_iff.mp h1).1
      rw [List.length_append] at this
      simp only [List.length_cons, List.length_nil] at this
      omega
    subst hl
    rw [List.getElem?_append_right (Nat.le_refl _)] at h1
    rw [r.len, List.getElem?_append_right (Nat.le_refl _)] at h2
    simp only [Nat.sub_self, List.getElem?_cons_zero, Option.some.injEq] at h1 h2
    subst h1 h2
    exact ⟨vs, e, RepAll.mono (fun _ _ h => h) _ _ h⟩
theorem Ext.share {a : Addr} (x : Ext ρ o H ρ1 o' H1) (h : H a = none) : Ext ρ o H (ρ1 ++ [a]) o' H1 := by
  refine ⟨?_, x.fr, fun b q => ?_⟩
  · obtain ⟨r, e⟩ := x.pre
    exact ⟨r ++ [a], by rw [e, List.append_assoc]⟩
  · rcases q with q | q
    · rcases List.mem_append.mp q with q | q
      · exact x.new b (.inl q)
      · have : b = a := by simpa using q
        subst this
        exact .inr (.inr h)
    · exact x.new b (.inr q)
theorem getElem?_len (ρ : List Addr) (a : Addr) : (ρ ++ [a])[ρ.length]? = some a := by
  rw [List.getElem?_append_right (Nat.le_refl _)]; simp
/-- a value in hand as a tree -/
theorem mat_step {β : Type} {tv : TV} {v : V} {f : T → M β} {Φ : β → S → Prop} {G : Prop} (hR : R L ρ1 th1 H1) (x : Ex0 ρ H ρ1 H1) (rv : RepV L H σ ρ1 o H1 tv v) (h : Pst L W ρ H σ Φ ((mat tv >>= f) th1))
    (k : ∀ ρ2 th2 y, Ex0 ρ H ρ2 H1 → R L ρ2 th2 H1 → Rep L ρ2 H1 y v → (∃ r, ρ2 = ρ1 ++ r) → Pst L W ρ H σ Φ (f y th2) → G) : G := by
  cases tv with
  | t y => exact k ρ1 th1 y x hR rv ⟨[], by simp⟩ h
  | l xs =>
    obtain ⟨a, vs, rfl, e2, e3, e4, e5⟩ := rv
    have h' : Pst L W ρ H σ Φ (f (.ref th1.length) (th1 ++ [.lst xs])) := h
    refine k (ρ1 ++ [a]) _ _ (x.share e5) (hR.share e2 e3 e4) ?_ ⟨[a], rfl⟩ h'
    simp only [Rep]
    exact ⟨a, rfl, by rw [← hR.len]; exact getElem?_len _ _⟩
  | s xs g => exact False.elim h
/-- a tracked object's step -/
theorem R.write (r : R L ρ th H) {i : Nat} {a : Addr} {w : HO} {ob : O} (h1 : ρ[i]? = some a) (q : ORep L ρ (upd H a w) a ob) : R L ρ (th.set i ob) (upd H a w) := by
  have ha : a ∈ ρ := List.mem_of_getElem? h1
  have x : Ex0 ρ H ρ (upd H a w) := ⟨⟨[], by simp⟩, fun b u e n _ => by rw [upd_ne (fun z => n (by rw [z]; exact ha))]; exact e, fun b z => z.elim .inl fun z => z.elim⟩
  refine ⟨by rw [List.length_set, r.len], r.nd, fun j b ob' h2 h3 => ?_⟩
  by_cases hj : i = j
  · subst hj
    rw [h1] at h2; cases h2
    have hl : i < th.length := by rw [← r.len]; exact (List.getElem?_eq_some_iff.mp h1).1
    rw [List.getElem?_set_self hl] at h3
    cases h3
    exact q
  · rw [List.getElem?_set_ne hj] at h3
    have z := r.obj j b ob' h2 h3
    have nb : b ≠ a := fun e => hj (by
      obtain ⟨p1, p2⟩ := List.getElem?_eq_some_iff.mp h1
      obtain ⟨p3, p4⟩ := List.getElem?_eq_some_iff.mp h2
      exact (List.getElem_inj r.nd).mp (by rw [p2, p4, e]))
    cases ob' with
    | lst xs =>
      obtain ⟨vs, e, h⟩ := z
      exact ⟨vs, by rw [upd_ne nb]; exact e, r.repAll x OL.no h⟩
    | ins c fs =>
      obtain ⟨dx, gs, e, h⟩ := z
      exact ⟨dx, gs, by rw [upd_ne nb]; exact e, r.frep x OL.no h⟩
    | dk fs =>
      obtain ⟨gs, e, h⟩ := z
      exact ⟨gs, by rw [upd_ne nb]; exact e, r.frep x OL.no h⟩
    | dt fs =>
      obtain ⟨gs, e, e2, h⟩ := z
      exact ⟨gs, by rw [upd_ne nb]; exact e, e2, r.drep x OL.no h⟩
theorem Ext.write {i : Nat} {a : Addr} {w : HO} (h1 : ρ[i]? = some a) : Ext ρ o H ρ o (upd H a w) :=
  ⟨⟨[], by simp⟩, fun b u e n _ => by rw [upd_ne (fun z => n (by rw [z]; exact List.mem_of_getElem? h1))]; exact e, fun b z => z.elim .inl fun z => .inr (.inl z)⟩
end
end Mini
/-! Mini: a dict whose keys are trees, as expressions meet it. -/
set_option linter.all false
namespace Mini
open PySem PySem.Spec PyProof.Rows L2
/-- a dict and a key, as they lie -/
structure DAt (X : Cx) (L : Lay) (ρ : List Addr) (H : Hp) (a b : Addr) (fs : List (T × T)) (xs : DX) (x : T) (k : NestedKey) : Prop where
  fr : X.K = L.K
  ob : H a = some (HD0 X.w a xs)
  sm : (a == sysModules) = false
  en : DRep L ρ H fs xs
  key : Rep L ρ H x (.ref b)
  is : keyN x = some k
  dk : k.depth ≤ 8
section
variable {X : Cx} {pins : List (Addr × Obj)} {σ : L2.St} {s : Shared} {A : Around} {E : Value → Shared → Prop}
variable {L : Lay} {ρ : List Addr} {H : Hp} {a b : Addr} {fs : List (T × T)} {xs : DX} {x y : T} {k : NestedKey}
theorem DAt.dict (d : DAt X L ρ H a b fs xs x k) (I : Inv X pins σ H s) : s.heap.DictOfH (nestedKind X.prog X.w) a xs := dict_of I.hok (d.fr ▸ I.kIn) d.ob d.en
theorem DAt.isKey (d : DAt X L ρ H a b fs xs x k) (I : Inv X pins σ H s) : (nestedKind X.prog X.w).is s.heap k b :=
  ⟨key_is I.hok (d.fr ▸ I.kIn) x k (.ref b) (.ref b) d.key d.is rfl, d.dk⟩
theorem room9 (hu : A.units + 9 < cLine) : (nestedKind X.prog X.w).room A.in1 := by
  show A.units + 1 + 8 < cLine
  omega
theorem dn_get {Q : Value → Shared → Prop} (hu : A.units + 9 < cLine) (I : Inv X pins σ H s) (d : DAt X L ρ H a b fs xs x k) (hy : atT fs k = some y)
    (h : ∀ v u s', Inv X pins σ H s' → RelV v u → Rep L ρ H y v → Q u s') : wpAny (model X.prog X.w) A (getItem (.ref a) (.ref b)) Q E s := by
  rcases DRep.at d.en.1 k with ⟨e1, _⟩ | ⟨y', c, u, v, e1, e2, q1, q2⟩
  · rw [hy] at e1; cases e1
  · rw [hy] at e1; cases e1
    exact wpAny_getItem_heap (room9 hu) (d.isKey I) (d.dict I) e2 (h v u _ (I.tok _) q1 q2)
theorem dn_in {Q : Value → Shared → Prop} (hu : A.units + 9 < cLine) (I : Inv X pins σ H s) (d : DAt X L ρ H a b fs xs x k)
    (h : ∀ s', Inv X pins σ H s' → Q (.bool (atT fs k).isSome) s') : wpAny (model X.prog X.w) A (compareOp .In (.ref b) (.ref a)) Q E s := by
  refine wpAny_in_heap (room9 hu) (d.isKey I) d.sm (d.dict I) ?_
  have e : (atKey xs k).isSome = (atT fs k).isSome := by
    rcases DRep.at d.en.1 k with ⟨e1, e2⟩ | ⟨_, _, _, _, e1, e2, _⟩ <;> rw [e1, e2] <;> rfl
  rw [e]
  exact h _ (I.tok _)
theorem dn_set {Q : Unit → Shared → Prop} {v : V} {u : Value} (hu : A.units + 9 < cLine) (I : Inv X pins σ H s) (d : DAt X L ρ H a b fs xs x k) (hl : xs.length < sizeLine) (rv : RelV v u) (rr : Rep L ρ H y v)
    (h : ∀ s', Inv X pins σ (upd H a (HD0 X.w a (storedH xs k b u))) s' → DRep L ρ H (putT fs x k y) (storedH xs k b u) → Q () s') : wpAny (model X.prog X.w) A (setItem (.ref a) (.ref b) u) Q E s := by
  refine wpAny_setItem_heap (hsz := by omega) (room9 hu) (d.isKey I) (d.dict I) fun h' dd hs => ?_
  have ro := raw_back dd
  obtain ⟨o, _, _, g, _⟩ := ro
  refine h _ (d_write I (by rw [d.ob]; exact True.intro) hs ⟨o, g⟩ ?_) (d.en.put d.is d.dk d.key rv rr hl)
  exact RawD.ok (P := X.prog) (H := upd H a (HD0 X.w a (storedH xs k b u))) (raw_back dd)
/-- `{}` -/
theorem raw_new {w : World} (h : Heap) : RawD w h.objs.size [] (h.push { cls := .type "dict", data := .dict #[] }) := ⟨_, #[], 0, Heap.get?_push_size _ rfl, ⟨rfl, rfl, rfl⟩, rfl, rfl⟩
end
end Mini
/-! Mini: get and setdefault of a dict whose keys are trees. -/
set_option linter.all false
namespace Mini
open PySem PySem.Spec PyProof.Rows L2
section
variable {X : Cx} {pins : List (Addr × Obj)} {σ : L2.St} {s : Shared} {A : Around} {E : Value → Shared → Prop}
variable {L : Lay} {ρ : List Addr} {H : Hp} {a b : Addr} {fs : List (T × T)} {xs : DX} {x y : T} {k : NestedKey}
theorem DAt.got (d : DAt X L ρ H a b fs xs x k) {z : T} {v : V} {r : Value} (rv : RelV v r) (rr : Rep L ρ H z v) :
    ∃ v', RelV v' (((atKey xs k).map (·.2)).getD r) ∧ Rep L ρ H ((atT fs k).getD z) v' := by
  rcases DRep.at d.en.1 k with ⟨e1, e2⟩ | ⟨y', c, u, v', e1, e2, q1, q2⟩
  · rw [e1, e2]; exact ⟨v, rv, rr⟩
  · rw [e1, e2]; exact ⟨v', q1, q2⟩
theorem dn_get2 {Q : Value → Shared → Prop} {z : T} {v : V} {r : Value} (hu : A.units + 9 < cLine) (I : Inv X pins σ H s) (d : DAt X L ρ H a b fs xs x k) (rv : RelV v r) (rr : Rep L ρ H z v)
    (h : ∀ v u s', Inv X pins σ H s' → RelV v u → Rep L ρ H ((atT fs k).getD z) v → Q u s') : wpAny (model X.prog X.w) A (call (.builtin "dict.get") [.ref a, .ref b, r]) Q E s := by
  have dd := d.dict I
  obtain ⟨v', q1, q2⟩ := d.got rv rr
  exact call_meetsIn PySem.F.slot_dict_get dd.typeIs PySem.F.entry_dict_get (PySem.F.args_dict_get_3 _ _ _)
    (meetsH_dict_get_default (nestedKind X.prog X.w) a b d.sm r) ⟨room9 hu, k, xs, d.isKey I, dd, h v' _ _ (I.tok _) q1 q2⟩
theorem dn_get1 {Q : Value → Shared → Prop} (hu : A.units + 9 < cLine) (I : Inv X pins σ H s) (d : DAt X L ρ H a b fs xs x k)
    (h : ∀ v u s', Inv X pins σ H s' → RelV v u → Rep L ρ H ((atT fs k).getD .non) v → Q u s') : wpAny (model X.prog X.w) A (call (.builtin "dict.get") [.ref a, .ref b]) Q E s := by
  have dd := d.dict I
  obtain ⟨v', q1, q2⟩ := d.got (z := .non) (v := .non) (r := .none) rfl (by simp only [Rep])
  exact call_meetsIn PySem.F.slot_dict_get dd.typeIs PySem.F.entry_dict_get (PySem.F.args_dict_get_2 _ _)
    (meetsH_dict_get (nestedKind X.prog X.w) a b d.sm) ⟨room9 hu, k, xs, d.isKey I, dd, h v' _ _ (I.tok _) q1 q2⟩
theorem dn_setd {Q : Value → Shared → Prop} {z : T} {v : V} {r : Value} (hu : A.units + 9 < cLine) (I : Inv X pins σ H s) (d : DAt X L ρ H a b fs xs x k) (hl : xs.length < sizeLine) (rv : RelV v r) (rr : Rep L ρ H z v)
    (h1 : ∀ y v u s', atT fs k = some y → Inv X pins σ H s' → RelV v u → Rep L ρ H y v → Q u s')
    (h2 : ∀ s', atT fs k = none → Inv X pins σ (upd H a (HD0 X.w a (storedH xs k b r))) s' → DRep L ρ H (putT fs x k z) (storedH xs k b r) → Q r s') :
    wpAny (model X.prog X.w) A (call (.builtin "dict.setdefault") [.ref a, .ref b, r]) Q E s := by
  refine call_setdefault_heap (room9 hu) (d.isKey I) d.sm (d.dict I) (fun p hp => ?_) (fun hn h' dd hs => ?_) (by omega)
  · rcases DRep.at d.en.1 k with ⟨_, e2⟩ | ⟨y', c, u, v', e1, e2, q1, q2⟩
    · rw [hp] at e2; cases e2
    · rw [hp] at e2; cases e2
      exact h1 y' v' u _ e1 (I.tok _) q1 q2
  · have en : atT fs k = none := by
      rcases DRep.at d.en.1 k with ⟨e1, _⟩ | ⟨_, _, _, _, _, e2, _⟩
      · exact e1
      · rw [hn] at e2; cases e2
    obtain ⟨o, _, _, g, _⟩ := raw_back dd
    exact h2 _ en (d_write I (by rw [d.ob]; exact True.intro) hs ⟨o, g⟩ (RawD.ok (P := X.prog) (H := upd H a (HD0 X.w a (storedH xs k b r))) (raw_back dd))) (d.en.put d.is d.dk d.key rv rr hl)
end
end Mini
/-! Mini: `d[k]`, `k in d` and `d[k] = v`, for both kinds of dicts. -/
set_option linter.all false
namespace Mini
open PySem PySem.Spec PyProof.Rows L2
section
variable {L : Lay} {ρ : List Addr} {H : Hp} {κ : Type} [DecidableEq κ] {fs : List (κ × T)} {gs : List (κ × V)}
theorem FRep.at (h : FRep L ρ H fs gs) (k : κ) : (atG fs k = none ∧ valV gs k = none) ∨ ∃ x v, atG fs k = some x ∧ valV gs k = some v ∧ Rep L ρ H x v := by
  induction h with
  | nil => exact .inl ⟨rfl, rfl⟩
  | @cons p q ps qs hq _ ih =>
    obtain ⟨d1, d2⟩ := hq
    by_cases c : p.1 = k
    · exact .inr ⟨p.2, q.2, by simp [atG, c], valV_pos (by rw [← d1]; exact c), d2⟩
    · have e1 : atG (p :: ps) k = atG ps k := by simp [atG, c]
      rw [e1, valV_neg (by rw [← d1]; exact c)]
      exact ih
theorem FRep.any (h : FRep L ρ H fs gs) (k : κ) : (fs.any fun p => decide (p.1 = k)) = gs.any fun p => decide (p.1 = k) := by
  induction h with
  | nil => rfl
  | @cons p q ps qs hq _ ih => rw [List.any_cons, List.any_cons, ih, hq.1]
theorem FRep.mapPut {x : T} {v : V} (r : Rep L ρ H x v) (h : FRep L ρ H fs gs) (k : κ) : FRep L ρ H (fs.map fun p => if p.1 = k then (p.1, x) else p) (gs.map fun p => if p.1 = k then (p.1, v) else p) := by
  induction h with
  | nil => exact .nil
  | @cons p q ps qs hq _ ih =>
    refine .cons ?_ ih
    obtain ⟨d1, d2⟩ := hq
    dsimp only
    by_cases c : p.1 = k
    · rw [if_pos c, if_pos (by rw [← d1]; exact c)]
      exact ⟨d1, r⟩
    · rw [if_neg c, if_neg (by rw [← d1]; exact c)]
      exact ⟨d1, d2⟩
theorem FRep.putG {x : T} {v : V} (r : Rep L ρ H x v) (h : FRep L ρ H fs gs) (k : κ) : FRep L ρ H (putG fs k x) (putK gs k v) := by
  unfold Mini.putG L2.putK
  rw [h.any k]
  by_cases c : (gs.any fun p => decide (p.1 = k)) = true
  · rw [if_pos c, if_pos c]
    exact h.mapPut r k
  · rw [if_neg c, if_neg c]
    exact h.snoc ⟨rfl, r⟩
end
section
variable {X : Cx} {o i e value : Expr} {pos pos' : Pos} {td ty tv : TE}
theorem DAt.typeIs {pins : List (Addr × Obj)} {σ : L2.St} {s : Shared} {L : Lay} {ρ : List Addr} {H : Hp} {a b : Addr} {fs : List (T × T)} {xs : DX} {x : T} {k : NestedKey} (d : DAt X L ρ H a b fs xs x k) (I : Inv X pins σ H s) : s.TypeIs (.ref a) "dict" :=
  (d.dict I).typeIs
/-- d[k] -/
def tMGet (X : Cx) (td ty : TE) : TE := fun σ H Q => td σ H fun x H1 => ty σ H1 fun y H2 => ∃ a, x = .ref a ∧ ((∃ v, DGet H2 a y (some v) ∧ Q v H2) ∨
  ∃ b L ρ fs xs kx k z, y = .ref b ∧ DAt X L ρ H2 a b fs xs kx k ∧ atT fs k = some z ∧ ∀ v, Rep L ρ H2 z v → Q v H2)
theorem pe_mget (hu : X.A.units + 9 < cLine) (ho : PE X o td) (hi : PE X i ty) (hs : NoSl i) : PE X (.Subscript o i pos) (tMGet X td ty) := by
  refine ⟨fun pins s σ H Q I h => ?_⟩
  refine subD_of PySem.F.slot_dict_getitem.lookup hs (thn (ho.run pins s σ H _ I h) fun u s1 ⟨x, H1, I1, rx, q1⟩ =>
    thn (hi.run pins s1 σ H1 _ I1 q1) fun iv s2 ⟨y, H2, I2, ry, a, ex, g⟩ => ?_)
  subst ex
  cases (show u = Value.ref a from rx)
  rcases g with ⟨v, g, q⟩ | ⟨b, L, ρ, fs, xs, kx, k, z, ey, d, hz, q⟩
  · exact ⟨dict_typeIs I2 g, d_getItem (by omega) I2 g ry fun w' s3 I3 rw' => ⟨v, H2, I3, rw', q⟩⟩
  · subst ey
    cases (show iv = Value.ref b from ry)
    exact ⟨d.typeIs I2, dn_get hu I2 d hz fun v u s3 I3 rv rr => ⟨v, H2, I3, rv, q v rr⟩⟩
/-- k in d -/
def tMIn (X : Cx) (ty td : TE) : TE := fun σ H Q => ty σ H fun y H1 => td σ H1 fun x H2 => ∃ a, x = .ref a ∧ ((∃ o, DGet H2 a y o ∧ Q (.bl o.isSome) H2) ∨
  ∃ b L ρ fs xs kx k, y = .ref b ∧ DAt X L ρ H2 a b fs xs kx k ∧ Q (.bl (atT fs k).isSome) H2)
theorem pc_min (hu : X.A.units + 9 < cLine) (hi : PE X i ty) (ho : PE X o td) : PC X .In i o (tMIn X ty td) := by
  refine ⟨fun pins s σ H Q I h => ?_⟩
  refine thn (hi.run pins s σ H _ I h) fun iv s1 ⟨y, H1, I1, ry, q1⟩ => thn (ho.run pins s1 σ H1 _ I1 q1) fun u s2 ⟨x, H2, I2, rx, a, ex, g⟩ => ?_
  subst ex
  cases (show u = Value.ref a from rx)
  rcases g with ⟨ov, g, q⟩ | ⟨b, L, ρ, fs, xs, kx, k, ey, d, q⟩
  · exact d_in (by omega) I2 g ry fun s3 I3 => ⟨.bl ov.isSome, H2, I3, rfl, q⟩
  · subst ey
    cases (show iv = Value.ref b from ry)
    exact dn_in hu I2 d fun s3 I3 => ⟨.bl (atT fs k).isSome, H2, I3, rfl, q⟩
end
end Mini
/-! Mini: `d[k] = v`, `{}`, get and setdefault, for both kinds of dicts. -/
set_option linter.all false
namespace Mini
open PySem PySem.Spec PyProof.Rows L2
section
variable {X : Cx} {o i e value : Expr} {pos pos' : Pos} {td ty tv : TE}
/-- d[k] = v -/
def sMPut (X : Cx) (td ty tv : TE) : TS := fun D σ H => tv σ H fun v H1 => td σ H1 fun x H2 => ty σ H2 fun y H3 => ∃ a, x = .ref a ∧ ((∃ H4, DPut H3 a y v H4 ∧ D.nx σ H4) ∨
  ∃ b L ρ fs xs kx k z, y = .ref b ∧ DAt X L ρ H3 a b fs xs kx k ∧ xs.length < sizeLine ∧ Rep L ρ H3 z v ∧ ∀ xs', DRep L ρ H3 (putT fs kx k z) xs' → D.nx σ (upd H3 a (HD0 X.w a xs')))
theorem ps_mput (hu : X.A.units + 9 < cLine) (ho : PE X o td) (hi : PE X i ty) (hv : PE X value tv) (hs : swapsWith value (some (.Subscript o i pos')) pos.line X.env = pure false) :
    PS X (.Assign [.Subscript o i pos'] value pos) (sMPut X td ty tv) := by
  refine ⟨fun pins s σ H D I h => ?_⟩
  refine wpAny_Assign_Subscript (thn (hv.run pins s σ H _ I h) fun r s1 ⟨v, H1, I1, rv, q1⟩ =>
    thn (ho.run pins s1 σ H1 _ I1 q1) fun u s2 ⟨x, H2, I2, rx, q2⟩ => thn (hi.run pins s2 σ H2 _ I2 q2) fun iv s3 ⟨y, H3, I3, ry, a, ex, g⟩ => ?_) hs
  subst ex
  cases (show u = Value.ref a from rx)
  rcases g with ⟨H4, g, q⟩ | ⟨b, L, ρ, fs, xs, kx, k, z, ey, d, hl, rz, q⟩
  · exact d_setItem (by omega) I3 g ry rv fun s4 I4 => ⟨σ, H4, I4, q⟩
  · subst ey
    cases (show iv = Value.ref b from ry)
    exact dn_set hu I3 d hl rv rz fun s4 I4 dr => ⟨σ, _, I4, q _ dr⟩
end
end Mini
/-! Mini: `{}`, get and setdefault, for both kinds of dicts. -/
set_option linter.all false
namespace Mini
open PySem PySem.Spec PyProof.Rows L2
def IsN (X : Cx) (H : Hp) (a : Addr) : Prop := IsD H a ∨ ∃ xs, H a = some (HD0 X.w a xs)
theorem isN_at {X : Cx} {pins : List (Addr × Obj)} {σ : L2.St} {H : Hp} {s : Shared} {a : Addr} (I : Inv X pins σ H s) (d : IsN X H a) :
    s.TypeIs (.ref a) "dict" ∧ ∀ b, Value.ref a = .ref b → ∃ ob, s.heap.get? b = some ob ∧ ob.dict = none := by
  rcases d with d | ⟨xs, e⟩
  · obtain ⟨t1, t2, _⟩ := isD_at I d
    exact ⟨t1, t2⟩
  · obtain ⟨o, _, _, g, hx, _⟩ := raw_of I.hok e
    exact ⟨⟨o, g, hx.1⟩, fun b q => by cases q; exact ⟨o, g, hx.2.1⟩⟩
section
variable {X : Cx} {o e f : Expr} {pos apos cpos : Pos} {td ty tx : TE}
/-- `{}`, for keys that are tuples -/
def tMNew (X : Cx) : TE := fun _ H Q => ∀ p, H p = none → (p == sysModules) = false → Q (.ref p) (upd H p (HD0 X.w p []))
theorem pe_mnew : PE X (.Dict [] [] pos) (tMNew X) := ⟨fun pins s σ H Q I h => by
  refine wpAny_Dict_empty ⟨.ref s.heap.objs.size, _, I.laid (a := s.heap.objs.size) (o := HD0 X.w s.heap.objs.size []) (t' := s.toks) (fun _ _ q => Heap.get?_push_of_some _ q) (Nat.le_refl _) ?_, rfl, h _ (I.hok.fresh (Nat.le_refl _)) ?_⟩
  · exact RawD.ok (P := X.prog) (raw_new s.heap)
  · exact beq_eq_false_iff_ne.mpr (Ne.symm (Nat.ne_of_lt I.big))⟩
/-- d.get(k, x) -/
def tMGet2 (X : Cx) (td ty tx : TE) : TE := fun σ H Q => td σ H fun x H1 => ∃ a, x = .ref a ∧ IsN X H1 a ∧ ty σ H1 fun y H2 => tx σ H2 fun z H3 =>
  (∃ ov, DGet H3 a y ov ∧ Q (ov.getD z) H3) ∨ ∃ b L ρ fs xs kx k zt, y = .ref b ∧ DAt X L ρ H3 a b fs xs kx k ∧ Rep L ρ H3 zt z ∧ ∀ v, Rep L ρ H3 ((atT fs k).getD zt) v → Q v H3
theorem pe_mget2 (hu : X.A.units + 9 < cLine) (ho : PE X o td) (he : PE X e ty) (hf : PE X f tx) (m : M2 X o "get" apos e f cpos) : PE X (.Call (.Attribute o "get" apos) [e, f] [] cpos) (tMGet2 X td ty tx) := by
  refine ⟨fun pins s σ H Q I h => ?_⟩
  refine wpAny_Call_method m.base m.few m.line PySem.F.plainAttrs_dict PySem.F.slot_dict_get PySem.F.type_dict_get
    (thn (ho.run pins s σ H _ I h) fun u s1 ⟨x, H1, I1, rx, a, ex, d, q1⟩ => ?_)
  subst ex
  cases (show u = Value.ref a from rx)
  obtain ⟨t1, t2⟩ := isN_at I1 d
  refine ⟨t1, t2, ?_⟩
  rw [m.trees]
  refine Calls.callWith_builtin rfl (Calls.evalArgs_plain (Calls.spliced_cons (thn (he.run pins s1 σ H1 _ I1 q1) fun iv s2 ⟨y, H2, I2, ry, q2⟩ => Calls.spliced_cons
    (thn (hf.run pins s2 σ H2 _ I2 q2) fun fv s3 ⟨z, H3, I3, rz, q3⟩ => Calls.spliced_nil ?_))))
  rcases q3 with ⟨ov, g, q⟩ | ⟨b, L, ρ, fs, xs, kx, k, zt, ey, dd, rr, q⟩
  · exact d_get2 (by omega) I3 g ry rz fun w' s4 I4 rw' => ⟨_, H3, I4, rw', q⟩
  · subst ey
    cases (show iv = Value.ref b from ry)
    exact dn_get2 hu I3 dd rz rr fun v u s4 I4 rv rr' => ⟨v, H3, I4, rv, q v rr'⟩
/-- d.get(k) -/
def tMGet1 (X : Cx) (td ty : TE) : TE := fun σ H Q => td σ H fun x H1 => ∃ a, x = .ref a ∧ IsN X H1 a ∧ ty σ H1 fun y H2 =>
  (∃ ov, DGet H2 a y ov ∧ Q (ov.getD .non) H2) ∨ ∃ b L ρ fs xs kx k, y = .ref b ∧ DAt X L ρ H2 a b fs xs kx k ∧ ∀ v, Rep L ρ H2 ((atT fs k).getD .non) v → Q v H2
theorem pe_mget1 (hu : X.A.units + 9 < cLine) (ho : PE X o td) (he : PE X e ty) (m : M1 X o "get" apos e cpos) : PE X (.Call (.Attribute o "get" apos) [e] [] cpos) (tMGet1 X td ty) := by
  refine ⟨fun pins s σ H Q I h => ?_⟩
  refine wpAny_Call_method m.base m.few m.line PySem.F.plainAttrs_dict PySem.F.slot_dict_get PySem.F.type_dict_get
    (thn (ho.run pins s σ H _ I h) fun u s1 ⟨x, H1, I1, rx, a, ex, d, q1⟩ => ?_)
  subst ex
  cases (show u = Value.ref a from rx)
  obtain ⟨t1, t2⟩ := isN_at I1 d
  refine ⟨t1, t2, ?_⟩
  rw [m.trees]
  refine Calls.callWith_builtin rfl (Calls.evalArgs_plain (Calls.spliced_cons (thn (he.run pins s1 σ H1 _ I1 q1) fun iv s2 ⟨y, H2, I2, ry, q2⟩ => Calls.spliced_nil ?_)))
  rcases q2 with ⟨ov, g, q⟩ | ⟨b, L, ρ, fs, xs, kx, k, ey, dd, q⟩
  · exact d_get1 (by omega) I2 g ry fun w' s4 I4 rw' => ⟨_, H2, I4, rw', q⟩
  · subst ey
    cases (show iv = Value.ref b from ry)
    exact dn_get1 hu I2 dd fun v u s4 I4 rv rr' => ⟨v, H2, I4, rv, q v rr'⟩
/-- d.setdefault(k, x), a dict whose keys are tuples -/
def tMSetd (X : Cx) (td ty tx : TE) : TE := fun σ H Q => td σ H fun x H1 => ∃ a, x = .ref a ∧ IsN X H1 a ∧ ty σ H1 fun y H2 => tx σ H2 fun z H3 =>
  ∃ b L ρ fs xs kx k zt, y = .ref b ∧ DAt X L ρ H3 a b fs xs kx k ∧ xs.length < sizeLine ∧ Rep L ρ H3 zt z ∧
    (∀ w v, atT fs k = some w → Rep L ρ H3 w v → Q v H3) ∧ (atT fs k = none → ∀ xs', DRep L ρ H3 (putT fs kx k zt) xs' → Q z (upd H3 a (HD0 X.w a xs')))
theorem pe_msetd (hu : X.A.units + 9 < cLine) (ho : PE X o td) (he : PE X e ty) (hf : PE X f tx) (m : M2 X o "setdefault" apos e f cpos) : PE X (.Call (.Attribute o "setdefault" apos) [e, f] [] cpos) (tMSetd X td ty tx) := by
  refine ⟨fun pins s σ H Q I h => ?_⟩
  refine wpAny_Call_method m.base m.few m.line PySem.F.plainAttrs_dict PySem.F.slot_dict_setdefault PySem.F.type_dict_setdefault
    (thn (ho.run pins s σ H _ I h) fun u s1 ⟨x, H1, I1, rx, a, ex, d, q1⟩ => ?_)
  subst ex
  cases (show u = Value.ref a from rx)
  obtain ⟨t1, t2⟩ := isN_at I1 d
  refine ⟨t1, t2, ?_⟩
  rw [m.trees]
  refine Calls.callWith_builtin rfl (Calls.evalArgs_plain (Calls.spliced_cons (thn (he.run pins s1 σ H1 _ I1 q1) fun iv s2 ⟨y, H2, I2, ry, q2⟩ => Calls.spliced_cons
    (thn (hf.run pins s2 σ H2 _ I2 q2) fun fv s3 ⟨z, H3, I3, rz, b, L, ρ, fs, xs, kx, k, zt, ey, dd, hl, rr, q3, q4⟩ => Calls.spliced_nil ?_))))
  subst ey
  cases (show iv = Value.ref b from ry)
  exact dn_setd hu I3 dd hl rz rr (fun w v u s4 hw I4 rv rr' => ⟨v, H3, I4, rv, q3 w v hw rr'⟩) fun s4 hn I4 dr => ⟨z, _, I4, rz, q4 hn _ dr⟩
end
end Mini
/-! Mini: more rules over the hand layer. -/
set_option linter.all false
set_option maxRecDepth 10000
namespace Mini
open PySem PySem.Spec PyProof.Rows L2
section
variable {X : Cx}
/-- xs + ys, lists of any kind -/
def rCatW (K : PySem.W.Frag) : R2 := fun x y H Q => ∃ l b xs zs, x = .ref l ∧ y = .ref b ∧ SqL K H l xs ∧ SqL K H b zs ∧ xs.length + zs.length ≤ sizeLine ∧ ∀ p, H p = none → Q (.ref p) (upd H p (.lst (xs ++ zs)))
theorem op_catW : OpR X (binaryOp .Add) (rCatW X.K) := by
  intro pins s σ H x y v u Q I rx ry h
  obtain ⟨l, b, xs, zs, rfl, rfl, hH, hB, hz, q⟩ := h
  cases rx
  cases ry
  obtain ⟨its, r, ⟨⟨cls, dd, data, sl⟩, n, e, hc, hd, hdt⟩, z⟩ := I.list hH
  obtain ⟨its2, r2, ⟨⟨cls2, dd2, data2, sl2⟩, n2, e2, hc2, hd2, hdt2⟩, z2⟩ := I.list hB
  simp only at hc hd hdt hc2 hd2 hdt2
  subst hc hd hdt hc2 hd2 hdt2
  have l1 := r.length
  have l2 := r2.length
  refine concat_meets ⟨_, e, rfl⟩ ⟨_, e2, rfl⟩ noFill_list_add seq_list_add PySem.F.slot_list_add PySem.F.entry_list_add (PySem.F.args_list_add_2 _ _)
    (list_addW l b its.toArray its2.toArray n n2 none none sl sl2 (by rw [List.size_toArray, List.size_toArray]; omega)) ⟨e, e2, ?_⟩
  have ea : its.toArray ++ its2.toArray = (its ++ its2).toArray := by simp
  rw [ea]
  exact ⟨.ref _, _, I.lnew (t' := s.toks) (r.append r2) (by rw [List.length_append]; omega), rfl, q _ I.fresh⟩
end
end Mini
namespace Mini
open PySem PySem.Spec PyProof.Rows L2
theorem tuple_mul1 (l : Addr) (items : Array Value) (n : Nat) (dd : Option Addr) (sl : Array (Option Value)) (x : Int) (u : Tok) (c0 : (decide (x < -(2 ^ 63)) || decide (x ≥ 2 ^ 63)) = false) (c1 : (items.isEmpty || x == 1) = true) :
    Meets (Builtin.«tuple.__mul__» ⟨[.ref l, .int x u], []⟩) (fun _ R s => s.heap.get? l = some { cls := .type "tuple", dict := dd, data := .seq items n, slots := sl } ∧
      R (.ok (.ret (Value.ref l))) s) :=
  .of_wp fun prog w A R s h => by
    obtain ⟨hp, g, d, tk, os⟩ := s
    obtain ⟨hl, h⟩ := h
    have f1 := AutoSeq1.idx_int
    wp_walk using wpAny_loadPart' hl
    repeat (first
      | (refine wpAny_ite_false (decide_eq_false (by rw [c0]; exact Bool.false_ne_true)) ?_; wp_walk using wpAny_loadPart' hl)
      | (refine wpAny_ite_true (decide_eq_true c1) ?_; wp_walk using wpAny_loadPart' hl))
    exact ⟨_, rfl, h⟩
theorem tuple_mul0 (l : Addr) (items : Array Value) (n : Nat) (dd : Option Addr) (sl : Array (Option Value)) (x : Int) (u : Tok) (c0 : (decide (x < -(2 ^ 63)) || decide (x ≥ 2 ^ 63)) = false) (c1 : (items.isEmpty || x == 1) = false) (c2 : (decide (x ≤ 0) || items.isEmpty) = true) :
    Meets (Builtin.«tuple.__mul__» ⟨[.ref l, .int x u], []⟩) (fun _ R s => s.heap.get? l = some { cls := .type "tuple", dict := dd, data := .seq items n, slots := sl } ∧
      R (.ok (.ret (Value.ref s.heap.objs.size))) { s with heap := s.heap.push { cls := Value.type "tuple", data := Data.seq #[] }, toks := s.toks }) :=
  .of_wp fun prog w A R s h => by
    obtain ⟨hp, g, d, tk, os⟩ := s
    obtain ⟨hl, h⟩ := h
    have f1 := AutoSeq1.idx_int
    wp_walk using wpAny_loadPart' hl
    repeat (first
      | (refine wpAny_ite_false (decide_eq_false (by rw [c0]; exact Bool.false_ne_true)) ?_; wp_walk using wpAny_loadPart' hl)
      | (refine wpAny_ite_false (decide_eq_false (by rw [c1]; exact Bool.false_ne_true)) ?_; wp_walk using wpAny_loadPart' hl)
      | (refine wpAny_ite_true (decide_eq_true c2) ?_; wp_walk using wpAny_loadPart' hl))
    exact ⟨_, rfl, h⟩
section
variable {X : Cx}
/-- t * k, small -/
def rRepA (K : PySem.W.Frag) : R2 := fun x y H Q => ∃ l k xs, x = .ref l ∧ y = .int k ∧ SqT K H l xs ∧ 0 ≤ k ∧ k ≤ 1000 ∧ xs.length ≤ 1000 ∧
  (xs = [] ∨ k = 1 → Q (.ref l) H) ∧ (¬ (xs = [] ∨ k = 1) → ∀ p, H p = none → Q (.ref p) (upd H p (.tup (List.replicate k.toNat xs).flatten)))
theorem op_repA : OpR X (binaryOp .Mult) (rRepA X.K) := by
  intro pins s σ H x y v u Q I rx ry h
  obtain ⟨l, k, xs, rfl, rfl, hT, h1, h2, hz, q1, q2⟩ := h
  by_cases hk : xs ≠ [] ∧ 2 ≤ k
  · exact op_repT pins s σ H _ _ v u Q I rx ry ⟨l, k, xs, rfl, rfl, hT, hk.1, hk.2, h2, hz, q2 (by rintro (e | e); exact hk.1 e; omega)⟩
  · cases rx
    obtain ⟨t, rfl⟩ := ry
    obtain ⟨its, r, ⟨⟨cls, dd, data, sl⟩, ho, hc, n, hd⟩, hs⟩ := I.tuple hT
    simp only at hc hd
    subst hc hd
    have hle : its.length = xs.length := r.length.symm
    have c0 : (decide (k < -(2 ^ 63)) || decide (k ≥ 2 ^ 63)) = false := by
      rw [decide_eq_false (by omega), decide_eq_false (by omega)] <;> rfl
    by_cases hx : xs = [] ∨ k = 1
    · have c1 : (its.toArray.isEmpty || k == 1) = true := by
        rcases hx with rfl | rfl
        · cases r
          rfl
        · simp
      exact wpAny_binaryOp_repeat_ref (T := "tuple") (U := "int") (by decide) ⟨_, ho, rfl⟩ (fun s' => typeIs_int s' k t) noFill_tuple_mul PySem.F.fills_int_mul PySem.F.slot_int_rmul repeat_tuple PySem.F.slot_int_index.lookup
        (call_meets PySem.F.slot_int_rmul (typeIs_int s k t) PySem.F.entry_int_rmul (PySem.F.args_int_rmul_2 _ _) (int_rmul_tuple k t l its.toArray n dd sl)
          ⟨ho, rfl, ⟨_, ho, rfl⟩, call_meets PySem.F.slot_tuple_mul ⟨_, ho, rfl⟩ PySem.F.entry_tuple_mul (PySem.F.args_tuple_mul_2 _ _) (tuple_mul1 l its.toArray n dd sl k t c0 c1) ⟨ho, ⟨.ref l, H, I, rfl, q1 hx⟩⟩⟩)
    · have hne : xs ≠ [] := fun e => hx (.inl e)
      have hk0 : k = 0 := by
        have : ¬ 2 ≤ k := fun e => hk ⟨hne, e⟩
        have : k ≠ 1 := fun e => hx (.inr e)
        omega
      subst hk0
      have hi : its.toArray.isEmpty = false := by
        cases its with
        | nil => simp at hle; exact absurd (List.eq_nil_of_length_eq_zero hle.symm) hne
        | cons a b => rfl
      have c1 : (its.toArray.isEmpty || (0 : Int) == 1) = false := by rw [hi]; rfl
      have c2 : (decide ((0 : Int) ≤ 0) || its.toArray.isEmpty) = true := by rw [hi]; rfl
      refine wpAny_binaryOp_repeat_ref (T := "tuple") (U := "int") (by decide) ⟨_, ho, rfl⟩ (fun s' => typeIs_int s' 0 t) noFill_tuple_mul PySem.F.fills_int_mul PySem.F.slot_int_rmul repeat_tuple PySem.F.slot_int_index.lookup
        (call_meets PySem.F.slot_int_rmul (typeIs_int s 0 t) PySem.F.entry_int_rmul (PySem.F.args_int_rmul_2 _ _) (int_rmul_tuple 0 t l its.toArray n dd sl)
          ⟨ho, rfl, ⟨_, ho, rfl⟩, call_meets PySem.F.slot_tuple_mul ⟨_, ho, rfl⟩ PySem.F.entry_tuple_mul (PySem.F.args_tuple_mul_2 _ _) (tuple_mul0 l its.toArray n dd sl 0 t c0 c1 c2) ⟨ho, ?_⟩⟩)
      have e0 : (List.replicate (0 : Int).toNat xs).flatten = [] := rfl
      have q := q2 hx s.heap.objs.size (I.hok.fresh (Nat.le_refl _))
      rw [e0] at q
      exact ⟨.ref s.heap.objs.size, _, I.laid (t' := s.toks) (o := .tup []) (fun b ob q => Heap.get?_push_of_some _ q) (Nat.le_refl _) ⟨Nat.zero_le _, [], .nil, IsTup.new _ _⟩, rfl, q⟩
end
/-! ### t[::-1] -/
section
open HT
variable {prog : Program} {w : World} {A : Around} {E : Value → Shared → Prop} {s : Shared}
theorem sliceApplied_rev {sl : Addr} {vl vu : Value} {t : Tok} {n : Nat} {Q : Int × Int × Nat → Shared → Prop} (hs : s.heap.IsSliceOf sl vl vu (.int (-1) t)) (pl : IsPart vl none) (pu : IsPart vu none)
    (h : Q ((n : Int) - 1, -1, n) s) : wpAny (model prog w) A (Builtin.Slice.sliceApplied (.ref sl) (pure (n : Int))) Q E s := by
  obtain ⟨os, hos, hcs, hds⟩ := id hs
  unfold Builtin.Slice.sliceApplied Builtin.Slice.sliceFields
  refine wpAny_bind (wpAny_bind (wpAny_field hos hds (x := vl) rfl (wpAny_bind (wpAny_field hos hds (x := vu) rfl (wpAny_bind (wpAny_field hos hds (x := .int (-1) t) rfl (wpAny_pure ?_)))))))
  refine wpAny_bind (slicePart_int ?_)
  show wpAny _ _ (if ((-1 : Int) == 0) = true then _ else _) _ _ s
  rw [if_neg (by decide)]
  refine wpAny_bind (slicePart_ pl (wpAny_bind (slicePart_ pu (wpAny_bind (wpAny_pure ?_)))))
  show wpAny _ _ (match Builtin.Slice.sliceAdjust none none (-1) (n : Int) with | (lo, hi) => pure (lo, (-1 : Int), Builtin.Slice.slicePlaces lo hi (-1))) _ _ s
  have e1 : Builtin.Slice.sliceAdjust none none (-1) (n : Int) = ((n : Int) - 1, -1) := by
    unfold Builtin.Slice.sliceAdjust
    simp only [show ((-1 : Int) < 0) by decide, if_true] <;> rfl
  have e2 : Builtin.Slice.slicePlaces ((n : Int) - 1) (-1) (-1) = n := by
    unfold Builtin.Slice.slicePlaces
    simp only [show ¬ ((-1 : Int) > 0) by decide, if_false]
    split <;> simp <;> omega
  rw [e1]
  show wpAny _ _ (pure ((n : Int) - 1, (-1 : Int), Builtin.Slice.slicePlaces ((n : Int) - 1) (-1) (-1))) _ _ s
  rw [e2]
  exact wpAny_pure h
theorem pick_rev (xs : Array Value) : ((List.range xs.size).filterMap fun (m : Nat) => xs[(((xs.size : Int) - 1) + (m : Int) * (-1)).toNat]?).toArray = xs.toList.reverse.toArray := by
  have e : (List.range xs.size).filterMap (fun (m : Nat) => xs[(((xs.size : Int) - 1) + (m : Int) * (-1)).toNat]?) = (List.range xs.size).filterMap (fun m => xs[xs.size - 1 - m]?) := by
    congr 1
    funext m
    have : (((xs.size : Int) - 1) + (m : Int) * (-1)).toNat = xs.size - 1 - m := by omega
    rw [this]
  rw [e]
  have e2 : (List.range xs.size).filterMap (fun m => xs[xs.size - 1 - m]?) = ((List.range xs.size).map fun k => xs.size - 1 - k).filterMap (xs[·]?) := by
    rw [List.filterMap_map]; rfl
  rw [e2, PySem.W.krv_range, List.filterMap_reverse, PySem.W.krv_all]
theorem getItem_tuple_rev {t sl : Addr} {items : Array Value} {vl vu : Value} {tk : Tok} {Q : Value → Shared → Prop} (ht : IsTup s.heap t items) (hs : s.heap.IsSliceOf sl vl vu (.int (-1) tk)) (pl : IsPart vl none) (pu : IsPart vu none)
    (h : Q (.ref s.heap.objs.size) { s with heap := s.heap.push { cls := .type "tuple", data := .seq items.toList.reverse.toArray } })
    (hsz : items.size ≤ sizeLine) : wpAny (model prog w) A (getItem (.ref t) (.ref sl)) Q E s := by
  obtain ⟨os, hos, hcs, hds⟩ := id hs
  have hTs : s.TypeIs (.ref sl) "slice" := ⟨os, hos, hcs⟩
  unfold getItem
  try with_reducible refine wpAny_holding ?_
  first | refine wpAny_bind (wpAny_pure ?_) | skip
  refine wpAny_bind (wpAny_sequenceKey ht.typeIs (by decide) ?_)
  refine wpAny_bind (wpAny_callSpecial?_slot (name := Str.ofString "__getitem__") ht.typeIs PyProof.Rows.slot_tuple_getitem
    (wpAny_call_entry PyProof.Rows.slot_tuple_getitem ht.typeIs entry_tuple_getitem ?_ (args_tuple_getitem _ _)))
  show wpAny _ _ (Builtin.Tuple.tupleItemsOf (.ref t) >>= _) _ _ s
  refine wpAny_bind (tupleItemsOf_ ht ?_)
  refine wpAny_bind (wpAny_typeOf hTs ?_)
  rw [if_pos (by decide)]
  refine wpAny_bind (sliceApplied_rev hs pl pu ?_)
  have hno : ¬ ((((items.size : Int) - 1) == 0 && (-1 : Int) == 1 && items.size == items.size) = true) := by
    intro q
    rw [Bool.and_eq_true, Bool.and_eq_true] at q
    exact absurd q.1.2 (by decide)
  show wpAny _ _ (if (((items.size : Int) - 1) == 0 && (-1 : Int) == 1 && items.size == items.size) = true then _ else _) _ _ s
  rw [if_neg hno, pick_rev]
  have htake : sizeOk (.seq items.toList.reverse.toArray) := by
    show items.toList.reverse.toArray.size ≤ sizeLine
    rw [List.size_toArray, List.length_reverse, Array.length_toList]
    exact hsz
  first
    | exact wpAny_bind (m := Builtin.Tuple.tupleExact _) (wpAny_newObj_type (wpAny_pure ⟨_, rfl, wpAny_pure h⟩) htake)
    | exact wpAny_bind (m := Builtin.Tuple.tupleExact _) (wpAny_newObj_type (wpAny_bind (wpAny_pure (wpAny_pure ⟨_, rfl, wpAny_pure h⟩))) htake)
    | exact wpAny_bind (wpAny_bind (m := Builtin.Tuple.tupleExact _) (wpAny_newObj_type (wpAny_pure (wpAny_pure ⟨_, rfl, wpAny_pure h⟩)) htake))
    | exact wpAny_bind (wpAny_bind (m := Builtin.Tuple.tupleExact _) (wpAny_newObj_type (wpAny_pure ⟨_, rfl, wpAny_pure h⟩) htake))
end
section
variable {X : Cx}
def tRevA (K : PySem.W.Frag) (te : TE) : TE := fun σ H Q => te σ H fun x H1 => ∃ a xs, x = .ref a ∧ ((SqL K H1 a xs ∧ ∀ p, H1 p = none → Q (.ref p) (upd H1 p (.lst xs.reverse))) ∨ (SqT K H1 a xs ∧ ∀ p, H1 p = none → Q (.ref p) (upd H1 p (.tup xs.reverse))))
theorem pe_revA {e : Expr} {te : TE} {k : Nat} {p1 p2 p3 pos : Pos} (he : PE X e te) : PE X (.Subscript e (.Slice none none (some (.UnaryOp .USub (.Constant (.int 1) k p1) p2)) p3) pos) (tRevA X.K te) := by
  refine ⟨fun pins s σ H Q I h => ?_⟩
  refine Subscript_ (thn (he.run pins s σ H _ I h) fun v s1 ⟨x, H1, I1, r1, q1⟩ => ?_)
  obtain ⟨a, xs, ex, hx⟩ := q1
  subst ex
  cases r1
  have hst : PO X (some (.UnaryOp .USub (.Constant (.int 1) k p1) p2)) (tPart (tUn (rU fun i => .int (-i)) (tC (.int 1)))) := po_some (pe_un un_neg pe_int)
  refine wpAny_Slice (thn (po_none.run pins s1 σ H1 (fun o H2 => o = none ∧ H2 = H1) I1 ⟨rfl, rfl⟩) fun vl s2 ⟨l, H2, I2, pl, el, e2⟩ => ?_)
  subst el e2
  refine thn (po_none.run pins s2 σ H2 (fun o H3 => o = none ∧ H3 = H2) I2 ⟨rfl, rfl⟩) fun vu s3 ⟨u, H3, I3, pu, eu, e3⟩ => ?_
  subst eu e3
  refine thn (hst.run pins s3 σ H3 (fun o H4 => o = some (-1) ∧ H4 = H3) I3 ⟨1, rfl, -1, rfl, rfl, rfl⟩) fun vs s4 ⟨o, H4, I4, ps, eo, e4⟩ => ?_
  subst eo e4
  have I5 : Inv X pins σ H4 { s4 with heap := s4.heap.push { cls := .type "slice", data := .fields #[vl, vu, vs] } } := I4.kept (t' := s4.toks) fun b ob q => Heap.get?_push_of_some _ q
  show wpAny (model X.prog X.w) X.A (subscriptTail e (.Slice none none (some (.UnaryOp .USub (.Constant (.int 1) k p1) p2)) p3) (.ref a) (.ref s4.heap.objs.size)) (EP X pins σ Q) X.xe { s4 with heap := s4.heap.push { cls := .type "slice", data := .fields #[vl, vu, vs] } }
  rcases hx with ⟨hx, q⟩ | ⟨hx, q⟩
  · obtain ⟨its, r, ht, hz⟩ := I5.list hx
    have hlen := r.length
    refine tail_any (ops := [.ref a, .ref s4.heap.objs.size]) ht.isList.typeIs (PySem.slot_list_getitem.lookup) ?_ (by with_unfolding_all rfl)
    refine wpAny_getItem_list_slice ht.isList (Heap.IsSliceOf.new _ vl vu vs) pl pu ps (by decide) ?_ (by rw [List.size_toArray]; omega)
    rw [PySem.W.krv_pick]
    refine ⟨.ref _, _, I5.laid (t' := s4.toks) (o := .lst xs.reverse) (fun b ob q => Heap.get?_push_of_some _ q) (Nat.le_refl _) ?_, rfl, q _ (I5.hok.fresh (Nat.le_refl _))⟩
    exact ⟨by rw [List.length_reverse]; exact hz, _, 0, r.reverse, Heap.get?_push_size _ rfl⟩
  · obtain ⟨its, r, ht, hz⟩ := I5.tuple hx
    have hlen := r.length
    cases ps with
    | int i t =>
      refine tail_any (ops := [.ref a, .ref s4.heap.objs.size]) ht.typeIs (PyProof.Rows.slot_tuple_getitem.lookup) ?_ (by with_unfolding_all rfl)
      refine getItem_tuple_rev ht (Heap.IsSliceOf.new _ vl vu _) pl pu ?_ (by rw [List.size_toArray]; omega)
      refine ⟨.ref _, _, I5.laid (t' := s4.toks) (o := .tup xs.reverse) (fun b ob q => Heap.get?_push_of_some _ q) (Nat.le_refl _) ?_, rfl, q _ (I5.hok.fresh (Nat.le_refl _))⟩
      exact ⟨by rw [List.length_reverse]; exact hz, _, r.reverse, IsTup.new _ _⟩
/-! ### x in data -/
def rInK (K : PySem.W.Frag) (neg : Bool) : R2 := fun x y H Q => ∃ d ds, Dp K H x d ∧ (Dp K H y (.list ds) ∨ Dp K H y (.tuple ds)) ∧ SeqAt.shaped d = true ∧ SeqAt.shaped (.list ds) = true ∧ Q (.bl (if neg then !ds.any fun z => PyData.eqv z d else ds.any fun z => PyData.eqv z d)) H
theorem shaped_tl {ds : List PyData} (h : SeqAt.shaped (.list ds) = true) : PyData.canLayAll0 ds = true := SeqAt.canLay_of_shaped h
theorem op_inK (hu : X.A.units + 65 < cLine) : OpR X (compareOp .In) (rInK X.K false) := by
  intro pins s σ H x y v u Q I rx ry h
  obtain ⟨d, ds, hd, he, sd, se, q⟩ := h
  obtain ⟨as, r1⟩ := Dp.reads I d x v hd rx
  rcases he with he | he
  · obtain ⟨bs, r2⟩ := Dp.reads I (.list ds) y u he ry
    exact SeqAt.in_list_reads r2 r1 (shaped_tl se) (SeqAt.canLay_of_shaped sd) (PyProof.Rows.room_in_shaped sd hu) ⟨.bl _, H, I, rfl, q⟩
  · obtain ⟨bs, r2⟩ := Dp.reads I (.tuple ds) y u he ry
    exact SeqAt.in_tuple_reads r2 r1 (shaped_tl se) (SeqAt.canLay_of_shaped sd) (PyProof.Rows.room_in_shaped sd hu) ⟨.bl _, H, I, rfl, q⟩
theorem op_notInK (hu : X.A.units + 65 < cLine) : OpR X (compareOp .NotIn) (rInK X.K true) := by
  intro pins s σ H x y v u Q I rx ry h
  obtain ⟨d, ds, hd, he, sd, se, q⟩ := h
  obtain ⟨as, r1⟩ := Dp.reads I d x v hd rx
  rcases he with he | he
  · obtain ⟨bs, r2⟩ := Dp.reads I (.list ds) y u he ry
    exact SeqAt.notIn_list_reads r2 r1 (shaped_tl se) (SeqAt.canLay_of_shaped sd) (PyProof.Rows.room_in_shaped sd hu) ⟨.bl _, H, I, rfl, q⟩
  · obtain ⟨bs, r2⟩ := Dp.reads I (.tuple ds) y u he ry
    exact SeqAt.notIn_tuple_reads r2 r1 (shaped_tl se) (SeqAt.canLay_of_shaped sd) (PyProof.Rows.room_in_shaped sd hu) ⟨.bl _, H, I, rfl, q⟩
end
end Mini
/-! Mini: what is walked: lists and tuples alike, enumerate and zip of both. -/
set_option linter.all false
set_option maxRecDepth 10000
namespace Mini
open PySem PySem.Spec PyProof.Rows L2
/-- a list (true), a tuple (false) at a -/
def SqK (K : PySem.W.Frag) (k : Bool) (H : Hp) (a : Addr) (xs : List V) : Prop := if k then SqL K H a xs else SqT K H a xs
def itAt (k : Bool) (h : Heap) (it a : Addr) (i : Nat) : Prop := if k then h.IsListIter it a i else h.IsTupleIter it a i
def sqAt (k : Bool) (h : Heap) (a : Addr) (items : Array Value) : Prop := if k then h.IsList a items else h.IsTuple a items
def itO (k : Bool) (a : Addr) : Obj := if k then { cls := .type "list_iterator", data := .fields #[.ref a, .int 0 0] } else { cls := .type "tuple_iterator", data := .fields #[.ref a, .int 0 0] }
theorem drawsK {prog : Program} {w : World} {A : Around} (hh : A.handled = none) (k : Bool) (it a : Addr) (hne : a ≠ it) (items : Array Value) :
    Draws prog w A it [it, a] items.size (fun i v => items[i]? = some v) (fun i h => itAt k h it a i ∧ sqAt k h a items) := by
  cases k with
  | true => exact Draws.list hh it a hne items
  | false => exact Draws.tuple hh it a hne items
theorem beginsK (k : Bool) (a : Addr) (items : Array Value) : Begins (.ref a) (itO k a) fun h => sqAt k h a items := by
  cases k with
  | true => exact begins_list a items
  | false => exact begins_tuple a items
theorem itAt.at {k : Bool} {h h' : Heap} {it a : Addr} {i : Nat} (x : itAt k h it a i) (e : ∀ o, h.get? it = some o → h'.get? it = some o) : itAt k h' it a i := by
  cases k with
  | true => exact Heap.IsListIter.at (h := h) x e
  | false => exact Heap.IsTupleIter.at (h := h) x e
theorem itAt.obj {k : Bool} {h : Heap} {it a : Addr} {i : Nat} (x : itAt k h it a i) : ∃ o, h.get? it = some o ∧ ∀ v, o.data ≠ .cell v := by
  cases k with
  | true =>
    obtain ⟨o, e, c, d⟩ := (show h.IsListIter it a i from x)
    exact ⟨o, e, fun v z => by rw [d] at z; cases z⟩
  | false =>
    obtain ⟨o, e, c, d⟩ := (show h.IsTupleIter it a i from x)
    exact ⟨o, e, fun v z => by rw [d] at z; cases z⟩
theorem itAt.new {k : Bool} {h : Heap} {it a : Addr} (e : h.get? it = some (itO k a)) : itAt k h it a 0 := by
  cases k with
  | true => exact ⟨_, e, rfl, rfl⟩
  | false => exact ⟨_, e, rfl, rfl⟩
section
variable {X : Cx} {pins : List (Addr × Obj)} {σ : L2.St} {H : Hp} {s : Shared} {k : Bool} {a : Addr} {xs ys : List V}
theorem sqK (I : Inv X pins σ H s) (h : SqK X.K k H a xs) : ∃ its : List Value, Vals xs its ∧ sqAt k s.heap a its.toArray ∧ xs.length ≤ sizeLine ∧ a < s.heap.objs.size := by
  cases k with
  | true =>
    obtain ⟨its, r, p, z⟩ := I.list (show SqL X.K H a xs from h)
    exact ⟨its, r, p.isList, z, p.lt⟩
  | false =>
    obtain ⟨its, r, p, z⟩ := I.tuple (show SqT X.K H a xs from h)
    exact ⟨its, r, p, z, p.lt⟩
theorem sqK_inj (I : Inv X pins σ H s) (h : SqK X.K k H a xs) (h' : SqK X.K k H a ys) : xs = ys := by
  cases k with
  | true => exact I.list_inj (show SqL X.K H a xs from h) h'
  | false => exact I.tuple_inj (show SqT X.K H a xs from h) h'
end
/-! ### enumerate -/
def IteK (K : PySem.W.Frag) (k : Bool) (a : Addr) : It :=
  ⟨fun i H => ∃ (xs : List V) (x : V), SqK K k H a xs ∧ xs[i]? = some x, fun i H v H' => ∃ T x, v = .ref T ∧ H T = none ∧ H' = upd H T (.tup [.int (i : Nat), x]) ∧ ∀ xs, SqK K k H a xs → xs[i]? = some x, fun i H => ∃ xs : List V, SqK K k H a xs ∧ xs.length = i⟩
theorem turn_enumK {P : Program} {w : World} {K : PySem.W.Frag} {elts : List Expr} {kk : Nat} {tpos : Pos} (k : Bool) (a e it : Addr) (nea : a ≠ e) (nia : a ≠ it) (nei : e ≠ it) :
    Turn P w K (.Tuple elts kk tpos) (IteK K k a) [e, it] e (fun i h => (∃ old, IsEnum h e it ((i : Nat) : Int) old) ∧ itAt k h it a i) where
  mem := by simp
  obj := fun i h st b hb => by
    obtain ⟨⟨old, he⟩, ho⟩ := st
    have e' : b = e ∨ b = it := by simpa using hb
    rcases e' with z | z
    · rw [z]; exact ⟨_, he, fun v q => nomatch q⟩
    · rw [z]; exact ho.obj
  keep := fun i h h' st q => let ⟨⟨old, he⟩, hi⟩ := st; ⟨⟨old, q e (by simp) _ he⟩, hi.at fun o z => q it (by simp) o z⟩
  item := by
    intro X hP hw hK hc i pins s σ H E I hf st hg
    subst hP hw hK
    obtain ⟨⟨old, he⟩, hit⟩ := st
    obtain ⟨xs, x, hq, hx⟩ := hg
    obtain ⟨its, rv, p, hz, hal⟩ := sqK I hq
    have hlen := rv.length
    have hlt : i < its.toArray.size := by
      have := (List.getElem?_eq_some_iff.mp hx).1
      rw [List.size_toArray]; omega
    obtain ⟨u, hu, ru⟩ := rv.get hx
    have hel : e < s.heap.objs.size := Heap.lt_size he
    have hil : it < s.heap.objs.size := by obtain ⟨_, q, _⟩ := hit.obj; exact Heap.lt_size q
    refine wpAny_pyNext_enum_itemC (drawsK (A := X.A.in1) (I.ok.hd hc) k it a nia its.toArray) he ⟨hit, p⟩ hlt nei (by simp; exact ⟨nei, nea.symm⟩) fun y h' tk hy ho st' hT hsz hk => ?_
    have ey : y = u := by
      have e1 : its[i]? = some y := by simpa using hy
      rw [hu] at e1; exact (Option.some.inj e1).symm
    subst ey
    refine ⟨_, rfl, wpAny_letOwnedTupleGo_enum (s := { s with heap := h', toks := tk + 1 }) ho fun h'' he' sb => ?_⟩
    have hT2 : h''.get? s.heap.objs.size = some { cls := .type "tuple", data := .seq #[.int i tk, y] } := (sb.2 _ (Nat.ne_of_gt hel)).trans hT
    have new : ObjOk X.prog X.w (upd H s.heap.objs.size (.tup [.int (i : Nat), x])) h'' s.heap.objs.size (.tup [.int (i : Nat), x]) :=
      ⟨by show 2 ≤ sizeLine; decide, [.int i tk, y], .cons ⟨_, rfl⟩ (.cons ru .nil), ⟨_, hT2, rfl, _, rfl⟩⟩
    have I1 : Inv X pins σ (upd H s.heap.objs.size (.tup [.int (i : Nat), x])) { s with heap := h'', toks := tk + 1 } :=
      I.turnedNew (ch := [e, it]) (fun b ob hb q => (sb.2 b (fun z => hb (by simp [z]))).trans (hk b ob (fun z => hb (by simp [z])) (fun z => hb (by simp [z])) q)) hf (Nat.le_refl _) new
    refine ⟨.ref s.heap.objs.size, _, I1, rfl, ⟨_, x, rfl, I.hok.fresh (Nat.le_refl _), rfl, fun ys hy => by rw [sqK_inj I hy hq]; exact hx⟩, ⟨⟨y, ?_⟩, st'.1.at fun o q => (sb.2 it (Ne.symm nei)).trans q⟩, fun b hb => ?_⟩
    · have e1 : ((i + 1 : Nat) : Int) = (i : Int) + 1 := by omega
      rw [e1]; exact he'
    · have hb' : b < s.heap.objs.size := by
        have e' : b = e ∨ b = it := by simpa using hb
        rcases e' with z | z
        · rw [z]; exact hel
        · rw [z]; exact hil
      rw [upd_ne (Nat.ne_of_lt hb')]
      exact (hf b hb).1
  done := by
    intro X hP hw hK hc i pins s σ H E I hf st hg
    subst hP hw hK
    obtain ⟨⟨old, he⟩, hit⟩ := st
    obtain ⟨xs, hq, hx⟩ := hg
    obtain ⟨its, rv, p, hz, hal⟩ := sqK I hq
    obtain ⟨f0, f1, f2, f3, f4, f5⟩ := hf it (by simp)
    have hl := rv.length
    have hn : i = its.toArray.size := by rw [List.size_toArray]; omega
    exact wpAny_pyNext_enum_endD (drawsK (A := X.A.in1) (I.ok.hd hc) k it a nia its.toArray) he (by rw [← hn]; exact ⟨hit, p⟩) fun h' eb => ⟨rfl, I.turned (t' := s.toks) (fun b o hb q => eb b o hb q) f0 f1 f3 f4 f5⟩
  self := fun A i s Q E st h => let ⟨⟨_, he⟩, _⟩ := st; wpAny_pyIter_enum he h
theorem new1 {h : Heap} {o : Obj} (f : o.isFreed = false) : (h.push o).get? h.objs.size = some o := Heap.get?_push_size _ f
def iEnumK (K : PySem.W.Frag) (ta : TA) : TI := fun σ H R => ta σ H fun vs H1 => ∃ k a xs, vs = [.ref a] ∧ SqK K k H1 a xs ∧ R (IteK K k a) H1
set_option maxHeartbeats 1000000 in
theorem meets_enum_new1 {v : Value} {o : Obj} {H : Heap → Prop} (B : Begins v o H) :
    Meets (Builtin.«enumerate.__new__» ⟨[.type "enumerate", v], []⟩) (fun _ R s => H s.heap ∧
      R (.ok (.ret (.ref (s.heap.push o).objs.size))) { s with heap := (s.heap.push o).push { cls := .type "enumerate", data := .fields #[.none, .bool false, .ref s.heap.objs.size, rawInt 0, .none, .none] } }) :=
  .of_wp fun prog w A R s h => by
    obtain ⟨hp, g, d, tk, os⟩ := s; obtain ⟨h1, h⟩ := h
    have hsub := sub_enumerate
    have q1 : ∀ {A' : Around} {E : Value → Shared → Prop} {Q : Value → Shared → Prop}, Q (.ref hp.objs.size) ⟨hp.push o, g, d, tk, os⟩ → wpAny (model prog w) A' (pyIter v) Q E ⟨hp, g, d, tk, os⟩ :=
      fun q => B.iter prog w _ _ ⟨hp, g, d, tk, os⟩ _ h1 q
    wp_walk using q1
    refine wpAny_stack_any fun st => wpAny_pure ?_
    split
    · rename_i c _ _ _ _ _
      cases (c == Value.type "enumerate")
      · wp_walk using q1
        exact ⟨_, rfl, h⟩
      · wp_walk using q1
        exact ⟨_, rfl, h⟩
    · wp_walk using q1
      exact ⟨_, rfl, h⟩
theorem call_enum1 {prog : Program} {w : World} {A : Around} {E : Value → Shared → Prop} {s : Shared} {k : Bool} {a : Addr} {items : Array Value} {Q : Value → Shared → Prop} (h1 : sqAt k s.heap a items)
    (h : ∀ h', IsEnum h' (s.heap.objs.size + 1) s.heap.objs.size 0 .none → itAt k h' s.heap.objs.size a 0 →
      (∀ b o, s.heap.get? b = some o → h'.get? b = some o) → Q (.ref (s.heap.objs.size + 1)) { s with heap := h' }) :
    wpAny (model prog w) A (call (.type "enumerate") [.ref a]) Q E s := by
  have B := beginsK k a items
  refine callType_new PySem.F.called_enumerate (by decide) (PySem.F.typeCall_enumerate_1 _) (PySem.F.newCall_enumerate_1 _) (fun obj => PySem.F.args_object_init_2 obj _) PySem.F.entry_enumerate_new
    (meets_enum_new1 B) ⟨h1, ?_⟩
  have hz : (s.heap.push (itO k a)).objs.size = s.heap.objs.size + 1 := Heap.size_push ..
  show _ ∧ _
  rw [hz]
  have he : IsEnum ((s.heap.push (itO k a)).push { cls := .type "enumerate", data := .fields #[.none, .bool false, .ref s.heap.objs.size, rawInt 0, .none, .none] }) (s.heap.objs.size + 1) s.heap.objs.size 0 .none := by
    have := Heap.get?_push_size (s.heap.push (itO k a)) (o := { cls := .type "enumerate", data := .fields #[.none, .bool false, .ref s.heap.objs.size, rawInt 0, .none, .none] }) rfl
    rw [hz] at this; exact this
  exact ⟨⟨_, he, rfl⟩, h _ he (itAt.new (Heap.get?_push_of_some _ (Heap.get?_push_size _ B.free))) fun b o x => Heap.get?_push_of_some _ (Heap.get?_push_of_some _ x)⟩
theorem pi_enumK {X : Cx} {e : Expr} {ta : TA} {p pos tpos : Pos} {elts : List Expr} {kk : Nat} (hg : Gl X "enumerate") (hm : X.mg "enumerate" = none) (ha : PA X [e] ta) (hs : starEach [e] X.env = [(false, eval e X.env)]) :
    PI X (.Tuple elts kk tpos) (.Call (.Name "enumerate" p) [e] [] pos) (iEnumK X.K ta) := by
  refine ⟨fun pins s σ H R I h => ?_⟩
  refine Call_ (ld_blt I hg hm boot_enumerate (PyProof.Rows.callWith_type1 (thn (ha.run pos pins s σ H _ I h) fun us s1 ⟨vs, H1, I1, r1, q1⟩ => ?_) hs rfl))
  obtain ⟨k, a, xs, ex, hq, q⟩ := q1
  subst ex
  cases r1 with
  | cons r rr =>
    cases rr
    cases r
    obtain ⟨its, rv, p', hz, hal⟩ := sqK I1 hq
    refine call_enum1 p' fun h' he hit hk => wpAny_pyIter_enum he ?_
    have I2 : Inv X pins σ H1 { s1 with heap := h' } := I1.kept (t' := s1.toks) hk
    refine ⟨s1.heap.objs.size + 1, [s1.heap.objs.size + 1, s1.heap.objs.size], _, _, H1, rfl, I2, turn_enumK k a (s1.heap.objs.size + 1) s1.heap.objs.size (Nat.ne_of_lt (Nat.lt_succ_of_lt hal)) (Nat.ne_of_lt hal) (Nat.succ_ne_self _), ⟨⟨.none, he⟩, hit⟩, fun b hb => ?_, q⟩
    have e' : b = s1.heap.objs.size + 1 ∨ b = s1.heap.objs.size := by simpa using hb
    have hle : s1.heap.objs.size ≤ b := by
      rcases e' with z | z
      · rw [z]; exact Nat.le_add_right _ _
      · rw [z]; exact Nat.le_refl _
    exact I1.fpOk hle (I1.hok.fresh hle)
/-! ### zip -/
def ItzK (K : PySem.W.Frag) (k1 k2 : Bool) (a b : Addr) : It :=
  ⟨fun i H => ∃ (xs ys : List V) (x y : V), SqK K k1 H a xs ∧ SqK K k2 H b ys ∧ xs[i]? = some x ∧ ys[i]? = some y,
    fun i H v H' => ∃ T x y, v = .ref T ∧ H T = none ∧ H' = upd H T (.tup [x, y]) ∧ (∀ xs, SqK K k1 H a xs → xs[i]? = some x) ∧ ∀ ys, SqK K k2 H b ys → ys[i]? = some y,
    fun i H => ∃ xs ys : List V, SqK K k1 H a xs ∧ SqK K k2 H b ys ∧ i ≤ xs.length ∧ i ≤ ys.length ∧ (i = xs.length ∨ i = ys.length)⟩
theorem turn_zipK {P : Program} {w : World} {K : PySem.W.Frag} {elts : List Expr} {kk : Nat} {tpos : Pos} (k1 k2 : Bool) {a b : Addr} {N : Nat} (haN : a < N) (hbN : b < N) :
    Turn P w K (.Tuple elts kk tpos) (ItzK K k1 k2 a b) [N + 4, N + 2, N + 3, N, N + 1] (N + 4 : Nat) (fun i h => IsZip h (N + 4 : Nat) (N + 2 : Nat) (N + 3 : Nat) .none ∧ IsTupOf2 h (N + 2 : Nat) (.ref (N : Nat)) (.ref (N + 1 : Nat)) ∧ (∃ x y, IsTupOf2 h (N + 3 : Nat) x y) ∧ itAt k1 h (N : Nat) a i ∧ itAt k2 h (N + 1 : Nat) b i) where
  mem := by simp
  obj := fun i h st c hc => by
    obtain ⟨hz, hTI, ⟨x, y, hTO⟩, h1, h2⟩ := st
    have e' : c = N + 4 ∨ c = N + 2 ∨ c = N + 3 ∨ c = N ∨ c = N + 1 := by simpa using hc
    rcases e' with q | q | q | q | q
    · rw [q]; exact ⟨_, hz, fun v q => nomatch q⟩
    · rw [q]; exact ⟨_, hTI, fun v q => nomatch q⟩
    · rw [q]; exact ⟨_, hTO, fun v q => nomatch q⟩
    · rw [q]; exact h1.obj
    · rw [q]; exact h2.obj
  keep := fun i h h' st k => by
    obtain ⟨hz, hTI, ⟨x, y, hTO⟩, h1, h2⟩ := st
    exact ⟨k (N + 4 : Nat) (by simp) _ hz, k (N + 2 : Nat) (by simp) _ hTI, ⟨x, y, k (N + 3 : Nat) (by simp) _ hTO⟩, h1.at fun o q => k (N : Nat) (by simp) o q, h2.at fun o q => k (N + 1 : Nat) (by simp) o q⟩
  item := by
    intro X hP hw hK hc i pins s σ H E I hf st hg
    subst hP hw hK
    obtain ⟨hz, hTI, ⟨x0, y0, hTO⟩, h1, h2⟩ := st
    obtain ⟨xs, ys, x, y, hqx, hqy, hx, hy⟩ := hg
    obtain ⟨its, rv, p, _, _⟩ := sqK I hqx
    obtain ⟨its2, rv2, p2, _, _⟩ := sqK I hqy
    have l1 := rv.length
    have l2 := rv2.length
    obtain ⟨u, hu, ru⟩ := rv.get hx
    obtain ⟨u2, hu2, ru2⟩ := rv2.get hy
    have hzl : (N + 4 : Nat) < s.heap.objs.size := Heap.lt_size hz
    have Sp := zip_sep2 (N := N) (fp1 := [a]) (fp2 := [b]) (by simpa using haN) (by simpa using hbN)
    have i1 : i < its.toArray.size := by have := (List.getElem?_eq_some_iff.mp hx).1; rw [List.size_toArray]; omega
    have i2 : i < its2.toArray.size := by have := (List.getElem?_eq_some_iff.mp hy).1; rw [List.size_toArray]; omega
    refine wpAny_pyNext_zipD2_item Sp (drawsK (A := X.A.in1) (I.ok.hd hc) k1 (N : Nat) a (Nat.ne_of_lt haN) its.toArray) (drawsK (A := X.A.in1) (I.ok.hd hc) k2 (N + 1 : Nat) b (Nat.ne_of_lt (Nat.lt_succ_of_lt hbN)) its2.toArray)
      hz hTI hTO ⟨h1, p⟩ ⟨h2, p2⟩ i1 i2 fun x1 x2 h' tk e1 e2 z' TO' st1 st2 hT hsz hk => ?_
    have ex1 : x1 = u := by
      have q : its[i]? = some x1 := by simpa using e1
      rw [hu] at q; exact (Option.some.inj q).symm
    have ex2 : x2 = u2 := by
      have q : its2[i]? = some x2 := by simpa using e2
      rw [hu2] at q; exact (Option.some.inj q).symm
    subst ex1 ex2
    refine ⟨_, rfl, wpAny_letOwnedTupleGo_zip (s := { s with heap := h', toks := tk }) z' fun h'' z'' sb => ?_⟩
    have hT2 : h''.get? s.heap.objs.size = some { cls := .type "tuple", data := .seq #[x1, x2] } := (sb.2 _ (Nat.ne_of_gt hzl)).trans hT
    have new : ObjOk X.prog X.w (upd H s.heap.objs.size (.tup [x, y])) h'' s.heap.objs.size (.tup [x, y]) :=
      ⟨by show 2 ≤ sizeLine; decide, [x1, x2], .cons ru (.cons ru2 .nil), ⟨_, hT2, rfl, _, rfl⟩⟩
    have I1 : Inv X pins σ (upd H s.heap.objs.size (.tup [x, y])) { s with heap := h'', toks := tk } :=
      I.turnedNew (ch := [N + 4, N + 2, N + 3, N, N + 1]) (fun c o hb q => (sb.2 c (fun q' => hb (by simp [q']))).trans (hk c o (fun q' => hb (by simp [q'])) (fun q' => hb (by simp [q'])) (fun q' => hb (by simp [q'])) (fun q' => hb (by simp [q'])) q)) hf (Nat.le_refl _) new
    have kTI : h'.get? (N + 2 : Nat) = _ := hk (N + 2 : Nat) _ Sp.TIz Sp.TITO Sp.TIi1 Sp.TIi2 hTI
    refine ⟨.ref s.heap.objs.size, _, I1, rfl, ⟨_, x, y, rfl, I.hok.fresh (Nat.le_refl _), rfl, fun l hl => by rw [sqK_inj I hl hqx]; exact hx, fun l hl => by rw [sqK_inj I hl hqy]; exact hy⟩, ⟨z'', ?_, ⟨x1, x2, ?_⟩, ?_, ?_⟩, fun c hcm => ?_⟩
    · exact (sb.2 _ Sp.TIz).trans kTI
    · exact (sb.2 _ Sp.TOz).trans TO'
    · exact st1.1.at fun o q => (sb.2 _ Sp.zi1.symm).trans q
    · exact st2.1.at fun o q => (sb.2 _ Sp.zi2.symm).trans q
    · have hlt : c < s.heap.objs.size := by
        have e' : c = N + 4 ∨ c = N + 2 ∨ c = N + 3 ∨ c = N ∨ c = N + 1 := by simpa using hcm
        rcases e' with q | q | q | q | q
        · rw [q]; exact hzl
        · rw [q]; exact Heap.lt_size hTI
        · rw [q]; exact Heap.lt_size hTO
        · rw [q]; obtain ⟨_, e1, _⟩ := h1.obj; exact Heap.lt_size e1
        · rw [q]; obtain ⟨_, e2, _⟩ := h2.obj; exact Heap.lt_size e2
      rw [upd_ne (Nat.ne_of_lt hlt)]
      exact (hf c hcm).1
  done := by
    intro X hP hw hK hc i pins s σ H E I hf st hg
    subst hP hw hK
    obtain ⟨hz, hTI, ⟨x0, y0, hTO⟩, h1, h2⟩ := st
    obtain ⟨xs, ys, hqx, hqy, b1, b2, hend⟩ := hg
    obtain ⟨its, rv, p, _, _⟩ := sqK I hqx
    obtain ⟨its2, rv2, p2, _, _⟩ := sqK I hqy
    have l1 := rv.length
    have l2 := rv2.length
    have Sp := zip_sep2 (N := N) (fp1 := [a]) (fp2 := [b]) (by simpa using haN) (by simpa using hbN)
    refine wpAny_pyNext_zipD2_end Sp (drawsK (A := X.A.in1) (I.ok.hd hc) k1 (N : Nat) a (Nat.ne_of_lt haN) its.toArray) (drawsK (A := X.A.in1) (I.ok.hd hc) k2 (N + 1 : Nat) b (Nat.ne_of_lt (Nat.lt_succ_of_lt hbN)) its2.toArray)
      hz hTI hTO ⟨h1, p⟩ ⟨h2, p2⟩ (by rw [List.size_toArray]; omega) (by rw [List.size_toArray]; omega) (by rw [List.size_toArray, List.size_toArray]; omega) fun h' tk hk => ⟨rfl, ?_⟩
    exact I.turnedL (ch := [N + 4, N + 2, N + 3, N, N + 1]) (fun c o hb q => hk c o (fun q' => hb (by simp [q'])) (fun q' => hb (by simp [q'])) (fun q' => hb (by simp [q'])) (fun q' => hb (by simp [q'])) q) hf
  self := fun A i s Q E st h => wpAny_pyIter_zip st.1 h
def iZipK (K : PySem.W.Frag) (ta : TA) : TI := fun σ H R => ta σ H fun vs H1 => ∃ k1 k2 a b xs ys, vs = [.ref a, .ref b] ∧ SqK K k1 H1 a xs ∧ SqK K k2 H1 b ys ∧ R (ItzK K k1 k2 a b) H1
theorem pi_zipK {X : Cx} {e e2 : Expr} {ta : TA} {p pos tpos : Pos} {elts : List Expr} {kk : Nat} (hg : Gl X "zip") (hm : X.mg "zip" = none) (ha : PA X [e, e2] ta)
    (hs : starEach [e, e2] X.env = (false, eval e X.env) :: starEach [e2] X.env) (hpl : (backTo pos (starEach [e2] X.env)).any (·.1) = false) :
    PI X (.Tuple elts kk tpos) (.Call (.Name "zip" p) [e, e2] [] pos) (iZipK X.K ta) := by
  refine ⟨fun pins s σ H R I h => ?_⟩
  refine Call_ (ld_blt I hg hm PyProof.Rows.boot_zip (PyProof.Rows.callWith_type1 (thn (ha.run pos pins s σ H _ I h) fun us s1 ⟨vs, H1, I1, r1, q1⟩ => ?_) hs hpl))
  obtain ⟨k1, k2, a, b, xs, ys, ex, hqx, hqy, q⟩ := q1
  subst ex
  cases r1 with
  | cons r rr =>
    cases rr with
    | cons r' rr =>
      cases rr
      cases r
      cases r'
      have fresh5 : ∀ c, c ∈ [s1.heap.objs.size + 4, s1.heap.objs.size + 2, s1.heap.objs.size + 3, s1.heap.objs.size, s1.heap.objs.size + 1] → FpOk X pins H1 c := fun c hcm => by
        have e' : c = s1.heap.objs.size + 4 ∨ c = s1.heap.objs.size + 2 ∨ c = s1.heap.objs.size + 3 ∨ c = s1.heap.objs.size ∨ c = s1.heap.objs.size + 1 := by simpa using hcm
        have hle : s1.heap.objs.size ≤ c := by
          rcases e' with z | z | z | z | z
          · rw [z]; exact Nat.le_add_right _ _
          · rw [z]; exact Nat.le_add_right _ _
          · rw [z]; exact Nat.le_add_right _ _
          · rw [z]; exact Nat.le_refl _
          · rw [z]; exact Nat.le_add_right _ _
        exact I1.fpOk hle (I1.hok.fresh hle)
      obtain ⟨its, rv, p1, _, la⟩ := sqK I1 hqx
      obtain ⟨its2, rv2, p2, _, lb⟩ := sqK I1 hqy
      refine zip_begins2 (beginsK k1 a its.toArray) (beginsK k2 b its2.toArray) p1 p2 fun h' hz hTI hTO h1 h2 hsz hk => wpAny_pyIter_zip hz ?_
      have I2 : Inv X pins σ H1 { s1 with heap := h' } := I1.kept (t' := s1.toks) hk
      exact ⟨s1.heap.objs.size + 4, [s1.heap.objs.size + 4, s1.heap.objs.size + 2, s1.heap.objs.size + 3, s1.heap.objs.size, s1.heap.objs.size + 1], _, _, H1, rfl, I2, turn_zipK k1 k2 la lb, ⟨hz, hTI, ⟨_, _, hTO⟩, itAt.new h1, itAt.new h2⟩, fresh5, q⟩
/-! ### a list or a tuple -/
def ItK (K : PySem.W.Frag) (k : Bool) (a : Addr) : It := if k then Itl K a else Itt K a
def iSeqK (K : PySem.W.Frag) (tl : TE) : TI := fun σ H R => tl σ H fun x H1 => ∃ k a xs, x = .ref a ∧ SqK K k H1 a xs ∧ R (ItK K k a) H1
theorem pi_seqK {X : Cx} {tg l : Expr} {tl : TE} (hl : PE X l tl) : PI X tg l (iSeqK X.K tl) := by
  refine ⟨fun pins s σ H R I h => ?_⟩
  refine thn (hl.run pins s σ H _ I h) fun v s1 ⟨x, H1, I1, r1, q1⟩ => ?_
  obtain ⟨k, a, xs, e, hq, q⟩ := q1
  subst e
  cases r1
  cases k with
  | true =>
    have hq : SqL X.K H1 a xs := hq
    obtain ⟨its, rv, p, hz⟩ := I1.list hq
    refine wpAny_pyIter_list p.isList ?_
    refine ⟨s1.heap.objs.size, [s1.heap.objs.size], _, _, H1, rfl, I1.kept (t' := s1.toks) fun b o e => Heap.get?_push_of_some _ e, turn_list a _, ⟨_, Heap.get?_push_size _ rfl, rfl, rfl⟩, fun b hb => ?_, q⟩
    have e : b = s1.heap.objs.size := by simpa using hb
    subst e
    exact I1.fpOk (Nat.le_refl _) (I1.hok.fresh (Nat.le_refl _))
  | false =>
    have hq : SqT X.K H1 a xs := hq
    obtain ⟨its, rv, p, hz⟩ := I1.tuple hq
    refine wpAny_pyIter_tuple (show s1.heap.IsTuple a its.toArray from p) ?_
    refine ⟨s1.heap.objs.size, [s1.heap.objs.size], _, _, H1, rfl, I1.kept (t' := s1.toks) fun b o e => Heap.get?_push_of_some _ e, turn_tuple a _, ⟨_, Heap.get?_push_size _ rfl, rfl, rfl⟩, fun b hb => ?_, q⟩
    have e : b = s1.heap.objs.size := by simpa using hb
    subst e
    exact I1.fpOk (Nat.le_refl _) (I1.hok.fresh (Nat.le_refl _))
end Mini
/-! Mini: its expressions are the text's. -/
set_option linter.all false
set_option maxRecDepth 10000
namespace Mini
open PySem PySem.Spec PyProof.Rows L2
section
variable {P : Prog} {L : Lay} {C : Call} {W : WX} {X : Cx} {ρ ρ' ρ1 ρ2 : List Addr} {H H' H1 H2 H0 : Hp} {σ : L2.St} {env : Env} {th th1 th2 : S} {o o' : Addr → Prop} {pos : Pos}
theorem fin_ok {Q : VK} {tv : TV} {v : V} {H3 : Hp} (h : Pst L W ρ1 H1 σ (KV L ρ H env σ Q) (.ok tv th2)) (x : Ex0 ρ H ρ2 H3) (r : R L ρ2 th2 H3) (rv : RepV L H σ ρ2 (own env σ) H3 tv v) : Q v H3 := h ρ2 v H3 x r rv
/-! ### names, constants -/
theorem sv_v {i : Nat} {x : Str} (hN : X.N[i]? = some x) (hv : Vis X.env.scope x) (hd : (x == ("__debug__" : Str)) = false) (hcd : (x == ("__classdict__" : Str)) = false) : PE X (.Name x pos) (SV P L C W (.v i)) := by
  refine PE.imp (pe_var hN hv hd hcd) fun σ H Q ⟨ρ, th, env, hR, hE, h⟩ => ?_
  have h : Pst L W ρ H σ (KV L ρ H env σ Q) (ofO (readV env i) th) := by simpa only [evalV] using h
  unfold readV at h
  split at h
  · rename_i y e
    obtain ⟨v, e1, e2⟩ := hE.get i _ e
    exact ⟨v, e1, fin_ok h Ext.refl hR e2⟩
  · rename_i xs e
    obtain ⟨v, e1, a, vs, rfl, e3, e4, e5⟩ := hE.get i _ e
    exact ⟨_, e1, fin_ok h Ext.refl hR ⟨a, vs, rfl, .inl ⟨.inl e3, e5, id⟩, e4, fun _ => .inr ⟨i, List.mem_singleton.mpr rfl, e1⟩⟩⟩
  · rename_i xs g e
    obtain ⟨v, e1, a, vs, rfl, e3, e4⟩ := hE.get i _ e
    refine ⟨_, e1, fin_ok h Ext.refl hR ⟨a, vs, rfl, e3.weak, e4, fun z => ?_⟩⟩
    rcases e3 with ⟨_, _, n⟩ | k
    · exact (n z).elim
    · exact .inl k
  · exact h.elim
theorem sv_int {i : Int} {j : Nat} : PE X (.Constant (.int i) j pos) (SV P L C W (.k (.int i))) := by
  refine PE.imp pe_int fun σ H Q ⟨ρ, th, env, hR, hE, h⟩ => ?_
  simp only [evalV] at h
  exact fin_ok h Ext.refl hR (by simp only [RepV, Rep])
theorem sv_bl {i : Bool} {j : Nat} : PE X (.Constant (.bool i) j pos) (SV P L C W (.k (.bl i))) := by
  refine PE.imp pe_bl fun σ H Q ⟨ρ, th, env, hR, hE, h⟩ => ?_
  simp only [evalV] at h
  exact fin_ok h Ext.refl hR (by simp only [RepV, Rep])
theorem sv_non {j : Nat} : PE X (.Constant .none j pos) (SV P L C W (.k .non)) := by
  refine PE.imp pe_non fun σ H Q ⟨ρ, th, env, hR, hE, h⟩ => ?_
  simp only [evalV] at h
  exact fin_ok h Ext.refl hR (by simp only [RepV, Rep])
theorem sv_str {i : Str} {j : Nat} : PE X (.Constant (.str i) j pos) (SV P L C W (.k (.str i))) := by
  refine PE.imp pe_str fun σ H Q ⟨ρ, th, env, hR, hE, h⟩ => ?_
  simp only [evalV] at h
  exact fin_ok h Ext.refl hR (by simp only [RepV, Rep])
/-- a constant of the module -/
theorem sv_gl {g : Nat} {x : Str} {t : T} {v : V} {u : Value} (hc : P.consts[g]? = some (x, t)) (hg : Gl X x) (hm : X.mg x = some u) (r : RelV v u) (rv : ∀ ρ H, Rep L ρ H t v) (hd : (x == ("__debug__" : Str)) = false) : PE X (.Name x pos) (SV P L C W (.gl g)) := by
  refine PE.imp (pe_glob hg hm r hd) fun σ H Q ⟨ρ, th, env, hR, hE, h⟩ => ?_
  simp only [evalV, hc, Option.map_some, ofO] at h
  exact fin_ok h Ext.refl hR (rv ρ H)
theorem sv_fnv {k : Nat} {x : Str} (hg : Gl X x) (hm : X.mg x = some (.ref (L.ad k))) (hd : (x == ("__debug__" : Str)) = false) : PE X (.Name x pos) (SV P L C W (.fnv k)) := by
  refine PE.imp (pe_glob (v := .ref (L.ad k)) hg hm rfl hd) fun σ H Q ⟨ρ, th, env, hR, hE, h⟩ => ?_
  simp only [evalV] at h
  exact fin_ok h Ext.refl hR (by simp only [RepV, Rep])
/-! ### operators -/
/-- a list's kind of a value, as it lies -/
theorem isL_read {tv : TV} {v : V} (hR : R L ρ th H) (rv : RepV L H0 σ ρ o H tv v) (hl : isL tv = true) {α : Type} {f : List T → M α} {Φ : α → S → Prop} {ρ0 : List Addr} {H00 : Hp} (h : Pst L W ρ0 H00 σ Φ ((lstOf tv >>= f) th)) :
    ∃ a xs vs, v = .ref a ∧ SqL L.K H a vs ∧ RepAll L ρ H xs vs ∧ Pst L W ρ0 H00 σ Φ (f xs th) := by
  cases tv with
  | l xs =>
    obtain ⟨a, vs, e1, e2, e3, _⟩ := rv
    exact ⟨a, xs, vs, e1, SqL.of e2, e3, h⟩
  | s xs g =>
    obtain ⟨a, vs, e1, e2, e3, _⟩ := rv
    exact ⟨a, xs, vs, e1, e2.sq, e3, h⟩
  | t x =>
    cases x with
    | ref n =>
      simp only [RepV, Rep] at rv
      obtain ⟨a, e1, e2⟩ := rv
      have h : Pst L W ρ0 H00 σ Φ ((deref n >>= f) th) := h
      rw [bind_app] at h
      unfold deref at h
      cases e : th[n]? with
      | none => simp only [e] at h; exact h.elim
      | some ob =>
        cases ob with
        | ins c fs => simp only [e] at h; exact h.elim
        | dk fs => simp only [e] at h; exact h.elim
        | dt fs => simp only [e] at h; exact h.elim
        | lst xs =>
          simp only [e] at h
          obtain ⟨vs, q1, q2⟩ := hR.obj n a _ e2 e
          exact ⟨a, xs, vs, e1, SqL.of q1, q2, h⟩
    | _ => simp [isL] at hl
def rAddM (K : PySem.W.Frag) : R2 := fun x y H Q => (rI0 fun i j => .int (i + j)) x y H Q ∨ ((∃ i j, x = .str i ∧ y = .str j ∧ i.length + j.length ≤ sizeLine ∧ Q (.str (i ++ j)) H) ∨ (rCatA K x y H Q ∨ rCatW K x y H Q))
theorem op_addM : OpR X (binaryOp .Add) (rAddM X.K) := op_add.or (op_add_str.or (op_catA.or op_catW))
def rMulM (K : PySem.W.Frag) : R2 := fun x y H Q => (rI CMulW fun i j => .int (i * j)) x y H Q ∨ rRepA K x y H Q
theorem op_mulM : OpR X (binaryOp .Mult) (rMulM X.K) := op_mulW.or op_repA
theorem new_tup {p : Addr} {xs : List T} {vs : List V} (hR : R L ρ th H) (hp : H p = none) (hr : RepAll L ρ H xs vs) : Rep L ρ (upd H p (.tup vs)) (.tup xs) (.ref p) := by
  simp only [Rep]
  exact ⟨p, vs, rfl, SqT.of upd_same, hR.repAll (Ext.new1 (o := noO) hp) OL.no hr⟩
theorem new_lst {p : Addr} {xs : List T} {vs : List V} {H0 : Hp} (hR : R L ρ th H) (hp : H p = none) (hr : RepAll L ρ H xs vs) (h0 : H0 p = none) : RepV L H0 σ ρ o (upd H p (.lst vs)) (.l xs) (.ref p) :=
  ⟨p, vs, rfl, upd_same, hR.repAll (Ext.new1 (o := noO) hp) OL.no hr, hR.notin hp, h0⟩
theorem bin_add {a b : Expr} {ca cb : E} (hK : X.K = L.K) (ha : PE X a (SV P L C W ca)) (hb : PE X b (SV P L C W cb)) : PE X (.BinOp a .Add b pos) (SV P L C W (.bin .add ca cb)) := by
  have r := pe_op (pos := pos) op_addM ha hb
  rw [hK] at r
  refine PE.imp r fun σ H Q ⟨ρ, th, env, hR, hE, h⟩ => ?_
  simp only [evalV] at h
  refine sv_step hR hE h fun ρ1 th1 H1 x v x1 R1 E1 rv h1 => ?_
  refine sv_step R1 E1 (h1.base x1) fun ρ2 th2 H2 y w x2 R2 E2 rw' h2 => ?_
  replace rv := rv.ext R1 x2
  have x12 := x1.trans x2
  replace h2 : Pst L W ρ1 H1 σ (KV L ρ H env σ Q) (addV x y th2) := h2
  unfold addV at h2
  split at h2
  · simp only [RepV, Rep] at rv rw'
    exact .inl ⟨_, _, rv, rw', fin_ok h2 x12 R2 (by simp only [RepV, Rep])⟩
  · rename_i i j
    simp only [RepV, Rep] at rv rw'
    split at h2
    · exact .inr (.inl ⟨_, _, rv, rw', by assumption, fin_ok h2 x12 R2 (by simp only [RepV, Rep])⟩)
    · exact h2.elim
  · rename_i xs ys
    split at h2
    · rename_i hl
      simp only [RepV, Rep] at rv rw'
      obtain ⟨p, vs, rfl, q1, q2⟩ := rv
      obtain ⟨p', ws, rfl, q3, q4⟩ := rw'
      have l1 := q2.length
      have l2 := q4.length
      refine .inr (.inr (.inl ⟨p, p', vs, ws, rfl, rfl, q1, q3, by omega, fun z => ?_, fun _ z => ?_, fun _ _ t ht => ?_⟩))
      · subst z
        have : xs = [] := List.eq_nil_of_length_eq_zero l1
        subst this
        exact fin_ok h2 x12 R2 (by simp only [RepV, Rep, List.nil_append]; exact ⟨p', ws, rfl, q3, q4⟩)
      · subst z
        have : ys = [] := List.eq_nil_of_length_eq_zero l2
        subst this
        exact fin_ok h2 x12 R2 (by simp only [RepV, Rep, List.append_nil]; exact ⟨p, vs, rfl, q1, q2⟩)
      · exact fin_ok h2 (x12.trans (Ext.new1 ht)) (R2.new1 ht) (new_tup R2 ht (q2.append q4))
    · exact h2.elim
  · rename_i a' b' _ _ _
    split at h2
    · rename_i hl
      rw [Bool.and_eq_true] at hl
      obtain ⟨p, xs, vs, rfl, q1, q2, h3⟩ := isL_read R2 rv hl.1 h2
      obtain ⟨p', ys, ws, rfl, q3, q4, h4⟩ := isL_read R2 rw' hl.2 h3
      have l1 := q2.length
      have l2 := q4.length
      split at h4
      · refine .inr (.inr (.inr ⟨p, p', vs, ws, rfl, rfl, q1, q3, by omega, fun t ht => ?_⟩))
        exact fin_ok h4 (x12.trans (Ext.new1 ht)) (R2.new1 ht) (new_lst R2 ht (q2.append q4) (R2.free x12 (fun _ z => z.elim) ht))
      · exact h4.elim
    · exact h2.elim
theorem int_read {tv : TV} {v : V} (rv : RepV L H0 σ ρ o H tv v) {α : Type} {f : Int → M α} {Φ : α → S → Prop} {ρ0 : List Addr} {H00 : Hp} (h : Pst L W ρ0 H00 σ Φ ((intOf tv >>= f) th)) :
    ∃ i, v = .int i ∧ Pst L W ρ0 H00 σ Φ (f i th) := by
  unfold intOf at h
  split at h
  · rename_i i
    simp only [RepV, Rep] at rv
    exact ⟨i, rv, h⟩
  · exact h.elim
theorem bin_mul {a b : Expr} {ca cb : E} (hK : X.K = L.K) (ha : PE X a (SV P L C W ca)) (hb : PE X b (SV P L C W cb)) : PE X (.BinOp a .Mult b pos) (SV P L C W (.bin .mul ca cb)) := by
  have r := pe_op (pos := pos) op_mulM ha hb
  rw [hK] at r
  refine PE.imp r fun σ H Q ⟨ρ, th, env, hR, hE, h⟩ => ?_
  simp only [evalV] at h
  refine sv_step hR hE h fun ρ1 th1 H1 x v x1 R1 E1 rv h1 => ?_
  refine sv_step R1 E1 (h1.base x1) fun ρ2 th2 H2 y w x2 R2 E2 rw' h2 => ?_
  replace rv := rv.ext R1 x2
  have x12 := x1.trans x2
  replace h2 : Pst L W ρ1 H1 σ (KV L ρ H env σ Q) (mulV x y th2) := h2
  unfold mulV at h2
  split at h2
  · simp only [RepV, Rep] at rv rw'
    split at h2
    · exact .inl ⟨_, _, rv, rw', by assumption, fin_ok h2 x12 R2 (by simp only [RepV, Rep])⟩
    · exact h2.elim
  · rename_i xs k
    simp only [RepV, Rep] at rv rw'
    split at h2
    · rename_i hk
      obtain ⟨p, vs, rfl, q1, q2⟩ := rv
      have l1 := q2.length
      have hk := of_decide_eq_true hk
      refine .inr ⟨p, k, vs, rfl, rw', q1, hk.1, hk.2.1, by omega, fun z => ?_, fun z t ht => ?_⟩
      · refine fin_ok h2 x12 R2 ?_
        simp only [RepV, Rep]
        refine ⟨p, vs, rfl, q1, ?_⟩
        rcases z with z | z
        · subst z
          have : xs = [] := List.eq_nil_of_length_eq_zero l1
          subst this
          have e : (List.replicate k.toNat ([] : List T)).flatten = [] := by simp
          rw [e]; exact q2
        · subst z
          have e : (List.replicate (1 : Int).toNat xs).flatten = xs := by simp
          rw [e]; exact q2
      · exact fin_ok h2 (x12.trans (Ext.new1 ht)) (R2.new1 ht) (new_tup R2 ht (q2.rep _))
    · exact h2.elim
  · exact h2.elim
theorem bin_sub {a b : Expr} {ca cb : E} (ha : PE X a (SV P L C W ca)) (hb : PE X b (SV P L C W cb)) : PE X (.BinOp a .Sub b pos) (SV P L C W (.bin .sub ca cb)) := by
  refine PE.imp (pe_op op_sub ha hb) fun σ H Q ⟨ρ, th, env, hR, hE, h⟩ => ?_
  simp only [evalV] at h
  refine sv_step hR hE h fun ρ1 th1 H1 x v x1 R1 E1 rv h1 => ?_
  refine sv_step R1 E1 (h1.base x1) fun ρ2 th2 H2 y w x2 R2 E2 rw' h2 => ?_
  obtain ⟨i, e1, h3⟩ := int_read (rv.ext R1 x2) h2
  obtain ⟨j, e2, h4⟩ := int_read rw' h3
  exact ⟨i, j, e1, e2, fin_ok h4 (x1.trans x2) R2 (by simp only [RepV, Rep])⟩
theorem bin_fdiv {a b : Expr} {ca cb : E} (ha : PE X a (SV P L C W ca)) (hb : PE X b (SV P L C W cb)) : PE X (.BinOp a .FloorDiv b pos) (SV P L C W (.bin .fdiv ca cb)) := by
  refine PE.imp (pe_op op_fdivW ha hb) fun σ H Q ⟨ρ, th, env, hR, hE, h⟩ => ?_
  simp only [evalV] at h
  refine sv_step hR hE h fun ρ1 th1 H1 x v x1 R1 E1 rv h1 => ?_
  refine sv_step R1 E1 (h1.base x1) fun ρ2 th2 H2 y w x2 R2 E2 rw' h2 => ?_
  obtain ⟨i, e1, h3⟩ := int_read (rv.ext R1 x2) h2
  obtain ⟨j, e2, h4⟩ := int_read rw' h3
  split at h4
  · exact ⟨i, j, e1, e2, by assumption, fin_ok h4 (x1.trans x2) R2 (by simp only [RepV, Rep])⟩
  · exact h4.elim
theorem bin_mod {a b : Expr} {ca cb : E} (ha : PE X a (SV P L C W ca)) (hb : PE X b (SV P L C W cb)) : PE X (.BinOp a .Mod b pos) (SV P L C W (.bin .mod ca cb)) := by
  refine PE.imp (pe_op op_mod ha hb) fun σ H Q ⟨ρ, th, env, hR, hE, h⟩ => ?_
  simp only [evalV] at h
  refine sv_step hR hE h fun ρ1 th1 H1 x v x1 R1 E1 rv h1 => ?_
  refine sv_step R1 E1 (h1.base x1) fun ρ2 th2 H2 y w x2 R2 E2 rw' h2 => ?_
  obtain ⟨i, e1, h3⟩ := int_read (rv.ext R1 x2) h2
  obtain ⟨j, e2, h4⟩ := int_read rw' h3
  split at h4
  · exact ⟨i, j, e1, e2, by assumption, fin_ok h4 (x1.trans x2) R2 (by simp only [RepV, Rep])⟩
  · exact h4.elim
theorem bin_pow {a b : Expr} {ca cb : E} (ha : PE X a (SV P L C W ca)) (hb : PE X b (SV P L C W cb)) : PE X (.BinOp a .Pow b pos) (SV P L C W (.bin .pow ca cb)) := by
  refine PE.imp (pe_op op_pow ha hb) fun σ H Q ⟨ρ, th, env, hR, hE, h⟩ => ?_
  simp only [evalV] at h
  refine sv_step hR hE h fun ρ1 th1 H1 x v x1 R1 E1 rv h1 => ?_
  refine sv_step R1 E1 (h1.base x1) fun ρ2 th2 H2 y w x2 R2 E2 rw' h2 => ?_
  obtain ⟨i, e1, h3⟩ := int_read (rv.ext R1 x2) h2
  obtain ⟨j, e2, h4⟩ := int_read rw' h3
  split at h4
  · rename_i hp
    have hp : CPow i j := by
      unfold powOk at hp
      have z := of_decide_eq_true hp
      exact z
    exact ⟨i, j, e1, e2, hp, fin_ok h4 (x1.trans x2) R2 (by simp only [RepV, Rep])⟩
  · exact h4.elim
theorem sv_neg {a : Expr} {ca : E} (ha : PE X a (SV P L C W ca)) : PE X (.UnaryOp .USub a pos) (SV P L C W (.neg ca)) := by
  refine PE.imp (pe_un un_neg ha) fun σ H Q ⟨ρ, th, env, hR, hE, h⟩ => ?_
  simp only [evalV] at h
  refine sv_step hR hE h fun ρ1 th1 H1 x v x1 R1 E1 rv h1 => ?_
  obtain ⟨i, e1, h3⟩ := int_read rv h1
  exact ⟨i, e1, fin_ok h3 x1 R1 (by simp only [RepV, Rep])⟩
/-! ### truth -/
theorem truth_read {tv : TV} {v : V} (hR : R L ρ th H) (rv : RepV L H0 σ ρ o H tv v) {α : Type} {f : Bool → M α} {Φ : α → S → Prop} {ρ0 : List Addr} {H00 : Hp} (h : Pst L W ρ0 H00 σ Φ ((truth tv >>= f) th)) :
    ∃ k, TruV L.K v H k ∧ Pst L W ρ0 H00 σ Φ (f k th) := by
  cases tv with
  | l xs =>
    obtain ⟨a, vs, rfl, e2, e3, _⟩ := rv
    refine ⟨_, .inl ⟨vs, SqL.of e2, rfl⟩, ?_⟩
    have e : (!xs.isEmpty) = !vs.isEmpty := by have := e3.length; cases xs <;> cases vs <;> simp_all
    rw [← e]; exact h
  | s xs g =>
    obtain ⟨a, vs, rfl, e2, e3, _⟩ := rv
    refine ⟨_, .inl ⟨vs, e2.sq, rfl⟩, ?_⟩
    have e : (!xs.isEmpty) = !vs.isEmpty := by have := e3.length; cases xs <;> cases vs <;> simp_all
    rw [← e]; exact h
  | t x =>
    cases x with
    | non => simp only [RepV, Rep] at rv; subst rv; exact ⟨false, rfl, h⟩
    | bl b => simp only [RepV, Rep] at rv; subst rv; exact ⟨b, rfl, h⟩
    | int i => simp only [RepV, Rep] at rv; subst rv; exact ⟨_, rfl, h⟩
    | str z =>
      simp only [RepV, Rep] at rv
      subst rv
      replace h : Pst L W ρ0 H00 σ Φ (((if z.length ≤ sizeLine then pure (z.length != 0) else fail : M Bool) >>= f) th) := h
      split at h
      · rename_i hz
        refine ⟨_, ⟨hz, rfl⟩, ?_⟩
        have e : ((z.length : Int) != 0) = (z.length != 0) := by
          by_cases q : z.length = 0
          · simp [q]
          · have : (z.length : Int) ≠ 0 := by omega
            rw [bne_iff_ne.mpr this, bne_iff_ne.mpr q]
        rw [e]; exact h
      · exact h.elim
    | tup xs =>
      simp only [RepV, Rep] at rv
      obtain ⟨a, vs, rfl, e2, e3⟩ := rv
      refine ⟨_, .inr (.inl ⟨vs, e2, rfl⟩), ?_⟩
      have e : (!xs.isEmpty) = !vs.isEmpty := by have := e3.length; cases xs <;> cases vs <;> simp_all
      rw [← e]; exact h
    | ref n =>
      have h' : Pst L W ρ0 H00 σ Φ ((lstOf (.t (.ref n)) >>= fun xs => f (!xs.isEmpty)) th) := by
        have e : (truth (.t (.ref n)) >>= f) = (lstOf (.t (.ref n)) >>= fun xs => f (!xs.isEmpty)) := by
          show ((deref n >>= fun xs => pure (!xs.isEmpty)) >>= f) = _
          rw [bind_assoc']; rfl
        rw [← e]; exact h
      obtain ⟨a, xs, vs, rfl, e2, e3, h'⟩ := isL_read hR rv rfl h'
      refine ⟨_, .inl ⟨vs, e2, rfl⟩, ?_⟩
      have e : (!xs.isEmpty) = !vs.isEmpty := by have := e3.length; cases xs <;> cases vs <;> simp_all
      rw [← e]; exact h'
    | fn k => exact h.elim
    | cl k => exact h.elim
    | ty k => exact h.elim
theorem sv_notV {a : Expr} {ca : E} (hK : X.K = L.K) (ha : PE X a (SV P L C W ca)) : PE X (.UnaryOp .Not a pos) (SV P L C W (.not ca)) := by
  have r := pe_notT (pos := pos) ha
  rw [hK] at r
  refine PE.imp r fun σ H Q ⟨ρ, th, env, hR, hE, h⟩ => ?_
  simp only [evalV] at h
  refine sv_step hR hE h fun ρ1 th1 H1 x v x1 R1 E1 rv h1 => ?_
  obtain ⟨k, e, h2⟩ := truth_read R1 rv h1
  exact ⟨k, e, fin_ok h2 x1 R1 (by simp only [RepV, Rep])⟩
theorem sv_one {a : Expr} {ca : E} {op : BoolOp} (ha : PE X a (SV P L C W ca)) : PE X (.BoolOp op [a] pos) (SV P L C W ca) := pe_one ha
/-- a step's rest, told anew from where one stands -/
theorem sv_tail {a : E} {Q : VK} {Φ : TV → S → Prop} (hR : R L ρ1 th1 H1) (hE : EnvR L ρ1 H1 env σ) (x1 : Ex0 ρ H ρ1 H1) (R0 : R L ρ th H) (h : Pst L W ρ H σ (KV L ρ H env σ Q) (evalV P C a env th1)) : SV P L C W a σ H1 Q :=
  ⟨ρ1, th1, env, hR, hE, (h.base x1).imp fun tv th2 q ρ2 v H2 x2 r2 rv => q ρ2 v H2 (x1.trans x2) r2 (rv.back hR x1)⟩
theorem sv_and {a b : Expr} {rest : List Expr} {ca cb : E} (hK : X.K = L.K) (ha : PE X a (SV P L C W ca)) (hb : PE X (.BoolOp .And (b :: rest) pos) (SV P L C W cb)) : PE X (.BoolOp .And (a :: b :: rest) pos) (SV P L C W (.and ca cb)) := by
  have r := pe_andT ha hb
  rw [hK] at r
  refine PE.imp r fun σ H Q ⟨ρ, th, env, hR, hE, h⟩ => ?_
  simp only [evalV] at h
  refine sv_step hR hE h fun ρ1 th1 H1 x v x1 R1 E1 rv h1 => ?_
  obtain ⟨k, e, h2⟩ := truth_read R1 rv h1
  refine ⟨k, e, ?_⟩
  cases k with
  | true =>
    rw [if_pos rfl] at h2 ⊢
    exact sv_tail (Φ := fun _ _ => True) R1 E1 x1 hR h2
  | false =>
    rw [if_neg Bool.false_ne_true] at h2 ⊢
    exact fin_ok h2 x1 R1 rv
theorem sv_or {a b : Expr} {rest : List Expr} {ca cb : E} (hK : X.K = L.K) (ha : PE X a (SV P L C W ca)) (hb : PE X (.BoolOp .Or (b :: rest) pos) (SV P L C W cb)) : PE X (.BoolOp .Or (a :: b :: rest) pos) (SV P L C W (.or ca cb)) := by
  have r := pe_orT ha hb
  rw [hK] at r
  refine PE.imp r fun σ H Q ⟨ρ, th, env, hR, hE, h⟩ => ?_
  simp only [evalV] at h
  refine sv_step hR hE h fun ρ1 th1 H1 x v x1 R1 E1 rv h1 => ?_
  obtain ⟨k, e, h2⟩ := truth_read R1 rv h1
  refine ⟨k, e, ?_⟩
  cases k with
  | true =>
    rw [if_pos rfl] at h2 ⊢
    exact fin_ok h2 x1 R1 rv
  | false =>
    rw [if_neg Bool.false_ne_true] at h2 ⊢
    exact sv_tail (Φ := fun _ _ => True) R1 E1 x1 hR h2
/-! ### data -/
mutual
theorem T.dat_dp {r : Nat → Option PyData} (hr : ∀ n a d, ρ[n]? = some a → r n = some d → Dp L.K H (.ref a) d) : ∀ (x : T) (v : V) (d : PyData), Rep L ρ H x v → x.dat r = some d → Dp L.K H v d
  | .non, v, d, h, e => by simp only [Rep] at h; simp only [T.dat, Option.some.injEq] at e; subst h e; exact .non
  | .bl b, v, d, h, e => by simp only [Rep] at h; simp only [T.dat, Option.some.injEq] at e; subst h e; exact .bl b
  | .int i, v, d, h, e => by simp only [Rep] at h; simp only [T.dat, Option.some.injEq] at e; subst h e; exact .int i
  | .str s, v, d, h, e => by simp only [Rep] at h; simp only [T.dat, Option.some.injEq] at e; subst h e; exact .str s
  | .tup xs, v, d, h, e => by
    simp only [Rep] at h
    obtain ⟨a, vs, rfl, q, hs⟩ := h
    simp only [T.dat, Option.map_eq_some_iff] at e
    obtain ⟨ds, e, rfl⟩ := e
    exact .tup q (T.datAll_dp hr xs vs ds hs e)
  | .ref n, v, d, h, e => by
    simp only [Rep] at h
    obtain ⟨a, rfl, q⟩ := h
    exact hr n a d q e
  | .fn _, _, _, _, e => by simp [T.dat] at e
  | .cl _, _, _, _, e => by simp [T.dat] at e
  | .ty _, _, _, _, e => by simp [T.dat] at e
theorem T.datAll_dp {r : Nat → Option PyData} (hr : ∀ n a d, ρ[n]? = some a → r n = some d → Dp L.K H (.ref a) d) : ∀ (xs : List T) (vs : List V) (ds : List PyData), RepAll L ρ H xs vs → T.datAll r xs = some ds → DpAll L.K H vs ds
  | [], vs, ds, h, e => by simp only [RepAll] at h; simp only [T.datAll, Option.some.injEq] at e; subst h e; exact .nil
  | x :: xs, vs, ds, h, e => by
    simp only [RepAll] at h
    obtain ⟨v, q, rfl, h1, h2⟩ := h
    simp only [T.datAll] at e
    cases e1 : x.dat r with
    | none => rw [e1] at e; simp at e
    | some d =>
      cases e2 : T.datAll r xs with
      | none => rw [e1, e2] at e; simp at e
      | some ds' =>
        rw [e1, e2] at e
        simp only [Option.some.injEq] at e
        subst e
        exact .cons (T.dat_dp hr x v d h1 e1) (T.datAll_dp hr xs q ds' h2 e2)
end
theorem refD_dp (hR : R L ρ th H) : ∀ (k n : Nat) (a : Addr) (d : PyData), ρ[n]? = some a → refD th k n = some d → Dp L.K H (.ref a) d
  | 0, _, _, _, _, e => by simp [refD] at e
  | k + 1, n, a, d, h, e => by
    simp only [refD] at e
    cases q : th[n]? with
    | none => rw [q] at e; simp at e
    | some ob =>
      cases ob with
      | ins c fs => rw [q] at e; simp at e
      | dk fs => rw [q] at e; simp at e
      | dt fs => rw [q] at e; simp at e
      | lst xs =>
        rw [q] at e
        simp only [Option.map_eq_some_iff] at e
        obtain ⟨ds, e, rfl⟩ := e
        obtain ⟨vs, q1, q2⟩ := hR.obj n a _ h q
        exact .lst (SqL.of q1) (T.datAll_dp (refD_dp hR k) xs vs ds q2 e)
theorem dat_read {tv : TV} {v : V} {d : PyData} (hR : R L ρ th H) (rv : RepV L H0 σ ρ o H tv v) (e : tv.dat th = some d) : Dp L.K H v d := by
  cases tv with
  | t x => exact T.dat_dp (refD_dp hR 40) x v d rv e
  | l xs =>
    obtain ⟨a, vs, rfl, e2, e3, _⟩ := rv
    simp only [TV.dat, Option.map_eq_some_iff] at e
    obtain ⟨ds, e, rfl⟩ := e
    exact .lst (SqL.of e2) (T.datAll_dp (refD_dp hR 40) xs vs ds e3 e)
  | s xs g =>
    obtain ⟨a, vs, rfl, e2, e3, _⟩ := rv
    simp only [TV.dat, Option.map_eq_some_iff] at e
    obtain ⟨ds, e, rfl⟩ := e
    exact .lst e2.sq (T.datAll_dp (refD_dp hR 40) xs vs ds e3 e)
/-- a list or a tuple, as it lies -/
theorem seq_read {tv : TV} {v : V} (hR : R L ρ th H) (rv : RepV L H0 σ ρ o H tv v) {α : Type} {f : List T → M α} {Φ : α → S → Prop} {ρ0 : List Addr} {H00 : Hp} (h : Pst L W ρ0 H00 σ Φ ((seqOf tv >>= f) th)) :
    ∃ k a xs vs, v = .ref a ∧ SqK L.K k H a vs ∧ RepAll L ρ H xs vs ∧ Pst L W ρ0 H00 σ Φ (f xs th) := by
  cases tv with
  | l xs =>
    obtain ⟨a, xs, vs, e1, e2, e3, h⟩ := isL_read hR rv rfl h
    exact ⟨true, a, xs, vs, e1, e2, e3, h⟩
  | s xs g =>
    obtain ⟨a, xs, vs, e1, e2, e3, h⟩ := isL_read hR rv rfl h
    exact ⟨true, a, xs, vs, e1, e2, e3, h⟩
  | t x =>
    cases x with
    | ref n =>
      obtain ⟨a, xs, vs, e1, e2, e3, h⟩ := isL_read hR rv rfl (show Pst L W ρ0 H00 σ Φ ((lstOf (.t (.ref n)) >>= f) th) from h)
      exact ⟨true, a, xs, vs, e1, e2, e3, h⟩
    | tup xs =>
      simp only [RepV, Rep] at rv
      obtain ⟨a, vs, e1, e2, e3⟩ := rv
      exact ⟨false, a, xs, vs, e1, e2, e3, h⟩
    | _ => exact h.elim
/-! ### comparisons -/
def coOp : Co → CmpOp
  | .eq => .Eq | .ne => .NotEq | .lt => .Lt | .le => .LtE | .gt => .Gt | .ge => .GtE | .is_ => .Is | .isnot => .IsNot | .in_ => .In | .notin => .NotIn
def rC (K : PySem.W.Frag) : Co → R2
  | .eq => rEqD K
  | .ne => rNeD K
  | .lt => rI0 fun i j => .bl (decide (i < j))
  | .le => rI0 fun i j => .bl (decide (i ≤ j))
  | .gt => rI0 fun i j => .bl (decide (j < i))
  | .ge => rI0 fun i j => .bl (decide (j ≤ i))
  | .is_ => fun x y H Q => y = .non ∧ Q (.bl (decide (x = .non))) H
  | .isnot => fun x y H Q => y = .non ∧ Q (.bl (!decide (x = .non))) H
  | .in_ => rInK K false
  | .notin => rInK K true
theorem opC (hu : X.A.units + 65 < cLine) : ∀ o : Co, OpR X (compareOp (coOp o)) (rC X.K o)
  | .eq => op_eqD (by omega)
  | .ne => op_neD (by omega)
  | .lt => op_lt
  | .le => op_le
  | .gt => op_gt
  | .ge => op_ge
  | .is_ => op_isN
  | .isnot => op_notN
  | .in_ => op_inK hu
  | .notin => op_notInK hu
theorem none_read {tv : TV} {v : V} (rv : RepV L H0 σ ρ o H tv v) : decide (v = .non) = isNone tv := by
  cases tv with
  | l xs => obtain ⟨a, vs, rfl, _⟩ := rv; rfl
  | s xs g => obtain ⟨a, vs, rfl, _⟩ := rv; rfl
  | t x =>
    cases x with
    | non => simp only [RepV, Rep] at rv; subst rv; rfl
    | bl b => simp only [RepV, Rep] at rv; subst rv; rfl
    | int i => simp only [RepV, Rep] at rv; subst rv; rfl
    | str i => simp only [RepV, Rep] at rv; subst rv; rfl
    | tup xs => simp only [RepV, Rep] at rv; obtain ⟨a, vs, rfl, _⟩ := rv; rfl
    | ref n => simp only [RepV, Rep] at rv; obtain ⟨a, rfl, _⟩ := rv; rfl
    | fn k => simp only [RepV, Rep] at rv; subst rv; rfl
    | cl k => simp only [RepV, Rep] at rv; subst rv; rfl
    | ty k => simp only [RepV, Rep] at rv; subst rv; rfl
theorem ord_read {x y : TV} {v w : V} {p : Int → Int → Bool} (rx : RepV L H0 σ ρ o H x v) (ry : RepV L H1 σ ρ o H y w) {α : Type} {f : Bool → M α} {Φ : α → S → Prop} {ρ0 : List Addr} {H00 : Hp}
    (h : Pst L W ρ0 H00 σ Φ ((ordI p x y >>= f) th)) : ∃ i j, v = .int i ∧ w = .int j ∧ Pst L W ρ0 H00 σ Φ (f (p i j) th) := by
  unfold ordI at h
  rw [bind_assoc'] at h
  obtain ⟨i, e1, h⟩ := int_read rx h
  rw [bind_assoc'] at h
  obtain ⟨j, e2, h⟩ := int_read ry h
  exact ⟨i, j, e1, e2, h⟩
theorem any_read {x y : TV} {v w : V} (hR : R L ρ th H) (rx : RepV L H0 σ ρ o H x v) (ry : RepV L H1 σ ρ o H y w) {α : Type} {f : Bool → M α} {Φ : α → S → Prop} {ρ0 : List Addr} {H00 : Hp}
    (h : Pst L W ρ0 H00 σ Φ ((seqOf y >>= fun xs => datAny x xs >>= f) th)) : ∃ d ds, Dp L.K H v d ∧ (Dp L.K H w (.list ds) ∨ Dp L.K H w (.tuple ds)) ∧ SeqAt.shaped d = true ∧ SeqAt.shaped (.list ds) = true ∧ Pst L W ρ0 H00 σ Φ (f (ds.any fun z => PyData.eqv z d) th) := by
  obtain ⟨k, a, xs, vs, rfl, e2, e3, h⟩ := seq_read hR ry h
  rw [bind_app] at h
  unfold datAny at h
  cases e4 : x.dat th with
  | none => simp only [e4] at h; exact h.elim
  | some d =>
    cases e5 : T.datAll (refD th 40) xs with
    | none => simp only [e4, e5] at h; exact h.elim
    | some ds =>
      simp only [e4, e5] at h
      split at h
      · rename_i hs
        split at hs
        · rename_i hsh
          rw [Bool.and_eq_true] at hsh
          cases hs
          refine ⟨d, ds, dat_read hR rx e4, ?_, hsh.1, hsh.2, h⟩
          have da := T.datAll_dp (refD_dp hR 40) xs vs ds e3 e5
          cases k with
          | true => exact .inl (.lst e2 da)
          | false => exact .inr (.tup e2 da)
        · cases hs
      · rename_i hs
        split at hs <;> cases hs
      · exact h.elim
theorem eq_read {x y : TV} {v w : V} (hR : R L ρ th H) (rx : RepV L H0 σ ρ o H x v) (ry : RepV L H1 σ ρ o H y w) {α : Type} {f : Bool → M α} {Φ : α → S → Prop} {ρ0 : List Addr} {H00 : Hp}
    (h : Pst L W ρ0 H00 σ Φ ((datEq x y >>= f) th)) : ∃ d e, Dp L.K H v d ∧ Dp L.K H w e ∧ SeqAt.shaped d = true ∧ SeqAt.shaped e = true ∧ Pst L W ρ0 H00 σ Φ (f (PyData.eqv d e) th) := by
  rw [bind_app] at h
  unfold datEq at h
  cases e4 : x.dat th with
  | none => simp only [e4] at h; exact h.elim
  | some d =>
    cases e5 : y.dat th with
    | none => simp only [e4, e5] at h; exact h.elim
    | some e =>
      simp only [e4, e5] at h
      split at h
      · rename_i hs
        split at hs
        · rename_i hsh
          rw [Bool.and_eq_true] at hsh
          cases hs
          exact ⟨d, e, dat_read hR rx e4, dat_read hR ry e5, hsh.1, hsh.2, h⟩
        · cases hs
      · rename_i hs
        split at hs <;> cases hs
      · exact h.elim
theorem cmp_read {x y : TV} {v w : V} (hR : R L ρ th H) (rx : RepV L H0 σ ρ o H x v) (ry : RepV L H1 σ ρ o H y w) {α : Type} {f : Bool → M α} {Φ : α → S → Prop} {ρ0 : List Addr} {H00 : Hp} {Q : VK} :
    ∀ c : Co, Pst L W ρ0 H00 σ Φ ((cmp c x y >>= f) th) → (∀ b, Pst L W ρ0 H00 σ Φ (f b th) → Q (.bl b) H) → rC L.K c v w H Q
  | .eq, h, k => by
    obtain ⟨d, e, h1, h2, h3, h4, h⟩ := eq_read hR rx ry h
    exact ⟨d, e, h1, h2, h3, h4, k _ h⟩
  | .ne, h, k => by
    have h : Pst L W ρ0 H00 σ Φ ((datEq x y >>= fun r => f (!r)) th) := by
      have e : ((cmp .ne x y) >>= f) = (datEq x y >>= fun r => f (!r)) := by
        show ((datEq x y >>= fun r => pure (!r)) >>= f) = _
        rw [bind_assoc']; rfl
      rw [← e]; exact h
    obtain ⟨d, e, h1, h2, h3, h4, h⟩ := eq_read hR rx ry h
    exact ⟨d, e, h1, h2, h3, h4, k _ h⟩
  | .lt, h, k => by obtain ⟨i, j, e1, e2, h⟩ := ord_read rx ry h; exact ⟨i, j, e1, e2, k _ h⟩
  | .le, h, k => by obtain ⟨i, j, e1, e2, h⟩ := ord_read rx ry h; exact ⟨i, j, e1, e2, k _ h⟩
  | .gt, h, k => by obtain ⟨i, j, e1, e2, h⟩ := ord_read rx ry h; exact ⟨i, j, e1, e2, k _ h⟩
  | .ge, h, k => by obtain ⟨i, j, e1, e2, h⟩ := ord_read rx ry h; exact ⟨i, j, e1, e2, k _ h⟩
  | .is_, h, k => by
    have h : Pst L W ρ0 H00 σ Φ (((if isNone y then pure (isNone x) else fail : M Bool) >>= f) th) := h
    split at h
    · rename_i hn
      have e := none_read ry
      rw [hn] at e
      exact ⟨of_decide_eq_true e, by rw [none_read rx]; exact k _ h⟩
    · exact h.elim
  | .isnot, h, k => by
    have h : Pst L W ρ0 H00 σ Φ (((if isNone y then pure (!isNone x) else fail : M Bool) >>= f) th) := h
    split at h
    · rename_i hn
      have e := none_read ry
      rw [hn] at e
      exact ⟨of_decide_eq_true e, by rw [none_read rx]; exact k _ h⟩
    · exact h.elim
  | .in_, h, k => by
    have h : Pst L W ρ0 H00 σ Φ ((seqOf y >>= fun xs => datAny x xs >>= f) th) := by
      have e : ((cmp .in_ x y) >>= f) = (seqOf y >>= fun xs => datAny x xs >>= f) := by
        show ((seqOf y >>= fun xs => datAny x xs) >>= f) = _
        rw [bind_assoc']
      rw [← e]; exact h
    obtain ⟨d, ds, h1, h2, h3, h4, h⟩ := any_read hR rx ry h
    exact ⟨d, ds, h1, h2, h3, h4, by rw [if_neg Bool.false_ne_true]; exact k _ h⟩
  | .notin, h, k => by
    have h : Pst L W ρ0 H00 σ Φ ((seqOf y >>= fun xs => datAny x xs >>= fun r => f (!r)) th) := by
      have e : ((cmp .notin x y) >>= f) = (seqOf y >>= fun xs => datAny x xs >>= fun r => f (!r)) := by
        show ((seqOf y >>= fun xs => datAny x xs >>= fun r => pure (!r)) >>= f) = _
        rw [bind_assoc']
        congr 1
        funext xs
        rw [bind_assoc']; rfl
      rw [← e]; exact h
    obtain ⟨d, ds, h1, h2, h3, h4, h⟩ := any_read hR rx ry h
    exact ⟨d, ds, h1, h2, h3, h4, by rw [if_pos rfl]; exact k _ h⟩
theorem sv_cmp {a b : Expr} {ca cb : E} {c : Co} (hK : X.K = L.K) (hu : X.A.units + 65 < cLine) (ha : PE X a (SV P L C W ca)) (hb : PE X b (SV P L C W cb)) (hm : behindInMarks (coOp c) b = false) : PE X (.Compare a [coOp c] [b] pos) (SV P L C W (.cmp c ca cb)) := by
  have r := pe_cmpR (pos := pos) (opC hu c) ha hb hm
  rw [hK] at r
  refine PE.imp r fun σ H Q ⟨ρ, th, env, hR, hE, h⟩ => ?_
  simp only [evalV] at h
  refine sv_step hR hE h fun ρ1 th1 H1 x v x1 R1 E1 rv h1 => ?_
  refine sv_step R1 E1 (h1.base x1) fun ρ2 th2 H2 y w x2 R2 E2 rw' h2 => ?_
  exact cmp_read R2 (rv.ext R1 x2) rw' c h2 fun b hb => fin_ok hb (x1.trans x2) R2 (by simp only [RepV, Rep])
end
end Mini
/-! Mini: tests; displays, items, slices. -/
set_option linter.all false
set_option maxRecDepth 10000
namespace Mini
open PySem PySem.Spec PyProof.Rows L2
section
variable {P : Prog} {L : Lay} {C : Call} {W : WX} {X : Cx} {ρ ρ' ρ1 ρ2 : List Addr} {H H' H1 H2 H0 : Hp} {σ : L2.St} {env : Env} {th th1 th2 : S} {o o' : Addr → Prop} {pos : Pos}
theorem bind_pure' {α : Type} (m : M α) : (m >>= pure) = m := by
  funext s
  show (match m s with | .ok a s' => .ok a s' | .exc e s' => .exc e s' | .bad => .bad) = m s
  cases m s <;> rfl
theorem fin_st {Q : Bool → Hp → Prop} {b : Bool} {H3 : Hp} (h : Pst L W ρ1 H1 σ (fun (b : Bool) th' => ∀ ρ' H', Ex0 ρ H ρ' H' → R L ρ' th' H' → Q b H') (.ok b th2)) (x : Ex0 ρ H ρ2 H3) (r : R L ρ2 th2 H3) : Q b H3 := h ρ2 H3 x r
theorem st_of_sv {a : Expr} {ca : E} (hK : X.K = L.K) (ha : PE X a (SV P L C W ca)) (he : ∀ whole, isTrue a X.env whole = (do let v ← whole; standAt a.pos; holding [v] (truthy v))) : PT X a (ST P L C W ca) := by
  have r := pt_truth ha he
  rw [hK] at r
  refine PT.imp r fun σ H Q ⟨ρ, th, env, hR, hE, h⟩ => ?_
  refine sv_step hR hE h fun ρ1 th1 H1 x v x1 R1 E1 rv h1 => ?_
  rw [← bind_pure' (truth x)] at h1
  obtain ⟨k, e, h2⟩ := truth_read R1 rv h1
  exact ⟨k, e, fin_st h2 x1 R1⟩
/-- truth changes nothing -/
theorem truth_st {x : TV} {s s' : S} {b : Bool} (h : truth x s = .ok b s') : s' = s := by
  unfold truth at h
  split at h
  all_goals first
    | (cases h; rfl)
    | (split at h <;> cases h <;> rfl)
    | (cases (show (Res.bad : Res Bool) = .ok b s' from h); done)
    | skip
  rename_i n
  rw [bind_app] at h
  unfold deref at h
  cases e : s[n]? with
  | none => simp only [e] at h; cases h
  | some ob => cases ob <;> simp only [e] at h <;> (cases h; try rfl)
abbrev evT (P : Prog) (C : Call) (c : E) (env : Env) : M Bool := do let v ← evalV P C c env; truth v
theorem evT_not (c : E) : evT P C (.not c) env = (do let b ← evT P C c env; pure (!b)) := by
  show ((evalV P C (.not c) env) >>= truth) = ((evalV P C c env >>= truth) >>= fun b => pure (!b))
  rw [evalV, bind_assoc', bind_assoc']
  congr 1
  funext x
  rw [bind_assoc']
  rfl
theorem evT_and (a b : E) : evT P C (.and a b) env = (do let t ← evT P C a env; if t then evT P C b env else pure false) := by
  show ((evalV P C (.and a b) env) >>= truth) = ((evalV P C a env >>= truth) >>= fun t => if t then (evalV P C b env >>= truth) else pure false)
  rw [evalV, bind_assoc', bind_assoc']
  congr 1
  funext x s
  rw [bind_assoc', bind_app, bind_app]
  cases e : truth x s with
  | bad => rfl
  | exc q s' => rfl
  | ok t s' =>
    have := truth_st e
    subst this
    cases t with
    | true => rfl
    | false =>
      show truth x s' = _
      rw [e]; rfl
theorem evT_or (a b : E) : evT P C (.or a b) env = (do let t ← evT P C a env; if t then pure true else evT P C b env) := by
  show ((evalV P C (.or a b) env) >>= truth) = ((evalV P C a env >>= truth) >>= fun t => if t then pure true else (evalV P C b env >>= truth))
  rw [evalV, bind_assoc', bind_assoc']
  congr 1
  funext x s
  rw [bind_assoc', bind_app, bind_app]
  cases e : truth x s with
  | bad => rfl
  | exc q s' => rfl
  | ok t s' =>
    have := truth_st e
    subst this
    cases t with
    | false => rfl
    | true =>
      show truth x s' = _
      rw [e]; rfl
theorem st_not {a : Expr} {ca : E} (ha : PT X a (ST P L C W ca)) : PT X (.UnaryOp .Not a pos) (ST P L C W (.not ca)) := by
  refine PT.imp (pt_not ha) fun σ H Q ⟨ρ, th, env, hR, hE, h⟩ => ?_
  have h : Pst L W ρ H σ _ (evT P C (.not ca) env th) := h
  rw [evT_not] at h
  exact st_step hR hE h fun ρ1 th1 H1 b x1 R1 E1 h1 => fin_st h1 x1 R1
theorem st_one {a : Expr} {ca : E} (ha : PT X a (ST P L C W ca)) : PW X (.BoolOp .And [a] pos) (ST P L C W ca) := pw_and1 ha
theorem st_one' {a : Expr} {ca : E} (ha : PT X a (ST P L C W ca)) : PW X (.BoolOp .Or [a] pos) (ST P L C W ca) := pw_or1 ha
theorem st_tail {a : E} {Q : Bool → Hp → Prop} (hR : R L ρ1 th1 H1) (hE : EnvR L ρ1 H1 env σ) (x1 : Ex0 ρ H ρ1 H1)
    (h : Pst L W ρ H σ (fun (b : Bool) th' => ∀ ρ' H', Ex0 ρ H ρ' H' → R L ρ' th' H' → Q b H') (evT P C a env th1)) : ST P L C W a σ H1 Q :=
  ⟨ρ1, th1, env, hR, hE, (h.base x1).imp fun b th2 q ρ2 H2 x2 r2 => q ρ2 H2 (x1.trans x2) r2⟩
theorem PW.imp {e : Expr} {t t' : TT} (h : PW X e t) (k : ∀ σ H Q, t' σ H Q → t σ H Q) : PW X e t' := ⟨fun wh pins s σ H Q I q => h.run wh pins s σ H Q I (k σ H Q q)⟩
theorem st_and {a b : Expr} {rest : List Expr} {ca cb : E} (ha : PT X a (ST P L C W ca)) (hb : PW X (.BoolOp .And (b :: rest) pos) (ST P L C W cb)) : PW X (.BoolOp .And (a :: b :: rest) pos) (ST P L C W (.and ca cb)) := by
  refine PW.imp (pw_and ha hb) fun σ H Q ⟨ρ, th, env, hR, hE, h⟩ => ?_
  have h : Pst L W ρ H σ _ (evT P C (.and ca cb) env th) := h
  rw [evT_and] at h
  refine st_step hR hE h fun ρ1 th1 H1 b x1 R1 E1 h1 => ?_
  cases b with
  | true => rw [if_pos rfl] at h1 ⊢; exact st_tail R1 E1 x1 h1
  | false => rw [if_neg Bool.false_ne_true] at h1 ⊢; exact fin_st h1 x1 R1
theorem st_or {a b : Expr} {rest : List Expr} {ca cb : E} (ha : PT X a (ST P L C W ca)) (hb : PW X (.BoolOp .Or (b :: rest) pos) (ST P L C W cb)) : PW X (.BoolOp .Or (a :: b :: rest) pos) (ST P L C W (.or ca cb)) := by
  refine PW.imp (pw_or ha hb) fun σ H Q ⟨ρ, th, env, hR, hE, h⟩ => ?_
  have h : Pst L W ρ H σ _ (evT P C (.or ca cb) env th) := h
  rw [evT_or] at h
  refine st_step hR hE h fun ρ1 th1 H1 b x1 R1 E1 h1 => ?_
  cases b with
  | true => rw [if_pos rfl] at h1 ⊢; exact fin_st h1 x1 R1
  | false => rw [if_neg Bool.false_ne_true] at h1 ⊢; exact st_tail R1 E1 x1 h1
theorem evT_cmp (c : Co) (a b : E) : evT P C (.cmp c a b) env = (do let x ← evalV P C a env; let y ← evalV P C b env; cmp c x y) := by
  show ((evalV P C (.cmp c a b) env) >>= truth) = _
  rw [evalV, bind_assoc']
  congr 1
  funext x
  rw [bind_assoc']
  congr 1
  funext y
  rw [bind_assoc']
  exact bind_pure' _
theorem st_cmp {a b : Expr} {ca cb : E} {c : Co} (hK : X.K = L.K) (hu : X.A.units + 65 < cLine) (ha : PE X a (SV P L C W ca)) (hb : PE X b (SV P L C W cb)) (hm : behindInMarks (coOp c) b = false) : PT X (.Compare a [coOp c] [b] pos) (ST P L C W (.cmp c ca cb)) := by
  have r := pt_cmpR (pos := pos) (opC hu c) ha hb hm
  rw [hK] at r
  refine PT.imp r fun σ H Q ⟨ρ, th, env, hR, hE, h⟩ => ?_
  have h : Pst L W ρ H σ _ (evT P C (.cmp c ca cb) env th) := h
  rw [evT_cmp] at h
  show SV P L C W ca σ H _
  refine sv_step hR hE h fun ρ1 th1 H1 x v x1 R1 E1 rv h1 => ?_
  refine sv_step R1 E1 (h1.base x1) fun ρ2 th2 H2 y w x2 R2 E2 rw' h2 => ?_
  rw [← bind_pure' (cmp c x y)] at h2
  exact cmp_read R2 (rv.ext R1 x2) rw' c h2 fun b hb => ⟨b, rfl, fin_st hb (x1.trans x2) R2⟩
/-! ### chains -/
theorem evT_chn (c d : Co) (a b e : E) : evT P C (.chn c d a b e) env = (do let x ← evalV P C a env; let y ← evalV P C b env; let r ← cmp c x y; if r then (do let z ← evalV P C e env; cmp d y z) else pure false) := by
  show ((evalV P C (.chn c d a b e) env) >>= truth) = _
  rw [evalV, bind_assoc']
  congr 1
  funext x
  rw [bind_assoc']
  congr 1
  funext y
  rw [bind_assoc']
  congr 1
  funext r
  cases r with
  | false => rfl
  | true =>
    show ((evalV P C e env >>= fun z => cmp d y z >>= fun q => pure (.t (.bl q))) >>= truth) = _
    rw [bind_assoc']
    show _ = (evalV P C e env >>= fun z => cmp d y z)
    congr 1
    funext z
    rw [bind_assoc']
    exact bind_pure' _
theorem sv_chn {a b e : Expr} {ca cb ce : E} {c d : Co} (hK : X.K = L.K) (hu : X.A.units + 65 < cLine) (ha : PE X a (SV P L C W ca)) (hb : PE X b (SV P L C W cb)) (he : PE X e (SV P L C W ce)) (hm : behindInMarks (coOp d) e = false) :
    PE X (.Compare a [coOp c, coOp d] [b, e] pos) (SV P L C W (.chn c d ca cb ce)) := by
  have r := pe_chain (pos := pos) (opC hu c) (opC hu d) ha hb he hm
  rw [hK] at r
  refine PE.imp r fun σ H Q ⟨ρ, th, env, hR, hE, h⟩ => ?_
  simp only [evalV] at h
  show SV P L C W ca σ H _
  refine sv_step hR hE h fun ρ1 th1 H1 x v x1 R1 E1 rv h1 => ?_
  refine sv_step R1 E1 (h1.base x1) fun ρ2 th2 H2 y w x2 R2 E2 rw' h2 => ?_
  refine cmp_read R2 (rv.ext R1 x2) rw' c h2 fun r hr => ⟨r, rfl, ?_⟩
  have x12 := x1.trans x2
  cases r with
  | false =>
    rw [if_neg Bool.false_ne_true] at hr ⊢
    exact fin_ok hr x12 R2 (by simp only [RepV, Rep])
  | true =>
    rw [if_pos rfl] at hr ⊢
    refine sv_step R2 E2 (hr.base x2) fun ρ3 th3 H3 z u x3 R3 E3 ru h3 => ?_
    exact cmp_read R3 (rw'.ext R2 x3) ru d h3 fun b hb => fin_ok hb (x12.trans x3) R3 (by simp only [RepV, Rep])
theorem st_chn {a b e : Expr} {ca cb ce : E} {c d : Co} (hK : X.K = L.K) (hu : X.A.units + 65 < cLine) (ha : PE X a (SV P L C W ca)) (hb : PE X b (SV P L C W cb)) (he : PE X e (SV P L C W ce)) (hm : behindInMarks (coOp d) e = false) :
    PT X (.Compare a [coOp c, coOp d] [b, e] pos) (ST P L C W (.chn c d ca cb ce)) := by
  have r := pt_chain (pos := pos) (opC hu c) (opC hu d) ha hb he hm
  rw [hK] at r
  refine PT.imp r fun σ H Q ⟨ρ, th, env, hR, hE, h⟩ => ?_
  have h : Pst L W ρ H σ _ (evT P C (.chn c d ca cb ce) env th) := h
  rw [evT_chn] at h
  show SV P L C W ca σ H _
  refine sv_step hR hE h fun ρ1 th1 H1 x v x1 R1 E1 rv h1 => ?_
  refine sv_step R1 E1 (h1.base x1) fun ρ2 th2 H2 y w x2 R2 E2 rw' h2 => ?_
  refine cmp_read R2 (rv.ext R1 x2) rw' c h2 fun r hr => ⟨r, rfl, ?_⟩
  have x12 := x1.trans x2
  cases r with
  | false =>
    rw [if_neg Bool.false_ne_true] at hr ⊢
    exact ⟨false, rfl, fin_st hr x12 R2⟩
  | true =>
    rw [if_pos rfl] at hr ⊢
    refine sv_step R2 E2 (hr.base x2) fun ρ3 th3 H3 z u x3 R3 E3 ru h3 => ?_
    rw [← bind_pure' (cmp d y z)] at h3
    exact cmp_read R3 (rw'.ext R2 x3) ru d h3 fun b hb => ⟨b, rfl, fin_st hb (x12.trans x3) R3⟩
/-! ### a if t else b -/
theorem sv_ite {c a b : Expr} {cc ca cb : E} (hc : PT X c (ST P L C W cc)) (ha : PE X a (SV P L C W ca)) (hb : PE X b (SV P L C W cb)) : PE X (.IfExp c a b pos) (SV P L C W (.ite cc ca cb)) := by
  refine PE.imp (pe_ifExp hc ha hb) fun σ H Q ⟨ρ, th, env, hR, hE, h⟩ => ?_
  simp only [evalV] at h
  rw [← bind_assoc'] at h
  refine st_step hR hE h fun ρ1 th1 H1 t x1 R1 E1 h1 => ?_
  cases t with
  | true => rw [if_pos rfl] at h1 ⊢; exact sv_tail (Φ := fun _ _ => True) R1 E1 x1 hR h1
  | false => rw [if_neg Bool.false_ne_true] at h1 ⊢; exact sv_tail (Φ := fun _ _ => True) R1 E1 x1 hR h1
/-! ### items, displays -/
theorem sts_nil : PA X [] (STs P L C W .nil) := by
  refine PA.imp pa_nil fun σ H Q ⟨ρ, th, env, hR, hE, h⟩ => ?_
  simp only [evalTs] at h
  exact h ρ [] H Ext.refl hR (by simp only [RepAll])
theorem sts_cons {e : Expr} {es : List Expr} {c : E} {cs : Es} (he : PE X e (SV P L C W c)) (hes : PA X es (STs P L C W cs)) (hs : starEach (e :: es) X.env = (false, eval e X.env) :: starEach es X.env) : PA X (e :: es) (STs P L C W (.cons c cs)) := by
  refine PA.imp (pa_cons he hes hs) fun σ H Q ⟨ρ, th, env, hR, hE, h⟩ => ?_
  simp only [evalTs] at h
  refine sv_step hR hE h fun ρ1 th1 H1 x v x1 R1 E1 rv h1 => ?_
  refine mat_step R1 x1 rv h1 fun ρ2 th2 y x2 R2 ry _ h2 => ?_
  refine ⟨ρ2, th2, env, R2, hE.ext hR x2, (h2.base x2).bind.imp fun ys th3 q ρ3 vs H3 x3 r3 rs => ?_⟩
  exact q ρ3 _ _ (x2.trans x3) r3 ((rs).cons (R2.rep x3 OL.no ry))
theorem sv_tup {es : List Expr} {cs : Es} {k : Nat} (hes : PA X es (STs P L C W cs)) : PE X (.Tuple es k pos) (SV P L C W (.tup cs)) := by
  refine PE.imp (pe_tup hes) fun σ H Q ⟨ρ, th, env, hR, hE, h⟩ => ?_
  simp only [evalV] at h
  refine ⟨ρ, th, env, hR, hE, h.bind.imp fun xs th1 q ρ1 vs H1 x1 r1 rs => ?_⟩
  have l := rs.length
  split at q
  · exact ⟨by omega, fun p hp => fin_ok q (x1.trans (Ext.new1 hp)) (r1.new1 hp) (new_tup r1 hp rs)⟩
  · exact q.elim
theorem sv_lst {es : List Expr} {cs : Es} (hes : PA X es (STs P L C W cs)) : PE X (.List es pos) (SV P L C W (.lst cs)) := by
  refine PE.imp (pe_lst hes) fun σ H Q ⟨ρ, th, env, hR, hE, h⟩ => ?_
  simp only [evalV] at h
  refine ⟨ρ, th, env, hR, hE, h.bind.imp fun xs th1 q ρ1 vs H1 x1 r1 rs => ?_⟩
  have l := rs.length
  split at q
  · exact ⟨by omega, fun p hp => fin_ok q (x1.trans (Ext.new1 hp)) (r1.new1 hp) (new_lst r1 hp rs (r1.free x1 (fun _ z => z.elim) hp))⟩
  · exact q.elim
theorem atI_rep {xs : List T} {vs : List V} {i : Int} {t : T} (h : RepAll L ρ H xs vs) (e : atI xs i = some t) : ∃ v, atI vs i = some v ∧ Rep L ρ H t v := by
  unfold atI at e ⊢
  rw [← h.length]
  cases q : ixN xs.length i with
  | none => rw [q] at e; simp at e
  | some j =>
    rw [q] at e
    exact h.get (show xs[j]? = some t from e)
theorem sv_ix {a b : Expr} {ca cb : E} (hK : X.K = L.K) (ha : PE X a (SV P L C W ca)) (hb : PE X b (SV P L C W cb)) (hs : PlainIx b) : PE X (.Subscript a b pos) (SV P L C W (.ix ca cb)) := by
  have r := pe_ix (pos := pos) (ix_list.or ix_tup) ha hb hs
  rw [hK] at r
  refine PE.imp r fun σ H Q ⟨ρ, th, env, hR, hE, h⟩ => ?_
  simp only [evalV] at h
  refine sv_step hR hE h fun ρ1 th1 H1 x v x1 R1 E1 rv h1 => ?_
  refine sv_step R1 E1 (h1.base x1) fun ρ2 th2 H2 y w x2 R2 E2 rw' h2 => ?_
  replace rv := rv.ext R1 x2
  unfold ixOf at h2
  split at h2
  · rename_i i
    obtain ⟨k, p, xs, vs, rfl, q1, q2, h3⟩ := seq_read R2 rv h2
    simp only [RepV, Rep] at rw'
    unfold ofO at h3
    cases e : atI xs i with
    | none => rw [e] at h3; exact h3.elim
    | some t =>
      rw [e] at h3
      obtain ⟨u, e1, e2⟩ := atI_rep q2 e
      have f := fin_ok (v := u) h3 (x1.trans x2) R2 e2
      cases k with
      | true => exact .inl ⟨p, vs, i, u, rfl, rw', q1, e1, f⟩
      | false => exact .inr ⟨p, vs, i, u, rfl, rw', q1, e1, f⟩
  · exact h2.elim
/-! ### slices -/
def SO (P : Prog) (L : Lay) (C : Call) (W : WX) (c : E) : TO := fun σ H Q => ∃ ρ th env, R L ρ th H ∧ EnvR L ρ H env σ ∧
  Pst L W ρ H σ (fun (i : Option Int) th' => ∀ ρ' H', Ex0 ρ H ρ' H' → R L ρ' th' H' → Q i H') ((do let v ← evalV P C c env; partOf (isNonK c) v : M (Option Int)) th)
theorem PO.imp {e : Option Expr} {t t' : TO} (h : PO X e t) (k : ∀ σ H Q, t' σ H Q → t σ H Q) : PO X e t' := ⟨fun pins s σ H Q I q => h.run pins s σ H Q I (k σ H Q q)⟩
theorem so_none : PO X none (SO P L C W (.k .non)) := by
  refine PO.imp po_none fun σ H Q ⟨ρ, th, env, hR, hE, h⟩ => ?_
  simp only [evalV] at h
  exact h ρ H Ext.refl hR
theorem so_some {e : Expr} {c : E} (he : PE X e (SV P L C W c)) (hn : isNonK c = false) : PO X (some e) (SO P L C W c) := by
  refine PO.imp (po_some he) fun σ H Q ⟨ρ, th, env, hR, hE, h⟩ => ?_
  rw [hn] at h
  refine sv_step hR hE h fun ρ1 th1 H1 x v x1 R1 E1 rv h1 => ?_
  obtain ⟨i, e1, h3⟩ := int_read rv h1
  exact ⟨i, e1, h3 ρ1 H1 x1 R1⟩
theorem so_step {β : Type} {a : E} {f : Option Int → M β} {Φ : β → S → Prop} {Q : Option Int → Hp → Prop} (hR : R L ρ th H) (hE : EnvR L ρ H env σ) (h : Pst L W ρ H σ Φ ((evalV P C a env >>= fun v => partOf (isNonK a) v >>= f) th))
    (k : ∀ ρ1 th1 H1 b, Ex0 ρ H ρ1 H1 → R L ρ1 th1 H1 → EnvR L ρ1 H1 env σ → Pst L W ρ H σ Φ (f b th1) → Q b H1) : SO P L C W a σ H Q := by
  rw [← bind_assoc'] at h
  exact ⟨ρ, th, env, hR, hE, h.bind.imp fun b th1 q ρ1 H1 x r => k ρ1 th1 H1 b x r (hE.ext hR x) q⟩
theorem RepAll.cut {xs : List T} {vs : List V} {lo hi : Option Int} (h : RepAll L ρ H xs vs) : RepAll L ρ H (Mini.cut xs lo hi) (cutV vs lo hi) := by
  unfold Mini.cut cutV
  rw [← h.length]
  exact (h.drop _).take _
theorem cut_whole {α : Type} {xs : List α} {lo hi : Option Int} (h : HT.sIx xs.length 0 lo = 0 ∧ HT.sIx xs.length xs.length hi = xs.length) : Mini.cut xs lo hi = xs := by
  unfold Mini.cut
  rw [h.1, h.2, List.drop_zero, Nat.sub_zero]
  exact List.take_of_length_le (Nat.le_refl _)
theorem sv_sl {a : Expr} {lo hi : Option Expr} {ca cl ch : E} {p2 : Pos} (hK : X.K = L.K) (ha : PE X a (SV P L C W ca)) (hl : PO X lo (SO P L C W cl)) (hh : PO X hi (SO P L C W ch)) : PE X (.Subscript a (.Slice lo hi none p2) pos) (SV P L C W (.sl ca cl ch)) := by
  have r := pe_slice (pos := pos) (p2 := p2) (sl_list.or sl_tupA) ha hl hh
  rw [hK] at r
  refine PE.imp r fun σ H Q ⟨ρ, th, env, hR, hE, h⟩ => ?_
  simp only [evalV] at h
  refine sv_step hR hE h fun ρ1 th1 H1 x v x1 R1 E1 rv h1 => ?_
  refine so_step R1 E1 (h1.base x1) fun ρ2 th2 H2 l x2 R2 E2 h2 => ?_
  refine so_step R2 E2 (h2.base x2) fun ρ3 th3 H3 u x3 R3 E3 h3 => ?_
  replace rv := (rv.ext R1 x2).ext R2 x3
  have x13 := (x1.trans x2).trans x3
  unfold slOf at h3
  split at h3
  · rename_i xs
    simp only [RepV, Rep] at rv
    obtain ⟨p, vs, rfl, q1, q2⟩ := rv
    have ln := q2.length
    refine .inr ⟨p, vs, rfl, q1, fun z => ?_, fun z t ht => ?_⟩
    · rw [← ln] at z
      rw [cut_whole z] at h3
      exact fin_ok h3 x13 R3 (by simp only [RepV, Rep]; exact ⟨p, vs, rfl, q1, q2⟩)
    · exact fin_ok h3 (x13.trans (Ext.new1 ht)) (R3.new1 ht) (new_tup R3 ht q2.cut)
  · rename_i hne
    have hl : isL x = true ∨ isL x = false := by cases isL x <;> simp
    rcases hl with hl | hl
    · obtain ⟨p, xs, vs, rfl, q1, q2, h4⟩ := isL_read R3 rv hl h3
      exact .inl ⟨p, vs, rfl, q1, fun t ht => fin_ok h4 (x13.trans (Ext.new1 ht)) (R3.new1 ht) (new_lst R3 ht q2.cut (R3.free x13 (fun _ z => z.elim) ht))⟩
    · exfalso
      cases x with
      | t y => cases y <;> first | exact h3.elim | (simp [isL] at hl; done) | exact hne _ rfl
      | l xs => simp [isL] at hl
      | s xs g => simp [isL] at hl
theorem sv_rev {e : Expr} {c : E} {k : Nat} {p1 p2 p3 : Pos} (hK : X.K = L.K) (he : PE X e (SV P L C W c)) : PE X (.Subscript e (.Slice none none (some (.UnaryOp .USub (.Constant (.int 1) k p1) p2)) p3) pos) (SV P L C W (.rev c)) := by
  have r := pe_revA (k := k) (p1 := p1) (p2 := p2) (p3 := p3) (pos := pos) he
  rw [hK] at r
  refine PE.imp r fun σ H Q ⟨ρ, th, env, hR, hE, h⟩ => ?_
  simp only [evalV] at h
  refine sv_step hR hE h fun ρ1 th1 H1 x v x1 R1 E1 rv h1 => ?_
  unfold revOf at h1
  split at h1
  · rename_i xs
    simp only [RepV, Rep] at rv
    obtain ⟨p, vs, rfl, q1, q2⟩ := rv
    exact ⟨p, vs, rfl, .inr ⟨q1, fun t ht => fin_ok h1 (x1.trans (Ext.new1 ht)) (R1.new1 ht) (new_tup R1 ht q2.reverse)⟩⟩
  · rename_i hne
    have hl : isL x = true ∨ isL x = false := by cases isL x <;> simp
    rcases hl with hl | hl
    · obtain ⟨p, xs, vs, rfl, q1, q2, h4⟩ := isL_read R1 rv hl h1
      exact ⟨p, vs, rfl, .inl ⟨q1, fun t ht => fin_ok h4 (x1.trans (Ext.new1 ht)) (R1.new1 ht) (new_lst R1 ht q2.reverse (R1.free x1 (fun _ z => z.elim) ht))⟩⟩
    · exfalso
      cases x with
      | t y => cases y <;> first | exact h1.elim | (simp [isL] at hl; done) | exact hne _ rfl
      | l xs => simp [isL] at hl
      | s xs g => simp [isL] at hl
end
end Mini
/-! Mini: a def's promise where no repr is under way. -/
set_option linter.all false
set_option maxRecDepth 10000
namespace Mini
open PySem PySem.Spec PyProof.Rows L2
structure FnG (P : Program) (w : World) (K : PySem.W.Frag) (mg : Str → Option Value) (base : Heap) (CX : CXT) (k : Nat) (f : Addr) (fd : FuncData) (ps : List Str) (sp : Sp) : Prop where
  len : ∀ vs H Q E, sp vs H Q E → vs.length = ps.length
  run : ∀ (A : Around) (outer : List PySem.Env) (s : Shared) (H : Hp) (args : Args) (us : List Value) (vs : List V) (Q : VK) (E : XK), A.guards = some [] → Room k A → Env0 P w K mg base A outer s H → BindsTo s fd args (ps.zip us) → Vals vs us → sp vs H Q E → codeAny (model P w) A (.call (.ref f) args) (CR CX outer P w H s Q E) s
theorem FnG.mono {P : Program} {w : World} {K : PySem.W.Frag} {mg : Str → Option Value} {base : Heap} {CX : CXT} {j k : Nat} {f : Addr} {fd : FuncData} {ps : List Str} {sp : Sp} (F : FnG P w K mg base CX j f fd ps sp) (h : j ≤ k) : FnG P w K mg base CX k f fd ps sp :=
  ⟨F.len, fun A outer s H args us vs Q E g r => F.run A outer s H args us vs Q E g (r.mono h)⟩
section
variable {X : Cx} {CX : CXT} {k : Nat} {f : Addr} {fd : FuncData} {ps : List Str} {sp : Sp} {E : L2.St → XK}
theorem run_fnG {pins : List (Addr × Obj)} {σ : L2.St} {H : Hp} {s : Shared} {Q : VK} {us : List Value} {vs : List V} (F : FnG X.prog X.w X.K X.mg X.base CX k f fd ps sp) (hg : X.A.guards = some []) (hr : Room k X.A) (hb : Binds X.K fd ps []) (hx : PassesAt CX X σ (E σ)) (I : Inv X pins σ H s) (r : Vals vs us) (h : sp vs H Q (E σ)) :
    wpAny (model X.prog X.w) X.A (call (.ref f) us) (EP X pins σ Q) X.xe s := by
  have b := hb s us I.kIn (by rw [List.append_nil, ← r.length]; exact F.len _ _ _ _ h)
  rw [List.append_nil] at b
  refine wpAny_call (codeAny_mono (F.run X.A X.stack s H ⟨us, []⟩ us vs Q (E σ) hg hr I.env0 b r h) fun res s' z => ?_)
  cases res with
  | error e => exact hx pins H s e s' I z
  | ok fl => cases fl with
    | ret u => exact I.after z
    | next => exact z.elim
    | brk => exact z.elim
    | cont => exact z.elim
end
section
variable {P : Program} {w : World} {K : PySem.W.Frag} {mg : Str → Option Value} {base : Heap} {x qual : Str} {params : Arguments} {body : List Stmt} {scope : Scope} {dvs : List V} {kws : List (Str × V)} {f : Addr} {fd : FuncData}
theorem fn_ofG {CX : CXT} {N ps : List Str} {k : Nat} {sp : Sp} (F : FunD K x qual params body scope dvs kws f fd) (S : FnScope N ps scope) (len : ∀ vs H Q E, sp vs H Q E → vs.length = ps.length)
    (hbody : ∀ (cdv : Value) (A : Around) (outer : List PySem.Env) (s : Shared) (H : Hp) (vs : List V) (Q : VK) (E : XK), A.guards = some [] → Room k (A.deeper (envOfC qual scope s.heap.objs.size f cdv)) → sp vs H Q E →
      ∃ t, PSs (cxOf CX P w K mg base N qual scope f cdv A outer s H E) body t ∧ t { nx := fun _ H' => Q .non H', rt := Q } (L2.start N vs) H) : FnG P w K mg base CX (k + 1) f fd ps sp := by
  obtain ⟨oc, od, dV, kV, doc, pm, an, cdv, ct, osl, rfl, lk, hcd, _, _⟩ := F.ex
  refine ⟨len, fun A outer s H args us vs Q E hg hr e0 hb r hsp => ?_⟩
  have hl := len _ _ _ _ hsp
  have kin : K.In s.heap := e0.mod.kin.keeps fun b o e => (e0.bs b o e).1
  have kind : ∀ y ∈ ps.zip us, scope.names.lookup y.1 = some .local ∨ (scope.names.lookup y.1 = some .cell ∧ ((cellsFrom (s.heap.objs.size + 1) scope.names []).lookup y.1).isSome = true) := by
    rintro ⟨n, v⟩ hy
    exact (S.par n (List.of_mem_zip hy).1).elim .inl fun q => .inr ⟨q, PySem.W.cellsFrom_some _ _ _ (.inl q)⟩
  refine codeAny_call_function hr.depth (kin _ _ lk) rfl S.co S.gen rfl (PySem.W.codeRec_of kin hcd) (hb _ _ _ _ (wpAny_newFunctionEnv_cells S.kind kind fun env he s1 y => ?_))
  subst he
  refine ⟨(e0.mod.nolimit.keeps fun b o e => (e0.bs b o e).1).keeps y.toInCall.keep, codeAny_func ?_⟩
  obtain ⟨t, ht, hq⟩ := hbody cdv A outer s H vs Q E hg (hr.deeper _) hsp
  refine wpAny_mono (ht.run [] s1 (L2.start N vs) H _ (inv_start S hr.hd e0 hl r y) hq) (fun fl s' z => ?_) fun e s' z => z
  cases fl with
  | ret u =>
    obtain ⟨v, σ', H', J, rv, q⟩ := z
    exact ⟨v, H', J.os, J.bare, J.base, J.hok, rv, q⟩
  | next =>
    obtain ⟨σ', H', J, q⟩ := z
    exact ⟨.non, H', J.os, J.bare, J.base, J.hok, rfl, q⟩
  | brk => exact (let ⟨_, _, _, q⟩ := z; q : False).elim
  | cont => exact (let ⟨_, _, _, q⟩ := z; q : False).elim
end
/-- the law's def is called with the script -/
theorem law_callG {P : Program} {w : World} {K : PySem.W.Frag} {mg mb : Str → Option Value} {CX : CXT} {k : Nat} {fa a : Addr} {fd : FuncData} {x : Str} {sp : Sp} {s : Shared} {vs : List Value} {ns : List Int}
    (kin : K.In s.heap) (gl : s.heap.Ns mainGlobals mg) (bl : s.heap.Ns builtinsNs mb) (bb : ∀ x : Str, x ≠ "__name__" → mb x = bootBuiltins x) (lim : s.heap.NoLimit) (gens : s.gens = #[])
    (la : s.heap.get? a = some { cls := .type "list", data := .seq vs.toArray }) (ia : IntsAre vs ns) (ln : ns.length ≤ sizeLine) (room : Room k callerA)
    (F : ∀ base : Heap, K.In base → base.Ns mainGlobals mg → FnG P w K mg base CX k fa fd [x] sp) (bd : ∀ (s : Shared) (u : Value), BindsTo s fd ⟨[u], []⟩ [(x, u)])
    (hs : ∀ H : Hp, Only H → SqL K H a (ns.map V.int) → sp [.ref a] H (fun v _ => v = .bl true) fun _ _ _ => False) (hc : ∀ H e s', CX [] H s (fun _ _ _ => False) e s' → False) :
    codeAny (model P w) callerA (.call (.ref fa) ⟨[.ref a], []⟩) (fun r s' => r = .ok (.ret (.bool true)) ∧ OldK s.heap s'.heap ∧ s'.os = s.os ∧ AllBare s'.gens) s := by
  have vi := vals_ints ia
  have le := ia.length
  have go : ∀ H : Hp, Only H → SqL K H a (ns.map V.int) → HOk P w H s.heap → (∀ b, H b ≠ none → b = a) → (H a ≠ none → K.lookup a = none) →
      codeAny (model P w) callerA (.call (.ref fa) ⟨[.ref a], []⟩) (fun r s' => r = .ok (.ret (.bool true)) ∧ OldK s.heap s'.heap ∧ s'.os = s.os ∧ AllBare s'.gens) s := by
    intro H only sq hok one nk
    have bs : ∀ {b : Addr} {o : Obj}, s.heap.get? b = some o → H b = none → (hidT s.heap H).get? b = some o := fun e n => hidT_get e n
    have free : ∀ {b : Addr}, (s.heap.get? b ≠ s.heap.get? a ∨ (∃ o, K.lookup b = some o)) → H b = none := fun {b} h => by
      by_cases q : H b = none
      · exact q
      · have e := one b q
        subst e
        rcases h with h | ⟨o, h⟩
        · exact absurd rfl h
        · rw [nk q] at h; cases h
    have nd : ∀ {b : Addr} {o : Obj} {es : Array DictEntry} {ep : Nat}, s.heap.get? b = some o → o.data = .dict es ep → H b = none := fun {b o es ep} e d => free (.inl fun z => by
      rw [e, la] at z
      cases z
      have d' : Data.seq vs.toArray _ = Data.dict es ep := d
      cases d')
    have nst : ∀ {b : Addr} {m : Str → Option Value}, s.heap.Ns b m → (hidT s.heap H).Ns b m := by
      rintro b m ⟨o, es, ep, e, d, r⟩
      exact ⟨o, es, ep, bs e (nd e d), d, r⟩
    have kb : K.In (hidT s.heap H) := fun b o e => bs (kin b o e) (free (.inr ⟨o, e⟩))
    have md : Mod K mg (hidT s.heap H) := by
      obtain ⟨mc, h1, h2⟩ := lim
      exact ⟨kb, nst gl, ⟨mb, nst bl, bb⟩, ⟨mc, nst h1, h2⟩⟩
    have e0 : Env0 P w K mg (hidT s.heap H) callerA [] s H := ⟨rfl, md, fun b o e => of_hidT e, Nat.le_of_eq (hidT_size _ _), trivial, (fun b hb => nomatch (show b ∈ ([] : List Addr) from hb)), hok, .of_eq gens⟩
    have run := (F _ kb (nst gl)).run callerA [] s H ⟨[.ref a], []⟩ [.ref a] [.ref a] _ _ rfl room e0 (bd s (.ref a)) (.cons rfl .nil) (hs H only sq)
    refine codeAny_mono run fun r s' z => ?_
    cases r with
    | error e => exact (hc H e s' z).elim
    | ok fl => cases fl with
      | next => exact z.elim
      | brk => exact z.elim
      | cont => exact z.elim
      | ret u =>
        obtain ⟨v, H', os, bare, un, hok', ru, q⟩ := z
        have q : v = .bl true := q
        subst q
        obtain rfl : u = Value.bool true := ru
        refine ⟨rfl, OldK.of_keep fun b o e => ?_, os, bare⟩
        by_cases q : H b = none
        · exact un.keep b o e q (fun z => nomatch (show b ∈ ([] : List Addr) from z)) (fun z => nomatch (show b ∈ ([] : List Addr) from z))
        · rcases only b with z | ⟨ob, xs, z⟩
          · exact absurd z q
          · obtain ⟨e1, _⟩ := hok b _ z
            obtain ⟨e2, _⟩ := hok' b _ (un.frzs b ob _ z)
            rw [e] at e1; cases e1
            exact e2
  by_cases hk : ∃ o, K.lookup a = some o
  · obtain ⟨o, hk⟩ := hk
    have e := kin a o hk
    rw [la] at e
    cases e
    exact go (fun _ => none) (fun _ => .inl rfl) (.inr ⟨_, vs.toArray, _, hk, rfl, rfl, rfl, by rw [List.size_toArray, le]; exact ln, by simpa using vi⟩) (fun b u z => nomatch (show (none : Option HO) = some u from z)) (fun b z => absurd rfl z) fun z => absurd rfl z
  · have hn : K.lookup a = none := by
      cases q : K.lookup a with
      | none => rfl
      | some o => exact absurd ⟨o, q⟩ hk
    let fz : HO := .frz { cls := .type "list", data := .seq vs.toArray } (.lst (ns.map V.int))
    refine go (fun b => if b = a then some fz else none) (fun b => ?_) (.inl (.inr ⟨{ cls := .type "list", data := .seq vs.toArray }, if_pos rfl⟩)) (fun b u z => ?_) (fun b z => ?_) fun _ => hn
    · by_cases q : b = a
      · right; exact ⟨_, _, if_pos q⟩
      · left; exact if_neg q
    · by_cases q : b = a
      · have y := (if_pos q).symm.trans z
        cases y; subst q
        exact ⟨la, by rw [List.length_map]; exact ln, vs, _, vi, la⟩
      · have y := (if_neg q).symm.trans z
        cases y
    · by_cases q : b = a
      · exact q
      · exact absurd (if_neg q) z
end Mini
/-! Mini: arguments, calls, methods, instances. -/
set_option linter.all false
set_option maxRecDepth 10000
namespace Mini
open PySem PySem.Spec PyProof.Rows L2
/-! ### what a def promises -/
/-- a call's value -/
def RepF (L : Lay) (H0 : Hp) (ρ : List Addr) (H : Hp) : TV → V → Prop
  | .t x, v => Rep L ρ H x v
  | .l xs, v => ∃ a vs, v = .ref a ∧ H a = some (.lst vs) ∧ RepAll L ρ H xs vs ∧ a ∉ ρ ∧ H0 a = none
  | .s _ _, _ => False
def PstF (L : Lay) (ρ : List Addr) (H : Hp) (Q : VK) (E : XK) : Res TV → Prop
  | .ok tv th' => ∀ ρ' v H', Ex0 ρ H ρ' H' → R L ρ' th' H' → RepF L H ρ' H' tv v → Q v H'
  | .exc e th' => ∀ ρ' cls d H', Ex0 ρ H ρ' H' → R L ρ' th' H' → ExR L ρ' H' e cls d → E cls d H'
  | .bad => False
/-- a def's promise; n: how many parameters -/
def spOf (L : Lay) (C : Call) (n f : Nat) : Sp := fun vs H Q E => vs.length = n ∧ ∃ ρ th tvs, R L ρ th H ∧ RepGs L ρ H tvs vs ∧ PstF L ρ H Q E (C f tvs th)
section
variable {P : Prog} {L : Lay} {C : Call} {W : WX} {X : Cx} {ρ ρ' ρ1 ρ2 : List Addr} {H H' H1 H2 H0 : Hp} {σ : L2.St} {env : Env} {th th1 th2 : S} {o o' : Addr → Prop} {pos : Pos}
theorem RepF.repV {tv : TV} {v : V} (h : RepF L H0 ρ H tv v) : RepV L H0 σ ρ o H tv v := by
  cases tv with
  | t x => exact h
  | l xs => exact h
  | s xs g => exact h.elim
theorem RepG.ext {tv : TV} {v : V} (h : RepG L ρ H tv v) (r : R L ρ th H) (x : Ex0 ρ H ρ' H') : RepG L ρ' H' tv v := by
  cases tv with
  | t y => exact r.rep x OL.no h
  | l xs => exact h
  | s xs g =>
    obtain ⟨a, vs, e1, e2, e3⟩ := h
    exact ⟨a, vs, e1, x.rdL e2, r.repAll x OL.no e3⟩
theorem RepV.arg {tv : TV} {v : V} (h : RepV L H0 σ ρ o H tv v) : RepG L ρ H (argOf tv) v := by
  cases tv with
  | t y => exact h
  | l xs =>
    obtain ⟨a, vs, e1, e2, e3, e4, _⟩ := h
    exact ⟨a, vs, e1, .inl ⟨.inl e2, e4, id⟩, e3⟩
  | s xs g =>
    obtain ⟨a, vs, e1, e2, e3, _⟩ := h
    exact ⟨a, vs, e1, e2, e3⟩
/-! ### arguments -/
theorem sa_nil : PA X [] (SA P L C W .nil) := by
  refine PA.imp pa_nil fun σ H Q ⟨ρ, th, env, hR, hE, h⟩ => ?_
  simp only [evalAs] at h
  exact h ρ [] H Ext.refl hR .nil
theorem sa_cons {e : Expr} {es : List Expr} {c : E} {cs : Es} (he : PE X e (SV P L C W c)) (hes : PA X es (SA P L C W cs)) (hs : starEach (e :: es) X.env = (false, eval e X.env) :: starEach es X.env) : PA X (e :: es) (SA P L C W (.cons c cs)) := by
  refine PA.imp (pa_cons he hes hs) fun σ H Q ⟨ρ, th, env, hR, hE, h⟩ => ?_
  simp only [evalAs] at h
  refine sv_step hR hE h fun ρ1 th1 H1 x v x1 R1 E1 rv h1 => ?_
  refine ⟨ρ1, th1, env, R1, E1, (h1.base x1).bind.imp fun ys th3 q ρ3 vs H3 x3 r3 rs => ?_⟩
  exact q ρ3 _ _ (x1.trans x3) r3 (.cons (rv.arg.ext R1 x3) rs)
theorem sa_step {β : Type} {a : Es} {f : List TV → M β} {Φ : β → S → Prop} {Q : List V → Hp → Prop} (hR : R L ρ th H) (hE : EnvR L ρ H env σ) (h : Pst L W ρ H σ Φ ((evalAs P C a env >>= f) th))
    (k : ∀ ρ1 th1 H1 tvs vs, Ex0 ρ H ρ1 H1 → R L ρ1 th1 H1 → EnvR L ρ1 H1 env σ → RepGs L ρ1 H1 tvs vs → Pst L W ρ H σ Φ (f tvs th1) → Q vs H1) : SA P L C W a σ H Q :=
  ⟨ρ, th, env, hR, hE, h.bind.imp fun tvs th1 q ρ1 vs H1 x r rs => k ρ1 th1 H1 tvs vs x r (hE.ext hR x) rs q⟩
/-! ### calls -/
theorem pstF_of {Q : VK} {r : Res TV} (x1 : Ex0 ρ H ρ1 H1) (x2 : Ex0 ρ2 H2 ρ1 H1) (h : Pst L W ρ2 H2 σ (KV L ρ H env σ Q) r) : PstF L ρ1 H1 Q (WE W σ) r := by
  cases r with
  | ok tv th' => exact fun ρ' v H' x r rv => h ρ' v H' (x1.trans x) r (by
      have q : RepV L H1 σ ρ' (own env σ) H' tv v := rv.repV
      cases tv with
      | t y => exact q
      | l xs =>
        obtain ⟨a, vs, e1, e2, e3, e4, e5⟩ := q
        refine ⟨a, vs, e1, e2, e3, e4, ?_⟩
        cases z : H a with
        | none => rfl
        | some u =>
          obtain ⟨q, e⟩ := x1.pre
          obtain ⟨q', e'⟩ := x.pre
          have hn : a ∉ ρ := fun m => e4 (by rw [e', e]; exact List.mem_append_left _ (List.mem_append_left _ m))
          have := x1.fr a u z hn id
          rw [e5] at this; cases this
      | s xs g => exact q)
  | exc e th' => exact fun ρ' cls d H' x r z => h ρ' cls d H' (x2.trans x) r z
  | bad => exact h.elim
theorem call_core {es : Es} {n f : Nat} {Q : VK} (hn : ∀ tvs vs : List TV, True) (h : SV P L C W (.call f es) σ H Q) (hl : ∀ tvs th, tvs.length ≠ n → C f tvs th = .bad) : SA P L C W es σ H fun vs H1 => spOf L C n f vs H1 Q (WE W σ) := by
  obtain ⟨ρ, th, env, hR, hE, h⟩ := h
  simp only [evalV] at h
  refine sa_step hR hE h fun ρ1 th1 H1 tvs vs x1 R1 E1 rs h1 => ⟨?_, ρ1, th1, tvs, R1, rs, pstF_of x1 x1 h1⟩
  have e : tvs.length = vs.length := Paired.length rs
  by_cases q : tvs.length = n
  · rw [← e]; exact q
  · rw [hl tvs th1 q] at h1; exact h1.elim
section
variable {CX : CXT} {k n f : Nat} {fd : FuncData} {ps : List Str} {x m : Str} {p apos : Pos} {e ob : Expr} {es : List Expr} {cs : Es}
theorem sv_call (F : FnG X.prog X.w X.K X.mg X.base CX k (L.ad f) fd ps (spOf L C n f)) (hgd : X.A.guards = some []) (hr : Room k X.A) (hg : Gl X x) (hm : X.mg x = some (.ref (L.ad f))) (hk : PySem.W.keepIn X.K (.ref (L.ad f)) = true) (hb : Binds X.K fd ps []) (hx : ∀ σ, PassesAt CX X σ (WE W σ))
    (hl : ∀ tvs th, tvs.length ≠ n → C f tvs th = .bad) (ha : PA X (e :: es) (SA P L C W cs)) (hdb : (x == ("__debug__" : Str)) = false) (he : starEach (e :: es) X.env = (false, eval e X.env) :: starEach es X.env) (hpl : (backTo pos (starEach es X.env)).any (·.1) = false) :
    PE X (.Call (.Name x p) (e :: es) [] pos) (SV P L C W (.call f cs)) := by
  refine ⟨fun pins s σ H Q I h => wpAny_Call_Name_kw (ld_glob I hg hm (PySem.W.callWith_K (h₀ := X.base) I.ok.mod.kin hk ?_ he hpl) hdb)⟩
  exact thn (ha.run pos pins s σ H _ I (call_core (n := n) (fun _ _ => trivial) h hl)) fun us s1 ⟨vs, H1, I1, r, q⟩ => ⟨I1.kIn, run_fnG F hgd hr hb (hx σ) I1 r q⟩
theorem sv_call0 (F : FnG X.prog X.w X.K X.mg X.base CX k (L.ad f) fd ps (spOf L C n f)) (hgd : X.A.guards = some []) (hr : Room k X.A) (hg : Gl X x) (hm : X.mg x = some (.ref (L.ad f))) (hk : PySem.W.keepIn X.K (.ref (L.ad f)) = true) (hb : Binds X.K fd ps []) (hx : ∀ σ, PassesAt CX X σ (WE W σ))
    (hl : ∀ tvs th, tvs.length ≠ n → C f tvs th = .bad) (hdb : (x == ("__debug__" : Str)) = false) : PE X (.Call (.Name x p) [] [] pos) (SV P L C W (.call f .nil)) := by
  refine ⟨fun pins s σ H Q I h => wpAny_Call_Name_kw (ld_glob I hg hm (PySem.W.callWith_K0 I.kIn hk ?_) hdb)⟩
  have h' := call_core (n := n) (fun _ _ => trivial) h hl
  obtain ⟨ρ, th, env, hR, hE, h'⟩ := h'
  simp only [evalAs] at h'
  exact run_fnG (vs := []) (us := []) (E := WE W) F hgd hr hb (hx σ) I .nil (h' ρ [] H Ext.refl hR .nil)
end
end
end Mini
/-! Mini: methods, instances, fields. -/
set_option linter.all false
set_option maxRecDepth 10000
namespace Mini
open PySem PySem.Spec PyProof.Rows L2
/-- what the written part holds of a class -/
structure ClsK (L : Lay) (P : Prog) (c : Nat) (cd : Cd) : Prop where
  cls : Cls L.K (L.cad c)
  fld : ∀ f, hasF P c f = true → NoAttr L.K (L.cad c) f
section
variable {P : Prog} {L : Lay} {C : Call} {W : WX} {X : Cx} {ρ ρ' ρ1 ρ2 : List Addr} {H H' H1 H2 H0 : Hp} {σ : L2.St} {env : Env} {th th1 th2 : S} {o o' : Addr → Prop} {pos : Pos}
theorem hasF_cls {c : Nat} {f : Str} (h : hasF P c f = true) : ∃ cd, P.cls[c]? = some cd := by
  unfold hasF at h
  cases e : P.cls[c]? with
  | none => rw [e] at h; cases h
  | some cd => exact ⟨cd, rfl⟩
/-- a field is read -/
theorem sv_fld {e : Expr} {c : E} {f : Str} (hK : X.K = L.K) (hc : ∀ c cd, P.cls[c]? = some cd → ClsK L P c cd) (he : PE X e (SV P L C W c)) (hb : attributeBase e f X.env (eval e X.env) = eval e X.env) : PE X (.Attribute e f pos) (SV P L C W (.fld c f)) := by
  have r := pe_fld (pos := pos) he hb
  rw [hK] at r
  refine PE.imp r fun σ H Q ⟨ρ, th, env, hR, hE, h⟩ => ?_
  simp only [evalV] at h
  refine sv_step hR hE h fun ρ1 th1 H1 x v x1 R1 E1 rv h1 => ?_
  unfold fldOf at h1
  split at h1
  · rename_i n
    split at h1
    · rename_i k fs e1
      split at h1
      · rename_i y e2
        split at h1
        · rename_i hf
          simp only [RepV, Rep] at rv
          obtain ⟨a, rfl, ea⟩ := rv
          obtain ⟨dx, gs, q1, q2⟩ := R1.obj n a _ ea e1
          obtain ⟨v, q3, q4⟩ := (FRep.look q2).1 y e2
          obtain ⟨cd, e3⟩ := hasF_cls hf
          have k := hc _ _ e3
          exact ⟨a, _, dx, gs, v, rfl, q1, k.cls, k.fld f hf, q3, fin_ok h1 x1 R1 q4⟩
        · exact h1.elim
      · exact h1.elim
    · exact h1.elim
  · exact h1.elim
section
variable {CX : CXT} {k n f : Nat} {fd : FuncData} {ps : List Str} {x m : Str} {p apos : Pos} {e ob : Expr} {es : List Expr} {cs : Es} {co : E} {c : Nat} {cd : Cd}
/-- o.m(..) -/
theorem meth_core {pins : List (Addr × Obj)} {s : Shared} {Q : VK} (hcd : P.cls[c]? = some cd) (hf : cd.meths.lookup m = some f) (hl : ∀ tvs th, tvs.length ≠ n → C f tvs th = .bad) (h : SV P L C W (.meth c m co cs) σ H Q) :
    SV P L C W co σ H fun v H1 => ∃ a dx fs, v = .ref a ∧ H1 a = some (.ins (L.cad c) dx fs) ∧ fs.lookup m = none ∧ SA P L C W cs σ H1 fun vs H2 => spOf L C n f (v :: vs) H2 Q (WE W σ) := by
  obtain ⟨ρ, th, env, hR, hE, h⟩ := h
  simp only [evalV] at h
  refine sv_step hR hE h fun ρ1 th1 H1 y v x1 R1 E1 rv h1 => ?_
  rw [bind_app] at h1
  unfold methOf at h1
  cases y with
  | l xs => exact h1.elim
  | s xs g => exact h1.elim
  | t z =>
    cases z with
    | ref i =>
      simp only [RepV, Rep] at rv
      obtain ⟨a, rfl, ea⟩ := rv
      cases e1 : th1[i]? with
      | none => simp only [e1] at h1; exact h1.elim
      | some ob =>
        cases ob with
        | lst xs => simp only [e1] at h1; exact h1.elim
        | dk fs => simp only [e1] at h1; exact h1.elim
        | dt fs => simp only [e1] at h1; exact h1.elim
        | ins c' fs =>
          simp only [e1] at h1
          by_cases hc : c' = c
          · subst hc
            simp only [if_true, hcd, Option.bind_some, hf] at h1
            cases e2 : fs.lookup m with
            | some w => simp only [e2] at h1; exact h1.elim
            | none =>
              simp only [e2] at h1
              obtain ⟨dx, gs, q1, q2⟩ := R1.obj i a _ ea e1
              refine ⟨a, dx, gs, rfl, q1, (FRep.look q2).2 e2, ?_⟩
              have h1' : Pst L W ρ H σ (KV L ρ H env σ Q) ((evalAs P C cs env >>= fun xs => C f (.t (.ref i) :: xs)) th1) := h1
              refine sa_step R1 E1 (h1'.base x1) fun ρ2 th2 H2 tvs vs x2 R2 E2 rs h2 => ?_
              have x12 := x1.trans x2
              refine ⟨?_, ρ2, th2, .t (.ref i) :: tvs, R2, .cons (R1.rep (y := .ref i) x2 OL.no (by simp only [Rep]; exact ⟨a, rfl, ea⟩)) rs, ?_⟩
              · have e : tvs.length = vs.length := Paired.length rs
                by_cases q : (TV.t (.ref i) :: tvs).length = n
                · rw [List.length_cons] at q ⊢; rw [← e]; exact q
                · rw [hl _ th2 q] at h2; exact h2.elim
              · exact pstF_of x12 x2 h2
          · simp only [if_neg hc] at h1; exact h1.elim
    | _ => exact h1.elim
theorem sv_meth {pl : Sem Bool} (hK : X.K = L.K) (hcd : P.cls[c]? = some cd) (hck : ClsK L P c cd) (hmk : Meth L.K (L.cad c) m (L.ad f)) (hf : cd.meths.lookup m = some f)
    (he : PE X ob (SV P L C W co)) (F : FnG X.prog X.w X.K X.mg X.base CX k (L.ad f) fd ps (spOf L C n f)) (hgd : X.A.guards = some []) (hr : Room k X.A) (hb : Binds X.K fd ps []) (hx : ∀ σ, PassesAt CX X σ (WE W σ)) (hl : ∀ tvs th, tvs.length ≠ n → C f tvs th = .bad)
    (ha : PA X (e :: es) (SA P L C W cs)) (hst : starEach (e :: es) X.env = (false, eval e X.env) :: starEach es X.env) (hpl : (backTo pos (starEach es X.env)).any (·.1) = false)
    (ht : eval (.Call (.Attribute ob m apos) (e :: es) [] pos) X.env = (do
      let ov ← eval ob X.env
      standAt apos.atName
      let (f, first) ← holding [ov] (getMethod ov m pl)
      callWith pos f first (backTo pos (starEach (e :: es) X.env)) (backToKw pos (keywordEach [] X.env)))) :
    PE X (.Call (.Attribute ob m apos) (e :: es) [] pos) (SV P L C W (.meth c m co cs)) := by
  refine ⟨fun pins s σ H Q I h => PySem.W.methodCall_KW (pl := pl) (thn (he.run pins s σ H _ I (meth_core (pins := pins) (s := s) hcd hf hl h)) fun u s1 ⟨v, H1, I1, rx, a, dx, fs, ex, ea, l, q⟩ => ?_) ht⟩
  subst ex
  obtain rfl : u = Value.ref a := rx
  refine getmeth_ok I1 ea (hK ▸ hck.cls) (hK ▸ hmk) l (PySem.W.callWith_K (first := [.ref a]) (h₀ := X.base) I.ok.mod.kin (hK ▸ hmk.kp) ?_ hst hpl)
  exact thn (ha.run pos pins s1 σ H1 _ I1 q) fun us s2 ⟨vs, H2, I2, r, q2⟩ => ⟨I2.kIn, run_fnG (us := .ref a :: us) (vs := .ref a :: vs) (E := WE W) F hgd hr hb (hx σ) I2 (.cons rfl r) q2⟩
theorem sv_meth0 {pl : Sem Bool} (hK : X.K = L.K) (hcd : P.cls[c]? = some cd) (hck : ClsK L P c cd) (hmk : Meth L.K (L.cad c) m (L.ad f)) (hf : cd.meths.lookup m = some f)
    (he : PE X ob (SV P L C W co)) (F : FnG X.prog X.w X.K X.mg X.base CX k (L.ad f) fd ps (spOf L C n f)) (hgd : X.A.guards = some []) (hr : Room k X.A) (hb : Binds X.K fd ps []) (hx : ∀ σ, PassesAt CX X σ (WE W σ)) (hl : ∀ tvs th, tvs.length ≠ n → C f tvs th = .bad)
    (ht : eval (.Call (.Attribute ob m apos) [] [] pos) X.env = (do
      let ov ← eval ob X.env
      standAt apos.atName
      let (f, first) ← holding [ov] (getMethod ov m pl)
      callWith pos f first (backTo pos (starEach [] X.env)) (backToKw pos (keywordEach [] X.env)))) :
    PE X (.Call (.Attribute ob m apos) [] [] pos) (SV P L C W (.meth c m co .nil)) := by
  refine ⟨fun pins s σ H Q I h => PySem.W.methodCall_KW (pl := pl) (thn (he.run pins s σ H _ I (meth_core (pins := pins) (s := s) hcd hf hl h)) fun u s1 ⟨v, H1, I1, rx, a, dx, fs, ex, ea, l, q⟩ => ?_) ht⟩
  subst ex
  obtain rfl : u = Value.ref a := rx
  obtain ⟨ρ, th, env, hR, hE, h'⟩ := q
  simp only [evalAs] at h'
  refine getmeth_ok I1 ea (hK ▸ hck.cls) (hK ▸ hmk) l (PySem.W.callWith_K0 (first := [.ref a]) I1.kIn (hK ▸ hmk.kp) ?_)
  exact run_fnG (us := [.ref a]) (vs := [.ref a]) (E := WE W) F hgd hr hb (hx σ) I1 (.cons rfl .nil) (h' ρ [] H1 Ext.refl hR .nil)
/-- a new instance -/
theorem R.newIns (r : R L ρ th H) {a dx : Addr} (ha : H a = none) (hd : H dx = none) (hne : dx ≠ a) : R L (ρ ++ [a]) (th ++ [.ins c []]) (upd (upd H dx (.own a)) a (.ins (L.cad c) dx [])) ∧ Ex0 ρ H (ρ ++ [a]) (upd (upd H dx (.own a)) a (.ins (L.cad c) dx [])) := by
  have ha1 : (upd H dx (.own a)) a = none := by rw [upd_ne (Ne.symm hne)]; exact ha
  have x1 : Ex0 ρ H ρ (upd H dx (.own a)) := Ext.new1 hd
  have x2 : Ex0 ρ (upd H dx (.own a)) ρ (upd (upd H dx (.own a)) a (.ins (L.cad c) dx [])) := Ext.new1 ha1
  have x12 := x1.trans x2
  have r1 := r.new1 (w := .own a) hd
  have r2 := r1.new1 (w := .ins (L.cad c) dx []) ha1
  refine ⟨⟨by rw [List.length_append, List.length_append, r.len]; rfl, nodup_snoc r.nd (r.notin ha), fun i b ob h1 h2 => ?_⟩, x12.share ha⟩
  by_cases hi : i < ρ.length
  · rw [List.getElem?_append_left hi] at h1
    rw [List.getElem?_append_left (by rw [← r.len]; exact hi)] at h2
    have q := r2.obj i b ob h1 h2
    cases ob with
    | lst ys =>
      obtain ⟨ws, e1, q⟩ := q
      exact ⟨ws, e1, RepAll.mono (fun _ _ h => h) _ _ q⟩
    | ins c fs =>
      obtain ⟨dx, gs, e1, q⟩ := q
      exact ⟨dx, gs, e1, FRep.mono (fun _ _ h => h) q⟩
    | dk fs =>
      obtain ⟨gs, e1, q⟩ := q
      exact ⟨gs, e1, FRep.mono (fun _ _ h => h) q⟩
    | dt fs =>
      obtain ⟨gs, e1, e2, q⟩ := q
      exact ⟨gs, e1, e2, DRep.mono (fun _ _ h => h) q⟩
  · have hl : i = ρ.length := by
      have := (List.getElem?_eq_some_iff.mp h1).1
      rw [List.length_append] at this
      simp only [List.length_cons, List.length_nil] at this
      omega
    subst hl
    rw [List.getElem?_append_right (Nat.le_refl _)] at h1
    rw [r.len, List.getElem?_append_right (Nat.le_refl _)] at h2
    simp only [Nat.sub_self, List.getElem?_cons_zero, Option.some.injEq] at h1 h2
    subst h1 h2
    exact ⟨dx, [], upd_same, .nil⟩
theorem mk_core {Q : VK} (hcd : P.cls[c]? = some cd) (hl : ∀ tvs th, tvs.length ≠ n → C cd.init tvs th = .bad) (h : SV P L C W (.mk c cs) σ H Q) :
    SA P L C W cs σ H fun vs H1 => ∀ y dx, H1 y = none → H1 dx = none → dx ≠ y → spOf L C n cd.init (.ref y :: vs) (upd (upd H1 dx (.own y)) y (.ins (L.cad c) dx [])) (fun v H2 => v = .non ∧ Q (.ref y) H2) (WE W σ) := by
  obtain ⟨ρ, th, env, hR, hE, h⟩ := h
  simp only [evalV] at h
  refine sa_step hR hE h fun ρ1 th1 H1 tvs vs x1 R1 E1 rs h1 => fun y dx hy hd hne => ?_
  obtain ⟨r2, x2⟩ := R1.newIns (c := c) hy hd hne
  have x12 := x1.trans x2
  unfold make at h1
  simp only [hcd] at h1
  have h1' : Pst L W ρ H σ (KV L ρ H env σ Q) ((C cd.init (.t (.ref th1.length) :: tvs) >>= fun r => match r with
    | .t .non => pure (.t (.ref th1.length))
    | _ => fail) (th1 ++ [.ins c []])) := h1
  have ey : (ρ1 ++ [y])[th1.length]? = some y := by rw [← R1.len]; exact getElem?_len _ _
  refine ⟨?_, ρ1 ++ [y], th1 ++ [.ins c []], .t (.ref th1.length) :: tvs, r2, .cons ?_ (Paired.mapP rs fun p q z => RepG.ext z R1 x2), ?_⟩
  · have e : tvs.length = vs.length := Paired.length rs
    by_cases q : (TV.t (.ref th1.length) :: tvs).length = n
    · rw [List.length_cons] at q ⊢; rw [← e]; exact q
    · rw [bind_app, hl _ _ q] at h1'; exact h1'.elim
  · simp only [RepG, Rep]
    exact ⟨y, rfl, ey⟩
  · rw [bind_app] at h1'
    cases e : C cd.init (.t (.ref th1.length) :: tvs) (th1 ++ [.ins c []]) with
    | bad => rw [e] at h1'; exact h1'.elim
    | exc x s =>
      rw [e] at h1'
      exact fun ρ' cls d H' x3 r z => h1' ρ' cls d H' (x12.trans x3) r z
    | ok tv s =>
      rw [e] at h1'
      refine fun ρ' v H' x3 r rv => ?_
      cases tv with
      | l xs => exact h1'.elim
      | s xs g => exact h1'.elim
      | t z =>
        cases z with
        | non =>
          simp only [RepF, Rep] at rv
          refine ⟨rv, fin_ok (tv := .t (.ref th1.length)) h1' (x12.trans x3) r ?_⟩
          show Rep L ρ' H' (.ref th1.length) (.ref y)
          exact r2.rep (y := .ref th1.length) x3 OL.no (by simp only [Rep]; exact ⟨y, rfl, ey⟩)
        | _ => exact h1'.elim
theorem run_makeS {pins : List (Addr × Obj)} {s : Shared} {Q : VK} {Ca fa : Addr} {sp : Sp} {E : L2.St → XK} {us : List Value} {vs : List V} (M : L2.Mk X.K Ca fa) (F : FnG X.prog X.w X.K X.mg X.base CX k fa fd ps sp) (hgd : X.A.guards = some []) (hr : Room (k + 1) X.A) (hb : Binds X.K fd ps [])
    (hx : PassesAt CX X σ (E σ)) (I : Inv X pins σ H s) (r : Vals vs us) (h : ∀ x dx, H x = none → H dx = none → dx ≠ x → sp (.ref x :: vs) (upd (upd H dx (.own x)) x (.ins Ca dx [])) (fun v H2 => v = .non ∧ Q (.ref x) H2) (E σ)) :
    wpAny (model X.prog X.w) X.A (call (.ref Ca) us) (EP X pins σ Q) X.xe s := by
  have q := h (s.heap.objs.size + 1) s.heap.objs.size (I.hok.fresh (Nat.le_succ _)) (I.hok.fresh (Nat.le_refl _)) (Nat.ne_of_lt (Nat.lt_succ_self _))
  have J := Inv.made (C := Ca) I
  have rr : Vals (V.ref (s.heap.objs.size + 1) :: vs) (Value.ref (s.heap.objs.size + 1) :: us) := .cons rfl r
  have len : (Value.ref (s.heap.objs.size + 1) :: us).length = ps.length := by rw [← rr.length]; exact F.len _ _ _ _ q
  have bb := hb _ (Value.ref (s.heap.objs.size + 1) :: us) J.kIn (by rw [List.append_nil]; exact len)
  rw [List.append_nil] at bb
  have run := F.run _ X.stack _ _ ⟨Value.ref (s.heap.objs.size + 1) :: us, []⟩ (Value.ref (s.heap.objs.size + 1) :: us) _ _ (E σ) (by rw [Around.under]; exact hgd) (hr.make Ca us []) (J.env0.make Ca us []) bb rr q
  refine wpAny_call (make_map (f := fa) I.kIn M.makes M.init (beq_iff_eq.mp M.fn) (codeAny_mono run fun r s' z => ?_))
  cases r with
  | error e => exact hx pins _ _ e s' J z
  | ok fl =>
    cases fl with
    | ret u =>
      obtain ⟨v, H', I3, rv, ev, q3⟩ := J.after z
      subst ev
      exact ⟨rv, V.ref _, H', I3, rfl, q3⟩
    | next => exact z.elim
    | brk => exact z.elim
    | cont => exact z.elim
theorem sv_mk (hK : X.K = L.K) (hcd : P.cls[c]? = some cd) (M : L2.Mk L.K (L.cad c) (L.ad cd.init)) (F : FnG X.prog X.w X.K X.mg X.base CX k (L.ad cd.init) fd ps (spOf L C n cd.init)) (hgd : X.A.guards = some []) (hr : Room (k + 1) X.A) (hg : Gl X x) (hm : X.mg x = some (.ref (L.cad c)))
    (hb : Binds X.K fd ps []) (hx : ∀ σ, PassesAt CX X σ (WE W σ)) (hl : ∀ tvs th, tvs.length ≠ n → C cd.init tvs th = .bad) (ha : PA X (e :: es) (SA P L C W cs)) (hdb : (x == ("__debug__" : Str)) = false)
    (he : starEach (e :: es) X.env = (false, eval e X.env) :: starEach es X.env) (hpl : (backTo pos (starEach es X.env)).any (·.1) = false) : PE X (.Call (.Name x p) (e :: es) [] pos) (SV P L C W (.mk c cs)) := by
  refine ⟨fun pins s σ H Q I h => wpAny_Call_Name_kw (ld_glob I hg hm ?_ hdb)⟩
  refine PySem.W.callWith_K (h₀ := X.base) I.ok.mod.kin (hK ▸ M.kp) (thn (ha.run pos pins s σ H _ I (mk_core hcd hl h)) fun us s1 ⟨vs, H1, I1, r, q⟩ => ⟨I1.kIn, ?_⟩) he hpl
  exact run_makeS (E := WE W) (hK ▸ M) F hgd hr hb (hx σ) I1 r q
theorem sv_mk0 (hK : X.K = L.K) (hcd : P.cls[c]? = some cd) (M : L2.Mk L.K (L.cad c) (L.ad cd.init)) (F : FnG X.prog X.w X.K X.mg X.base CX k (L.ad cd.init) fd ps (spOf L C n cd.init)) (hgd : X.A.guards = some []) (hr : Room (k + 1) X.A) (hg : Gl X x) (hm : X.mg x = some (.ref (L.cad c)))
    (hb : Binds X.K fd ps []) (hx : ∀ σ, PassesAt CX X σ (WE W σ)) (hl : ∀ tvs th, tvs.length ≠ n → C cd.init tvs th = .bad) (hdb : (x == ("__debug__" : Str)) = false) : PE X (.Call (.Name x p) [] [] pos) (SV P L C W (.mk c .nil)) := by
  refine ⟨fun pins s σ H Q I h => wpAny_Call_Name_kw (ld_glob I hg hm (PySem.W.callWith_K0 I.kIn (hK ▸ M.kp) ?_) hdb)⟩
  obtain ⟨ρ, th, env, hR, hE, h'⟩ := mk_core hcd hl h
  simp only [evalAs] at h'
  exact run_makeS (E := WE W) (vs := []) (us := []) (hK ▸ M) F hgd hr hb (hx σ) I .nil (h' ρ [] H Ext.refl hR .nil)
end
end
end Mini
/-! Mini: built-in calls. -/
set_option linter.all false
set_option maxRecDepth 10000
namespace Mini
open PySem PySem.Spec PyProof.Rows L2
section
variable {P : Prog} {L : Lay} {C : Call} {W : WX} {X : Cx} {ρ ρ' ρ1 ρ2 : List Addr} {H H' H1 H2 H0 : Hp} {σ : L2.St} {env : Env} {th th1 th2 : S} {o o' : Addr → Prop} {pos : Pos}
/-! ### arguments as they lie -/
theorem RepGs.one {tv : TV} {vs : List V} (h : RepGs L ρ H [tv] vs) : ∃ v, vs = [v] ∧ RepG L ρ H tv v := by
  cases h with
  | cons a b => cases b; exact ⟨_, rfl, a⟩
theorem RepGs.two {tv tw : TV} {vs : List V} (h : RepGs L ρ H [tv, tw] vs) : ∃ v w, vs = [v, w] ∧ RepG L ρ H tv v ∧ RepG L ρ H tw w := by
  cases h with
  | cons a b =>
    cases b with
    | cons c d => cases d; exact ⟨_, _, rfl, a, c⟩
theorem RepG.repV {tv : TV} {v : V} (h : RepG L ρ H tv v) : RepV L H0 σ ρ noO H tv v := by
  cases tv with
  | t x => exact h
  | l xs => exact h.elim
  | s xs g =>
    obtain ⟨a, vs, e1, e2, e3⟩ := h
    exact ⟨a, vs, e1, e2, e3, fun z => z.elim⟩
/-- ints in a list -/
theorem ints_rep : ∀ {xs : List T} {vs : List V} {ns : List Int}, RepAll L ρ H xs vs → intsOf xs = some ns → vs = ns.map V.int
  | [], _, ns, h, e => by simp only [RepAll] at h; subst h; simp only [intsOf, Option.some.injEq] at e; subst e; rfl
  | .int i :: r, _, ns, h, e => by
    simp only [RepAll] at h
    obtain ⟨v, r', rfl, h1, h2⟩ := h
    simp only [Rep] at h1
    simp only [intsOf, Option.map_eq_some_iff] at e
    obtain ⟨ms, e1, rfl⟩ := e
    rw [ints_rep h2 e1, h1]; rfl
  | .non :: _, _, _, _, e => by simp [intsOf] at e
  | .bl _ :: _, _, _, _, e => by simp [intsOf] at e
  | .str _ :: _, _, _, _, e => by simp [intsOf] at e
  | .tup _ :: _, _, _, _, e => by simp [intsOf] at e
  | .ref _ :: _, _, _, _, e => by simp [intsOf] at e
  | .fn _ :: _, _, _, _, e => by simp [intsOf] at e
  | .cl _ :: _, _, _, _, e => by simp [intsOf] at e
  | .ty _ :: _, _, _, _, e => by simp [intsOf] at e
theorem bools_rep : ∀ {xs : List T} {vs : List V} {ns : List Bool}, RepAll L ρ H xs vs → boolsOf xs = some ns → vs = ns.map V.bl
  | [], _, ns, h, e => by simp only [RepAll] at h; subst h; simp only [boolsOf, Option.some.injEq] at e; subst e; rfl
  | .bl i :: r, _, ns, h, e => by
    simp only [RepAll] at h
    obtain ⟨v, r', rfl, h1, h2⟩ := h
    simp only [Rep] at h1
    simp only [boolsOf, Option.map_eq_some_iff] at e
    obtain ⟨ms, e1, rfl⟩ := e
    rw [bools_rep h2 e1, h1]; rfl
  | .non :: _, _, _, _, e => by simp [boolsOf] at e
  | .int _ :: _, _, _, _, e => by simp [boolsOf] at e
  | .str _ :: _, _, _, _, e => by simp [boolsOf] at e
  | .tup _ :: _, _, _, _, e => by simp [boolsOf] at e
  | .ref _ :: _, _, _, _, e => by simp [boolsOf] at e
  | .fn _ :: _, _, _, _, e => by simp [boolsOf] at e
  | .cl _ :: _, _, _, _, e => by simp [boolsOf] at e
  | .ty _ :: _, _, _, _, e => by simp [boolsOf] at e
theorem ofO_read {α β : Type} {x : Option α} {f : α → M β} {Φ : β → S → Prop} {ρ0 : List Addr} {H00 : Hp} (h : Pst L W ρ0 H00 σ Φ ((ofO x >>= f) th)) : ∃ a, x = some a ∧ Pst L W ρ0 H00 σ Φ (f a th) := by
  cases x with
  | none => exact h.elim
  | some a => exact ⟨a, rfl, h⟩
/-- a list to walk, no tuple -/
theorem lst_read {tv : TV} {v : V} (hR : R L ρ th H) (rv : RepV L H0 σ ρ o H tv v) {α : Type} {f : List T → M α} {Φ : α → S → Prop} {ρ0 : List Addr} {H00 : Hp} (h : Pst L W ρ0 H00 σ Φ ((lstOf tv >>= f) th)) :
    ∃ a xs vs, v = .ref a ∧ SqL L.K H a vs ∧ RepAll L ρ H xs vs ∧ Pst L W ρ0 H00 σ Φ (f xs th) := by
  refine isL_read hR rv ?_ h
  cases tv with
  | l xs => rfl
  | s xs g => rfl
  | t x => cases x <;> first | rfl | exact h.elim
/-! ### the rules, by values -/
def rLen (K : PySem.W.Frag) : List V → Hp → VK → Prop := fun xs H Q => ∃ x n, xs = [x] ∧ LenV K x H n ∧ Q (.int n) H
def rInt : List V → Hp → VK → Prop := fun xs H Q => (∃ i, xs = [.int i] ∧ Q (.int i) H) ∨ ∃ k, xs = [.bl k] ∧ Q (.int (if k then 1 else 0)) H
def rAbs : List V → Hp → VK → Prop := fun xs H Q => ∃ i, xs = [.int i] ∧ Q (.int (if i < 0 then -i else i)) H
def rMx2 : List V → Hp → VK → Prop := fun xs H Q => ∃ i j, xs = [.int i, .int j] ∧ Q (.int (if j > i then j else i)) H
def rMn2 : List V → Hp → VK → Prop := fun xs H Q => ∃ i j, xs = [.int i, .int j] ∧ Q (.int (if j < i then j else i)) H
def rLst (K : PySem.W.Frag) : List V → Hp → VK → Prop := fun xs H Q => ∃ p ys, xs = [.ref p] ∧ (SqL K H p ys ∨ SqT K H p ys) ∧ ∀ l, H l = none → Q (.ref l) (upd H l (.lst ys))
def rTup (K : PySem.W.Frag) : List V → Hp → VK → Prop := fun xs H Q => ∃ p ys, xs = [.ref p] ∧ ((SqL K H p ys ∧ ∀ l, H l = none → Q (.ref l) (upd H l (.tup ys))) ∨ (SqT K H p ys ∧ Q (.ref p) H))
def rRep (K : PySem.W.Frag) : List V → Hp → VK → Prop := fun xs H Q => ∃ x d, xs = [x] ∧ Dp K H x d ∧ reprOk d = true ∧ Q (.str d.shown) H
theorem call_rep (hg : X.A.guards = some []) (hu : X.A.units + 100 < cLine) : CallR X (.builtin "repr") (rRep X.K) := by
  intro pins s σ H xs us Q I r h
  obtain ⟨x, d, rfl, hd, ok, q⟩ := h
  obtain ⟨u, rfl, rx⟩ := vals1 r
  unfold reprOk at ok
  simp only [Bool.and_eq_true, decide_eq_true_eq, Bool.not_eq_true'] at ok
  obtain ⟨⟨⟨o1, o2⟩, o3⟩, o4⟩ := ok
  obtain ⟨as, rd⟩ := Dp.reads I d x u hd rx
  have fin : ∀ {x : V}, (∃ a, x = .ref a) → RelV x u → Dp X.K H x d → wpAny (model X.prog X.w) X.A (call (.builtin "repr") [u]) (EP X pins σ Q) X.xe s := by
    rintro _ ⟨a, rfl⟩ rx hd
    cases rx
    refine repr_of_reads' rd o1 (fun z => by rw [o2] at z; cases z) hg (by omega) (fun _ _ e => e) (fun h' u tk hk => ⟨.str _, H, I.kept hk, ⟨_, rfl⟩, q⟩) o4
  cases hd with
  | non => cases rx; exact PySem.P.repr_of_none ⟨.str _, H, I.tok _, ⟨_, rfl⟩, q⟩
  | bl b => cases rx; exact PySem.P.repr_of_bool ⟨.str _, H, I.tok _, ⟨_, rfl⟩, q⟩
  | int i =>
    obtain ⟨t, rfl⟩ := rx
    exact PySem.P.repr_of_int (of_decide_eq_true o1) ⟨.str _, H, I.tok _, ⟨_, rfl⟩, q⟩
  | str z =>
    obtain ⟨t, rfl⟩ := rx
    exact PySem.P.repr_of_str ⟨.str _, H, I.tok _, ⟨_, rfl⟩, q⟩ o4
  | lst e1 e2 => exact fin ⟨_, rfl⟩ rx (.lst e1 e2)
  | tup e1 e2 => exact fin ⟨_, rfl⟩ rx (.tup e1 e2)
def rLnS (K : PySem.W.Frag) : List V → Hp → VK → Prop := fun xs H Q => ∃ a ns, xs = [V.ref a] ∧ SqL K H a (ns.map V.int) ∧ ns.length < 4000 ∧ Q (.int (dedup ns).length) H
def rSrS (K : PySem.W.Frag) : List V → Hp → VK → Prop := fun xs H Q => ∃ a ns, xs = [V.ref a] ∧ (SqL K H a (ns.map V.int) ∨ SqT K H a (ns.map V.int)) ∧ ns.length < 4000 ∧ (dedup ns).length < 64 ∧ ∀ l, H l = none → Q (.ref l) (upd H l (.lst ((isort (dedup ns)).map V.int)))
theorem isort_perm (ns : List Int) : (isort ns).Perm ns := List.mergeSort_perm _ _
theorem isort_pw (ns : List Int) : (isort ns).Pairwise (· ≤ ·) := by
  have h := List.pairwise_mergeSort (le := fun a b : Int => decide (a ≤ b)) (by intro a b c; simp; omega) (by intro a b; simp; omega) ns
  exact h.imp fun h => by simpa using h
/-- an ascending list is told by its members -/
theorem isort_eq {ns ms : List Int} (hp : ms.Perm ns) (hs : ms.Pairwise (· ≤ ·)) : ms = isort ns :=
  List.Perm.eq_of_pairwise (le := (· ≤ ·)) (fun a b _ _ h k => by omega) hs (isort_pw ns) (hp.trans (isort_perm ns).symm)
theorem dedup_step (l : List Int) (v : Int) : dedup (l ++ [v]) = if v ∈ dedup l then dedup l else dedup l ++ [v] := by
  unfold dedup
  rw [List.foldl_append]
  simp only [List.foldl_cons, List.foldl_nil, PyProof.Rows.step_dedup]
  simp
theorem dedup_facts (l : List Int) : (dedup l).Nodup ∧ ∀ v, v ∈ dedup l ↔ v ∈ l := by
  have key : ∀ r : List Int, (dedup r.reverse).Nodup ∧ ∀ v, v ∈ dedup r.reverse ↔ v ∈ r.reverse := by
    intro r
    induction r with
    | nil => exact ⟨List.nodup_nil, fun v => Iff.rfl⟩
    | cons x r ih =>
      rw [List.reverse_cons, dedup_step]
      by_cases h : x ∈ dedup r.reverse
      · rw [if_pos h]
        exact ⟨ih.1, fun v => by
          rw [ih.2, List.mem_append, List.mem_singleton]
          exact ⟨.inl, fun q => q.elim id fun q => by rw [q]; exact (ih.2 x).mp h⟩⟩
      · rw [if_neg h]
        refine ⟨?_, fun v => by rw [List.mem_append, List.mem_append, ih.2]⟩
        rw [List.nodup_append]
        exact ⟨ih.1, by simp, fun a ha b hb => by
          rw [List.mem_singleton] at hb
          rw [hb]
          rintro rfl
          exact h ha⟩
  have := key l.reverse
  rwa [List.reverse_reverse] at this
/-- a strictly ascending list with just these members -/
theorem sset_eq {ns ms : List Int} (hs : ms.Pairwise (· < ·)) (hm : ∀ k, k ∈ ms ↔ k ∈ ns) : ms = isort (dedup ns) := by
  have nd : ms.Nodup := hs.imp fun h => by omega
  refine isort_eq ?_ (hs.imp fun h => by omega)
  rw [List.perm_ext_iff_of_nodup nd (dedup_facts ns).1]
  intro k
  rw [hm, (dedup_facts ns).2]
/-- a built-in's rule -/
def biR (K : PySem.W.Frag) : Bi → List V → Hp → VK → Prop
  | .len => rLen K
  | .all => rAll K
  | .any => rAny K
  | .tuple => rTup K
  | .list => rLst K
  | .sum => rSum K
  | .int => rInt
  | .abs => rAbs
  | .max1 => rMax K
  | .min1 => rMin K
  | .max2 => rMx2
  | .min2 => rMn2
  | .repr => rRep K
  | .lenset => rLnS K
  | .sorted => rSortedI K
  | .sortedset => rSrS K
  | _ => fun _ _ _ => False
def biF : Bi → Option (Str × Value)
  | .len => some ("len", .builtin "len")
  | .all => some ("all", .builtin "all")
  | .any => some ("any", .builtin "any")
  | .tuple => some ("tuple", .type "tuple")
  | .list => some ("list", .type "list")
  | .sum => some ("sum", .builtin "sum")
  | .int => some ("int", .type "int")
  | .abs => some ("abs", .builtin "abs")
  | .max1 => some ("max", .builtin "max")
  | .min1 => some ("min", .builtin "min")
  | .max2 => some ("max", .builtin "max")
  | .min2 => some ("min", .builtin "min")
  | .repr => some ("repr", .builtin "repr")
  | .sorted => some ("sorted", .builtin "sorted")
  | _ => none
theorem biC {b : Bi} {x : Str} {u : Value} (hc : X.calm = true) (hgd : X.A.guards = some []) (hu : X.A.units + 100 < cLine) (h : biF b = some (x, u)) : CallR X u (biR X.K b) := by
  cases b <;> simp only [biF, Option.some.injEq, Prod.mk.injEq] at h <;> first
    | (obtain ⟨_, rfl⟩ := h; first | exact call_len | exact cr_all hc | exact cr_any hc | exact call_tuple_of | exact call_list_of | exact cr_sum hc | exact call_int1 | exact call_abs | exact cr_max hc | exact cr_min hc | exact call_max2 hc | exact call_min2 hc | exact call_rep hgd hu | exact cr_sortedI)
    | exact h.elim
    | cases h
theorem foldl_max {ns : List Int} {a m : Int} (hm : m = a ∨ m ∈ ns) (ha : a ≤ m) (h : ∀ y ∈ ns, y ≤ m) : ns.foldl (fun a b => if b > a then b else a) a = m := by
  induction ns generalizing a with
  | nil => rcases hm with hm | hm; exact hm.symm; cases hm
  | cons x r ih =>
    rw [List.foldl_cons]
    have hx := h x List.mem_cons_self
    refine ih ?_ ?_ fun y hy => h y (List.mem_cons_of_mem _ hy)
    · rcases hm with hm | hm
      · left; split <;> omega
      · rcases List.mem_cons.mp hm with hm | hm
        · left; split <;> omega
        · exact .inr hm
    · split <;> omega
theorem foldl_min {ns : List Int} {a m : Int} (hm : m = a ∨ m ∈ ns) (ha : m ≤ a) (h : ∀ y ∈ ns, m ≤ y) : ns.foldl (fun a b => if b < a then b else a) a = m := by
  induction ns generalizing a with
  | nil => rcases hm with hm | hm; exact hm.symm; cases hm
  | cons x r ih =>
    rw [List.foldl_cons]
    have hx := h x List.mem_cons_self
    refine ih ?_ ?_ fun y hy => h y (List.mem_cons_of_mem _ hy)
    · rcases hm with hm | hm
      · left; split <;> omega
      · rcases List.mem_cons.mp hm with hm | hm
        · left; split <;> omega
        · exact .inr hm
    · split <;> omega
theorem maxI_eq {ns : List Int} {m k : Int} (e : maxI ns = some k) (hm : m ∈ ns) (h : ∀ y, y ∈ ns → y ≤ m) : m = k := by
  cases ns with
  | nil => cases hm
  | cons x r =>
    simp only [maxI, Option.some.injEq] at e
    rw [← e]
    exact (foldl_max (by simpa using hm) (h x List.mem_cons_self) fun y hy => h y (List.mem_cons_of_mem _ hy)).symm
theorem minI_eq {ns : List Int} {m k : Int} (e : minI ns = some k) (hm : m ∈ ns) (h : ∀ y, y ∈ ns → m ≤ y) : m = k := by
  cases ns with
  | nil => cases hm
  | cons x r =>
    simp only [minI, Option.some.injEq] at e
    rw [← e]
    exact (foldl_min (by simpa using hm) (h x List.mem_cons_self) fun y hy => h y (List.mem_cons_of_mem _ hy)).symm
theorem int_reps : ∀ {ρ : List Addr} {H : Hp} (ns : List Int), RepAll L ρ H (ns.map T.int) (ns.map V.int)
  | _, _, [] => RepAll.nil
  | _, _, n :: ns => (int_reps ns).cons (by simp only [Rep])
/-- a built-in's answer -/
theorem bi_read {b : Bi} {tvs : List TV} {vs : List V} {Q : VK} (hR : R L ρ1 th1 H1) (x1 : Ex0 ρ H ρ1 H1) (rs : RepGs L ρ1 H1 tvs vs) (h : Pst L W ρ H σ (KV L ρ H env σ Q) (bi b tvs th1)) : biR L.K b vs H1 Q := by
  unfold bi at h
  split at h
  · -- repr
    rename_i a
    obtain ⟨v, rfl, rg⟩ := rs.one
    unfold reprV at h
    cases e : a.dat th1 with
    | none => simp only [e] at h; exact h.elim
    | some d =>
      simp only [e] at h
      split at h
      · rename_i ok
        exact ⟨v, d, rfl, dat_read hR (rg.repV (σ := σ) (H0 := H1)) e, ok, fin_ok (tv := .t (.str d.shown)) h x1 hR (by simp only [RepV, Rep])⟩
      · exact h.elim
  · -- len of set
    obtain ⟨v, rfl, rg⟩ := rs.one
    obtain ⟨p, xs, ws, rfl, q1, q2, h3⟩ := lst_read hR (rg.repV (σ := σ) (H0 := H1)) h
    obtain ⟨ns, e, h4⟩ := ofO_read h3
    have e2 := ints_rep q2 e
    subst e2
    split at h4
    · rename_i hn
      exact ⟨p, ns, rfl, q1, hn, fin_ok h4 x1 hR (by simp only [RepV, Rep])⟩
    · exact h4.elim
  · -- sorted
    obtain ⟨v, rfl, rg⟩ := rs.one
    obtain ⟨p, xs, ws, rfl, q1, q2, h3⟩ := lst_read hR (rg.repV (σ := σ) (H0 := H1)) h
    obtain ⟨ns, e, h4⟩ := ofO_read h3
    have e2 := ints_rep q2 e
    subst e2
    refine ⟨p, ns, rfl, q1, fun ms t hp hs ht => ?_⟩
    rw [isort_eq hp hs]
    exact fin_ok h4 (x1.trans (Ext.new1 ht)) (hR.new1 ht) (new_lst hR ht (int_reps _) (hR.free x1 (fun _ z => z.elim) ht))
  · -- sorted of set
    obtain ⟨v, rfl, rg⟩ := rs.one
    obtain ⟨k, p, xs, ws, rfl, q1, q2, h3⟩ := seq_read hR (rg.repV (σ := σ) (H0 := H1)) h
    obtain ⟨ns, e, h4⟩ := ofO_read h3
    have e2 := ints_rep q2 e
    subst e2
    split at h4
    · rename_i hn
      refine ⟨p, ns, rfl, ?_, hn.1, hn.2, fun t ht => fin_ok h4 (x1.trans (Ext.new1 ht)) (hR.new1 ht) (new_lst hR ht (int_reps _) (hR.free x1 (fun _ z => z.elim) ht))⟩
      cases k with
      | true => exact .inl q1
      | false => exact .inr q1
    · exact h4.elim
  · -- len
    rename_i a
    obtain ⟨v, rfl, rg⟩ := rs.one
    unfold len at h
    split at h
    · rename_i z
      simp only [RepG, Rep] at rg
      subst rg
      by_cases hz : z.length ≤ sizeLine
      · simp only [if_pos hz] at h
        exact ⟨_, z.length, rfl, ⟨hz, rfl⟩, fin_ok (tv := .t (.int z.length)) h x1 hR (by simp only [RepV, Rep])⟩
      · simp only [if_neg hz] at h
        exact h.elim
    · rw [bind_assoc'] at h
      obtain ⟨k, p, xs, ws, rfl, q1, q2, h3⟩ := seq_read hR (rg.repV (σ := σ) (H0 := H1)) h
      refine ⟨_, ws.length, rfl, ?_, ?_⟩
      · cases k with
        | true => exact .inl ⟨ws, q1, rfl⟩
        | false => exact .inr ⟨ws, q1, rfl⟩
      · have e := q2.length
        rw [← e]
        exact fin_ok (tv := .t (.int xs.length)) h3 x1 hR (by simp only [RepV, Rep])
  · -- all
    obtain ⟨v, rfl, rg⟩ := rs.one
    obtain ⟨p, xs, ws, rfl, q1, q2, h3⟩ := lst_read hR (rg.repV (σ := σ) (H0 := H1)) h
    obtain ⟨bs, e, h4⟩ := ofO_read h3
    have e2 := bools_rep q2 e
    subst e2
    exact ⟨p, bs, rfl, q1, fin_ok h4 x1 hR (by simp only [RepV, Rep])⟩
  · obtain ⟨v, rfl, rg⟩ := rs.one
    obtain ⟨p, xs, ws, rfl, q1, q2, h3⟩ := lst_read hR (rg.repV (σ := σ) (H0 := H1)) h
    obtain ⟨bs, e, h4⟩ := ofO_read h3
    have e2 := bools_rep q2 e
    subst e2
    exact ⟨p, bs, rfl, q1, fin_ok h4 x1 hR (by simp only [RepV, Rep])⟩
  · -- tuple
    obtain ⟨v, rfl, rg⟩ := rs.one
    obtain ⟨k, p, xs, ws, rfl, q1, q2, h3⟩ := seq_read hR (rg.repV (σ := σ) (H0 := H1)) h
    refine ⟨p, ws, rfl, ?_⟩
    cases k with
    | true => exact .inl ⟨q1, fun t ht => fin_ok h3 (x1.trans (Ext.new1 ht)) (hR.new1 ht) (new_tup hR ht q2)⟩
    | false => exact .inr ⟨q1, fin_ok h3 x1 hR (by simp only [RepV, Rep]; exact ⟨p, ws, rfl, q1, q2⟩)⟩
  · -- list
    obtain ⟨v, rfl, rg⟩ := rs.one
    obtain ⟨k, p, xs, ws, rfl, q1, q2, h3⟩ := seq_read hR (rg.repV (σ := σ) (H0 := H1)) h
    refine ⟨p, ws, rfl, ?_, fun t ht => fin_ok h3 (x1.trans (Ext.new1 ht)) (hR.new1 ht) (new_lst hR ht q2 (hR.free x1 (fun _ z => z.elim) ht))⟩
    cases k with
    | true => exact .inl q1
    | false => exact .inr q1
  · obtain ⟨v, rfl, rg⟩ := rs.one
    simp only [RepG, Rep] at rg
    exact .inl ⟨_, by rw [rg], fin_ok h x1 hR (by simp only [RepV, Rep])⟩
  · obtain ⟨v, rfl, rg⟩ := rs.one
    simp only [RepG, Rep] at rg
    exact .inr ⟨_, by rw [rg], fin_ok h x1 hR (by simp only [RepV, Rep])⟩
  · obtain ⟨v, rfl, rg⟩ := rs.one
    simp only [RepG, Rep] at rg
    exact ⟨_, by rw [rg], fin_ok h x1 hR (by simp only [RepV, Rep])⟩
  · -- sum
    obtain ⟨v, rfl, rg⟩ := rs.one
    obtain ⟨p, xs, ws, rfl, q1, q2, h3⟩ := lst_read hR (rg.repV (σ := σ) (H0 := H1)) h
    obtain ⟨ns, e, h4⟩ := ofO_read h3
    have e2 := ints_rep q2 e
    subst e2
    exact ⟨p, ns, rfl, q1, fin_ok h4 x1 hR (by simp only [RepV, Rep])⟩
  · obtain ⟨v, rfl, rg⟩ := rs.one
    obtain ⟨p, xs, ws, rfl, q1, q2, h3⟩ := lst_read hR (rg.repV (σ := σ) (H0 := H1)) h
    obtain ⟨ns, e, h4⟩ := ofO_read h3
    obtain ⟨m, e3, h5⟩ := ofO_read h4
    have e2 := ints_rep q2 e
    subst e2
    refine ⟨p, ns, rfl, q1, ?_, fun k hk hy => ?_⟩
    · cases ns with
      | nil => simp [maxI] at e3
      | cons a r => simp
    · rw [maxI_eq e3 hk hy]
      exact fin_ok h5 x1 hR (by simp only [RepV, Rep])
  · obtain ⟨v, rfl, rg⟩ := rs.one
    obtain ⟨p, xs, ws, rfl, q1, q2, h3⟩ := lst_read hR (rg.repV (σ := σ) (H0 := H1)) h
    obtain ⟨ns, e, h4⟩ := ofO_read h3
    obtain ⟨m, e3, h5⟩ := ofO_read h4
    have e2 := ints_rep q2 e
    subst e2
    refine ⟨p, ns, rfl, q1, ?_, fun k hk hy => ?_⟩
    · cases ns with
      | nil => simp [minI] at e3
      | cons a r => simp
    · rw [minI_eq e3 hk hy]
      exact fin_ok h5 x1 hR (by simp only [RepV, Rep])
  · obtain ⟨v, w, rfl, r1, r2⟩ := rs.two
    simp only [RepG, Rep] at r1 r2
    exact ⟨_, _, by rw [r1, r2], fin_ok h x1 hR (by simp only [RepV, Rep])⟩
  · obtain ⟨v, w, rfl, r1, r2⟩ := rs.two
    simp only [RepG, Rep] at r1 r2
    exact ⟨_, _, by rw [r1, r2], fin_ok h x1 hR (by simp only [RepV, Rep])⟩
  · exact h.elim
theorem sv_bi {b : Bi} {x : Str} {u : Value} {p : Pos} {e : Expr} {es : List Expr} {cs : Es} (hK : X.K = L.K) (hc : X.calm = true) (hgd : X.A.guards = some []) (hu : X.A.units + 100 < cLine) (hb : biF b = some (x, u)) (hg : Gl X x) (hm : X.mg x = none) (ha : PA X (e :: es) (SA P L C W cs))
    (he : starEach (e :: es) X.env = (false, eval e X.env) :: starEach es X.env) (hpl : (backTo pos (starEach es X.env)).any (·.1) = false) : PE X (.Call (.Name x p) (e :: es) [] pos) (SV P L C W (.bi b cs)) := by
  have cr := biC hc hgd hu hb
  have core : ∀ σ H Q, SV P L C W (.bi b cs) σ H Q → tCB (biR X.K b) (SA P L C W cs) σ H Q := fun σ H Q ⟨ρ, th, env, hR, hE, h⟩ => by
    simp only [evalV] at h
    exact sa_step hR hE h fun ρ1 th1 H1 tvs vs x1 R1 E1 rs h1 => by rw [hK]; exact bi_read R1 x1 rs h1
  cases b <;> simp only [biF, Option.some.injEq, Prod.mk.injEq] at hb <;> first
    | (obtain ⟨rfl, rfl⟩ := hb
       first
        | exact PE.imp (pe_callB cr hg hm (by rfl) ha (by decide) (by decide) he hpl) core
        | exact PE.imp (pe_callTy cr hg hm (by rfl) ha (by decide) (by decide) he hpl) core)
    | exact hb.elim
    | cases hb
theorem firstMet_all (ns : List Int) : PyProof.Rows.firstMet (fun i => ns.getD i 0) ns.length = dedup ns := by
  unfold PyProof.Rows.firstMet dedup
  congr 1
  apply List.ext_getElem
  · rw [List.length_map, List.length_range]
  · intro i h1 h2
    rw [List.getElem_map, List.getElem_range, List.getD_eq_getElem?_getD, List.getElem?_eq_getElem h2]
    rfl
def tLenS (K : PySem.W.Frag) (ta : TE) : TE := fun σ H Q => ta σ H fun x H1 => rLnS K [x] H1 Q
theorem pe_lenS {a : Expr} {ta : TE} {p p2 q : Pos} (hc : X.calm = true) (hg : Gl X "len") (hm : X.mg "len" = none) (hg2 : Gl X "set") (hm2 : X.mg "set" = none) (ha : PE X a ta) (na : starEach [a] X.env = (false, eval a X.env) :: starEach [] X.env) :
    PE X (.Call (.Name "len" p) [.Call (.Name "set" p2) [a] [] q] [] pos) (tLenS X.K ta) := by
  refine ⟨fun pins s σ H Q I h => Call_ (ld_blt I hg hm boot_len (PyProof.Rows.callWith_builtin1 (PyProof.Rows.args_cons (Call_ (ld_blt I hg2 hm2 boot_set (PyProof.Rows.callWith_type1 (PyProof.Rows.args_cons ?_ na) na rfl))) rfl) rfl rfl))⟩
  refine thn (ha.run pins s σ H _ I h) fun v s1 ⟨x, H1, I1, r1, q1⟩ => PyProof.Rows.args_nil ?_
  obtain ⟨l, ns, ex, hq, hl, q1⟩ := q1
  cases ex
  cases r1
  obtain ⟨its, r, pl, hz⟩ := I1.list hq
  have hn : its.toArray.size = ns.length := by rw [List.size_toArray, ← r.length, List.length_map]
  refine call_set_list (ns := ns) (I1.ok.hd hc) pl.isList (by simpa using r.ints) (by rw [hn]; show _ < 4096; omega) fun h' tk hS hk => PyProof.Rows.args_nil ?_
  rw [hn, firstMet_all] at hS
  have le : (dedup ns).length ≤ ns.length := by
    rw [← firstMet_all]
    exact PyProof.Rows.firstMet_length_le _ _
  obtain ⟨o, es, ep, t, ho, hex, hd, _, _, _, hf, hcard⟩ := hS
  have I2 : Inv X pins σ H1 { s1 with heap := h', toks := tk } := I1.kept fun b o e => hk b o (Heap.lt_size e) e
  exact call_len_set ho hex hd hf (by rw [hcard]; omega) ⟨.int (dedup ns).length, H1, I2.tok _, ⟨_, by rw [hcard]⟩, q1⟩
theorem sv_lenset {a : Expr} {c : E} {p p2 q : Pos} (hK : X.K = L.K) (hc : X.calm = true) (hg : Gl X "len") (hm : X.mg "len" = none) (hg2 : Gl X "set") (hm2 : X.mg "set" = none) (ha : PE X a (SV P L C W c))
    (na : starEach [a] X.env = (false, eval a X.env) :: starEach [] X.env) : PE X (.Call (.Name "len" p) [.Call (.Name "set" p2) [a] [] q] [] pos) (SV P L C W (.bi .lenset (.cons c .nil))) := by
  refine PE.imp (pe_lenS hc hg hm hg2 hm2 ha na) fun σ H Q ⟨ρ, th, env, hR, hE, h⟩ => ?_
  simp only [evalV, evalAs] at h
  rw [bind_assoc'] at h
  refine sv_step hR hE h fun ρ1 th1 H1 tv v x1 R1 E1 rv h1 => ?_
  rw [hK]
  exact bi_read (b := .lenset) R1 x1 (.cons rv.arg .nil) h1
/-! ### list(range(..)), tuple(range(..)) -/
theorem rgV_rep {a b : Int} : RepAll L ρ H (rangeT a b) (rgV a b) := by
  unfold rangeT rgV
  generalize List.range (b - a).toNat = l
  induction l with
  | nil => simp only [List.map_nil, RepAll]
  | cons i r ih => exact ih.cons (by simp only [Rep])
def tRgS (P : Prog) (L : Lay) (C : Call) (W : WX) (c d : E) : L2.St → Hp → (Int → Int → Hp → Prop) → Prop := fun σ H Q => ∃ ρ th env, R L ρ th H ∧ EnvR L ρ H env σ ∧
  Pst L W ρ H σ (fun (p : Int × Int) th' => ∀ ρ' H', Ex0 ρ H ρ' H' → R L ρ' th' H' → Q p.1 p.2 H') ((do let x ← evalV P C c env; let i ← intOf x; let y ← evalV P C d env; let j ← intOf y; pure (i, j) : M (Int × Int)) th)
theorem prg_s1 {e : Expr} {c : E} {p : Pos} (hg : Gl X "range") (hm : X.mg "range" = none) (he : PE X e (SV P L C W c)) (hs : starEach [e] X.env = (false, eval e X.env) :: starEach [] X.env) : PRg X (.Call (.Name "range" p) [e] [] pos) (tRgS P L C W (.k (.int 0)) c) := by
  intro pins s σ H Q I ⟨ρ, th, env, hR, hE, h⟩
  refine prg_1 hg hm he hs pins s σ H Q I ?_
  have e0 : (evalV P C (.k (.int 0)) env >>= fun x => intOf x >>= fun i => evalV P C c env >>= fun y => intOf y >>= fun j => pure (i, j)) = (evalV P C c env >>= fun y => intOf y >>= fun j => (pure ((0 : Int), j) : M (Int × Int))) := by
    simp only [evalV]
    rfl
  rw [e0] at h
  refine sv_step hR hE h fun ρ1 th1 H1 x v x1 R1 E1 rv h1 => ?_
  obtain ⟨j, e1, h2⟩ := int_read rv h1
  exact ⟨j, e1, h2 ρ1 H1 x1 R1⟩
theorem prg_s2 {e e2 : Expr} {c d : E} {p : Pos} (hg : Gl X "range") (hm : X.mg "range" = none) (he : PE X e (SV P L C W c)) (he2 : PE X e2 (SV P L C W d)) (hs : starEach [e, e2] X.env = (false, eval e X.env) :: starEach [e2] X.env) (hs2 : starEach [e2] X.env = (false, eval e2 X.env) :: starEach [] X.env) :
    PRg X (.Call (.Name "range" p) [e, e2] [] pos) (tRgS P L C W c d) := by
  intro pins s σ H Q I ⟨ρ, th, env, hR, hE, h⟩
  refine prg_2 hg hm he he2 hs hs2 (by rw [hs2]; rfl) pins s σ H Q I ?_
  refine sv_step hR hE h fun ρ1 th1 H1 x v x1 R1 E1 rv h1 => ?_
  obtain ⟨i, e1, h2⟩ := int_read rv h1
  refine sv_step R1 E1 (h2.base x1) fun ρ2 th2 H2 y w x2 R2 E2 rw' h3 => ?_
  obtain ⟨j, e3, h4⟩ := int_read rw' h3
  exact ⟨i, j, e1, e3, h4 ρ2 H2 (x1.trans x2) R2⟩
theorem rg_core {b : Bi} (hb : b = .list ∨ b = .tuple) {c d : E} {Q : VK} (h : SV P L C W (.bi b (.cons (.rng c d) .nil)) σ H Q) :
    tRgS P L C W c d σ H fun i j H1 => RgOk i j ∧ ∀ q, H1 q = none → Q (.ref q) (upd H1 q (if b = .list then .lst (rgV i j) else .tup (rgV i j))) := by
  obtain ⟨ρ, th, env, hR, hE, h⟩ := h
  simp only [evalV, evalAs] at h
  have e0 : (((evalV P C c env >>= fun x => intOf x >>= fun i => evalV P C d env >>= fun y => intOf y >>= fun j => rangeV i j) >>= fun x => (pure [] : M (List TV)) >>= fun xs => pure (argOf x :: xs)) >>= fun xs => bi b xs) =
      ((evalV P C c env >>= fun x => intOf x >>= fun i => evalV P C d env >>= fun y => intOf y >>= fun j => pure (i, j)) >>= fun p : Int × Int => rangeV p.1 p.2 >>= fun x => bi b [argOf x]) := by
    simp only [bind_assoc']
    rfl
  rw [e0] at h
  refine ⟨ρ, th, env, hR, hE, h.bind.imp fun p th1 q ρ1 H1 x1 R1 => ?_⟩
  unfold rangeV at q
  split at q
  · rename_i z
    simp only [small62, Bool.and_eq_true, decide_eq_true_eq] at z
    have zl : sizeLine = 16777216 := sizeLine_eq
    refine ⟨⟨z.1.1.1, z.1.1.2, z.1.2.1, z.1.2.2, by have := z.2; omega⟩, fun t ht => ?_⟩
    rcases hb with rfl | rfl
    · have q : Pst L W ρ H σ (KV L ρ H env σ Q) (.ok (.l (rangeT p.1 p.2)) th1) := q
      exact fin_ok q (x1.trans (Ext.new1 ht)) (R1.new1 ht) (new_lst R1 ht rgV_rep (R1.free x1 (fun _ z => z.elim) ht))
    · have q : Pst L W ρ H σ (KV L ρ H env σ Q) (.ok (.t (.tup (rangeT p.1 p.2))) th1) := q
      exact fin_ok q (x1.trans (Ext.new1 ht)) (R1.new1 ht) (new_tup R1 ht rgV_rep)
  · exact q.elim
theorem sv_listRg {e : Expr} {c d : E} {p : Pos} (hc : X.calm = true) (hg : Gl X "list") (hm : X.mg "list" = none) (he : PRg X e (tRgS P L C W c d)) (hs : starEach [e] X.env = (false, eval e X.env) :: starEach [] X.env) : PE X (.Call (.Name "list" p) [e] [] pos) (SV P L C W (.bi .list (.cons (.rng c d) .nil))) :=
  PE.imp (pe_listRg hc hg hm he hs) fun σ H Q h => rg_core (.inl rfl) h
theorem sv_tupRg {e : Expr} {c d : E} {p : Pos} (hc : X.calm = true) (hg : Gl X "tuple") (hm : X.mg "tuple" = none) (he : PRg X e (tRgS P L C W c d)) (hs : starEach [e] X.env = (false, eval e X.env) :: starEach [] X.env) : PE X (.Call (.Name "tuple" p) [e] [] pos) (SV P L C W (.bi .tuple (.cons (.rng c d) .nil))) :=
  PE.imp (pe_tupRg hc hg hm he hs) fun σ H Q h => rg_core (.inr rfl) h
end
end Mini
/-! Mini: isinstance. -/
set_option linter.all false
set_option maxRecDepth 10000
namespace Mini
open PySem PySem.Spec PyProof.Rows L2
def tyStr : Ty → Option String
  | .int => some "int"
  | .bool => some "bool"
  | .str => some "str"
  | .list => some "list"
  | .tuple => some "tuple"
  | .dict => some "dict"
  | .own _ => none
/-- a value's own type -/
def tyName : TV → String
  | .t .non => "NoneType"
  | .t (.bl _) => "bool"
  | .t (.int _) => "int"
  | .t (.str _) => "str"
  | .t (.tup _) => "tuple"
  | .t (.ref _) => "list"
  | .l _ => "list"
  | .s _ _ => "list"
  | _ => "?"
def tTys : List String → TA
  | [] => tNil
  | n :: r => tCons (tC (.ty n)) (tTys r)
section
variable {P : Prog} {L : Lay} {C : Call} {W : WX} {X : Cx} {ρ ρ' ρ1 ρ2 : List Addr} {H H' H1 H2 H0 : Hp} {σ : L2.St} {env : Env} {th th1 th2 : S} {o o' : Addr → Prop} {pos : Pos}
theorem tyX_rd {a : Addr} {vs : List V} (h : Rd H a (.lst vs)) : TyX L.K H (.ref a) (.type "list") := by
  rcases h with h | ⟨ob, h⟩
  · exact .base (.lst h)
  · exact .base (.frz h)
theorem tyX_list {a : Addr} {vs : List V} (h : RdL L ρ o H a vs) : TyX L.K H (.ref a) (.type "list") := by
  rcases h with ⟨h, _⟩ | ⟨ob, its, n, e, c, _⟩
  · exact tyX_rd h
  · exact .kList e c
theorem tyX_tup {a : Addr} {vs : List V} (h : SqT L.K H a vs) : TyX L.K H (.ref a) (.type "tuple") := by
  rcases h with (h | ⟨ob, h⟩) | h
  · exact .base (.tup h)
  · exact .fTuple h
  · obtain ⟨ob, its, n, e, c, _⟩ := h
    exact .kTuple e c
def tyTab (a n : String) : Bool := a == n || (a == "bool" && n == "int")
theorem kit_tab : (["NoneType", "bool", "int", "str", "tuple", "list"].all fun a => ["int", "bool", "str", "list", "tuple", "dict"].all fun n => decide (kitB a n = some (tyTab a n))) = true := by decide +kernel
theorem kit_at {a n : String} (ha : a ∈ ["NoneType", "bool", "int", "str", "tuple", "list"]) (hn : n ∈ ["int", "bool", "str", "list", "tuple", "dict"]) : kitB a n = some (tyTab a n) := by
  have z := List.all_eq_true.mp kit_tab a ha
  exact of_decide_eq_true (List.all_eq_true.mp z n hn)
theorem tyStr_mem {ty : Ty} {n : String} (e : tyStr ty = some n) : n ∈ ["int", "bool", "str", "list", "tuple", "dict"] := by
  cases ty <;> simp only [tyStr, Option.some.injEq, reduceCtorEq] at e <;> subst e <;> simp
theorem tyName_mem {tv : TV} (hk : isKnown th tv = true) : tyName tv ∈ ["NoneType", "bool", "int", "str", "tuple", "list"] := by
  cases tv with
  | l xs => simp [tyName]
  | s xs g => simp [tyName]
  | t x => cases x <;> first | (simp [tyName]; done) | (simp [isKnown] at hk; done)
theorem isTy_tab {tv : TV} {ty : Ty} {n : String} (hk : isKnown th tv = true) (e : tyStr ty = some n) : isTy P th tv ty = tyTab (tyName tv) n := by
  cases tv with
  | l xs => cases ty <;> simp only [tyStr, Option.some.injEq, reduceCtorEq] at e <;> subst e <;> rfl
  | s xs g => cases ty <;> simp only [tyStr, Option.some.injEq, reduceCtorEq] at e <;> subst e <;> rfl
  | t x => cases x <;> (first | (simp [isKnown] at hk; done) | (cases ty <;> simp only [tyStr, Option.some.injEq, reduceCtorEq] at e <;> subst e <;> rfl))
theorem kit_name {tv : TV} {ty : Ty} {n : String} (hk : isKnown th tv = true) (e : tyStr ty = some n) : kitB (tyName tv) n = some (isTy P th tv ty) := by
  rw [isTy_tab hk e]
  exact kit_at (tyName_mem hk) (tyStr_mem e)
theorem tyX_of {tv : TV} {v : V} (hR : R L ρ th H) (rv : RepV L H0 σ ρ o H tv v) (hk : isKnown th tv = true) : TyX L.K H v (.type (tyName tv)) := by
  cases tv with
  | l xs =>
    obtain ⟨a, vs, rfl, e2, _⟩ := rv
    exact .base (.lst e2)
  | s xs g =>
    obtain ⟨a, vs, rfl, e2, _⟩ := rv
    exact tyX_list e2
  | t x =>
    cases x with
    | non => simp only [RepV, Rep] at rv; subst rv; exact .base .non
    | bl b => simp only [RepV, Rep] at rv; subst rv; exact .base (.bl b)
    | int i => simp only [RepV, Rep] at rv; subst rv; exact .base (.int i)
    | str i => simp only [RepV, Rep] at rv; subst rv; exact .base (.str i)
    | tup xs =>
      simp only [RepV, Rep] at rv
      obtain ⟨a, vs, rfl, q, _⟩ := rv
      exact tyX_tup q
    | ref n =>
      simp only [RepV, Rep] at rv
      obtain ⟨a, rfl, q⟩ := rv
      simp only [isKnown] at hk
      split at hk
      · rename_i xs e
        obtain ⟨vs, e1, _⟩ := hR.obj n a _ q e
        exact .base (.lst e1)
      · cases hk
    | fn k => simp [isKnown] at hk
    | cl k => simp [isKnown] at hk
    | ty n => simp [isKnown] at hk
theorem kit_any {tv : TV} (hk : isKnown th tv = true) : ∀ {ts : List Ty} {ns : List String}, ts.mapM tyStr = some ns → PySem.W.kitAny L.K (.type (tyName tv)) (ns.map Value.type) = some (ts.any (isTy P th tv))
  | [], ns, e => by
    simp only [List.mapM_nil, Option.pure_def, Option.some.injEq] at e
    subst e
    exact kitAny_nil
  | t :: ts, ns, e => by
    rw [List.mapM_cons] at e
    cases e1 : tyStr t with
    | none => rw [e1] at e; cases e
    | some n =>
      cases e2 : ts.mapM tyStr with
      | none => rw [e1, e2] at e; cases e
      | some ms =>
        rw [e1, e2] at e
        cases e
        have ih := kit_any hk e2
        refine kitAny_cons (b := isTy P th tv t) (kit_ty (kit_name hk e1)) (fun z => ?_) fun z => ?_
        · rw [List.any_cons, z, Bool.false_or]; exact ih
        · rw [List.any_cons, z, Bool.true_or]
theorem isi_read {Q : VK} {tv : TV} {v : V} {ts : List Ty} (h : Pst L W ρ H σ (KV L ρ H env σ Q) ((getS >>= fun s => if isKnown s tv then pure (.t (.bl (ts.any (isTy P s tv)))) else fail) th1)) :
    isKnown th1 tv = true ∧ Pst L W ρ H σ (KV L ρ H env σ Q) (.ok (.t (.bl (ts.any (isTy P th1 tv)))) th1) := by
  have h : Pst L W ρ H σ (KV L ρ H env σ Q) ((if isKnown th1 tv then pure (.t (.bl (ts.any (isTy P th1 tv)))) else fail : M TV) th1) := h
  by_cases hk : isKnown th1 tv = true
  · rw [if_pos hk] at h; exact ⟨hk, h⟩
  · rw [if_neg hk] at h; exact h.elim
theorem sv_isi1 {e e2 : Expr} {c : E} {t : Ty} {n : String} {p : Pos} (hK : X.K = L.K) (he : PE X e (SV P L C W c)) (hg : Gl X "isinstance") (hm : X.mg "isinstance" = none) (ht : PE X e2 (tC (.ty n))) (hn : tyStr t = some n)
    (hs : starEach [e, e2] X.env = (false, eval e X.env) :: starEach [e2] X.env) (hs2 : starEach [e2] X.env = (false, eval e2 X.env) :: starEach [] X.env) : PE X (.Call (.Name "isinstance" p) [e, e2] [] pos) (SV P L C W (.isi c [t])) := by
  have r := pe_callB (p := p) (pos := pos) (call_isi (X := X)) hg hm (by rfl) (pa_cons he (pa_cons ht pa_nil hs2) hs) (by decide) (by decide) hs (by rw [hs2]; rfl)
  rw [hK] at r
  refine PE.imp r fun σ H Q ⟨ρ, th, env, hR, hE, h⟩ => ?_
  simp only [evalV] at h
  refine sv_step hR hE h fun ρ1 th1 H1 x v x1 R1 E1 rv h1 => ?_
  obtain ⟨hk, h2⟩ := isi_read (v := v) h1
  refine ⟨v, .ty n, _, _, isTy P th1 x t, rfl, .ty n, tyX_of R1 rv hk, kit_ty (kit_name hk hn), ?_⟩
  exact fin_ok h2 x1 R1 (by simp only [RepV, Rep, List.any_cons, List.any_nil, Bool.or_false])
theorem tTys_run : ∀ {ns : List String} {Q : List V → Hp → Prop}, Q (ns.map V.ty) H → tTys ns σ H Q
  | [], _, q => q
  | n :: ns, Q, q => tTys_run (ns := ns) (Q := fun xs H1 => Q (V.ty n :: xs) H1) q
theorem clsV_all : ∀ ns : List String, Paired ClsV (ns.map V.ty) (ns.map Value.type)
  | [] => .nil
  | n :: ns => .cons (.ty n) (clsV_all ns)
theorem sv_isiT {e : Expr} {es : List Expr} {c : E} {ts : List Ty} {ns : List String} {k : Nat} {p tp : Pos} (hK : X.K = L.K) (he : PE X e (SV P L C W c)) (hg : Gl X "isinstance") (hm : X.mg "isinstance" = none) (ht : PA X es (tTys ns)) (hn : ts.mapM tyStr = some ns) (hl : ns.length ≤ 100)
    (hs : starEach [e, .Tuple es k tp] X.env = (false, eval e X.env) :: starEach [.Tuple es k tp] X.env) (hs2 : starEach [.Tuple es k tp] X.env = (false, eval (.Tuple es k tp) X.env) :: starEach [] X.env) : PE X (.Call (.Name "isinstance" p) [e, .Tuple es k tp] [] pos) (SV P L C W (.isi c ts)) := by
  have r := pe_callB (p := p) (pos := pos) (call_isiT (X := X)) hg hm (by rfl) (pa_cons he (pa_cons (pe_tup (x1 := k) (pos := tp) ht) pa_nil hs2) hs) (by decide) (by decide) hs (by rw [hs2]; rfl)
  rw [hK] at r
  refine PE.imp r fun σ H Q ⟨ρ, th, env, hR, hE, h⟩ => ?_
  simp only [evalV] at h
  refine sv_step hR hE h fun ρ1 th1 H1 x v x1 R1 E1 rv h1 => ?_
  obtain ⟨hk, h2⟩ := isi_read (v := v) h1
  show tTys ns σ H1 _
  refine tTys_run ⟨by rw [List.length_map, sizeLine_eq]; omega, fun tp htp => ?_⟩
  have x2 : Ex0 ρ1 H1 ρ1 (upd H1 tp (.tup (ns.map V.ty))) := Ext.new1 htp
  refine ⟨v, tp, _, _, _, ts.any (isTy P th1 x), rfl, upd_same, clsV_all ns, ?_, kit_any hk hn, ?_⟩
  · exact tyX_of (R1.new1 htp) (rv.ext R1 x2) hk
  · exact fin_ok h2 (x1.trans x2) (R1.new1 htp) (by simp only [RepV, Rep])
end
end Mini
/-! Mini: what loops and comprehensions walk. -/
set_option linter.all false
set_option maxRecDepth 10000
namespace Mini
open PySem PySem.Spec PyProof.Rows L2
/-- where walked items lie -/
def SrcAt (L : Lay) (g : List GI) (xs : List T) (k : Bool) (a : Addr) (ρ : List Addr) (o : Addr → Prop) (H : Hp) : Prop :=
  (k = true ∧ ∃ vs, RdL L ρ o H a vs ∧ RepAll L ρ H xs vs) ∨ (k = false ∧ ∃ vs, SqT L.K H a vs ∧ RepAll L ρ H xs vs) ∨ (k = true ∧ ∃ n, ρ[n]? = some a ∧ GI.o n xs ∈ g)
structure Wk (L : Lay) (J : It) (xs : List T) (g : List GI) (St : List Addr → (Addr → Prop) → Hp → Prop) : Prop where
  keep : ∀ {ρ ρ' o o' H H' th}, St ρ o H → R L ρ th H → Ext ρ o H ρ' o' H' → OL o H → St ρ' o' H'
  go : ∀ {ρ o H th i x}, St ρ o H → R L ρ th H → g.all (GI.okS th) = true → xs[i]? = some x → J.go i H ∧ ∀ v H', J.yld i H v H' → Rep L ρ H' x v ∧ R L ρ th H' ∧ (∀ p, Ext ρ p H ρ p H') ∧ ∀ b u, H b = some u → H' b = some u
  stop : ∀ {ρ o H th}, St ρ o H → R L ρ th H → g.all (GI.okS th) = true → J.stop xs.length H
def Small (env : Env) (σ : L2.St) (g : List GI) (o : Addr → Prop) : Prop := ∀ b, o b → own env σ b ∧ ∀ i, GI.sl i ∈ g → σ[i]? ≠ some (some (V.ref b))
def SI (P : Prog) (L : Lay) (C : Call) (W : WX) (c : E) : TI := fun σ H Q => ∃ ρ th env, R L ρ th H ∧ EnvR L ρ H env σ ∧
  Pst L W ρ H σ (fun (p : List T × List GI) th' => ∀ ρ' H' J St, Ex0 ρ H ρ' H' → R L ρ' th' H' → Wk L J p.1 p.2 St → (∀ o', Small env σ p.2 o' → St ρ' o' H') → Q J H') ((do let tv ← evalV P C c env; itOf tv : M (List T × List GI)) th)
section
variable {P : Prog} {L : Lay} {C : Call} {W : WX} {X : Cx} {ρ ρ' ρ1 ρ2 : List Addr} {H H' H1 H2 H0 : Hp} {σ : L2.St} {env : Env} {th th1 th2 : S} {o o' : Addr → Prop} {pos : Pos} {g : List GI} {xs ys : List T} {k : Bool} {a : Addr}
theorem PI.imp {tg e : Expr} {t t' : TI} (h : PI X tg e t) (q : ∀ σ H Q, t' σ H Q → t σ H Q) : PI X tg e t' := ⟨fun pins s σ H Q I z => h.run pins s σ H Q I (q σ H Q z)⟩
theorem SrcAt.ext (h : SrcAt L g xs k a ρ o H) (r : R L ρ th H) (x : Ext ρ o H ρ' o' H') (ho : OL o H) : SrcAt L g xs k a ρ' o' H' := by
  rcases h with ⟨e, vs, h1, h2⟩ | ⟨e, vs, h1, h2⟩ | ⟨e, n, h1, h2⟩
  · exact .inl ⟨e, vs, x.rdL h1, r.repAll x ho h2⟩
  · exact .inr (.inl ⟨e, vs, r.tup x ho h1, r.repAll x ho h2⟩)
  · obtain ⟨q, e'⟩ := x.pre
    exact .inr (.inr ⟨e, n, by rw [e', List.getElem?_append_left (List.getElem?_eq_some_iff.mp h1).1]; exact h1, h2⟩)
theorem SrcAt.mem (h : SrcAt L g xs k a ρ o H) {g' : List GI} (hg : ∀ z ∈ g, z ∈ g') : SrcAt L g' xs k a ρ o H := by
  rcases h with h | h | ⟨e, n, h1, h2⟩
  · exact .inl h
  · exact .inr (.inl h)
  · exact .inr (.inr ⟨e, n, h1, hg _ h2⟩)
theorem SrcAt.read (h : SrcAt L g xs k a ρ o H) (r : R L ρ th H) (hg : g.all (GI.okS th) = true) : ∃ vs, SqK L.K k H a vs ∧ RepAll L ρ H xs vs := by
  rcases h with ⟨e, vs, h1, h2⟩ | ⟨e, vs, h1, h2⟩ | ⟨e, n, h1, h2⟩
  · subst e; exact ⟨vs, h1.sq, h2⟩
  · subst e; exact ⟨vs, h1, h2⟩
  · subst e
    have z := List.all_eq_true.mp hg _ h2
    simp only [GI.okS] at z
    split at z
    · rename_i ys e
      obtain ⟨vs, q1, q2⟩ := r.obj n a _ h1 e
      rw [T.eq_of_eqbAll _ _ z] at q2
      exact ⟨vs, SqL.of q1, q2⟩
    · cases z
theorem SqK.inj {vs ws : List V} (h : SqK L.K k H a vs) (h' : SqK L.K k H a vs) : True := trivial
/-! ### the walkers -/
theorem wk_seq : Wk L (ItK L.K k a) xs g (SrcAt L g xs k a) where
  keep := fun h r x ho => h.ext r x ho
  go := fun {ρ o H th i x} h r hg e => by
    obtain ⟨vs, q1, q2⟩ := h.read r hg
    obtain ⟨v, e1, e2⟩ := q2.get e
    cases k with
    | true => exact ⟨⟨vs, v, q1, e1⟩, fun u H' y => by
        obtain ⟨rfl, y⟩ := y
        have z := y vs q1
        rw [e1] at z; cases z
        exact ⟨e2, r, fun _ => Ext.refl, fun _ _ h => h⟩⟩
    | false => exact ⟨⟨vs, v, q1, e1⟩, fun u H' y => by
        obtain ⟨rfl, y⟩ := y
        have z := y vs q1
        rw [e1] at z; cases z
        exact ⟨e2, r, fun _ => Ext.refl, fun _ _ h => h⟩⟩
  stop := fun {ρ o H th} h r hg => by
    obtain ⟨vs, q1, q2⟩ := h.read r hg
    have l := q2.length
    cases k with
    | true => exact ⟨vs, q1, Nat.le_of_eq l.symm⟩
    | false => exact ⟨vs, q1, Nat.le_of_eq l.symm⟩
theorem new_pair {p : Addr} {x y : T} {v w : V} (r : R L ρ th H) (hp : H p = none) (h1 : Rep L ρ H x v) (h2 : Rep L ρ H y w) : Rep L ρ (upd H p (.tup [v, w])) (.tup [x, y]) (.ref p) :=
  new_tup r hp ((RepAll.nil.cons h2).cons h1)
theorem enumT_get {i : Nat} {x : T} (e : (enumT xs)[i]? = some x) : ∃ y, xs[i]? = some y ∧ x = .tup [.int i, y] := by
  unfold enumT at e
  rw [List.getElem?_map, List.zip, List.getElem?_zipWith] at e
  cases e1 : (List.range xs.length)[i]? with
  | none => rw [e1] at e; simp at e
  | some j =>
    cases e2 : xs[i]? with
    | none => rw [e1, e2] at e; simp at e
    | some y =>
      rw [e1, e2] at e
      simp only [Option.map_some, Option.some.injEq] at e
      have hj : j = i := by
        have := List.getElem?_eq_some_iff.mp e1
        obtain ⟨h1, h2⟩ := this
        rw [List.getElem_range] at h2
        exact h2.symm
      exact ⟨y, rfl, by rw [← e, hj]⟩
theorem enumT_len : (enumT xs).length = xs.length := by
  unfold enumT
  simp
theorem wk_enum : Wk L (IteK L.K k a) (enumT xs) g (SrcAt L g xs k a) where
  keep := fun h r x ho => h.ext r x ho
  go := fun {ρ o H th i x} h r hg e => by
    obtain ⟨vs, q1, q2⟩ := h.read r hg
    obtain ⟨y, e1, rfl⟩ := enumT_get e
    obtain ⟨v, e2, e3⟩ := q2.get e1
    refine ⟨⟨vs, v, q1, e2⟩, fun u H' z => ?_⟩
    obtain ⟨p, w, rfl, hp, rfl, z⟩ := z
    have z := z vs q1
    rw [e2] at z; cases z
    exact ⟨new_pair r hp (by simp only [Rep]) e3, r.new1 hp, fun _ => Ext.new1 hp, fun b u e => upd_frame hp e⟩
  stop := fun {ρ o H th} h r hg => by
    obtain ⟨vs, q1, q2⟩ := h.read r hg
    rw [enumT_len]
    exact ⟨vs, q1, q2.length.symm⟩
theorem pairs_get {i : Nat} {x : T} (e : (pairs xs ys)[i]? = some x) : ∃ y z, xs[i]? = some y ∧ ys[i]? = some z ∧ x = .tup [y, z] := by
  unfold pairs at e
  rw [List.getElem?_zipWith] at e
  cases e1 : xs[i]? with
  | none => rw [e1] at e; simp at e
  | some y =>
    cases e2 : ys[i]? with
    | none => rw [e1, e2] at e; simp at e
    | some z =>
      rw [e1, e2] at e
      exact ⟨y, z, rfl, rfl, by cases e; rfl⟩
theorem wk_zip {g1 g2 : List GI} {k1 k2 : Bool} {a b : Addr} : Wk L (ItzK L.K k1 k2 a b) (pairs xs ys) (g1 ++ g2) (fun ρ o H => SrcAt L g1 xs k1 a ρ o H ∧ SrcAt L g2 ys k2 b ρ o H) where
  keep := fun h r x ho => ⟨h.1.ext r x ho, h.2.ext r x ho⟩
  go := fun {ρ o H th i x} h r hg e => by
    rw [List.all_append, Bool.and_eq_true] at hg
    obtain ⟨vs, q1, q2⟩ := h.1.read r hg.1
    obtain ⟨ws, q3, q4⟩ := h.2.read r hg.2
    obtain ⟨y, z, e1, e2, rfl⟩ := pairs_get e
    obtain ⟨v, e3, e4⟩ := q2.get e1
    obtain ⟨w, e5, e6⟩ := q4.get e2
    refine ⟨⟨vs, ws, v, w, q1, q3, e3, e5⟩, fun u H' z => ?_⟩
    obtain ⟨p, v', w', rfl, hp, rfl, z1, z2⟩ := z
    have z1 := z1 vs q1
    have z2 := z2 ws q3
    rw [e3] at z1; cases z1
    rw [e5] at z2; cases z2
    exact ⟨new_pair r hp e4 e6, r.new1 hp, fun _ => Ext.new1 hp, fun b u e => upd_frame hp e⟩
  stop := fun {ρ o H th} h r hg => by
    rw [List.all_append, Bool.and_eq_true] at hg
    obtain ⟨vs, q1, q2⟩ := h.1.read r hg.1
    obtain ⟨ws, q3, q4⟩ := h.2.read r hg.2
    have l1 := q2.length
    have l2 := q4.length
    have l : (pairs xs ys).length = min xs.length ys.length := by unfold pairs; simp
    exact ⟨vs, ws, q1, q3, by omega, by omega, by omega⟩
theorem wk_rng {lo hi : Int} {n : Nat} (hn : n = (hi - lo).toNat) : Wk L (Itr lo n) (rangeT lo hi) [] (fun _ _ _ => True) where
  keep := fun _ _ _ _ => trivial
  go := fun {ρ o H th i x} h r hg e => by
    unfold rangeT at e
    rw [List.getElem?_map] at e
    cases e1 : (List.range (hi - lo).toNat)[i]? with
    | none => rw [e1] at e; simp at e
    | some j =>
      obtain ⟨h1, h2⟩ := List.getElem?_eq_some_iff.mp e1
      rw [List.getElem_range] at h2
      subst h2
      rw [e1] at e
      simp only [Option.map_some, Option.some.injEq] at e
      subst e
      rw [List.length_range] at h1
      refine ⟨by show i < n; omega, fun v H' y => ?_⟩
      obtain ⟨rfl, rfl⟩ := y
      exact ⟨by simp only [Rep], r, fun _ => Ext.refl, fun _ _ h => h⟩
  stop := fun {ρ o H th} h r hg => by
    show n ≤ _
    unfold rangeT
    rw [List.length_map, List.length_range]
    omega
/-! ### iterables -/
theorem src_of {tv : TV} {v : V} {α : Type} {f : List T × List GI → M α} {Φ : α → S → Prop} {ρ0 : List Addr} {H00 : Hp} (hR : R L ρ1 th1 H1) (hE : EnvR L ρ H env σ) (x1 : Ex0 ρ H ρ1 H1) (rv : RepV L H σ ρ1 (own env σ) H1 tv v)
    (h : Pst L W ρ0 H00 σ Φ ((itOf tv >>= f) th1)) : ∃ xs g k a, v = .ref a ∧ (∀ o', Small env σ g o' → SrcAt L g xs k a ρ1 o' H1) ∧ (∃ vs, SqK L.K k H1 a vs ∧ RepAll L ρ1 H1 xs vs) ∧ Pst L W ρ0 H00 σ Φ (f (xs, g) th1) := by
  cases tv with
  | l xs =>
    obtain ⟨a, vs, rfl, e2, e3, e4, e5⟩ := rv
    refine ⟨xs, [], true, a, rfl, fun o' ho => .inl ⟨rfl, vs, .inl ⟨.inl e2, e4, fun z => ?_⟩, e3⟩, ⟨vs, SqL.of e2, e3⟩, h⟩
    obtain ⟨ws, q⟩ := hE.ol a (ho a z).1
    rw [e5] at q; cases q
  | s xs g =>
    obtain ⟨a, vs, rfl, e2, e3, e4⟩ := rv
    refine ⟨xs, g, true, a, rfl, fun o' ho => .inl ⟨rfl, vs, ?_, e3⟩, ⟨vs, e2.sq, e3⟩, h⟩
    rcases e2 with ⟨e2, n, _⟩ | e2
    · by_cases z : o' a
      · obtain ⟨z1, z2⟩ := ho a z
        rcases e4 z1 with q | ⟨i, q1, q2⟩
        · exact .inr q
        · exact (z2 i q1 q2).elim
      · exact .inl ⟨e2, n, z⟩
    · exact .inr e2
  | t x =>
    cases x with
    | tup xs =>
      simp only [RepV, Rep] at rv
      obtain ⟨a, vs, rfl, e2, e3⟩ := rv
      exact ⟨xs, [], false, a, rfl, fun o' _ => .inr (.inl ⟨rfl, vs, e2, e3⟩), ⟨vs, e2, e3⟩, h⟩
    | ref n =>
      simp only [RepV, Rep] at rv
      obtain ⟨a, rfl, ea⟩ := rv
      have e0 : (itOf (.t (.ref n)) >>= f) = (deref n >>= fun xs => f (xs, [.o n xs])) := by
        show ((deref n >>= fun xs => pure (xs, [GI.o n xs])) >>= f) = _
        rw [bind_assoc']
        rfl
      rw [e0] at h
      rw [bind_app] at h
      unfold deref at h
      cases e : th1[n]? with
      | none => simp only [e] at h; exact h.elim
      | some ob =>
        cases ob with
        | ins c fs => simp only [e] at h; exact h.elim
        | dk fs => simp only [e] at h; exact h.elim
        | dt fs => simp only [e] at h; exact h.elim
        | lst xs =>
          simp only [e] at h
          obtain ⟨vs, q1, q2⟩ := hR.obj n a _ ea e
          exact ⟨xs, [.o n xs], true, a, rfl, fun o' _ => .inr (.inr ⟨rfl, n, ea, List.mem_singleton.mpr rfl⟩), ⟨vs, SqL.of q1, q2⟩, h⟩
    | _ => exact h.elim
theorem fin_si {Q : It → Hp → Prop} {p : List T × List GI} {J : It} {St : List Addr → (Addr → Prop) → Hp → Prop} (h : Pst L W ρ1 H1 σ (fun (p : List T × List GI) th' => ∀ ρ' H' J St, Ex0 ρ H ρ' H' → R L ρ' th' H' → Wk L J p.1 p.2 St → (∀ o', Small env σ p.2 o' → St ρ' o' H') → Q J H') (.ok p th2))
    (x : Ex0 ρ H ρ2 H2) (r : R L ρ2 th2 H2) (w : Wk L J p.1 p.2 St) (s : ∀ o', Small env σ p.2 o' → St ρ2 o' H2) : Q J H2 := h ρ2 H2 J St x r w s
theorem si_seq {tg e : Expr} {c : E} (hK : X.K = L.K) (he : PE X e (SV P L C W c)) : PI X tg e (SI P L C W c) := by
  have r := pi_seqK (tg := tg) he
  rw [hK] at r
  refine PI.imp r fun σ H Q ⟨ρ, th, env, hR, hE, h⟩ => ?_
  refine sv_step hR hE h fun ρ1 th1 H1 x v x1 R1 E1 rv h1 => ?_
  rw [← bind_pure' (itOf x)] at h1
  obtain ⟨xs, g, k, a, rfl, hs, ⟨vs, q1, q2⟩, h2⟩ := src_of R1 hE x1 rv h1
  exact ⟨k, a, vs, rfl, q1, fin_si h2 x1 R1 wk_seq hs⟩
theorem si_enum {e : Expr} {c : E} {p tpos : Pos} {elts : List Expr} {kk : Nat} (hK : X.K = L.K) (hg : Gl X "enumerate") (hm : X.mg "enumerate" = none) (he : PE X e (SV P L C W c)) (hs : starEach [e] X.env = (false, eval e X.env) :: starEach [] X.env) :
    PI X (.Tuple elts kk tpos) (.Call (.Name "enumerate" p) [e] [] pos) (SI P L C W (.enum c)) := by
  have r := pi_enumK (p := p) (pos := pos) (tpos := tpos) (elts := elts) (kk := kk) hg hm (pa_cons he pa_nil hs) hs
  rw [hK] at r
  refine PI.imp r fun σ H Q ⟨ρ, th, env, hR, hE, h⟩ => ?_
  rw [evalV, bind_assoc'] at h
  show SV P L C W c σ H _
  refine sv_step hR hE h fun ρ1 th1 H1 x v x1 R1 E1 rv h1 => ?_
  rw [bind_assoc'] at h1
  obtain ⟨xs, g, k, a, rfl, hs, ⟨vs, q1, q2⟩, h2⟩ := src_of R1 hE x1 rv h1
  exact ⟨k, a, vs, rfl, q1, fin_si (p := (enumT xs, g)) h2 x1 R1 wk_enum hs⟩
theorem si_zip {e e2 : Expr} {c d : E} {p tpos : Pos} {elts : List Expr} {kk : Nat} (hK : X.K = L.K) (hg : Gl X "zip") (hm : X.mg "zip" = none) (he : PE X e (SV P L C W c)) (he2 : PE X e2 (SV P L C W d))
    (hs : starEach [e, e2] X.env = (false, eval e X.env) :: starEach [e2] X.env) (hs2 : starEach [e2] X.env = (false, eval e2 X.env) :: starEach [] X.env) : PI X (.Tuple elts kk tpos) (.Call (.Name "zip" p) [e, e2] [] pos) (SI P L C W (.zip c d)) := by
  have r := pi_zipK (p := p) (pos := pos) (tpos := tpos) (elts := elts) (kk := kk) hg hm (pa_cons he (pa_cons he2 pa_nil hs2) hs) hs (by rw [hs2]; rfl)
  rw [hK] at r
  refine PI.imp r fun σ H Q ⟨ρ, th, env, hR, hE, h⟩ => ?_
  rw [evalV, bind_assoc'] at h
  show SV P L C W c σ H _
  refine sv_step hR hE h fun ρ1 th1 H1 x v x1 R1 E1 rv h1 => ?_
  rw [bind_assoc'] at h1
  obtain ⟨xs, g, k, a, rfl, hs, ⟨vs, q1, q2⟩, h2⟩ := src_of R1 hE x1 rv h1
  rw [bind_assoc'] at h2
  show SV P L C W d σ H1 _
  refine sv_step R1 E1 (h2.base x1) fun ρ2 th2 H2 y w x2 R2 E2 rw' h3 => ?_
  rw [bind_assoc'] at h3
  have x12 := x1.trans x2
  obtain ⟨ys, g2, k2, b, rfl, hs2, ⟨ws, q3, q4⟩, h4⟩ := src_of R2 E1 x2 rw' h3
  have sm1 : ∀ o', Small env σ (g ++ g2) o' → SrcAt L g xs k a ρ2 o' H2 := fun o' ho => (hs o' fun b z => ⟨(ho b z).1, fun i q => (ho b z).2 i (List.mem_append_left _ q)⟩).ext R1 ⟨x2.pre, fun b u e n _ => x2.fr b u e n id, fun b z => by
    rcases z with z | z
    · rcases x2.new b (.inl z) with q | q | q
      · exact .inl q
      · exact q.elim
      · exact .inr (.inr q)
    · exact .inr (.inl z)⟩ fun b z => E1.ol b (ho b z).1
  have sm2 : ∀ o', Small env σ (g ++ g2) o' → SrcAt L g2 ys k2 b ρ2 o' H2 := fun o' ho => hs2 o' fun b z => ⟨(ho b z).1, fun i q => (ho b z).2 i (List.mem_append_right _ q)⟩
  rw [bind_assoc'] at h4
  have h5 : Pst L W ρ1 H1 σ _ (((if g.all (GI.okS th2) then pure (.s (pairs xs ys) (g ++ g2)) else fail : M TV) >>= itOf) th2) := h4
  split at h5
  · rename_i hok
    obtain ⟨us, q5, q6⟩ := (sm1 (fun _ => False) fun _ z => z.elim).read R2 hok
    exact ⟨k, k2, a, b, us, ws, rfl, q5, q3, fin_si (p := (pairs xs ys, g ++ g2)) h5 x12 R2 wk_zip fun o' ho => ⟨sm1 o' ho, sm2 o' ho⟩⟩
  · exact h5.elim
theorem rng_read {tvs : List TV} {lo hi : Int} {Φ : List T × List GI → S → Prop} (h : Pst L W ρ H σ Φ ((rangeV lo hi >>= itOf) th1)) : -(2 ^ 62) ≤ lo ∧ lo < 2 ^ 62 ∧ -(2 ^ 62) ≤ hi ∧ hi < 2 ^ 62 ∧ Pst L W ρ H σ Φ (.ok (rangeT lo hi, []) th1) := by
  unfold rangeV at h
  split at h
  · rename_i q
    simp only [small62, Bool.and_eq_true, decide_eq_true_eq] at q
    exact ⟨q.1.1.1, q.1.1.2, q.1.2.1, q.1.2.2, h⟩
  · exact h.elim
theorem si_rng1 {tg e : Expr} {c : E} {p : Pos} (hg : Gl X "range") (hm : X.mg "range" = none) (he : PE X e (SV P L C W c)) (hs : starEach [e] X.env = (false, eval e X.env) :: starEach [] X.env) : PI X tg (.Call (.Name "range" p) [e] [] pos) (SI P L C W (.rng (.k (.int 0)) c)) := by
  refine PI.imp (pi_range1 (p := p) (pos := pos) hg hm (pa_cons he pa_nil hs) hs) fun σ H Q ⟨ρ, th, env, hR, hE, h⟩ => ?_
  rw [evalV, bind_assoc'] at h
  have e0 : (evalV P C (.k (.int 0)) env >>= fun a => (intOf a >>= fun i => evalV P C c env >>= fun y => intOf y >>= fun j => rangeV i j) >>= itOf) = (evalV P C c env >>= fun y => intOf y >>= fun j => rangeV 0 j >>= itOf) := by
    simp only [evalV]
    show ((evalV P C c env >>= fun y => intOf y >>= fun j => rangeV 0 j) >>= itOf) = _
    rw [bind_assoc']
    congr 1
    funext y
    rw [bind_assoc']
  rw [e0] at h
  show SV P L C W c σ H _
  refine sv_step hR hE h fun ρ1 th1 H1 x v x1 R1 E1 rv h1 => ?_
  obtain ⟨j, e1, h2⟩ := int_read rv h1
  obtain ⟨_, _, q1, q2, h3⟩ := rng_read (tvs := []) h2
  exact ⟨j, by rw [e1], q1, q2, fin_si (p := (rangeT 0 j, [])) h3 x1 R1 (wk_rng (by simp)) fun _ _ => trivial⟩
theorem si_rng2 {tg e e2 : Expr} {c d : E} {p : Pos} (hg : Gl X "range") (hm : X.mg "range" = none) (he : PE X e (SV P L C W c)) (he2 : PE X e2 (SV P L C W d)) (hs : starEach [e, e2] X.env = (false, eval e X.env) :: starEach [e2] X.env) (hs2 : starEach [e2] X.env = (false, eval e2 X.env) :: starEach [] X.env) :
    PI X tg (.Call (.Name "range" p) [e, e2] [] pos) (SI P L C W (.rng c d)) := by
  refine PI.imp (pi_range2 (p := p) (pos := pos) hg hm (pa_cons he (pa_cons he2 pa_nil hs2) hs) (by rw [hs, hs2]; rfl) hs2) fun σ H Q ⟨ρ, th, env, hR, hE, h⟩ => ?_
  rw [evalV, bind_assoc'] at h
  show SV P L C W c σ H _
  refine sv_step hR hE h fun ρ1 th1 H1 x v x1 R1 E1 rv h1 => ?_
  rw [bind_assoc'] at h1
  obtain ⟨i, e1, h2⟩ := int_read rv h1
  rw [bind_assoc'] at h2
  show SV P L C W d σ H1 _
  refine sv_step R1 E1 (h2.base x1) fun ρ2 th2 H2 y w x2 R2 E2 rw' h3 => ?_
  rw [bind_assoc'] at h3
  obtain ⟨j, e2, h4⟩ := int_read rw' h3
  obtain ⟨q1, q2, q3, q4, h5⟩ := rng_read (tvs := []) h4
  exact ⟨i, j, by rw [e1, e2], ⟨q1, q2, q3, q4⟩, fin_si (p := (rangeT i j, [])) h5 (x1.trans x2) R2 (wk_rng rfl) fun _ _ => trivial⟩
end
end Mini
/-! Mini: slots. -/
set_option linter.all false
set_option maxRecDepth 10000
namespace Mini
open PySem PySem.Spec PyProof.Rows L2
def gNs : List Nat → TGs
  | [] => gNil
  | i :: is => gCons (gName i) (gNs is)
def tgR (K : PySem.W.Frag) : Tg → TG
  | .v i => gName i
  | .p is => gTup K is.length (gNs is)
def tgIx : Tg → List Nat
  | .v i => [i]
  | .p is => is
section
variable {P : Prog} {L : Lay} {C : Call} {W : WX} {X : Cx} {ρ ρ' ρ1 ρ2 : List Addr} {H H' H1 H2 H0 : Hp} {σ : L2.St} {env : Env} {th th1 th2 : S} {o o' : Addr → Prop} {i : Nat}
theorem RdL.sub {a : Addr} {vs : List V} (h : RdL L ρ o H a vs) (s : ∀ b, o' b → o b) : RdL L ρ o' H a vs := h.elim (fun h => .inl ⟨h.1, h.2.1, fun z => h.2.2 (s a z)⟩) .inr
theorem own_set {tv : TV} {v : V} {b : Addr} (e : EnvR L ρ H env σ) (h : own (env.set i (some tv)) (σ.set i (some v)) b) : own env σ b ∨ ∃ xs, tv = .l xs ∧ v = .ref b := by
  obtain ⟨j, xs, h1, h2⟩ := h
  by_cases q : i = j
  · subst q
    have hl : i < env.length := by
      have := (List.getElem?_eq_some_iff.mp h1).1
      rwa [List.length_set] at this
    rw [List.getElem?_set_self hl] at h1
    rw [List.getElem?_set_self (by rw [e.len]; exact hl)] at h2
    cases h1; cases h2
    exact .inr ⟨xs, rfl, rfl⟩
  · rw [List.getElem?_set_ne q] at h1 h2
    exact .inl ⟨j, xs, h1, h2⟩
theorem own_setN {b : Addr} (h : own (env.set i none) (σ.set i none) b) : own env σ b := by
  obtain ⟨j, xs, h1, h2⟩ := h
  by_cases q : i = j
  · subst q
    by_cases hl : i < env.length
    · rw [List.getElem?_set_self hl] at h1; cases h1
    · rw [List.getElem?_eq_none (by rw [List.length_set]; omega)] at h1; cases h1
  · rw [List.getElem?_set_ne q] at h1 h2
    exact ⟨j, xs, h1, h2⟩
theorem own_setNN {b : Addr} {w : Option V} (h : own (env.set i none) σ b) : own env σ b := by
  obtain ⟨j, xs, h1, h2⟩ := h
  by_cases q : i = j
  · subst q
    by_cases hl : i < env.length
    · rw [List.getElem?_set_self hl] at h1; cases h1
    · rw [List.getElem?_eq_none (by rw [List.length_set]; omega)] at h1; cases h1
  · rw [List.getElem?_set_ne q] at h1
    exact ⟨j, xs, h1, h2⟩
/-- a slot forgotten -/
theorem EnvR.drop (e : EnvR L ρ H env σ) {w : Option V} (hw : w = none ∨ σ[i]? = some w) : EnvR L ρ H (env.set i none) (σ.set i w) := by
  have so : ∀ b, own (env.set i none) (σ.set i w) b → own env σ b := fun b ⟨j, xs, h1, h2⟩ => by
    by_cases q : i = j
    · subst q
      by_cases hl : i < env.length
      · rw [List.getElem?_set_self hl] at h1; cases h1
      · rw [List.getElem?_eq_none (by rw [List.length_set]; omega)] at h1; cases h1
    · rw [List.getElem?_set_ne q] at h1 h2
      exact ⟨j, xs, h1, h2⟩
  refine ⟨by rw [List.length_set, List.length_set, e.len], fun j tv h => ?_, fun j k xs ys a h1 h2 h3 h4 => ?_⟩
  · by_cases q : i = j
    · subst q
      by_cases hl : i < env.length
      · rw [List.getElem?_set_self hl] at h; cases h
      · rw [List.getElem?_eq_none (by rw [List.length_set]; omega)] at h; cases h
    · rw [List.getElem?_set_ne q] at h
      obtain ⟨v, q1, q2⟩ := e.get j tv h
      refine ⟨v, by rw [List.getElem?_set_ne q]; exact q1, ?_⟩
      cases tv with
      | t x => exact q2
      | l xs => exact q2
      | s xs g =>
        obtain ⟨a, vs, e1, e2, e3⟩ := q2
        exact ⟨a, vs, e1, e2.sub so, e3⟩
  · have nj : ∀ {j : Nat} {xs : List T}, (env.set i none)[j]? = some (some (TV.l xs)) → i ≠ j := fun {j xs} h q => by
      subst q
      by_cases hl : i < env.length
      · rw [List.getElem?_set_self hl] at h; cases h
      · rw [List.getElem?_eq_none (by rw [List.length_set]; omega)] at h; cases h
    have a1 := nj h1
    have a2 := nj h2
    rw [List.getElem?_set_ne a1] at h1 h3
    rw [List.getElem?_set_ne a2] at h2 h4
    exact e.dis j k xs ys a h1 h2 h3 h4
/-- a tree put into a slot -/
theorem EnvR.putT {x : T} {v : V} (e : EnvR L ρ H env σ) (hr : Rep L ρ H x v) : EnvR L ρ H (store env i (.t x)) (σ.set i (some v)) ∧ ∀ b, own (store env i (.t x)) (σ.set i (some v)) b → own env σ b := by
  have so : ∀ b, own (store env i (.t x)) (σ.set i (some v)) b → own env σ b := fun b h => (own_set e h).elim id fun ⟨_, z, _⟩ => nomatch z
  refine ⟨⟨by unfold store; rw [List.length_set, List.length_set, e.len], fun j tv h => ?_, fun j k xs ys a h1 h2 h3 h4 => ?_⟩, so⟩
  · unfold store at h
    by_cases q : i = j
    · subst q
      have hl : i < env.length := by
        have := (List.getElem?_eq_some_iff.mp h).1
        rwa [List.length_set] at this
      rw [List.getElem?_set_self hl] at h
      cases h
      exact ⟨v, List.getElem?_set_self (by rw [e.len]; exact hl), hr⟩
    · rw [List.getElem?_set_ne q] at h
      obtain ⟨w, q1, q2⟩ := e.get j tv h
      refine ⟨w, by rw [List.getElem?_set_ne q]; exact q1, ?_⟩
      cases tv with
      | t x => exact q2
      | l xs => exact q2
      | s xs g =>
        obtain ⟨a, vs, e1, e2, e3⟩ := q2
        exact ⟨a, vs, e1, e2.sub so, e3⟩
  · have nj : ∀ {j : Nat} {xs : List T}, (store env i (.t x))[j]? = some (some (TV.l xs)) → i ≠ j := fun {j xs} h q => by
      unfold store at h
      subst q
      by_cases hl : i < env.length
      · rw [List.getElem?_set_self hl] at h; cases h
      · rw [List.getElem?_eq_none (by rw [List.length_set]; omega)] at h; cases h
    have a1 := nj h1
    have a2 := nj h2
    unfold store at h1 h2
    rw [List.getElem?_set_ne a1] at h1 h3
    rw [List.getElem?_set_ne a2] at h2 h4
    exact e.dis j k xs ys a h1 h2 h3 h4
theorem wipe_setL : ∀ {vs : List Nat} {σ : L2.St} {w : Option V}, i ∈ vs → L2.wipe (σ.set i w) vs = L2.wipe σ vs
  | [], _, _, h => by cases h
  | v :: vs, σ, w, h => by
    show (L2.wipe (σ.set i w) vs).set v none = (L2.wipe σ vs).set v none
    rcases List.mem_cons.mp h with q | q
    · subst q
      by_cases z : i ∈ vs
      · rw [wipe_setL z]
      · have aux : ∀ {vs : List Nat} {σ : L2.St}, i ∉ vs → L2.wipe (σ.set i w) vs = (L2.wipe σ vs).set i w := fun {vs} => by
          induction vs with
          | nil => intro σ _; rfl
          | cons u us ih =>
            intro σ hz
            show (L2.wipe (σ.set i w) us).set u none = ((L2.wipe σ us).set u none).set i w
            rw [ih fun z => hz (List.mem_cons_of_mem _ z), List.set_comm _ _ (fun z => hz (by rw [z]; exact List.mem_cons_self))]
        rw [aux z, List.set_set]
    · rw [wipe_setL q]
theorem EnvR.wipe (e : EnvR L ρ H env σ) : ∀ vs : List Nat, EnvR L ρ H (Mini.wipe env vs) (L2.wipe σ vs)
  | [] => e
  | v :: vs => (EnvR.wipe e vs).drop (.inl rfl)
theorem names_read : ∀ {is : List Nat} {xs : List T} {vs : List V} {env : Env} {σ : L2.St} {Q : L2.St → Hp → Prop}, is.length = xs.length → EnvR L ρ H env σ → RepAll L ρ H xs vs →
    (∀ σ2, EnvR L ρ H ((List.zip is xs).foldl (fun ρ p => store ρ p.1 (.t p.2)) env) σ2 → (∀ b, own ((List.zip is xs).foldl (fun ρ p => store ρ p.1 (.t p.2)) env) σ2 b → own env σ b) → (∀ us, (∀ i ∈ is, i ∈ us) → L2.wipe σ2 us = L2.wipe σ us) → Q σ2 H) → gNs is vs σ H Q
  | [], xs, vs, env, σ, Q, hl, e, hr, k => by
    have : xs = [] := List.eq_nil_of_length_eq_zero hl.symm
    subst this
    simp only [RepAll] at hr
    exact ⟨hr, k σ e (fun _ h => h) fun _ _ => rfl⟩
  | i :: is, [], vs, env, σ, Q, hl, e, hr, k => by simp at hl
  | i :: is, x :: xs, vs, env, σ, Q, hl, e, hr, k => by
    simp only [RepAll] at hr
    obtain ⟨v, r, rfl, h1, h2⟩ := hr
    obtain ⟨e2, s2⟩ := e.putT (i := i) h1
    refine ⟨v, r, rfl, names_read (by simpa using hl) e2 h2 fun σ2 a b c => k σ2 a (fun q hq => s2 q (b q hq)) fun us hu => ?_⟩
    rw [c us fun j hj => hu j (List.mem_cons_of_mem _ hj), wipe_setL (hu i List.mem_cons_self)]
theorem tgt_read {g : Tg} {x : T} {env2 : Env} {v : V} (ht : target x g env = some env2) (hE : EnvR L ρ H env σ) (hr : Rep L ρ H x v) {Q : L2.St → Hp → Prop}
    (k : ∀ σ2, EnvR L ρ H env2 σ2 → (∀ b, own env2 σ2 b → own env σ b) → (∀ us, (∀ i ∈ tgIx g, i ∈ us) → L2.wipe σ2 us = L2.wipe σ us) → Q σ2 H) : tgR L.K g v σ H Q := by
  cases g with
  | v i =>
    simp only [target, Option.some.injEq] at ht
    subst ht
    obtain ⟨e2, s2⟩ := hE.putT (i := i) hr
    exact k _ e2 s2 fun us hu => wipe_setL (hu i List.mem_cons_self)
  | p is =>
    cases x with
    | tup xs =>
      simp only [target] at ht
      split at ht
      · rename_i hl
        cases ht
        simp only [Rep] at hr
        obtain ⟨a, vs, rfl, q1, q2⟩ := hr
        exact ⟨a, vs, rfl, q1, by rw [← q2.length, hl], names_read hl.symm hE q2 k⟩
      · cases ht
    | _ => simp [target] at ht
end
end Mini
/-! Mini: list comprehensions. -/
set_option linter.all false
set_option maxRecDepth 10000
namespace Mini
open PySem PySem.Spec PyProof.Rows L2
/-- no exception -/
abbrev WF : WX := fun _ _ _ _ => False
section
variable {P : Prog} {L : Lay} {C : Call} {W : WX} {X : Cx} {ρ ρ' ρ1 ρ2 : List Addr} {H H' H1 H2 H0 : Hp} {σ σ2 : L2.St} {env : Env} {th th1 th2 : S} {o o' : Addr → Prop} {i : Nat} {pos : Pos}
theorem nx_step {α β γ : Type} {m0 : M α} {m' : α → M β} {f : β → M γ} {Φ : γ → S → Prop} (h : Pst L W ρ H σ Φ ((noExc (m0 >>= m') >>= f) th)) : Pst L WF ρ2 H2 σ2 (fun a th1 => Pst L W ρ H σ Φ ((noExc (m' a) >>= f) th1)) (m0 th) := by
  have h : Pst L W ρ H σ Φ (match (match (match m0 th with | .ok a s => m' a s | .exc e s => .exc e s | .bad => .bad) with | .ok a s' => Res.ok a s' | _ => .bad) with | .ok a s => f a s | .exc e s => .exc e s | .bad => .bad) := h
  cases e : m0 th with
  | ok a s => rw [e] at h; exact h
  | exc x s => rw [e] at h; exact h.elim
  | bad => rw [e] at h; exact h.elim
theorem lc_imp {it cc ce : E} {g : Tg} {vs : List Nat} {Q : VK} (hgv : ∀ i ∈ tgIx g, i ∈ vs) (h : SV P L C W (.lc g it cc ce vs) σ H Q) : tLc (SI P L C W it) (tgR L.K g) (ST P L C WF cc) (SV P L C WF ce) vs σ H Q := by
  obtain ⟨ρ, th, env, hR, hE, h⟩ := h
  rw [evalV, ← bind_assoc'] at h
  refine ⟨ρ, th, env, hR, hE, h.bind.imp fun p th1 q ρ1 H1 J St x1 R1 wk hst => fun D hD => ?_⟩
  by_cases hlen : p.1.length ≤ sizeLine
  case neg =>
    rw [if_neg hlen] at q
    exact q.elim
  rw [if_pos hlen] at q
  have E1 := hE.ext hR x1
  generalize htgt : (fun x => target x g (Mini.wipe env vs)) = tgt at q
  generalize htst : (fun ρ' => evalV P C cc ρ' >>= fun v => truth v) = tst at q
  generalize helt : (fun ρ' => evalV P C ce ρ' >>= fun v => mat v) = elt at q
  generalize hgd : (fun s => p.2.all (GI.okS s)) = gd at q
  have Dn : D ∉ ρ1 := R1.notin hD
  have xD : Ext ρ1 noO H1 ρ1 (· = D) (upd H1 D (.lst [])) := ⟨⟨[], by simp⟩, fun b u e _ _ => upd_frame hD e, fun b z => z.elim .inl fun z => .inr (.inr (by rw [show b = D from z]; exact hD))⟩
  have st0 : St ρ1 noO H1 := hst noO fun _ z => z.elim
  let Wi : Nat → Nat → Hp → Prop := fun i m H' => m = p.1.length - i ∧ i ≤ p.1.length ∧ ∃ ρ' th' acc ws, R L ρ' th' H' ∧ St ρ' (· = D) H' ∧ H' D = some (.lst ws) ∧ RepAll L ρ' H' acc ws ∧ D ∉ ρ' ∧ Ext ρ1 noO H1 ρ' (· = D) H' ∧ acc.length ≤ i ∧
    Pst L W ρ H σ (KV L ρ H env σ Q) ((noExc (lcL tgt tst elt gd (p.1.drop i)) >>= fun ys => pure (.l (acc ++ ys))) th')
  refine ⟨Wi, ⟨p.1.length, rfl, Nat.zero_le _, ρ1, th1, [], [], R1.new1 hD, wk.keep st0 R1 xD OL.no, upd_same, RepAll.nil, Dn, xD, Nat.zero_le _, ?_⟩, ?_⟩
  · simpa using q
  rintro i m H' ⟨rfl, hi, ρ', th', acc, ws, R', st', eD, racc, nD, xx, la, G⟩
  have E' := E1.ext R1 xx
  by_cases hlt : i < p.1.length
  case neg =>
    -- the end
    have ei : i = p.1.length := by omega
    subst ei
    rw [List.drop_length] at G
    unfold lcL at G
    by_cases hg : gd th' = true
    · have G' : Pst L W ρ H σ (KV L ρ H env σ Q) (.ok (.l (acc ++ [])) th') := by
        have e : ((noExc (fun s => if gd s = true then Res.ok [] s else Res.bad) >>= fun ys => pure (TV.l (acc ++ ys))) th') = Res.ok (.l (acc ++ [])) th' := by
          rw [bind_app]
          unfold noExc
          simp only [hg, if_true]
          rfl
        rw [← e]; exact G
      rw [List.append_nil] at G'
      refine .inl ⟨wk.stop st' R' (by rw [← hgd] at hg; exact hg), ?_⟩
      have x0 : Ex0 ρ H ρ' H' := x1.trans ⟨xx.pre, xx.fr, fun b z => by
        rcases z with z | z
        · exact xx.new b (.inl z)
        · exact z.elim⟩
      refine fin_ok G' x0 R' ⟨D, ws, rfl, eD, racc, nD, R1.free x1 (fun _ z => z.elim) hD⟩
    · exfalso
      have e : ((noExc (fun s => if gd s = true then Res.ok [] s else Res.bad) >>= fun ys => pure (TV.l (acc ++ ys))) th') = Res.bad := by
        rw [bind_app]
        unfold noExc
        simp only [hg]
        rfl
      rw [e] at G
      exact G
  -- a turn
  have hd : p.1.drop i = p.1[i] :: p.1.drop (i + 1) := List.drop_eq_getElem_cons hlt
  rw [hd] at G
  unfold lcL at G
  have key : gd th' = true ∧ ∃ env2, tgt p.1[i] = some env2 ∧ Pst L W ρ H σ (KV L ρ H env σ Q) ((noExc (tst env2 >>= fun b => if b = true then elt env2 >>= fun y => lcL tgt tst elt gd (p.1.drop (i + 1)) >>= fun r => pure (y :: r) else lcL tgt tst elt gd (p.1.drop (i + 1))) >>= fun ys => pure (.l (acc ++ ys))) th') := by
    rw [bind_app] at G
    unfold noExc at G
    by_cases hg : gd th' = true
    · refine ⟨hg, ?_⟩
      simp only [hg, if_true] at G
      cases ht : tgt p.1[i] with
      | none => simp only [ht] at G; exact G.elim
      | some env2 =>
        simp only [ht] at G
        exact ⟨env2, rfl, G⟩
    · simp only [hg] at G; exact G.elim
  obtain ⟨hg, env2, ht, G2⟩ := key
  obtain ⟨go, yl⟩ := wk.go st' R' (by rw [← hgd] at hg; exact hg) (List.getElem?_eq_getElem hlt)
  refine .inr ⟨go, fun H'' => Wi (i + 1) (p.1.length - (i + 1)) H'', fun H'' z => ⟨_, by omega, z⟩, fun v H2 hy => ?_⟩
  obtain ⟨rv, R2, x2, keep2⟩ := yl v H2 hy
  have Ew := (E'.ext R' (x2 noO)).wipe vs
  rw [← htgt] at ht
  refine tgt_read ht Ew rv fun σ2 E2 so hw => ⟨?_, ?_⟩
  · have z := hw vs hgv
    rw [z]
    have ww : ∀ us : List Nat, (∀ i ∈ us, i ∈ vs) → L2.wipe (L2.wipe σ us) vs = L2.wipe σ vs := fun us => by
      induction us with
      | nil => intro _; rfl
      | cons u us ih =>
        intro hu
        show L2.wipe ((L2.wipe σ us).set u none) vs = _
        rw [wipe_setL (hu u List.mem_cons_self)]
        exact ih fun j hj => hu j (List.mem_cons_of_mem _ hj)
    exact ww vs fun _ h => h
  -- the test
  have T1 := nx_step (ρ2 := ρ') (H2 := H2) (σ2 := σ2) G2
  refine ⟨ρ', th', env2, R2, E2, ?_⟩
  have ec : tst env2 = (evalV P C cc env2 >>= fun v => truth v) := by rw [← htst]
  have ee : elt env2 = (evalV P C ce env2 >>= fun v => mat v) := by rw [← helt]
  have T1' : Pst L WF ρ' H2 σ2 _ ((evalV P C cc env2 >>= fun v => truth v) th') := ec ▸ T1
  refine T1'.imp fun b th3 T2 ρ3 H3 x3 R3 => ?_
  have E3 := E2.ext R2 x3
  have eD2 : H2 D = some (.lst ws) := keep2 D _ eD
  have x23 : Ex0 ρ' H' ρ3 H3 := (x2 noO).trans x3
  have xo3 : Ext ρ' (· = D) H' ρ3 (· = D) H3 := (x2 _).trans x3.up
  have oD' : OL (· = D) H' := fun b z => ⟨ws, by rw [show b = D from z]; exact eD⟩
  have eD3 : H3 D = some (.lst ws) := x3.fr D _ eD2 nD id
  have nD3 : D ∉ ρ3 := (x23.out eD nD id).1
  cases b with
  | false =>
    rw [if_neg Bool.false_ne_true] at T2
    show Wi (i + 1) (p.1.length - (i + 1)) H3
    exact ⟨rfl, by omega, ρ3, th3, acc, ws, R3, wk.keep st' R' xo3 oD', eD3, R'.repAll x23 OL.no racc, nD3, xx.trans xo3, by omega, T2⟩
  | true =>
    rw [if_pos rfl, ee, bind_assoc'] at T2
    show SV P L C WF ce σ2 H3 _
    have T3 := nx_step (ρ2 := ρ3) (H2 := H3) (σ2 := σ2) T2
    refine ⟨ρ3, th3, env2, R3, E3, T3.imp fun tv th4 T4 ρ4 y H4 x4 R4 ry => ?_⟩
    have T5 := nx_step (ρ2 := ρ3) (H2 := H3) (σ2 := σ2) T4
    rw [← bind_pure' (mat tv)] at T5
    refine mat_step R4 x4 ry T5 fun ρ5 th5 t x5 R5 rt pr T6 => ?_
    have T6 : Pst L W ρ H σ (KV L ρ H env σ Q) ((noExc (lcL tgt tst elt gd (p.1.drop (i + 1)) >>= fun r => pure (t :: r)) >>= fun ys => pure (.l (acc ++ ys))) th5) := T6
    have eD4 : H4 D = some (.lst ws) := x5.fr D _ eD3 nD3 id
    have nD5 : D ∉ ρ5 := (x5.out eD3 nD3 id).1
    have xo5 : Ext ρ' (· = D) H' ρ5 (· = D) H4 := xo3.trans x5.up
    have xw : Ext ρ5 (· = D) H4 ρ5 (· = D) (upd H4 D (.lst (ws ++ [y]))) := ⟨⟨[], by simp⟩, fun b u e _ n => by rw [upd_ne (fun z => n z)]; exact e, fun b z => z.elim .inl fun z => .inr (.inl z)⟩
    have oD4 : OL (· = D) H4 := fun b z => ⟨ws, by rw [show b = D from z]; exact eD4⟩
    have ra := (R'.repAll (x23.trans x5) OL.no racc).append (RepAll.nil.cons rt)
    refine ⟨ws, eD4, ?_, rfl, by omega, ρ5, th5, acc ++ [t], ws ++ [y], R5.ext xw oD4 fun b hb u e => ?_, wk.keep st' R' (xo5.trans xw) oD', upd_same, R5.repAll xw oD4 ra, nD5, xx.trans (xo5.trans xw), ?_, ?_⟩
    · rw [← racc.length]; omega
    · rw [upd_ne (fun z => nD5 (by rw [← z]; exact hb))]; exact e
    · rw [List.length_append, List.length_cons, List.length_nil]; omega
    · have e : ((noExc (lcL tgt tst elt gd (p.1.drop (i + 1)) >>= fun r => pure (t :: r)) >>= fun ys => pure (TV.l (acc ++ ys))) th5) = ((noExc (lcL tgt tst elt gd (p.1.drop (i + 1))) >>= fun ys => pure (TV.l ((acc ++ [t]) ++ ys))) th5) := by
        rw [bind_app, bind_app]
        unfold noExc
        rw [bind_app]
        cases lcL tgt tst elt gd (p.1.drop (i + 1)) th5 with
        | ok a s => show Res.ok _ _ = Res.ok _ _; rw [List.append_assoc]; rfl
        | exc x s => rfl
        | bad => rfl
      rw [e] at T6
      exact T6
theorem sv_lc {elt tg iter : Expr} {ifs : List Expr} {scope : Scope} {own : List (Str × Nat)} {it cc ce : E} {g : Tg} (hc : X.calm = true) (hN : X.N.Nodup) (hi : PI X tg iter (SI P L C W it)) (ok : BlkOk X.N X.env.scope scope own)
    (hgv : ∀ i ∈ tgIx g, i ∈ own.map (·.2))
    (hg : ∀ (s : Shared) (H : Hp) (Ca : Addr) (cl : List (Str × Addr)) (fp : List Addr), PG (X.blk s H scope (compEnvC scope cl Ca X.env) fp) tg (tgR L.K g))
    (ht : ∀ (s : Shared) (H : Hp) (Ca : Addr) (cl : List (Str × Addr)) (fp : List Addr), PTs (X.blk s H scope (compEnvC scope cl Ca X.env) fp) ifs (ST P L C WF cc))
    (he : ∀ (s : Shared) (H : Hp) (Ca : Addr) (cl : List (Str × Addr)) (fp : List Addr), PE (X.blk s H scope (compEnvC scope cl Ca X.env) fp) elt (SV P L C WF ce)) (hs : ∀ x, foldedSetIterable iter X.env x = pure x) :
    PE X (.ListComp elt [⟨tg, iter, ifs, 0⟩] scope pos) (SV P L C W (.lc g it cc ce (own.map (·.2)))) := PE.imp (pe_lc hc hN hi ok hg ht he hs) fun σ H Q h => lc_imp hgv h
theorem pts_yes : PTs X [] (ST P L C W (.k (.bl true))) := ⟨fun pins s σ H Q I ⟨ρ, th, env, hR, hE, h⟩ => pts_nil.run pins s σ H Q I (by
  simp only [evalV] at h
  exact h ρ H Ext.refl hR)⟩
end
end Mini
/-! Mini: its statements are the text's. -/
set_option linter.all false
set_option maxRecDepth 10000
namespace Mini
open PySem PySem.Spec PyProof.Rows L2
/-- what a def gives back -/
def RepR (L : Lay) (ρ : List Addr) (o : Addr → Prop) (H : Hp) : TV → V → Prop
  | .t x, v => Rep L ρ H x v
  | .l xs, v => ∃ a vs, v = .ref a ∧ H a = some (.lst vs) ∧ RepAll L ρ H xs vs ∧ a ∉ ρ ∧ o a
  | .s _ _, _ => False
def PstS (L : Lay) (W : WX) (ρ : List Addr) (o : Addr → Prop) (H : Hp) (D : Ends) : Res Out → Prop
  | .ok (.nx env') th' => ∀ ρ' σ' H', Ext ρ o H ρ' (own env' σ') H' → R L ρ' th' H' → EnvR L ρ' H' env' σ' → D.nx σ' H'
  | .ok (.bk env') th' => ∀ ρ' σ' H', Ext ρ o H ρ' (own env' σ') H' → R L ρ' th' H' → EnvR L ρ' H' env' σ' → D.bk σ' H'
  | .ok (.ct env') th' => ∀ ρ' σ' H', Ext ρ o H ρ' (own env' σ') H' → R L ρ' th' H' → EnvR L ρ' H' env' σ' → D.ct σ' H'
  | .ok (.rt tv) th' => ∀ ρ' o' v H', Ext ρ o H ρ' o' H' → R L ρ' th' H' → RepR L ρ' o' H' tv v → D.rt v H'
  | .exc e th' => ∀ ρ' o' cls d σ' H', Ext ρ o H ρ' o' H' → R L ρ' th' H' → ExR L ρ' H' e cls d → W cls d σ' H'
  | .bad => False
section
variable (P : Prog) (L : Lay) (C : Call) (W : WX)
def SS (c : St) : TS := fun D σ H => ∃ ρ th env, R L ρ th H ∧ EnvR L ρ H env σ ∧ PstS L W ρ (own env σ) H D (evalS P C c env th)
def SSs (c : Sts) : TS := fun D σ H => ∃ ρ th env, R L ρ th H ∧ EnvR L ρ H env σ ∧ PstS L W ρ (own env σ) H D (evalSs P C c env th)
end
section
variable {P : Prog} {L : Lay} {C : Call} {W : WX} {X : Cx} {ρ ρ' ρ1 ρ2 : List Addr} {H H' H1 H2 H0 : Hp} {σ σ1 σ2 : L2.St} {env env1 : Env} {th th1 th2 : S} {o o' o1 : Addr → Prop} {i j : Nat} {pos : Pos} {D D' : Ends}
theorem PstS.base {r : Res Out} (h : PstS L W ρ o H D r) (x : Ext ρ o H ρ1 o1 H1) : PstS L W ρ1 o1 H1 D r := by
  cases r with
  | ok out th =>
    cases out with
    | nx e => exact fun ρ' σ' H' y => h ρ' σ' H' (x.trans y)
    | bk e => exact fun ρ' σ' H' y => h ρ' σ' H' (x.trans y)
    | ct e => exact fun ρ' σ' H' y => h ρ' σ' H' (x.trans y)
    | rt tv => exact fun ρ' o' v H' y => h ρ' o' v H' (x.trans y)
  | exc e th => exact fun ρ' o' cls d σ' H' y => h ρ' o' cls d σ' H' (x.trans y)
  | bad => exact h
/-- an expression ahead of the rest -/
theorem pst_of {α : Type} {m : M α} {f : α → M Out} (h : PstS L W ρ (own env σ) H D ((m >>= f) th)) : Pst L W ρ H σ (fun a th1 => PstS L W ρ (own env σ) H D (f a th1)) (m th) := by
  rw [bind_app] at h
  cases e : m th with
  | ok a s => rw [e] at h; exact h
  | exc x s => rw [e] at h; exact fun ρ' cls d H' y r z => h ρ' (own env σ) cls d σ H' y.up r z
  | bad => rw [e] at h; exact h
theorem ss_step {a : E} {f : TV → M Out} {Q : VK} (hR : R L ρ th H) (hE : EnvR L ρ H env σ) (h : PstS L W ρ (own env σ) H D ((evalV P C a env >>= f) th))
    (k : ∀ ρ1 th1 H1 tv v, Ex0 ρ H ρ1 H1 → R L ρ1 th1 H1 → EnvR L ρ1 H1 env σ → RepV L H σ ρ1 (own env σ) H1 tv v → PstS L W ρ (own env σ) H D (f tv th1) → Q v H1) : SV P L C W a σ H Q :=
  ⟨ρ, th, env, hR, hE, (pst_of h).imp fun tv th1 q ρ1 v H1 x r rv => k ρ1 th1 H1 tv v x r (hE.ext hR x) rv q⟩
theorem ss_test {a : E} {f : Bool → M Out} {Q : Bool → Hp → Prop} (hR : R L ρ th H) (hE : EnvR L ρ H env σ) (h : PstS L W ρ (own env σ) H D (((do let v ← evalV P C a env; truth v : M Bool) >>= f) th))
    (k : ∀ ρ1 th1 H1 b, Ex0 ρ H ρ1 H1 → R L ρ1 th1 H1 → EnvR L ρ1 H1 env σ → PstS L W ρ (own env σ) H D (f b th1) → Q b H1) : ST P L C W a σ H Q :=
  ⟨ρ, th, env, hR, hE, (pst_of h).imp fun b th1 q ρ1 H1 x r => k ρ1 th1 H1 b x r (hE.ext hR x) q⟩
theorem Ext.shrink (x : Ext ρ o H ρ1 o1 H1) (s : ∀ b, o' b → b ∈ ρ ∨ o b ∨ H b = none) : Ext ρ o H ρ1 o' H1 := ⟨x.pre, x.fr, fun b z => z.elim (fun z => x.new b (.inl z)) (s b)⟩
theorem fin_nx (h : PstS L W ρ o H D (.ok (.nx env1) th1)) (x : Ext ρ o H ρ1 (own env1 σ1) H1) (r : R L ρ1 th1 H1) (e : EnvR L ρ1 H1 env1 σ1) : D.nx σ1 H1 := h ρ1 σ1 H1 x r e
theorem fin_same (h : PstS L W ρ (own env σ) H D (.ok (.nx env) th1)) (x : Ex0 ρ H ρ1 H1) (r : R L ρ1 th1 H1) (e : EnvR L ρ1 H1 env σ) : D.nx σ H1 := h ρ1 σ H1 x.up r e
theorem RdL.sub1 {a : Addr} {vs : List V} (h : RdL L ρ o H a vs) (s : o' a → o a) : RdL L ρ o' H a vs := h.elim (fun h => .inl ⟨h.1, h.2.1, fun z => h.2.2 (s z)⟩) .inr
/-! ### blocks -/
theorem sss_nil : PSs X [] (SSs P L C W .nil) := by
  refine PSs.imp pss_nil fun D σ H ⟨ρ, th, env, hR, hE, h⟩ => ?_
  simp only [evalSs] at h
  exact fin_same h Ext.refl hR hE
theorem sss_cons {s : Stmt} {ss : List Stmt} {c : St} {cs : Sts} (h1 : PS X s (SS P L C W c)) (h2 : PSs X ss (SSs P L C W cs)) : PSs X (s :: ss) (SSs P L C W (.cons c cs)) := by
  refine PSs.imp (pss_cons h1 h2) fun D σ H ⟨ρ, th, env, hR, hE, h⟩ => ?_
  simp only [evalSs] at h
  rw [bind_app] at h
  refine ⟨ρ, th, env, hR, hE, ?_⟩
  cases e : evalS P C c env th with
  | ok out th1 =>
    rw [e] at h
    cases out with
    | nx env1 => exact fun ρ' σ' H' x r e1 => ⟨ρ', th1, env1, r, e1, PstS.base h x⟩
    | bk env1 => exact h
    | ct env1 => exact h
    | rt tv => exact h
  | exc x th1 => rw [e] at h; exact h
  | bad => rw [e] at h; exact h
theorem s_pass : PS X (.Pass pos) (SS P L C W .pass) := by
  refine PS.imp ps_pass fun D σ H ⟨ρ, th, env, hR, hE, h⟩ => ?_
  simp only [evalS] at h
  exact fin_same h Ext.refl hR hE
theorem s_brk : PS X (.Break pos) (SS P L C W .brk) := by
  refine PS.imp ps_break fun D σ H ⟨ρ, th, env, hR, hE, h⟩ => ?_
  simp only [evalS] at h
  exact h ρ σ H Ext.refl hR hE
theorem s_cnt : PS X (.Continue pos) (SS P L C W .cnt) := by
  refine PS.imp ps_continue fun D σ H ⟨ρ, th, env, hR, hE, h⟩ => ?_
  simp only [evalS] at h
  exact h ρ σ H Ext.refl hR hE
theorem s_never {s : Stmt} : PS X s (SS P L C W .never) := by
  refine PS.imp ps_never fun D σ H ⟨ρ, th, env, hR, hE, h⟩ => ?_
  simp only [evalS] at h
  exact h.elim
theorem s_doc {x : Str} {k : Nat} {p2 : Pos} : PS X (.Expr (.Constant (.str x) k p2) pos) (SS P L C W .pass) := by
  refine PS.imp ps_doc fun D σ H ⟨ρ, th, env, hR, hE, h⟩ => ?_
  simp only [evalS] at h
  exact fin_same h Ext.refl hR hE
theorem s_ex {e : Expr} {c : E} (he : PE X e (SV P L C W c)) (hs : swapsWith e none pos.line X.env = pure false) : PS X (.Expr e pos) (SS P L C W (.ex c)) := by
  refine PS.imp (ps_expr he hs) fun D σ H ⟨ρ, th, env, hR, hE, h⟩ => ?_
  simp only [evalS] at h
  exact ss_step hR hE h fun ρ1 th1 H1 tv v x r e rv q => fin_same q x r e
theorem s_retN : PS X (.Return none pos) (SS P L C W .retN) := by
  refine PS.imp ps_retN fun D σ H ⟨ρ, th, env, hR, hE, h⟩ => ?_
  simp only [evalS] at h
  exact h ρ _ .non H Ext.refl hR (by simp only [RepR, Rep])
theorem s_ret {e : Expr} {c : E} (he : PE X e (SV P L C W c)) : PS X (.Return (some e) pos) (SS P L C W (.ret c)) := by
  refine PS.imp (ps_ret he) fun D σ H ⟨ρ, th, env, hR, hE, h⟩ => ?_
  simp only [evalS] at h
  refine ss_step hR hE h fun ρ1 th1 H1 tv v x r e rv q => ?_
  cases tv with
  | t y => exact q ρ1 _ v H1 x.up r rv
  | l xs =>
    obtain ⟨a, vs, rfl, e2, e3, e4, e5⟩ := rv
    exact q ρ1 (· = a) _ H1 (x.up.shrink fun b z => .inr (.inr (by rw [show b = a from z]; exact e5))) r ⟨a, vs, rfl, e2, e3, e4, rfl⟩
  | s xs g => exact q.elim
theorem s_retm {x : Str} {p2 : Pos} (hN : X.N[j]? = some x) (hv : Vis X.env.scope x) (hd : (x == ("__debug__" : Str)) = false) (hcd : (x == ("__classdict__" : Str)) = false) : PS X (.Return (some (.Name x p2)) pos) (SS P L C W (.retm j)) := by
  refine PS.imp (ps_ret (pe_var hN hv hd hcd)) fun D σ H ⟨ρ, th, env, hR, hE, h⟩ => ?_
  simp only [evalS] at h
  unfold moveV at h
  split at h
  · rename_i xs e
    obtain ⟨v, e1, a, vs, rfl, e3, e4, e5⟩ := hE.get j _ e
    have h : PstS L W ρ (own env σ) H D (.ok (.rt (.l xs)) th) := h
    exact ⟨_, e1, h ρ (own env σ) _ H Ext.refl hR ⟨a, vs, rfl, e3, e4, e5, j, xs, e, e1⟩⟩
  · rename_i tv hn e
    obtain ⟨v, e1, e2⟩ := hE.get j _ e
    cases tv with
    | t y =>
      have h : PstS L W ρ (own env σ) H D (.ok (.rt (.t y)) th) := h
      exact ⟨_, e1, h ρ (own env σ) _ H Ext.refl hR e2⟩
    | l xs => exact (hn xs rfl).elim
    | s xs g => exact h.elim
  · exact h.elim
theorem s_ifs {c : Expr} {a b : List Stmt} {cc : E} {ca cb : Sts} (hc : PT X c (ST P L C W cc)) (ha : PSs X a (SSs P L C W ca)) (hb : PSs X b (SSs P L C W cb)) : PS X (.If c a b pos) (SS P L C W (.ifs cc ca cb)) := by
  refine PS.imp (ps_if hc ha hb) fun D σ H ⟨ρ, th, env, hR, hE, h⟩ => ?_
  simp only [evalS] at h
  rw [← bind_assoc'] at h
  refine ss_test hR hE h fun ρ1 th1 H1 t x1 R1 E1 h1 => ?_
  cases t with
  | true => rw [if_pos rfl] at h1 ⊢; exact ⟨ρ1, th1, env, R1, E1, h1.base x1.up⟩
  | false => rw [if_neg Bool.false_ne_true] at h1 ⊢; exact ⟨ρ1, th1, env, R1, E1, h1.base x1.up⟩
/-! ### a list of one's own put into a slot -/
theorem EnvR.putL {xs : List T} {a : Addr} {vs : List V} (e : EnvR L ρ H env σ) (h1 : H a = some (.lst vs)) (h2 : RepAll L ρ H xs vs) (h3 : a ∉ ρ) (h4 : ¬ own env σ a)
    (hs : ∀ k ys g, k ≠ i → env[k]? = some (some (TV.s ys g)) → σ[k]? = some (some (V.ref a)) → ∃ ws, KList L a ws ∧ RepAll L ρ H ys ws) : EnvR L ρ H (store env i (.l xs)) (σ.set i (some (.ref a))) := by
  refine ⟨by unfold store; rw [List.length_set, List.length_set, e.len], fun j tv h => ?_, fun j k ys zs b q1 q2 q3 q4 => ?_⟩
  · unfold store at h
    by_cases q : i = j
    · subst q
      have hl : i < env.length := by
        have := (List.getElem?_eq_some_iff.mp h).1
        rwa [List.length_set] at this
      rw [List.getElem?_set_self hl] at h
      cases h
      exact ⟨.ref a, List.getElem?_set_self (by rw [e.len]; exact hl), a, vs, rfl, h1, h2, h3⟩
    · rw [List.getElem?_set_ne q] at h
      obtain ⟨w, q1, q2⟩ := e.get j tv h
      refine ⟨w, by rw [List.getElem?_set_ne q]; exact q1, ?_⟩
      cases tv with
      | t x => exact q2
      | l xs => exact q2
      | s ys g =>
        obtain ⟨b, ws, rfl, e2, e3⟩ := q2
        by_cases z : b = a
        · subst z
          obtain ⟨us, k1, k2⟩ := hs j ys g (fun z => q z.symm) h q1
          exact ⟨b, us, rfl, .inr k1, k2⟩
        · refine ⟨b, ws, rfl, RdL.sub1 e2 fun y => ?_, e3⟩
          rcases own_set e y with y | ⟨_, _, y⟩
          · exact y
          · cases y; exact (z rfl).elim
  · unfold store at q1 q2
    have hl : ∀ {k : Nat} {ys : List T}, (env.set i (some (TV.l xs)))[k]? = some (some (TV.l ys)) → k < env.length := fun q => by
      have := (List.getElem?_eq_some_iff.mp q).1
      rwa [List.length_set] at this
    by_cases z1 : i = j
    · by_cases z2 : i = k
      · rw [← z1, ← z2]
      · subst z1
        rw [List.getElem?_set_self (by rw [e.len]; exact hl q1)] at q3
        rw [List.getElem?_set_ne z2] at q2 q4
        cases q3
        exact (h4 ⟨k, zs, q2, q4⟩).elim
    · by_cases z2 : i = k
      · subst z2
        rw [List.getElem?_set_self (by rw [e.len]; exact hl q2)] at q4
        rw [List.getElem?_set_ne z1] at q1 q3
        cases q4
        exact (h4 ⟨j, ys, q1, q3⟩).elim
      · rw [List.getElem?_set_ne z1] at q1 q3
        rw [List.getElem?_set_ne z2] at q2 q4
        exact e.dis j k ys zs b q1 q2 q3 q4
/-- what an expression gave, stored -/
theorem EnvR.store {tv : TV} {v : V} (hE : EnvR L ρ H env σ) (hR : R L ρ th H) (x : Ex0 ρ H ρ1 H1) (rv : RepF L H ρ1 H1 tv v) :
    EnvR L ρ1 H1 (Mini.store env i tv) (σ.set i (some v)) ∧ Ext ρ (own env σ) H ρ1 (own (Mini.store env i tv) (σ.set i (some v))) H1 := by
  have E1 := hE.ext hR x
  cases tv with
  | t y =>
    obtain ⟨e, s⟩ := E1.putT (i := i) rv
    exact ⟨e, x.up.shrink fun b z => .inr (.inl (s b z))⟩
  | l xs =>
    obtain ⟨a, vs, rfl, e2, e3, e4, e5⟩ := rv
    refine ⟨E1.putL e2 e3 e4 (fun z => ?_) fun k ys g _ q1 q2 => ?_, x.up.shrink fun b z => ?_⟩
    · obtain ⟨ws, q⟩ := hE.ol a z
      rw [e5] at q; cases q
    · obtain ⟨w, q3, b, ws, rfl, q4, q5⟩ := hE.get k _ q1
      rw [q2] at q3; cases q3
      rcases q4 with ⟨q4 | ⟨ob, q4⟩, _⟩ | q4
      · rw [e5] at q4; cases q4
      · rw [e5] at q4; cases q4
      · exact ⟨ws, q4, hR.repAll x OL.no q5⟩
    · rcases own_set hE z with z | ⟨_, _, z⟩
      · exact .inr (.inl z)
      · cases z; exact .inr (.inr e5)
  | s xs g => exact rv.elim
theorem asg_core {te : TE} {c : E} (ht : ∀ σ H Q, SV P L C W c σ H Q → te σ H Q) (h : SS P L C W (.asg i c) D σ H) : tAsg te (gName i) D σ H := by
  obtain ⟨ρ, th, env, hR, hE, h⟩ := h
  simp only [evalS] at h
  refine ht _ _ _ (ss_step hR hE h fun ρ1 th1 H1 tv v x r e rv q => ?_)
  cases tv with
  | t y =>
    obtain ⟨e, s⟩ := hE.store (i := i) (tv := .t y) hR x rv
    exact fin_nx (env1 := Mini.store env i (.t y)) q s r e
  | l xs =>
    obtain ⟨e, s⟩ := hE.store (i := i) (tv := .l xs) hR x rv
    exact fin_nx (env1 := Mini.store env i (.l xs)) q s r e
  | s xs g => exact q.elim
theorem s_asg {x : Str} {e : Expr} {c : E} {p2 : Pos} (hN : X.N.Nodup) (hi : X.N[i]? = some x) (hx : Loc X.env.scope x) (he : PE X e (SV P L C W c)) (hs : swapsWith e (some (.Name x p2)) pos.line X.env = pure false) (hf : X.fn x = true ∨ X.env.scope.names.lookup x = some .local) :
    PS X (.Assign [.Name x p2] e pos) (SS P L C W (.asg i c)) := PS.imp (ps_set hN hi hx he hs hf) fun D σ H h => asg_core (fun _ _ _ h => h) h
theorem EnvR.move {xs : List T} {a : Addr} (hE : EnvR L ρ H env σ) (h1 : env[j]? = some (some (.l xs))) (h2 : σ[j]? = some (some (V.ref a))) :
    EnvR L ρ H (Mini.store (env.set j none) i (.l xs)) (σ.set i (some (.ref a))) ∧ ∀ b, own (Mini.store (env.set j none) i (.l xs)) (σ.set i (some (.ref a))) b → own env σ b := by
  obtain ⟨v, e1, b, vs, e2, e3, e4, e5⟩ := hE.get j _ h1
  rw [h2] at e1; cases e1; cases e2
  have hj : j < env.length := (List.getElem?_eq_some_iff.mp h1).1
  have hd : EnvR L ρ H (env.set j none) (σ.set j (some (V.ref a))) := hE.drop (.inr h2)
  have hs : σ.set j (some (V.ref a)) = σ := by
    apply List.ext_getElem?
    intro k
    by_cases q : j = k
    · subst q; rw [List.getElem?_set_self (by rw [hE.len]; exact hj), h2]
    · rw [List.getElem?_set_ne q]
  rw [hs] at hd
  have sub : ∀ b, own (env.set j none) σ b → own env σ b ∧ b ≠ a := fun b ⟨k, ys, q1, q2⟩ => by
    have q : j ≠ k := fun q => by subst q; rw [List.getElem?_set_self hj] at q1; cases q1
    rw [List.getElem?_set_ne q] at q1
    refine ⟨⟨k, ys, q1, q2⟩, fun z => ?_⟩
    subst z
    exact q (hE.dis j k xs ys b h1 q1 h2 q2)
  refine ⟨hd.putL e3 e4 e5 (fun z => (sub a z).2 rfl) fun k ys g _ q1 q2 => ?_, fun b z => ?_⟩
  · have q : j ≠ k := fun q => by subst q; rw [List.getElem?_set_self hj] at q1; cases q1
    rw [List.getElem?_set_ne q] at q1
    obtain ⟨w, q3, c, ws, rfl, q4, q5⟩ := hE.get k _ q1
    rw [q2] at q3; cases q3
    rcases q4 with ⟨_, _, n⟩ | q4
    · exact (n ⟨j, xs, h1, h2⟩).elim
    · exact ⟨ws, q4, q5⟩
  · rcases own_set hd z with z | ⟨_, _, z⟩
    · exact (sub b z).1
    · cases z; exact ⟨j, xs, h1, h2⟩
theorem EnvR.putS {xs : List T} {g : List GI} {v : V} (e : EnvR L ρ H env σ) (h : RepS L ρ (own env σ) H (.s xs g) v) : EnvR L ρ H (Mini.store env i (.s xs g)) (σ.set i (some v)) ∧ ∀ b, own (Mini.store env i (.s xs g)) (σ.set i (some v)) b → own env σ b := by
  have so : ∀ b, own (Mini.store env i (.s xs g)) (σ.set i (some v)) b → own env σ b := fun b h => (own_set e h).elim id fun ⟨_, z, _⟩ => nomatch z
  have nj : ∀ {j : Nat} {ys : List T}, (Mini.store env i (.s xs g))[j]? = some (some (TV.l ys)) → i ≠ j := fun {j xs} h q => by
    unfold Mini.store at h
    subst q
    by_cases hl : i < env.length
    · rw [List.getElem?_set_self hl] at h; cases h
    · rw [List.getElem?_eq_none (by rw [List.length_set]; omega)] at h; cases h
  refine ⟨⟨by unfold Mini.store; rw [List.length_set, List.length_set, e.len], fun j tv h' => ?_, fun j k xs ys a h1 h2 h3 h4 => ?_⟩, so⟩
  · unfold Mini.store at h'
    by_cases q : i = j
    · subst q
      have hl : i < env.length := by
        have := (List.getElem?_eq_some_iff.mp h').1
        rwa [List.length_set] at this
      rw [List.getElem?_set_self hl] at h'
      cases h'
      obtain ⟨a, vs, e1, e2, e3⟩ := h
      exact ⟨v, List.getElem?_set_self (by rw [e.len]; exact hl), a, vs, e1, e2.sub so, e3⟩
    · rw [List.getElem?_set_ne q] at h'
      obtain ⟨w, q1, q2⟩ := e.get j tv h'
      refine ⟨w, by rw [List.getElem?_set_ne q]; exact q1, ?_⟩
      cases tv with
      | t x => exact q2
      | l xs => exact q2
      | s xs g =>
        obtain ⟨a, vs, e1, e2, e3⟩ := q2
        exact ⟨a, vs, e1, e2.sub so, e3⟩
  · have a1 := nj h1
    have a2 := nj h2
    unfold Mini.store at h1 h2
    rw [List.getElem?_set_ne a1] at h1 h3
    rw [List.getElem?_set_ne a2] at h2 h4
    exact e.dis j k xs ys a h1 h2 h3 h4
theorem s_mv {x y : Str} {p1 p2 : Pos} (hN : X.N.Nodup) (hi : X.N[i]? = some x) (hx : Loc X.env.scope x) (hj : X.N[j]? = some y) (hv : Vis X.env.scope y) (hd : (y == ("__debug__" : Str)) = false) (hcd : (y == ("__classdict__" : Str)) = false)
    (hs : swapsWith (.Name y p2) (some (.Name x p1)) pos.line X.env = pure false) (hf : X.fn x = true ∨ X.env.scope.names.lookup x = some .local) : PS X (.Assign [.Name x p1] (.Name y p2) pos) (SS P L C W (.mv i j)) := by
  refine PS.imp (ps_set hN hi hx (pe_var hj hv hd hcd) hs hf) fun D σ H ⟨ρ, th, env, hR, hE, h⟩ => ?_
  simp only [evalS] at h
  unfold moveV at h
  split at h
  · rename_i xs e
    obtain ⟨v, e1, a, vs, rfl, e3, e4, e5⟩ := hE.get j _ e
    obtain ⟨e6, e7⟩ := hE.move (i := i) e e1
    have h : PstS L W ρ (own env σ) H D (.ok (.nx (Mini.store (env.set j none) i (.l xs))) th) := h
    exact ⟨_, e1, fin_nx h (Ext.refl.shrink fun b z => .inr (.inl (e7 b z))) hR e6⟩
  · rename_i tv hn e
    obtain ⟨v, e1, e2⟩ := hE.get j _ e
    have h : PstS L W ρ (own env σ) H D (.ok (.nx (Mini.store env i tv)) th) := h
    cases tv with
    | t y =>
      obtain ⟨e6, e7⟩ := hE.putT (i := i) e2
      exact ⟨_, e1, fin_nx h (Ext.refl.shrink fun b z => .inr (.inl (e7 b z))) hR e6⟩
    | l xs => exact (hn xs rfl).elim
    | s xs g =>
      obtain ⟨e6, e7⟩ := hE.putS (i := i) e2
      exact ⟨_, e1, fin_nx h (Ext.refl.shrink fun b z => .inr (.inl (e7 b z))) hR e6⟩
  · exact h.elim
end
end Mini
/-! Mini: more statements: tuples, pairs, objects, loops. -/
set_option linter.all false
set_option maxRecDepth 10000
namespace Mini
open PySem PySem.Spec PyProof.Rows L2
section
variable {P : Prog} {L : Lay} {C : Call} {W : WX} {X : Cx} {ρ ρ' ρ1 ρ2 : List Addr} {H H' H1 H2 H0 : Hp} {σ σ1 σ2 : L2.St} {env env1 : Env} {th th1 th2 : S} {o o' o1 : Addr → Prop} {i j : Nat} {pos : Pos} {D D' : Ends}
theorem pst_of2 {α : Type} {m : M α} {f : α → M Out} (x : Ext ρ o H ρ1 (own env σ) H1) (h : PstS L W ρ o H D ((m >>= f) th)) : Pst L W ρ1 H1 σ (fun a th1 => PstS L W ρ o H D (f a th1)) (m th) := by
  rw [bind_app] at h
  cases e : m th with
  | ok a s => rw [e] at h; exact h
  | exc ex s => rw [e] at h; exact fun ρ' cls d H' y r z => h ρ' (own env σ) cls d σ H' (x.trans y.up) r z
  | bad => rw [e] at h; exact h
theorem ss_step2 {a : E} {f : TV → M Out} {Q : VK} (x : Ext ρ o H ρ1 (own env σ) H1) (hR : R L ρ1 th H1) (hE : EnvR L ρ1 H1 env σ) (h : PstS L W ρ o H D ((evalV P C a env >>= f) th))
    (k : ∀ ρ2 th1 H2 tv v, Ex0 ρ1 H1 ρ2 H2 → R L ρ2 th1 H2 → EnvR L ρ2 H2 env σ → RepV L H1 σ ρ2 (own env σ) H2 tv v → PstS L W ρ o H D (f tv th1) → Q v H2) : SV P L C W a σ H1 Q :=
  ⟨ρ1, th, env, hR, hE, (pst_of2 x h).imp fun tv th1 q ρ2 v H2 x r rv => k ρ2 th1 H2 tv v x r (hE.ext hR x) rv q⟩
theorem mat_stepS {tv : TV} {v : V} {f : T → M Out} {G : Prop} {ρ0 : List Addr} {o0 oo : Addr → Prop} {H00 : Hp} (hR : R L ρ1 th1 H1) (x : Ex0 ρ H ρ1 H1) (rv : RepV L H σ ρ1 oo H1 tv v) (h : PstS L W ρ0 o0 H00 D ((mat tv >>= f) th1))
    (k : ∀ ρ2 th2 y, Ex0 ρ H ρ2 H1 → R L ρ2 th2 H1 → Rep L ρ2 H1 y v → (∃ r, ρ2 = ρ1 ++ r) → PstS L W ρ0 o0 H00 D (f y th2) → G) : G := by
  cases tv with
  | t y => exact k ρ1 th1 y x hR rv ⟨[], by simp⟩ h
  | l xs =>
    obtain ⟨a, vs, rfl, e2, e3, e4, e5⟩ := rv
    refine k (ρ1 ++ [a]) _ (.ref th1.length) (x.share e5) (hR.share e2 e3 e4) ?_ ⟨[a], rfl⟩ h
    simp only [Rep]
    exact ⟨a, rfl, by rw [← hR.len]; exact getElem?_len _ _⟩
  | s xs g => exact h.elim
/-! ### a, b = e -/
theorem s_asgT {es : List Expr} {k : Nat} {tp : Pos} {e : Expr} {is : List Nat} {c : E} (he : PE X e (SV P L C W c)) (hg : PG X (.Tuple es k tp) (tgR L.K (.p is))) (hs : swapsWithSole [.Tuple es k tp] e pos.line X.env = pure false) (hw : swappedStores [.Tuple es k tp] e X.env = pure none)
    (h1 : (assignEach [.Tuple es k tp] X.env).map (·.2) = [assign (.Tuple es k tp) X.env]) : PS X (.Assign [.Tuple es k tp] e pos) (SS P L C W (.asgT is c)) := by
  refine PS.imp (ps_asg he hg hs hw h1) fun D σ H ⟨ρ, th, env, hR, hE, h⟩ => ?_
  simp only [evalS] at h
  refine ss_step hR hE h fun ρ1 th1 H1 tv v x r e rv q => ?_
  cases tv with
  | t y =>
    cases ht : target y (.p is) env with
    | none => simp only [ht] at q; exact q.elim
    | some env2 =>
      simp only [ht] at q
      have q : PstS L W ρ (own env σ) H D (.ok (.nx env2) th1) := q
      exact tgt_read ht e rv fun σ2 e2 s2 _ => fin_nx q (x.up.shrink fun b z => .inr (.inl (s2 b z))) r e2
  | l xs => exact q.elim
  | s xs g => exact q.elim
/-! ### a, b = x, y -/
theorem s_par {x y : Str} {a b : Expr} {ca cb : E} {px py pt : Pos} {kt k2 pt2} (hc : X.calm = true) (hN : X.N.Nodup) (hi : X.N[i]? = some x) (hj : X.N[j]? = some y) (hij : i ≠ j) (hx : X.env.scope.names.lookup x = some .local) (hy : X.env.scope.names.lookup y = some .local)
    (ha : PE X a (SV P L C W ca)) (hb : PE X b (SV P L C W cb)) (h1 : starEach [a, b] X.env = (false, eval a X.env) :: starEach [b] X.env) (h2 : starEach [b] X.env = (false, eval b X.env) :: starEach [] X.env)
    (hw : swappedStores [.Tuple [.Name x px, .Name y py] kt pt] (.Tuple [a, b] k2 pt2) X.env = pure (some [x, y])) (hs : swapsWithSole [.Tuple [.Name x px, .Name y py] kt pt] (.Tuple [a, b] k2 pt2) pos.line X.env = pure false) :
    PS X (.Assign [.Tuple [.Name x px, .Name y py] kt pt] (.Tuple [a, b] k2 pt2) pos) (SS P L C W (.par i j ca cb)) := by
  refine PS.imp (ps_par hc hN hi hj hij hx hy (pa_cons ha (pa_cons hb pa_nil h2) h1) hw hs) fun D σ H ⟨ρ, th, env, hR, hE, h⟩ => ?_
  simp only [evalS] at h
  show SV P L C W ca σ H _
  refine ss_step hR hE h fun ρ1 th1 H1 tv v x1 R1 E1 rv q => ?_
  have nf : RepF L H ρ1 H1 tv v ∧ PstS L W ρ (own env σ) H D ((evalV P C cb env >>= fun y => own2 y >>= fun y => pure (.nx (store (store env i tv) j y))) th1) := by
    cases tv with
    | t z => exact ⟨rv, q⟩
    | l xs => exact ⟨rv, q⟩
    | s xs g => exact q.elim
  obtain ⟨rf, q⟩ := nf
  obtain ⟨E2, x2⟩ := hE.store (i := i) hR x1 rf
  show SV P L C W cb σ H1 _
  refine ss_step2 (D := D) x1.up R1 E1 q fun ρ2 th2 H2 tw w x3 R2 E3 rw' q2 => ?_
  refine ⟨v, w, rfl, ?_⟩
  have nf : RepF L H1 ρ2 H2 tw w ∧ PstS L W ρ (own env σ) H D (.ok (.nx (store (store env i tv) j tw)) th2) := by
    cases tw with
    | t z => exact ⟨rw', q2⟩
    | l xs => exact ⟨rw', q2⟩
    | s xs g => exact q2.elim
  obtain ⟨rg, q3⟩ := nf
  obtain ⟨E4, x4⟩ := E2.store (i := j) R1 x3 rg
  exact fin_nx q3 (x2.trans x4) R2 E4
/-! ### shared lists and fields -/
theorem R.at {n : Nat} {a : Addr} {ob : O} (r : R L ρ th H) (h1 : ρ[n]? = some a) (h2 : th[n]? = some ob) : ORep L ρ H a ob := r.obj n a ob h1 h2
/-- o[i] = e -/
theorem s_sub {oe ie e : Expr} {co ci c : E} {p2 : Pos} (he : PE X e (SV P L C W c)) (ho : PE X oe (SV P L C W co)) (hi : PE X ie (SV P L C W ci))
    (ha : ∀ v, assign (.Subscript oe ie p2) X.env v = (do
      let ov ← holding [v] (eval oe X.env)
      let iv ← holding [v, ov] (eval ie X.env)
      standAt p2
      holding [v, ov, iv] (setItem ov iv v)
      release [v, ov, iv] [])) (hs : swapsWithSole [.Subscript oe ie p2] e pos.line X.env = pure false) (hw : swappedStores [.Subscript oe ie p2] e X.env = pure none) (h1 : (assignEach [.Subscript oe ie p2] X.env).map (·.2) = [assign (.Subscript oe ie p2) X.env]) :
    PS X (.Assign [.Subscript oe ie p2] e pos) (SS P L C W (.sub co ci c)) := by
  refine PS.imp (ps_asg he (pg_sub ho hi set_list ha) hs hw h1) fun D σ H ⟨ρ, th, env, hR, hE, h⟩ => ?_
  simp only [evalS] at h
  refine ss_step hR hE h fun ρ1 th1 H1 tv v x1 R1 E1 rv q => ?_
  refine mat_stepS R1 x1 rv q fun ρ2 th2 y x2 R2 ry _ q2 => ?_
  show SV P L C W co σ H1 _
  refine ss_step2 x2.up R2 (hE.ext hR x2) q2 fun ρ3 th3 H3 ov vo x3 R3 E3 ro q3 => ?_
  show SV P L C W ci σ H3 _
  have x13 := x2.trans x3
  refine ss_step2 x13.up R3 E3 q3 fun ρ4 th4 H4 iv vi x4 R4 E4 ri q4 => ?_
  have x14 := x13.trans x4
  replace ro := ro.ext R3 x4
  replace ry := R3.rep x4 OL.no (R2.rep x3 OL.no ry)
  rw [bind_app] at q4
  unfold putItem at q4
  cases ov with
  | l xs => exact q4.elim
  | s xs g => exact q4.elim
  | t zo =>
    cases zo with
    | ref n =>
      cases iv with
      | l xs => exact q4.elim
      | s xs g => exact q4.elim
      | t zi =>
        cases zi with
        | int k =>
          simp only [RepV, Rep] at ro ri
          obtain ⟨a, rfl, ea⟩ := ro
          cases e1 : th4[n]? with
          | none => simp only [e1] at q4; exact q4.elim
          | some ob =>
            cases ob with
            | ins c fs => simp only [e1] at q4; exact q4.elim
            | dk fs => simp only [e1] at q4; exact q4.elim
            | dt fs => simp only [e1] at q4; exact q4.elim
            | lst xs =>
              simp only [e1] at q4
              cases e2 : ixN xs.length k with
              | none => simp only [e2] at q4; exact q4.elim
              | some jj =>
                simp only [e2] at q4
                obtain ⟨vs, q5, q6⟩ := R4.obj n a _ ea e1
                have xw : ∀ o, Ext ρ4 o H4 ρ4 o (upd H4 a (.lst (vs.set jj v))) := fun o => Ext.write ea
                refine ⟨a, vs, k, jj, rfl, ri, q5, by rw [← q6.length]; exact e2, ?_⟩
                have R5 : R L ρ4 (th4.set n (.lst (xs.set jj y))) (upd H4 a (.lst (vs.set jj v))) := R4.write ea ⟨_, upd_same, R4.repAll (xw noO) OL.no (q6.set ry jj)⟩
                have q7 : PstS L W ρ (own env σ) H D (.ok (.nx env) (th4.set n (.lst (xs.set jj y)))) := q4
                exact fin_nx q7 (x14.up.trans (xw _)) R5 (E4.ext R4 (xw noO))
        | _ => exact q4.elim
    | _ => exact q4.elim
/-- o.f = e -/
theorem s_fst {oe e : Expr} {co c : E} {f : Str} {p2 : Pos} (hK : X.K = L.K) (hc : ∀ c cd, P.cls[c]? = some cd → ClsK L P c cd) (he : PE X e (SV P L C W c)) (ho : PE X oe (SV P L C W co)) (hs : swapsWith e (some (.Attribute oe f p2)) pos.line X.env = pure false) :
    PS X (.Assign [.Attribute oe f p2] e pos) (SS P L C W (.fst co f c)) := by
  have r := ps_fld (pos' := p2) (f := f) ho he hs
  rw [hK] at r
  refine PS.imp r fun D σ H ⟨ρ, th, env, hR, hE, h⟩ => ?_
  simp only [evalS] at h
  refine ss_step hR hE h fun ρ1 th1 H1 tv v x1 R1 E1 rv q => ?_
  refine mat_stepS R1 x1 rv q fun ρ2 th2 y x2 R2 ry _ q2 => ?_
  show SV P L C W co σ H1 _
  refine ss_step2 x2.up R2 (hE.ext hR x2) q2 fun ρ3 th3 H3 ov vo x3 R3 E3 ro q3 => ?_
  have x13 := x2.trans x3
  replace ry := R2.rep x3 OL.no ry
  rw [bind_app] at q3
  unfold setFld at q3
  cases ov with
  | l xs => exact q3.elim
  | s xs g => exact q3.elim
  | t zo =>
    cases zo with
    | ref n =>
      simp only [RepV, Rep] at ro
      obtain ⟨a, rfl, ea⟩ := ro
      cases e1 : th3[n]? with
      | none => simp only [e1] at q3; exact q3.elim
      | some ob =>
        cases ob with
        | lst xs => simp only [e1] at q3; exact q3.elim
        | dk fs => simp only [e1] at q3; exact q3.elim
        | dt fs => simp only [e1] at q3; exact q3.elim
        | ins k fs =>
          simp only [e1] at q3
          by_cases hf : (hasF P k f && decide (fs.length < 1000)) = true
          · simp only [hf, if_true] at q3
            rw [Bool.and_eq_true] at hf
            obtain ⟨hf, hl⟩ := hf
            obtain ⟨cd, hcd⟩ := hasF_cls hf
            have kk := hc _ _ hcd
            obtain ⟨dx, gs, q5, q6⟩ := R3.obj n a _ ea e1
            have xw : ∀ o, Ext ρ3 o H3 ρ3 o (upd H3 a (.ins (L.cad k) dx (L2.putF f v gs))) := fun o => Ext.write ea
            refine ⟨a, _, dx, gs, rfl, q5, kk.cls, kk.fld f hf, by rw [← q6.length]; exact of_decide_eq_true hl, ?_⟩
            have R5 : R L ρ3 (th3.set n (.ins k (Mini.putF f y fs))) (upd H3 a (.ins (L.cad k) dx (L2.putF f v gs))) := R3.write ea ⟨dx, _, upd_same, FRep.put (R3.rep (xw noO) OL.no ry) (R3.frep (xw noO) OL.no q6)⟩
            have q7 : PstS L W ρ (own env σ) H D (.ok (.nx env) (th3.set n (.ins k (Mini.putF f y fs)))) := q3
            exact fin_nx q7 (x13.up.trans (xw _)) R5 (E3.ext R3 (xw noO))
          · simp only [hf] at q3; exact q3.elim
    | _ => exact q3.elim
/-- o.append(e), a shared list -/
theorem s_appo {oe e : Expr} {co c : E} {ap p2 : Pos} (hK : X.K = L.K) (ho : PE X oe (SV P L C W co)) (he : PE X e (SV P L C W c)) (hs0 : starEach [e] X.env = (false, eval e X.env) :: starEach [] X.env) (hl : (ap.endLine == p2.line) = true)
    (hb : attributeBase oe "append" X.env (eval oe X.env) = eval oe X.env) (hs : swapsWith (.Call (.Attribute oe "append" ap) [e] [] p2) none pos.line X.env = pure false) :
    PS X (.Expr (.Call (.Attribute oe "append" ap) [e] [] p2) pos) (SS P L C W (.appo co c)) := by
  have r := ps_expr (pos := pos) (pe_bm (X := X) (T := "list") (name := "append") (id := "list.append") (r := rAppend) (apos := ap) (cpos := p2) PySem.F.plainAttrs_list PySem.F.slot_list_append rfl mt_append ho (pa_cons he pa_nil hs0) hb (by rw [hs0]; rfl) hl hs0 rfl) hs
  rw [hK] at r
  refine PS.imp r fun D σ H ⟨ρ, th, env, hR, hE, h⟩ => ?_
  simp only [evalS] at h
  show SV P L C W co σ H _
  refine ss_step hR hE h fun ρ1 th1 H1 ov vo x1 R1 E1 ro q => ?_
  have q' : ∃ n xs, ov = .t (.ref n) ∧ th1[n]? = some (.lst xs) ∧ PstS L W ρ (own env σ) H D ((evalV P C c env >>= fun tv => mat tv >>= fun x => appendO x n >>= fun _ => pure (.nx env)) th1) := by
    cases ov with
    | l xs => exact q.elim
    | s xs g => exact q.elim
    | t zo =>
      cases zo with
      | ref n =>
        have q : PstS L W ρ (own env σ) H D (((deref n >>= fun _ => pure n) >>= fun n => evalV P C c env >>= fun tv => mat tv >>= fun x => appendO x n >>= fun _ => pure (.nx env)) th1) := q
        rw [bind_assoc', bind_app] at q
        unfold deref at q
        cases e1 : th1[n]? with
        | none => simp only [e1] at q; exact q.elim
        | some ob =>
          cases ob with
          | ins c fs => simp only [e1] at q; exact q.elim
          | dk fs => simp only [e1] at q; exact q.elim
          | dt fs => simp only [e1] at q; exact q.elim
          | lst xs => simp only [e1] at q; exact ⟨n, xs, rfl, e1, q⟩
      | _ => exact q.elim
  obtain ⟨n, xs, rfl, e1, q⟩ := q'
  simp only [RepV, Rep] at ro
  obtain ⟨a, rfl, ea⟩ := ro
  obtain ⟨vs, q1, q2⟩ := R1.obj n a _ ea e1
  refine ⟨.inl ⟨rfl, vs, SqL.of q1⟩, ?_⟩
  show SV P L C W c σ H1 _
  refine ss_step2 x1.up R1 E1 q fun ρ2 th2 H2 tv v x2 R2 E2 rv q3 => ?_
  refine mat_stepS R2 x2 rv q3 fun ρ3 th3 y x3 R3 ry _ q4 => ?_
  have x13 := x1.trans x3
  have ea3 : ρ3[n]? = some a := by
    obtain ⟨r, e⟩ := x3.pre
    rw [e, List.getElem?_append_left (List.getElem?_eq_some_iff.mp ea).1]; exact ea
  rw [bind_app] at q4
  unfold appendO at q4
  cases e2 : th3[n]? with
  | none => simp only [e2] at q4; exact q4.elim
  | some ob =>
    cases ob with
    | ins c fs => simp only [e2] at q4; exact q4.elim
    | dk fs => simp only [e2] at q4; exact q4.elim
    | dt fs => simp only [e2] at q4; exact q4.elim
    | lst ys =>
      simp only [e2] at q4
      by_cases hz : ys.length < sizeLine
      · simp only [if_pos hz] at q4
        obtain ⟨ws, q5, q6⟩ := R3.obj n a _ ea3 e2
        have xw : ∀ o, Ext ρ3 o H2 ρ3 o (upd H2 a (.lst (ws ++ [v]))) := fun o => Ext.write ea3
        have R5 : R L ρ3 (th3.set n (.lst (ys ++ [y]))) (upd H2 a (.lst (ws ++ [v]))) := R3.write ea3 ⟨_, upd_same, R3.repAll (xw noO) OL.no (q6.append (RepAll.nil.cons ry))⟩
        refine ⟨a, ws, v, rfl, rfl, q5, by rw [← q6.length]; exact hz, ?_⟩
        have q7 : PstS L W ρ (own env σ) H D (.ok (.nx env) (th3.set n (.lst (ys ++ [y])))) := q4
        exact fin_nx q7 (x13.up.trans (xw _)) R5 ((E1.ext R1 x3).ext R3 (xw noO))
      · simp only [if_neg hz] at q4; exact q4.elim
/-! ### a list of one's own grows -/
theorem EnvR.grow {xs ys : List T} {a : Addr} {vs ws : List V} (hE : EnvR L ρ H env σ) (hR : R L ρ th H) (h1 : env[i]? = some (some (.l xs))) (h2 : σ[i]? = some (some (V.ref a))) (e : H a = some (.lst vs)) (hr : RepAll L ρ H ys ws) :
    R L ρ th (upd H a (.lst ws)) ∧ EnvR L ρ (upd H a (.lst ws)) (Mini.store env i (.l ys)) σ ∧ Ext ρ (own env σ) H ρ (own (Mini.store env i (.l ys)) σ) (upd H a (.lst ws)) := by
  obtain ⟨v, e1, b, us, e2, e3, e4, e5⟩ := hE.get i _ h1
  rw [h2] at e1; cases e1; cases e2
  have hi : i < env.length := (List.getElem?_eq_some_iff.mp h1).1
  have oa : own env σ a := ⟨i, xs, h1, h2⟩
  have x0 : Ext ρ (own env σ) H ρ (own env σ) (upd H a (.lst ws)) := ⟨⟨[], by simp⟩, fun b u e _ n => by rw [upd_ne (fun z => n (by rw [z]; exact oa))]; exact e, fun b z => z.elim .inl fun z => .inr (.inl z)⟩
  have so : ∀ b, own (Mini.store env i (.l ys)) σ b → own env σ b := fun b ⟨j, zs, q1, q2⟩ => by
    unfold Mini.store at q1
    by_cases q : i = j
    · subst q
      rw [h2] at q2; cases q2
      exact oa
    · rw [List.getElem?_set_ne q] at q1; exact ⟨j, zs, q1, q2⟩
  refine ⟨hR.ext x0 hE.ol fun b hb u e => by rw [upd_ne (fun z => e5 (by rw [← z]; exact hb))]; exact e, ⟨by unfold Mini.store; rw [List.length_set, hE.len], fun j tv h => ?_, fun j k zs us b q1 q2 q3 q4 => ?_⟩, x0.shrink fun b z => .inr (.inl (so b z))⟩
  · unfold Mini.store at h
    by_cases q : i = j
    · subst q
      rw [List.getElem?_set_self hi] at h
      cases h
      exact ⟨_, h2, a, ws, rfl, upd_same, hR.repAll x0 hE.ol hr, e5⟩
    · rw [List.getElem?_set_ne q] at h
      obtain ⟨w, q1, q2⟩ := hE.get j tv h
      refine ⟨w, q1, ?_⟩
      cases tv with
      | t x => exact hR.rep x0 hE.ol q2
      | l zs =>
        obtain ⟨b, us, rfl, q3, q4, q5⟩ := q2
        have nb : b ≠ a := fun z => q (hE.dis i j xs zs a h1 h h2 (by rw [← z]; exact q1))
        exact ⟨b, us, rfl, by rw [upd_ne nb]; exact q3, hR.repAll x0 hE.ol q4, q5⟩
      | s zs g =>
        obtain ⟨b, us, rfl, q3, q4⟩ := q2
        exact ⟨b, us, rfl, (x0.rdL q3).sub so, hR.repAll x0 hE.ol q4⟩
  · unfold Mini.store at q1 q2
    have back : ∀ {k : Nat} {us : List T}, (env.set i (some (TV.l ys)))[k]? = some (some (TV.l us)) → ∃ us', env[k]? = some (some (TV.l us')) := fun {k us} q => by
      by_cases z : i = k
      · subst z; exact ⟨xs, h1⟩
      · rw [List.getElem?_set_ne z] at q; exact ⟨us, q⟩
    obtain ⟨_, q1⟩ := back q1
    obtain ⟨_, q2⟩ := back q2
    exact hE.dis j k _ _ b q1 q2 q3 q4
theorem own_read {f : List T → M Out} {o0 : Addr → Prop} {ρ0 : List Addr} {H00 : Hp} (hE : EnvR L ρ H env σ) (h : PstS L W ρ0 o0 H00 D ((ownL env i >>= f) th)) : ∃ xs a vs, env[i]? = some (some (.l xs)) ∧ σ[i]? = some (some (V.ref a)) ∧ H a = some (.lst vs) ∧ RepAll L ρ H xs vs ∧ a ∉ ρ ∧ PstS L W ρ0 o0 H00 D (f xs th) := by
  unfold ownL at h
  split at h
  · rename_i xs e
    obtain ⟨v, e1, a, vs, rfl, e3, e4, e5⟩ := hE.get i _ e
    exact ⟨xs, a, vs, e, e1, e3, e4, e5, h⟩
  · exact h.elim
/-- x.append(e) -/
theorem s_app {x : Str} {e : Expr} {c : E} {ap p2 np : Pos} (hK : X.K = L.K) (hN : X.N[i]? = some x) (hv : Vis X.env.scope x) (hd : (x == ("__debug__" : Str)) = false) (hcd : (x == ("__classdict__" : Str)) = false) (he : PE X e (SV P L C W c))
    (hs0 : starEach [e] X.env = (false, eval e X.env) :: starEach [] X.env) (hl : (ap.endLine == p2.line) = true) (hs : swapsWith (.Call (.Attribute (.Name x np) "append" ap) [e] [] p2) none pos.line X.env = pure false) :
    PS X (.Expr (.Call (.Attribute (.Name x np) "append" ap) [e] [] p2) pos) (SS P L C W (.app i c)) := by
  have r := ps_expr (pos := pos) (pe_bm (X := X) (T := "list") (name := "append") (id := "list.append") (r := rAppend) (apos := ap) (cpos := p2) PySem.F.plainAttrs_list PySem.F.slot_list_append rfl mt_append (pe_var (pos := np) hN hv hd hcd) (pa_cons he pa_nil hs0) rfl (by rw [hs0]; rfl) hl hs0 rfl) hs
  rw [hK] at r
  refine PS.imp r fun D σ H ⟨ρ, th, env, hR, hE, h⟩ => ?_
  simp only [evalS] at h
  obtain ⟨xs, a, vs, e1, e2, e3, e4, e5, q⟩ := own_read hE h
  refine ⟨_, e2, .inl ⟨rfl, vs, SqL.of e3⟩, ?_⟩
  show SV P L C W c σ H _
  refine ss_step hR hE q fun ρ1 th1 H1 tv v x1 R1 E1 rv q3 => ?_
  refine mat_stepS R1 x1 rv q3 fun ρ2 th2 y x2 R2 ry _ q4 => ?_
  have e3' := x2.fr _ _ e3 e5 id
  by_cases hz : xs.length < sizeLine
  · rw [if_pos hz] at q4
    have q5 : PstS L W ρ (own env σ) H D (.ok (.nx (Mini.store env i (.l (xs ++ [y])))) th2) := q4
    obtain ⟨R3, E3, x3⟩ := (hE.ext hR x2).grow R2 e1 e2 e3' ((hR.repAll x2 OL.no e4).append (RepAll.nil.cons ry))
    exact ⟨a, vs, v, rfl, rfl, e3', by rw [← e4.length]; exact hz, fin_nx q5 (x2.up.trans x3) R3 E3⟩
  · rw [if_neg hz] at q4; exact q4.elim
/-- x.extend(e) -/
theorem s_ext {x : Str} {e : Expr} {te : TE} {c : E} {ap p2 np : Pos} (hK : X.K = L.K) (hN : X.N[i]? = some x) (hv : Vis X.env.scope x) (hd : (x == ("__debug__" : Str)) = false) (hcd : (x == ("__classdict__" : Str)) = false) (he : PE X e (SV P L C W c))
    (hs0 : starEach [e] X.env = (false, eval e X.env) :: starEach [] X.env) (hl : (ap.endLine == p2.line) = true) (hs : swapsWith (.Call (.Attribute (.Name x np) "extend" ap) [e] [] p2) none pos.line X.env = pure false) :
    PS X (.Expr (.Call (.Attribute (.Name x np) "extend" ap) [e] [] p2) pos) (SS P L C W (.ext i c)) := by
  have r := ps_expr (pos := pos) (pe_bm (X := X) (T := "list") (name := "extend") (id := "list.extend") (r := rExtend) (apos := ap) (cpos := p2) PySem.F.plainAttrs_list PySem.F.slot_list_extend rfl mt_extend (pe_var (pos := np) hN hv hd hcd) (pa_cons he pa_nil hs0) rfl (by rw [hs0]; rfl) hl hs0 rfl) hs
  rw [hK] at r
  refine PS.imp r fun D σ H ⟨ρ, th, env, hR, hE, h⟩ => ?_
  simp only [evalS] at h
  obtain ⟨xs, a, vs, e1, e2, e3, e4, e5, q⟩ := own_read hE h
  refine ⟨_, e2, .inl ⟨rfl, vs, SqL.of e3⟩, ?_⟩
  show SV P L C W c σ H _
  refine ss_step hR hE q fun ρ1 th1 H1 tv v x1 R1 E1 rv q3 => ?_
  have e3' := x1.fr _ _ e3 e5 id
  have rd : ∃ b ys ws, v = .ref b ∧ H1 b = some (.lst ws) ∧ RepAll L ρ1 H1 ys ws ∧ PstS L W ρ (own env σ) H D ((if xs.length + ys.length ≤ sizeLine then pure (.nx (Mini.store env i (.l (xs ++ ys)))) else fail : M Out) th1) := by
    cases tv with
    | l ys =>
      obtain ⟨b, ws, rfl, f2, f3, _⟩ := rv
      exact ⟨b, ys, ws, rfl, f2, f3, q3⟩
    | s ys g => exact q3.elim
    | t z =>
      cases z with
      | ref n =>
        simp only [RepV, Rep] at rv
        obtain ⟨b, rfl, eb⟩ := rv
        have q3 : PstS L W ρ (own env σ) H D ((deref n >>= fun ys => if xs.length + ys.length ≤ sizeLine then pure (.nx (Mini.store env i (.l (xs ++ ys)))) else fail) th1) := q3
        rw [bind_app] at q3
        unfold deref at q3
        cases f1 : th1[n]? with
        | none => simp only [f1] at q3; exact q3.elim
        | some ob =>
          cases ob with
          | ins c fs => simp only [f1] at q3; exact q3.elim
          | dk fs => simp only [f1] at q3; exact q3.elim
          | dt fs => simp only [f1] at q3; exact q3.elim
          | lst ys =>
            simp only [f1] at q3
            obtain ⟨ws, f2, f3⟩ := R1.obj n b _ eb f1
            exact ⟨b, ys, ws, rfl, f2, f3, q3⟩
      | _ => exact q3.elim
  obtain ⟨b, ys, ws, rfl, f2, f3, q4⟩ := rd
  by_cases hz : xs.length + ys.length ≤ sizeLine
  · rw [if_pos hz] at q4
    have q5 : PstS L W ρ (own env σ) H D (.ok (.nx (Mini.store env i (.l (xs ++ ys)))) th1) := q4
    obtain ⟨R3, E3, x3⟩ := E1.grow R1 e1 e2 e3' ((hR.repAll x1 OL.no e4).append f3)
    exact ⟨a, b, vs, ws, rfl, rfl, e3', f2, by rw [← e4.length, ← f3.length]; exact hz, fin_nx q5 (x1.up.trans x3) R3 E3⟩
  · rw [if_neg hz] at q4; exact q4.elim
/-! ### o.f, o.g = e -/
def gFld (K : PySem.W.Frag) (to : TE) (f : Str) : TG := fun v σ H Q => to σ H fun x H2 => ∃ a C dx fs, x = .ref a ∧ H2 a = some (.ins C dx fs) ∧ Cls K C ∧ NoAttr K C f ∧ fs.length < 1000 ∧ Q σ (upd H2 a (.ins C dx (L2.putF f v fs)))
theorem pg_fld {oe : Expr} {to : TE} {f : Str} (ho : PE X oe to) : PG X (.Attribute oe f pos) (gFld X.K to f) := by
  refine ⟨fun pins s σ H v u Q I r h => wpAny_bind (wpAny_holding (thn (ho.run pins s σ H _ I h) fun ov s1 ⟨x, H1, I1, rx, a, Ca, dx, fs, ex, ea, c, n, l, q⟩ => ?_))⟩
  subst ex
  obtain rfl : ov = Value.ref a := rx
  exact wpAny_bind (wpAny_standAt (wpAny_bind (wpAny_holding (setattr_ok I1 ea c n l r fun s2 I2 => wpAny_release ⟨σ, _, I2, q⟩))))
def GF (P : Prog) (L : Lay) (C : Call) (W : WX) (os : Es) (fs : List Str) : TGs := fun vs σ H Q => ∃ ρ th env xs, R L ρ th H ∧ EnvR L ρ H env σ ∧ RepAll L ρ H xs vs ∧
  Pst L W ρ H σ (fun (_ : Unit) th' => ∀ ρ' H', Ex0 ρ H ρ' H' → R L ρ' th' H' → Q σ H') (putFs P C os fs xs env th)
theorem PGs.imp {ts : List Expr} {t t' : TGs} (h : PGs X ts t) (k : ∀ vs σ H Q, t' vs σ H Q → t vs σ H Q) : PGs X ts t' := ⟨fun pins s σ H vs us Q I r z => h.run pins s σ H vs us Q I r (k _ _ _ _ z)⟩
theorem gf_nil : PGs X [] (GF P L C W .nil []) := by
  refine PGs.imp pgs_nil fun vs σ H Q ⟨ρ, th, env, xs, hR, hE, hr, h⟩ => ?_
  cases xs with
  | nil =>
    simp only [RepAll] at hr
    exact ⟨hr, h ρ H Ext.refl hR⟩
  | cons x xs => exact h.elim
theorem gf_cons {oe : Expr} {co : E} {f : Str} {es : List Expr} {os : Es} {fs : List Str} (hK : X.K = L.K) (hc : ∀ c cd, P.cls[c]? = some cd → ClsK L P c cd) (ho : PE X oe (SV P L C W co)) (h2 : PGs X es (GF P L C W os fs)) : PGs X (.Attribute oe f pos :: es) (GF P L C W (.cons co os) (f :: fs)) := by
  have r := pgs_cons (pg_fld (pos := pos) (f := f) ho) h2
  rw [hK] at r
  refine PGs.imp r fun vs σ H Q ⟨ρ, th, env, xs, hR, hE, hr, h⟩ => ?_
  cases xs with
  | nil => exact h.elim
  | cons x xs =>
    simp only [RepAll] at hr
    obtain ⟨v, r, rfl, h1, h2⟩ := hr
    simp only [putFs] at h
    refine ⟨v, r, rfl, ?_⟩
    show SV P L C W co σ H _
    refine sv_step hR hE h fun ρ1 th1 H1 ov vo x1 R1 E1 ro q => ?_
    replace h1 := hR.rep x1 OL.no h1
    replace h2 := hR.repAll x1 OL.no h2
    rw [bind_app] at q
    unfold setFld at q
    cases ov with
    | l xs => exact q.elim
    | s xs g => exact q.elim
    | t zo =>
      cases zo with
      | ref n =>
        simp only [RepV, Rep] at ro
        obtain ⟨a, rfl, ea⟩ := ro
        cases e1 : th1[n]? with
        | none => simp only [e1] at q; exact q.elim
        | some ob =>
          cases ob with
          | lst xs => simp only [e1] at q; exact q.elim
          | dk fs => simp only [e1] at q; exact q.elim
          | dt fs => simp only [e1] at q; exact q.elim
          | ins k gs =>
            simp only [e1] at q
            by_cases hf : (hasF P k f && decide (gs.length < 1000)) = true
            · simp only [hf, if_true] at q
              rw [Bool.and_eq_true] at hf
              obtain ⟨hf, hl⟩ := hf
              obtain ⟨cd, hcd⟩ := hasF_cls hf
              have kk := hc _ _ hcd
              obtain ⟨dx, hs, q5, q6⟩ := R1.obj n a _ ea e1
              have xw : ∀ o, Ext ρ1 o H1 ρ1 o (upd H1 a (.ins (L.cad k) dx (L2.putF f v hs))) := fun o => Ext.write ea
              have R5 : R L ρ1 (th1.set n (.ins k (Mini.putF f x gs))) (upd H1 a (.ins (L.cad k) dx (L2.putF f v hs))) := R1.write ea ⟨dx, _, upd_same, FRep.put (R1.rep (xw noO) OL.no h1) (R1.frep (xw noO) OL.no q6)⟩
              have x2 := x1.trans (xw noO)
              refine ⟨a, _, dx, hs, rfl, q5, kk.cls, kk.fld f hf, by rw [← q6.length]; exact of_decide_eq_true hl, ρ1, _, env, xs, R5, E1.ext R1 (xw noO), R1.repAll (xw noO) OL.no h2, ?_⟩
              have q' : Pst L W ρ H σ _ (putFs P C os fs xs env (th1.set n (.ins k (Mini.putF f x gs)))) := q
              exact (q'.base x2).imp fun _ th' z ρ' H' y r => z ρ' H' (x2.trans y) r
            · simp only [hf] at q; exact q.elim
      | _ => exact q.elim
theorem s_fsts {es : List Expr} {kt : Nat} {tp : Pos} {e : Expr} {os : Es} {fs : List Str} {c : E} (hK : X.K = L.K) (hca : X.calm = true) (he : PE X e (SV P L C W c)) (hg : PGs X es (GF P L C W os fs)) (hn : (assignEach es X.env).length = es.length) (hst : (assignEach es X.env).findIdx? (·.1) = none)
    (hs : swapsWithSole [.Tuple es kt tp] e pos.line X.env = pure false) (hw : swappedStores [.Tuple es kt tp] e X.env = pure none) (h1 : (assignEach [.Tuple es kt tp] X.env).map (·.2) = [assign (.Tuple es kt tp) X.env]) (hlen : fs.length = es.length) :
    PS X (.Assign [.Tuple es kt tp] e pos) (SS P L C W (.fsts os fs c)) := by
  have r := ps_asg (pos := pos) he (pg_tup (k := kt) (pos := tp) hca hg hn hst) hs hw h1
  rw [hK] at r
  refine PS.imp r fun D σ H ⟨ρ, th, env, hR, hE, h⟩ => ?_
  simp only [evalS] at h
  refine ss_step hR hE h fun ρ1 th1 H1 tv v x r e rv q => ?_
  cases tv with
  | l xs => exact q.elim
  | s xs g => exact q.elim
  | t y =>
    cases y with
    | tup xs =>
      simp only [RepV, Rep] at rv
      obtain ⟨a, vs, rfl, q1, q2⟩ := rv
      have q : PstS L W ρ (own env σ) H D ((if xs.length = fs.length then putFs P C os fs xs env >>= fun _ => pure (.nx env) else fail) th1) := q
      by_cases ln0 : xs.length = fs.length
      case neg => rw [if_neg ln0] at q; exact q.elim
      rw [if_pos ln0] at q
      have ln : xs.length = es.length := by rw [ln0, hlen]
      refine ⟨a, vs, rfl, q1, by rw [← q2.length]; exact ln, ρ1, th1, env, xs, r, e, q2, ?_⟩
      exact (pst_of2 x.up q).imp fun _ th' z ρ' H' y r' => fin_same z (x.trans y) r' (e.ext r y)
    | _ => exact q.elim
end
end Mini
/-! Mini: for, while. -/
set_option linter.all false
set_option maxRecDepth 10000
namespace Mini
open PySem PySem.Spec PyProof.Rows L2
section
variable {P : Prog} {L : Lay} {C : Call} {W : WX} {X : Cx} {ρ ρ' ρ1 ρ2 : List Addr} {H H' H1 H2 H0 : Hp} {σ σ1 σ2 : L2.St} {env env1 : Env} {th th1 th2 : S} {o o' o1 : Addr → Prop} {i j : Nat} {pos : Pos} {D D' : Ends}
theorem EnvR.lock (hE : EnvR L ρ H env σ) : ∀ g : List GI, EnvR L ρ H (Mini.lock env g) σ ∧ (∀ k tv, (Mini.lock env g)[k]? = some (some tv) → env[k]? = some (some tv) ∧ GI.sl k ∉ g)
  | [] => ⟨hE, fun k tv h => ⟨h, by simp⟩⟩
  | .o n xs :: r => by
    obtain ⟨e, q⟩ := EnvR.lock hE r
    refine ⟨e, fun k tv h => ?_⟩
    obtain ⟨q1, q2⟩ := q k tv h
    exact ⟨q1, fun z => by
      rcases List.mem_cons.mp z with z | z
      · cases z
      · exact q2 z⟩
  | .sl n :: r => by
    obtain ⟨e, q⟩ := EnvR.lock hE r
    have e2 : EnvR L ρ H ((Mini.lock env r).set n none) σ := by
      cases z : σ[n]? with
      | none =>
        have e3 := e.drop (i := n) (.inl rfl)
        have hs : σ.set n none = σ := List.set_eq_of_length_le (List.getElem?_eq_none_iff.mp z)
        rw [hs] at e3; exact e3
      | some w =>
        have e3 := e.drop (i := n) (.inr z)
        have hs : σ.set n w = σ := by
          apply List.ext_getElem?
          intro k
          by_cases q : n = k
          · subst q; rw [List.getElem?_set_self (List.getElem?_eq_some_iff.mp z).1, z]
          · rw [List.getElem?_set_ne q]
        rw [hs] at e3; exact e3
    refine ⟨e2, fun k tv h => ?_⟩
    have h : ((Mini.lock env r).set n none)[k]? = some (some tv) := h
    by_cases z : n = k
    · subst z
      by_cases hl : n < (Mini.lock env r).length
      · rw [List.getElem?_set_self hl] at h; cases h
      · rw [List.getElem?_eq_none (by rw [List.length_set]; omega)] at h; cases h
    · rw [List.getElem?_set_ne z] at h
      obtain ⟨q1, q2⟩ := q k tv h
      exact ⟨q1, fun y => by
        rcases List.mem_cons.mp y with y | y
        · cases y; exact z rfl
        · exact q2 y⟩
theorem lock_small (hE : EnvR L ρ H env σ) {g : List GI} (hg : lockOk env g = true) : Small env σ g (own (Mini.lock env g) σ) := by
  intro b ⟨k, xs, h1, h2⟩
  obtain ⟨q1, q2⟩ := (hE.lock g).2 k _ h1
  refine ⟨⟨k, xs, q1, h2⟩, fun i hi z => ?_⟩
  have q := List.all_eq_true.mp hg _ hi
  simp only at q
  split at q
  · rename_i ys e
    have := hE.dis i k ys xs b e q1 z h2
    subst this
    exact q2 hi
  · cases q
/-- a loop's body: its ends -/
theorem PstS.turn {m : M Out} {f : Out → M Out} {N : L2.St → Hp → Prop} (h : PstS L W ρ o H D ((m >>= f) th))
    (hf : ∀ e s, f (.bk e) s = .ok (.nx e) s) (hr : ∀ v s, f (.rt v) s = .ok (.rt v) s) (hc : ∀ e s, f (.ct e) s = f (.nx e) s)
    (x : Ext ρ o H ρ1 o1 H1)
    (k : ∀ env2 th2 ρ' σ' H', PstS L W ρ o H D (f (.nx env2) th2) → Ext ρ1 o1 H1 ρ' (own env2 σ') H' → R L ρ' th2 H' → EnvR L ρ' H' env2 σ' → N σ' H') : PstS L W ρ1 o1 H1 { D with nx := N, ct := N, bk := D.nx } (m th) := by
  rw [bind_app] at h
  cases e0 : m th with
  | ok out th =>
    rw [e0] at h
    cases out with
    | nx e => exact fun ρ' σ' H' y r z => k e th ρ' σ' H' h y r z
    | ct e => exact fun ρ' σ' H' y r z => k e th ρ' σ' H' (by rw [← hc]; exact h) y r z
    | bk e =>
      have h : PstS L W ρ o H D (f (.bk e) th) := h
      rw [hf] at h
      exact fun ρ' σ' H' y r z => h ρ' σ' H' (x.trans y) r z
    | rt v =>
      have h : PstS L W ρ o H D (f (.rt v) th) := h
      rw [hr] at h
      exact fun ρ' o' v H' y r z => h ρ' o' v H' (x.trans y) r z
  | exc e th => rw [e0] at h; exact fun ρ' o' cls d σ' H' y r z => h ρ' o' cls d σ' H' (x.trans y) r z
  | bad => rw [e0] at h; exact h
theorem s_for {tg iter : Expr} {body : List Stmt} {g : Tg} {it : E} {b : Sts} (hp : PassesOwn (model X.prog X.w) X.A X.env X.xe) (hc : X.calm = true) (hi : PI X tg iter (SI P L C W it)) (hg : PG X tg (tgR L.K g)) (hb : PSs X body (SSs P L C W b)) (hs : ∀ x, foldedSetIterable iter X.env x = pure x) :
    PS X (.For tg iter body [] pos) (SS P L C W (.for_ g it b)) := by
  refine PS.imp (ps_for hp hc hi hg hb hs) fun D σ H ⟨ρ, th, env, hR, hE, h⟩ => ?_
  simp only [evalS] at h
  rw [← bind_assoc'] at h
  refine ⟨ρ, th, env, hR, hE, (pst_of h).imp fun p th1 q ρ1 H1 J St x1 R1 wk hst => ?_⟩
  by_cases hlk : lockOk env p.2 = true
  case neg => rw [if_neg hlk] at q; exact q.elim
  rw [if_pos hlk] at q
  have E1 := (hE.ext hR x1).lock p.2
  have sm := lock_small hE hlk
  have st1 := hst _ sm
  generalize htgt : (fun (x : T) (ρ : Env) => target x g ρ) = tgt at q
  generalize hbd : (fun ρ => evalSs P C b ρ) = bd at q
  generalize hgd : (fun s => p.2.all (GI.okS s)) = gd at q
  let Wi : Nat → Nat → L2.St → Hp → Prop := fun i m σ' H' => m = p.1.length - i ∧ i ≤ p.1.length ∧ ∃ ρ' th' env', R L ρ' th' H' ∧ EnvR L ρ' H' env' σ' ∧ St ρ' (own env' σ') H' ∧ PstS L W ρ' (own env' σ') H' D (forL tgt bd gd (p.1.drop i) env' th')
  refine ⟨Wi, ⟨p.1.length, rfl, Nat.zero_le _, ρ1, th1, _, R1, E1.1, st1, ?_⟩, ?_⟩
  · exact PstS.base q (x1.up.shrink fun b z => .inr (.inl (sm b z).1))
  rintro i m σ' H' ⟨rfl, hi, ρ', th', env', R', E', st', G⟩
  by_cases hlt : i < p.1.length
  case neg =>
    have ei : i = p.1.length := by omega
    subst ei
    rw [List.drop_length] at G
    unfold forL at G
    by_cases hgt : gd th' = true
    · simp only [hgt, if_true] at G
      exact .inl ⟨wk.stop st' R' (by rw [← hgd] at hgt; exact hgt), fin_nx G Ext.refl R' E'⟩
    · simp only [hgt] at G; exact G.elim
  have hd : p.1.drop i = p.1[i] :: p.1.drop (i + 1) := List.drop_eq_getElem_cons hlt
  rw [hd] at G
  unfold forL at G
  by_cases hgt : gd th' = true
  case neg => simp only [hgt] at G; exact G.elim
  simp only [hgt, if_true] at G
  cases ht : tgt p.1[i] env' with
  | none => simp only [ht] at G; exact G.elim
  | some env2 =>
    simp only [ht] at G
    obtain ⟨go, yl⟩ := wk.go st' R' (by rw [← hgd] at hgt; exact hgt) (List.getElem?_eq_getElem hlt)
    refine .inr ⟨go, fun σ'' H'' => Wi (i + 1) (p.1.length - (i + 1)) σ'' H'', fun σ'' H'' z => ⟨_, by omega, z⟩, fun v H2 hy => ?_⟩
    obtain ⟨rv, R2, x2, keep2⟩ := yl v H2 hy
    have ht' : target p.1[i] g env' = some env2 := by rw [← htgt] at ht; exact ht
    refine tgt_read ht' (E'.ext R' (x2 noO)) rv fun σ2 E2 so hw => ⟨ρ', th', env2, R2, E2, ?_⟩
    have x02 : Ext ρ' (own env' σ') H' ρ' (own env2 σ2) H2 := (x2 _).shrink fun b z => .inr (.inl (so b z))
    have hb2 : bd env2 = evalSs P C b env2 := by rw [← hbd]
    rw [← hb2]
    refine PstS.turn (m := bd env2) (f := fun r => match r with
      | .nx ρ'' => forL tgt bd gd (p.1.drop (i + 1)) ρ''
      | .ct ρ'' => forL tgt bd gd (p.1.drop (i + 1)) ρ''
      | .bk ρ'' => pure (.nx ρ'')
      | .rt v => pure (.rt v)) G (fun _ _ => rfl) (fun _ _ => rfl) (fun _ _ => rfl) x02 fun env3 th3 ρ3 σ3 H3 G3 x3 R3 E3 => ?_
    have x03 := x02.trans x3
    exact ⟨rfl, by omega, ρ3, th3, env3, R3, E3, wk.keep st' R' x03 E'.ol, PstS.base G3 x03⟩
theorem s_whl {c : Expr} {body : List Stmt} {cc : E} {b : Sts} (hp : PassesOwn (model X.prog X.w) X.A X.env X.xe) (hc : PT X c (ST P L C W cc)) (hb : PSs X body (SSs P L C W b)) : PS X (.While c body [] pos) (SS P L C W (.whl cc b)) := by
  refine PS.imp (ps_while hp hc hb) fun D σ H ⟨ρ, th, env, hR, hE, h⟩ => ?_
  simp only [evalS] at h
  generalize hts : (fun ρ => evalV P C cc ρ >>= fun x => truth x) = ts at h
  generalize hbd : (fun ρ => evalSs P C b ρ) = bd at h
  refine ⟨fun m σ' H' => ∃ ρ' th' env', R L ρ' th' H' ∧ EnvR L ρ' H' env' σ' ∧ PstS L W ρ' (own env' σ') H' D (whileL ts bd m env' th'), ⟨P.wf, ρ, th, env, hR, hE, h⟩, ?_⟩
  rintro m σ' H' ⟨ρ', th', env', R', E', G⟩
  cases m with
  | zero => exact G.elim
  | succ n =>
    have G : PstS L W ρ' (own env' σ') H' D ((ts env' >>= fun t => if t then bd env' >>= fun r => (match r with
      | .nx ρ' => whileL ts bd n ρ'
      | .ct ρ' => whileL ts bd n ρ'
      | .bk ρ' => pure (.nx ρ')
      | .rt v => pure (.rt v)) else pure (.nx env')) th') := G
    have et : ts env' = (evalV P C cc env' >>= fun x => truth x) := by rw [← hts]
    rw [et] at G
    refine ss_test R' E' G fun ρ1 th1 H1 t x1 R1 E1 h1 => ?_
    cases t with
    | false =>
      rw [if_neg Bool.false_ne_true] at h1 ⊢
      exact fin_same h1 x1 R1 E1
    | true =>
      rw [if_pos rfl] at h1 ⊢
      refine ⟨fun σ'' H'' => ∃ ρ' th' env', R L ρ' th' H'' ∧ EnvR L ρ' H'' env' σ'' ∧ PstS L W ρ' (own env' σ'') H'' D (whileL ts bd n env' th'), fun σ'' H'' z => ⟨n, Nat.lt_succ_self n, z⟩, ⟨ρ1, th1, env', R1, E1, ?_⟩⟩
      have hb2 : bd env' = evalSs P C b env' := by rw [← hbd]
      rw [← hb2]
      refine PstS.turn (m := bd env') (f := fun r => match r with
        | .nx ρ' => whileL ts bd n ρ'
        | .ct ρ' => whileL ts bd n ρ'
        | .bk ρ' => pure (.nx ρ')
        | .rt v => pure (.rt v)) h1 (fun _ _ => rfl) (fun _ _ => rfl) (fun _ _ => rfl) x1.up fun env3 th3 ρ3 σ3 H3 G3 x3 R3 E3 => ?_
      exact ⟨ρ3, th3, env3, R3, E3, PstS.base G3 (x1.up.trans x3)⟩
end
end Mini
/-! Mini: sorted(set(..)). -/
set_option linter.all false
set_option maxRecDepth 100000
namespace Mini
open PySem PySem.Spec PyProof.Rows L2
/-- the set that was just made -/
abbrev frO (w : World) : Obj := { cls := .type "set", dict := none, data := .set #[] 0 (.fresh 0 0 (!w.params.followText "set-order")) }
section
variable {P : Program} {w : World} {A : Around} {E : Value → Shared → Prop} {s : Shared}
set_option maxHeartbeats 3200000 in
/-- set(l), l a list of ints -/
theorem set_ofl {l : Addr} {items : Array Value} (ns : List Int) {Q : Value → Shared → Prop} (hh : A.handled = none) (hl : s.heap.IsList l items) (hit : IntsAre items.toList ns) (hb : ns.length + 1 < scanBound)
    (h : ∀ (h' : Heap) (tk c : Nat), SetR w h' s.heap.objs.size (fun j => decide (j ∈ ns)) c → c ≤ ns.length → (∀ b o, s.heap.get? b = some o → h'.get? b = some o) → Q (.ref s.heap.objs.size) { s with heap := h', toks := tk }) : wpAny (model P w) A (call (.type "set") [.ref l]) Q E s := by
  have hsz : items.size = ns.length := by have q := IntsAre.length hit; rwa [Array.length_toList] at q
  obtain ⟨c, tl, hmro⟩ := F.called_set.mro; have hmade := F.called_set.made; have hsub := F.called_set.sub
  refine wpAny_call (codeAny_of_tree ?_); show wpAny _ _ (callAny (.type "set") _) _ _ _
  refine wpAny_pure ⟨Code.quiet_builtin _ (by decide +kernel), codeAny_builtin F.entry_type_call ?_⟩ ; rw [Around.under_plain (weight_type_call_type "set" [.ref l] []) rfl]
  have h1 := F.called_set.notType; have h2 := F.called_set.canCreate; have hct := F.typeCall_set_1 (.ref l); repeat (any_goals (first | assumption | wp_step))
  refine codeAny_mono (code_set_led1 (.ref l) (E := E) (Q₁ := fun obj s₁ => obj = .ref s.heap.objs.size ∧ s₁ = { s with heap := s.heap.push (frO w) }) ⟨rfl, rfl⟩) fun r s₁ hr => ?_
  match r, hr with
  | .error e, hr => exact hr
  | .ok fl, hr =>
    match fl, hr with
    | .ret obj, hr =>
      obtain ⟨rfl, rfl⟩ := hr
      have hS : (s.heap.push (frO w)).get? s.heap.objs.size = some (frO w) := Heap.get?_push_size _ rfl
      have hT : Shared.TypeIs { s with heap := s.heap.push (frO w) } (.ref s.heap.objs.size) "set" := ⟨_, hS, rfl⟩
      have hli := F.called_set.init.lookup; have hbi := F.called_set.init.bind (.ref s.heap.objs.size); repeat (any_goals (first | assumption | wp_step))
      refine codeAny_mono (codeAny_call_builtin (R := wants (fun r s₂ => r = .none ∧ ∃ h' tk c, s₂ = { s with heap := h', toks := tk } ∧ SetR w h' s.heap.objs.size (fun j => decide (j ∈ ns)) c ∧ c ≤ ns.length ∧ ∀ b o, s.heap.get? b = some o → h'.get? b = some o) E) F.called_set.init.plain F.entry_set_init (check_set_init_1 hT ?_)) fun r₂ s₂ hr₂ => ?_
      · obtain ⟨⟨ocls, odict, odata, oslots⟩, hol, hcl, nl, hdl⟩ := hl
        simp only at hcl hdl; subst hcl; subst hdl
        have hol' : (s.heap.push (frO w)).get? l = some { cls := .type "list", dict := odict, data := .seq items nl, slots := oslots } := Heap.get?_push_of_some _ hol
        have hsls := F.sub_list_set; have hslf := F.sub_list_frozenset; have hne : (Value.type "list" == Value.type "dict") = false := by decide
        have hl1 : (s.heap.push (frO w)).IsList l items := ⟨_, hol', rfl, nl, rfl⟩
        unfold Builtin.«set.__init__» noKeywords Builtin.Frozenset.updateFrom; generalize hPI : pyIter = PI; wp_walk; subst hPI
        refine wpAny_pyIter_list hl1 ?_; refine wpAny_bind (wpAny_runValue ?_)
        have hlS : l < s.heap.objs.size := Heap.lt_size hol
        have hh3 : A.in1.in1.in1.handled = none := by simp [hh]
        have hz1 : (s.heap.push (frO w)).objs.size = s.heap.objs.size + 1 := Heap.size_push ..
        have hneI : l ≠ (s.heap.push (frO w)).objs.size := by rw [hz1]; exact Nat.ne_of_lt (Nat.lt_succ_of_lt hlS)
        have hSf : s.heap.objs.size ∉ [(s.heap.push (frO w)).objs.size, l] := by
          rw [hz1]; simp only [List.mem_cons, List.not_mem_nil, or_false, not_or]; exact ⟨Nat.ne_of_lt (Nat.lt_succ_self _), Nat.ne_of_gt hlS⟩
        have hval : ∀ (i : Nat) (v : Value), items[i]? = some v → ∃ k t, ns[i]? = some k ∧ v = .int k t := fun i v hv => by
          have hi : i < ns.length := by rw [← hsz]; exact (Array.getElem?_eq_some_iff.mp hv).1
          obtain ⟨t, e⟩ := PyProof.Rows.IntsAre.int_at hit i v (by rw [Array.getElem?_toList]; exact hv)
          exact ⟨ns[i], t, List.getElem?_eq_getElem hi, by rw [e, List.getD_eq_getElem?_getD, List.getElem?_eq_getElem hi]; rfl⟩
        refine set_update_ints ((Walks.list hh3 _ l hneI items).toS) s.heap.objs.size hSf ns hsz hb hval (items.size - 0) 0 _ (by omega) (Nat.zero_le _) ⟨⟨_, Heap.get?_push_size _ rfl, rfl, rfl⟩, (hl1.push _)⟩ ⟨0, Nat.le_refl 0, setR_new_at (Heap.get?_push_of_some _ hS)⟩ ?_
        intro s' c' hm hc' hS'
        obtain ⟨h', g2, d', tk', os'⟩ := s'
        have eg : g2 = s.gens := hm.gens; have ed : d' = s.drawn := hm.drawn; have eo : os' = s.os := hm.os
        subst eg; subst ed; subst eo
        show wpAny _ _ _ _ _ _; refine wpAny_pure ?_; show wpAny _ _ (ret Value.none) _ _ _
        refine wpAny_pure ⟨rfl, h', tk', c', rfl, hS', by omega, fun b o e => ?_⟩
        have hb0 : b < s.heap.objs.size := Heap.lt_size e
        exact hm.heap b o (by rw [hz1]; simp only [List.mem_cons, List.not_mem_nil, or_false, not_or]; exact ⟨Nat.ne_of_lt hb0, Nat.ne_of_lt (Nat.lt_succ_of_lt hb0)⟩) (Heap.get?_push_of_some _ (Heap.get?_push_of_some _ e))
      · match r₂, hr₂ with
        | .error e, hr₂ => exact hr₂
        | .ok fl₂, hr₂ =>
          match fl₂, hr₂ with
          | .ret r, hr₂ =>
            obtain ⟨rfl, h', tk, c, rfl, hS', hc', hk'⟩ := hr₂
            repeat (any_goals (first | assumption | wp_step))
            exact h _ _ _ hS' hc' hk'
          | .next, hr₂ => exact hr₂.elim
          | .brk, hr₂ => exact hr₂.elim
          | .cont, hr₂ => exact hr₂.elim
    | .next, hr => exact hr.elim
    | .brk, hr => exact hr.elim
    | .cont, hr => exact hr.elim
end
section
variable {P : Prog} {L : Lay} {C : Call} {W : WX} {X : Cx} {ρ ρ' ρ1 ρ2 : List Addr} {H H' H1 H2 H0 : Hp} {σ : L2.St} {env : Env} {th th1 th2 : S} {o o' : Addr → Prop} {pos : Pos} {i j l : Nat} {D : Ends}
def tSrS (K : PySem.W.Frag) (ta : TE) : TE := fun σ H Q => ta σ H fun x H1 => rSrS K [x] H1 Q
theorem pe_srS {a : Expr} {ta : TE} {p p2 q : Pos} (hc : X.calm = true) (hg : Gl X "sorted") (hm : X.mg "sorted" = none) (hg2 : Gl X "set") (hm2 : X.mg "set" = none) (ha : PE X a ta) (na : starEach [a] X.env = (false, eval a X.env) :: starEach [] X.env) :
    PE X (.Call (.Name "sorted" p) [.Call (.Name "set" p2) [a] [] q] [] pos) (tSrS X.K ta) := by
  refine ⟨fun pins s σ H Q I h => Call_ (ld_blt I hg hm (by rfl) (PyProof.Rows.callWith_builtin1 (PyProof.Rows.args_cons (Call_ (ld_blt I hg2 hm2 boot_set (PyProof.Rows.callWith_type1 (PyProof.Rows.args_cons ?_ na) na rfl))) rfl) rfl rfl))⟩
  refine thn (ha.run pins s σ H _ I h) fun v s1 ⟨x, H1, I1, r1, q1⟩ => PyProof.Rows.args_nil ?_
  obtain ⟨l, ns, ex, hq, hl, hd, q1⟩ := q1
  cases ex
  cases r1
  have fin : ∀ (h' : Heap) (tk c : Nat), SetR X.w h' s1.heap.objs.size (fun j => decide (j ∈ ns)) c → c ≤ ns.length → (∀ b o, s1.heap.get? b = some o → h'.get? b = some o) → wpAny (model X.prog X.w) X.A (call (.builtin "sorted") [.ref s1.heap.objs.size]) (EP X pins σ Q) X.xe { s1 with heap := h', toks := tk } := by
    intro h' tk c R1 hc1 hk
    have I2 : Inv X pins σ H1 { s1 with heap := h', toks := tk } := I1.kept hk
    have e : (dedup ns).length = c := by
      obtain ⟨ob, es, ep, t, ho, hex, hdd, hgood, nd, hm, hb, hf, hn, _⟩ := R1
      rw [← hn]
      have pm : (es.toList.map keyOf).Perm (dedup ns) := by
        rw [List.perm_ext_iff_of_nodup nd (dedup_facts ns).1]
        intro k
        rw [← hm k, (dedup_facts ns).2]
        simp
      have := pm.length_eq
      simpa using this.symm
    refine sorted_set (s := { s1 with heap := h', toks := tk }) R1 (I1.ok.hd hc) (by omega) fun s' p out c' ms k g o hp hg hi hs hm hl => ?_
    have em : ms = isort (dedup ns) := sset_eq hs fun k => by rw [hm]; simp
    subst em
    have hlen : ((isort (dedup ns)).map V.int).length ≤ sizeLine := by rw [List.length_map, hl, sizeLine_eq]; omega
    have hn : H1 p = none := I2.hok.fresh hp
    have J : Inv X pins σ (upd H1 p (.lst ((isort (dedup ns)).map V.int))) { { s1 with heap := h', toks := tk } with heap := s'.heap, gens := s'.gens, drawn := s'.drawn, toks := s'.toks } :=
      I2.call (ch := []) (Un.laid k hp hn) (I2.hok.laid k hp ⟨hlen, out.toList, c', vals_of_ints hi, hg⟩) (by rw [g]; exact I2.bare) (fun _ z => nomatch z)
    have e2 : s' = { { s1 with heap := h', toks := tk } with heap := s'.heap, gens := s'.gens, drawn := s'.drawn, toks := s'.toks } := by cases s'; cases o; rfl
    rw [e2]
    exact ⟨.ref p, _, J, rfl, q1 p hn⟩
  rcases hq with hq | hq
  · obtain ⟨its, r, pl, hz⟩ := I1.list hq
    exact set_ofl ns (I1.ok.hd hc) pl.isList (by simpa using r.ints) (by show _ < 4096; omega) fun h' tk c R1 hc1 hk => PyProof.Rows.args_nil (fin h' tk c R1 hc1 hk)
  · obtain ⟨its, r, pl, hz⟩ := I1.tuple hq
    exact call_set_tupI ns (I1.ok.hd hc) (show s1.heap.IsTuple l its.toArray from pl) (by simpa using r.ints) (by show _ < 4096; omega) fun h' tk c R1 hc1 hk => PyProof.Rows.args_nil (fin h' tk c R1 hc1 hk)
theorem sv_sortset {a : Expr} {c : E} {p p2 q : Pos} (hK : X.K = L.K) (hc : X.calm = true) (hg : Gl X "sorted") (hm : X.mg "sorted" = none) (hg2 : Gl X "set") (hm2 : X.mg "set" = none) (ha : PE X a (SV P L C W c))
    (na : starEach [a] X.env = (false, eval a X.env) :: starEach [] X.env) : PE X (.Call (.Name "sorted" p) [.Call (.Name "set" p2) [a] [] q] [] pos) (SV P L C W (.bi .sortedset (.cons c .nil))) := by
  refine PE.imp (pe_srS hc hg hm hg2 hm2 ha na) fun σ H Q ⟨ρ, th, env, hR, hE, h⟩ => ?_
  simp only [evalV, evalAs] at h
  rw [bind_assoc'] at h
  refine sv_step hR hE h fun ρ1 th1 H1 tv v x1 R1 E1 rv h1 => ?_
  rw [hK]
  exact bi_read (b := .sortedset) R1 x1 (.cons rv.arg .nil) h1
end
end Mini
/-! Mini: pop, three at once. -/
set_option linter.all false
set_option maxRecDepth 100000
namespace Mini
open PySem PySem.Spec PyProof.Rows L2
section
variable {P : Prog} {L : Lay} {C : Call} {W : WX} {X : Cx} {ρ ρ' ρ1 ρ2 : List Addr} {H H' H1 H2 H0 : Hp} {σ : L2.St} {env : Env} {th th1 th2 : S} {o o' : Addr → Prop} {pos : Pos} {i j l : Nat} {D : Ends}
/-- a list that has methods -/
theorem bmO_read {tv : TV} {v : V} {α : Type} {f : Nat → M α} {Φ : α → S → Prop} {ρ0 : List Addr} {H00 : Hp} (hR : R L ρ th H) (rv : RepV L H0 σ ρ o H tv v) (h : Pst L W ρ0 H00 σ Φ ((refOf tv >>= f) th)) :
    ∃ n a xs vs, tv = .t (.ref n) ∧ v = .ref a ∧ ρ[n]? = some a ∧ th[n]? = some (.lst xs) ∧ H a = some (.lst vs) ∧ RepAll L ρ H xs vs ∧ Pst L W ρ0 H00 σ Φ (f n th) := by
  cases tv with
  | l xs => exact h.elim
  | s xs g => exact h.elim
  | t z =>
    cases z with
    | ref n =>
      simp only [RepV, Rep] at rv
      obtain ⟨a, rfl, ea⟩ := rv
      have e : (refOf (.t (.ref n)) >>= f) = (deref n >>= fun _ => f n) := by
        show ((deref n >>= fun _ => pure n) >>= f) = _
        rw [bind_assoc']; rfl
      rw [e, bind_app] at h
      unfold deref at h
      cases e : th[n]? with
      | none => simp only [e] at h; exact h.elim
      | some ob =>
        cases ob with
        | ins c fs => simp only [e] at h; exact h.elim
        | dk fs => simp only [e] at h; exact h.elim
        | dt fs => simp only [e] at h; exact h.elim
        | lst xs =>
          simp only [e] at h
          obtain ⟨vs, q1, q2⟩ := hR.obj n a _ ea e
          exact ⟨n, a, xs, vs, rfl, rfl, ea, e, q1, q2, h⟩
    | _ => exact h.elim
theorem RepAll.erase : ∀ {xs : List T} {vs : List V} (n : Nat), RepAll L ρ H xs vs → RepAll L ρ H (xs.eraseIdx n) (vs.eraseIdx n)
  | [], _, n, h => by simp only [RepAll] at h; subst h; simp [RepAll]
  | x :: xs, vs, 0, h => by
    simp only [RepAll] at h
    obtain ⟨v, r, e, h1, h2⟩ := h
    subst e
    exact h2
  | x :: xs, vs, n + 1, h => by
    simp only [RepAll] at h
    obtain ⟨v, r, e, h1, h2⟩ := h
    subst e
    exact (RepAll.erase n h2).cons h1
theorem RepAll.dropL : ∀ {xs : List T} {vs : List V}, RepAll L ρ H xs vs → RepAll L ρ H xs.dropLast vs.dropLast
  | [], _, h => by simp only [RepAll] at h; subst h; simp [RepAll]
  | [x], vs, h => by
    simp only [RepAll] at h
    obtain ⟨v, r, e, h1, h2⟩ := h
    subst e; subst h2
    simp [RepAll]
  | x :: y :: xs, vs, h => by
    simp only [RepAll] at h
    obtain ⟨v, r, e, h1, w, r', e', h2, h3⟩ := h
    subst e; subst e'
    have := RepAll.dropL (xs := y :: xs) (vs := w :: r') (h3.cons h2)
    exact this.cons h1
def bmRule (K : PySem.W.Frag) : Bm → V → List V → Hp → VK → Prop
  | .popAt => rPopAt
  | .pop => rPop
theorem ixN_62 {n : Nat} {i : Int} {k : Nat} (h : L2.ixN n i = some k) : seqIndex? i n = some k := (L2.ixN_seq h).1
theorem bm_read {m : Bm} {n : Nat} {a : Addr} {tvs : List TV} {vs : List V} {Q : VK} {ρ0 : List Addr} {H00 : Hp} (ea : ρ1[n]? = some a) (hR : R L ρ1 th1 H1) (x1 : Ex0 ρ H ρ1 H1) (rs : RepGs L ρ1 H1 tvs vs) (h : Pst L W ρ0 H00 σ (KV L ρ H env σ Q) (bmV m n tvs th1)) : bmRule L.K m (.ref a) vs H1 Q := by
  unfold bmV at h
  split at h
  · rename_i tv
    obtain ⟨v, rfl, rg⟩ := rs.one
    obtain ⟨i, rfl, h⟩ := int_read (rg.repV (σ := σ) (H0 := H1)) h
    unfold popAtM at h
    cases e : th1[n]? with
    | none => simp only [e] at h; exact h.elim
    | some ob =>
      cases ob with
      | ins c fs => simp only [e] at h; exact h.elim
      | dk fs => simp only [e] at h; exact h.elim
      | dt fs => simp only [e] at h; exact h.elim
      | lst xs =>
        simp only [e] at h
        obtain ⟨ws, q1, q2⟩ := hR.obj n a _ ea e
        have hl := q2.length
        cases hj : L2.ixN xs.length i with
        | none => simp only [hj] at h; exact h.elim
        | some j =>
          cases hx : xs[j]? with
          | none => simp only [hj, Option.bind_some, hx] at h; exact h.elim
          | some x =>
            simp only [hj, Option.bind_some, hx] at h
            by_cases h62 : small62 i = true
            · rw [if_pos h62] at h
              obtain ⟨w, hw, rw'⟩ := q2.get hx
              unfold small62 at h62
              have h62 := of_decide_eq_true h62
              refine ⟨a, ws, i, j, w, rfl, rfl, q1, by omega, by omega, by rw [← hl]; exact ixN_62 hj, hw, ?_⟩
              have xw : Ex0 ρ1 H1 ρ1 (upd H1 a (.lst (ws.eraseIdx j))) := Ext.write ea
              have R5 := hR.write (ob := .lst (xs.eraseIdx j)) ea ⟨_, upd_same, hR.repAll xw OL.no (q2.erase j)⟩
              exact fin_ok (tv := .t x) h (x1.trans xw) R5 (hR.rep xw OL.no rw')
            · rw [if_neg h62] at h; exact h.elim
  · cases rs
    unfold popM at h
    cases e : th1[n]? with
    | none => simp only [e] at h; exact h.elim
    | some ob =>
      cases ob with
      | ins c fs => simp only [e] at h; exact h.elim
      | dk fs => simp only [e] at h; exact h.elim
      | dt fs => simp only [e] at h; exact h.elim
      | lst xs =>
        simp only [e] at h
        obtain ⟨ws, q1, q2⟩ := hR.obj n a _ ea e
        have hl := q2.length
        cases hx : xs[xs.length - 1]? with
        | none => simp only [hx] at h; exact h.elim
        | some x =>
          simp only [hx] at h
          obtain ⟨w, hw, rw'⟩ := q2.get hx
          refine ⟨a, ws, w, rfl, rfl, q1, by rw [← hl]; exact hw, ?_⟩
          have xw : Ex0 ρ1 H1 ρ1 (upd H1 a (.lst ws.dropLast)) := Ext.write ea
          have R5 := hR.write (ob := .lst xs.dropLast) ea ⟨_, upd_same, hR.repAll xw OL.no q2.dropL⟩
          exact fin_ok (tv := .t x) h (x1.trans xw) R5 (hR.rep xw OL.no rw')
  · exact h.elim
theorem sv_popAt {oe e : Expr} {co c : E} {ap p2 : Pos} (hK : X.K = L.K) (ho : PE X oe (SV P L C W co)) (he : PE X e (SV P L C W c)) (hs0 : starEach [e] X.env = (false, eval e X.env) :: starEach [] X.env) (hl : (ap.endLine == p2.line) = true)
    (hb : attributeBase oe "pop" X.env (eval oe X.env) = eval oe X.env) : PE X (.Call (.Attribute oe "pop" ap) [e] [] p2) (SV P L C W (.bm .popAt co (.cons c .nil))) := by
  have r := pe_bm (X := X) (T := "list") (name := "pop") (id := "list.pop") (r := rPopAt) (apos := ap) (cpos := p2) PySem.F.plainAttrs_list PySem.F.slot_list_pop rfl mt_popAt ho (sa_cons he sa_nil hs0) hb (by rw [hs0]; rfl) hl hs0 rfl
  rw [hK] at r
  refine PE.imp r fun σ H Q ⟨ρ, th, env, hR, hE, h⟩ => ?_
  simp only [evalV] at h
  refine sv_step hR hE h fun ρ1 th1 H1 tv v x1 R1 E1 rv h1 => ?_
  obtain ⟨n, a, xs, vs, rfl, rfl, ea, e1, q1, q2, h2⟩ := bmO_read R1 rv h1
  refine ⟨.inl ⟨rfl, vs, SqL.of q1⟩, ?_⟩
  refine sa_step R1 E1 (h2.base x1) fun ρ2 th2 H2 tvs ws x2 R2 E2 rs h3 => ?_
  have ea2 : ρ2[n]? = some a := by
    obtain ⟨r, e⟩ := x2.pre
    rw [e, List.getElem?_append_left (List.getElem?_eq_some_iff.mp ea).1]; exact ea
  exact bm_read (m := .popAt) ea2 R2 (x1.trans x2) rs h3
theorem sv_pop {oe : Expr} {co : E} {ap p2 : Pos} (hK : X.K = L.K) (ho : PE X oe (SV P L C W co)) (hl : (ap.endLine == p2.line) = true)
    (hb : attributeBase oe "pop" X.env (eval oe X.env) = eval oe X.env) : PE X (.Call (.Attribute oe "pop" ap) [] [] p2) (SV P L C W (.bm .pop co .nil)) := by
  have r := pe_bm0 (X := X) (T := "list") (name := "pop") (id := "list.pop") (r := rPop) (apos := ap) (cpos := p2) PySem.F.plainAttrs_list PySem.F.slot_list_pop rfl mt_pop ho hb hl
  rw [hK] at r
  refine PE.imp r fun σ H Q ⟨ρ, th, env, hR, hE, h⟩ => ?_
  simp only [evalV] at h
  refine sv_step hR hE h fun ρ1 th1 H1 tv v x1 R1 E1 rv h1 => ?_
  obtain ⟨n, a, xs, vs, rfl, rfl, ea, e1, q1, q2, h2⟩ := bmO_read R1 rv h1
  exact ⟨.inl ⟨rfl, vs, SqL.of q1⟩, bm_read (m := .pop) (tvs := []) ea R1 x1 .nil h2⟩
/-! ### a, b, c = x, y, z -/
theorem s_par3 {x y z : Str} {a b c : Expr} {ca cb cc : E} {px py pz pt : Pos} {kt k2 pt2} (hc : X.calm = true) (hN : X.N.Nodup) (hi : X.N[i]? = some x) (hj : X.N[j]? = some y) (hl : X.N[l]? = some z) (hij : i ≠ j) (hil : i ≠ l) (hjl : j ≠ l)
    (hx : X.env.scope.names.lookup x = some .local) (hy : X.env.scope.names.lookup y = some .local) (hz : X.env.scope.names.lookup z = some .local) (ha : PE X a (SV P L C W ca)) (hb : PE X b (SV P L C W cb)) (hcc : PE X c (SV P L C W cc))
    (h1 : starEach [a, b, c] X.env = (false, eval a X.env) :: starEach [b, c] X.env) (h2 : starEach [b, c] X.env = (false, eval b X.env) :: starEach [c] X.env) (h3 : starEach [c] X.env = (false, eval c X.env) :: starEach [] X.env)
    (hw : swappedStores [.Tuple [.Name x px, .Name y py, .Name z pz] kt pt] (.Tuple [a, b, c] k2 pt2) X.env = pure (some [x, y, z])) :
    PS X (.Assign [.Tuple [.Name x px, .Name y py, .Name z pz] kt pt] (.Tuple [a, b, c] k2 pt2) pos) (SS P L C W (.par3 i j l ca cb cc)) := by
  refine PS.imp (ps_par3 hc hN hi hj hl hij hil hjl hx hy hz (pa_cons ha (pa_cons hb (pa_cons hcc pa_nil h3) h2) h1) hw) fun D σ H ⟨ρ, th, env, hR, hE, h⟩ => ?_
  simp only [evalS] at h
  show SV P L C W ca σ H _
  refine ss_step hR hE h fun ρ1 th1 H1 tv v x1 R1 E1 rv q => ?_
  have nf : RepF L H ρ1 H1 tv v ∧ PstS L W ρ (own env σ) H D ((evalV P C cb env >>= fun y => own2 y >>= fun y => evalV P C cc env >>= fun z => own2 z >>= fun z => pure (.nx (store (store (store env i tv) j y) l z))) th1) := by
    cases tv with
    | t z => exact ⟨rv, q⟩
    | l xs => exact ⟨rv, q⟩
    | s xs g => exact q.elim
  obtain ⟨rf, q⟩ := nf
  obtain ⟨E2, x2⟩ := hE.store (i := i) hR x1 rf
  show SV P L C W cb σ H1 _
  refine ss_step2 (D := D) x1.up R1 E1 q fun ρ2 th2 H2 tw w x3 R2 E3 rw' q2 => ?_
  have nf : RepF L H1 ρ2 H2 tw w ∧ PstS L W ρ (own env σ) H D ((evalV P C cc env >>= fun z => own2 z >>= fun z => pure (.nx (store (store (store env i tv) j tw) l z))) th2) := by
    cases tw with
    | t z => exact ⟨rw', q2⟩
    | l xs => exact ⟨rw', q2⟩
    | s xs g => exact q2.elim
  obtain ⟨rg, q3⟩ := nf
  obtain ⟨E4, x4⟩ := E2.store (i := j) R1 x3 rg
  show SV P L C W cc σ H2 _
  refine ss_step2 (D := D) (x1.trans x3).up R2 E3 q3 fun ρ3 th3 H3 tu u x5 R3 E5 ru q4 => ?_
  refine ⟨v, w, u, rfl, ?_⟩
  have nf : RepF L H2 ρ3 H3 tu u ∧ PstS L W ρ (own env σ) H D (.ok (.nx (store (store (store env i tv) j tw) l tu)) th3) := by
    cases tu with
    | t z => exact ⟨ru, q4⟩
    | l xs => exact ⟨ru, q4⟩
    | s xs g => exact q4.elim
  obtain ⟨rk, q5⟩ := nf
  obtain ⟨E6, x6⟩ := E4.store (i := l) R2 x5 rk
  exact fin_nx q5 ((x2.trans x4).trans x6) R3 E6
end
end Mini
/-! Mini: isinstance of own classes, the own ==. -/
set_option linter.all false
set_option maxRecDepth 100000
namespace Mini
open PySem PySem.Spec PyProof.Rows L2
/-- built-in types as a value may have them -/
def baseTys : List String := ["NoneType", "bool", "int", "str", "tuple", "list", "dict"]
/-- what the written part holds of the classes among each other -/
structure ClsX (L : Lay) (P : Prog) : Prop where
  io : ∀ c cd, P.cls[c]? = some cd → PySem.W.findIn L.K (.ref (L.cad c)) "__class__" = some (some (.builtin "object.__class__")) ∧ PySem.W.mroIn L.K (L.cad c) (.type "object") = some true
  sp : PySem.W.specialIn L.K (.builtin "object.__class__") "__get__" = some (some (.builtin "getset_descriptor.__get__"))
  tk : PySem.W.takesIn L.K (.builtin "object.__class__") = some true
  kit : ∀ c' cd' c cd, P.cls[c']? = some cd' → P.cls[c]? = some cd → PySem.W.kitOne L.K (.ref (L.cad c')) (.ref (L.cad c)) = some (isSub P c' c) ∧ (c' ≠ c → PySem.W.subIn L.K (.ref (L.cad c')) (.ref (L.cad c)) = some (isSub P c' c))
  kitB : ∀ c cd n, P.cls[c]? = some cd → n ∈ baseTys → PySem.W.kitOne L.K (.type n) (.ref (L.cad c)) = some false ∧ PySem.W.subIn L.K (.type n) (.ref (L.cad c)) = some false
  ne : ∀ c cd f, P.cls[c]? = some cd → cd.meths.lookup ("__eq__" : Str) = some f → PySem.W.findIn L.K (.ref (L.cad c)) "__ne__" = some (some (.builtin "object.__ne__"))
/-- a value's type: what HandS tells, or the dict of one's own -/
def TyM (X : Cx) (H : Hp) (v : V) (t : Value) : Prop := TyX X.K H v t ∨ ∃ a xs, v = .ref a ∧ H a = some (HD0 X.w a xs) ∧ t = .type "dict"
section
variable {X : Cx} {pins : List (Addr × Obj)} {σ : L2.St} {H : Hp} {s : Shared}
theorem kit_ofM {x : V} {u t : Value} (I : Inv X pins σ H s) (rx : RelV x u) (ty : TyM X H x t) : ∃ P : Heap → Prop, PySem.W.KitX X.K u t P ∧ P s.heap ∧ u ≠ .builtin "__main__.__loader__#opaque" := by
  rcases ty with ty | ⟨a, xs, rfl, e, rfl⟩
  · exact kit_of I rx ty
  · cases (show u = Value.ref a from rx)
    obtain ⟨o, _, _, g, q, _⟩ := raw_of I.hok e
    exact ⟨_, PySem.W.kitx_dict, ⟨o, g, q.1⟩, fun z => nomatch z⟩
/-- isinstance(x, C) -/
def rIsc (X : Cx) : List V → Hp → VK → Prop := fun xs H Q => ∃ x C t b, xs = [x, .ref C] ∧ TyM X H x t ∧ PySem.W.kitOne X.K t (.ref C) = some b ∧ Q (.bl b) H
theorem call_isc : CallR X (.builtin "isinstance") (rIsc X) := by
  intro pins s σ H xs us Q I r h
  obtain ⟨x, C, t, b, rfl, ty, e, q⟩ := h
  obtain ⟨u1, u2, rfl, r1, r2⟩ := r.two
  cases (show u2 = Value.ref C from r2)
  obtain ⟨P, Z, p, hx⟩ := kit_ofM I r1 ty
  exact PySem.W.kia_one Z I.kIn p e hx fun tk => ⟨.bl b, H, I.tok tk, rfl, q⟩
theorem typeM {x : V} {u t : Value} (I : Inv X pins σ H s) (rx : RelV x u) (ty : TyM X H x t) : PySem.W.Looks (model X.prog X.w) s.heap (typeOf u) t := by
  obtain ⟨P, Z, p, _⟩ := kit_ofM I rx ty
  exact Z.ty _ _ I.kIn p
end
section
variable {prog : Program} {w : World} {A A₀ : Around} {E : Value → Shared → Prop} {s : Shared} {K : PySem.W.Frag} {x C L f : Addr} {h₀ : Heap} {m : Str → Option Value} {ox : Obj} {od : Option Obj} {b tb : Value}
theorem ifBound_ne {M : Model} {args : List Value} {Q : Option Value → Shared → Prop} (X : K.In s.heap) (I : PySem.W.InstAt s.heap x ox C od) (hs : PySem.W.findIn K (.ref C) "__ne__" = some (some (.builtin "object.__ne__")))
    (h : wpAny M A (call (.builtin "object.__ne__") (.ref x :: args)) (fun v => Q (some v)) E s) : wpAny M A (callSpecialIfBound? (.ref x) "__ne__" args) Q E s := by
  simp only [callSpecialIfBound?, bindSpecialIfBound?]
  refine wpAny_holding (wpAny_bind (wpAny_bind (wpAny_bind (I.type.here ((PySem.W.looks_findIn X hs).here ?_)))))
  simp only [F.cmp_object.ne.bind]
  refine wpAny_bind (wpAny_askSetting (wpAny_ite ?_))
  have fin : wpAny M A (call (.builtin "object.__ne__") ([.ref x] ++ args) >>= fun v => pure (some v)) Q E s := wpAny_bind (wpAny_mono h (fun v s' h' => wpAny_pure h') fun _ _ h' => h')
  split
  · first | exact wpAny_bind (wpAny_pure (wpAny_pure (by exact fin))) | exact fin | exact wpAny_bind (wpAny_pure (by exact fin))
  · first | exact wpAny_tryCatch (wpAny_bind (wpAny_pure (wpAny_pure (by exact fin)))) | exact wpAny_tryCatch fin | exact wpAny_tryCatch (wpAny_bind (wpAny_pure (by exact fin)))
theorem ne_entry {Q : Fin → Shared → Prop} (hu : A.units < cLine) (X : K.In s.heap) (I : PySem.W.InstAt s.heap x ox C od) (hs : PySem.W.findIn K (.ref C) "__eq__" = some (some (.ref f))) (hf : PySem.W.isFn K (.ref f) = true)
    (hcall : wpAny (model prog w) A (call (.ref f) [.ref x, b]) (fun v s' => ∃ k, v = .bool k ∧ Q (.done (.ret (.bool (!k)))) s') E s) :
    wpAny (model prog w) A (Builtin.«object.__ne__» ⟨[.ref x, b], []⟩) Q E s := by
  unfold Builtin.«object.__ne__»
  repeat (first
    | with_reducible refine wpAny_cRoomFor hu ?_
    | (refine wpAny_bind (m := callSpecialIfBound? (.ref x) (Str.ofString "__eq__") [b])
        (PySem.W.ifBound_K X I hs hf (wpAny_mono hcall (fun r s' hr => by
          obtain ⟨b, rfl, hq⟩ := hr
          repeat (first | exact hq | exact wpAny_pure hq | exact wpAny_truthy_bool hq | (refine wpAny_bind (m := truthy (.bool _)) (wpAny_truthy_bool ?_)) | wp_step)) fun _ _ e => e)))
    | wp_step)
theorem cmp_ne {Q : Value → Shared → Prop} (hu : A.units + 1 < cLine) (F0 : PyProof.Rows.Fr h₀ L s.heap m) (X₀ : K.In h₀) (I : PySem.W.InstAt s.heap x ox C od) (hb : PySem.W.Looks (model prog w) s.heap (typeOf b) tb) (hn : PySem.W.notFirst K C tb = true)
    (hs : PySem.W.findIn K (.ref C) "__eq__" = some (some (.ref f))) (hf : PySem.W.isFn K (.ref f) = true) (hne : PySem.W.findIn K (.ref C) "__ne__" = some (some (.builtin "object.__ne__"))) (ho : PySem.W.mroIn K C (.type "object") = some true)
    (h : wpAny (model prog w) A.in1 (call (.ref f) [.ref x, b]) (fun v s' => ∃ k, v = .bool k ∧ Q (.bool (!k)) s') E s) : wpAny (model prog w) A (richCompare .NotEq (.ref x) b) Q E s := by
  have X := X₀.keeps F0.keep
  have sub : PySem.W.Looks (model prog w) s.heap (isInstance (.ref x) (.type "object")) true := I.type.andThen (PySem.W.looks_mroIn X ho)
  have one : wpAny (model prog w) A (tryCompare (.ref x) "__ne__" b) (fun r s' => ∃ v, r = some v ∧ Q v s') E s := by
    unfold tryCompare
    refine wpAny_bind (ifBound_ne X I hne (wpAny_call (codeAny_call_builtin F.cmp_object.ne.plain F.cmpEntry_ne
      (PySem.W.check_slot F.cmpKind_ne F.cmpSplit_ne sub (F.cmpArgs_ne _ _) (ne_entry (A := A.in1) hu X I hs hf (wpAny_mono h (fun v s' hv => ?_) fun _ _ e => e))))))
    obtain ⟨k, rfl, hq⟩ := hv
    exact ⟨k, rfl, wpAny_pure ⟨_, rfl, hq⟩⟩
  unfold richCompare
  simp only [oneThing_ref]
  refine wpAny_holding (wpAny_bind (wpAny_cRoomFor (Nat.lt_of_succ_lt hu) ?_))
  refine wpAny_bind (I.type.here (wpAny_bind (hb.here ?_)))
  split
  · rename_i q
    have e : PySem.W.subIn K tb (.ref C) = some false := by
      rcases Bool.or_eq_true_iff.mp hn with e | e
      · rw [beq_iff_eq.mp e] at q; simp at q
      · exact beq_iff_eq.mp e
    refine wpAny_bind ((PySem.W.looks_subIn X e).here ?_)
    simp only [Bool.false_eq_true, if_false]
    refine wpAny_bind (wpAny_mono one (fun r s' z => ?_) fun _ _ e => e)
    obtain ⟨v, rfl, hq⟩ := z
    exact wpAny_pure hq
  · refine wpAny_bind (wpAny_pure ?_)
    simp only [Bool.false_eq_true, if_false]
    refine wpAny_bind (wpAny_mono one (fun r s' z => ?_) fun _ _ e => e)
    obtain ⟨v, rfl, hq⟩ := z
    exact wpAny_pure hq
end
end Mini
/-! Mini: dicts, own ==, isinstance of own classes, range(a, b, -1), as its expressions say them. -/
set_option linter.all false
set_option maxRecDepth 100000
namespace Mini
open PySem PySem.Spec PyProof.Rows L2
section
variable {P : Prog} {L : Lay} {C : Call} {W : WX} {X : Cx} {ρ ρ' ρ1 ρ2 : List Addr} {H H' H1 H2 H0 : Hp} {σ : L2.St} {env : Env} {th th1 th2 : S} {o o' : Addr → Prop} {pos : Pos} {D : Ends}
section
variable {α : Type} {Φ : α → S → Prop} {ρ0 : List Addr} {H00 : Hp}
theorem dref_read {tv : TV} {v : V} {f : Nat → M α} (hR : R L ρ th H) (rv : RepV L H0 σ ρ o H tv v) (h : Pst L W ρ0 H00 σ Φ ((dref tv >>= f) th)) :
    ∃ n a ob, tv = .t (.ref n) ∧ v = .ref a ∧ ρ[n]? = some a ∧ th[n]? = some ob ∧ ((∃ fs, ob = .dk fs) ∨ ∃ fs, ob = .dt fs) ∧ Pst L W ρ0 H00 σ Φ (f n th) := by
  cases tv with
  | l xs => exact h.elim
  | s xs g => exact h.elim
  | t z =>
    cases z with
    | ref n =>
      simp only [RepV, Rep] at rv
      obtain ⟨a, rfl, ea⟩ := rv
      rw [bind_app] at h
      unfold dref at h
      cases e : th[n]? with
      | none => simp only [e] at h; exact h.elim
      | some ob =>
        cases ob with
        | ins c fs => simp only [e] at h; exact h.elim
        | lst fs => simp only [e] at h; exact h.elim
        | dk fs => simp only [e] at h; exact ⟨n, a, _, rfl, rfl, ea, e, .inl ⟨fs, rfl⟩, h⟩
        | dt fs => simp only [e] at h; exact ⟨n, a, _, rfl, rfl, ea, e, .inr ⟨fs, rfl⟩, h⟩
    | _ => exact h.elim
theorem key_read {tv : TV} {f : T → M α} (h : Pst L W ρ0 H00 σ Φ ((keyTv tv >>= f) th)) : ∃ x, tv = .t x ∧ Pst L W ρ0 H00 σ Φ (f x th) := by
  cases tv with
  | t x => exact ⟨x, rfl, h⟩
  | l xs => exact h.elim
  | s xs g => exact h.elim
theorem keyF_rep {x : T} {w : V} {k : L2.Key} (e : keyF x = some k) (r : Rep L ρ H x w) : w = kV k := by
  cases x <;> simp only [keyF, Option.some.injEq, reduceCtorEq] at e
  · subst e; simp only [Rep] at r; exact r
  · subst e; simp only [Rep] at r; exact r
/-- how a dict answers -/
def DLook (X : Cx) (L : Lay) (ρ : List Addr) (H : Hp) (a : Addr) (w : V) (r : Option T) : Prop :=
  (∃ ov, DGet H a w ov ∧ ((r = none ∧ ov = none) ∨ ∃ z v, r = some z ∧ ov = some v ∧ Rep L ρ H z v)) ∨ ∃ b fs xs x k, w = .ref b ∧ DAt X L ρ H a b fs xs x k ∧ r = atT fs k
theorem keyT_is {x : T} {k : NestedKey} (e : keyT x = some k) : ∃ xs, x = .tup xs ∧ keyN x = some k ∧ k.depth ≤ 8 := by
  cases x <;> simp only [keyT, reduceCtorEq] at e
  rename_i xs
  cases e1 : keyNs xs with
  | none => simp only [e1] at e; cases e
  | some ks =>
    simp only [e1] at e
    split at e
    · rename_i hd
      cases e
      exact ⟨xs, rfl, by simp only [keyN, e1], hd⟩
    · cases e
theorem dlook_read {n : Nat} {a : Addr} {x : T} {w : V} {f : Option T → M α} (hK : X.K = L.K) (hW : X.w = L.w) (hR : R L ρ th H) (ea : ρ[n]? = some a) (rx : Rep L ρ H x w)
    (h : Pst L W ρ0 H00 σ Φ ((dlook n x >>= f) th)) : ∃ r, DLook X L ρ H a w r ∧ Pst L W ρ0 H00 σ Φ (f r th) := by
  rw [bind_app] at h
  unfold dlook at h
  cases e : th[n]? with
  | none => simp only [e] at h; exact h.elim
  | some ob =>
    cases ob with
    | ins c fs => simp only [e] at h; exact h.elim
    | lst fs => simp only [e] at h; exact h.elim
    | dk fs =>
      simp only [e] at h
      cases ek : keyF x with
      | none => simp only [ek] at h; exact h.elim
      | some k =>
        simp only [ek] at h
        obtain ⟨gs, q1, q2⟩ := hR.obj n a _ ea e
        refine ⟨_, .inl ⟨valV gs k, ?_, ?_⟩, h⟩
        · rw [keyF_rep ek rx]; exact DGet.k q1
        · rcases FRep.at q2 k with ⟨p1, p2⟩ | ⟨z, v, p1, p2, p3⟩
          · exact .inl ⟨p1, p2⟩
          · exact .inr ⟨z, v, p1, p2, p3⟩
    | dt fs =>
      simp only [e] at h
      cases ek : keyT x with
      | none => simp only [ek] at h; exact h.elim
      | some k =>
        simp only [ek] at h
        obtain ⟨xs, q1, q2, q3⟩ := hR.obj n a _ ea e
        obtain ⟨ys, rfl, k1, k2⟩ := keyT_is ek
        have rx' := rx
        simp only [Rep] at rx'
        obtain ⟨b, vs, rfl, _, _⟩ := rx'
        exact ⟨_, .inr ⟨b, fs, xs, _, k, rfl, ⟨hK, by rw [hW]; exact q1, q2, q3, rx, k1, k2⟩, rfl⟩, h⟩
end
/-- behind a step a shared object stands where it stood -/
theorem at_ext {n : Nat} {a : Addr} (x : Ext ρ o H ρ1 o' H1) (ea : ρ[n]? = some a) : ρ1[n]? = some a := by
  obtain ⟨r, e⟩ := x.pre
  rw [e, List.getElem?_append_left (List.getElem?_eq_some_iff.mp ea).1]; exact ea
/-- d[k] -/
theorem sv_dix {oe ie : Expr} {co ci : E} (hK : X.K = L.K) (hW : X.w = L.w) (hu : X.A.units + 9 < cLine) (ho : PE X oe (SV P L C W co)) (hi : PE X ie (SV P L C W ci)) (hs : NoSl ie) : PE X (.Subscript oe ie pos) (SV P L C W (.dix co ci)) := by
  refine PE.imp (pe_mget hu ho hi hs) fun σ H Q ⟨ρ, th, env, hR, hE, h⟩ => ?_
  simp only [evalV] at h
  refine sv_step hR hE h fun ρ1 th1 H1 tv v x1 R1 E1 rv h1 => ?_
  obtain ⟨n, a, ob, rfl, rfl, ea, _, _, h2⟩ := dref_read R1 rv h1
  refine sv_step R1 E1 (h2.base x1) fun ρ2 th2 H2 tw w x2 R2 E2 rw' h3 => ?_
  obtain ⟨x, rfl, h4⟩ := key_read h3
  obtain ⟨r, q, h5⟩ := dlook_read hK hW R2 (at_ext x2 ea) rw' h4
  refine ⟨a, rfl, ?_⟩
  cases r with
  | none => exact h5.elim
  | some z =>
    rcases q with ⟨ov, g, ⟨q, _⟩ | ⟨z', v, q1, q2, q3⟩⟩ | ⟨b, fs, xs, kx, k, e1, d, e2⟩
    · cases q
    · cases q1
      exact .inl ⟨v, q2 ▸ g, fin_ok (tv := .t z) h5 (x1.trans x2) R2 q3⟩
    · exact .inr ⟨b, L, ρ2, fs, xs, kx, k, z, e1, d, e2.symm, fun v rr => fin_ok (tv := .t z) h5 (x1.trans x2) R2 rr⟩
/-- k in d, k not in d -/
def tMIn2 (neg : Bool) (X : Cx) (ty td : TE) : TE := fun σ H Q => ty σ H fun y H1 => td σ H1 fun x H2 => ∃ a, x = .ref a ∧ ((∃ ov, DGet H2 a y ov ∧ Q (.bl (if neg then !ov.isSome else ov.isSome)) H2) ∨
  ∃ b L ρ fs xs kx k, y = .ref b ∧ DAt X L ρ H2 a b fs xs kx k ∧ Q (.bl (if neg then !(atT fs k).isSome else (atT fs k).isSome)) H2)
theorem pc_mnotin {i oe : Expr} {td ty : TE} (hu : X.A.units + 9 < cLine) (hi : PE X i ty) (ho : PE X oe td) : PC X .NotIn i oe (tMIn2 true X ty td) := by
  refine ⟨fun pins s σ H Q I h => ?_⟩
  refine thn (hi.run pins s σ H _ I h) fun iv s1 ⟨y, H1, I1, ry, q1⟩ => thn (ho.run pins s1 σ H1 _ I1 q1) fun u s2 ⟨x, H2, I2, rx, a, ex, g⟩ => ?_
  subst ex
  cases (show u = Value.ref a from rx)
  rcases g with ⟨ov, g, q⟩ | ⟨b, L, ρ, fs, xs, kx, k, ey, d, q⟩
  · exact d_notIn (by omega) I2 g ry fun s3 I3 => ⟨.bl (!ov.isSome), H2, I3, rfl, q⟩
  · subst ey
    cases (show iv = Value.ref b from ry)
    refine wpAny_notIn_heap (room9 hu) (d.isKey I2) d.sm (d.dict I2) ?_
    have e : (atKey xs k).isSome = (atT fs k).isSome := by
      rcases DRep.at d.en.1 k with ⟨e1, e2⟩ | ⟨_, _, _, _, e1, e2, _⟩ <;> rw [e1, e2] <;> rfl
    rw [e]
    exact ⟨.bl (!(atT fs k).isSome), H2, I2.tok _, rfl, q⟩
theorem pc_min2 {i oe : Expr} {td ty : TE} (hu : X.A.units + 9 < cLine) (hi : PE X i ty) (ho : PE X oe td) (neg : Bool) : PC X (if neg then .NotIn else .In) i oe (tMIn2 neg X ty td) := by
  cases neg with
  | true => exact pc_mnotin hu hi ho
  | false => exact pc_min hu hi ho
theorem din_core {co ci : E} {neg : Bool} (hK : X.K = L.K) (hW : X.w = L.w) {Q : VK} (hR : R L ρ th H) (hE : EnvR L ρ H env σ) (h : Pst L W ρ H σ (KV L ρ H env σ Q) (evalV P C (.din neg ci co) env th)) :
    tMIn2 neg X (SV P L C W ci) (SV P L C W co) σ H Q := by
  simp only [evalV] at h
  refine sv_step hR hE h fun ρ1 th1 H1 tv v x1 R1 E1 rv h1 => ?_
  obtain ⟨x, rfl, h2⟩ := key_read h1
  refine sv_step R1 E1 (h2.base x1) fun ρ2 th2 H2 tw w x2 R2 E2 rw' h3 => ?_
  obtain ⟨n, a, ob, rfl, rfl, ea, _, _, h4⟩ := dref_read R2 rw' h3
  obtain ⟨r, q, h5⟩ := dlook_read hK hW R2 ea (R1.rep x2 OL.no rv) h4
  refine ⟨a, rfl, ?_⟩
  have fin : ∀ (k : Bool), k = r.isSome → Q (.bl (if neg then !k else k)) H2 := fun k e => fin_ok (tv := .t (.bl (if neg = true then !r.isSome else r.isSome))) h5 (x1.trans x2) R2 (by simp only [RepV, Rep]; rw [e])
  rcases q with ⟨ov, g, ⟨q1, q2⟩ | ⟨z', v, q1, q2, q3⟩⟩ | ⟨b, fs, xs, kx, k, e1, d, e2⟩
  · exact .inl ⟨ov, g, fin _ (by rw [q1, q2]; rfl)⟩
  · exact .inl ⟨ov, g, fin _ (by rw [q1, q2]; rfl)⟩
  · exact .inr ⟨b, L, ρ2, fs, xs, kx, k, e1, d, fin _ (by rw [e2])⟩
theorem sv_din {oe ie : Expr} {co ci : E} {neg : Bool} (hK : X.K = L.K) (hW : X.w = L.w) (hu : X.A.units + 9 < cLine) (hi : PE X ie (SV P L C W ci)) (ho : PE X oe (SV P L C W co)) (hm : behindInMarks (if neg then .NotIn else .In) oe = false) :
    PE X (.Compare ie [if neg then .NotIn else .In] [oe] pos) (SV P L C W (.din neg ci co)) :=
  PE.imp (pe_cmp (pc_min2 hu hi ho neg) hm) fun σ H Q ⟨ρ, th, env, hR, hE, h⟩ => din_core hK hW hR hE h
theorem evT_bl {c : E} (hb : ∀ s tv s', evalV P C c env s = .ok tv s' → ∃ b, tv = .t (.bl b)) {Q : Bool → Hp → Prop} (h : Pst L W ρ H σ (fun (b : Bool) th' => ∀ ρ' H', Ex0 ρ H ρ' H' → R L ρ' th' H' → Q b H') (evT P C c env th)) :
    Pst L W ρ H σ (KV L ρ H env σ fun v H' => ∃ k, v = .bl k ∧ Q k H') (evalV P C c env th) := by
  have h : Pst L W ρ H σ _ ((evalV P C c env >>= truth) th) := h
  rw [bind_app] at h
  cases e : evalV P C c env th with
  | bad => rw [e] at h; exact h
  | exc x s => rw [e] at h; exact h
  | ok tv s =>
    rw [e] at h
    obtain ⟨b, rfl⟩ := hb _ _ _ e
    refine fun ρ' v H' x r rv => ⟨b, by simp only [RepV, Rep] at rv; exact rv, ?_⟩
    have h : Pst L W ρ H σ (fun (b : Bool) th' => ∀ ρ' H', Ex0 ρ H ρ' H' → R L ρ' th' H' → Q b H') (.ok b s) := h
    exact h ρ' H' x r
theorem bind_ok {α β : Type} {m : M α} {f : α → M β} {s s' : S} {b : β} (e : (m >>= f) s = .ok b s') : ∃ a s1, m s = .ok a s1 ∧ f a s1 = .ok b s' := by
  rw [bind_app] at e
  cases h : m s with
  | ok a s1 => rw [h] at e; exact ⟨a, s1, rfl, e⟩
  | exc x s1 => rw [h] at e; cases e
  | bad => rw [h] at e; cases e
theorem din_bl {neg : Bool} {ci co : E} {s s' : S} {tv : TV} (e : evalV P C (.din neg ci co) env s = .ok tv s') : ∃ b, tv = .t (.bl b) := by
  simp only [evalV] at e
  obtain ⟨_, _, _, e⟩ := bind_ok e
  obtain ⟨_, _, _, e⟩ := bind_ok e
  obtain ⟨_, _, _, e⟩ := bind_ok e
  obtain ⟨_, _, _, e⟩ := bind_ok e
  obtain ⟨_, _, _, e⟩ := bind_ok e
  cases e
  exact ⟨_, rfl⟩
theorem st_din {oe ie : Expr} {co ci : E} {neg : Bool} (hK : X.K = L.K) (hW : X.w = L.w) (hu : X.A.units + 9 < cLine) (hi : PE X ie (SV P L C W ci)) (ho : PE X oe (SV P L C W co)) (hm : behindInMarks (if neg then .NotIn else .In) oe = false) :
    PT X (.Compare ie [if neg then .NotIn else .In] [oe] pos) (ST P L C W (.din neg ci co)) :=
  PT.imp (pt_cmp (pc_min2 hu hi ho neg) hm) fun σ H Q ⟨ρ, th, env, hR, hE, h⟩ => din_core (Q := fun v H' => ∃ k, v = .bl k ∧ Q k H') hK hW hR hE (evT_bl (fun _ _ _ e => din_bl e) h)
/-- `{}` -/
theorem R.newObj {ob : O} {a : Addr} (r : R L ρ th H) (ha : a ∉ ρ) (q : ORep L (ρ ++ [a]) H a ob) : R L (ρ ++ [a]) (th ++ [ob]) H := by
  refine ⟨by rw [List.length_append, List.length_append, r.len]; rfl, nodup_snoc r.nd ha, fun i b ob' h1 h2 => ?_⟩
  by_cases hi : i < ρ.length
  · rw [List.getElem?_append_left hi] at h1
    rw [List.getElem?_append_left (by rw [← r.len]; exact hi)] at h2
    have q := r.obj i b ob' h1 h2
    cases ob' with
    | lst ys =>
      obtain ⟨ws, e1, q⟩ := q
      exact ⟨ws, e1, RepAll.mono (fun _ _ h => h) _ _ q⟩
    | ins c fs =>
      obtain ⟨dx, gs, e1, q⟩ := q
      exact ⟨dx, gs, e1, FRep.mono (fun _ _ h => h) q⟩
    | dk fs =>
      obtain ⟨gs, e1, q⟩ := q
      exact ⟨gs, e1, FRep.mono (fun _ _ h => h) q⟩
    | dt fs =>
      obtain ⟨gs, e1, e2, q⟩ := q
      exact ⟨gs, e1, e2, DRep.mono (fun _ _ h => h) q⟩
  · have hl : i = ρ.length := by
      have := (List.getElem?_eq_some_iff.mp h1).1
      rw [List.length_append] at this
      simp only [List.length_cons, List.length_nil] at this
      omega
    subst hl
    rw [List.getElem?_append_right (Nat.le_refl _)] at h1
    rw [r.len, List.getElem?_append_right (Nat.le_refl _)] at h2
    simp only [Nat.sub_self, List.getElem?_cons_zero, Option.some.injEq] at h1 h2
    subst h1 h2
    exact q
theorem sv_dnewK : PE X (.Dict [] [] pos) (SV P L C W (.dnew false)) := by
  refine PE.imp pe_dnewK fun σ H Q ⟨ρ, th, env, hR, hE, h⟩ => fun p hp => ?_
  simp only [evalV] at h
  have h : Pst L W ρ H σ (KV L ρ H env σ Q) (.ok (.t (.ref th.length)) (th ++ [.dk []])) := h
  have R1 := (hR.new1 (w := .dK []) hp).newObj (ob := .dk []) (hR.notin hp) ⟨[], upd_same, .nil⟩
  exact fin_ok h ((Ext.new1 hp).share hp) R1 (by simp only [RepV, Rep]; exact ⟨p, rfl, by rw [← hR.len]; exact getElem?_len _ _⟩)
theorem sv_dnewT (hW : X.w = L.w) : PE X (.Dict [] [] pos) (SV P L C W (.dnew true)) := by
  refine PE.imp (pe_mnew (X := X)) fun σ H Q ⟨ρ, th, env, hR, hE, h⟩ => fun p hp hm => ?_
  simp only [evalV] at h
  have h : Pst L W ρ H σ (KV L ρ H env σ Q) (.ok (.t (.ref th.length)) (th ++ [.dt []])) := h
  have R1 := (hR.new1 (w := HD0 X.w p []) hp).newObj (ob := .dt []) (hR.notin hp) ⟨[], by rw [hW]; exact upd_same, hm, .nil, by simp, Nat.zero_le _⟩
  exact fin_ok h ((Ext.new1 hp).share hp) R1 (by simp only [RepV, Rep]; exact ⟨p, rfl, by rw [← hR.len]; exact getElem?_len _ _⟩)
/-- d[k] = v, as a step -/
theorem dput_read {α : Type} {Φ : α → S → Prop} {ρ0 : List Addr} {H00 : Hp} {n : Nat} {a : Addr} {x y : T} {w v : V} {f : Unit → M α} (hK : X.K = L.K) (hW : X.w = L.w) (hR : R L ρ th H) (ea : ρ[n]? = some a) (rx : Rep L ρ H x w) (ry : Rep L ρ H y v)
    (h : Pst L W ρ0 H00 σ Φ ((dput n x y >>= f) th)) : ∃ th', Pst L W ρ0 H00 σ Φ (f () th') ∧ ((∃ H', DPut H a w v H' ∧ Ex0 ρ H ρ H' ∧ R L ρ th' H') ∨
      ∃ b fs xs k, w = .ref b ∧ DAt X L ρ H a b fs xs x k ∧ xs.length < sizeLine ∧ ∀ xs', DRep L ρ H (putT fs x k y) xs' → Ex0 ρ H ρ (upd H a (HD0 X.w a xs')) ∧ R L ρ th' (upd H a (HD0 X.w a xs'))) := by
  rw [bind_app] at h
  unfold dput at h
  cases e : th[n]? with
  | none => simp only [e] at h; exact h.elim
  | some ob =>
    cases ob with
    | ins c fs => simp only [e] at h; exact h.elim
    | lst fs => simp only [e] at h; exact h.elim
    | dk fs =>
      simp only [e] at h
      cases ek : keyF x with
      | none => simp only [ek] at h; exact h.elim
      | some k =>
        simp only [ek] at h
        by_cases hl : fs.length < sizeLine
        · rw [if_pos hl] at h
          obtain ⟨gs, q1, q2⟩ := hR.obj n a _ ea e
          have hg : gs.length < sizeLine := by rw [← q2.length]; exact hl
          have xw : Ex0 ρ H ρ (upd H a (.dK (putK gs k v))) := Ext.write ea
          refine ⟨_, h, .inl ⟨_, by rw [keyF_rep ek rx]; exact DPut.k q1 hg, xw, hR.write ea ⟨_, upd_same, ?_⟩⟩⟩
          exact hR.frep xw OL.no (q2.putG ry k)
        · rw [if_neg hl] at h; exact h.elim
    | dt fs =>
      simp only [e] at h
      cases ek : keyT x with
      | none => simp only [ek] at h; exact h.elim
      | some k =>
        simp only [ek] at h
        by_cases hl : fs.length < sizeLine
        · rw [if_pos hl] at h
          obtain ⟨xs, q1, q2, q3⟩ := hR.obj n a _ ea e
          obtain ⟨ys, rfl, k1, k2⟩ := keyT_is ek
          have rx' := rx
          simp only [Rep] at rx'
          obtain ⟨b, vs, rfl, _, _⟩ := rx'
          have hg : xs.length < sizeLine := by rw [← Paired.length q3.1]; exact hl
          refine ⟨_, h, .inr ⟨b, fs, xs, k, rfl, ⟨hK, by rw [hW]; exact q1, q2, q3, rx, k1, k2⟩, hg, fun xs' d => ?_⟩⟩
          have xw : Ex0 ρ H ρ (upd H a (HD0 X.w a xs')) := Ext.write ea
          exact ⟨xw, hR.write ea ⟨xs', by rw [hW]; exact upd_same, q2, hR.drep xw OL.no d⟩⟩
        · rw [if_neg hl] at h; exact h.elim
/-- {k: v} -/
theorem sv_dsing {ke ve : Expr} {ck cv : E} (hk : PE X ke (SV P L C W ck)) (hv : PE X ve (SV P L C W cv)) : PE X (.Dict [some ke] [ve] pos) (SV P L C W (.dsing ck cv)) := by
  refine PE.imp (pe_disp (pps_cons hk hv pps_nil) rfl rfl (by simp) (Nat.succ_le_succ (Nat.zero_le _))) fun σ H Q ⟨ρ, th, env, hR, hE, h⟩ => fun p hp => ?_
  simp only [evalV] at h
  have hl : (th ++ [O.dk []])[th.length]? = some (.dk []) := by rw [List.getElem?_append_right (Nat.le_refl _)]; simp
  have h : Pst L W ρ H σ (KV L ρ H env σ Q) ((evalV P C ck env >>= fun x => keyTv x >>= fun x => evalV P C cv env >>= fun y => mat y >>= fun y => dput0 th.length x y >>= fun _ => pure (.t (.ref th.length))) (th ++ [.dk []])) := by
    have e : (dref (.t (.ref th.length)) : M Nat) (th ++ [.dk []]) = .ok th.length (th ++ [.dk []]) := by unfold dref; simp only [hl]
    have h : Pst L W ρ H σ (KV L ρ H env σ Q) ((dref (.t (.ref th.length)) >>= fun n => evalV P C ck env >>= fun x => keyTv x >>= fun x => evalV P C cv env >>= fun y => mat y >>= fun y => dput0 n x y >>= fun _ => pure (.t (.ref th.length))) (th ++ [.dk []])) := h
    rw [bind_app, e] at h
    exact h
  have x0 : Ex0 ρ H (ρ ++ [p]) (upd H p (.dK [])) := (Ext.new1 hp).share hp
  have R0 := (hR.new1 (w := .dK []) hp).newObj (ob := .dk []) (hR.notin hp) ⟨[], upd_same, .nil⟩
  have E0 := hE.ext hR x0
  have ep : (ρ ++ [p])[th.length]? = some p := by rw [← hR.len]; exact getElem?_len _ _
  show SV P L C W ck σ (upd H p (.dK [])) _
  refine sv_step R0 E0 (h.base x0) fun ρ1 th1 H1 tv v x1 R1 E1 rv h1 => ?_
  obtain ⟨x, rfl, h2⟩ := key_read h1
  refine sv_step R1 E1 (h2.base x1) fun ρ2 th2 H2 tw w x2 R2 E2 rw' h3 => ?_
  refine mat_step R2 x2 rw' h3 fun ρ3 th3 y x3 R3 ry _ h4 => ?_
  have x13 := x1.trans x3
  have ep3 := at_ext x13 ep
  rw [bind_app] at h4
  unfold dput0 at h4
  cases e : th3[th.length]? with
  | none => simp only [e] at h4; exact h4.elim
  | some ob =>
    cases ob with
    | ins c fs => simp only [e] at h4; exact h4.elim
    | lst fs => simp only [e] at h4; exact h4.elim
    | dt fs => simp only [e] at h4; exact h4.elim
    | dk fs =>
      cases fs with
      | cons _ _ => simp only [e] at h4; exact h4.elim
      | nil =>
        cases ek : keyF x with
        | none => simp only [e, ek] at h4; exact h4.elim
        | some k =>
          simp only [e, ek] at h4
          obtain ⟨gs, q1, q2⟩ := R3.obj _ p _ ep3 e
          cases q2
          have hv1 := keyF_rep ek (R1.rep x3 OL.no rv)
          subst hv1
          refine ⟨q1, [(k, w)], rfl, Nat.succ_le_succ (Nat.zero_le _), ?_⟩
          have xw : Ex0 ρ3 H2 ρ3 (upd H2 p (.dK (mergeK [] [(k, w)]))) := Ext.write ep3
          have R5 := R3.write (ob := .dk [(k, y)]) (w := .dK (mergeK [] [(k, w)])) ep3 ⟨_, upd_same, .cons ⟨rfl, R3.rep xw OL.no ry⟩ .nil⟩
          exact fin_ok (tv := .t (.ref th.length)) (h4.base (Ext.refl)) ((x0.trans x13).trans xw) R5 (by simp only [RepV, Rep]; exact ⟨p, rfl, ep3⟩)
/-- d.get(k) -/
theorem isN_of {n : Nat} {a : Addr} {ob : O} (hW : X.w = L.w) (hR : R L ρ th H) (ea : ρ[n]? = some a) (e : th[n]? = some ob) (hd : (∃ fs, ob = .dk fs) ∨ ∃ fs, ob = .dt fs) : IsN X H a := by
  have q := hR.obj n a _ ea e
  rcases hd with ⟨fs, rfl⟩ | ⟨fs, rfl⟩
  · obtain ⟨gs, q1, _⟩ := q
    exact .inl (.inl ⟨_, .inl q1⟩)
  · obtain ⟨xs, q1, _⟩ := q
    exact .inr ⟨xs, by rw [hW]; exact q1⟩
theorem DLook.get {a : Addr} {w v : V} {r : Option T} {z : T} {Q : VK} (d : DLook X L ρ H a w r) (rz : Rep L ρ H z v) (q : ∀ v', Rep L ρ H (r.getD z) v' → Q v' H) :
    (∃ ov, DGet H a w ov ∧ Q (ov.getD v) H) ∨ ∃ b fs xs kx k, w = .ref b ∧ DAt X L ρ H a b fs xs kx k ∧ ∀ v', Rep L ρ H ((atT fs k).getD z) v' → Q v' H := by
  rcases d with ⟨ov, g, ⟨q1, q2⟩ | ⟨z', v', q1, q2, q3⟩⟩ | ⟨b, fs, xs, kx, k, e1, d, e2⟩
  · subst q1 q2
    exact .inl ⟨none, g, q v rz⟩
  · subst q1 q2
    exact .inl ⟨_, g, q v' q3⟩
  · subst e2
    exact .inr ⟨b, fs, xs, kx, k, e1, d, q⟩
theorem sv_dget1 {oe ie : Expr} {co ci : E} {ap cp : Pos} (hK : X.K = L.K) (hW : X.w = L.w) (hu : X.A.units + 9 < cLine) (ho : PE X oe (SV P L C W co)) (hi : PE X ie (SV P L C W ci)) (m : M1 X oe "get" ap ie cp) : PE X (.Call (.Attribute oe "get" ap) [ie] [] cp) (SV P L C W (.dget1 co ci)) := by
  refine PE.imp (pe_mget1 hu ho hi m) fun σ H Q ⟨ρ, th, env, hR, hE, h⟩ => ?_
  simp only [evalV] at h
  refine sv_step hR hE h fun ρ1 th1 H1 tv v x1 R1 E1 rv h1 => ?_
  obtain ⟨n, a, ob, rfl, rfl, ea, eo, hd, h2⟩ := dref_read R1 rv h1
  refine ⟨a, rfl, isN_of hW R1 ea eo hd, ?_⟩
  refine sv_step R1 E1 (h2.base x1) fun ρ2 th2 H2 tw w x2 R2 E2 rw' h3 => ?_
  obtain ⟨x, rfl, h4⟩ := key_read h3
  obtain ⟨r, q, h5⟩ := dlook_read hK hW R2 (at_ext x2 ea) rw' h4
  rcases q.get (z := .non) (v := .non) (Q := Q) (by simp only [Rep]) fun v' rr => fin_ok (tv := .t (r.getD .non)) h5 (x1.trans x2) R2 rr with g | ⟨b, fs, xs, kx, k, e1, d, q⟩
  · exact .inl g
  · exact .inr ⟨b, L, ρ2, fs, xs, kx, k, e1, d, q⟩
theorem sv_dget2 {oe ie fe : Expr} {co ci cf : E} {ap cp : Pos} (hK : X.K = L.K) (hW : X.w = L.w) (hu : X.A.units + 9 < cLine) (ho : PE X oe (SV P L C W co)) (hi : PE X ie (SV P L C W ci)) (hf : PE X fe (SV P L C W cf)) (m : M2 X oe "get" ap ie fe cp) : PE X (.Call (.Attribute oe "get" ap) [ie, fe] [] cp) (SV P L C W (.dget2 co ci cf)) := by
  refine PE.imp (pe_mget2 hu ho hi hf m) fun σ H Q ⟨ρ, th, env, hR, hE, h⟩ => ?_
  simp only [evalV] at h
  refine sv_step hR hE h fun ρ1 th1 H1 tv v x1 R1 E1 rv h1 => ?_
  obtain ⟨n, a, ob, rfl, rfl, ea, eo, hd, h2⟩ := dref_read R1 rv h1
  refine ⟨a, rfl, isN_of hW R1 ea eo hd, ?_⟩
  refine sv_step R1 E1 (h2.base x1) fun ρ2 th2 H2 tw w x2 R2 E2 rw' h3 => ?_
  obtain ⟨x, rfl, h4⟩ := key_read h3
  refine sv_step R2 E2 (h4.base x2) fun ρ3 th3 H3 tu u x3 R3 E3 ru h5 => ?_
  refine mat_step R3 x3 ru h5 fun ρ4 th4 y x4 R4 ry _ h6 => ?_
  obtain ⟨r, q, h7⟩ := dlook_read hK hW R4 (at_ext (x2.trans x4) ea) (R2.rep x4 OL.no rw') h6
  have x14 := (x1.trans x2).trans x4
  rcases q.get (Q := Q) ry fun v' rr => fin_ok (tv := .t (r.getD y)) h7 x14 R4 rr with g | ⟨b, fs, xs, kx, k, e1, d, q⟩
  · exact .inl g
  · exact .inr ⟨b, L, ρ4, fs, xs, kx, k, y, e1, d, ry, q⟩
end
end Mini
/-! Mini: more of the same. -/
set_option linter.all false
set_option maxRecDepth 100000
namespace Mini
open PySem PySem.Spec PyProof.Rows L2
section
variable {P : Prog} {L : Lay} {C : Call} {W : WX} {X : Cx} {ρ ρ' ρ1 ρ2 : List Addr} {H H' H1 H2 H0 : Hp} {σ : L2.St} {env env1 : Env} {th th1 th2 : S} {o o' : Addr → Prop} {pos : Pos} {D : Ends}
/-- d.setdefault(k, x), both kinds -/
def tMSetd2 (X : Cx) (td ty tx : TE) : TE := fun σ H Q => td σ H fun x H1 => ∃ a, x = .ref a ∧ IsN X H1 a ∧ ty σ H1 fun y H2 => tx σ H2 fun z H3 =>
  (∃ kvs k, H3 a = some (.dK kvs) ∧ y = kV k ∧ kvs.length < sizeLine ∧ (∀ v, valV kvs k = some v → Q v H3) ∧ (valV kvs k = none → Q z (upd H3 a (.dK (putK kvs k z))))) ∨
  ∃ b L ρ fs xs kx k zt, y = .ref b ∧ DAt X L ρ H3 a b fs xs kx k ∧ xs.length < sizeLine ∧ Rep L ρ H3 zt z ∧
    (∀ w v, atT fs k = some w → Rep L ρ H3 w v → Q v H3) ∧ (atT fs k = none → ∀ xs', DRep L ρ H3 (putT fs kx k zt) xs' → Q z (upd H3 a (HD0 X.w a xs')))
theorem pe_msetd2 {oe e f : Expr} {td ty tx : TE} {apos cpos : Pos} (hu : X.A.units + 9 < cLine) (ho : PE X oe td) (he : PE X e ty) (hf : PE X f tx) (m : M2 X oe "setdefault" apos e f cpos) : PE X (.Call (.Attribute oe "setdefault" apos) [e, f] [] cpos) (tMSetd2 X td ty tx) := by
  refine ⟨fun pins s σ H Q I h => ?_⟩
  refine wpAny_Call_method m.base m.few m.line PySem.F.plainAttrs_dict PySem.F.slot_dict_setdefault PySem.F.type_dict_setdefault
    (thn (ho.run pins s σ H _ I h) fun u s1 ⟨x, H1, I1, rx, a, ex, d, q1⟩ => ?_)
  subst ex
  cases (show u = Value.ref a from rx)
  obtain ⟨t1, t2⟩ := isN_at I1 d
  refine ⟨t1, t2, ?_⟩
  rw [m.trees]
  refine Calls.callWith_builtin rfl (Calls.evalArgs_plain (Calls.spliced_cons (thn (he.run pins s1 σ H1 _ I1 q1) fun iv s2 ⟨y, H2, I2, ry, q2⟩ => Calls.spliced_cons
    (thn (hf.run pins s2 σ H2 _ I2 q2) fun fv s3 ⟨z, H3, I3, rz, g⟩ => Calls.spliced_nil ?_))))
  rcases g with ⟨kvs, k, ea, ey, hl, q3, q4⟩ | ⟨b, L, ρ, fs, xs, kx, k, zt, ey, dd, hl, rr, q3, q4⟩
  · subst ey
    exact L2.d_setd I3 ea ry rz hl (fun v hv w' s4 I4 rw' => ⟨v, _, I4, rw', q3 v hv⟩) fun hn w' s4 I4 rw' => ⟨z, _, I4, rw', q4 hn⟩
  · subst ey
    cases (show iv = Value.ref b from ry)
    exact dn_setd hu I3 dd hl rz rr (fun w v u s4 hw I4 rv rr' => ⟨v, H3, I4, rv, q3 w v hw rr'⟩) fun s4 hn I4 dr => ⟨z, _, I4, rz, q4 hn _ dr⟩
theorem sv_dsetd {oe ie fe : Expr} {co ci cf : E} {ap cp : Pos} (hK : X.K = L.K) (hW : X.w = L.w) (hu : X.A.units + 9 < cLine) (ho : PE X oe (SV P L C W co)) (hi : PE X ie (SV P L C W ci)) (hf : PE X fe (SV P L C W cf)) (m : M2 X oe "setdefault" ap ie fe cp) :
    PE X (.Call (.Attribute oe "setdefault" ap) [ie, fe] [] cp) (SV P L C W (.dsetd co ci cf)) := by
  refine PE.imp (pe_msetd2 hu ho hi hf m) fun σ H Q ⟨ρ, th, env, hR, hE, h⟩ => ?_
  simp only [evalV] at h
  refine sv_step hR hE h fun ρ1 th1 H1 tv v x1 R1 E1 rv h1 => ?_
  obtain ⟨n, a, ob, rfl, rfl, ea, eo, hd, h2⟩ := dref_read R1 rv h1
  refine ⟨a, rfl, isN_of hW R1 ea eo hd, ?_⟩
  refine sv_step R1 E1 (h2.base x1) fun ρ2 th2 H2 tw w x2 R2 E2 rw' h3 => ?_
  obtain ⟨x, rfl, h4⟩ := key_read h3
  refine sv_step R2 E2 (h4.base x2) fun ρ3 th3 H3 tu u x3 R3 E3 ru h5 => ?_
  refine mat_step R3 x3 ru h5 fun ρ4 th4 y x4 R4 ry _ h6 => ?_
  have ea4 := at_ext (x2.trans x4) ea
  have x14 := (x1.trans x2).trans x4
  have rx4 := R2.rep x4 OL.no rw'
  unfold dsetV at h6
  cases e : th4[n]? with
  | none => simp only [e] at h6; exact h6.elim
  | some ob4 =>
    cases ob4 with
    | ins c fs => simp only [e] at h6; exact h6.elim
    | lst fs => simp only [e] at h6; exact h6.elim
    | dk fs =>
      simp only [e] at h6
      cases ek : keyF x with
      | none => simp only [ek] at h6; exact h6.elim
      | some k =>
        simp only [ek] at h6
        by_cases hl : fs.length < sizeLine
        · rw [if_pos hl] at h6
          obtain ⟨gs, q1, q2⟩ := R4.obj n a _ ea4 e
          have e3 := keyF_rep ek rx4
          subst e3
          refine .inl ⟨gs, k, q1, rfl, by rw [← q2.length]; exact hl, fun v hv => ?_, fun hn => ?_⟩
          · rcases FRep.at q2 k with ⟨p1, p2⟩ | ⟨z, v', p1, p2, p3⟩
            · rw [hv] at p2; cases p2
            · rw [hv] at p2; cases p2
              simp only [p1] at h6
              exact fin_ok (tv := .t z) h6 x14 R4 p3
          · rcases FRep.at q2 k with ⟨p1, p2⟩ | ⟨z, v', p1, p2, p3⟩
            · simp only [p1] at h6
              have xw : Ex0 ρ4 H3 ρ4 (upd H3 a (.dK (putK gs k u))) := Ext.write ea4
              exact fin_ok (tv := .t y) h6 (x14.trans xw) (R4.write ea4 ⟨_, upd_same, R4.frep xw OL.no (q2.putG ry k)⟩) (R4.rep xw OL.no ry)
            · rw [hn] at p2; cases p2
        · rw [if_neg hl] at h6; exact h6.elim
    | dt fs =>
      simp only [e] at h6
      cases ek : keyT x with
      | none => simp only [ek] at h6; exact h6.elim
      | some k =>
        simp only [ek] at h6
        by_cases hl : fs.length < sizeLine
        · rw [if_pos hl] at h6
          obtain ⟨xs, q1, q2, q3⟩ := R4.obj n a _ ea4 e
          obtain ⟨ys, rfl, k1, k2⟩ := keyT_is ek
          have rx' := rx4
          simp only [Rep] at rx'
          obtain ⟨b, vs, rfl, _, _⟩ := rx'
          refine .inr ⟨b, L, ρ4, fs, xs, _, k, y, rfl, ⟨hK, by rw [hW]; exact q1, q2, q3, rx4, k1, k2⟩, by rw [← Paired.length q3.1]; exact hl, ry, fun z v hz rr => ?_, fun hn xs' dr => ?_⟩
          · simp only [hz] at h6
            exact fin_ok (tv := .t z) h6 x14 R4 rr
          · simp only [hn] at h6
            have xw : Ex0 ρ4 H3 ρ4 (upd H3 a (HD0 X.w a xs')) := Ext.write ea4
            exact fin_ok (tv := .t y) h6 (x14.trans xw) (R4.write ea4 ⟨xs', by rw [hW]; exact upd_same, q2, R4.drep xw OL.no dr⟩) (R4.rep xw OL.no ry)
        · rw [if_neg hl] at h6; exact h6.elim
/-! ### len(d), sorted(d) -/
def rDLen (X : Cx) : List V → Hp → VK → Prop := fun xs H Q => ∃ a, xs = [.ref a] ∧ ((∃ kvs, H a = some (.dK kvs) ∧ Q (.int kvs.length) H) ∨ ∃ (L : Lay) (ρ : List Addr) (fs : List (T × T)) (ds : DX), X.K = L.K ∧ H a = some (HD0 X.w a ds) ∧ (a == sysModules) = false ∧ DRep L ρ H fs ds ∧ Q (.int ds.length) H)
theorem call_dlen : CallR X (.builtin "len") (rDLen X) := by
  intro pins s σ H xs us Q I r h
  obtain ⟨a, rfl, g⟩ := h
  obtain ⟨u, rfl, rx⟩ := r.one
  cases (show u = Value.ref a from rx)
  rcases g with ⟨kvs, e, q⟩ | ⟨L, ρ, fs, ds, fr, e, hm, d, q⟩
  · exact d_len I (.inl e) fun t s' I' => ⟨.int kvs.length, H, I', ⟨t, rfl⟩, q⟩
  · have dd := dict_of I.hok (fr ▸ I.kIn) e d
    have hs : ds.length ≤ sizeLine := d.2.2
    refine PyProof.Rows.call_len_slot (n := ds.length) dd.typeIs PySem.F.slot_dict_len (fun Q' hq => ?_) (by omega) (by rw [sizeLine_eq] at hs; omega) ⟨.int ds.length, H, I.tok _, ⟨_, rfl⟩, q⟩
    obtain ⟨o, es, ep, g, q1, q2, q3⟩ := raw_of I.hok e
    refine call_len_raw hm (show s.heap.DictRaw a es ep from ⟨o, g, q1, q2⟩) ?_
    have e2 : es.size = ds.length := by rw [← Array.length_toList, q3, List.length_map]
    rw [e2]
    exact hq
theorem intKeys_map : ∀ {fs : List (L2.Key × T)} {ks : List Int}, intKeys fs = some ks → fs.map (·.1) = ks.map Sum.inl
  | [], ks, e => by simp only [intKeys, Option.some.injEq] at e; subst e; rfl
  | (.inr x, y) :: r, ks, e => by simp only [intKeys, reduceCtorEq] at e
  | (.inl i, y) :: r, ks, e => by
    simp only [intKeys] at e
    cases e1 : intKeys r with
    | none => rw [e1] at e; cases e
    | some l =>
      rw [e1] at e
      cases e
      rw [List.map_cons, intKeys_map e1]
      rfl
theorem FRep.keys {κ : Type} {fs : List (κ × T)} {gs : List (κ × V)} (h : FRep L ρ H fs gs) : fs.map (·.1) = gs.map (·.1) := by
  induction h with
  | nil => rfl
  | @cons p q ps qs hq _ ih => rw [List.map_cons, List.map_cons, ih, hq.1]
theorem sv_dlen {oe : Expr} {co : E} {p : Pos} (hK : X.K = L.K) (hW : X.w = L.w) (hg : Gl X "len") (hm : X.mg "len" = none) (ho : PE X oe (SV P L C W co)) (hs : starEach [oe] X.env = (false, eval oe X.env) :: starEach [] X.env) :
    PE X (.Call (.Name "len" p) [oe] [] pos) (SV P L C W (.dlen co)) := by
  refine PE.imp (pe_callB (p := p) (pos := pos) (call_dlen (X := X)) hg hm (by rfl) (pa_cons ho pa_nil hs) (by decide) (by decide) hs rfl) fun σ H Q ⟨ρ, th, env, hR, hE, h⟩ => ?_
  simp only [evalV] at h
  refine sv_step hR hE h fun ρ1 th1 H1 tv v x1 R1 E1 rv h1 => ?_
  obtain ⟨n, a, ob, rfl, rfl, ea, eo, hd, h2⟩ := dref_read R1 rv h1
  refine ⟨a, rfl, ?_⟩
  have q := R1.obj n a _ ea eo
  rw [bind_app] at h2
  unfold dsize at h2
  rcases hd with ⟨fs, rfl⟩ | ⟨fs, rfl⟩
  · simp only [eo] at h2
    obtain ⟨gs, q1, q2⟩ := q
    exact .inl ⟨gs, q1, fin_ok (tv := .t (.int fs.length)) h2 x1 R1 (by simp only [RepV, Rep]; rw [q2.length])⟩
  · simp only [eo] at h2
    obtain ⟨xs, q1, q2, q3⟩ := q
    exact .inr ⟨L, ρ1, fs, xs, hK, by rw [hW]; exact q1, q2, q3, fin_ok (tv := .t (.int fs.length)) h2 x1 R1 (by simp only [RepV, Rep]; rw [Paired.length q3.1])⟩
theorem sv_dsort {oe : Expr} {co : E} {p : Pos} (hK : X.K = L.K) (hc : X.calm = true) (hg : Gl X "sorted") (hm : X.mg "sorted" = none) (ho : PE X oe (SV P L C W co)) (hs : starEach [oe] X.env = (false, eval oe X.env) :: starEach [] X.env) :
    PE X (.Call (.Name "sorted" p) [oe] [] pos) (SV P L C W (.dsort co)) := by
  refine PE.imp (pe_callB (p := p) (pos := pos) (call_sortedDI (X := X) hc) hg hm (by rfl) (pa_cons ho pa_nil hs) (by decide) (by decide) hs rfl) fun σ H Q ⟨ρ, th, env, hR, hE, h⟩ => ?_
  simp only [evalV] at h
  refine sv_step hR hE h fun ρ1 th1 H1 tv v x1 R1 E1 rv h1 => ?_
  obtain ⟨n, a, ob, rfl, rfl, ea, eo, hd, h2⟩ := dref_read R1 rv h1
  have q := R1.obj n a _ ea eo
  rw [bind_app] at h2
  unfold dkeys at h2
  rcases hd with ⟨fs, rfl⟩ | ⟨fs, rfl⟩
  · simp only [eo] at h2
    cases ek : intKeys fs with
    | none => simp only [ek] at h2; exact h2.elim
    | some ks =>
      simp only [ek] at h2
      by_cases hl : ks.length < 64
      · rw [if_pos hl] at h2
        obtain ⟨gs, q1, q2⟩ := q
        refine ⟨a, gs, ks, rfl, .inl q1, by rw [← q2.keys]; exact intKeys_map ek, hl, fun ys pp hp1 hp2 hp3 => ?_⟩
        have ey := isort_eq hp1 hp2
        subst ey
        exact fin_ok (tv := .l ((isort ks).map T.int)) h2 (x1.trans (Ext.new1 hp3)) (R1.new1 hp3) (new_lst R1 hp3 (int_reps _) (R1.free x1 (fun _ z => z.elim) hp3))
      · rw [if_neg hl] at h2; exact h2.elim
  · simp only [eo] at h2; exact h2.elim
end
end Mini
/-! Mini: d[k] = v, x += n, extend, own ==, isinstance of own classes. -/
set_option linter.all false
set_option maxRecDepth 100000
namespace Mini
open PySem PySem.Spec PyProof.Rows L2
section
variable {P : Prog} {L : Lay} {C : Call} {W : WX} {X : Cx} {ρ ρ' ρ1 ρ2 : List Addr} {H H' H1 H2 H0 : Hp} {σ : L2.St} {env env1 : Env} {th th1 th2 : S} {o o' : Addr → Prop} {pos : Pos} {D : Ends} {i : Nat}
theorem dref_read2 {α : Type} {tv : TV} {v : V} {f : Nat → M Out} {o0 : Addr → Prop} {ρ0 : List Addr} {H00 : Hp} (rv : RepV L H0 σ ρ o H tv v) (h : PstS L W ρ0 o0 H00 D ((dref tv >>= f) th)) :
    ∃ n a, tv = .t (.ref n) ∧ v = .ref a ∧ ρ[n]? = some a ∧ PstS L W ρ0 o0 H00 D (f n th) := by
  cases tv with
  | l xs => exact h.elim
  | s xs g => exact h.elim
  | t z =>
    cases z with
    | ref n =>
      simp only [RepV, Rep] at rv
      obtain ⟨a, rfl, ea⟩ := rv
      rw [bind_app] at h
      unfold dref at h
      cases e : th[n]? with
      | none => simp only [e] at h; exact h.elim
      | some ob =>
        cases ob with
        | ins c fs => simp only [e] at h; exact h.elim
        | lst fs => simp only [e] at h; exact h.elim
        | dk fs => simp only [e] at h; exact ⟨n, a, rfl, rfl, ea, h⟩
        | dt fs => simp only [e] at h; exact ⟨n, a, rfl, rfl, ea, h⟩
    | _ => exact h.elim
/-- d[k] = e -/
theorem s_dput {oe ie e : Expr} {co ci c : E} {p2 : Pos} (hK : X.K = L.K) (hW : X.w = L.w) (hu : X.A.units + 9 < cLine) (ho : PE X oe (SV P L C W co)) (hi : PE X ie (SV P L C W ci)) (he : PE X e (SV P L C W c)) (hs : swapsWith e (some (.Subscript oe ie p2)) pos.line X.env = pure false) :
    PS X (.Assign [.Subscript oe ie p2] e pos) (SS P L C W (.dput co ci c)) := by
  refine PS.imp (ps_mput hu ho hi he hs) fun D σ H ⟨ρ, th, env, hR, hE, h⟩ => ?_
  simp only [evalS] at h
  refine ss_step hR hE h fun ρ1 th1 H1 tv v x1 R1 E1 rv q => ?_
  refine mat_stepS R1 x1 rv q fun ρ2 th2 y x2 R2 ry _ q2 => ?_
  show SV P L C W co σ H1 _
  refine ss_step2 x2.up R2 (hE.ext hR x2) q2 fun ρ3 th3 H3 ov vo x3 R3 E3 ro q3 => ?_
  obtain ⟨n, a, rfl, rfl, ea, q3⟩ := dref_read2 (α := Unit) ro q3
  have x13 := x2.trans x3
  show SV P L C W ci σ H3 _
  refine ss_step2 x13.up R3 E3 q3 fun ρ4 th4 H4 iv vi x4 R4 E4 ri q4 => ?_
  have x14 := x13.trans x4
  have ry4 := R3.rep x4 OL.no (R2.rep x3 OL.no ry)
  have ea4 := at_ext x4 ea
  cases iv with
  | l xs => exact q4.elim
  | s xs g => exact q4.elim
  | t x =>
    have q4 : PstS L W ρ (own env σ) H D ((dput n x y >>= fun _ => pure (.nx env)) th4) := q4
    have q5' := pst_of2 (m := dput n x y) (f := fun _ => (pure (.nx env) : M Out)) x14.up q4
    rw [← bind_pure' (dput n x y)] at q5'
    obtain ⟨th', q5, g⟩ := dput_read hK hW R4 ea4 ri ry4 q5'
    have q6 : PstS L W ρ (own env σ) H D (.ok (.nx env) th') := q5
    refine ⟨a, rfl, ?_⟩
    rcases g with ⟨H', g1, xw, R5⟩ | ⟨b, fs, xs, k, e1, d, hl, g⟩
    · exact .inl ⟨H', g1, fin_nx q6 (x14.trans xw).up R5 (E4.ext R4 xw)⟩
    · refine .inr ⟨b, L, ρ4, fs, xs, x, k, y, e1, d, hl, ry4, fun xs' dr => ?_⟩
      obtain ⟨xw, R5⟩ := g xs' dr
      exact fin_nx q6 (x14.trans xw).up R5 (E4.ext R4 xw)
/-- x += e, ints -/
theorem s_aug {x : Str} {e : Expr} {c : E} {p2 : Pos} (hN : X.N.Nodup) (hi : X.N[i]? = some x) (hx : Loc X.env.scope x) (he : PE X e (SV P L C W c)) (hf : X.fn x = true ∨ X.env.scope.names.lookup x = some .local) :
    PS X (.AugAssign (.Name x p2) .Add e pos) (SS P L C W (.aug i c)) := by
  refine PS.imp (ps_aug (pos' := p2) hN hi hx he (ti := rI0 fun i j => .int (i + j)) (fun pins s σ H v y u w Q I r r1 q => iop_add pins s σ H v y u w Q I r r1 q) hf) fun D σ H ⟨ρ, th, env, hR, hE, h⟩ => ?_
  simp only [evalS] at h
  cases hr : readV env i with
  | none => rw [hr] at h; exact h.elim
  | some tv =>
    rw [hr] at h
    cases tv with
    | l xs => exact h.elim
    | s xs g => exact h.elim
    | t z =>
      cases z with
      | int a =>
        have h : PstS L W ρ (own env σ) H D ((evalV P C c env >>= fun y => intOf y >>= fun b => pure (.nx (Mini.store env i (.t (.int (a + b)))))) th) := h
        have hg : env[i]? = some (some (.t (.int a))) := by
          unfold readV at hr
          split at hr
          · rename_i z e1; cases hr; exact e1
          · cases hr
          · cases hr
          · cases hr
        obtain ⟨v, e1, e2⟩ := hE.get i _ hg
        simp only [RepS, Rep] at e2
        subst e2
        refine ⟨_, e1, ?_⟩
        refine ss_step hR hE h fun ρ1 th1 H1 tv w x1 R1 E1 rv q => ?_
        cases tv with
        | l xs => exact q.elim
        | s xs g => exact q.elim
        | t z =>
          cases z with
          | int b =>
            simp only [RepV, Rep] at rv
            subst rv
            refine ⟨a, b, rfl, rfl, ?_⟩
            obtain ⟨e3, s3⟩ := E1.putT (i := i) (x := .int (a + b)) (v := .int (a + b)) (by simp only [Rep])
            have q : PstS L W ρ (own env σ) H D (.ok (.nx (Mini.store env i (.t (.int (a + b))))) th1) := q
            exact fin_nx q (x1.up.shrink fun b z => .inr (.inl (s3 b z))) R1 e3
          | _ => exact q.elim
      | _ => exact h.elim
/-- o.extend(e), a shared list -/
theorem s_exto {oe e : Expr} {co c : E} {ap p2 : Pos} (hK : X.K = L.K) (ho : PE X oe (SV P L C W co)) (he : PE X e (SV P L C W c)) (hs0 : starEach [e] X.env = (false, eval e X.env) :: starEach [] X.env) (hl : (ap.endLine == p2.line) = true)
    (hb : attributeBase oe "extend" X.env (eval oe X.env) = eval oe X.env) (hs : swapsWith (.Call (.Attribute oe "extend" ap) [e] [] p2) none pos.line X.env = pure false) :
    PS X (.Expr (.Call (.Attribute oe "extend" ap) [e] [] p2) pos) (SS P L C W (.exto co c)) := by
  have r := ps_expr (pos := pos) (pe_bm (X := X) (T := "list") (name := "extend") (id := "list.extend") (r := rExtend) (apos := ap) (cpos := p2) PySem.F.plainAttrs_list PySem.F.slot_list_extend rfl mt_extend ho (pa_cons he pa_nil hs0) hb (by rw [hs0]; rfl) hl hs0 rfl) hs
  rw [hK] at r
  refine PS.imp r fun D σ H ⟨ρ, th, env, hR, hE, h⟩ => ?_
  simp only [evalS] at h
  show SV P L C W co σ H _
  refine ss_step hR hE h fun ρ1 th1 H1 ov vo x1 R1 E1 ro q => ?_
  have q' : ∃ n xs, ov = .t (.ref n) ∧ th1[n]? = some (.lst xs) ∧ PstS L W ρ (own env σ) H D ((evalV P C c env >>= fun tv => lstOf2 tv >>= fun ys => extendO ys n >>= fun _ => pure (.nx env)) th1) := by
    cases ov with
    | l xs => exact q.elim
    | s xs g => exact q.elim
    | t zo =>
      cases zo with
      | ref n =>
        have q : PstS L W ρ (own env σ) H D (((deref n >>= fun _ => pure n) >>= fun n => evalV P C c env >>= fun tv => lstOf2 tv >>= fun ys => extendO ys n >>= fun _ => pure (.nx env)) th1) := q
        rw [bind_assoc', bind_app] at q
        unfold deref at q
        cases e1 : th1[n]? with
        | none => simp only [e1] at q; exact q.elim
        | some ob =>
          cases ob with
          | ins c fs => simp only [e1] at q; exact q.elim
          | dk fs => simp only [e1] at q; exact q.elim
          | dt fs => simp only [e1] at q; exact q.elim
          | lst xs => simp only [e1] at q; exact ⟨n, xs, rfl, e1, q⟩
      | _ => exact q.elim
  obtain ⟨n, xs, rfl, e1, q⟩ := q'
  simp only [RepV, Rep] at ro
  obtain ⟨a, rfl, ea⟩ := ro
  obtain ⟨vs, q1, q2⟩ := R1.obj n a _ ea e1
  refine ⟨.inl ⟨rfl, vs, SqL.of q1⟩, ?_⟩
  show SV P L C W c σ H1 _
  refine ss_step2 x1.up R1 E1 q fun ρ2 th2 H2 tv v x2 R2 E2 rv q3 => ?_
  have x12 := x1.trans x2
  have ea2 := at_ext x2 ea
  have rd : ∃ b ys ws, v = .ref b ∧ H2 b = some (.lst ws) ∧ RepAll L ρ2 H2 ys ws ∧ PstS L W ρ (own env σ) H D ((extendO ys n >>= fun _ => (pure (.nx env) : M Out)) th2) := by
    cases tv with
    | l ys =>
      obtain ⟨b, ws, rfl, f2, f3, _⟩ := rv
      exact ⟨b, ys, ws, rfl, f2, f3, q3⟩
    | s ys g => exact q3.elim
    | t z =>
      cases z with
      | ref m =>
        simp only [RepV, Rep] at rv
        obtain ⟨b, rfl, eb⟩ := rv
        have q3 : PstS L W ρ (own env σ) H D ((deref m >>= fun ys => extendO ys n >>= fun _ => (pure (.nx env) : M Out)) th2) := q3
        rw [bind_app] at q3
        unfold deref at q3
        cases f1 : th2[m]? with
        | none => simp only [f1] at q3; exact q3.elim
        | some ob =>
          cases ob with
          | ins c fs => simp only [f1] at q3; exact q3.elim
          | dk fs => simp only [f1] at q3; exact q3.elim
          | dt fs => simp only [f1] at q3; exact q3.elim
          | lst ys =>
            simp only [f1] at q3
            obtain ⟨ws, f2, f3⟩ := R2.obj m b _ eb f1
            exact ⟨b, ys, ws, rfl, f2, f3, q3⟩
      | _ => exact q3.elim
  obtain ⟨b, ys, ws, rfl, f2, f3, q4⟩ := rd
  rw [bind_app] at q4
  unfold extendO at q4
  cases e2 : th2[n]? with
  | none => simp only [e2] at q4; exact q4.elim
  | some ob =>
    cases ob with
    | ins c fs => simp only [e2] at q4; exact q4.elim
    | dk fs => simp only [e2] at q4; exact q4.elim
    | dt fs => simp only [e2] at q4; exact q4.elim
    | lst zs =>
      simp only [e2] at q4
      by_cases hz : zs.length + ys.length ≤ sizeLine
      · simp only [if_pos hz] at q4
        obtain ⟨us, q5, q6⟩ := R2.obj n a _ ea2 e2
        have xw : ∀ o, Ext ρ2 o H2 ρ2 o (upd H2 a (.lst (us ++ ws))) := fun o => Ext.write ea2
        have R5 : R L ρ2 (th2.set n (.lst (zs ++ ys))) (upd H2 a (.lst (us ++ ws))) := R2.write ea2 ⟨_, upd_same, R2.repAll (xw noO) OL.no (q6.append f3)⟩
        refine ⟨a, b, us, ws, rfl, rfl, q5, f2, by rw [← q6.length, ← f3.length]; exact hz, ?_⟩
        have q7 : PstS L W ρ (own env σ) H D (.ok (.nx env) (th2.set n (.lst (zs ++ ys)))) := q4
        exact fin_nx q7 (x12.up.trans (xw _)) R5 (E2.ext R2 (xw noO))
      · simp only [if_neg hz] at q4; exact q4.elim
end
end Mini
/-! Mini: own ==, isinstance of own classes, range(a, b, -1). -/
set_option linter.all false
set_option maxRecDepth 100000
namespace Mini
open PySem PySem.Spec PyProof.Rows L2
section
variable {P : Prog} {L : Lay} {C : Call} {W : WX} {X : Cx} {ρ ρ' ρ1 ρ2 : List Addr} {H H' H1 H2 H0 : Hp} {σ : L2.St} {env env1 : Env} {th th1 th2 : S} {o o' : Addr → Prop} {pos : Pos} {D : Ends} {i : Nat}
theorem baseTys_at {n : String} (h : n ∈ ["NoneType", "bool", "int", "str", "tuple", "list"]) : n ∈ baseTys := by
  simp only [List.mem_cons, List.not_mem_nil, or_false] at h
  rcases h with rfl | rfl | rfl | rfl | rfl | rfl <;> simp [baseTys]
/-- what a value in hand is, ahead of an isinstance or an own == -/
inductive VKind (P : Prog) (L : Lay) (X : Cx) (H : Hp) (th : S) : TV → V → Prop where
  | base {tv : TV} {v : V} {n : String} (hn : n ∈ baseTys) (ty : TyM X H v (.type n)) (no : ∀ k c fs, tv = .t (.ref k) → th[k]? ≠ some (.ins c fs)) : VKind P L X H th tv v
  | ins {k c : Nat} {fs : List (Str × T)} {cd : Cd} {a dx : Addr} {gs : List (Str × V)} (e : th[k]? = some (.ins c fs)) (hc : P.cls[c]? = some cd) (ea : H a = some (.ins (L.cad c) dx gs)) (ty : TyM X H (.ref a) (.ref (L.cad c))) : VKind P L X H th (.t (.ref k)) (.ref a)
theorem vkind {tv : TV} {v : V} (hK : X.K = L.K) (hW : X.w = L.w) (hc : ∀ c cd, P.cls[c]? = some cd → ClsK L P c cd) (cx : ClsX L P) (hR : R L ρ th H) (rv : RepV L H0 σ ρ o H tv v)
    (nf : ∀ k, tv ≠ .t (.fn k)) (nc : ∀ k, tv ≠ .t (.cl k)) (nt : ∀ k, tv ≠ .t (.ty k)) (hr : ∀ k, tv = .t (.ref k) → ∃ ob, th[k]? = some ob ∧ ∀ c fs, ob = .ins c fs → ∃ cd, P.cls[c]? = some cd) : VKind P L X H th tv v := by
  have go : isKnown th tv = true → VKind P L X H th tv v := fun hk => .base (baseTys_at (tyName_mem hk)) (.inl (by rw [hK]; exact tyX_of hR rv hk)) fun k c fs e e2 => by
    subst e
    simp only [isKnown, e2] at hk
    cases hk
  cases tv with
  | l xs => exact go rfl
  | s xs g => exact go rfl
  | t x =>
    cases x with
    | non => exact go rfl
    | bl b => exact go rfl
    | int b => exact go rfl
    | str b => exact go rfl
    | tup b => exact go rfl
    | fn k => exact absurd rfl (nf k)
    | cl k => exact absurd rfl (nc k)
    | ty k => exact absurd rfl (nt k)
    | ref k =>
      obtain ⟨ob, e, h⟩ := hr k rfl
      simp only [RepV, Rep] at rv
      obtain ⟨a, rfl, ea⟩ := rv
      have q := hR.obj k a _ ea e
      cases ob with
      | lst xs => exact .base (n := "list") (by simp [baseTys]) (.inl (by obtain ⟨vs, q, _⟩ := q; exact .base (.lst q))) fun k' c fs e2 e3 => by cases e2; rw [e] at e3; cases e3
      | dk xs => exact .base (n := "dict") (by simp [baseTys]) (.inl (by obtain ⟨vs, q, _⟩ := q; exact .base (.dK q))) fun k' c fs e2 e3 => by cases e2; rw [e] at e3; cases e3
      | dt xs => exact .base (n := "dict") (by simp [baseTys]) (.inr (by obtain ⟨vs, q, _⟩ := q; exact ⟨a, vs, rfl, by rw [hW]; exact q, rfl⟩)) fun k' c fs e2 e3 => by cases e2; rw [e] at e3; cases e3
      | ins c fs =>
        obtain ⟨cd, hcd⟩ := h c fs rfl
        obtain ⟨dx, gs, q1, q2⟩ := q
        obtain ⟨i1, i2⟩ := cx.io c cd hcd
        refine .ins e hcd q1 (.inl ?_)
        rw [hK]
        exact .base (.ins q1 (hc c cd hcd).cls i1 cx.sp cx.tk i2)
theorem isc_read {α : Type} {Φ : α → S → Prop} {ρ0 : List Addr} {H00 : Hp} {tv : TV} {v : V} {c : Nat} {cd : Cd} {f : Bool → M α} (hK : X.K = L.K) (hW : X.w = L.w) (hc : ∀ c cd, P.cls[c]? = some cd → ClsK L P c cd) (cx : ClsX L P) (hcd : P.cls[c]? = some cd)
    (hR : R L ρ th H) (rv : RepV L H0 σ ρ o H tv v) (h : Pst L W ρ0 H00 σ Φ ((isCls P c tv >>= f) th)) : ∃ t b, TyM X H v t ∧ PySem.W.kitOne X.K t (.ref (L.cad c)) = some b ∧ Pst L W ρ0 H00 σ Φ (f b th) := by
  rw [bind_app] at h
  have vk : VKind P L X H th tv v := vkind hK hW hc cx hR rv (fun k e => by subst e; exact h.elim) (fun k e => by subst e; exact h.elim) (fun k e => by subst e; exact h.elim) fun k e => by
    subst e
    unfold isCls at h
    cases e : th[k]? with
    | none => simp only [e] at h; exact h.elim
    | some ob =>
      refine ⟨ob, rfl, fun c' fs e2 => ?_⟩
      subst e2
      simp only [e] at h
      cases e3 : P.cls[c']? with
      | none => simp only [e3] at h; exact h.elim
      | some cd' => exact ⟨cd', rfl⟩
  cases vk with
  | @base _ _ n hn ty no =>
    refine ⟨_, false, ty, by rw [hK]; exact (cx.kitB c cd n hcd hn).1, ?_⟩
    have e : isCls P c tv th = .ok false th ∨ isCls P c tv th = .bad := by
      unfold isCls
      cases tv with
      | l xs => exact .inl rfl
      | s xs g => exact .inl rfl
      | t x =>
        cases x with
        | ref k =>
          cases e : th[k]? with
          | none => exact .inr (by simp only [e])
          | some ob =>
            cases ob with
            | ins c' fs => exact absurd e (no k c' fs rfl)
            | _ => exact .inl (by simp only [e])
        | _ => first | exact .inl rfl | exact .inr rfl
    rcases e with e | e
    · rw [e] at h; exact h
    · rw [e] at h; exact h.elim
  | @ins k c' fs cd' a dx gs e hc' ea ty =>
    refine ⟨_, isSub P c' c, ty, by rw [hK]; exact (cx.kit c' cd' c cd hc' hcd).1, ?_⟩
    have e2 : isCls P c (.t (.ref k)) th = .ok (isSub P c' c) th := by unfold isCls; simp only [e, hc', Option.isSome_some, if_true]
    rw [e2] at h
    exact h
/-- isinstance(e, C) -/
theorem sv_isc {e e2 : Expr} {ce : E} {c : Nat} {cd : Cd} {p : Pos} (hK : X.K = L.K) (hW : X.w = L.w) (hc : ∀ c cd, P.cls[c]? = some cd → ClsK L P c cd) (cx : ClsX L P) (hcd : P.cls[c]? = some cd) (he : PE X e (SV P L C W ce)) (hg : Gl X "isinstance") (hm : X.mg "isinstance" = none)
    (ht : PE X e2 (tC (.ref (L.cad c)))) (hs : starEach [e, e2] X.env = (false, eval e X.env) :: starEach [e2] X.env) (hs2 : starEach [e2] X.env = (false, eval e2 X.env) :: starEach [] X.env) : PE X (.Call (.Name "isinstance" p) [e, e2] [] pos) (SV P L C W (.isc ce c)) := by
  refine PE.imp (pe_callB (p := p) (pos := pos) (call_isc (X := X)) hg hm (by rfl) (pa_cons he (pa_cons ht pa_nil hs2) hs) (by decide) (by decide) hs (by rw [hs2]; rfl)) fun σ H Q ⟨ρ, th, env, hR, hE, h⟩ => ?_
  simp only [evalV] at h
  refine sv_step hR hE h fun ρ1 th1 H1 x v x1 R1 E1 rv h1 => ?_
  obtain ⟨t, b, ty, hk, h2⟩ := isc_read hK hW hc cx hcd R1 rv h1
  exact ⟨v, _, t, b, rfl, ty, hk, fin_ok (tv := .t (.bl b)) h2 x1 R1 (by simp only [RepV, Rep])⟩
/-- the class by its name -/
theorem pe_cls {x : Str} {c : Nat} (hg : Gl X x) (hm : X.mg x = some (.ref (L.cad c))) (hd : (x == ("__debug__" : Str)) = false) : PE X (.Name x pos) (tC (.ref (L.cad c))) := pe_glob (v := .ref (L.cad c)) hg hm rfl hd
/-! ### own == -/
def eqOp (neg : Bool) : CmpOp := if neg then .NotEq else .Eq
def rEqo (P : Prog) (L : Lay) (C : Call) (X : Cx) (neg : Bool) : R2 := fun x y H Q => ∃ c cd f a dx gs t, P.cls[c]? = some cd ∧ cd.meths.lookup ("__eq__" : Str) = some f ∧ x = .ref a ∧ H a = some (.ins (L.cad c) dx gs) ∧ TyM X H y t ∧ PySem.W.notFirst X.K (L.cad c) t = true ∧
  spOf L C 2 f [x, y] H (fun v H' => ∃ b, v = .bl b ∧ Q (.bl (if neg then !b else b)) H') fun _ _ _ => False
/-- a def is called below the running body -/
theorem run_below {CX : CXT} {k : Nat} {f : Addr} {fd : FuncData} {ps : List Str} {sp : Sp} {A : Around} {pins : List (Addr × Obj)} {s : Shared} {Q : VK} {us : List Value} {vs : List V} (F : FnG X.prog X.w X.K X.mg X.base CX k f fd ps sp) (hg : A.guards = some []) (hr : Room k A) (hf : A.frames = X.A.frames)
    (hb : Binds X.K fd ps []) (hx : ∀ st H s e s', CX st H s (fun _ _ _ => False) e s' → False) (I : Inv X pins σ H s) (r : Vals vs us) (h : sp vs H Q (fun _ _ _ => False)) : wpAny (model X.prog X.w) A (call (.ref f) us) (EP X pins σ Q) X.xe s := by
  have b := hb s us I.kIn (by rw [List.append_nil, ← r.length]; exact F.len _ _ _ _ h)
  rw [List.append_nil] at b
  have e := I.env0
  have e0 : Env0 X.prog X.w X.K X.mg X.base A X.stack s H := ⟨by rw [hf]; exact e.frames, e.mod, e.bs, e.bsz, e.funs, e.frf, e.hok, e.bare⟩
  refine wpAny_call (codeAny_mono (F.run A X.stack s H ⟨us, []⟩ us vs Q _ hg hr e0 b r h) fun res s' z => ?_)
  cases res with
  | error e => exact (hx _ _ _ _ _ z).elim
  | ok fl => cases fl with
    | ret u => exact I.after z
    | next => exact z.elim
    | brk => exact z.elim
    | cont => exact z.elim
theorem op_eqo {CX : CXT} {k : Nat} {neg : Bool} (hK : X.K = L.K) (hc : ∀ c cd, P.cls[c]? = some cd → ClsK L P c cd) (cx : ClsX L P) (hme : ∀ (c : Nat) (cd : Cd) (m : Str) (f : Nat), P.cls[c]? = some cd → cd.meths.lookup m = some f → Meth L.K (L.cad c) m (L.ad f))
    (hf : ∀ (c : Nat) (cd : Cd) (f : Nat), P.cls[c]? = some cd → cd.meths.lookup ("__eq__" : Str) = some f → ∃ fd ps, FnG X.prog X.w X.K X.mg X.base CX k (L.ad f) fd ps (spOf L C 2 f) ∧ Binds X.K fd ps [])
    (hgd : X.A.guards = some []) (hr : Room (k + 1) X.A) (hx : ∀ st H s e s', CX st H s (fun _ _ _ => False) e s' → False) : OpR X (compareOp (eqOp neg)) (rEqo P L C X neg) := by
  intro pins s σ H x y v u Q I rx ry h
  obtain ⟨c, cd, f, a, dx, gs, t, hcd, hm, rfl, ea, ty, hn, q⟩ := h
  cases (show v = Value.ref a from rx)
  have M := hme c cd _ f hcd hm
  obtain ⟨fd, ps, F, B⟩ := hf c cd f hcd hm
  obtain ⟨mA, J, _⟩ := ins_get I.hok ea
  obtain ⟨od, J, _⟩ := J.look
  obtain ⟨m, hF⟩ := I.fr
  have rm : Room k X.A := hr.mono (Nat.le_succ k)
  have rr : Vals [V.ref a, y] [Value.ref a, u] := .cons rfl (.cons ry .nil)
  have hbt := typeM I ry ty
  have ho := (cx.io c cd hcd).2
  have hne := cx.ne c cd f hcd hm
  rw [← hK] at ho hne
  cases neg with
  | false =>
    show wpAny (model X.prog X.w) X.A (richCompare .Eq (.ref a) u) (EP X pins σ Q) X.xe s
    refine PySem.W.cmp_K (op := .Eq) rm.units0 hF I.ok.mod.kin J hbt hn (hK ▸ M.at_) (hK ▸ M.fn) ?_
    refine wpAny_mono (run_below F hgd rm rfl B hx I rr q) (fun w s' z => ?_) fun _ _ x => x
    obtain ⟨z', H', I', rz, b, ez, qz⟩ := z
    subst ez
    cases (show w = Value.bool b from rz)
    exact ⟨.bl b, H', I', rfl, qz⟩
  | true =>
    show wpAny (model X.prog X.w) X.A (richCompare .NotEq (.ref a) u) (EP X pins σ Q) X.xe s
    refine cmp_ne (by have := rm.un; omega) hF I.ok.mod.kin J hbt hn (hK ▸ M.at_) (hK ▸ M.fn) hne ho ?_
    refine wpAny_mono (run_below F (by rw [Around.in1]; exact hgd) hr.in1 rfl B hx I rr q) (fun w s' z => ?_) fun _ _ x => x
    obtain ⟨z', H', I', rz, b, ez, qz⟩ := z
    subst ez
    cases (show w = Value.bool b from rz)
    exact ⟨b, rfl, .bl (!b), H', I', rfl, qz⟩
theorem eqOf_read {α : Type} {Φ : α → S → Prop} {ρ0 : List Addr} {H00 : Hp} {tv : TV} {v : V} {f : Nat × Nat × Nat → M α} (hR : R L ρ th H) (rv : RepV L H0 σ ρ o H tv v) (h : Pst L W ρ0 H00 σ Φ ((eqOf P tv >>= f) th)) :
    ∃ n c cd g a dx gs, tv = .t (.ref n) ∧ v = .ref a ∧ ρ[n]? = some a ∧ P.cls[c]? = some cd ∧ cd.meths.lookup ("__eq__" : Str) = some g ∧ H a = some (.ins (L.cad c) dx gs) ∧ Pst L W ρ0 H00 σ Φ (f (n, c, g) th) := by
  rw [bind_app] at h
  unfold eqOf at h
  cases tv with
  | l xs => exact h.elim
  | s xs g => exact h.elim
  | t z =>
    cases z with
    | ref n =>
      simp only [RepV, Rep] at rv
      obtain ⟨a, rfl, ea⟩ := rv
      cases e : th[n]? with
      | none => simp only [e] at h; exact h.elim
      | some ob =>
        cases ob with
        | lst fs => simp only [e] at h; exact h.elim
        | dk fs => simp only [e] at h; exact h.elim
        | dt fs => simp only [e] at h; exact h.elim
        | ins c fs =>
          simp only [e] at h
          cases e1 : P.cls[c]? with
          | none => simp only [e1, Option.bind_none] at h; exact h.elim
          | some cd =>
            cases e2 : cd.meths.lookup ("__eq__" : Str) with
            | none => simp only [e1, Option.bind_some, e2] at h; exact h.elim
            | some g =>
              simp only [e1, Option.bind_some, e2] at h
              obtain ⟨dx, gs, q1, q2⟩ := hR.obj n a _ ea e
              exact ⟨n, c, cd, g, a, dx, gs, rfl, rfl, ea, e1, e2, q1, h⟩
    | _ => exact h.elim
theorem eqR_read {α : Type} {Φ : α → S → Prop} {ρ0 : List Addr} {H00 : Hp} {tv : TV} {v : V} {c : Nat} {cd : Cd} {f : Unit → M α} (hK : X.K = L.K) (hW : X.w = L.w) (hc : ∀ c cd, P.cls[c]? = some cd → ClsK L P c cd) (cx : ClsX L P) (hcd : P.cls[c]? = some cd)
    (hR : R L ρ th H) (rv : RepV L H0 σ ρ o H tv v) (h : Pst L W ρ0 H00 σ Φ ((eqRight P c tv >>= f) th)) : ∃ t, TyM X H v t ∧ PySem.W.notFirst X.K (L.cad c) t = true ∧ Pst L W ρ0 H00 σ Φ (f () th) := by
  rw [bind_app] at h
  have vk : VKind P L X H th tv v := vkind hK hW hc cx hR rv (fun k e => by subst e; exact h.elim) (fun k e => by subst e; exact h.elim) (fun k e => by subst e; exact h.elim) fun k e => by
    subst e
    unfold eqRight at h
    cases e : th[k]? with
    | none => simp only [e] at h; exact h.elim
    | some ob =>
      refine ⟨ob, rfl, fun c' fs e2 => ?_⟩
      subst e2
      simp only [e] at h
      by_cases q : c' = c ∨ ((P.cls[c']?).isSome = true ∧ isSub P c' c = false)
      · rcases q with q | q
        · subst q; exact ⟨cd, hcd⟩
        · exact Option.isSome_iff_exists.mp q.1
      · rw [if_neg q] at h; exact h.elim
  cases vk with
  | @base _ _ n hn ty no =>
    refine ⟨_, ty, ?_, ?_⟩
    · unfold PySem.W.notFirst
      rw [hK, (cx.kitB c cd n hcd hn).2]
      simp
    · have e : eqRight P c tv th = .ok () th ∨ eqRight P c tv th = .bad := by
        unfold eqRight
        cases tv with
        | l xs => exact .inl rfl
        | s xs g => exact .inl rfl
        | t x =>
          cases x with
          | ref k =>
            cases e : th[k]? with
            | none => exact .inr (by simp only [e])
            | some ob =>
              cases ob with
              | ins c' fs => exact absurd e (no k c' fs rfl)
              | _ => exact .inl (by simp only [e])
          | _ => first | exact .inl rfl | exact .inr rfl
      rcases e with e | e
      · rw [e] at h; exact h
      · rw [e] at h; exact h.elim
  | @ins k c' fs cd' a dx gs e hc' ea ty =>
    unfold eqRight at h
    simp only [e] at h
    by_cases q : c' = c ∨ ((P.cls[c']?).isSome = true ∧ isSub P c' c = false)
    · rw [if_pos q] at h
      refine ⟨_, ty, ?_, h⟩
      unfold PySem.W.notFirst
      by_cases q2 : c' = c
      · subst q2; simp
      · rcases q with q | q
        · exact absurd q q2
        · rw [hK, (cx.kit c' cd' c cd hc' hcd).2 q2, q.2]
          simp
    · rw [if_neg q] at h; exact h.elim
theorem eqo_core {neg : Bool} {ca cb : E} {Q : VK} (hK : X.K = L.K) (hW : X.w = L.w) (hc : ∀ c cd, P.cls[c]? = some cd → ClsK L P c cd) (cx : ClsX L P) (hR : R L ρ th H) (hE : EnvR L ρ H env σ) (h : Pst L W ρ H σ (KV L ρ H env σ Q) (evalV P C (.eqo neg ca cb) env th)) :
    tOp (rEqo P L C X neg) (SV P L C W ca) (SV P L C W cb) σ H Q := by
  simp only [evalV] at h
  show SV P L C W ca σ H _
  refine sv_step hR hE h fun ρ1 th1 H1 x v x1 R1 E1 rv h1 => ?_
  refine sv_step R1 E1 (h1.base x1) fun ρ2 th2 H2 y w x2 R2 E2 rw' h2 => ?_
  have x12 := x1.trans x2
  obtain ⟨n, c, cd, g, a, dx, gs, rfl, rfl, ea, hcd, hm, e1, h3⟩ := eqOf_read R2 (rv.ext R1 x2) h2
  obtain ⟨t, ty, hn, h4⟩ := eqR_read hK hW hc cx hcd R2 rw' h3
  refine ⟨c, cd, g, a, dx, gs, t, hcd, hm, rfl, e1, ty, hn, rfl, ρ2, th2, [.t (.ref n), argOf y], R2, .cons (by simp only [RepG, Rep]; exact ⟨a, rfl, ea⟩) (.cons rw'.arg .nil), ?_⟩
  rw [bind_app] at h4
  unfold noExc at h4
  cases e : C g [.t (.ref n), argOf y] th2 with
  | bad => simp only [e] at h4; exact h4.elim
  | exc x s => simp only [e] at h4; exact h4.elim
  | ok tv s =>
    simp only [e] at h4
    intro ρ' v' H' x3 R3 rv3
    cases tv with
    | l xs => exact h4.elim
    | s xs g => exact h4.elim
    | t z =>
      cases z with
      | bl b =>
        simp only [RepF, Rep] at rv3
        exact ⟨b, rv3, fin_ok (tv := .t (.bl (if neg then !b else b))) h4 (x12.trans x3) R3 (by simp only [RepV, Rep])⟩
      | _ => exact h4.elim
section
variable {CX : CXT} {k : Nat} {a b : Expr} {ca cb : E} {neg : Bool}
theorem sv_eqo (hK : X.K = L.K) (hW : X.w = L.w) (hc : ∀ c cd, P.cls[c]? = some cd → ClsK L P c cd) (cx : ClsX L P) (hme : ∀ (c : Nat) (cd : Cd) (m : Str) (f : Nat), P.cls[c]? = some cd → cd.meths.lookup m = some f → Meth L.K (L.cad c) m (L.ad f))
    (hf : ∀ (c : Nat) (cd : Cd) (f : Nat), P.cls[c]? = some cd → cd.meths.lookup ("__eq__" : Str) = some f → ∃ fd ps, FnG X.prog X.w X.K X.mg X.base CX k (L.ad f) fd ps (spOf L C 2 f) ∧ Binds X.K fd ps [])
    (hgd : X.A.guards = some []) (hr : Room (k + 1) X.A) (hx : ∀ st H s e s', CX st H s (fun _ _ _ => False) e s' → False) (ha : PE X a (SV P L C W ca)) (hb : PE X b (SV P L C W cb)) (hm : behindInMarks (eqOp neg) b = false) :
    PE X (.Compare a [eqOp neg] [b] pos) (SV P L C W (.eqo neg ca cb)) :=
  PE.imp (pe_cmpR (op_eqo (neg := neg) hK hc cx hme hf hgd hr hx) ha hb hm) fun σ H Q ⟨ρ, th, env, hR, hE, h⟩ => eqo_core hK hW hc cx hR hE h
theorem eqo_bl {s s' : S} {tv : TV} (e : evalV P C (.eqo neg ca cb) env s = .ok tv s') : ∃ b, tv = .t (.bl b) := by
  simp only [evalV] at e
  obtain ⟨_, _, _, e⟩ := bind_ok e
  obtain ⟨_, _, _, e⟩ := bind_ok e
  obtain ⟨_, _, _, e⟩ := bind_ok e
  obtain ⟨_, _, _, e⟩ := bind_ok e
  obtain ⟨_, _, _, e⟩ := bind_ok e
  obtain ⟨_, _, _, e⟩ := bind_ok e
  cases e
  exact ⟨_, rfl⟩
theorem st_eqo (hK : X.K = L.K) (hW : X.w = L.w) (hc : ∀ c cd, P.cls[c]? = some cd → ClsK L P c cd) (cx : ClsX L P) (hme : ∀ (c : Nat) (cd : Cd) (m : Str) (f : Nat), P.cls[c]? = some cd → cd.meths.lookup m = some f → Meth L.K (L.cad c) m (L.ad f))
    (hf : ∀ (c : Nat) (cd : Cd) (f : Nat), P.cls[c]? = some cd → cd.meths.lookup ("__eq__" : Str) = some f → ∃ fd ps, FnG X.prog X.w X.K X.mg X.base CX k (L.ad f) fd ps (spOf L C 2 f) ∧ Binds X.K fd ps [])
    (hgd : X.A.guards = some []) (hr : Room (k + 1) X.A) (hx : ∀ st H s e s', CX st H s (fun _ _ _ => False) e s' → False) (ha : PE X a (SV P L C W ca)) (hb : PE X b (SV P L C W cb)) (hm : behindInMarks (eqOp neg) b = false) :
    PT X (.Compare a [eqOp neg] [b] pos) (ST P L C W (.eqo neg ca cb)) :=
  PT.imp (pt_cmpR (op_eqo (neg := neg) hK hc cx hme hf hgd hr hx) ha hb hm) fun σ H Q ⟨ρ, th, env, hR, hE, h⟩ => eqo_core (Q := fun v H' => ∃ k, v = .bl k ∧ Q k H') hK hW hc cx hR hE (evT_bl (fun _ _ _ e => eqo_bl e) h)
end
/-! ### range(a, b, -1) -/
theorem wk_rng3 {lo hi : Int} {n : Nat} (hn : n = (lo - hi).toNat) : Wk L (Itc lo (-1) n) (rangeT3 lo hi) [] (fun _ _ _ => True) where
  keep := fun _ _ _ _ => trivial
  go := fun {ρ o H th i x} h r hg e => by
    unfold rangeT3 at e
    rw [List.getElem?_map] at e
    cases e1 : (List.range (lo - hi).toNat)[i]? with
    | none => rw [e1] at e; simp at e
    | some j =>
      obtain ⟨h1, h2⟩ := List.getElem?_eq_some_iff.mp e1
      rw [List.getElem_range] at h2
      subst h2
      rw [e1] at e
      simp only [Option.map_some, Option.some.injEq] at e
      subst e
      rw [List.length_range] at h1
      refine ⟨by show i < n; omega, fun v H' y => ?_⟩
      obtain ⟨rfl, rfl⟩ := y
      refine ⟨?_, r, fun _ => Ext.refl, fun _ _ h => h⟩
      simp only [Rep, V.int.injEq]
      omega
  stop := fun {ρ o H th} h r hg => by
    show n ≤ _
    unfold rangeT3
    rw [List.length_map, List.length_range]
    omega
theorem rng3_read {lo hi : Int} {Φ : List T × List GI → S → Prop} (h : Pst L W ρ H σ Φ ((rangeV3 lo hi >>= itOf) th1)) : -(2 ^ 62) ≤ lo ∧ lo < 2 ^ 62 ∧ -(2 ^ 62) ≤ hi ∧ hi < 2 ^ 62 ∧ Pst L W ρ H σ Φ (.ok (rangeT3 lo hi, []) th1) := by
  unfold rangeV3 at h
  split at h
  · rename_i q
    simp only [small62, Bool.and_eq_true, decide_eq_true_eq] at q
    exact ⟨q.1.1.1, q.1.1.2, q.1.2.1, q.1.2.2, h⟩
  · exact h.elim
theorem si_rng3 {tg e e2 e3 : Expr} {c d : E} {p : Pos} (hg : Gl X "range") (hm : X.mg "range" = none) (he : PE X e (SV P L C W c)) (he2 : PE X e2 (SV P L C W d)) (he3 : PE X e3 (SV P L C W (.neg (.k (.int 1))))) (hs : starEach [e, e2, e3] X.env = (false, eval e X.env) :: starEach [e2, e3] X.env)
    (hs2 : starEach [e2, e3] X.env = (false, eval e2 X.env) :: starEach [e3] X.env) (hs3 : starEach [e3] X.env = (false, eval e3 X.env) :: starEach [] X.env) : PI X tg (.Call (.Name "range" p) [e, e2, e3] [] pos) (SI P L C W (.rng3 c d)) := by
  refine PI.imp (pi_range3 (p := p) (pos := pos) hg hm (pa_cons he (pa_cons he2 (pa_cons he3 pa_nil hs3) hs2) hs) hs (by rw [hs2, hs3]; rfl)) fun σ H Q ⟨ρ, th, env, hR, hE, h⟩ => ?_
  rw [evalV, bind_assoc'] at h
  show SV P L C W c σ H _
  refine sv_step hR hE h fun ρ1 th1 H1 x v x1 R1 E1 rv h1 => ?_
  rw [bind_assoc'] at h1
  obtain ⟨i, e1, h2⟩ := int_read rv h1
  rw [bind_assoc'] at h2
  show SV P L C W d σ H1 _
  refine sv_step R1 E1 (h2.base x1) fun ρ2 th2 H2 y w x2 R2 E2 rw' h3 => ?_
  rw [bind_assoc'] at h3
  obtain ⟨j, e2, h4⟩ := int_read rw' h3
  obtain ⟨q1, q2, q3, q4, h5⟩ := rng3_read h4
  show SV P L C W (.neg (.k (.int 1))) σ H2 _
  refine ⟨ρ2, th2, env, R2, E2, ?_⟩
  have e4 : evalV P C (.neg (.k (.int 1))) env th2 = .ok (.t (.int (-1))) th2 := by simp only [evalV]; rfl
  rw [e4]
  intro ρ3 v3 H3 x3 R3 rv3
  simp only [RepV, Rep] at rv3
  refine ⟨i, j, -1, (i - j).toNat, by rw [e1, e2, rv3], RgC.neg q1 q2 q3 q4, fin_si (p := (rangeT3 i j, [])) (h5.base (x2.trans x3)) ((x1.trans x2).trans x3) R3 (wk_rng3 rfl) fun _ _ => trivial⟩
end
end Mini
/-! Mini: does this code say what that text says? The answer, and that it is right: expressions. -/
set_option linter.all false
set_option autoImplicit false
set_option maxRecDepth 10000
namespace Mini
open PySem PySem.Spec PyProof.Rows L2
/-- the module's names -/
structure Gt where
  gf : List (Str × Nat)
  gc : List (Str × Nat)
  gb : List Str
structure Sc where
  N : List Str
  scope : Scope
  raw : Option Scope
def Sc.kind (sc : Sc) (x : Str) : Option NameKind := sc.scope.names.lookup x
def isVis (sc : Sc) (x : Str) : Bool := match sc.kind x with
  | some .local => true
  | some .cell => true
  | some .free => true
  | _ => false
def isGl (sc : Sc) (x : Str) : Bool := match sc.kind x with
  | some .globalImplicit => true
  | _ => false
def isLocal (sc : Sc) (x : Str) : Bool := match sc.kind x with
  | some .local => true
  | _ => false
/-- a name one may store to -/
def isSto (sc : Sc) (x : Str) : Bool := match sc.kind x with
  | some .local => true
  | some .cell => (match sc.raw with
    | none => true
    | some r => r.names.lookup x == some .cell)
  | _ => false
def plainN (x : Str) : Bool := !(x == ("__debug__" : Str)) && !(x == ("__classdict__" : Str))
def atN (sc : Sc) (i : Nat) (x : Str) : Bool := decide (sc.N[i]? = some x)
def notStar : Expr → Bool
  | .Starred .. => false
  | _ => true
def notSet : Expr → Bool
  | .Set .. => false
  | _ => true
def notIf : Expr → Bool
  | .IfExp .. => false
  | _ => true
def tst (e : Expr) (c : E) : Bool := notIf e && (match c with
  | .mat _ => false
  | _ => true)
def notSlice : Expr → Bool
  | .Slice .. => false
  | _ => true
def attrOk : Expr → Bool
  | .Name .. => true
  | .Attribute .. => true
  | .Subscript .. => true
  | _ => false
def isB (sc : Sc) (G : Gt) (x y : Str) : Bool := decide (x = y) && isGl sc x && G.gb.any fun z => decide (z = y)
theorem starEach_of {e : Expr} {es : List Expr} {env : PySem.Env} (h : notStar e = true) : starEach (e :: es) env = (false, eval e env) :: starEach es env := by
  cases e <;> first | rfl | cases h
theorem star_any {env : PySem.Env} {pos : Pos} : ∀ {es : List Expr}, es.all notStar = true → (backTo pos (starEach es env)).any (·.1) = false
  | [], _ => rfl
  | e :: es, h => by
    rw [List.all_cons, Bool.and_eq_true] at h
    rw [starEach_of h.1]
    show (false || (backTo pos (starEach es env)).any (·.1)) = false
    rw [star_any h.2]
    rfl
theorem set_iter {e : Expr} {env : PySem.Env} (h : notSet e = true) (x : Value) : foldedSetIterable e env x = pure x := by
  cases e <;> first | rfl | cases h
theorem marks_of {e : Expr} {op : CmpOp} (h : notSet e = true) : behindInMarks op e = false := by
  cases e <;> first | rfl | cases h
theorem plainIx_of {e : Expr} (h : notSlice e = true) : PlainIx e := by
  intro o i
  cases e <;> first | rfl | cases h
theorem attr_base {e : Expr} {f : Str} {env : PySem.Env} (h : attrOk e = true) : attributeBase e f env (eval e env) = eval e env := by
  cases e <;> first | rfl | cases h
variable (P : Prog) (L : Lay) (C : Call) (CX : CXT) (W : WX) (G : Gt) (k : Nat)
/-- what the written part holds of the module -/
structure GOk (X : Cx) : Prop where
  gf : ∀ (x : Str) (f : Nat), G.gf.lookup x = some f → X.mg x = some (.ref (L.ad f))
  gc : ∀ (x : Str) (c : Nat), G.gc.lookup x = some c → X.mg x = some (.ref (L.cad c))
  gb : ∀ x ∈ G.gb, X.mg x = none
  con : ∀ (g : Nat) (x : Str) (t : T), P.consts[g]? = some (x, t) → ∃ v u, X.mg x = some u ∧ RelV v u ∧ ∀ ρ H, Rep L ρ H t v
  cls : ∀ (c : Nat) (cd : Cd), P.cls[c]? = some cd → ClsK L P c cd
  meth : ∀ (c : Nat) (cd : Cd) (m : Str) (f : Nat), P.cls[c]? = some cd → cd.meths.lookup m = some f → Meth L.K (L.cad c) m (L.ad f)
  mkr : ∀ (c : Nat) (cd : Cd), P.cls[c]? = some cd → L2.Mk L.K (L.cad c) (L.ad cd.init)
  fn : ∀ (f : Nat) (fdm : Fd), P.fns[f]? = some fdm → PySem.W.keepIn X.K (.ref (L.ad f)) = true ∧ ∃ fd, FnG X.prog X.w X.K X.mg X.base CX k (L.ad f) fd fdm.ps (spOf L C fdm.ps.length f) ∧ Binds X.K fd fdm.ps []
  hl : ∀ (f : Nat) (fdm : Fd), P.fns[f]? = some fdm → ∀ tvs th, tvs.length ≠ fdm.ps.length → C f tvs th = .bad
  cx : ClsX L P
  eqf : ∀ (c : Nat) (cd : Cd) (f : Nat), P.cls[c]? = some cd → cd.meths.lookup ("__eq__" : Str) = some f → ∃ fdm, P.fns[f]? = some fdm ∧ fdm.ps.length = 2
structure XOk (sc : Sc) (X : Cx) : Prop where
  g : GOk P L C CX G k X
  K : X.K = L.K
  w : X.w = L.w
  calm : X.calm = true
  N : X.N = sc.N
  nd : sc.N.Nodup
  scope : X.env.scope = sc.scope
  fn : ∀ x, isSto sc x = true → X.fn x = true ∨ X.env.scope.names.lookup x = some .local
  room : Room (k + 1) X.A
  gd : X.A.guards = some []
  pass : ∀ σ, PassesAt CX X σ (WE W σ)
  kind : sc.scope.kind = .function
  cxf : ∀ st H s e s', CX st H s (fun _ _ _ => False) e s' → False
abbrev PET (X : Cx) (e : Expr) (c : E) : Prop := PE X e (SV P L C W c) ∧ (tst e c = true → PT X e (ST P L C W c))
variable {P L C CX W G k} {sc : Sc} {X : Cx} {f : Expr → E → Bool}
section
variable (o : XOk P L C CX W G k sc X)
include o
theorem XOk.vis {x : Str} (h : isVis sc x = true) : Vis X.env.scope x := by
  unfold isVis Sc.kind at h
  unfold Vis
  rw [o.scope]
  split at h
  · rename_i e; exact .inl e
  · rename_i e; exact .inr (.inl e)
  · rename_i e; exact .inr (.inr e)
  · cases h
theorem XOk.gl {x : Str} (h : isGl sc x = true) : Gl X x := by
  unfold isGl Sc.kind at h
  show X.env.scope.names.lookup x = some .globalImplicit
  rw [o.scope]
  split at h
  · rename_i e; exact e
  · cases h
theorem XOk.loc {x : Str} (h : isSto sc x = true) : L2.Loc X.env.scope x := by
  unfold isSto Sc.kind at h
  unfold L2.Loc
  rw [o.scope]
  split at h
  · rename_i e; exact .inl e
  · rename_i e; exact .inr e
  · cases h
theorem XOk.local {x : Str} (h : isLocal sc x = true) : X.env.scope.names.lookup x = some .local := by
  unfold isLocal Sc.kind at h
  rw [o.scope]
  split at h
  · rename_i e; exact e
  · cases h
theorem XOk.at {x : Str} {i : Nat} (h : atN sc i x = true) : X.N[i]? = some x := by
  rw [o.N]; exact of_decide_eq_true h
theorem XOk.ndX : X.N.Nodup := by rw [o.N]; exact o.nd
theorem XOk.b {x y : Str} (h : isB sc G x y = true) : x = y ∧ Gl X y ∧ X.mg y = none := by
  unfold isB at h
  simp only [Bool.and_eq_true, decide_eq_true_eq] at h
  obtain ⟨⟨rfl, h2⟩, h3⟩ := h
  obtain ⟨z, hz, e⟩ := List.any_eq_true.mp h3
  have e := of_decide_eq_true e
  subst e
  exact ⟨rfl, o.gl h2, o.g.gb _ hz⟩
theorem XOk.un : X.A.units + 100 < cLine := by have := o.room.un; omega
theorem XOk.un65 : X.A.units + 65 < cLine := by have := o.room.un; omega
theorem XOk.pet {e : Expr} {c : E} (h : PE X e (SV P L C W c)) (he : ∀ whole, isTrue e X.env whole = (do let v ← whole; standAt e.pos; holding [v] (truthy v))) : PET P L C W X e c := ⟨h, fun _ => st_of_sv o.K h he⟩
end
theorem plain1 {x : Str} (h : plainN x = true) : (x == ("__debug__" : Str)) = false := by
  unfold plainN at h
  simp only [Bool.and_eq_true, Bool.not_eq_true'] at h
  exact h.1
theorem plain2 {x : Str} (h : plainN x = true) : (x == ("__classdict__" : Str)) = false := by
  unfold plainN at h
  simp only [Bool.and_eq_true, Bool.not_eq_true'] at h
  exact h.2
/-! ### arms -/
def allEs (f : Expr → E → Bool) : List Expr → Es → Bool
  | [], .nil => true
  | e :: es, .cons c cs => notStar e && f e c && allEs f es cs
  | _, _ => false
theorem allEs_star : ∀ {es : List Expr} {cs : Es}, allEs f es cs = true → es.all notStar = true
  | [], _, _ => rfl
  | e :: es, .nil, h => by cases h
  | e :: es, .cons c cs, h => by
    simp only [allEs, Bool.and_eq_true] at h
    rw [List.all_cons, h.1.1, allEs_star h.2]; rfl
theorem allEs_sa (hf : ∀ e c, f e c = true → PET P L C W X e c) : ∀ {es : List Expr} {cs : Es}, allEs f es cs = true → PA X es (SA P L C W cs)
  | [], .nil, _ => sa_nil
  | [], .cons _ _, h => by cases h
  | e :: es, .nil, h => by cases h
  | e :: es, .cons c cs, h => by
    simp only [allEs, Bool.and_eq_true] at h
    exact sa_cons (hf e c h.1.2).1 (allEs_sa hf h.2) (starEach_of h.1.1)
theorem allEs_sts (hf : ∀ e c, f e c = true → PET P L C W X e c) : ∀ {es : List Expr} {cs : Es}, allEs f es cs = true → PA X es (STs P L C W cs)
  | [], .nil, _ => sts_nil
  | [], .cons _ _, h => by cases h
  | e :: es, .nil, h => by cases h
  | e :: es, .cons c cs, h => by
    simp only [allEs, Bool.and_eq_true] at h
    exact sts_cons (hf e c h.1.2).1 (allEs_sts hf h.2) (starEach_of h.1.1)
/-- and, or -/
def andB (f : Expr → E → Bool) : List Expr → E → Bool
  | [], _ => false
  | [e], c => tst e c && f e c
  | e :: r, .and a b => (tst e a && f e a) && andB f r b
  | _ :: _, _ => false
def orB (f : Expr → E → Bool) : List Expr → E → Bool
  | [], _ => false
  | [e], c => tst e c && f e c
  | e :: r, .or a b => (tst e a && f e a) && orB f r b
  | _ :: _, _ => false
theorem andB_ok (o : XOk P L C CX W G k sc X) (hf : ∀ e c, f e c = true → PET P L C W X e c) {pos : Pos} : ∀ {es : List Expr} {c : E}, andB f es c = true → PE X (.BoolOp .And es pos) (SV P L C W c) ∧ PW X (.BoolOp .And es pos) (ST P L C W c)
  | [], _, h => by cases h
  | [e], c, h => by
    simp only [andB, Bool.and_eq_true] at h
    exact ⟨sv_one (hf e c h.2).1, st_one ((hf e c h.2).2 h.1)⟩
  | e :: e2 :: r, c, h => by
    cases c <;> first
      | (cases h; done)
      | (rename_i a b
         have h : ((tst e a && f e a) && andB f (e2 :: r) b) = true := h
         rw [Bool.and_eq_true, Bool.and_eq_true] at h
         have ih := andB_ok o hf (pos := pos) h.2
         exact ⟨sv_and o.K (hf e a h.1.2).1 ih.1, st_and ((hf e a h.1.2).2 h.1.1) ih.2⟩)
theorem orB_ok (o : XOk P L C CX W G k sc X) (hf : ∀ e c, f e c = true → PET P L C W X e c) {pos : Pos} : ∀ {es : List Expr} {c : E}, orB f es c = true → PE X (.BoolOp .Or es pos) (SV P L C W c) ∧ PW X (.BoolOp .Or es pos) (ST P L C W c)
  | [], _, h => by cases h
  | [e], c, h => by
    simp only [orB, Bool.and_eq_true] at h
    exact ⟨sv_one (hf e c h.2).1, st_one' ((hf e c h.2).2 h.1)⟩
  | e :: e2 :: r, c, h => by
    cases c <;> first
      | (cases h; done)
      | (rename_i a b
         have h : ((tst e a && f e a) && orB f (e2 :: r) b) = true := h
         rw [Bool.and_eq_true, Bool.and_eq_true] at h
         have ih := orB_ok o hf (pos := pos) h.2
         exact ⟨sv_or o.K (hf e a h.1.2).1 ih.1, st_or ((hf e a h.1.2).2 h.1.1) ih.2⟩)
def aV (sc : Sc) (i : Nat) : Expr → Bool
  | .Name x _ => atN sc i x && (isVis sc x && plainN x)
  | _ => false
theorem aV_ok (o : XOk P L C CX W G k sc X) {i : Nat} {e : Expr} (h : aV sc i e = true) : PET P L C W X e (.v i) := by
  cases e <;> first | (cases h; done) | skip
  simp only [aV, Bool.and_eq_true] at h
  exact o.pet (sv_v (o.at h.1) (o.vis h.2.1) (plain1 h.2.2) (plain2 h.2.2)) fun _ => rfl
def aK : T → Expr → Bool
  | .int i, .Constant (.int j) _ _ => decide (i = j)
  | .bl i, .Constant (.bool j) _ _ => decide (i = j)
  | .str i, .Constant (.str j) _ _ => decide (i = j)
  | .non, .Constant .none _ _ => true
  | _, _ => false
theorem aK_ok (o : XOk P L C CX W G k sc X) {t : T} {e : Expr} (h : aK t e = true) : PET P L C W X e (.k t) := by
  unfold aK at h
  split at h
  · have z := of_decide_eq_true h; subst z; exact o.pet sv_int fun _ => rfl
  · have z := of_decide_eq_true h; subst z; exact o.pet sv_bl fun _ => rfl
  · have z := of_decide_eq_true h; subst z; exact o.pet sv_str fun _ => rfl
  · exact o.pet sv_non fun _ => rfl
  · cases h
def aGl (P : Prog) (sc : Sc) (g : Nat) : Expr → Bool
  | .Name x _ => decide ((P.consts[g]?).map (·.1) = some x) && (isGl sc x && plainN x)
  | _ => false
theorem aGl_ok (o : XOk P L C CX W G k sc X) {g : Nat} {e : Expr} (h : aGl P sc g e = true) : PET P L C W X e (.gl g) := by
  cases e <;> first | (cases h; done) | skip
  simp only [aGl, Bool.and_eq_true, decide_eq_true_eq] at h
  obtain ⟨h1, h2, h3⟩ := h
  cases e : P.consts[g]? with
  | none => rw [e] at h1; cases h1
  | some p =>
    rw [e] at h1
    obtain ⟨y, t⟩ := p
    cases h1
    obtain ⟨v, u, q1, q2, q3⟩ := o.g.con g _ t e
    exact o.pet (sv_gl e (o.gl h2) q1 q2 q3 (plain1 h3)) fun _ => rfl
def aFnv (G : Gt) (sc : Sc) (g : Nat) : Expr → Bool
  | .Name x _ => decide (G.gf.lookup x = some g) && (isGl sc x && plainN x)
  | _ => false
theorem aFnv_ok (o : XOk P L C CX W G k sc X) {g : Nat} {e : Expr} (h : aFnv G sc g e = true) : PET P L C W X e (.fnv g) := by
  cases e <;> first | (cases h; done) | skip
  simp only [aFnv, Bool.and_eq_true, decide_eq_true_eq] at h
  exact o.pet (sv_fnv (o.gl h.2.1) (o.g.gf _ _ h.1) (plain1 h.2.2)) fun _ => rfl
def aBin (f : Expr → E → Bool) (b : Bo) (x y : E) : Expr → Bool
  | .BinOp l op r _ => (match b, op with
    | .add, .Add => true
    | .sub, .Sub => true
    | .mul, .Mult => true
    | .fdiv, .FloorDiv => true
    | .mod, .Mod => true
    | .pow, .Pow => true
    | _, _ => false) && (f l x && f r y)
  | _ => false
theorem aBin_ok (o : XOk P L C CX W G k sc X) (hf : ∀ e c, f e c = true → PET P L C W X e c) {b : Bo} {x y : E} {e : Expr} (h : aBin f b x y e = true) : PET P L C W X e (.bin b x y) := by
  cases e <;> first | (cases h; done) | skip
  simp only [aBin, Bool.and_eq_true] at h
  obtain ⟨h1, h2, h3⟩ := h
  have a := (hf _ _ h2).1
  have b := (hf _ _ h3).1
  split at h1
  · exact o.pet (bin_add o.K a b) fun _ => rfl
  · exact o.pet (bin_sub a b) fun _ => rfl
  · exact o.pet (bin_mul o.K a b) fun _ => rfl
  · exact o.pet (bin_fdiv a b) fun _ => rfl
  · exact o.pet (bin_mod a b) fun _ => rfl
  · exact o.pet (bin_pow a b) fun _ => rfl
  · cases h1
def aUn (f : Expr → E → Bool) (nt : Bool) (x : E) : Expr → Bool
  | .UnaryOp .USub e _ => !nt && f e x
  | .UnaryOp .Not e _ => nt && (tst e x && f e x)
  | _ => false
theorem aNeg_ok (o : XOk P L C CX W G k sc X) (hf : ∀ e c, f e c = true → PET P L C W X e c) {x : E} {e : Expr} (h : aUn f false x e = true) : PET P L C W X e (.neg x) := by
  unfold aUn at h
  split at h
  · rw [Bool.and_eq_true] at h
    exact o.pet (sv_neg (hf _ _ h.2).1) fun _ => rfl
  · cases h
  · cases h
theorem aNot_ok (o : XOk P L C CX W G k sc X) (hf : ∀ e c, f e c = true → PET P L C W X e c) {x : E} {e : Expr} (h : aUn f true x e = true) : PET P L C W X e (.not x) := by
  unfold aUn at h
  split at h
  · cases h
  · rw [Bool.and_eq_true, Bool.and_eq_true] at h
    exact ⟨sv_notV o.K (hf _ _ h.2.2).1, fun _ => st_not ((hf _ _ h.2.2).2 h.2.1)⟩
  · cases h
def aAnd (f : Expr → E → Bool) (c : E) : Expr → Bool
  | .BoolOp .And es _ => andB f es c
  | _ => false
def aOr (f : Expr → E → Bool) (c : E) : Expr → Bool
  | .BoolOp .Or es _ => orB f es c
  | _ => false
theorem aAnd_ok (o : XOk P L C CX W G k sc X) (hf : ∀ e c, f e c = true → PET P L C W X e c) {x : E} {e : Expr} (h : aAnd f x e = true) : PET P L C W X e x := by
  unfold aAnd at h
  split at h
  · rename_i es pos
    have q := andB_ok o hf (pos := pos) h
    exact ⟨q.1, fun _ => q.2.pt⟩
  · cases h
theorem aOr_ok (o : XOk P L C CX W G k sc X) (hf : ∀ e c, f e c = true → PET P L C W X e c) {x : E} {e : Expr} (h : aOr f x e = true) : PET P L C W X e x := by
  unfold aOr at h
  split at h
  · rename_i es pos
    have q := orB_ok o hf (pos := pos) h
    exact ⟨q.1, fun _ => q.2.pt⟩
  · cases h
def aCmp (f : Expr → E → Bool) (c : Co) (x y : E) : Expr → Bool
  | .Compare a [op] [b] _ => decide (op = coOp c) && (f a x && (f b y && notSet b))
  | _ => false
theorem aCmp_ok (o : XOk P L C CX W G k sc X) (hf : ∀ e c, f e c = true → PET P L C W X e c) {c : Co} {x y : E} {e : Expr} (h : aCmp f c x y e = true) : PET P L C W X e (.cmp c x y) := by
  unfold aCmp at h
  split at h
  · simp only [Bool.and_eq_true, decide_eq_true_eq] at h
    obtain ⟨rfl, h1, h2, h3⟩ := h
    exact ⟨sv_cmp o.K o.un65 (hf _ _ h1).1 (hf _ _ h2).1 (marks_of h3), fun _ => st_cmp o.K o.un65 (hf _ _ h1).1 (hf _ _ h2).1 (marks_of h3)⟩
  · cases h
def aChn (f : Expr → E → Bool) (c d : Co) (x y z : E) : Expr → Bool
  | .Compare a [op, op2] [b, e] _ => decide (op = coOp c) && (decide (op2 = coOp d) && (f a x && (f b y && (f e z && notSet e))))
  | _ => false
theorem aChn_ok (o : XOk P L C CX W G k sc X) (hf : ∀ e c, f e c = true → PET P L C W X e c) {c d : Co} {x y z : E} {e : Expr} (h : aChn f c d x y z e = true) : PET P L C W X e (.chn c d x y z) := by
  unfold aChn at h
  split at h
  · simp only [Bool.and_eq_true, decide_eq_true_eq] at h
    obtain ⟨rfl, rfl, h1, h2, h3, h4⟩ := h
    exact ⟨sv_chn o.K o.un65 (hf _ _ h1).1 (hf _ _ h2).1 (hf _ _ h3).1 (marks_of h4), fun _ => st_chn o.K o.un65 (hf _ _ h1).1 (hf _ _ h2).1 (hf _ _ h3).1 (marks_of h4)⟩
  · cases h
def aIte (f : Expr → E → Bool) (x y z : E) : Expr → Bool
  | .IfExp a b c _ => (tst a x && f a x) && (f b y && f c z)
  | _ => false
theorem aIte_ok (o : XOk P L C CX W G k sc X) (hf : ∀ e c, f e c = true → PET P L C W X e c) {x y z : E} {e : Expr} (h : aIte f x y z e = true) : PET P L C W X e (.ite x y z) := by
  cases e <;> first | (cases h; done) | skip
  simp only [aIte, Bool.and_eq_true] at h
  exact ⟨sv_ite ((hf _ _ h.1.2).2 h.1.1) (hf _ _ h.2.1).1 (hf _ _ h.2.2).1, fun z => by cases z⟩
def aTup (f : Expr → E → Bool) (cs : Es) : Expr → Bool
  | .Tuple es _ _ => allEs f es cs
  | _ => false
theorem aTup_ok (o : XOk P L C CX W G k sc X) (hf : ∀ e c, f e c = true → PET P L C W X e c) {cs : Es} {e : Expr} (h : aTup f cs e = true) : PET P L C W X e (.tup cs) := by
  cases e <;> first | (cases h; done) | skip
  exact o.pet (sv_tup (allEs_sts hf h)) fun _ => rfl
def aLst (f : Expr → E → Bool) (cs : Es) : Expr → Bool
  | .List es _ => allEs f es cs
  | _ => false
theorem aLst_ok (o : XOk P L C CX W G k sc X) (hf : ∀ e c, f e c = true → PET P L C W X e c) {cs : Es} {e : Expr} (h : aLst f cs e = true) : PET P L C W X e (.lst cs) := by
  cases e <;> first | (cases h; done) | skip
  exact o.pet (sv_lst (allEs_sts hf h)) fun _ => rfl
def aIx (f : Expr → E → Bool) (x y : E) : Expr → Bool
  | .Subscript a b _ => notSlice b && (f a x && f b y)
  | _ => false
theorem aIx_ok (o : XOk P L C CX W G k sc X) (hf : ∀ e c, f e c = true → PET P L C W X e c) {x y : E} {e : Expr} (h : aIx f x y e = true) : PET P L C W X e (.ix x y) := by
  cases e <;> first | (cases h; done) | skip
  simp only [aIx, Bool.and_eq_true] at h
  exact o.pet (sv_ix o.K (hf _ _ h.2.1).1 (hf _ _ h.2.2).1 (plainIx_of h.1)) fun _ => rfl
def aPart (f : Expr → E → Bool) (c : E) : Option Expr → Bool
  | none => isNonK c
  | some e => !isNonK c && f e c
theorem nonK_eq {c : E} (h : isNonK c = true) : c = .k .non := by
  unfold isNonK at h
  split at h
  · rfl
  · cases h
theorem aPart_ok (hf : ∀ e c, f e c = true → PET P L C W X e c) {c : E} {e : Option Expr} (h : aPart f c e = true) : PO X e (SO P L C W c) := by
  cases e with
  | none =>
    have z := nonK_eq h
    subst z
    exact so_none
  | some e =>
    simp only [aPart, Bool.and_eq_true, Bool.not_eq_true'] at h
    exact so_some (hf _ _ h.2).1 h.1
def aSl (f : Expr → E → Bool) (x y z : E) : Expr → Bool
  | .Subscript a (.Slice lo hi none _) _ => f a x && (aPart f y lo && aPart f z hi)
  | _ => false
theorem aSl_ok (o : XOk P L C CX W G k sc X) (hf : ∀ e c, f e c = true → PET P L C W X e c) {x y z : E} {e : Expr} (h : aSl f x y z e = true) : PET P L C W X e (.sl x y z) := by
  unfold aSl at h
  split at h
  · simp only [Bool.and_eq_true] at h
    exact o.pet (sv_sl o.K (hf _ _ h.1).1 (aPart_ok hf h.2.1) (aPart_ok hf h.2.2)) fun _ => rfl
  · cases h
def aRev (f : Expr → E → Bool) (x : E) : Expr → Bool
  | .Subscript a (.Slice none none (some (.UnaryOp .USub (.Constant (.int i) _ _) _)) _) _ => decide (i = 1) && f a x
  | _ => false
theorem aRev_ok (o : XOk P L C CX W G k sc X) (hf : ∀ e c, f e c = true → PET P L C W X e c) {x : E} {e : Expr} (h : aRev f x e = true) : PET P L C W X e (.rev x) := by
  unfold aRev at h
  split at h
  · simp only [Bool.and_eq_true, decide_eq_true_eq] at h
    obtain ⟨rfl, h⟩ := h
    exact o.pet (sv_rev o.K (hf _ _ h).1) fun _ => rfl
  · cases h
def aCall (P : Prog) (G : Gt) (sc : Sc) (f : Expr → E → Bool) (g : Nat) (cs : Es) : Expr → Bool
  | .Call (.Name x _) es [] _ => decide (G.gf.lookup x = some g) && ((P.fns[g]?).isSome && ((isGl sc x && plainN x) && allEs f es cs))
  | _ => false
theorem aCall_ok (o : XOk P L C CX W G k sc X) (hf : ∀ e c, f e c = true → PET P L C W X e c) {g : Nat} {cs : Es} {e : Expr} (h : aCall P G sc f g cs e = true) : PET P L C W X e (.call g cs) := by
  unfold aCall at h
  split at h
  · rename_i x p es pos
    simp only [Bool.and_eq_true, decide_eq_true_eq] at h
    obtain ⟨h1, h2, ⟨h3, h4⟩, h5⟩ := h
    obtain ⟨fdm, h2⟩ := Option.isSome_iff_exists.mp h2
    obtain ⟨hk, fd, F, B⟩ := o.g.fn g fdm h2
    have hl := o.g.hl g fdm h2
    have rm : Room k X.A := ⟨o.room.hd, by have := o.room.dp; omega, by have := o.room.un; omega⟩
    cases es with
    | nil =>
      cases cs with
      | nil => exact o.pet (sv_call0 F o.gd rm (o.gl h3) (o.g.gf _ _ h1) hk B o.pass hl (plain1 h4)) fun _ => rfl
      | cons _ _ => cases h5
    | cons e es =>
      have st := allEs_star h5
      rw [List.all_cons, Bool.and_eq_true] at st
      exact o.pet (sv_call F o.gd rm (o.gl h3) (o.g.gf _ _ h1) hk B o.pass hl (allEs_sa hf h5) (plain1 h4) (starEach_of st.1) (star_any st.2)) fun _ => rfl
  · cases h
def aMk (P : Prog) (G : Gt) (sc : Sc) (f : Expr → E → Bool) (c : Nat) (cs : Es) : Expr → Bool
  | .Call (.Name x _) es [] _ => decide (G.gc.lookup x = some c) && (((P.cls[c]?).bind fun cd => P.fns[cd.init]?).isSome && ((isGl sc x && plainN x) && allEs f es cs))
  | _ => false
theorem aMk_ok (o : XOk P L C CX W G k sc X) (hf : ∀ e c, f e c = true → PET P L C W X e c) {c : Nat} {cs : Es} {e : Expr} (h : aMk P G sc f c cs e = true) : PET P L C W X e (.mk c cs) := by
  unfold aMk at h
  split at h
  · rename_i x p es pos
    simp only [Bool.and_eq_true, decide_eq_true_eq] at h
    obtain ⟨h1, h2, ⟨h3, h4⟩, h5⟩ := h
    cases e1 : P.cls[c]? with
    | none => rw [e1] at h2; cases h2
    | some cd =>
      rw [e1] at h2
      obtain ⟨fdm, h2⟩ := Option.isSome_iff_exists.mp h2
      have h2 : P.fns[cd.init]? = some fdm := h2
      obtain ⟨hk, fd, F, B⟩ := o.g.fn _ fdm h2
      have hl := o.g.hl _ fdm h2
      cases es with
      | nil =>
        cases cs with
        | nil => exact o.pet (sv_mk0 o.K e1 (o.g.mkr c cd e1) F o.gd o.room (o.gl h3) (o.g.gc _ _ h1) B o.pass hl (plain1 h4)) fun _ => rfl
        | cons _ _ => cases h5
      | cons e es =>
        have st := allEs_star h5
        rw [List.all_cons, Bool.and_eq_true] at st
        exact o.pet (sv_mk o.K e1 (o.g.mkr c cd e1) F o.gd o.room (o.gl h3) (o.g.gc _ _ h1) B o.pass hl (allEs_sa hf h5) (plain1 h4) (starEach_of st.1) (star_any st.2)) fun _ => rfl
  · cases h
def aFld (f : Expr → E → Bool) (c : E) (m : Str) : Expr → Bool
  | .Attribute o g _ => decide (g = m) && (attrOk o && f o c)
  | _ => false
theorem aFld_ok (o : XOk P L C CX W G k sc X) (hf : ∀ e c, f e c = true → PET P L C W X e c) {c : E} {m : Str} {e : Expr} (h : aFld f c m e = true) : PET P L C W X e (.fld c m) := by
  cases e <;> first | (cases h; done) | skip
  simp only [aFld, Bool.and_eq_true, decide_eq_true_eq] at h
  obtain ⟨rfl, h1, h2⟩ := h
  exact o.pet (sv_fld o.K o.g.cls (hf _ _ h2).1 (attr_base h1)) fun _ => rfl
theorem XOk.un9 (o : XOk P L C CX W G k sc X) : X.A.units + 9 < cLine := by have := o.room.un; omega
theorem XOk.eqF (o : XOk P L C CX W G k sc X) (c : Nat) (cd : Cd) (f : Nat) (h1 : P.cls[c]? = some cd) (h2 : cd.meths.lookup ("__eq__" : Str) = some f) : ∃ fd ps, FnG X.prog X.w X.K X.mg X.base CX k (L.ad f) fd ps (spOf L C 2 f) ∧ Binds X.K fd ps [] := by
  obtain ⟨fdm, e, l⟩ := o.g.eqf c cd f h1 h2
  obtain ⟨_, fd, F, B⟩ := o.g.fn f fdm e
  rw [l] at F
  exact ⟨fd, _, F, B⟩
theorem noSl_of {i : Expr} (h : notSlice i = true) : NoSl i := by
  intro ov iv
  cases i <;> first | rfl | cases h
/-! ### dicts, own classes -/
def aDnew (tk : Bool) : Expr → Bool
  | .Dict [] [] _ => true
  | _ => false
theorem aDnew_ok (o : XOk P L C CX W G k sc X) {tk : Bool} {e : Expr} (h : aDnew tk e = true) : PET P L C W X e (.dnew tk) := by
  unfold aDnew at h
  split at h
  · cases tk with
    | false => exact o.pet sv_dnewK fun _ => rfl
    | true => exact o.pet (sv_dnewT o.w) fun _ => rfl
  · cases h
def aDsing (f : Expr → E → Bool) (x y : E) : Expr → Bool
  | .Dict [some a] [b] _ => f a x && f b y
  | _ => false
theorem aDsing_ok (o : XOk P L C CX W G k sc X) (hf : ∀ e c, f e c = true → PET P L C W X e c) {x y : E} {e : Expr} (h : aDsing f x y e = true) : PET P L C W X e (.dsing x y) := by
  unfold aDsing at h
  split at h
  · rw [Bool.and_eq_true] at h
    exact o.pet (sv_dsing (hf _ _ h.1).1 (hf _ _ h.2).1) fun _ => rfl
  · cases h
theorem aDix_ok (o : XOk P L C CX W G k sc X) (hf : ∀ e c, f e c = true → PET P L C W X e c) {x y : E} {e : Expr} (h : aIx f x y e = true) : PET P L C W X e (.dix x y) := by
  cases e <;> first | (cases h; done) | skip
  simp only [aIx, Bool.and_eq_true] at h
  exact o.pet (sv_dix o.K o.w o.un9 (hf _ _ h.2.1).1 (hf _ _ h.2.2).1 (noSl_of h.1)) fun _ => rfl
def aDin (f : Expr → E → Bool) (neg : Bool) (x y : E) : Expr → Bool
  | .Compare a [op] [b] _ => decide (op = if neg then .NotIn else .In) && (f a x && (f b y && notSet b))
  | _ => false
theorem aDin_ok (o : XOk P L C CX W G k sc X) (hf : ∀ e c, f e c = true → PET P L C W X e c) {neg : Bool} {x y : E} {e : Expr} (h : aDin f neg x y e = true) : PET P L C W X e (.din neg x y) := by
  unfold aDin at h
  split at h
  · simp only [Bool.and_eq_true, decide_eq_true_eq] at h
    obtain ⟨rfl, h1, h2, h3⟩ := h
    exact ⟨sv_din o.K o.w o.un9 (hf _ _ h1).1 (hf _ _ h2).1 (marks_of h3), fun _ => st_din o.K o.w o.un9 (hf _ _ h1).1 (hf _ _ h2).1 (marks_of h3)⟩
  · cases h
theorem few_of {es : List Expr} {env : PySem.Env} {pos : Pos} (hs : es.all notStar = true) (hn : es.length < 29) : ((backTo pos (starEach es env)).all (fun x => !x.1) && (backToKw pos (keywordEach [] env)).all (fun x => x.1.isSome)
    && decide (es.length + ([] : List Keyword).length + (if ([] : List Keyword).isEmpty then 0 else 1) < 30)) = true := by
  have a : (backTo pos (starEach es env)).all (fun x => !x.1) = true := by
    rw [List.all_eq_not_any_not]
    simp only [Bool.not_not]
    rw [show (backTo pos (starEach es env)).any (fun x => x.1) = false from star_any hs]
    rfl
  rw [a]
  show (true && true && decide _) = true
  simp only [Bool.and_self, Bool.true_and, decide_eq_true_eq]
  show es.length + 0 + 0 < 30
  omega
theorem m1_of {oe a : Expr} {m : Str} {ap cp : Pos} (h1 : attrOk oe = true) (h2 : notStar a = true) (hl : (ap.endLine == cp.line) = true) : M1 X oe m ap a cp :=
  ⟨attr_base h1, few_of (by simp [h2]) (by simp), hl, by rw [starEach_of h2]; rfl⟩
theorem m2_of {oe a b : Expr} {m : Str} {ap cp : Pos} (h1 : attrOk oe = true) (h2 : notStar a = true) (h3 : notStar b = true) (hl : (ap.endLine == cp.line) = true) : M2 X oe m ap a b cp :=
  ⟨attr_base h1, few_of (by simp [h2, h3]) (by simp), hl, by rw [starEach_of h2, starEach_of h3]; rfl⟩
def aDget1 (f : Expr → E → Bool) (x y : E) : Expr → Bool
  | .Call (.Attribute oe m ap) [a] [] cp => decide (m = ("get" : Str)) && ((attrOk oe && f oe x) && ((notStar a && f a y) && (ap.endLine == cp.line)))
  | _ => false
theorem aDget1_ok (o : XOk P L C CX W G k sc X) (hf : ∀ e c, f e c = true → PET P L C W X e c) {x y : E} {e : Expr} (h : aDget1 f x y e = true) : PET P L C W X e (.dget1 x y) := by
  unfold aDget1 at h
  split at h
  · simp only [Bool.and_eq_true, decide_eq_true_eq] at h
    obtain ⟨rfl, ⟨h1, h2⟩, ⟨h3, h4⟩, h5⟩ := h
    exact o.pet (sv_dget1 o.K o.w o.un9 (hf _ _ h2).1 (hf _ _ h4).1 (m1_of h1 h3 h5)) fun _ => rfl
  · cases h
def aD3 (f : Expr → E → Bool) (m : Str) (x y z : E) : Expr → Bool
  | .Call (.Attribute oe g ap) [a, b] [] cp => decide (g = m) && ((attrOk oe && f oe x) && ((notStar a && f a y) && ((notStar b && f b z) && (ap.endLine == cp.line))))
  | _ => false
theorem aDget2_ok (o : XOk P L C CX W G k sc X) (hf : ∀ e c, f e c = true → PET P L C W X e c) {x y z : E} {e : Expr} (h : aD3 f "get" x y z e = true) : PET P L C W X e (.dget2 x y z) := by
  unfold aD3 at h
  split at h
  · simp only [Bool.and_eq_true, decide_eq_true_eq] at h
    obtain ⟨rfl, ⟨h1, h2⟩, ⟨h3, h4⟩, ⟨h5, h6⟩, h7⟩ := h
    exact o.pet (sv_dget2 o.K o.w o.un9 (hf _ _ h2).1 (hf _ _ h4).1 (hf _ _ h6).1 (m2_of h1 h3 h5 h7)) fun _ => rfl
  · cases h
theorem aDsetd_ok (o : XOk P L C CX W G k sc X) (hf : ∀ e c, f e c = true → PET P L C W X e c) {x y z : E} {e : Expr} (h : aD3 f "setdefault" x y z e = true) : PET P L C W X e (.dsetd x y z) := by
  unfold aD3 at h
  split at h
  · simp only [Bool.and_eq_true, decide_eq_true_eq] at h
    obtain ⟨rfl, ⟨h1, h2⟩, ⟨h3, h4⟩, ⟨h5, h6⟩, h7⟩ := h
    exact o.pet (sv_dsetd o.K o.w o.un9 (hf _ _ h2).1 (hf _ _ h4).1 (hf _ _ h6).1 (m2_of h1 h3 h5 h7)) fun _ => rfl
  · cases h
def aD1 (sc : Sc) (G : Gt) (f : Expr → E → Bool) (n : Str) (x : E) : Expr → Bool
  | .Call (.Name y _) [a] [] _ => isB sc G y n && (notStar a && f a x)
  | _ => false
theorem aDlen_ok (o : XOk P L C CX W G k sc X) (hf : ∀ e c, f e c = true → PET P L C W X e c) {x : E} {e : Expr} (h : aD1 sc G f "len" x e = true) : PET P L C W X e (.dlen x) := by
  unfold aD1 at h
  split at h
  · simp only [Bool.and_eq_true] at h
    obtain ⟨rfl, g, m⟩ := o.b h.1
    exact o.pet (sv_dlen o.K o.w g m (hf _ _ h.2.2).1 (starEach_of h.2.1)) fun _ => rfl
  · cases h
theorem aDsort_ok (o : XOk P L C CX W G k sc X) (hf : ∀ e c, f e c = true → PET P L C W X e c) {x : E} {e : Expr} (h : aD1 sc G f "sorted" x e = true) : PET P L C W X e (.dsort x) := by
  unfold aD1 at h
  split at h
  · simp only [Bool.and_eq_true] at h
    obtain ⟨rfl, g, m⟩ := o.b h.1
    exact o.pet (sv_dsort o.K o.calm g m (hf _ _ h.2.2).1 (starEach_of h.2.1)) fun _ => rfl
  · cases h
def aEqo (f : Expr → E → Bool) (neg : Bool) (x y : E) : Expr → Bool
  | .Compare a [op] [b] _ => decide (op = eqOp neg) && (f a x && (f b y && notSet b))
  | _ => false
theorem aEqo_ok (o : XOk P L C CX W G k sc X) (hf : ∀ e c, f e c = true → PET P L C W X e c) {neg : Bool} {x y : E} {e : Expr} (h : aEqo f neg x y e = true) : PET P L C W X e (.eqo neg x y) := by
  unfold aEqo at h
  split at h
  · simp only [Bool.and_eq_true, decide_eq_true_eq] at h
    obtain ⟨rfl, h1, h2, h3⟩ := h
    exact ⟨sv_eqo o.K o.w o.g.cls o.g.cx o.g.meth o.eqF o.gd o.room o.cxf (hf _ _ h1).1 (hf _ _ h2).1 (marks_of h3), fun _ => st_eqo o.K o.w o.g.cls o.g.cx o.g.meth o.eqF o.gd o.room o.cxf (hf _ _ h1).1 (hf _ _ h2).1 (marks_of h3)⟩
  · cases h
def aIsc (P : Prog) (sc : Sc) (G : Gt) (f : Expr → E → Bool) (x : E) (c : Nat) : Expr → Bool
  | .Call (.Name y _) [a, .Name z _] [] _ => isB sc G y "isinstance" && ((notStar a && f a x) && ((decide (G.gc.lookup z = some c) && (P.cls[c]?).isSome) && (isGl sc z && plainN z)))
  | _ => false
theorem aIsc_ok (o : XOk P L C CX W G k sc X) (hf : ∀ e c, f e c = true → PET P L C W X e c) {x : E} {c : Nat} {e : Expr} (h : aIsc P sc G f x c e = true) : PET P L C W X e (.isc x c) := by
  unfold aIsc at h
  split at h
  · simp only [Bool.and_eq_true, decide_eq_true_eq] at h
    obtain ⟨h1, ⟨h2, h3⟩, ⟨h4, h5⟩, h6, h7⟩ := h
    obtain ⟨rfl, g, m⟩ := o.b h1
    obtain ⟨cd, h5⟩ := Option.isSome_iff_exists.mp h5
    exact o.pet (sv_isc o.K o.w o.g.cls o.g.cx h5 (hf _ _ h3).1 g m (pe_cls (o.gl h6) (o.g.gc _ _ h4) (plain1 h7)) (starEach_of h2) rfl) fun _ => rfl
  · cases h
end Mini
/-! Mini: the checker: methods, built-ins, comprehensions; an expression as a whole. -/
set_option linter.all false
set_option autoImplicit false
set_option maxRecDepth 10000
namespace Mini
open PySem PySem.Spec PyProof.Rows L2
variable {P : Prog} {L : Lay} {C : Call} {CX : CXT} {W : WX} {G : Gt} {k : Nat} {sc : Sc} {X : Cx} {f : Expr → E → Bool}
def aMeth (P : Prog) (f : Expr → E → Bool) (c : Nat) (m : Str) (oc : E) (cs : Es) : Expr → Bool
  | .Call (.Attribute ob n p) es [] pos => decide (n = m) && (attrOk ob && (f ob oc && ((decide (es.length < 29) && (p.endLine == pos.line) && ((P.cls[c]?).bind fun cd => (cd.meths.lookup m).bind fun g => P.fns[g]?).isSome) && allEs f es cs)))
  | _ => false
theorem meth_eval {ob : Expr} {m : Str} {p pos : Pos} {es : List Expr} {env : PySem.Env} (h : attrOk ob = true) (hs : es.all notStar = true) (hn : es.length < 29) (hl : (p.endLine == pos.line) = true) :
    eval (.Call (.Attribute ob m p) es [] pos) env = (do
      let ov ← eval ob env
      standAt p.atName
      let (f, first) ← holding [ov] (getMethod ov m (do return (← importBound ob env).getD true))
      callWith pos f first (backTo pos (starEach es env)) (backToKw pos (keywordEach [] env))) := by
  rw [arm_eval_Call, attr_base h]
  have form : methodCallForm (es.length + ([] : List Keyword).length) (backTo pos (starEach es env)) (backToKw pos (keywordEach [] env)) = true := by
    have a : (backTo pos (starEach es env)).all (fun x => !x.1) = true := by
      rw [List.all_eq_not_any_not]
      simp only [Bool.not_not]
      rw [show (backTo pos (starEach es env)).any (fun x => x.1) = false from star_any hs]
      rfl
    unfold methodCallForm
    rw [a]
    show (true && true && decide _) = true
    simp only [Bool.and_self, Bool.true_and, decide_eq_true_eq]
    show es.length + 0 + 0 < 30
    omega
  congr 1
  funext ov
  congr 1
  funext _
  unfold methodCall
  rw [form]
  unfold methodCallPos calleeOf
  simp only [Bool.not_true, Bool.false_or, hl, if_true, pure_bind]
theorem aMeth_ok (o : XOk P L C CX W G k sc X) (hf : ∀ e c, f e c = true → PET P L C W X e c) {c : Nat} {m : Str} {oc : E} {cs : Es} {e : Expr} (h : aMeth P f c m oc cs e = true) : PET P L C W X e (.meth c m oc cs) := by
  unfold aMeth at h
  split at h
  · rename_i ob n p es pos
    simp only [Bool.and_eq_true, decide_eq_true_eq] at h
    obtain ⟨rfl, h1, h2, ⟨⟨hn, hln⟩, h3⟩, h4⟩ := h
    have hln : (p.endLine == pos.line) = true := by simpa using hln
    have ht := meth_eval (env := X.env) (m := n) (p := p) (es := es) (pos := pos) h1 (allEs_star h4) hn hln
    cases e1 : P.cls[c]? with
    | none => rw [e1] at h3; cases h3
    | some cd =>
      rw [e1] at h3
      cases e2 : cd.meths.lookup n with
      | none => simp only [Option.bind_some, e2] at h3; cases h3
      | some g =>
        simp only [Option.bind_some, e2] at h3
        obtain ⟨fdm, h3⟩ := Option.isSome_iff_exists.mp h3
        obtain ⟨hk, fd, F, B⟩ := o.g.fn _ fdm h3
        have hl := o.g.hl _ fdm h3
        have rm : Room k X.A := ⟨o.room.hd, by have := o.room.dp; omega, by have := o.room.un; omega⟩
        cases es with
        | nil =>
          cases cs with
          | nil =>
            exact o.pet (sv_meth0 o.K e1 (o.g.cls _ _ e1) (o.g.meth _ _ _ _ e1 e2) e2 (hf _ _ h2).1 F o.gd rm B o.pass hl ht) fun _ => rfl
          | cons _ _ => cases h4
        | cons e es =>
          have st := allEs_star h4
          rw [List.all_cons, Bool.and_eq_true] at st
          exact o.pet (sv_meth o.K e1 (o.g.cls _ _ e1) (o.g.meth _ _ _ _ e1 e2) e2 (hf _ _ h2).1 F o.gd rm B o.pass hl (allEs_sa hf h4) (starEach_of st.1) (star_any st.2) ht) fun _ => rfl
  · cases h
/-! ### isinstance -/
def aTy (sc : Sc) (G : Gt) (n : String) : Expr → Bool
  | .Name x _ => decide (x = (n : Str)) && isB sc G x n
  | _ => false
theorem aTy_ok (o : XOk P L C CX W G k sc X) {n : String} (hn : n ∈ ["int", "bool", "str", "list", "tuple", "dict"]) {e : Expr} (h : aTy sc G n e = true) : PE X e (tC (.ty n)) := by
  cases e <;> first | (cases h; done) | skip
  simp only [aTy, Bool.and_eq_true, decide_eq_true_eq] at h
  obtain ⟨h1, h2⟩ := h
  obtain ⟨e, g, m⟩ := o.b h2
  rw [h1]
  simp only [List.mem_cons, List.not_mem_nil, or_false] at hn
  rcases hn with rfl | rfl | rfl | rfl | rfl | rfl <;> exact pe_bltn (u := .type _) g m (by rfl) rfl
def aTys (sc : Sc) (G : Gt) : List String → List Expr → Bool
  | [], [] => true
  | n :: ns, e :: es => notStar e && (aTy sc G n e && aTys sc G ns es)
  | _, _ => false
theorem aTys_ok (o : XOk P L C CX W G k sc X) : ∀ {ns : List String} {es : List Expr}, (∀ n ∈ ns, n ∈ ["int", "bool", "str", "list", "tuple", "dict"]) → aTys sc G ns es = true → PA X es (tTys ns)
  | [], [], _, _ => pa_nil
  | [], _ :: _, _, h => by cases h
  | _ :: _, [], _, h => by cases h
  | n :: ns, e :: es, hn, h => by
    simp only [aTys, Bool.and_eq_true] at h
    exact pa_cons (aTy_ok o (hn n List.mem_cons_self) h.2.1) (aTys_ok o (fun m hm => hn m (List.mem_cons_of_mem _ hm)) h.2.2) (starEach_of h.1)
def aIsi (sc : Sc) (G : Gt) (f : Expr → E → Bool) (c : E) (ts : List Ty) : Expr → Bool
  | .Call (.Name x _) [e, .Tuple es _ _] [] _ => isB sc G x "isinstance" && (notStar e && (f e c && (match ts.mapM tyStr with
    | some ns => decide (ns.length ≤ 100) && aTys sc G ns es
    | none => false)))
  | .Call (.Name x _) [e, e2] [] _ => isB sc G x "isinstance" && (notStar e && (f e c && (match ts with
    | [t] => (match tyStr t with
      | some n => notStar e2 && aTy sc G n e2
      | none => false)
    | _ => false)))
  | _ => false
theorem tyStr_all : ∀ {ts : List Ty} {ns : List String}, ts.mapM tyStr = some ns → ∀ n ∈ ns, n ∈ ["int", "bool", "str", "list", "tuple", "dict"]
  | [], ns, e, n, hn => by
    simp only [List.mapM_nil, Option.pure_def, Option.some.injEq] at e
    subst e; cases hn
  | t :: ts, ns, e, n, hn => by
    rw [List.mapM_cons] at e
    cases e1 : tyStr t with
    | none => rw [e1] at e; cases e
    | some m =>
      cases e2 : ts.mapM tyStr with
      | none => rw [e1, e2] at e; cases e
      | some ms =>
        rw [e1, e2] at e
        cases e
        rcases List.mem_cons.mp hn with rfl | hn
        · exact tyStr_mem e1
        · exact tyStr_all e2 n hn
theorem aIsi_ok (o : XOk P L C CX W G k sc X) (hf : ∀ e c, f e c = true → PET P L C W X e c) {c : E} {ts : List Ty} {e : Expr} (h : aIsi sc G f c ts e = true) : PET P L C W X e (.isi c ts) := by
  unfold aIsi at h
  split at h
  · simp only [Bool.and_eq_true] at h
    obtain ⟨h1, h2, h3, h4⟩ := h
    obtain ⟨rfl, g, m⟩ := o.b h1
    cases e1 : ts.mapM tyStr with
    | none => rw [e1] at h4; cases h4
    | some ns =>
      rw [e1] at h4
      simp only [Bool.and_eq_true, decide_eq_true_eq] at h4
      exact o.pet (sv_isiT o.K (hf _ _ h3).1 g m (aTys_ok o (tyStr_all e1) h4.2) e1 h4.1 (starEach_of h2) rfl) fun _ => rfl
  · simp only [Bool.and_eq_true] at h
    obtain ⟨h1, h2, h3, h4⟩ := h
    obtain ⟨rfl, g, m⟩ := o.b h1
    split at h4
    · split at h4
      · rename_i n e1
        rw [Bool.and_eq_true] at h4
        exact o.pet (sv_isi1 o.K (hf _ _ h3).1 g m (aTy_ok o (tyStr_mem e1) h4.2) e1 (starEach_of h2) (starEach_of h4.1)) fun _ => rfl
      · cases h4
    · cases h4
  · cases h
/-! ### built-ins -/
def aRg (sc : Sc) (G : Gt) (f : Expr → E → Bool) (c d : E) : Expr → Bool
  | .Call (.Name x _) [e] [] _ => isB sc G x "range" && (notStar e && ((match c with
    | .k (.int i) => decide (i = 0)
    | _ => false) && f e d))
  | .Call (.Name x _) [e, e2] [] _ => isB sc G x "range" && ((notStar e && notStar e2) && (f e c && f e2 d))
  | _ => false
theorem zero_eq {c : E} (h : (match c with
    | .k (.int i) => decide (i = 0)
    | _ => false) = true) : c = .k (.int 0) := by
  split at h
  · rw [of_decide_eq_true h]
  · cases h
theorem aRg_ok (o : XOk P L C CX W G k sc X) (hf : ∀ e c, f e c = true → PET P L C W X e c) {c d : E} {e : Expr} (h : aRg sc G f c d e = true) : PRg X e (tRgS P L C W c d) := by
  unfold aRg at h
  split at h
  · simp only [Bool.and_eq_true] at h
    obtain ⟨h1, h2, h3, h4⟩ := h
    obtain ⟨rfl, g, m⟩ := o.b h1
    have z := zero_eq h3
    subst z
    exact prg_s1 g m (hf _ _ h4).1 (starEach_of h2)
  · simp only [Bool.and_eq_true] at h
    obtain ⟨h1, ⟨h2, h2'⟩, h3, h4⟩ := h
    obtain ⟨rfl, g, m⟩ := o.b h1
    exact prg_s2 g m (hf _ _ h3).1 (hf _ _ h4).1 (starEach_of h2) (starEach_of h2')
  · cases h
def aBi (sc : Sc) (G : Gt) (f : Expr → E → Bool) (b : Bi) (cs : Es) : Expr → Bool
  | .Call (.Name x _) es [] _ => (match b, cs with
    | .lenset, .cons c .nil => (match es with
      | [.Call (.Name y _) [a] [] _] => isB sc G x "len" && (isB sc G y "set" && (notStar a && f a c))
      | _ => false)
    | .sortedset, .cons c .nil => (match es with
      | [.Call (.Name y _) [a] [] _] => isB sc G x "sorted" && (isB sc G y "set" && (notStar a && f a c))
      | _ => false)
    | .list, .cons (.rng c d) .nil => (match es with
      | [e] => isB sc G x "list" && (notStar e && aRg sc G f c d e)
      | _ => false)
    | .tuple, .cons (.rng c d) .nil => (match es with
      | [e] => isB sc G x "tuple" && (notStar e && aRg sc G f c d e)
      | _ => false)
    | b, cs => (match biF b with
      | some p => isB sc G x p.1 && (!es.isEmpty && allEs f es cs)
      | none => false))
  | _ => false
theorem aBi_ok (o : XOk P L C CX W G k sc X) (hf : ∀ e c, f e c = true → PET P L C W X e c) {b : Bi} {cs : Es} {e : Expr} (h : aBi sc G f b cs e = true) : PET P L C W X e (.bi b cs) := by
  unfold aBi at h
  split at h
  · split at h
    · split at h
      · simp only [Bool.and_eq_true] at h
        obtain ⟨h1, h2, h3, h4⟩ := h
        obtain ⟨rfl, g, m⟩ := o.b h1
        obtain ⟨rfl, g2, m2⟩ := o.b h2
        exact o.pet (sv_lenset o.K o.calm g m g2 m2 (hf _ _ h4).1 (starEach_of h3)) fun _ => rfl
      · cases h
    · split at h
      · simp only [Bool.and_eq_true] at h
        obtain ⟨h1, h2, h3, h4⟩ := h
        obtain ⟨rfl, g, m⟩ := o.b h1
        obtain ⟨rfl, g2, m2⟩ := o.b h2
        exact o.pet (sv_sortset o.K o.calm g m g2 m2 (hf _ _ h4).1 (starEach_of h3)) fun _ => rfl
      · cases h
    · split at h
      · simp only [Bool.and_eq_true] at h
        obtain ⟨h1, h2, h3⟩ := h
        obtain ⟨rfl, g, m⟩ := o.b h1
        exact o.pet (sv_listRg o.calm g m (aRg_ok o hf h3) (starEach_of h2)) fun _ => rfl
      · cases h
    · split at h
      · simp only [Bool.and_eq_true] at h
        obtain ⟨h1, h2, h3⟩ := h
        obtain ⟨rfl, g, m⟩ := o.b h1
        exact o.pet (sv_tupRg o.calm g m (aRg_ok o hf h3) (starEach_of h2)) fun _ => rfl
      · cases h
    · rename_i es pos b cs _ _ _ _
      split at h
      · rename_i p e1
        obtain ⟨y, u⟩ := p
        simp only [Bool.and_eq_true] at h
        obtain ⟨h1, h2, h3⟩ := h
        obtain ⟨rfl, g, m⟩ := o.b h1
        cases es with
        | nil => cases h2
        | cons e es =>
          have st := allEs_star h3
          rw [List.all_cons, Bool.and_eq_true] at st
          exact o.pet (sv_bi o.K o.calm o.gd o.un e1 g m (allEs_sa hf h3) (starEach_of st.1) (star_any st.2)) fun _ => rfl
      · cases h
  · cases h
/-! ### targets, iterables -/
def nmB (sc : Sc) : List Expr → List Nat → Bool
  | [], [] => true
  | .Name x _ :: es, i :: is => atN sc i x && (isSto sc x && nmB sc es is)
  | _, _ => false
theorem nmB_ok (o : XOk P L C CX W G k sc X) : ∀ {es : List Expr} {is : List Nat}, nmB sc es is = true → PGs X es (gNs is) ∧ (assignEach es X.env).length = is.length ∧ (assignEach es X.env).findIdx? (·.1) = none
  | [], [], _ => ⟨pgs_nil, rfl, rfl⟩
  | [], _ :: _, h => by cases h
  | e :: es, [], h => by cases e <;> cases h
  | e :: es, i :: is, h => by
    cases e <;> first | (cases h; done) | skip
    rename_i x pos
    simp only [nmB, Bool.and_eq_true] at h
    obtain ⟨h1, h2, h3⟩ := nmB_ok o h.2.2
    refine ⟨pgs_cons (pg_name o.ndX (o.at h.1) (o.loc h.2.1) (o.fn x h.2.1)) h1, ?_, ?_⟩
    · show (assignEach es X.env).length + 1 = is.length + 1
      rw [h2]
    · show (((false, assign (.Name x pos) X.env) :: assignEach es X.env).findIdx? (·.1)) = none
      rw [List.findIdx?_cons, h3]
      rfl
def aTg (sc : Sc) : Expr → Tg → Bool
  | .Name x _, .v i => atN sc i x && isSto sc x
  | .Tuple es _ _, .p is => nmB sc es is
  | _, _ => false
theorem aTg_ok (o : XOk P L C CX W G k sc X) {e : Expr} {g : Tg} (h : aTg sc e g = true) : PG X e (tgR L.K g) := by
  unfold aTg at h
  split at h
  · rename_i x pos i
    rw [Bool.and_eq_true] at h
    exact pg_name o.ndX (o.at h.1) (o.loc h.2) (o.fn x h.2)
  · rename_i es kk pos is
    obtain ⟨h1, h2, h3⟩ := nmB_ok o h
    have q := pg_tup (k := kk) (pos := pos) o.calm h1 h2 h3
    rw [o.K] at q
    exact q
  · cases h
def aIt (sc : Sc) (G : Gt) (f : Expr → E → Bool) (tg iter : Expr) : E → Bool
  | .rng c d => aRg sc G f c d iter
  | .enum c => (match tg, iter with
    | .Tuple _ _ _, .Call (.Name x _) [e] [] _ => isB sc G x "enumerate" && (notStar e && f e c)
    | _, _ => false)
  | .zip c d => (match tg, iter with
    | .Tuple _ _ _, .Call (.Name x _) [e, e2] [] _ => isB sc G x "zip" && ((notStar e && notStar e2) && (f e c && f e2 d))
    | _, _ => false)
  | .rng3 c d => (match iter with
    | .Call (.Name x _) [e, e2, e3] [] _ => isB sc G x "range" && ((notStar e && (notStar e2 && notStar e3)) && (f e c && (f e2 d && f e3 (.neg (.k (.int 1))))))
    | _ => false)
  | c => notSet iter && f iter c
theorem aIt_ok (o : XOk P L C CX W G k sc X) (hf : ∀ e c, f e c = true → PET P L C W X e c) {tg iter : Expr} {it : E} (h : aIt sc G f tg iter it = true) : PI X tg iter (SI P L C W it) ∧ ∀ x, foldedSetIterable iter X.env x = pure x := by
  unfold aIt at h
  split at h
  · unfold aRg at h
    split at h
    · simp only [Bool.and_eq_true] at h
      obtain ⟨h1, h2, h3, h4⟩ := h
      obtain ⟨rfl, g, m⟩ := o.b h1
      have z := zero_eq h3
      subst z
      exact ⟨si_rng1 g m (hf _ _ h4).1 (starEach_of h2), fun _ => rfl⟩
    · simp only [Bool.and_eq_true] at h
      obtain ⟨h1, ⟨h2, h2'⟩, h3, h4⟩ := h
      obtain ⟨rfl, g, m⟩ := o.b h1
      exact ⟨si_rng2 g m (hf _ _ h3).1 (hf _ _ h4).1 (starEach_of h2) (starEach_of h2'), fun _ => rfl⟩
    · cases h
  · split at h
    · simp only [Bool.and_eq_true] at h
      obtain ⟨h1, h2, h3⟩ := h
      obtain ⟨rfl, g, m⟩ := o.b h1
      exact ⟨si_enum o.K g m (hf _ _ h3).1 (starEach_of h2), fun _ => rfl⟩
    · cases h
  · split at h
    · simp only [Bool.and_eq_true] at h
      obtain ⟨h1, ⟨h2, h2'⟩, h3, h4⟩ := h
      obtain ⟨rfl, g, m⟩ := o.b h1
      exact ⟨si_zip o.K g m (hf _ _ h3).1 (hf _ _ h4).1 (starEach_of h2) (starEach_of h2'), fun _ => rfl⟩
    · cases h
  · split at h
    · simp only [Bool.and_eq_true] at h
      obtain ⟨h1, ⟨h2, h2', h2''⟩, h3, h4, h5⟩ := h
      obtain ⟨rfl, g, m⟩ := o.b h1
      exact ⟨si_rng3 g m (hf _ _ h3).1 (hf _ _ h4).1 (hf _ _ h5).1 (starEach_of h2) (starEach_of h2') (starEach_of h2''), fun _ => rfl⟩
    · cases h
  · rw [Bool.and_eq_true] at h
    exact ⟨si_seq o.K (hf _ _ h.2).1, set_iter h.1⟩
/-! ### comprehensions -/
def inner (sc : Sc) (scope : Scope) : Sc := ⟨sc.N, relS scope sc.scope, some scope⟩
def ownOf (sc : Sc) (is : List Nat) : List (Str × Nat) := is.map fun i => (sc.N.getD i Str.empty, i)
theorem ownOf_snd {is : List Nat} : (ownOf sc is).map (·.2) = is := by
  unfold ownOf
  rw [List.map_map]
  exact List.map_id is
def ifsB (f : Expr → E → Bool) : List Expr → E → Bool
  | [], .k (.bl b) => b
  | [e], c => tst e c && f e c
  | _, _ => false
def aLc (G : Gt) (f f2 : Scope → Expr → E → Bool) (sc : Sc) (g : Tg) (it c e : E) (own : List Nat) : Expr → Bool
  | .ListComp elt [⟨tg, iter, ifs, 0⟩] scope _ => blkC sc.N sc.scope scope (ownOf sc own) && (tgIx g).all (fun i => own.any fun j => decide (i = j)) && (aTg (inner sc scope) tg g && (aIt sc G (f scope) tg iter it && (ifsB (f2 scope) ifs c && f2 scope elt e)))
  | _ => false
theorem inner_ok (o : XOk P L C CX W G k sc X) {scope : Scope} (hk : scope.kind = .function) (s : Shared) (H : Hp) (Ca : Addr) (cl : List (Str × Addr)) (fp : List Addr) : XOk P L C CX WF G k (inner sc scope) (X.blk s H scope (compEnvC scope cl Ca X.env) fp) where
  g := ⟨o.g.gf, o.g.gc, o.g.gb, o.g.con, o.g.cls, o.g.meth, o.g.mkr, o.g.fn, o.g.hl, o.g.cx, o.g.eqf⟩
  K := o.K
  w := o.w
  calm := o.calm
  N := o.N
  nd := o.nd
  scope := by
    show relS scope X.env.scope = relS scope sc.scope
    rw [o.scope]
  fn := fun x h => by
    unfold isSto Sc.kind at h
    have e : (X.blk s H scope (compEnvC scope cl Ca X.env) fp).env.scope = (inner sc scope).scope := by
      show relS scope X.env.scope = relS scope sc.scope
      rw [o.scope]
    split at h
    · rename_i e1; exact .inr (by rw [e]; exact e1)
    · exact .inl h
    · cases h
  room := o.room
  gd := o.gd
  pass := fun σ pins H s e s' I c => (o.cxf _ _ _ _ _ c).elim
  kind := hk
  cxf := o.cxf
theorem aLc_ok (o : XOk P L C CX W G k sc X) {f f2 : Scope → Expr → E → Bool} (hf : ∀ scope e c, f scope e c = true → PET P L C W X e c) (hf2 : ∀ (scope : Scope) (X' : Cx), XOk P L C CX WF G k (inner sc scope) X' → ∀ e c, f2 scope e c = true → PET P L C WF X' e c)
    {g : Tg} {it c d : E} {own : List Nat} {e : Expr} (h : aLc G f f2 sc g it c d own e = true) : PET P L C W X e (.lc g it c d own) := by
  unfold aLc at h
  split at h
  · rename_i elt tg iter ifs scope pos
    simp only [Bool.and_eq_true] at h
    obtain ⟨⟨h1, h2⟩, h3, h4, h5, h6⟩ := h
    rw [← o.N, ← o.scope] at h1
    have bk := blkOk_by h1
    have inn := fun s H Ca cl fp => inner_ok o bk.kind s H Ca cl fp
    have it := aIt_ok o (hf scope) h4
    have e0 := ownOf_snd (sc := sc) (is := own)
    refine o.pet ?_ fun _ => rfl
    rw [← e0]
    refine sv_lc o.calm o.ndX it.1 bk (fun i hi => ?_) (fun s H Ca cl fp => aTg_ok (inn s H Ca cl fp) h3) (fun s H Ca cl fp => ?_) (fun s H Ca cl fp => (hf2 scope _ (inn s H Ca cl fp) _ _ h6).1) it.2
    · rw [e0]
      have z := List.all_eq_true.mp h2 i hi
      obtain ⟨j, hj, e⟩ := List.any_eq_true.mp z
      rw [of_decide_eq_true e]; exact hj
    · clear h6
      unfold ifsB at h5
      split at h5
      · subst h5; exact pts_yes
      · rw [Bool.and_eq_true] at h5
        exact pts_one ((hf2 scope _ (inn s H Ca cl fp) _ _ h5.2).2 h5.1)
      · cases h5
  · cases h
theorem sv_mat_imp {c : E} {σ : L2.St} {H : Hp} {Q : VK} (h : SV P L C W (.mat c) σ H Q) : SV P L C W c σ H Q := by
  obtain ⟨ρ, th, env, hR, hE, q⟩ := h
  simp only [evalV] at q
  refine sv_step hR hE q fun ρ1 th1 H1 tv v x1 R1 E1 rv h1 => ?_
  exact mat_step R1 x1 rv h1 fun ρ2 th2 y x2 R2 ry _ h2 => fin_ok h2 x2 R2 ry
theorem aMat_ok {e : Expr} {c : E} (h : PET P L C W X e c) : PET P L C W X e (.mat c) := ⟨PE.imp h.1 fun σ H Q q => sv_mat_imp q, fun z => by
  unfold tst at z
  rw [Bool.and_false] at z
  cases z⟩
/-- the checker -/
def aBm (f : Expr → E → Bool) (m : Bm) (co : E) (cs : Es) : Expr → Bool
  | .Call (.Attribute oe x ap) es [] p2 => (match m, cs, es with
    | .popAt, .cons c .nil, [e] => decide (x = ("pop" : Str)) && ((attrOk oe && f oe co) && ((notStar e && f e c) && (ap.endLine == p2.line)))
    | .pop, .nil, [] => decide (x = ("pop" : Str)) && ((attrOk oe && f oe co) && (ap.endLine == p2.line))
    | _, _, _ => false)
  | _ => false
theorem aBm_ok (o : XOk P L C CX W G k sc X) (hf : ∀ e c, f e c = true → PET P L C W X e c) {m : Bm} {co : E} {cs : Es} {e : Expr} (h : aBm f m co cs e = true) : PET P L C W X e (.bm m co cs) := by
  unfold aBm at h
  split at h
  · split at h
    · simp only [Bool.and_eq_true, decide_eq_true_eq] at h
      obtain ⟨rfl, ⟨h1, h2⟩, ⟨h4, h5⟩, h6⟩ := h
      exact o.pet (sv_popAt o.K (hf _ _ h2).1 (hf _ _ h5).1 (starEach_of h4) h6 (attr_base h1)) fun _ => rfl
    · simp only [Bool.and_eq_true, decide_eq_true_eq] at h
      obtain ⟨rfl, ⟨h1, h2⟩, h6⟩ := h
      exact o.pet (sv_pop o.K (hf _ _ h2).1 h6 (attr_base h1)) fun _ => rfl
    · cases h
  · cases h
def chkE (P : Prog) (G : Gt) : Nat → Sc → Expr → E → Bool
  | 0, _, _, _ => false
  | n + 1, sc, e, c => match c with
    | .v i => aV sc i e
    | .k t => aK t e
    | .gl g => aGl P sc g e
    | .fnv g => aFnv G sc g e
    | .bin b x y => aBin (chkE P G n sc) b x y e
    | .neg x => aUn (chkE P G n sc) false x e
    | .not x => aUn (chkE P G n sc) true x e
    | .and x y => aAnd (chkE P G n sc) (.and x y) e
    | .or x y => aOr (chkE P G n sc) (.or x y) e
    | .cmp o x y => aCmp (chkE P G n sc) o x y e
    | .chn o p x y z => aChn (chkE P G n sc) o p x y z e
    | .ite x y z => aIte (chkE P G n sc) x y z e
    | .tup cs => aTup (chkE P G n sc) cs e
    | .lst cs => aLst (chkE P G n sc) cs e
    | .ix x y => aIx (chkE P G n sc) x y e
    | .sl x y z => aSl (chkE P G n sc) x y z e
    | .rev x => aRev (chkE P G n sc) x e
    | .call g cs => aCall P G sc (chkE P G n sc) g cs e
    | .bi b cs => aBi sc G (chkE P G n sc) b cs e
    | .meth c m x cs => aMeth P (chkE P G n sc) c m x cs e
    | .mk c cs => aMk P G sc (chkE P G n sc) c cs e
    | .fld x m => aFld (chkE P G n sc) x m e
    | .lc g it t d own => aLc G (fun _ => chkE P G n sc) (fun scope => chkE P G n (inner sc scope)) sc g it t d own e
    | .isi x ts => aIsi sc G (chkE P G n sc) x ts e
    | .bm m x cs => aBm (chkE P G n sc) m x cs e
    | .mat x => chkE P G n sc e x
    | .dnew tk => aDnew tk e
    | .dsing x y => aDsing (chkE P G n sc) x y e
    | .dix x y => aIx (chkE P G n sc) x y e
    | .din neg x y => aDin (chkE P G n sc) neg x y e
    | .dget1 x y => aDget1 (chkE P G n sc) x y e
    | .dget2 x y z => aD3 (chkE P G n sc) "get" x y z e
    | .dsetd x y z => aD3 (chkE P G n sc) "setdefault" x y z e
    | .dlen x => aD1 sc G (chkE P G n sc) "len" x e
    | .dsort x => aD1 sc G (chkE P G n sc) "sorted" x e
    | .eqo neg x y => aEqo (chkE P G n sc) neg x y e
    | .isc x c => aIsc P sc G (chkE P G n sc) x c e
    | _ => false
set_option maxHeartbeats 2000000 in
theorem chkE_ok : ∀ (n : Nat) (W : WX) (sc : Sc) (X : Cx), XOk P L C CX W G k sc X → ∀ (e : Expr) (c : E), chkE P G n sc e c = true → PET P L C W X e c
  | 0, _, _, _, _, _, _, h => by cases h
  | n + 1, W, sc, X, o, e, c, h => by
    have hf := chkE_ok n W sc X o
    cases c with
    | v i => exact aV_ok o h
    | k t => exact aK_ok o h
    | gl g => exact aGl_ok o h
    | fnv g => exact aFnv_ok o h
    | bin b x y => exact aBin_ok o hf h
    | neg x => exact aNeg_ok o hf h
    | not x => exact aNot_ok o hf h
    | and x y => exact aAnd_ok o hf h
    | or x y => exact aOr_ok o hf h
    | cmp b x y => exact aCmp_ok o hf h
    | chn b p x y z => exact aChn_ok o hf h
    | ite x y z => exact aIte_ok o hf h
    | tup cs => exact aTup_ok o hf h
    | lst cs => exact aLst_ok o hf h
    | ix x y => exact aIx_ok o hf h
    | sl x y z => exact aSl_ok o hf h
    | rev x => exact aRev_ok o hf h
    | call g cs => exact aCall_ok o hf h
    | bi b cs => exact aBi_ok o hf h
    | meth c m x cs => exact aMeth_ok o hf h
    | mk c cs => exact aMk_ok o hf h
    | fld x m => exact aFld_ok o hf h
    | lc g it t d own => exact aLc_ok o (fun _ => hf) (fun scope X' o' => chkE_ok n WF (inner sc scope) X' o') h
    | rng a b => cases h
    | enum a => cases h
    | zip a b => cases h
    | mat x => exact aMat_ok (chkE_ok n W sc X o _ _ h)
    | isi x ts => exact aIsi_ok o hf h
    | bm m x cs => exact aBm_ok o hf h
    | dnew tk => exact aDnew_ok o h
    | dsing x y => exact aDsing_ok o hf h
    | dix x y => exact aDix_ok o hf h
    | din neg x y => exact aDin_ok o hf h
    | dget1 x y => exact aDget1_ok o hf h
    | dget2 x y z => exact aDget2_ok o hf h
    | dsetd x y z => exact aDsetd_ok o hf h
    | dlen x => exact aDlen_ok o hf h
    | dsort x => exact aDsort_ok o hf h
    | eqo neg x y => exact aEqo_ok o hf h
    | isc x c => exact aIsc_ok o hf h
    | rng3 a b => cases h
end Mini
/-! Mini: the checker: statements. -/
set_option linter.all false
set_option autoImplicit false
set_option maxRecDepth 10000
namespace Mini
open PySem PySem.Spec PyProof.Rows L2
variable {P : Prog} {L : Lay} {C : Call} {CX : CXT} {W : WX} {G : Gt} {k : Nat} {sc : Sc} {X : Cx} {f : Expr → E → Bool}
def notComp : Expr → Bool
  | .ListComp .. => false
  | .SetComp .. => false
  | .DictComp .. => false
  | _ => true
theorem swaps_no {e : Expr} {t : Option Expr} {l : Nat} {env : PySem.Env} (h : notComp e = true) : swapsWith e t l env = pure false := by
  cases e <;> first | rfl | cases h
theorem blockKind_fn {env : PySem.Env} (hk : env.scope.kind = .function) : env.blockKind = .function := by unfold Env.blockKind; rw [hk]; rfl
theorem sw_par {env : PySem.Env} {x y : Str} {px py pt pt2 : Pos} {kt k2 : Nat} {a b : Expr} (hk : env.scope.kind = .function) (hx : env.scope.names.lookup x = some .local) (hy : env.scope.names.lookup y = some .local) (hxy : x ≠ y) (hl : (px.line == py.line) = true) (na : notStar a = true) (nb : notStar b = true)
    (h1 : (foldedForSure 8 a && foldedForSure 8 b) = false) (h2 : (constantsAlone 8 a && constantsAlone 8 b) = false) : swappedStores [.Tuple [.Name x px, .Name y py] kt pt] (.Tuple [a, b] k2 pt2) env = pure (some [x, y]) := by
  have kx : env.kindOf x = some .local := hx
  have ky : env.kindOf y = some .local := hy
  have hb := blockKind_fn hk
  have hl' : (py.line == px.line) = true := by
    have := eq_of_beq hl
    rw [this]; exact beq_self_eq_true _
  have nyx : (y == x) = false := by
    cases z : y == x with
    | false => rfl
    | true => exact absurd (eq_of_beq z).symm hxy
  unfold swappedStores
  simp only [List.length_cons, List.length_nil, List.any_cons, List.any_nil, List.head?_cons, Option.map_some, Option.getD_some, Expr.pos, List.filterMap_cons, List.filterMap_nil, kx, ky, hb, hl', beq_self_eq_true, Bool.and_self, if_true, List.all_cons, List.all_nil, Bool.and_true, h1, h2]
  have ed : [x, y].eraseDups.length = 2 := by
    rw [List.eraseDups_cons, List.filter_cons]
    simp [nyx, List.eraseDups_cons]
  simp [ed]
  intro hh
  exfalso
  rcases hh with hh | hh
  · cases a <;> first | (cases hh; done) | cases na
  · cases b <;> first | (cases hh; done) | cases nb
theorem sole_tuple {es : List Expr} {kt : Nat} {pt : Pos} {e : Expr} {l : Nat} {env : PySem.Env} : swapsWithSole [.Tuple es kt pt] e l env = pure false := by
  cases e <;> rfl
theorem sole_sub {o i : Expr} {pt : Pos} {e : Expr} {l : Nat} {env : PySem.Env} : swapsWithSole [.Subscript o i pt] e l env = pure false := by
  cases e <;> rfl
theorem attr_swaps {o : Expr} {m : Str} {pt : Pos} {e : Expr} {l : Nat} {env : PySem.Env} : swapsWith e (some (.Attribute o m pt)) l env = pure false := by
  cases e <;> rfl
def notTup : Expr → Bool
  | .Tuple .. => false
  | _ => true
theorem stores_tup {es : List Expr} {kt : Nat} {pt : Pos} {e : Expr} {env : PySem.Env} (h : notTup e = true) : swappedStores [.Tuple es kt pt] e env = pure none := by
  cases e <;> first | rfl | cases h
/-- three ways in which a tuple's stores are not swapped: long ones, names that are not local, constants alone -/
def locNm (sc : Sc) : Expr → Option Str
  | .Name x _ => if isLocal sc x then some x else none
  | _ => none
def noSwap (sc : Sc) (ts : List Expr) : Expr → Bool
  | .Tuple vs _ _ => !(ts.length == 2 || ts.length == 3) || (decide ((ts.filterMap (locNm sc)).length < ts.length) || vs.all (foldedForSure 8))
  | _ => false
theorem filterMap_le {α β : Type} {f g : α → Option β} (h : ∀ a, (f a).isSome = true → (g a).isSome = true) : ∀ l : List α, (l.filterMap f).length ≤ (l.filterMap g).length
  | [] => Nat.le_refl _
  | a :: l => by
    have ih := filterMap_le h l
    have := h a
    cases hf : f a with
    | none =>
      cases hg : g a with
      | none => simpa [List.filterMap_cons, hf, hg] using ih
      | some b => simp [List.filterMap_cons, hf, hg]; omega
    | some b =>
      obtain ⟨b', hg⟩ := Option.isSome_iff_exists.mp (this (by rw [hf]; rfl))
      simp [List.filterMap_cons, hf, hg]
      exact ih
theorem stores_noswap (o : XOk P L C CX W G k sc X) {es : List Expr} {kt : Nat} {pt : Pos} {e : Expr} (h : noSwap sc es e = true) : swappedStores [.Tuple es kt pt] e X.env = pure none := by
  cases e <;> first | (cases h; done) | skip
  rename_i vs k p
  simp only [noSwap, Bool.or_eq_true, decide_eq_true_eq] at h
  have key : ∀ (A B C D : Bool) (x : Sem (Option (List Str))), (A = true ∨ C = true ∨ D = true) → (if A = true then pure none else if B = true then pure none else if C = true then pure none else if D = true then pure none else x) = (pure none : Sem (Option (List Str))) := by
    intro A B C D x h
    cases A <;> cases B <;> cases C <;> cases D <;> first | rfl | (simp at h; done)
  unfold swappedStores
  refine key _ _ _ _ _ ?_
  rcases h with h | h | h
  · refine .inl ?_
    rw [h, Bool.true_or, Bool.true_or]
  · refine .inr (.inl ?_)
    rw [Bool.or_eq_true]
    refine .inl (bne_iff_ne.mpr (Nat.ne_of_lt (Nat.lt_of_le_of_lt (filterMap_le (g := locNm sc) (fun a ha => ?_) es) h)))
    cases a <;> simp only [Option.isSome_none, Bool.false_eq_true] at ha
    rename_i x px
    split at ha
    · rename_i c4
      simp only [Bool.and_eq_true, beq_iff_eq] at c4
      have c5 : sc.scope.names.lookup x = some .local := by
        have := c4.1
        unfold Env.kindOf at this
        rw [o.scope] at this
        exact this
      have c6 : isLocal sc x = true := by
        unfold isLocal Sc.kind
        rw [c5]
      show (if isLocal sc x = true then some x else none).isSome = true
      rw [if_pos c6]
      rfl
    · cases ha
  · exact .inr (.inr h)
theorem swaps_cell (o : XOk P L C CX W G k sc X) {y : Str} {py pos : Pos} {elt : Expr} {gs : List Comprehension} {scope : Scope} {l : Nat} (h : isLocal sc y = false) : swapsWith (.ListComp elt gs scope pos) (some (.Name y py)) l X.env = pure false := by
  have hk : (X.env.kindOf y == some .local) = false := by
    unfold Env.kindOf
    rw [o.scope]
    unfold isLocal Sc.kind at h
    split at h
    · cases h
    · rename_i c
      cases e : sc.scope.names.lookup y with
      | none => rfl
      | some kd => cases kd <;> first | rfl | exact absurd e c
  show (pure (X.env.blockKind == ScopeKind.function && X.env.kindOf y == some .local && py.line == pos.line && !(scope.names.any fun (n, k) => n == y && (k == .local || k == .cell))) : Sem Bool) = _
  rw [hk, Bool.and_false, Bool.false_and, Bool.false_and]
theorem stores_sub {o i : Expr} {pt : Pos} {e : Expr} {env : PySem.Env} : swappedStores [.Subscript o i pt] e env = pure none := by
  cases e <;> rfl
theorem assign_sub {o i : Expr} {pt : Pos} {env : PySem.Env} {v : Value} (h : notSlice i = true) : assign (.Subscript o i pt) env v = (do
      let ov ← holding [v] (eval o env)
      let iv ← holding [v, ov] (eval i env)
      standAt pt
      holding [v, ov, iv] (setItem ov iv v)
      release [v, ov, iv] []) := by
  cases i <;> first | rfl | cases h
theorem aLcS_ok (o : XOk P L C CX W G k sc X) {f f2 : Scope → Expr → E → Bool} (hf : ∀ scope e c, f scope e c = true → PET P L C W X e c) (hf2 : ∀ (scope : Scope) (X' : Cx), XOk P L C CX WF G k (inner sc scope) X' → ∀ e c, f2 scope e c = true → PET P L C WF X' e c)
    {g : Tg} {it c d : E} {own : List Nat} {elt : Expr} {gs : List Comprehension} {scope : Scope} {pos py spos : Pos} {y : Str} {i : Nat} (h : aLc G f f2 sc g it c d own (.ListComp elt gs scope pos) = true) (hy : atN sc i y = true) (hl : isLocal sc y = true) (hn : (py.line == pos.line) = true)
    (ha : (scope.names.any fun (n, k) => n == y && (k == .local || k == .cell)) = false) : PS X (.Assign [.Name y py] (.ListComp elt gs scope pos) spos) (SS P L C W (.asg i (.lc g it c d own))) ∧ PS X (.Assign [.Name y py] (.ListComp elt gs scope pos) spos) (SS P L C W (.asg i (.mat (.lc g it c d own)))) := by
  unfold aLc at h
  split at h
  · rename_i elt' tg iter ifs scope' pos' e0
    injection e0 with a1 a2 a3 a4
    subst a1 a2 a3 a4
    simp only [Bool.and_eq_true] at h
    obtain ⟨⟨h1, h2⟩, h3, h4, h5, h6⟩ := h
    rw [← o.N, ← o.scope] at h1
    have bk := blkOk_by h1
    have inn := fun s H Ca cl fp => inner_ok o bk.kind s H Ca cl fp
    have it := aIt_ok o (hf scope) h4
    have e0 := ownOf_snd (sc := sc) (is := own)
    have kd : X.env.scope.kind = .function := by rw [o.scope]; exact o.kind
    rw [← e0]
    have hgv : ∀ i ∈ tgIx g, i ∈ (ownOf sc own).map (·.2) := fun i hi => by
      rw [e0]
      have z := List.all_eq_true.mp h2 i hi
      obtain ⟨j, hj, e⟩ := List.any_eq_true.mp z
      rw [of_decide_eq_true e]; exact hj
    have ht : ∀ (s : Shared) (H : Hp) (Ca : Addr) (cl : List (Str × Addr)) (fp : List Addr), PTs (X.blk s H scope (compEnvC scope cl Ca X.env) fp) ifs (ST P L C WF c) := fun s H Ca cl fp => by
      clear h6
      unfold ifsB at h5
      split at h5
      · subst h5; exact pts_yes
      · rw [Bool.and_eq_true] at h5
        exact pts_one ((hf2 scope _ (inn s H Ca cl fp) _ _ h5.2).2 h5.1)
      · cases h5
    have base := ps_setLc (spos := spos) o.calm o.ndX (o.at hy) (o.local hl) (sw_true kd (o.local hl) hn ha) it.1 bk (fun s H Ca cl fp => aTg_ok (inn s H Ca cl fp) h3) ht (fun s H Ca cl fp => (hf2 scope _ (inn s H Ca cl fp) _ _ h6).1) it.2
    exact ⟨PS.imp base fun D σ H q => asg_core (fun σ H Q z => lc_imp hgv z) q, PS.imp base fun D σ H q => asg_core (fun σ H Q z => lc_imp hgv (sv_mat_imp z)) q⟩
  · cases h
/-! ### statements -/
def selfN : St → Bool
  | _ => true
/-- name = e -/
def aAsg (P : Prog) (G : Gt) (n : Nat) (sc : Sc) (i : Nat) (c : E) : Stmt → Bool
  | .Assign [.Name y py] (.ListComp elt gs scope pos) _ => (!isLocal sc y && (atN sc i y && (isSto sc y && chkE P G n sc (.ListComp elt gs scope pos) c))) || (match c with
    | .lc g it t d own => aLc G (fun _ => chkE P G n sc) (fun scope => chkE P G n (inner sc scope)) sc g it t d own (.ListComp elt gs scope pos) && (atN sc i y && (isLocal sc y && ((py.line == pos.line) && !(scope.names.any fun (n, k) => n == y && (k == .local || k == .cell)))))
    | .mat (.lc g it t d own) => aLc G (fun _ => chkE P G n sc) (fun scope => chkE P G n (inner sc scope)) sc g it t d own (.ListComp elt gs scope pos) && (atN sc i y && (isLocal sc y && ((py.line == pos.line) && !(scope.names.any fun (n, k) => n == y && (k == .local || k == .cell)))))
    | _ => false)
  | .Assign [.Name y _] e _ => notComp e && (atN sc i y && (isSto sc y && chkE P G n sc e c))
  | _ => false
theorem aAsg_ok (o : XOk P L C CX W G k sc X) {n i : Nat} {c : E} {s : Stmt} (h : aAsg P G n sc i c s = true) : PS X s (SS P L C W (.asg i c)) := by
  unfold aAsg at h
  split at h
  · rcases Bool.or_eq_true _ _ |>.mp h with h | h
    · simp only [Bool.and_eq_true, Bool.not_eq_true'] at h
      obtain ⟨h1, h2, h3, h4⟩ := h
      exact s_asg o.ndX (o.at h2) (o.loc h3) (chkE_ok n W sc X o _ _ h4).1 (swaps_cell o h1) (o.fn _ h3)
    · split at h
      · simp only [Bool.and_eq_true, Bool.not_eq_true'] at h
        obtain ⟨h1, h2, h3, h4, h5⟩ := h
        exact (aLcS_ok o (fun _ => chkE_ok n W sc X o) (fun scope X' o' => chkE_ok n WF (inner sc scope) X' o') h1 h2 h3 h4 h5).1
      · simp only [Bool.and_eq_true, Bool.not_eq_true'] at h
        obtain ⟨h1, h2, h3, h4, h5⟩ := h
        exact (aLcS_ok o (fun _ => chkE_ok n W sc X o) (fun scope X' o' => chkE_ok n WF (inner sc scope) X' o') h1 h2 h3 h4 h5).2
      · cases h
  · simp only [Bool.and_eq_true] at h
    obtain ⟨h1, h2, h3, h4⟩ := h
    exact s_asg o.ndX (o.at h2) (o.loc h3) (chkE_ok n W sc X o _ _ h4).1 (swaps_no h1) (o.fn _ h3)
  · cases h
def aMv (sc : Sc) (i j : Nat) : Stmt → Bool
  | .Assign [.Name x _] (.Name y _) _ => atN sc i x && (isSto sc x && (atN sc j y && (isVis sc y && plainN y)))
  | _ => false
theorem aMv_ok (o : XOk P L C CX W G k sc X) {i j : Nat} {s : Stmt} (h : aMv sc i j s = true) : PS X s (SS P L C W (.mv i j)) := by
  unfold aMv at h
  split at h
  · simp only [Bool.and_eq_true] at h
    obtain ⟨h1, h2, h3, h4, h5⟩ := h
    exact s_mv o.ndX (o.at h1) (o.loc h2) (o.at h3) (o.vis h4) (plain1 h5) (plain2 h5) (swaps_no rfl) (o.fn _ h2)
  · cases h
def aAsgT (sc : Sc) (f : Expr → E → Bool) (is : List Nat) (c : E) : Stmt → Bool
  | .Assign [.Tuple es kt tp] e _ => (notTup e || noSwap sc es e) && (aTg sc (.Tuple es kt tp) (.p is) && f e c)
  | _ => false
theorem aAsgT_ok (o : XOk P L C CX W G k sc X) (hf : ∀ e c, f e c = true → PET P L C W X e c) {is : List Nat} {c : E} {s : Stmt} (h : aAsgT sc f is c s = true) : PS X s (SS P L C W (.asgT is c)) := by
  unfold aAsgT at h
  split at h
  · simp only [Bool.and_eq_true] at h
    exact s_asgT (hf _ _ h.2.2).1 (aTg_ok o h.2.1) sole_tuple (by
      rcases Bool.or_eq_true _ _ |>.mp h.1 with q | q
      · exact stores_tup q
      · exact stores_noswap o q) rfl
  · cases h
def aPar (sc : Sc) (f : Expr → E → Bool) (i j : Nat) (ca cb : E) : Stmt → Bool
  | .Assign [.Tuple [.Name x px, .Name y py] _ _] (.Tuple [a, b] _ _) _ => ((atN sc i x && atN sc j y) && (decide (i ≠ j) && (isLocal sc x && isLocal sc y))) && (((f a ca && f b cb) && (notStar a && notStar b)) && ((px.line == py.line) && (!(foldedForSure 8 a && foldedForSure 8 b) && !(constantsAlone 8 a && constantsAlone 8 b))))
  | _ => false
theorem aPar_ok (o : XOk P L C CX W G k sc X) (hf : ∀ e c, f e c = true → PET P L C W X e c) {i j : Nat} {ca cb : E} {s : Stmt} (h : aPar sc f i j ca cb s = true) : PS X s (SS P L C W (.par i j ca cb)) := by
  unfold aPar at h
  split at h
  · rename_i x px y py kt pt a b k2 pt2 pos
    simp only [Bool.and_eq_true, decide_eq_true_eq, Bool.not_eq_true'] at h
    obtain ⟨⟨⟨h1, h2⟩, h3, h4, h5⟩, ⟨⟨h6, h7⟩, h8, h9⟩, h10, h11, h12⟩ := h
    have hi := o.at h1
    have hj := o.at h2
    have kd : X.env.scope.kind = .function := by rw [o.scope]; exact o.kind
    have hxy : x ≠ y := fun e => h3 (by
      subst e
      obtain ⟨p1, p2⟩ := List.getElem?_eq_some_iff.mp hi
      obtain ⟨p3, p4⟩ := List.getElem?_eq_some_iff.mp hj
      exact (List.getElem_inj o.ndX).mp (by rw [p2, p4]))
    exact s_par o.calm o.ndX hi hj h3 (o.local h4) (o.local h5) (hf _ _ h6).1 (hf _ _ h7).1 (starEach_of h8) (starEach_of h9) (sw_par kd (o.local h4) (o.local h5) hxy h10 h8 h9 h11 h12) sole_tuple
  · cases h
theorem sw_par3 {env : PySem.Env} {x y z : Str} {px py pz pt pt2 : Pos} {kt k2 : Nat} {a b c : Expr} (hk : env.scope.kind = .function) (hx : env.scope.names.lookup x = some .local) (hy : env.scope.names.lookup y = some .local) (hz : env.scope.names.lookup z = some .local)
    (hxy : x ≠ y) (hxz : x ≠ z) (hyz : y ≠ z) (hl : (px.line == py.line) = true) (hl2 : (px.line == pz.line) = true) (na : notStar a = true) (nb : notStar b = true) (nc : notStar c = true)
    (h1 : (foldedForSure 8 a && (foldedForSure 8 b && foldedForSure 8 c)) = false) (h2 : (constantsAlone 8 a && (constantsAlone 8 b && constantsAlone 8 c)) = false) : swappedStores [.Tuple [.Name x px, .Name y py, .Name z pz] kt pt] (.Tuple [a, b, c] k2 pt2) env = pure (some [x, y, z]) := by
  have kx : env.kindOf x = some .local := hx
  have ky : env.kindOf y = some .local := hy
  have kz : env.kindOf z = some .local := hz
  have hb := blockKind_fn hk
  have hl' : (py.line == px.line) = true := by
    have := eq_of_beq hl
    rw [this]; exact beq_self_eq_true _
  have hl2' : (pz.line == px.line) = true := by
    have := eq_of_beq hl2
    rw [this]; exact beq_self_eq_true _
  have ne : ∀ {p q : Str}, p ≠ q → (q == p) = false := fun {p q} h => by
    cases z : q == p with
    | false => rfl
    | true => exact absurd (eq_of_beq z).symm h
  have n1 := ne hxy
  have n2 := ne hxz
  have n3 := ne hyz
  unfold swappedStores
  simp only [List.length_cons, List.length_nil, List.any_cons, List.any_nil, List.head?_cons, Option.map_some, Option.getD_some, Expr.pos, List.filterMap_cons, List.filterMap_nil, kx, ky, kz, hb, hl', hl2', beq_self_eq_true, Bool.and_self, if_true, List.all_cons, List.all_nil, Bool.and_true, h1, h2]
  have ed : [x, y, z].eraseDups.length = 3 := by
    rw [List.eraseDups_cons, List.filter_cons, List.filter_cons]
    simp [n1, n2, n3, List.eraseDups_cons]
  simp [ed]
  intro hh
  exfalso
  rcases hh with hh | hh | hh
  · cases a <;> first | (cases hh; done) | cases na
  · cases b <;> first | (cases hh; done) | cases nb
  · cases c <;> first | (cases hh; done) | cases nc
def aPar3 (sc : Sc) (f : Expr → E → Bool) (i j l : Nat) (ca cb cc : E) : Stmt → Bool
  | .Assign [.Tuple [.Name x px, .Name y py, .Name z pz] _ _] (.Tuple [a, b, c] _ _) _ => (((atN sc i x && atN sc j y) && atN sc l z) && ((decide (i ≠ j) && (decide (i ≠ l) && decide (j ≠ l))) && (isLocal sc x && (isLocal sc y && isLocal sc z)))) &&
    (((f a ca && (f b cb && f c cc)) && (notStar a && (notStar b && notStar c))) && (((px.line == py.line) && (px.line == pz.line)) && (!(foldedForSure 8 a && (foldedForSure 8 b && foldedForSure 8 c)) && !(constantsAlone 8 a && (constantsAlone 8 b && constantsAlone 8 c)))))
  | _ => false
theorem aPar3_ok (o : XOk P L C CX W G k sc X) (hf : ∀ e c, f e c = true → PET P L C W X e c) {i j l : Nat} {ca cb cc : E} {s : Stmt} (h : aPar3 sc f i j l ca cb cc s = true) : PS X s (SS P L C W (.par3 i j l ca cb cc)) := by
  unfold aPar3 at h
  split at h
  · rename_i x px y py z pz kt pt a b c k2 pt2 pos
    simp only [Bool.and_eq_true, decide_eq_true_eq, Bool.not_eq_true'] at h
    obtain ⟨⟨⟨⟨h1, h2⟩, h3⟩, ⟨h4, h5, h6⟩, h7, h8, h9⟩, ⟨⟨g1, g2, g3⟩, g4, g5, g6⟩, ⟨g7, g8⟩, g9, g10⟩ := h
    have hi := o.at h1
    have hj := o.at h2
    have hl := o.at h3
    have kd : X.env.scope.kind = .function := by rw [o.scope]; exact o.kind
    have ne : ∀ {i j : Nat} {x y : Str}, X.N[i]? = some x → X.N[j]? = some y → i ≠ j → x ≠ y := fun {i j x y} hi hj hd e => hd (by
      subst e
      obtain ⟨p1, p2⟩ := List.getElem?_eq_some_iff.mp hi
      obtain ⟨p3, p4⟩ := List.getElem?_eq_some_iff.mp hj
      exact (List.getElem_inj o.ndX).mp (by rw [p2, p4]))
    exact s_par3 o.calm o.ndX hi hj hl h4 h5 h6 (o.local h7) (o.local h8) (o.local h9) (hf _ _ g1).1 (hf _ _ g2).1 (hf _ _ g3).1 (starEach_of g4) (starEach_of g5) (starEach_of g6)
      (sw_par3 kd (o.local h7) (o.local h8) (o.local h9) (ne hi hj h4) (ne hi hl h5) (ne hj hl h6) g7 g8 g4 g5 g6 g9 g10)
  · cases h
def aSub (f : Expr → E → Bool) (co ci c : E) : Stmt → Bool
  | .Assign [.Subscript oe ie _] e _ => notSlice ie && (f oe co && (f ie ci && f e c))
  | _ => false
theorem aSub_ok (o : XOk P L C CX W G k sc X) (hf : ∀ e c, f e c = true → PET P L C W X e c) {co ci c : E} {s : Stmt} (h : aSub f co ci c s = true) : PS X s (SS P L C W (.sub co ci c)) := by
  unfold aSub at h
  split at h
  · simp only [Bool.and_eq_true] at h
    exact s_sub (hf _ _ h.2.2.2).1 (hf _ _ h.2.1).1 (hf _ _ h.2.2.1).1 (fun v => assign_sub h.1) sole_sub stores_sub rfl
  · cases h
def aFst (f : Expr → E → Bool) (co : E) (m : Str) (c : E) : Stmt → Bool
  | .Assign [.Attribute oe g _] e _ => decide (g = m) && (f oe co && f e c)
  | _ => false
theorem aFst_ok (o : XOk P L C CX W G k sc X) (hf : ∀ e c, f e c = true → PET P L C W X e c) {co c : E} {m : Str} {s : Stmt} (h : aFst f co m c s = true) : PS X s (SS P L C W (.fst co m c)) := by
  unfold aFst at h
  split at h
  · simp only [Bool.and_eq_true, decide_eq_true_eq] at h
    obtain ⟨rfl, h1, h2⟩ := h
    exact s_fst o.K o.g.cls (hf _ _ h2).1 (hf _ _ h1).1 attr_swaps
  · cases h
def fsB (f : Expr → E → Bool) : List Expr → Es → List Str → Bool
  | [], .nil, [] => true
  | .Attribute oe g _ :: es, .cons c os, m :: fs => decide (g = m) && (f oe c && fsB f es os fs)
  | _, _, _ => false
theorem fsB_ok (o : XOk P L C CX W G k sc X) (hf : ∀ e c, f e c = true → PET P L C W X e c) : ∀ {es : List Expr} {os : Es} {fs : List Str}, fsB f es os fs = true → PGs X es (GF P L C W os fs) ∧ (assignEach es X.env).length = es.length ∧ (assignEach es X.env).findIdx? (·.1) = none ∧ fs.length = es.length ∧ (∀ g : Expr → Option Str, (∀ o m p, g (.Attribute o m p) = none) → es.filterMap g = [])
  | [], .nil, [], _ => ⟨gf_nil, rfl, rfl, rfl, fun _ _ => rfl⟩
  | [], .cons _ _, _, h => by cases h
  | [], .nil, _ :: _, h => by cases h
  | e :: es, .nil, _, h => by cases e <;> cases h
  | e :: es, .cons _ _, [], h => by cases e <;> cases h
  | e :: es, .cons c os, m :: fs, h => by
    cases e <;> first | (cases h; done) | skip
    rename_i oe g pos
    simp only [fsB, Bool.and_eq_true, decide_eq_true_eq] at h
    obtain ⟨rfl, h1, h2⟩ := h
    obtain ⟨q1, q2, q3, q4, q5⟩ := fsB_ok o hf h2
    refine ⟨gf_cons o.K o.g.cls (hf _ _ h1).1 q1, ?_, ?_, ?_, fun gg hgg => ?_⟩
    · show (assignEach es X.env).length + 1 = es.length + 1
      rw [q2]
    · show (((false, assign (.Attribute oe g pos) X.env) :: assignEach es X.env).findIdx? (·.1)) = none
      rw [List.findIdx?_cons, q3]
      rfl
    · show fs.length + 1 = es.length + 1
      rw [q4]
    · rw [List.filterMap_cons, hgg]
      exact q5 gg hgg
theorem stores_fs {es : List Expr} {kt : Nat} {pt : Pos} {e : Expr} {env : PySem.Env} (hne : es ≠ []) (h : ∀ g : Expr → Option Str, (∀ o m p, g (.Attribute o m p) = none) → es.filterMap g = []) : swappedStores [.Tuple es kt pt] e env = pure none := by
  by_cases ht : notTup e = true
  · exact stores_tup ht
  · cases e <;> first | (exact absurd rfl ht) | skip
    rename_i vs k2 p2
    have hl : (([] : List Str).length != es.length) = true := by
      cases es with
      | nil => exact absurd rfl hne
      | cons _ _ => rfl
    unfold swappedStores
    simp only []
    split
    · rfl
    · split
      · rfl
      · rw [h]
        · simp only [hl, Bool.true_or, if_true]
        · intro o m p
          rfl
def aFsts (f : Expr → E → Bool) (os : Es) (fs : List Str) (c : E) : Stmt → Bool
  | .Assign [.Tuple es _ _] e _ => !es.isEmpty && (fsB f es os fs && f e c)
  | _ => false
theorem aFsts_ok (o : XOk P L C CX W G k sc X) (hf : ∀ e c, f e c = true → PET P L C W X e c) {os : Es} {fs : List Str} {c : E} {s : Stmt} (h : aFsts f os fs c s = true) : PS X s (SS P L C W (.fsts os fs c)) := by
  unfold aFsts at h
  split at h
  · simp only [Bool.and_eq_true, Bool.not_eq_true'] at h
    obtain ⟨h1, h2, h3⟩ := h
    obtain ⟨q1, q2, q3, q4, q5⟩ := fsB_ok o hf h2
    exact s_fsts o.K o.calm (hf _ _ h3).1 q1 q2 q3 sole_tuple (stores_fs (fun z => by subst z; cases h1) q5) rfl q4
  · cases h
def aEx (f : Expr → E → Bool) (c : E) : Stmt → Bool
  | .Expr e _ => notComp e && f e c
  | _ => false
theorem aEx_ok (hf : ∀ e c, f e c = true → PET P L C W X e c) {c : E} {s : Stmt} (h : aEx f c s = true) : PS X s (SS P L C W (.ex c)) := by
  unfold aEx at h
  split at h
  · rw [Bool.and_eq_true] at h
    exact s_ex (hf _ _ h.2).1 (swaps_no h.1)
  · cases h
def aPass : Stmt → Bool
  | .Pass _ => true
  | .Expr (.Constant (.str _) _ _) _ => true
  | _ => false
theorem aPass_ok {s : Stmt} (h : aPass s = true) : PS X s (SS P L C W .pass) := by
  unfold aPass at h
  split at h
  · exact s_pass
  · exact s_doc
  · cases h
def aApp (sc : Sc) (f : Expr → E → Bool) (m : Str) (i : Nat) (c : E) : Stmt → Bool
  | .Expr (.Call (.Attribute (.Name x _) g ap) [e] [] p2) _ => decide (g = m) && ((atN sc i x && (isVis sc x && plainN x)) && ((notStar e && f e c) && (ap.endLine == p2.line)))
  | _ => false
theorem aApp_ok (o : XOk P L C CX W G k sc X) (hf : ∀ e c, f e c = true → PET P L C W X e c) {i : Nat} {c : E} {s : Stmt} (h : aApp sc f "append" i c s = true) : PS X s (SS P L C W (.app i c)) := by
  unfold aApp at h
  split at h
  · simp only [Bool.and_eq_true, decide_eq_true_eq] at h
    obtain ⟨rfl, ⟨h1, h2, h3⟩, ⟨h4, h5⟩, h6⟩ := h
    exact s_app o.K (o.at h1) (o.vis h2) (plain1 h3) (plain2 h3) (hf _ _ h5).1 (starEach_of h4) h6 (swaps_no rfl)
  · cases h
theorem aExt_ok (o : XOk P L C CX W G k sc X) (hf : ∀ e c, f e c = true → PET P L C W X e c) {i : Nat} {c : E} {s : Stmt} (h : aApp sc f "extend" i c s = true) : PS X s (SS P L C W (.ext i c)) := by
  unfold aApp at h
  split at h
  · simp only [Bool.and_eq_true, decide_eq_true_eq] at h
    obtain ⟨rfl, ⟨h1, h2, h3⟩, ⟨h4, h5⟩, h6⟩ := h
    exact s_ext (te := fun _ _ _ => False) o.K (o.at h1) (o.vis h2) (plain1 h3) (plain2 h3) (hf _ _ h5).1 (starEach_of h4) h6 (swaps_no rfl)
  · cases h
def aAppo (f : Expr → E → Bool) (co c : E) : Stmt → Bool
  | .Expr (.Call (.Attribute oe g ap) [e] [] p2) _ => decide (g = ("append" : Str)) && ((attrOk oe && f oe co) && ((notStar e && f e c) && (ap.endLine == p2.line)))
  | _ => false
theorem aAppo_ok (o : XOk P L C CX W G k sc X) (hf : ∀ e c, f e c = true → PET P L C W X e c) {co c : E} {s : Stmt} (h : aAppo f co c s = true) : PS X s (SS P L C W (.appo co c)) := by
  unfold aAppo at h
  split at h
  · simp only [Bool.and_eq_true, decide_eq_true_eq] at h
    obtain ⟨rfl, ⟨h1, h2⟩, ⟨h4, h5⟩, h6⟩ := h
    exact s_appo o.K (hf _ _ h2).1 (hf _ _ h5).1 (starEach_of h4) h6 (attr_base h1) (swaps_no rfl)
  · cases h
def aExto (f : Expr → E → Bool) (co c : E) : Stmt → Bool
  | .Expr (.Call (.Attribute oe g ap) [e] [] p2) _ => decide (g = ("extend" : Str)) && ((attrOk oe && f oe co) && ((notStar e && f e c) && (ap.endLine == p2.line)))
  | _ => false
theorem aExto_ok (o : XOk P L C CX W G k sc X) (hf : ∀ e c, f e c = true → PET P L C W X e c) {co c : E} {s : Stmt} (h : aExto f co c s = true) : PS X s (SS P L C W (.exto co c)) := by
  unfold aExto at h
  split at h
  · simp only [Bool.and_eq_true, decide_eq_true_eq] at h
    obtain ⟨rfl, ⟨h1, h2⟩, ⟨h4, h5⟩, h6⟩ := h
    exact s_exto o.K (hf _ _ h2).1 (hf _ _ h5).1 (starEach_of h4) h6 (attr_base h1) (swaps_no rfl)
  · cases h
def aDput (f : Expr → E → Bool) (co ci c : E) : Stmt → Bool
  | .Assign [.Subscript oe ie _] e _ => notComp e && (f oe co && (f ie ci && f e c))
  | _ => false
theorem aDput_ok (o : XOk P L C CX W G k sc X) (hf : ∀ e c, f e c = true → PET P L C W X e c) {co ci c : E} {s : Stmt} (h : aDput f co ci c s = true) : PS X s (SS P L C W (.dput co ci c)) := by
  unfold aDput at h
  split at h
  · simp only [Bool.and_eq_true] at h
    exact s_dput o.K o.w o.un9 (hf _ _ h.2.1).1 (hf _ _ h.2.2.1).1 (hf _ _ h.2.2.2).1 (swaps_no h.1)
  · cases h
def aAug (sc : Sc) (f : Expr → E → Bool) (i : Nat) (c : E) : Stmt → Bool
  | .AugAssign (.Name x _) .Add e _ => (atN sc i x && isSto sc x) && f e c
  | _ => false
theorem aAug_ok (o : XOk P L C CX W G k sc X) (hf : ∀ e c, f e c = true → PET P L C W X e c) {i : Nat} {c : E} {s : Stmt} (h : aAug sc f i c s = true) : PS X s (SS P L C W (.aug i c)) := by
  unfold aAug at h
  split at h
  · simp only [Bool.and_eq_true] at h
    exact s_aug o.ndX (o.at h.1.1) (o.loc h.1.2) (hf _ _ h.2).1 (o.fn _ h.1.2)
  · cases h
def aRet (f : Expr → E → Bool) (c : E) : Stmt → Bool
  | .Return (some e) _ => f e c
  | _ => false
theorem aRet_ok (hf : ∀ e c, f e c = true → PET P L C W X e c) {c : E} {s : Stmt} (h : aRet f c s = true) : PS X s (SS P L C W (.ret c)) := by
  unfold aRet at h
  split at h
  · exact s_ret (hf _ _ h).1
  · cases h
def aRetm (sc : Sc) (j : Nat) : Stmt → Bool
  | .Return (some (.Name y _)) _ => atN sc j y && (isVis sc y && plainN y)
  | _ => false
theorem aRetm_ok (o : XOk P L C CX W G k sc X) {j : Nat} {s : Stmt} (h : aRetm sc j s = true) : PS X s (SS P L C W (.retm j)) := by
  unfold aRetm at h
  split at h
  · simp only [Bool.and_eq_true] at h
    exact s_retm (o.at h.1) (o.vis h.2.1) (plain1 h.2.2) (plain2 h.2.2)
  · cases h
def allSs (f : Stmt → St → Bool) : List Stmt → Sts → Bool
  | [], .nil => true
  | s :: ss, .cons c cs => f s c && allSs f ss cs
  | _, _ => false
theorem allSs_ok {f : Stmt → St → Bool} (hf : ∀ s c, f s c = true → PS X s (SS P L C W c)) : ∀ {ss : List Stmt} {cs : Sts}, allSs f ss cs = true → PSs X ss (SSs P L C W cs)
  | [], .nil, _ => sss_nil
  | [], .cons _ _, h => by cases h
  | _ :: _, .nil, h => by cases h
  | s :: ss, .cons c cs, h => by
    simp only [allSs, Bool.and_eq_true] at h
    exact sss_cons (hf s c h.1) (allSs_ok hf h.2)
def chkS (P : Prog) (G : Gt) (m : Nat) : Nat → Sc → Stmt → St → Bool
  | 0, _, _, _ => false
  | n + 1, sc, s, c => match c with
    | .asg i e => aAsg P G m sc i e s
    | .mv i j => aMv sc i j s
    | .asgT is e => aAsgT sc (chkE P G m sc) is e s
    | .par i j a b => aPar sc (chkE P G m sc) i j a b s
    | .par3 i j l a b c => aPar3 sc (chkE P G m sc) i j l a b c s
    | .sub o i e => aSub (chkE P G m sc) o i e s
    | .fst o f e => aFst (chkE P G m sc) o f e s
    | .fsts os fs e => aFsts (chkE P G m sc) os fs e s
    | .ex e => aEx (chkE P G m sc) e s
    | .app i e => aApp sc (chkE P G m sc) "append" i e s
    | .ext i e => aApp sc (chkE P G m sc) "extend" i e s
    | .appo o e => aAppo (chkE P G m sc) o e s
    | .ret e => aRet (chkE P G m sc) e s
    | .retm j => aRetm sc j s
    | .retN => (match s with
      | .Return none _ => true
      | _ => false)
    | .ifs c a b => (match s with
      | .If c' a' b' _ => (tst c' c && chkE P G m sc c' c) && (allSs (chkS P G m n sc) a' a && allSs (chkS P G m n sc) b' b)
      | _ => false)
    | .for_ g it b => (match s with
      | .For tg iter body [] _ => aTg sc tg g && (aIt sc G (chkE P G m sc) tg iter it && allSs (chkS P G m n sc) body b)
      | _ => false)
    | .whl c b => (match s with
      | .While c' body [] _ => (tst c' c && chkE P G m sc c' c) && allSs (chkS P G m n sc) body b
      | _ => false)
    | .brk => (match s with
      | .Break _ => true
      | _ => false)
    | .cnt => (match s with
      | .Continue _ => true
      | _ => false)
    | .pass => aPass s
    | .never => true
    | .dput d k e => aDput (chkE P G m sc) d k e s
    | .aug i e => aAug sc (chkE P G m sc) i e s
    | .exto o e => aExto (chkE P G m sc) o e s
theorem chkS_ok (o : XOk P L C CX W G k sc X) (hp : PassesOwn (model X.prog X.w) X.A X.env X.xe) (m : Nat) : ∀ (n : Nat) (s : Stmt) (c : St), chkS P G m n sc s c = true → PS X s (SS P L C W c)
  | 0, _, _, h => by cases h
  | n + 1, s, c, h => by
    have hf := chkE_ok m W sc X o
    have hs := fun ss cs => allSs_ok (ss := ss) (cs := cs) (chkS_ok o hp m n)
    cases c with
    | asg i e => exact aAsg_ok o h
    | mv i j => exact aMv_ok o h
    | asgT is e => exact aAsgT_ok o hf h
    | par i j a b => exact aPar_ok o hf h
    | par3 i j l a b c => exact aPar3_ok o hf h
    | sub a i e => exact aSub_ok o hf h
    | fst a f e => exact aFst_ok o hf h
    | fsts os fs e => exact aFsts_ok o hf h
    | ex e => exact aEx_ok hf h
    | app i e => exact aApp_ok o hf h
    | ext i e => exact aExt_ok o hf h
    | appo a e => exact aAppo_ok o hf h
    | ret e => exact aRet_ok hf h
    | retm j => exact aRetm_ok o h
    | retN =>
      simp only [chkS] at h
      split at h
      · exact s_retN
      · cases h
    | ifs c a b =>
      simp only [chkS] at h
      split at h
      · simp only [Bool.and_eq_true] at h
        exact s_ifs ((hf _ _ h.1.2).2 h.1.1) (hs _ _ h.2.1) (hs _ _ h.2.2)
      · cases h
    | for_ g it b =>
      simp only [chkS] at h
      split at h
      · simp only [Bool.and_eq_true] at h
        have q := aIt_ok o hf h.2.1
        exact s_for hp o.calm q.1 (aTg_ok o h.1) (hs _ _ h.2.2) q.2
      · cases h
    | whl c b =>
      simp only [chkS] at h
      split at h
      · simp only [Bool.and_eq_true] at h
        exact s_whl hp ((hf _ _ h.1.2).2 h.1.1) (hs _ _ h.2)
      · cases h
    | brk =>
      simp only [chkS] at h
      split at h
      · exact s_brk
      · cases h
    | cnt =>
      simp only [chkS] at h
      split at h
      · exact s_cnt
      · cases h
    | pass => exact aPass_ok h
    | never => exact s_never
    | dput d k e => exact aDput_ok o hf h
    | aug i e => exact aAug_ok o hf h
    | exto a e => exact aExto_ok o hf h
end Mini
/-! Mini: every def keeps its promise. -/
set_option linter.all false
set_option autoImplicit false
set_option maxRecDepth 10000
namespace Mini
open PySem PySem.Spec PyProof.Rows L2
section
variable {P : Prog} {L : Lay} {ρ ρ' : List Addr} {H H' : Hp} {th th' : S} {o o' : Addr → Prop}
theorem start_get {fd : Fd} {tvs : List TV} {i : Nat} {tv : TV} (e : (Mini.start fd tvs)[i]? = some (some tv)) : tvs[i]? = some tv := by
  unfold Mini.start at e
  by_cases hi : i < tvs.length
  · rw [List.getElem?_append_left (by simpa using hi), List.getElem?_map] at e
    cases q : tvs[i]? with
    | none => rw [q] at e; cases e
    | some w => rw [q] at e; cases e; rfl
  · rw [List.getElem?_append_right (by simpa using hi), List.getElem?_replicate] at e
    split at e <;> cases e
theorem RepGs.get : ∀ {tvs : List TV} {vs : List V} {i : Nat} {tv : TV}, RepGs L ρ H tvs vs → tvs[i]? = some tv → ∃ v, vs[i]? = some v ∧ RepG L ρ H tv v
  | _, _, _, _, .nil, e => by simp at e
  | _, _, 0, _, .cons a _, e => by simp at e; subst e; exact ⟨_, rfl, a⟩
  | _, _, i + 1, _, .cons _ b, e => by simpa using RepGs.get (i := i) b (by simpa using e)
theorem env_start {fd : Fd} {tvs : List TV} {vs : List V} (rs : RepGs L ρ H tvs vs) (hl : tvs.length ≤ fd.N.length) : EnvR L ρ H (Mini.start fd tvs) (L2.start fd.N vs) ∧ ∀ b, ¬ own (Mini.start fd tvs) (L2.start fd.N vs) b := by
  have ln : tvs.length = vs.length := Paired.length rs
  have noL : ∀ (i : Nat) (xs : List T), (Mini.start fd tvs)[i]? ≠ some (some (TV.l xs)) := fun i xs e => by
    obtain ⟨v, _, q⟩ := RepGs.get rs (start_get e)
    exact q.elim
  have no : ∀ b, ¬ own (Mini.start fd tvs) (L2.start fd.N vs) b := fun b ⟨i, xs, h1, _⟩ => noL i xs h1
  refine ⟨⟨?_, fun i tv e => ?_, fun i j xs ys a h1 _ _ _ => (noL i xs h1).elim⟩, no⟩
  · unfold L2.start Mini.start
    simp only [List.length_append, List.length_map, List.length_replicate]
    omega
  · obtain ⟨v, e1, rv⟩ := RepGs.get rs (start_get e)
    refine ⟨v, ?_, ?_⟩
    · unfold L2.start
      rw [List.getElem?_append_left (by rw [List.length_map]; exact (List.getElem?_eq_some_iff.mp e1).1), List.getElem?_map, e1]
      rfl
    · cases tv with
      | t x => exact rv
      | l xs => exact rv.elim
      | s xs g =>
        obtain ⟨a, ws, e2, e3, e4⟩ := rv
        exact ⟨a, ws, e2, RdL.sub1 (o := noO) e3 fun z => (no a z).elim, e4⟩
theorem Ext.to0 (x : Ext ρ o H ρ' o' H') (ho : ∀ b, ¬ o b) : Ex0 ρ H ρ' H' := ⟨x.pre, fun b u e n _ => x.fr b u e n (ho b), fun b z => by
  rcases z with z | z
  · rcases x.new b (.inl z) with q | q | q
    · exact .inl q
    · exact (ho b q).elim
    · exact .inr (.inr q)
  · exact z.elim⟩
/-- a body's ends are the call's -/
theorem fin_of {m : M Out} {Q : VK} {E : XK} (ho : ∀ b, ¬ o b) (h : PstF L ρ H Q E ((m >>= fin) th)) : PstS L (fun cls d _ H => E cls d H) ρ o H { nx := fun _ H' => Q .non H', rt := Q } (m th) := by
  rw [bind_app] at h
  cases e : m th with
  | bad => rw [e] at h; exact h
  | exc x s => rw [e] at h; exact fun ρ' o' cls d σ' H' y r z => h ρ' cls d H' (y.to0 ho) r z
  | ok out s =>
    rw [e] at h
    cases out with
    | nx env' => exact fun ρ' σ' H' y r _ => h ρ' .non H' (y.to0 ho) r (by simp only [RepF, Rep])
    | bk env' => exact h.elim
    | ct env' => exact h.elim
    | rt tv =>
      have h : PstF L ρ H Q E (.ok tv s) := h
      refine fun ρ' o' v H' y r z => h ρ' v H' (y.to0 ho) r ?_
      cases tv with
      | t x => exact z
      | s xs g => exact z
      | l xs =>
        obtain ⟨a, vs, e1, e2, e3, e4, e5⟩ := z
        refine ⟨a, vs, e1, e2, e3, e4, ?_⟩
        rcases y.new a (.inr e5) with q | q | q
        · obtain ⟨w, e'⟩ := y.pre
          exact (e4 (by rw [e']; exact List.mem_append_left _ q)).elim
        · exact (ho a q).elim
        · exact q
end
/-- one def: where the text has it, and its code -/
structure DefOk (P : Prog) (G : Gt) (n m : Nat) (fd : Fd) (d : He.DefD) (ps : List Str) : Prop where
  dfl : d.dfl = []
  kwd : d.kwd = []
  sc : FnScope fd.N fd.ps d.scope
  len : fd.ps.length ≤ fd.N.length
  chk : allSs (chkS P G m n ⟨fd.N, d.scope, none⟩) d.body fd.body = true
section
variable {P : Prog} {G : Gt} {prog : Program} {w : World} {K : PySem.W.Frag} {mg : Str → Option Value} {base : Heap} {ad cad : Nat → Addr}
/-- what holds of the module, apart from its defs -/
structure ModOk (P : Prog) (G : Gt) (L : Lay) (mg : Str → Option Value) : Prop where
  gf : ∀ (x : Str) (f : Nat), G.gf.lookup x = some f → mg x = some (.ref (L.ad f))
  gc : ∀ (x : Str) (c : Nat), G.gc.lookup x = some c → mg x = some (.ref (L.cad c))
  gb : ∀ x ∈ G.gb, mg x = none
  con : ∀ (g : Nat) (x : Str) (t : T), P.consts[g]? = some (x, t) → ∃ v u, mg x = some u ∧ RelV v u ∧ ∀ ρ H, Rep L ρ H t v
  cls : ∀ (c : Nat) (cd : Cd), P.cls[c]? = some cd → ClsK L P c cd
  meth : ∀ (c : Nat) (cd : Cd) (m : Str) (f : Nat), P.cls[c]? = some cd → cd.meths.lookup m = some f → Meth L.K (L.cad c) m (L.ad f)
  mkr : ∀ (c : Nat) (cd : Cd), P.cls[c]? = some cd → L2.Mk L.K (L.cad c) (L.ad cd.init)
  cx : ClsX L P
  eqf : ∀ (c : Nat) (cd : Cd) (f : Nat), P.cls[c]? = some cd → cd.meths.lookup ("__eq__" : Str) = some f → ∃ fdm, P.fns[f]? = some fdm ∧ fdm.ps.length = 2
theorem cx_false {st : List PySem.Env} {H : Hp} {s s' : Shared} {e : Value} (c : L2.CX prog w st H s (fun _ _ _ => False) e s') : False := by
  obtain ⟨a, B, H', cls, d, _, _, _, _, _, _, _, q⟩ := c
  exact q
theorem all_ok (M : ModOk P G ⟨K, ad, cad, w⟩ mg) {n m : Nat}
    (D : ∀ (f : Nat) (fdm : Fd), P.fns[f]? = some fdm → ∃ (d : He.DefD) (fd : FuncData), FunD K d.name d.qual d.params d.body d.scope [] [] (ad f) fd ∧ FnScope fdm.N fdm.ps d.scope ∧ fdm.ps.length ≤ fdm.N.length ∧ allSs (chkS P G m n ⟨fdm.N, d.scope, none⟩) d.body fdm.body = true ∧ Binds K fd fdm.ps []) :
    ∀ (l f : Nat) (fdm : Fd), P.fns[f]? = some fdm → ∃ fd, (∃ d : He.DefD, FunD K d.name d.qual d.params d.body d.scope [] [] (ad f) fd) ∧ FnG prog w K mg base (L2.CX prog w) (2 * l) (ad f) fd fdm.ps (spOf ⟨K, ad, cad, w⟩ (callN P l) fdm.ps.length f) ∧ Binds K fd fdm.ps []
  | 0, f, fdm, hf => by
    obtain ⟨d, fd, F, S, hl, hc, B⟩ := D f fdm hf
    refine ⟨fd, ⟨d, F⟩, ⟨fun vs H Q E h => h.1, fun A outer s H args us vs Q E hg hr e0 hb r h => ?_⟩, B⟩
    obtain ⟨_, ρ, th, tvs, _, _, q⟩ := h
    exact q.elim
  | l + 1, f, fdm, hf => by
    obtain ⟨d, fd, F, S, hl, hc, B⟩ := D f fdm hf
    refine ⟨fd, ⟨d, F⟩, fn_ofG (k := 2 * l + 1) F S (fun vs H Q E h => h.1) fun cdv A outer s H vs Q E hg hr h => ?_, B⟩
    obtain ⟨hlen, ρ, th, tvs, R0, rs, q⟩ := h
    have ln : tvs.length = vs.length := Paired.length rs
    refine ⟨SSs P ⟨K, ad, cad, w⟩ (callN P l) (fun cls d _ H => E cls d H) fdm.body, ?_, ?_⟩
    · have o : XOk P ⟨K, ad, cad, w⟩ (callN P l) (L2.CX prog w) (fun cls d _ H => E cls d H) G (2 * l) ⟨fdm.N, d.scope, none⟩ (cxOf (L2.CX prog w) prog w K mg base fdm.N d.qual d.scope (ad f) cdv A outer s H E) := {
        g := ⟨M.gf, M.gc, M.gb, M.con, M.cls, M.meth, M.mkr, fun g gd hg => by
            obtain ⟨fd', _, F', B'⟩ := all_ok M D l g gd hg
            obtain ⟨d', fd'', F'', _⟩ := D g gd hg
            exact ⟨F''.kp, fd', F', B'⟩, fun g gd hg tvs th hne => by
            cases l with
            | zero => rfl
            | succ j => simp only [callN, hg, if_neg hne]; rfl, M.cx, M.eqf⟩
        K := rfl
        w := rfl
        calm := rfl
        N := rfl
        nd := S.nd
        scope := rfl
        fn := fun x _ => .inl rfl
        room := hr
        gd := hg
        pass := fun σ => passAt (takes_of rfl rfl rfl rfl) σ
        kind := S.kind
        cxf := fun st H s e s' c => cx_false c }
      exact allSs_ok (chkS_ok o (passes_of (K := fun e s'' => L2.CX prog w outer H s E e s'') rfl) m n) hc
    · have hn : tvs.length = fdm.ps.length := by rw [ln]; exact hlen
      obtain ⟨e1, e2⟩ := env_start (L := ⟨K, ad, cad, w⟩) (fd := fdm) rs (by omega)
      refine ⟨ρ, th, _, R0, e1, fin_of e2 ?_⟩
      have q' : PstF ⟨K, ad, cad, w⟩ ρ H Q E ((if tvs.length = fdm.ps.length then do
        let o ← evalSs P (callN P l) fdm.body (Mini.start fdm tvs)
        fin o
        else fail) th) := by
        have e : callN P (l + 1) f tvs = (if tvs.length = fdm.ps.length then do
          let o ← evalSs P (callN P l) fdm.body (Mini.start fdm tvs)
          fin o
          else fail) := by simp only [callN, hf]
        rw [← e]; exact q
      rw [if_pos hn] at q'
      exact q'
end
end Mini
/-! Mini: the module's facts, the law's end. -/
set_option linter.all false
set_option autoImplicit false
set_option maxRecDepth 10000
namespace Mini
open PySem PySem.Spec PyProof.Rows L2
def conFa : Str × T → List He.Fa
  | (x, .int i) => [.int x i]
  | (x, .str z) => [.str x z]
  | _ => []
def clsFa (cd : Cd) : List He.Fa := .cls cd.name :: .mkr cd.name :: (cd.flds.map fun f => .noat cd.name f) ++ cd.meths.map fun p => .meth cd.name p.1
def faOf (P : Prog) (G : Gt) : List He.Fa := (G.gf.map fun p => .glo p.1) ++ (G.gc.map fun p => .glo p.1) ++ (G.gb.map fun x => .free x) ++ P.consts.flatMap conFa ++ P.cls.flatMap clsFa
def adOf (K : PySem.W.Frag) (fn : List He.DefD) (f : Nat) : Addr := match fn[f]? with
  | some d => He.fAd K d.at_
  | none => 0
def cadOf (K : PySem.W.Frag) (P : Prog) (c : Nat) : Addr := match P.cls[c]? with
  | some cd => He.ga K cd.name
  | none => 0
def layOf (K : PySem.W.Frag) (P : Prog) (fn : List He.DefD) (w : World) : Lay := ⟨K, adOf K fn, cadOf K P, w⟩
def atB (fn : List He.DefD) (f : Nat) (p : Str × Option Str) : Bool := match fn[f]? with
  | some d => decide (d.at_ = p)
  | none => false
/-- the classes among each other, as the written part has them -/
def exB (P : Prog) (K : PySem.W.Frag) : Bool :=
  He.eqO (PySem.W.specialIn K (.builtin "object.__class__") "__get__") (some (some (.builtin "getset_descriptor.__get__"))) && (decide (PySem.W.takesIn K (.builtin "object.__class__") = some true) &&
  ((P.cls.all fun cd => He.eqO (PySem.W.findIn K (.ref (He.ga K cd.name)) "__class__") (some (some (.builtin "object.__class__"))) && (decide (PySem.W.mroIn K (He.ga K cd.name) (.type "object") = some true) &&
    ((baseTys.all fun n => decide (PySem.W.kitOne K (.type n) (.ref (He.ga K cd.name)) = some false) && decide (PySem.W.subIn K (.type n) (.ref (He.ga K cd.name)) = some false)) &&
    (match cd.meths.lookup ("__eq__" : Str) with
    | some _ => He.eqO (PySem.W.findIn K (.ref (He.ga K cd.name)) "__ne__") (some (some (.builtin "object.__ne__")))
    | none => true)))) &&
  (List.range P.cls.length).all fun i => (List.range P.cls.length).all fun j => match P.cls[i]?, P.cls[j]? with
    | some ci, some cj => decide (PySem.W.kitOne K (.ref (He.ga K ci.name)) (.ref (He.ga K cj.name)) = some (isSub P i j)) && (decide (i = j) || decide (PySem.W.subIn K (.ref (He.ga K ci.name)) (.ref (He.ga K cj.name)) = some (isSub P i j)))
    | _, _ => true))
def eqB (P : Prog) : Bool := P.cls.all fun cd => match cd.meths.lookup ("__eq__" : Str) with
  | some f => decide ((P.fns[f]?).map (fun fd => fd.ps.length) = some 2)
  | none => true
theorem clsX_of {w : World} {P : Prog} {fn : List He.DefD} {K : PySem.W.Frag} (h : exB P K = true) : ClsX (layOf K P fn w) P := by
  unfold exB at h
  simp only [Bool.and_eq_true, List.all_eq_true, decide_eq_true_eq] at h
  obtain ⟨h1, h2, h3, h4⟩ := h
  have cadE : ∀ {k : Nat} {cd : Cd}, P.cls[k]? = some cd → (layOf K P fn w).cad k = He.ga K cd.name := fun {k cd} e => by
    show cadOf K P k = _
    unfold cadOf
    rw [e]
  refine ⟨fun c cd e => ?_, He.eqO_ok h1, h2, fun c' cd' c cd e' e => ?_, fun c cd n e hn => ?_, fun c cd f e hf => ?_⟩
  · have z := h3 cd (List.mem_of_getElem? e)
    rw [cadE e]
    exact ⟨He.eqO_ok z.1, z.2.1⟩
  · have l' := (List.getElem?_eq_some_iff.mp e').1
    have l := (List.getElem?_eq_some_iff.mp e).1
    have z := h4 c' (List.mem_range.mpr l') c (List.mem_range.mpr l)
    rw [e', e] at z
    simp only [Bool.and_eq_true, Bool.or_eq_true, decide_eq_true_eq] at z
    rw [cadE e, cadE e']
    exact ⟨z.1, fun ne => z.2.resolve_left ne⟩
  · have z := (h3 cd (List.mem_of_getElem? e)).2.2.1 n hn
    rw [cadE e]
    exact z
  · have z := (h3 cd (List.mem_of_getElem? e)).2.2.2
    rw [hf] at z
    rw [cadE e]
    exact He.eqO_ok z
theorem eqB_of {P : Prog} (h : eqB P = true) (c : Nat) (cd : Cd) (f : Nat) (e : P.cls[c]? = some cd) (hf : cd.meths.lookup ("__eq__" : Str) = some f) : ∃ fdm, P.fns[f]? = some fdm ∧ fdm.ps.length = 2 := by
  unfold eqB at h
  rw [List.all_eq_true] at h
  have z := h cd (List.mem_of_getElem? e)
  rw [hf] at z
  have z := of_decide_eq_true z
  cases e1 : P.fns[f]? with
  | none => rw [e1] at z; cases z
  | some fd => rw [e1] at z; exact ⟨fd, rfl, by simpa using z⟩
/-! ### the Hook -/
abbrev AlE : Type := He.AlD × Bool
def obsEG (n : Nat) (fa : List He.Fa) (fn : List He.DefD) (ex : PySem.W.Frag → Bool) (g : Addr → Option Obj) : AlE := (He.obsD fa fn (He.frG g (He.asD g n)), ex (He.frG g (He.asD g n)))
def hookE (n : Nat) (fa : List He.Fa) (fn : List He.DefD) (ex : PySem.W.Frag → Bool) : PySem.W.Hook where
  α := AlE
  obs := fun s => obsEG n fa fn ex s.heap.get?
  val := fun _ => (He.valD fn, true)
  says := fun _ h => ∃ K : PySem.W.Frag, K.In h ∧ He.SaysD fa fn K ∧ ex K = true
  of := fun _ _ e => ⟨_, He.frG_in, congrArg (fun z : AlE => z.1) e, congrArg (fun z : AlE => z.2) e⟩
  keeps := fun _ _ _ ⟨K, hK, c⟩ k => ⟨K, PySem.W.Frag.In.keeps hK k, c⟩
theorem obsEG_eq {n : Nat} {fa : List He.Fa} {fn : List He.DefD} {ex : PySem.W.Frag → Bool} {g : Addr → Option Obj} {s : Shared} (h : ∀ a, g a = s.heap.get? a) : obsEG n fa fn ex g = (hookE n fa fn ex).obs s := by
  have e : g = s.heap.get? := funext h
  rw [e] <;> rfl
def conB : Str × T → Bool
  | (_, .int _) => true
  | (_, .str _) => true
  | _ => false
def modC (P : Prog) (G : Gt) (fn : List He.DefD) : Bool := (G.gf.all fun p => atB fn p.2 (p.1, none)) && ((G.gc.all fun p => decide ((P.cls[p.2]?).map (·.name) = some p.1)) && ((P.consts.all conB && eqB P) && P.cls.all fun cd => atB fn cd.init (cd.name, some "__init__") && cd.meths.all fun p => atB fn p.2 (cd.name, some p.1)))
theorem atB_ad {K : PySem.W.Frag} {fn : List He.DefD} {f : Nat} {p : Str × Option Str} (h : atB fn f p = true) : adOf K fn f = He.fAd K p := by
  unfold atB at h
  unfold adOf
  split at h
  · rename_i d e
    rw [← of_decide_eq_true h]
  · cases h
theorem look_mem {β : Type} : ∀ {l : List (Str × β)} {x : Str} {y : β}, l.lookup x = some y → (x, y) ∈ l := fun h => PySem.mem_of_lookup h
theorem hasF_mem {P : Prog} {c : Nat} {f : Str} (h : hasF P c f = true) : ∃ cd, P.cls[c]? = some cd ∧ f ∈ cd.flds := by
  unfold hasF at h
  split at h
  · rename_i cd e
    obtain ⟨g, hg, e2⟩ := List.any_eq_true.mp h
    exact ⟨cd, e, by rw [← of_decide_eq_true e2]; exact hg⟩
  · cases h
theorem mod_ok {w : World} {P : Prog} {G : Gt} {fn : List He.DefD} {K : PySem.W.Frag} {h : Heap} {mg : Str → Option Value} (X : K.In h) (N : h.Ns mainGlobals mg) (c : He.SaysD (faOf P G) fn K) (ex : exB P K = true) (ck : modC P G fn = true) : ModOk P G (layOf K P fn w) mg := by
  unfold modC at ck
  simp only [Bool.and_eq_true, List.all_eq_true, decide_eq_true_eq] at ck
  obtain ⟨c1, c2, ⟨c3, c5⟩, c4⟩ := ck
  have fac : ∀ {f : He.Fa}, f ∈ faOf P G → f.ok K = true := fun h => c.facts h
  have clsF : ∀ {k : Nat} {cd : Cd} {f : He.Fa}, P.cls[k]? = some cd → f ∈ clsFa cd → f.ok K = true := fun {k cd f} e hm => fac (by
    unfold faOf
    exact List.mem_append_right _ (List.mem_flatMap.mpr ⟨cd, List.mem_of_getElem? e, hm⟩))
  have cadE : ∀ {k : Nat} {cd : Cd}, P.cls[k]? = some cd → (layOf K P fn w).cad k = He.ga K cd.name := fun {k cd} e => by
    show cadOf K P k = _
    unfold cadOf
    rw [e]
  refine ⟨fun x f e => ?_, fun x k e => ?_, fun x hx => ?_, fun g x t e => ?_, fun k cd e => ⟨?_, fun f hf => ?_⟩, fun k cd m f e em => ?_, fun k cd e => ?_, clsX_of ex, eqB_of c5⟩
  · have hm := look_mem e
    have q := He.glo_ok X N (fac (f := .glo x) (by unfold faOf; simp only [List.mem_append]; exact .inl (.inl (.inl (.inl (List.mem_map.mpr ⟨(x, f), hm, rfl⟩))))))
    rw [q]
    have z := atB_ad (K := K) (c1 _ hm)
    show some (Value.ref (He.ga K x)) = some (Value.ref (adOf K fn f))
    rw [z]
    rfl
  · have hm := look_mem e
    have q := He.glo_ok X N (fac (f := .glo x) (by unfold faOf; simp only [List.mem_append]; exact .inl (.inl (.inl (.inr (List.mem_map.mpr ⟨(x, k), hm, rfl⟩))))))
    have z := c2 _ hm
    cases e1 : P.cls[k]? with
    | none => rw [e1] at z; cases z
    | some cd =>
      rw [e1] at z
      have z : some cd.name = some x := z
      cases z
      rw [q, cadE e1]
  · exact He.free_ok X N (fac (f := .free x) (by unfold faOf; simp only [List.mem_append]; exact .inl (.inl (.inr (List.mem_map.mpr ⟨x, hx, rfl⟩)))))
  · have hm := List.mem_of_getElem? e
    have z := c3 _ hm
    have mem : ∀ {f : He.Fa}, f ∈ conFa (x, t) → f.ok K = true := fun {f} hf => fac (by
      unfold faOf; simp only [List.mem_append]
      exact .inl (.inr (List.mem_flatMap.mpr ⟨(x, t), hm, hf⟩)))
    cases t with
    | int i =>
      obtain ⟨u, q⟩ := He.int_ok X N (mem (f := .int x i) (by unfold conFa; exact List.mem_singleton.mpr rfl))
      exact ⟨.int i, _, q, ⟨u, rfl⟩, fun _ _ => by simp only [Rep]⟩
    | str y =>
      obtain ⟨u, q⟩ := He.str_ok X N (mem (f := .str x y) (by unfold conFa; exact List.mem_singleton.mpr rfl))
      exact ⟨.str y, _, q, ⟨u, rfl⟩, fun _ _ => by simp only [Rep]⟩
    | _ => cases z
  · rw [cadE e]
    exact He.cls_ok (clsF (f := .cls cd.name) e (by unfold clsFa; exact List.mem_append_left _ List.mem_cons_self))
  · obtain ⟨cd', e', hf⟩ := hasF_mem hf
    rw [e] at e'
    cases e'
    rw [cadE e]
    exact He.noat_ok (clsF (f := .noat cd.name f) e (by
      unfold clsFa
      exact List.mem_append_left _ (List.mem_cons_of_mem _ (List.mem_cons_of_mem _ (List.mem_map.mpr ⟨f, hf, rfl⟩)))))
  · have hm := look_mem em
    have z := (c4 cd (List.mem_of_getElem? e)).2 _ hm
    rw [cadE e]
    have q := He.meth_ok (clsF (f := .meth cd.name m) e (by unfold clsFa; exact List.mem_append_right _ (List.mem_map.mpr ⟨(m, f), hm, rfl⟩)))
    have a := atB_ad (K := K) z
    show Meth K _ m (adOf K fn f)
    rw [a]
    exact q
  · have z := (c4 cd (List.mem_of_getElem? e)).1
    rw [cadE e]
    have q := He.mkr_ok (clsF (f := .mkr cd.name) e (by unfold clsFa; exact List.mem_append_left _ (List.mem_cons_of_mem _ List.mem_cons_self)))
    have a := atB_ad (K := K) z
    show L2.Mk K _ (adOf K fn cd.init)
    rw [a]
    exact q
/-! ### defs -/
def scC (N ps : List Str) (sc : Scope) : Bool := (match sc.kind with
  | .function => true
  | _ => false) && (!sc.isCoroutine && (!sc.isGenerator && (decide N.Nodup && (decide (N.take ps.length = ps) && ((ps.all fun x => sc.names.lookup x == some .local || sc.names.lookup x == some .cell) && sc.names.all fun y => !(y.2 == .free))))))
theorem scC_ok {N ps : List Str} {sc : Scope} (h : scC N ps sc = true) : FnScope N ps sc := by
  unfold scC at h
  simp only [Bool.and_eq_true, Bool.not_eq_true', decide_eq_true_eq, List.all_eq_true, Bool.or_eq_true, beq_iff_eq] at h
  obtain ⟨h1, h2, h3, h4, h5, h6, h7⟩ := h
  refine ⟨?_, h2, h3, h4, h5, h6, fun y hy e => ?_⟩
  · split at h1
    · assumption
    · cases h1
  · have z := h7 y hy
    rw [e] at z
    cases z
def defC (P : Prog) (G : Gt) (n m : Nat) (fd : Fd) (d : He.DefD) : Bool := d.dfl.isEmpty && (d.kwd.isEmpty && (scC fd.N fd.ps d.scope && (decide (fd.ps.length ≤ fd.N.length) && allSs (chkS P G m n ⟨fd.N, d.scope, none⟩) d.body fd.body)))
def defsC (P : Prog) (G : Gt) (n m : Nat) : List Fd → List He.DefD → Bool
  | [], [] => true
  | fd :: fs, d :: ds => defC P G n m fd d && defsC P G n m fs ds
  | _, _ => false
/-- how a def binds -/
def BindOk (fd : Fd) (d : He.DefD) : Prop := ∀ (kV doc pm : Value) (an : Option Addr) (cdv ct : Value) (us : List Value), us.length = fd.ps.length → bindArgs (PySem.W.fnOf d.name d.qual d.params d.body d.scope .none kV doc pm an cdv ct) ⟨us, []⟩ = pure (fd.ps.zip us)
def BindsOk : List Fd → List He.DefD → Prop
  | [], [] => True
  | fd :: fs, d :: ds => BindOk fd d ∧ BindsOk fs ds
  | _, _ => False
theorem defsC_get {P : Prog} {G : Gt} {n m : Nat} : ∀ {fs : List Fd} {ds : List He.DefD} {f : Nat} {fd : Fd}, defsC P G n m fs ds = true → BindsOk fs ds → fs[f]? = some fd → ∃ d, ds[f]? = some d ∧ defC P G n m fd d = true ∧ BindOk fd d
  | [], _, _, _, _, _, e => by simp at e
  | _ :: _, [], _, _, h, _, _ => by cases h
  | fd :: fs, d :: ds, 0, _, h, b, e => by
    simp only [defsC, Bool.and_eq_true] at h
    simp at e
    subst e
    exact ⟨d, rfl, h.1, b.1⟩
  | fd :: fs, d :: ds, f + 1, _, h, b, e => by
    simp only [defsC, Bool.and_eq_true] at h
    exact defsC_get (f := f) h.2 b.2 (by simpa using e)
theorem defs_ok {P : Prog} {G : Gt} {fn : List He.DefD} {K : PySem.W.Frag} {n m : Nat} (c : He.SaysD (faOf P G) fn K) (h : defsC P G n m P.fns fn = true) (b : BindsOk P.fns fn) :
    ∀ (f : Nat) (fdm : Fd), P.fns[f]? = some fdm → ∃ (d : He.DefD) (fd : FuncData), FunD K d.name d.qual d.params d.body d.scope [] [] (adOf K fn f) fd ∧ FnScope fdm.N fdm.ps d.scope ∧ fdm.ps.length ≤ fdm.N.length ∧ allSs (chkS P G m n ⟨fdm.N, d.scope, none⟩) d.body fdm.body = true ∧ Binds K fd fdm.ps [] := by
  intro f fdm hf
  obtain ⟨d, e1, e2, e3⟩ := defsC_get h b hf
  unfold defC at e2
  simp only [Bool.and_eq_true, decide_eq_true_eq, List.isEmpty_iff] at e2
  obtain ⟨h1, h2, h3, h4, h5⟩ := e2
  obtain ⟨fd, F⟩ := c.def_ f (d := d) e1
  have ea : adOf K fn f = He.fAd K d.at_ := by unfold adOf; rw [e1]
  have F' : FunD K d.name d.qual d.params d.body d.scope [] [] (adOf K fn f) fd := by
    rw [ea]
    have z1 : d.dvs K = [] := by unfold He.DefD.dvs; rw [h1]; rfl
    have z2 : d.kws K = [] := by unfold He.DefD.kws; rw [h2]; rfl
    rw [z1, z2] at F
    exact F
  exact ⟨d, fd, F', scC_ok h3, h4, h5, FunD.bindsN (ps := fdm.ps) F' e3⟩
/-! ### the law -/
theorem ints_all {L : Lay} {ρ : List Addr} {H : Hp} : ∀ ns : List Int, RepAll L ρ H (ns.map T.int) (ns.map V.int)
  | [] => by simp only [List.map_nil, RepAll]
  | n :: ns => (ints_all ns).cons (by simp only [Rep])
theorem law_sp {w : World} {P : Prog} {K : PySem.W.Frag} {fn : List He.DefD} {l f : Nat} {H : Hp} {a : Addr} {ns : List Int} (hS : SqL K H a (ns.map V.int)) (h : ∃ th, callN P l f [.s (ns.map T.int) []] [] = .ok (.t (.bl true)) th) :
    spOf (layOf K P fn w) (callN P l) 1 f [.ref a] H (fun v _ => v = .bl true) fun _ _ _ => False := by
  obtain ⟨th, e⟩ := h
  refine ⟨rfl, [], [], [.s (ns.map T.int) []], ⟨rfl, List.nodup_nil, fun i a o h _ => by simp at h⟩, .cons ⟨a, _, rfl, ?_, ints_all ns⟩ .nil, ?_⟩
  · rcases hS with hS | hS
    · exact .inl ⟨hS, by simp, id⟩
    · exact .inr hS
  · rw [e]
    intro ρ' v H' _ _ rv
    simp only [RepF, Rep] at rv
    exact rv
theorem walk_ofG {l : PySem.W.OpenLaw} {n k : Nat} {q : Program} {loose : List Str} {XP : (Str → Option Value) → Heap → Prop} {YP : World → Heap → Prop} {d : DefRec} {CX : World → CXT} {x : Str} (hn : l.most = some n) (hn2 : n ≤ sizeLine) (hdf : d.params.defaults = []) (hr : Room k callerA)
    (F : ∀ (w : World) (mg : Str → Option Value) (fa : Addr) (h : Heap), YP w h → h.Ns mainGlobals mg → mg d.name = some (.ref fa) → ∃ (K : PySem.W.Frag) (fd : FuncData) (sp : Sp), K.In h ∧ (∀ (s : Shared) (u : Value), BindsTo s fd ⟨[u], []⟩ [(x, u)]) ∧
      (∀ (H : Hp) (a : Addr) (ns : List Int), ns.length ≤ n → SqL K H a (ns.map V.int) → sp [.ref a] H (fun v _ => v = .bl true) fun _ _ _ => False) ∧ ∀ base : Heap, K.In base → base.Ns mainGlobals mg → FnG l.prog w K mg base (CX w) k fa fd [x] sp)
    (hCX : ∀ (w : World) (H : Hp) (s : Shared) (e : Value) (s' : Shared), CX w [] H s (fun _ _ _ => False) e s' → False) : PySem.W.WalkO q loose XP YP l.row.toRowW d [] (fun f vs => PySem.call f vs) := by
  refine Att.attach_call hn hdf fun w s₀ s₁ mg mb fa o pm cd doc a vs ns G Y ho hd hcd hmg hobj hints hlen hg => ?_
  obtain ⟨K, fd, sp, kin, bd, hs, hF⟩ := F w mg fa _ Y G.T.g hmg
  exact law_callG kin G.T.g G.T.b G.T.builtins G.T.nolimit hg hobj hints (Nat.le_trans hlen hn2) hr hF bd (fun H _ sq => hs H a ns hlen sq) fun H e s' => hCX w H s₁ e s'
/-- what the walk is to show -/
theorem law_all {P : Prog} {G : Gt} {fn : List He.DefD} {prog : Program} {w : World} {mg : Str → Option Value} {fa : Addr} {h : Heap} {n m l f : Nat} {x : Str} {N : List Str} {b : Sts} {nm : Str} (Y : ∃ K : PySem.W.Frag, K.In h ∧ He.SaysD (faOf P G) fn K ∧ exB P K = true) (Ns : h.Ns mainGlobals mg) (hfa : mg ("law" : Str) = some (.ref fa))
    (c1 : modC P G fn = true) (c2 : defsC P G n m P.fns fn = true) (c3 : BindsOk P.fns fn) (hg : G.gf.lookup ("law" : Str) = some f) (hf : P.fns[f]? = some ⟨nm, [x], N, b⟩) (pure : ∀ ns : List Int, ns.length ≤ 63 → ∃ th, callN P l f [.s (ns.map T.int) []] [] = .ok (.t (.bl true)) th) :
    ∃ (K : PySem.W.Frag) (fd : FuncData) (sp : Sp), K.In h ∧ (∀ (s : Shared) (u : Value), BindsTo s fd ⟨[u], []⟩ [(x, u)]) ∧
      (∀ (H : Hp) (a : Addr) (ns : List Int), ns.length ≤ 63 → SqL K H a (ns.map V.int) → sp [.ref a] H (fun v _ => v = .bl true) fun _ _ _ => False) ∧ ∀ base : Heap, K.In base → base.Ns mainGlobals mg → FnG prog w K mg base (L2.CX prog w) (2 * l) fa fd [x] sp := by
  obtain ⟨K, X, c, ex⟩ := Y
  have M := mod_ok (w := w) X Ns c ex c1
  have D := defs_ok c c2 c3
  have e := M.gf _ _ hg
  rw [hfa] at e
  have e : fa = adOf K fn f := by
    injection e with e
    injection e
  subst e
  obtain ⟨d, e1, e2, e3⟩ := defsC_get c2 c3 hf
  unfold defC at e2
  simp only [Bool.and_eq_true, decide_eq_true_eq, List.isEmpty_iff] at e2
  obtain ⟨h1, h2, _⟩ := e2
  obtain ⟨fd, F⟩ := c.def_ f (d := d) e1
  have ea : adOf K fn f = He.fAd K d.at_ := by unfold adOf; rw [e1]
  have F' : FunD K d.name d.qual d.params d.body d.scope [] [] (adOf K fn f) fd := by
    rw [ea]
    have z1 : d.dvs K = [] := by unfold He.DefD.dvs; rw [h1]; rfl
    have z2 : d.kws K = [] := by unfold He.DefD.kws; rw [h2]; rfl
    rw [z1, z2] at F
    exact F
  refine ⟨K, fd, spOf (layOf K P fn w) (callN P l) 1 f, X, fun s u => FunD.bindsA (ps := [x]) F' e3 s [u] rfl, fun H a ns hl hS => law_sp hS (pure ns hl), fun base hb hbn => ?_⟩
  obtain ⟨fd', ⟨d', Fd⟩, F2, _⟩ := all_ok (prog := prog) (w := w) (base := base) (ad := adOf K fn) (cad := cadOf K P) M D l f _ hf
  have uniq : fd' = fd := by
    obtain ⟨_, _, _, _, _, _, _, _, _, _, _, lk1, _⟩ := Fd.ex
    obtain ⟨_, _, _, _, _, _, _, _, _, _, _, lk2, _⟩ := F'.ex
    rw [lk1] at lk2
    cases lk2
    rfl
  rw [← uniq]
  exact F2
end Mini
/-! Mini: its monad's laws, for plain proofs. -/
set_option linter.all false
set_option autoImplicit false
namespace Mini
open PySem
section
variable {α β γ : Type}
@[simp] theorem m_pb (a : α) (f : α → M β) : ((pure a : M α) >>= f) = f a := rfl
@[simp] theorem m_as (m : M α) (f : α → M β) (g : β → M γ) : ((m >>= f) >>= g) = (m >>= fun a => f a >>= g) := by
  funext s
  show (match (match m s with | .ok a s' => f a s' | .exc e s' => .exc e s' | .bad => .bad) with | .ok a s' => g a s' | .exc e s' => .exc e s' | .bad => .bad) = (match m s with | .ok a s' => (match f a s' with | .ok a s' => g a s' | .exc e s' => .exc e s' | .bad => .bad) | .exc e s' => .exc e s' | .bad => .bad)
  cases m s <;> rfl
@[simp] theorem m_fb (f : α → M β) : ((fail : M α) >>= f) = fail := rfl
@[simp] theorem m_bp (m : M α) : (m >>= fun a => pure a) = m := by
  funext s
  show (match m s with | .ok a s' => .ok a s' | .exc e s' => .exc e s' | .bad => .bad) = m s
  cases m s <;> rfl
@[simp] theorem m_os (a : α) : (ofO (some a) : M α) = pure a := rfl
@[simp] theorem m_on : (ofO (none : Option α) : M α) = fail := rfl
theorem m_ib (c : Prop) [Decidable c] (a b : M α) (f : α → M β) : ((if c then a else b) >>= f) = (if c then a >>= f else b >>= f) := by split <;> rfl
theorem m_ap (m : M α) (f : α → M β) (s : S) : (m >>= f) s = (match m s with
  | .ok a s' => f a s'
  | .exc e s' => .exc e s'
  | .bad => .bad) := rfl
@[simp] theorem m_pa (a : α) (s : S) : (pure a : M α) s = .ok a s := rfl
theorem m_ok {m : M α} {f : α → M β} {s s' : S} {a : α} (h : m s = .ok a s') : (m >>= f) s = f a s' := by rw [m_ap, h]
theorem m_okI {m : M α} {a : α} (h : m = pure a) {f : α → M β} : (m >>= f) = f a := by rw [h]; rfl
end
/-- a call, unfolded -/
theorem call_at {P : Prog} {l k : Nat} {fd : Fd} {args : List TV} (h : P.fns[k]? = some fd) (hl : args.length = fd.ps.length) : callN P (l + 1) k args = (evalSs P (callN P l) fd.body (start fd args) >>= fin) := by
  show (match P.fns[k]? with
    | none => fail
    | some fd => if args.length = fd.ps.length then evalSs P (callN P l) fd.body (start fd args) >>= fin else fail) = _
  rw [h]
  exact if_pos hl
/-- a comprehension whose turns do not touch the state -/
theorem lcL_pure {tgt : T → Option Env} {tst : Env → M Bool} {elt : Env → M T} {g : S → Bool} {b : T → Bool} {y : T → T} : ∀ {xs : List T} {s : S}, g s = true → (∀ x ∈ xs, ∃ ρ, tgt x = some ρ ∧ tst ρ s = .ok (b x) s ∧ (b x = true → elt ρ s = .ok (y x) s)) →
    noExc (lcL tgt tst elt g xs) s = .ok ((xs.filter b).map y) s
  | [], s, hg, _ => by
    unfold noExc lcL
    simp [hg]
  | x :: xs, s, hg, h => by
    obtain ⟨ρ, h1, h2, h3⟩ := h x List.mem_cons_self
    have ih := lcL_pure (xs := xs) hg fun z hz => h z (List.mem_cons_of_mem _ hz)
    have ih' : lcL tgt tst elt g xs s = .ok ((xs.filter b).map y) s := by
      unfold noExc at ih
      split at ih
      · rename_i a s' e
        rw [e, ih]
      · cases ih
    unfold noExc lcL
    simp only [hg, if_true, h1]
    rw [m_ok h2]
    cases hb : b x with
    | false => simp [ih', hb, List.filter_cons]
    | true =>
      rw [if_pos rfl, m_ok (h3 hb), m_ok ih']
      simp [hb, List.filter_cons]
/-- .. all of them kept -/
theorem lcL_map {tgt : T → Option Env} {elt : Env → M T} {g : S → Bool} {y : T → T} {xs : List T} {s : S} (hg : g s = true) (h : ∀ x ∈ xs, ∃ ρ, tgt x = some ρ ∧ elt ρ s = .ok (y x) s) :
    noExc (lcL tgt (fun _ => pure true) elt g xs) s = .ok (xs.map y) s := by
  have e := lcL_pure (tgt := tgt) (tst := fun _ => pure true) (elt := elt) (g := g) (b := fun _ => true) (y := y) hg fun x hx => by
    obtain ⟨ρ, h1, h2⟩ := h x hx
    exact ⟨ρ, h1, rfl, fun _ => h2⟩
  rw [e, List.filter_eq_self.mpr fun _ _ => rfl]
/-- the same, by functions -/
theorem lcM {α : Type} {tgt : T → Option Env} {tst : Env → M Bool} {elt : Env → M T} (as : List α) (j : α → T) (b : α → Bool) (y : α → T) (h : ∀ a ∈ as, ∃ ρ, tgt (j a) = some ρ ∧ tst ρ = pure (b a) ∧ (b a = true → elt ρ = pure (y a))) :
    noExc (lcL tgt tst elt (fun _ => true) (as.map j)) = pure ((as.filter b).map y) := by
  funext s
  have key : lcL tgt tst elt (fun _ => true) (as.map j) s = .ok ((as.filter b).map y) s := by
    induction as with
    | nil => rfl
    | cons a as ih =>
      obtain ⟨ρ, h1, h2, h3⟩ := h a List.mem_cons_self
      have ih' := ih fun z hz => h z (List.mem_cons_of_mem _ hz)
      rw [List.map_cons]
      unfold lcL
      simp only [if_true, h1, h2, m_pb]
      cases hb : b a with
      | false => simp [ih', hb, List.filter_cons]
      | true =>
        rw [if_pos rfl, h3 hb, m_pb, m_ok ih']
        simp [hb, List.filter_cons]
  unfold noExc
  rw [key]
  rfl
theorem lcA {α : Type} {tgt : T → Option Env} {tst : Env → M Bool} {elt : Env → M T} (as : List α) (j : α → T) (y : α → T) (h : ∀ a ∈ as, ∃ ρ, tgt (j a) = some ρ ∧ tst ρ = pure true ∧ elt ρ = pure (y a)) :
    noExc (lcL tgt tst elt (fun _ => true) (as.map j)) = pure (as.map y) := by
  rw [lcM as j (fun _ => true) y fun a ha => by
    obtain ⟨ρ, h1, h2, h3⟩ := h a ha
    exact ⟨ρ, h1, h2, fun _ => h3⟩, List.filter_eq_self.mpr fun _ _ => rfl]
@[simp] theorem bools_map {α : Type} (f : α → Bool) : ∀ l : List α, boolsOf (l.map fun a => T.bl (f a)) = some (l.map f)
  | [] => rfl
  | a :: l => by simp [boolsOf, bools_map f l]
@[simp] theorem ints_map {α : Type} (f : α → Int) : ∀ l : List α, intsOf (l.map fun a => T.int (f a)) = some (l.map f)
  | [] => rfl
  | a :: l => by simp [intsOf, ints_map f l]
@[simp] theorem pairs_map {α β : Type} (f : α → T) (g : β → T) (l : List α) (r : List β) : pairs (l.map f) (r.map g) = (l.zip r).map fun p => .tup [f p.1, g p.2] := by
  unfold pairs
  rw [List.zipWith_map, List.zip, List.map_zipWith]
@[simp] theorem range_map (a b : Int) : rangeT a b = ((List.range (b - a).toNat).map fun (i : Nat) => a + (i : Int)).map T.int := by
  unfold rangeT
  rw [List.map_map]
  rfl
/-- a loop whose turns do not touch the state -/
theorem forL_pure {α β : Type} {tgt : T → Env → Option Env} {body : Env → M Out} (en : β → Env) (j : α → T) (step : β → α → β) (I : β → Prop) : ∀ (as : List α) (acc : β), I acc →
    (∀ acc, I acc → ∀ a ∈ as, I (step acc a) ∧ ∃ ρ, tgt (j a) (en acc) = some ρ ∧ body ρ = pure (.nx (en (step acc a)))) → forL tgt body (fun _ => true) (as.map j) (en acc) = pure (.nx (en (as.foldl step acc)))
  | [], acc, _, _ => rfl
  | a :: as, acc, hi, h => by
    obtain ⟨hi2, ρ, h1, h2⟩ := h acc hi a List.mem_cons_self
    have ih := forL_pure en j step I as (step acc a) hi2 fun acc' hi' b hb => h acc' hi' b (List.mem_cons_of_mem _ hb)
    funext s
    rw [List.map_cons]
    unfold forL
    simp only [if_true, h1, h2, m_pb]
    rw [ih]
    rfl
/-- a loop with its word -/
theorem forL_inv {tgt : T → Env → Option Env} {body : Env → M Out} {g : S → Bool} (W : Nat → Env → S → Prop) : ∀ (xs : List T) (k : Nat) (ρ : Env) (s : S), W k ρ s →
    (∀ i x ρ s, xs[i]? = some x → W (k + i) ρ s → g s = true ∧ ∃ ρ1, tgt x ρ = some ρ1 ∧ ∃ ρ2 s2, (body ρ1 s = .ok (.nx ρ2) s2 ∨ body ρ1 s = .ok (.ct ρ2) s2) ∧ W (k + i + 1) ρ2 s2) → (∀ ρ s, W (k + xs.length) ρ s → g s = true) →
    ∃ ρ' s', forL tgt body g xs ρ s = .ok (.nx ρ') s' ∧ W (k + xs.length) ρ' s'
  | [], k, ρ, s, hw, _, he => ⟨ρ, s, by unfold forL; simp [he ρ s hw], hw⟩
  | x :: xs, k, ρ, s, hw, h, he => by
    obtain ⟨hg, ρ1, h1, ρ2, s2, h2, h3⟩ := h 0 x ρ s rfl hw
    obtain ⟨ρ', s', e, w⟩ := forL_inv W xs (k + 1) ρ2 s2 h3 (fun i y ρ s hy hw => by
      have q := h (i + 1) y ρ s (by simpa using hy) (by rw [show k + (i + 1) = k + 1 + i by omega]; exact hw)
      rw [show k + (i + 1) + 1 = k + 1 + i + 1 by omega] at q
      exact q) fun ρ s hw => he ρ s (by rw [List.length_cons, show k + (xs.length + 1) = k + 1 + xs.length by omega]; exact hw)
    refine ⟨ρ', s', ?_, by rw [List.length_cons, show k + (xs.length + 1) = k + 1 + xs.length by omega]; exact w⟩
    unfold forL
    simp only [hg, if_true, h1]
    rcases h2 with h2 | h2 <;> rw [m_ok h2] <;> exact e
theorem sIx_at (n d k : Nat) : HT.sIx n d (some (k : Int)) = min k n := by
  show (if (k : Int) < 0 then ((k : Int) + (n : Int)).toNat else min (k : Int).toNat n) = min k n
  rw [if_neg (by omega)]
  rfl
theorem cut_from {α : Type} (xs : List α) (i : Nat) : cut xs (some (i : Int)) none = xs.drop i := by
  unfold cut
  rw [sIx_at]
  show (xs.drop (min i xs.length)).take (xs.length - min i xs.length) = xs.drop i
  rw [List.take_of_length_le (by rw [List.length_drop]; exact Nat.le_refl _)]
  by_cases h : i ≤ xs.length
  · rw [Nat.min_eq_left h]
  · rw [Nat.min_eq_right (by omega), List.drop_of_length_le (Nat.le_refl _), List.drop_of_length_le (by omega)]
theorem cut_to {α : Type} (xs : List α) (i : Nat) : cut xs none (some (i : Int)) = xs.take i := by
  unfold cut
  rw [sIx_at]
  show (xs.drop 0).take (min i xs.length - 0) = xs.take i
  rw [List.drop_zero, Nat.sub_zero]
  by_cases h : i ≤ xs.length
  · rw [Nat.min_eq_left h]
  · rw [Nat.min_eq_right (by omega), List.take_of_length_le (Nat.le_refl _), List.take_of_length_le (by omega)]
/-! ### data as trees -/
abbrev tI (xs : List Int) : T := .tup (xs.map T.int)
def tO : Option Int → T
  | none => .non
  | some a => .int a
abbrev tR (r : List (Option Int)) : T := .tup (r.map tO)
abbrev tB (b : List (List Int)) : T := .tup (b.map tI)
abbrev tRs (rs : List (List (List Int))) : T := .tup (rs.map tB)
def plainT : T → Bool
  | .ref _ => false
  | .fn _ => false
  | .cl _ => false
  | .ty _ => false
  | _ => true
def isInt : T → Bool
  | .int _ => true
  | _ => false
def inB (lo hi : Int) : T → Bool
  | .int a => decide (lo ≤ a) && decide (a ≤ hi)
  | _ => false
/-! ### steps, by constructors -/
theorem szl : sizeLine = 16777216 := sizeLine_eq
section
variable {α β : Type} {a b : Int} {x y : T} {xs ys : List T} {g : List GI} {r : Env} {i : Nat} {o : Option TV} {s : S}
@[simp] theorem m_gs (m : M α) : (getS >>= fun _ => m) = m := rfl
@[simp] theorem tr_bl {c : Bool} : truth (.t (.bl c)) = pure c := rfl
@[simp] theorem tr_non : truth (.t .non) = pure false := rfl
@[simp] theorem tr_int : truth (.t (.int a)) = pure (a != 0) := rfl
@[simp] theorem tr_tup : truth (.t (.tup xs)) = pure (!xs.isEmpty) := rfl
@[simp] theorem ow_t : own2 (.t x) = pure (.t x) := rfl
@[simp] theorem ow_l : own2 (.l xs) = pure (.l xs) := rfl
@[simp] theorem ar_t : argOf (.t x) = .t x := rfl
@[simp] theorem ar_l : argOf (.l xs) = .s xs [] := rfl
@[simp] theorem ar_s : argOf (.s xs g) = .s xs [] := rfl
@[simp] theorem in_i : intOf (.t (.int a)) = pure a := rfl
@[simp] theorem sq_t : seqOf (.t (.tup xs)) = pure xs := rfl
@[simp] theorem sq_l : seqOf (.l xs) = pure xs := rfl
@[simp] theorem sq_s : seqOf (.s xs g) = pure xs := rfl
@[simp] theorem ls_l : lstOf (.l xs) = pure xs := rfl
@[simp] theorem ls_s : lstOf (.s xs g) = pure xs := rfl
@[simp] theorem it_t : itOf (.t (.tup xs)) = pure (xs, []) := rfl
@[simp] theorem it_l : itOf (.l xs) = pure (xs, []) := rfl
@[simp] theorem it_s : itOf (.s xs g) = pure (xs, g) := rfl
@[simp] theorem mt_t : mat (.t x) = pure x := rfl
@[simp] theorem cm_lt : Mini.cmp .lt (.t (.int a)) (.t (.int b)) = pure (decide (a < b)) := rfl
@[simp] theorem cm_le : Mini.cmp .le (.t (.int a)) (.t (.int b)) = pure (decide (a ≤ b)) := rfl
@[simp] theorem cm_gt : Mini.cmp .gt (.t (.int a)) (.t (.int b)) = pure (decide (b < a)) := rfl
@[simp] theorem cm_ge : Mini.cmp .ge (.t (.int a)) (.t (.int b)) = pure (decide (b ≤ a)) := rfl
@[simp] theorem cm_is : Mini.cmp .is_ (.t x) (.t .non) = pure (isNone (.t x)) := rfl
@[simp] theorem cm_isn : Mini.cmp .isnot (.t x) (.t .non) = pure (!isNone (.t x)) := rfl
theorem eqv_int : PyData.eqv (.int a) (.int b) = decide (a = b) := by
  simp only [PyData.eqv]
  by_cases h : a = b <;> simp [h]
@[simp] theorem cm_eqi : Mini.cmp .eq (.t (.int a)) (.t (.int b)) = pure (decide (a = b)) := by
  funext s
  show (if SeqAt.shaped (.int a) && SeqAt.shaped (.int b) then Res.ok (PyData.eqv (.int a) (.int b)) s else .bad) = _
  rw [eqv_int]; rfl
@[simp] theorem cm_nei : Mini.cmp .ne (.t (.int a)) (.t (.int b)) = pure (!decide (a = b)) := by
  show (Mini.cmp .eq (.t (.int a)) (.t (.int b)) >>= fun r => pure !r) = _
  rw [cm_eqi]; rfl
@[simp] theorem nn_n : isNone (.t .non) = true := rfl
@[simp] theorem nn_i : isNone (.t (.int a)) = false := rfl
@[simp] theorem nn_t : isNone (.t (.tup xs)) = false := rfl
@[simp] theorem bn_sub : bin .sub (.t (.int a)) (.t (.int b)) = pure (.t (.int (a - b))) := rfl
@[simp] theorem bn_add : bin .add (.t (.int a)) (.t (.int b)) = pure (.t (.int (a + b))) := rfl
theorem bn_mul : bin .mul (.t (.int a)) (.t (.int b)) = if a.natAbs.log2 + b.natAbs.log2 < 1000000 then pure (.t (.int (a * b))) else fail := rfl
theorem bn_mod : bin .mod (.t (.int a)) (.t (.int b)) = if 0 < b then pure (.t (.int (a % b))) else fail := rfl
theorem bn_fdiv : bin .fdiv (.t (.int a)) (.t (.int b)) = if 0 < b ∧ b.natAbs.log2 < 9000 then pure (.t (.int (a / b))) else fail := rfl
@[simp] theorem bi_len_t : Mini.bi .len [.t (.tup xs)] = pure (.t (.int xs.length)) := rfl
@[simp] theorem bi_len_s : Mini.bi .len [.s xs g] = pure (.t (.int xs.length)) := rfl
@[simp] theorem bi_all_s : Mini.bi .all [.s xs g] = (ofO (boolsOf xs) >>= fun bs => pure (.t (.bl (bs.all id)))) := rfl
@[simp] theorem bi_any_s : Mini.bi .any [.s xs g] = (ofO (boolsOf xs) >>= fun bs => pure (.t (.bl (bs.any id)))) := rfl
@[simp] theorem bi_tup_s : Mini.bi .tuple [.s xs g] = pure (.t (.tup xs)) := rfl
@[simp] theorem bi_tup_t : Mini.bi .tuple [.t (.tup xs)] = pure (.t (.tup xs)) := rfl
@[simp] theorem bi_lst_s : Mini.bi .list [.s xs g] = pure (.l xs) := rfl
@[simp] theorem bi_int_i : Mini.bi .int [.t (.int a)] = pure (.t (.int a)) := rfl
@[simp] theorem bi_abs_i : Mini.bi .abs [.t (.int a)] = pure (.t (.int (if a < 0 then -a else a))) := rfl
theorem sl_tup {lo hi : Option Int} : slOf (.t (.tup xs)) lo hi = pure (.t (.tup (cut xs lo hi))) := rfl
@[simp] theorem pt_t {v : TV} : partOf true v = pure none := rfl
@[simp] theorem pt_f : partOf false (.t (.int a)) = pure (some a) := rfl
@[simp] theorem fin_rt {v : TV} : fin (.rt v) = pure v := rfl
@[simp] theorem fin_nxt : fin (.nx r) = pure (.t .non) := rfl
end
def rdO (i : Nat) : Option (Option TV) → Option TV
  | some (some (.t x)) => some (.t x)
  | some (some (.l xs)) => some (.s xs [.sl i])
  | some (some (.s xs _)) => some (.s xs [])
  | _ => none
@[simp] theorem rv_eq {r : Env} {i : Nat} : readV r i = rdO i r[i]? := rfl
@[simp] theorem rd_t {i : Nat} {x : T} : rdO i (some (some (.t x))) = some (.t x) := rfl
@[simp] theorem rd_l {i : Nat} {xs : List T} : rdO i (some (some (.l xs))) = some (.s xs [.sl i]) := rfl
@[simp] theorem rd_s {i : Nat} {xs : List T} {g : List GI} : rdO i (some (some (.s xs g))) = some (.s xs []) := rfl
@[simp] theorem all_tt {α : Type} {l : List α} : (l.all fun _ => true) = true := by simp
@[simp] theorem any_ff {α : Type} {l : List α} : (l.any fun _ => false) = false := by simp
/-! ### data of none, ints, tuples, compared -/
mutual
def T.okD : T → Bool
  | .non => true
  | .int _ => true
  | .tup xs => T.okDs xs
  | _ => false
def T.okDs : List T → Bool
  | [] => true
  | x :: xs => T.okD x && T.okDs xs
end
mutual
def T.dep : T → Nat
  | .tup xs => T.deps xs + 1
  | _ => 0
def T.deps : List T → Nat
  | [] => 0
  | x :: xs => max (T.dep x) (T.deps xs)
end
mutual
def T.toD : T → PyData
  | .int i => .int i
  | .bl b => .bool b
  | .tup xs => .tuple (T.toDs xs)
  | _ => .none
def T.toDs : List T → List PyData
  | [] => []
  | x :: xs => T.toD x :: T.toDs xs
end
mutual
theorem dat_ok (r : Nat → Option PyData) : ∀ t : T, T.okD t = true → t.dat r = some t.toD ∧ t.toD.canLay0 = true ∧ t.toD.depth = t.dep
  | .non, _ => ⟨rfl, rfl, rfl⟩
  | .int i, _ => ⟨rfl, rfl, rfl⟩
  | .tup xs, h => by
    obtain ⟨h1, h2, h3⟩ := dats_ok r xs h
    refine ⟨?_, ?_, ?_⟩
    · simp only [T.dat, h1, T.toD, Option.map_some]
    · simpa only [T.toD, PyData.canLay0] using h2
    · simp only [T.toD, PyData.depth, T.dep, h3]
  | .bl _, h => by cases h
  | .str _, h => by cases h
  | .ref _, h => by cases h
  | .fn _, h => by cases h
  | .cl _, h => by cases h
  | .ty _, h => by cases h
theorem dats_ok (r : Nat → Option PyData) : ∀ xs : List T, T.okDs xs = true → T.datAll r xs = some (T.toDs xs) ∧ PyData.canLayAll0 (T.toDs xs) = true ∧ PyData.depthAll (T.toDs xs) = T.deps xs
  | [], _ => ⟨rfl, rfl, rfl⟩
  | x :: xs, h => by
    simp only [T.okDs, Bool.and_eq_true] at h
    obtain ⟨a1, a2, a3⟩ := dat_ok r x h.1
    obtain ⟨b1, b2, b3⟩ := dats_ok r xs h.2
    refine ⟨?_, ?_, ?_⟩
    · simp only [T.datAll, a1, b1, T.toDs]
    · simp only [T.toDs, PyData.canLayAll0, a2, b2, Bool.and_self]
    · simp only [T.toDs, PyData.depthAll, a3, b3, T.deps]
end
mutual
theorem eqv_ok : ∀ x y : T, T.okD x = true → T.okD y = true → PyData.eqv x.toD y.toD = T.eqb x y
  | .non, .non, _, _ => rfl
  | .non, .int _, _, _ => rfl
  | .non, .tup _, _, _ => rfl
  | .int _, .non, _, _ => rfl
  | .int i, .int j, _, _ => by
    simp only [T.toD, PyData.eqv, T.eqb]
    by_cases h : i = j <;> simp [h]
  | .int _, .tup _, _, _ => rfl
  | .tup _, .non, _, _ => rfl
  | .tup _, .int _, _, _ => rfl
  | .tup xs, .tup ys, h, k => by
    simp only [T.toD, PyData.eqv, T.eqb]
    exact eqvs_ok xs ys h k
  | .bl _, _, h, _ => by cases h
  | .str _, _, h, _ => by cases h
  | .ref _, _, h, _ => by cases h
  | .fn _, _, h, _ => by cases h
  | .cl _, _, h, _ => by cases h
  | .ty _, _, h, _ => by cases h
  | .non, .bl _, _, h => by cases h
  | .non, .str _, _, h => by cases h
  | .non, .ref _, _, h => by cases h
  | .non, .fn _, _, h => by cases h
  | .non, .cl _, _, h => by cases h
  | .non, .ty _, _, h => by cases h
  | .int _, .bl _, _, h => by cases h
  | .int _, .str _, _, h => by cases h
  | .int _, .ref _, _, h => by cases h
  | .int _, .fn _, _, h => by cases h
  | .int _, .cl _, _, h => by cases h
  | .int _, .ty _, _, h => by cases h
  | .tup _, .bl _, _, h => by cases h
  | .tup _, .str _, _, h => by cases h
  | .tup _, .ref _, _, h => by cases h
  | .tup _, .fn _, _, h => by cases h
  | .tup _, .cl _, _, h => by cases h
  | .tup _, .ty _, _, h => by cases h
theorem eqvs_ok : ∀ xs ys : List T, T.okDs xs = true → T.okDs ys = true → PyData.eqvAll (T.toDs xs) (T.toDs ys) = T.eqbAll xs ys
  | [], [], _, _ => rfl
  | [], _ :: _, _, _ => rfl
  | _ :: _, [], _, _ => rfl
  | x :: xs, y :: ys, h, k => by
    simp only [T.okDs, Bool.and_eq_true] at h k
    simp only [T.toDs, PyData.eqvAll, T.eqbAll, eqv_ok x y h.1 k.1, eqvs_ok xs ys h.2 k.2]
end
theorem shaped_ok {t : T} (h : T.okD t = true) (hd : t.dep ≤ 60) : SeqAt.shaped t.toD = true := by
  obtain ⟨_, h2, h3⟩ := dat_ok (fun _ => none) t h
  unfold SeqAt.shaped
  rw [h2, h3, decide_eq_true (by omega)]
  rfl
theorem cm_eq {x y : T} (hx : T.okD x = true) (hy : T.okD y = true) (dx : x.dep ≤ 60) (dy : y.dep ≤ 60) : Mini.cmp .eq (.t x) (.t y) = pure (T.eqb x y) := by
  funext s
  show (match (TV.t x).dat s, (TV.t y).dat s with
    | some d, some e => if SeqAt.shaped d && SeqAt.shaped e then Res.ok (PyData.eqv d e) s else .bad
    | _, _ => .bad) = _
  have e1 : (TV.t x).dat s = some x.toD := (dat_ok (refD s 40) x hx).1
  have e2 : (TV.t y).dat s = some y.toD := (dat_ok (refD s 40) y hy).1
  rw [e1, e2]
  simp only [shaped_ok hx dx, shaped_ok hy dy, Bool.and_self, if_true, eqv_ok x y hx hy]
  rfl
theorem cm_ne {x y : T} (hx : T.okD x = true) (hy : T.okD y = true) (dx : x.dep ≤ 60) (dy : y.dep ≤ 60) : Mini.cmp .ne (.t x) (.t y) = pure (!T.eqb x y) := by
  show (Mini.cmp .eq (.t x) (.t y) >>= fun r => pure !r) = _
  rw [cm_eq hx hy dx dy]
  rfl
theorem any_ok {x : T} (hx : T.okD x = true) : ∀ {ys : List T}, T.okDs ys = true → ((T.toDs ys).any fun e => PyData.eqv e x.toD) = ys.any fun y => T.eqb y x
  | [], _ => rfl
  | y :: ys, h => by
    simp only [T.okDs, Bool.and_eq_true] at h
    simp only [T.toDs, List.any_cons, eqv_ok y x h.1 hx, any_ok hx h.2]
theorem cm_in {x : T} {ys : List T} (hx : T.okD x = true) (hy : T.okDs ys = true) (dx : x.dep ≤ 60) (dy : T.deps ys ≤ 59) : Mini.cmp .in_ (.t x) (.t (.tup ys)) = pure (ys.any fun y => T.eqb y x) := by
  funext s
  show datAny (.t x) ys s = _
  unfold datAny
  have e1 : (TV.t x).dat s = some x.toD := (dat_ok (refD s 40) x hx).1
  obtain ⟨e2, e3, e4⟩ := dats_ok (refD s 40) ys hy
  have sh : SeqAt.shaped (.list (T.toDs ys)) = true := by
    unfold SeqAt.shaped
    simp only [PyData.canLay0, PyData.depth, e3, e4, Bool.true_and, decide_eq_true_eq]
    omega
  rw [e1, e2]
  simp only [shaped_ok hx dx, sh, Bool.and_self, if_true, any_ok hx hy]
  rfl
@[simp] theorem okD_ints (xs : List Int) : T.okDs (xs.map T.int) = true := by
  induction xs with
  | nil => rfl
  | cons a as ih => simp [T.okDs, T.okD, ih]
@[simp] theorem dep_ints (xs : List Int) : T.deps (xs.map T.int) = 0 := by
  induction xs with
  | nil => rfl
  | cons a as ih => simp [T.deps, T.dep, ih]
theorem any_ints (xs : List Int) (v : Int) : ((xs.map T.int).any fun y => T.eqb y (.int v)) = xs.any fun a => decide (a = v) := by
  rw [List.any_map]
  rfl
@[simp] theorem cm_in_int (xs : List Int) (v : Int) : Mini.cmp .in_ (.t (.int v)) (.t (.tup (xs.map T.int))) = pure (xs.any fun a => decide (a = v)) := by
  rw [cm_in rfl (okD_ints xs) (Nat.zero_le _) (by rw [dep_ints]; omega), any_ints]
@[simp] theorem okD_tO (o : Option Int) : T.okD (tO o) = true := by cases o <;> rfl
@[simp] theorem dep_tO (o : Option Int) : T.dep (tO o) = 0 := by cases o <;> rfl
theorem eqb_tO (o p : Option Int) : T.eqb (tO o) (tO p) = decide (o = p) := by
  cases o <;> cases p <;> simp [tO, T.eqb]
@[simp] theorem isNone_tO (o : Option Int) : isNone (.t (tO o)) = o.isNone := by cases o <;> rfl
/-- a loop that leaves the state, by a word on the slots -/
theorem forL_w {α : Type} {tgt : T → Env → Option Env} {body : Env → M Out} (W : Nat → Env → Prop) (j : α → T) : ∀ (as : List α) (k : Nat) (ρ : Env), W k ρ →
    (∀ i a ρ, as[i]? = some a → W (k + i) ρ → ∃ ρ1 ρ2, tgt (j a) ρ = some ρ1 ∧ (body ρ1 = pure (.nx ρ2) ∨ body ρ1 = pure (.ct ρ2)) ∧ W (k + i + 1) ρ2) →
    ∃ ρ', forL tgt body (fun _ => true) (as.map j) ρ = pure (.nx ρ') ∧ W (k + as.length) ρ'
  | [], k, ρ, hw, _ => ⟨ρ, rfl, hw⟩
  | a :: as, k, ρ, hw, h => by
    obtain ⟨ρ1, ρ2, h1, h2, h3⟩ := h 0 a ρ rfl hw
    obtain ⟨ρ', e, w⟩ := forL_w W j as (k + 1) ρ2 h3 fun i b ρ hy hw => by
      have q := h (i + 1) b ρ (by simpa using hy) (by rw [show k + (i + 1) = k + 1 + i by omega]; exact hw)
      rw [show k + (i + 1) + 1 = k + 1 + i + 1 by omega] at q
      exact q
    refine ⟨ρ', ?_, by rw [List.length_cons, show k + (as.length + 1) = k + 1 + as.length by omega]; exact w⟩
    funext s
    rw [List.map_cons]
    unfold forL
    simp only [if_true, h1]
    rcases h2 with h2 | h2 <;> (rw [h2, m_pb]; show forL tgt body _ _ ρ2 s = _; rw [e])
theorem forL_b {α β : Type} {tgt : T → Env → Option Env} {body : Env → M Out} {f : Out → M β} {Φ : M β} {ρ : Env} {as : List α} {j : α → T} (W : Nat → Env → Prop) (h0 : W 0 ρ)
    (h : ∀ i a ρ, as[i]? = some a → W i ρ → ∃ ρ1 ρ2, tgt (j a) ρ = some ρ1 ∧ (body ρ1 = pure (.nx ρ2) ∨ body ρ1 = pure (.ct ρ2)) ∧ W (i + 1) ρ2) (hf : ∀ ρ', W as.length ρ' → f (.nx ρ') = Φ) : (forL tgt body (fun _ => true) (as.map j) ρ >>= f) = Φ := by
  obtain ⟨ρ', e, w⟩ := forL_w (tgt := tgt) (body := body) W j as 0 ρ h0 (by simpa using h)
  rw [e, m_pb]
  exact hf ρ' (by simpa using w)
@[simp] theorem lk_n {ρ : Env} : lockOk ρ [] = true := rfl
@[simp] theorem lc_n {ρ : Env} : lock ρ [] = ρ := rfl
@[simp] theorem oks_n {s : S} : ([] : List GI).all (GI.okS s) = true := rfl
@[simp] theorem oks_sl {s : S} {i : Nat} : ([.sl i] : List GI).all (GI.okS s) = true := rfl
@[simp] theorem lc_sl {ρ : Env} {i : Nat} : lock ρ [.sl i] = ρ.set i none := rfl
@[simp] theorem l2_l {xs : List T} : lstOf2 (.l xs) = pure xs := rfl
theorem rng_ok {a b : Int} (h1 : -(2 ^ 62) ≤ a ∧ a < 2 ^ 62) (h2 : -(2 ^ 62) ≤ b ∧ b < 2 ^ 62) (h3 : (b - a).toNat ≤ sizeLine) : rangeV a b = pure (.s (rangeT a b) []) := by
  unfold rangeV small62
  rw [if_pos]
  simp only [Bool.and_eq_true, decide_eq_true_eq]
  exact ⟨⟨h1, h2⟩, h3⟩
/-! ### runs -/
def Go {α : Type} (m : M α) (s : S) (Q : α → S → Prop) : Prop := ∃ a s', m s = .ok a s' ∧ Q a s'
section
variable {α β : Type} {m : M α} {f : α → M β} {s : S} {Q : α → S → Prop} {Q' : β → S → Prop}
theorem go_pure {a : α} (h : Q a s) : Go (pure a) s Q := ⟨a, s, rfl, h⟩
theorem go_bind (h : Go m s fun a s' => Go (f a) s' Q') : Go (m >>= f) s Q' := by
  obtain ⟨a, s1, e1, b, s2, e2, q⟩ := h
  exact ⟨b, s2, by rw [m_ok e1]; exact e2, q⟩
theorem go_imp {Q2 : α → S → Prop} (h : Go m s Q) (k : ∀ a s', Q a s' → Q2 a s') : Go m s Q2 := by
  obtain ⟨a, s', e, q⟩ := h
  exact ⟨a, s', e, k a s' q⟩
theorem go_if {c : Prop} [Decidable c] {a b : M α} (h : (c → Go a s Q) ∧ (¬c → Go b s Q)) : Go (if c then a else b) s Q := by
  split
  · exact h.1 (by assumption)
  · exact h.2 (by assumption)
theorem go_pos {c : Prop} [Decidable c] {a b : M α} (hc : c) (h : Go a s Q) : Go (if c then a else b) s Q := by rw [if_pos hc]; exact h
theorem go_getS {f : S → M β} (h : Go (f s) s Q') : Go (getS >>= f) s Q' := h
theorem eq_of_go {v : α} (h : ∀ s, Go m s fun a s' => a = v ∧ s' = s) : m = pure v := by
  funext s
  obtain ⟨a, s', e, rfl, rfl⟩ := h s
  exact e
theorem go_for {α' : Type} {tgt : T → Env → Option Env} {body : Env → M Out} {g : S → Bool} {j : α' → T} {Qo : Out → S → Prop} (W : Nat → Env → S → Prop) : ∀ (as : List α') (k : Nat) (ρ : Env) (s : S), W k ρ s →
    (∀ i a ρ s, as[i]? = some a → W (k + i) ρ s → g s = true ∧ ∃ ρ1, tgt (j a) ρ = some ρ1 ∧ Go (body ρ1) s fun o s' => ∃ ρ2, (o = .nx ρ2 ∨ o = .ct ρ2) ∧ W (k + i + 1) ρ2 s') →
    (∀ ρ s, W (k + as.length) ρ s → g s = true ∧ Qo (.nx ρ) s) → Go (forL tgt body g (as.map j) ρ) s Qo
  | [], k, ρ, s, hw, _, he => by
    obtain ⟨h1, h2⟩ := he ρ s hw
    refine ⟨.nx ρ, s, ?_, h2⟩
    unfold forL
    simp only [List.map_nil]
    rw [if_pos h1]
  | a :: as, k, ρ, s, hw, h, he => by
    obtain ⟨hg, ρ1, h1, o, s2, h2, ρ2, h3, h4⟩ := h 0 a ρ s rfl hw
    obtain ⟨r, s3, e, q⟩ := go_for (Qo := Qo) W as (k + 1) ρ2 s2 h4 (fun i b ρ s hy hw => by
      have q := h (i + 1) b ρ s (by simpa using hy) (by rw [show k + (i + 1) = k + 1 + i by omega]; exact hw)
      rw [show k + (i + 1) + 1 = k + 1 + i + 1 by omega] at q
      exact q) fun ρ s hw => he ρ s (by rw [List.length_cons, show k + (as.length + 1) = k + 1 + as.length by omega]; exact hw)
    refine ⟨r, s3, ?_, q⟩
    rw [List.map_cons]
    unfold forL
    simp only [hg, if_true, h1]
    rw [m_ok h2]
    rcases h3 with rfl | rfl <;> exact e
theorem go_for0 {α' : Type} {tgt : T → Env → Option Env} {body : Env → M Out} {g : S → Bool} {j : α' → T} {Qo : Out → S → Prop} {as : List α'} {ρ : Env} (W : Nat → Env → S → Prop) (h0 : W 0 ρ s)
    (h : ∀ i a ρ s, as[i]? = some a → W i ρ s → g s = true ∧ ∃ ρ1, tgt (j a) ρ = some ρ1 ∧ Go (body ρ1) s fun o s' => ∃ ρ2, (o = .nx ρ2 ∨ o = .ct ρ2) ∧ W (i + 1) ρ2 s')
    (he : ∀ ρ s, W as.length ρ s → g s = true ∧ Qo (.nx ρ) s) : Go (forL tgt body g (as.map j) ρ) s Qo :=
  go_for W as 0 ρ s h0 (by simpa using h) (by simpa using he)
end
theorem bn_tup {xs ys : List T} (h : xs.length + ys.length ≤ sizeLine) : bin .add (.t (.tup xs)) (.t (.tup ys)) = pure (.t (.tup (xs ++ ys))) := by
  have e : addV (.t (.tup xs)) (.t (.tup ys)) = (if xs.length + ys.length ≤ sizeLine then pure (.t (.tup (xs ++ ys))) else fail) := by simp only [addV]
  rw [if_pos h] at e
  exact e
theorem log2_lt {n : Nat} (h : n < 2 ^ 64) : n.log2 < 64 := by
  by_cases hn : n = 0
  · subst hn; decide
  · exact (Nat.log2_lt hn).mpr h
theorem bn_mul_ok {a b : Int} (ha : a.natAbs < 2 ^ 64) (hb : b.natAbs < 2 ^ 64) : bin .mul (.t (.int a)) (.t (.int b)) = pure (.t (.int (a * b))) := by
  rw [bn_mul, if_pos]
  have := log2_lt ha
  have := log2_lt hb
  omega
theorem go_ok {α β : Type} {m : M α} {f : α → M β} {s s' : S} {a : α} {Q : β → S → Prop} (h : m s = .ok a s') (k : Go (f a) s' Q) : Go (m >>= f) s Q := by
  obtain ⟨b, s2, e, q⟩ := k
  exact ⟨b, s2, by rw [m_ok h]; exact e, q⟩
theorem fld_ok {P : Prog} {f : Str} {b c : Nat} {s : S} {fs : List (Str × T)} {x : T} (hb : s[b]? = some (.ins c fs)) (hl : fs.lookup f = some x) (hf : hasF P c f = true) : fldOf P f (.t (.ref b)) s = .ok (.t x) s := by
  unfold fldOf
  simp only [hb, hl, hf, if_true]
theorem set_ok {P : Prog} {f : Str} {b c : Nat} {s : S} {fs : List (Str × T)} {x : T} (hb : s[b]? = some (.ins c fs)) (hn : fs.length < 1000) (hf : hasF P c f = true) : setFld P f x (.t (.ref b)) s = .ok () (s.set b (.ins c (putF f x fs))) := by
  unfold setFld
  simp only [hb, hf, decide_eq_true hn, Bool.and_self, if_true]
theorem go_done {α : Type} {m : M α} {s s' : S} {a : α} (h : Go m s fun b s2 => b = a ∧ s2 = s') : m s = .ok a s' := by
  obtain ⟨b, s2, e, rfl, rfl⟩ := h
  exact e
theorem go_of {α : Type} {m : M α} {s s' : S} {a : α} {Q : α → S → Prop} (h : m s = .ok a s') (q : Q a s') : Go m s Q := ⟨a, s', h, q⟩
/-- comprehensions at a state -/
theorem go_lc {α β : Type} {tgt : T → Option Env} {tst : Env → M Bool} {elt : Env → M T} {g : S → Bool} {s : S} {f : List T → M β} {Q : β → S → Prop} (as : List α) (j : α → T) (b : α → Bool) (y : α → T) (hg : g s = true) (h : ∀ a ∈ as, ∃ ρ, tgt (j a) = some ρ ∧ tst ρ s = .ok (b a) s ∧ (b a = true → elt ρ s = .ok (y a) s))
    (k : Go (f ((as.filter b).map y)) s Q) : Go (noExc (lcL tgt tst elt g (as.map j)) >>= f) s Q := by
  refine go_ok (a := (as.filter b).map y) (s' := s) ?_ k
  have key : lcL tgt tst elt g (as.map j) s = .ok ((as.filter b).map y) s := by
    clear k
    induction as with
    | nil => unfold lcL; simp [hg]
    | cons a as ih =>
      obtain ⟨ρ, h1, h2, h3⟩ := h a List.mem_cons_self
      have ih' := ih fun z hz => h z (List.mem_cons_of_mem _ hz)
      rw [List.map_cons]
      unfold lcL
      simp only [hg, if_true, h1]
      rw [m_ok h2]
      cases hb : b a with
      | false => simp [ih', hb, List.filter_cons]
      | true =>
        rw [if_pos rfl, m_ok (h3 hb), m_ok ih']
        simp [hb, List.filter_cons]
  unfold noExc
  rw [key]
theorem go_eq {α β : Type} {m : M α} {f : α → M β} {s : S} {a : α} {Q : β → S → Prop} (h : m = pure a) (k : Go (f a) s Q) : Go (m >>= f) s Q := by rw [h]; exact k
@[simp] theorem mt_l {xs : List T} {s : S} : mat (.l xs) s = .ok (.ref s.length) (s ++ [.lst xs]) := rfl
/-- a loop that looks for one -/
theorem go_find {α : Type} {tgt : T → Env → Option Env} {body : Env → M Out} {g : S → Bool} {j : α → T} {s0 : S} (W : Env → Prop) (p : α → Bool) (v : α → TV) (hg : g s0 = true) : ∀ (as : List α) (ρ : Env), W ρ →
    (∀ a ∈ as, ∀ ρ, W ρ → ∃ ρ1, tgt (j a) ρ = some ρ1 ∧ ((p a = true ∧ body ρ1 s0 = .ok (.rt (v a)) s0) ∨ (p a = false ∧ ∃ ρ2, body ρ1 s0 = .ok (.nx ρ2) s0 ∧ W ρ2))) →
    (∃ a, as.find? p = some a ∧ forL tgt body g (as.map j) ρ s0 = .ok (.rt (v a)) s0) ∨ (as.find? p = none ∧ ∃ ρ', forL tgt body g (as.map j) ρ s0 = .ok (.nx ρ') s0 ∧ W ρ')
  | [], ρ, hw, _ => .inr ⟨rfl, ρ, by unfold forL; simp only [List.map_nil]; rw [if_pos hg], hw⟩
  | a :: as, ρ, hw, h => by
    obtain ⟨ρ1, h1, h2⟩ := h a List.mem_cons_self ρ hw
    rcases h2 with ⟨hp, h2⟩ | ⟨hp, ρ2, h2, h3⟩
    · refine .inl ⟨a, by rw [List.find?_cons, hp], ?_⟩
      rw [List.map_cons]
      unfold forL
      simp only [hg, if_true, h1]
      rw [m_ok h2]
      rfl
    · rcases go_find W p v hg as ρ2 h3 fun b hb => h b (List.mem_cons_of_mem _ hb) with ⟨b, e1, e2⟩ | ⟨e1, ρ', e2, w⟩
      · refine .inl ⟨b, by rw [List.find?_cons, hp]; exact e1, ?_⟩
        rw [List.map_cons]
        unfold forL
        simp only [hg, if_true, h1]
        rw [m_ok h2]
        exact e2
      · refine .inr ⟨by rw [List.find?_cons, hp]; exact e1, ρ', ?_, w⟩
        rw [List.map_cons]
        unfold forL
        simp only [hg, if_true, h1]
        rw [m_ok h2]
        exact e2
theorem go_findB {α β : Type} {tgt : T → Env → Option Env} {body : Env → M Out} {g : S → Bool} {j : α → T} {s0 : S} {f : Out → M β} {Q : β → S → Prop} {as : List α} {ρ : Env} (W : Env → Prop) (p : α → Bool) (v : α → TV) (hg : g s0 = true) (h0 : W ρ)
    (h : ∀ a ∈ as, ∀ ρ, W ρ → ∃ ρ1, tgt (j a) ρ = some ρ1 ∧ ((p a = true ∧ body ρ1 s0 = .ok (.rt (v a)) s0) ∨ (p a = false ∧ ∃ ρ2, body ρ1 s0 = .ok (.nx ρ2) s0 ∧ W ρ2)))
    (k1 : ∀ a, as.find? p = some a → Go (f (.rt (v a))) s0 Q) (k2 : as.find? p = none → ∀ ρ', W ρ' → Go (f (.nx ρ')) s0 Q) : Go (forL tgt body g (as.map j) ρ >>= f) s0 Q := by
  rcases go_find W p v hg as ρ h0 h with ⟨a, e1, e2⟩ | ⟨e1, ρ', e2, w⟩
  · exact go_ok e2 (k1 a e1)
  · exact go_ok e2 (k2 e1 ρ' w)
theorem deref_ok {s : S} {n : Nat} {xs : List T} (h : s[n]? = some (.lst xs)) : deref n s = .ok xs s := by
  unfold deref
  simp [h]
theorem ix_ok {s : S} {n : Nat} {xs : List T} {i : Int} {x : T} (h : s[n]? = some (.lst xs)) (hx : L2.atI xs i = some x) : ixOf (.t (.ref n)) (.t (.int i)) s = .ok (.t x) s := by
  show (deref n >>= fun xs => ofO (L2.atI xs i) >>= fun x => pure (TV.t x)) s = _
  rw [m_ok (deref_ok h), hx]
  rfl
theorem sub_ok {s : S} {n : Nat} {xs : List T} {i : Int} {x : T} {j : Nat} (h : s[n]? = some (.lst xs)) (hj : L2.ixN xs.length i = some j) : putItem x (.t (.ref n)) (.t (.int i)) s = .ok () (s.set n (.lst (xs.set j x))) := by
  unfold putItem
  simp only [h, hj]
theorem len_ok {s : S} {n : Nat} {xs : List T} (h : s[n]? = some (.lst xs)) : Mini.bi .len [.t (.ref n)] s = .ok (.t (.int xs.length)) s := by
  show ((deref n >>= fun xs => pure (xs.length : Int)) >>= fun n => pure (TV.t (.int n))) s = _
  rw [m_as, m_ok (deref_ok h)]
  rfl
/-- an item's place -/
theorem atI_nat {α : Type} {xs : List α} {i : Nat} {x : α} (h : xs[i]? = some x) : L2.atI xs (i : Int) = some x := by
  have hl := (List.getElem?_eq_some_iff.mp h).1
  unfold L2.atI
  have e : L2.ixN xs.length (i : Int) = some i := by
    unfold L2.ixN
    rw [if_pos (by omega), if_pos (by omega)]
    rfl
  rw [e]
  exact h
/-- one statement, then the rest -/
theorem go_sts {P : Prog} {C : Call} {c : St} {cs : Sts} {env : Env} {s : S} {Q : Out → S → Prop} (h : Go (evalS P C c env) s fun o s1 => match o with
    | .nx env' => Go (evalSs P C cs env') s1 Q
    | o => Q o s1) : Go (evalSs P C (.cons c cs) env) s Q := by
  obtain ⟨o, s1, e, q⟩ := h
  show Go (evalS P C c env >>= fun o => match o with
    | .nx ρ' => evalSs P C cs ρ'
    | o => pure o) s Q
  refine go_ok e ?_
  cases o with
  | nx env' => exact q
  | rt v => exact go_pure q
  | bk e => exact go_pure q
  | ct e => exact go_pure q
end Mini
/-! Mini: a run step by step; the rest of the run stands as an instance, so that simp looks at the step in hand alone. -/
set_option linter.all false
set_option autoImplicit false
namespace Mini
open PySem
class Kn (α : Type) where
  k : α → S → Prop
def atO {α : Type} (o : Option α) (s : S) [q : Kn α] : Prop := match o with
  | some a => q.k a s
  | none => False
@[simp] theorem atO_some {α : Type} {a : α} {s : S} {q : Kn α} : atO (some a) s = q.k a s := rfl
@[simp] theorem atO_none {α : Type} {s : S} {q : Kn α} : atO (none : Option α) s = False := rfl
def W {α : Type} (m : M α) (s : S) [q : Kn α] : Prop := Go m s q.k
section
variable {α β : Type}
theorem gi_bind {m : M α} {f : α → M β} {s : S} {Q : β → S → Prop} : Go (m >>= f) s Q ↔ Go m s fun a s' => Go (f a) s' Q := by
  constructor
  · rintro ⟨b, s2, e, q⟩
    rw [m_ap] at e
    cases h : m s with
    | ok a s1 => rw [h] at e; exact ⟨a, s1, h, b, s2, e, q⟩
    | exc x s1 => rw [h] at e; cases e
    | bad => rw [h] at e; cases e
  · exact go_bind
theorem gi_pure {a : α} {s : S} {Q : α → S → Prop} : Go (pure a) s Q ↔ Q a s := by
  constructor
  · rintro ⟨b, s2, e, q⟩
    cases e
    exact q
  · exact go_pure
theorem gi_fail {s : S} {Q : α → S → Prop} : Go (fail : M α) s Q ↔ False := by
  constructor
  · rintro ⟨b, s2, e, q⟩
    cases e
  · exact False.elim
theorem gi_ite {c : Prop} [Decidable c] {a b : M α} {s : S} {Q : α → S → Prop} : Go (if c then a else b) s Q ↔ if c then Go a s Q else Go b s Q := by split <;> rfl
@[simp ↓] theorem kk_mk {f : α → S → Prop} {a : α} {s : S} : @Kn.k α ⟨f⟩ a s = f a s := rfl
variable {s : S}
theorem go_w {m : M β} {Q : β → S → Prop} (h : @W β m s ⟨Q⟩) : Go m s Q := h
theorem w_eqv {m : M β} {a : β} (h : ∀ s, @W β m s ⟨fun b s' => b = a ∧ s' = s⟩) : m = pure a := eq_of_go h
theorem w_done {m : M β} {s' : S} {a : β} (h : @W β m s ⟨fun b s2 => b = a ∧ s2 = s'⟩) : m s = .ok a s' := go_done h
variable {q : Kn β}
@[simp ↓] theorem w_bind {m : M α} {f : α → M β} : W (m >>= f) s ↔ @W α m s ⟨fun a s' => W (f a) s'⟩ := gi_bind
@[simp ↓] theorem w_pure {a : β} : W (pure a) s ↔ q.k a s := gi_pure
@[simp ↓] theorem w_fail : W (fail : M β) s ↔ False := gi_fail
@[simp ↓] theorem w_guard {c : Prop} [Decidable c] {m : M β} : W (if c then m else fail) s ↔ c ∧ W m s := by
  show Go _ _ _ ↔ _
  rw [gi_ite, gi_fail]
  split <;> simp [*, W]
@[simp ↓] theorem w_tt {a b : M β} : W (if True then a else b) s ↔ W a s := by simp only [if_true]
@[simp ↓] theorem w_ff {a b : M β} : W (if False then a else b) s ↔ W b s := by simp only [if_false]
@[simp ↓] theorem w_btt {a b : M β} : W (if true = true then a else b) s ↔ W a s := by simp only [if_true]
@[simp ↓] theorem w_bff {a b : M β} : W (if false = true then a else b) s ↔ W b s := by simp only [Bool.false_eq_true, if_false]
theorem w_ite {c : Prop} [Decidable c] {a b : M β} : W (if c then a else b) s ↔ (c → W a s) ∧ (¬c → W b s) := by
  by_cases h : c <;> simp [h]
theorem w_if {c : Prop} [Decidable c] {a b : M β} (h1 : c → W a s) (h2 : ¬c → W b s) : W (if c then a else b) s := w_ite.mpr ⟨h1, h2⟩
@[simp ↓] theorem w_ofO {o : Option β} : W (ofO o) s ↔ atO o s := by
  cases o with
  | none => exact gi_fail
  | some a => exact gi_pure
@[simp ↓] theorem w_noExc {m : M β} : W (noExc m) s ↔ W m s := by
  constructor
  · rintro ⟨a, s', e, h⟩
    unfold noExc at e
    split at e
    · rename_i b s1 e1
      cases e
      exact ⟨_, _, e1, h⟩
    · cases e
  · rintro ⟨a, s', e, h⟩
    refine ⟨a, s', ?_, h⟩
    unfold noExc
    rw [e]
theorem w_at {m : M β} {a : β} {s' : S} (h : m s = .ok a s') : W m s ↔ q.k a s' := by
  constructor
  · rintro ⟨b, s2, e, k⟩
    rw [h] at e
    cases e
    exact k
  · exact fun k => ⟨a, s', h, k⟩
theorem w_bad {m : M β} (h : m s = .bad) : W m s ↔ False := by
  constructor
  · rintro ⟨b, s2, e, k⟩
    rw [h] at e
    cases e
  · exact False.elim
theorem w_use {m : M β} {Q : β → S → Prop} (h : Go m s Q) (k : ∀ a s', Q a s' → q.k a s') : W m s := go_imp h k
theorem w_ok {m : M β} {a : β} {s' : S} (h : m s = .ok a s') (k : q.k a s') : W m s := ⟨a, s', h, k⟩
end
theorem gi_guard {α : Type} {c : Prop} [Decidable c] {m : M α} {s : S} {Q : α → S → Prop} : Go (if c then m else fail) s Q ↔ c ∧ Go m s Q := by
  rw [gi_ite, gi_fail]
  split <;> simp [*]
theorem gi_gs {s : S} {Q : S → S → Prop} : Go getS s Q ↔ Q s s := by
  constructor
  · rintro ⟨b, s2, e, q⟩
    cases e
    exact q
  · exact fun h => ⟨s, s, rfl, h⟩
theorem gi_congr {α : Type} {m : M α} {s : S} {Q Q' : α → S → Prop} (h : ∀ a s', Q a s' ↔ Q' a s') : Go m s Q ↔ Go m s Q' := ⟨fun x => go_imp x fun a s' => (h a s').mp, fun x => go_imp x fun a s' => (h a s').mpr⟩
theorem gi_getS {α : Type} {f : S → M α} {s : S} {Q : α → S → Prop} : Go (getS >>= f) s Q ↔ Go (f s) s Q := Iff.rfl
theorem gf2 {α β : Type} {s s' : S} {Q : α → S → Prop} {Q' : β → S → Prop} : Go (fail : M α) s Q ↔ Go (fail : M β) s' Q' := by simp only [gi_fail]
section
variable {P : Prog} {C : Call} {ρ : Env} {s : S}
section
variable {q : Kn TV}
@[simp ↓] theorem wv_v {i : Nat} : W (evalV P C (.v i) ρ) s ↔ atO (readV ρ i) s := by
  simp only [evalV]
  exact w_ofO
@[simp ↓] theorem wv_k {t : T} : W (evalV P C (.k t) ρ) s ↔ q.k (.t t) s := by simp only [evalV]; exact w_pure (β := TV)
@[simp ↓] theorem wv_gl {g : Nat} : W (evalV P C (.gl g) ρ) s ↔ atO ((P.consts[g]?).map fun p => TV.t p.2) s := by
  simp only [evalV]
  exact w_ofO
@[simp ↓] theorem wv_fnv {f : Nat} : W (evalV P C (.fnv f) ρ) s ↔ q.k (.t (.fn f)) s := by simp only [evalV]; exact w_pure (β := TV)
@[simp ↓] theorem wv_bin {o : Bo} {a b : E} : W (evalV P C (.bin o a b) ρ) s ↔ @W _ (evalV P C a ρ) s ⟨fun x s1 => @W _ (evalV P C b ρ) s1 ⟨fun y s2 => W (Mini.bin o x y) s2⟩⟩ := by
  unfold W; simp only [evalV, gi_bind]
@[simp ↓] theorem wv_neg {a : E} : W (evalV P C (.neg a) ρ) s ↔ @W _ (evalV P C a ρ) s ⟨fun x s1 => @W _ (intOf x) s1 ⟨fun i s2 => q.k (.t (.int (-i))) s2⟩⟩ := by
  unfold W; simp only [evalV, gi_bind, gi_pure]
@[simp ↓] theorem wv_not {a : E} : W (evalV P C (.not a) ρ) s ↔ @W _ (evalV P C a ρ) s ⟨fun x s1 => @W _ (truth x) s1 ⟨fun b s2 => q.k (.t (.bl (!b))) s2⟩⟩ := by
  unfold W; simp only [evalV, gi_bind, gi_pure]
@[simp ↓] theorem wv_and {a b : E} : W (evalV P C (.and a b) ρ) s ↔ @W _ (evalV P C a ρ) s ⟨fun x s1 => @W _ (truth x) s1 ⟨fun t s2 => W (if t then evalV P C b ρ else pure x) s2⟩⟩ := by
  unfold W; simp only [evalV, gi_bind]
@[simp ↓] theorem wv_or {a b : E} : W (evalV P C (.or a b) ρ) s ↔ @W _ (evalV P C a ρ) s ⟨fun x s1 => @W _ (truth x) s1 ⟨fun t s2 => W (if t then pure x else evalV P C b ρ) s2⟩⟩ := by
  unfold W; simp only [evalV, gi_bind]
@[simp ↓] theorem wv_cmp {o : Co} {a b : E} : W (evalV P C (.cmp o a b) ρ) s ↔ @W _ (evalV P C a ρ) s ⟨fun x s1 => @W _ (evalV P C b ρ) s1 ⟨fun y s2 => @W _ (Mini.cmp o x y) s2 ⟨fun r s3 => q.k (.t (.bl r)) s3⟩⟩⟩ := by
  unfold W; simp only [evalV, gi_bind, gi_pure]
@[simp ↓] theorem wv_chn {o p : Co} {a b c : E} : W (evalV P C (.chn o p a b c) ρ) s ↔ @W _ (evalV P C a ρ) s ⟨fun x s1 => @W _ (evalV P C b ρ) s1 ⟨fun y s2 => @W _ (Mini.cmp o x y) s2 ⟨fun r s3 => W (if r then (evalV P C c ρ >>= fun z => Mini.cmp p y z >>= fun q => (pure (TV.t (T.bl q)) : M TV)) else (pure (TV.t (T.bl false)) : M TV)) s3⟩⟩⟩ := by
  unfold W; simp only [evalV, gi_bind]
@[simp ↓] theorem wv_ite {c a b : E} : W (evalV P C (.ite c a b) ρ) s ↔ @W _ (evalV P C c ρ) s ⟨fun x s1 => @W _ (truth x) s1 ⟨fun t s2 => W (if t then evalV P C a ρ else evalV P C b ρ) s2⟩⟩ := by
  unfold W; simp only [evalV, gi_bind]
@[simp ↓] theorem wv_tup {es : Es} : W (evalV P C (.tup es) ρ) s ↔ @W _ (evalTs P C es ρ) s ⟨fun xs s1 => xs.length ≤ sizeLine ∧ q.k (.t (.tup xs)) s1⟩ := by
  unfold W; simp only [evalV, gi_bind, gi_guard, gi_pure]
@[simp ↓] theorem wv_lst {es : Es} : W (evalV P C (.lst es) ρ) s ↔ @W _ (evalTs P C es ρ) s ⟨fun xs s1 => xs.length ≤ sizeLine ∧ q.k (.l xs) s1⟩ := by
  unfold W; simp only [evalV, gi_bind, gi_guard, gi_pure]
@[simp ↓] theorem wv_ix {a i : E} : W (evalV P C (.ix a i) ρ) s ↔ @W _ (evalV P C a ρ) s ⟨fun x s1 => @W _ (evalV P C i ρ) s1 ⟨fun y s2 => W (ixOf x y) s2⟩⟩ := by
  unfold W; simp only [evalV, gi_bind]
@[simp ↓] theorem wv_sl {a lo hi : E} : W (evalV P C (.sl a lo hi) ρ) s ↔ @W _ (evalV P C a ρ) s ⟨fun x s1 => @W _ (evalV P C lo ρ) s1 ⟨fun l s2 => @W _ (partOf (isNonK lo) l) s2 ⟨fun l' s3 => @W _ (evalV P C hi ρ) s3 ⟨fun h s4 => @W _ (partOf (isNonK hi) h) s4 ⟨fun h' s5 => W (slOf x l' h') s5⟩⟩⟩⟩⟩ := by
  unfold W; simp only [evalV, gi_bind]
@[simp ↓] theorem wv_rev {a : E} : W (evalV P C (.rev a) ρ) s ↔ @W _ (evalV P C a ρ) s ⟨fun x s1 => W (revOf x) s1⟩ := by
  unfold W; simp only [evalV, gi_bind]
@[simp ↓] theorem wv_call {f : Nat} {es : Es} : W (evalV P C (.call f es) ρ) s ↔ @W _ (evalAs P C es ρ) s ⟨fun xs s1 => W (C f xs) s1⟩ := by
  unfold W; simp only [evalV, gi_bind]
@[simp ↓] theorem wv_bi {b : Bi} {es : Es} : W (evalV P C (.bi b es) ρ) s ↔ @W _ (evalAs P C es ρ) s ⟨fun xs s1 => W (Mini.bi b xs) s1⟩ := by
  unfold W; simp only [evalV, gi_bind]
@[simp ↓] theorem wv_meth {c : Nat} {m : Str} {o : E} {es : Es} : W (evalV P C (.meth c m o es) ρ) s ↔ @W _ (evalV P C o ρ) s ⟨fun x s1 => @W _ (methOf P c m x) s1 ⟨fun nf s2 => @W _ (evalAs P C es ρ) s2 ⟨fun xs s3 => W (C nf.2 (.t (.ref nf.1) :: xs)) s3⟩⟩⟩ := by
  unfold W; simp only [evalV, gi_bind]
@[simp ↓] theorem wv_mk {c : Nat} {es : Es} : W (evalV P C (.mk c es) ρ) s ↔ @W _ (evalAs P C es ρ) s ⟨fun xs s1 => W (make P C c xs) s1⟩ := by
  unfold W; simp only [evalV, gi_bind]
@[simp ↓] theorem wv_fld {o : E} {f : Str} : W (evalV P C (.fld o f) ρ) s ↔ @W _ (evalV P C o ρ) s ⟨fun x s1 => W (fldOf P f x) s1⟩ := by
  unfold W; simp only [evalV, gi_bind]
@[simp ↓] theorem wv_lc {g : Tg} {it c e : E} {own : List Nat} : W (evalV P C (.lc g it c e own) ρ) s ↔ @W _ (evalV P C it ρ) s ⟨fun tv s1 => @W _ (itOf tv) s1 ⟨fun p s2 => p.1.length ≤ sizeLine ∧ @W _ (lcL (fun x => target x g (wipe ρ own)) (fun ρ' => do let v ← evalV P C c ρ'; truth v) (fun ρ' => do let v ← evalV P C e ρ'; mat v) (fun s => p.2.all (GI.okS s)) p.1) s2 ⟨fun ys s3 => q.k (.l ys) s3⟩⟩⟩ := by
  have e : ∀ (p : List T × List GI) (s2 : S), Go (noExc (lcL (fun x => target x g (wipe ρ own)) (fun ρ' => do let v ← evalV P C c ρ'; truth v) (fun ρ' => do let v ← evalV P C e ρ'; mat v) (fun s => p.2.all (GI.okS s)) p.1)) s2 (fun ys s3 => q.k (.l ys) s3) ↔ Go (lcL (fun x => target x g (wipe ρ own)) (fun ρ' => do let v ← evalV P C c ρ'; truth v) (fun ρ' => do let v ← evalV P C e ρ'; mat v) (fun s => p.2.all (GI.okS s)) p.1) s2 (fun ys s3 => q.k (.l ys) s3) := fun p s2 => w_noExc (q := ⟨fun ys s3 => q.k (.l ys) s3⟩)
  unfold W; simp only [evalV, gi_bind, gi_guard, gi_pure, e]
@[simp ↓] theorem wv_rng {a b : E} : W (evalV P C (.rng a b) ρ) s ↔ @W _ (evalV P C a ρ) s ⟨fun x s1 => @W _ (intOf x) s1 ⟨fun i s2 => @W _ (evalV P C b ρ) s2 ⟨fun y s3 => @W _ (intOf y) s3 ⟨fun j s4 => W (rangeV i j) s4⟩⟩⟩⟩ := by
  unfold W; simp only [evalV, gi_bind]
@[simp ↓] theorem wv_enum {e : E} : W (evalV P C (.enum e) ρ) s ↔ @W _ (evalV P C e ρ) s ⟨fun tv s1 => @W _ (itOf tv) s1 ⟨fun p s2 => q.k (.s (enumT p.1) p.2) s2⟩⟩ := by
  unfold W; simp only [evalV, gi_bind, gi_pure]
@[simp ↓] theorem wv_zip {a b : E} : W (evalV P C (.zip a b) ρ) s ↔ @W _ (evalV P C a ρ) s ⟨fun x s1 => @W _ (itOf x) s1 ⟨fun p s2 => @W _ (evalV P C b ρ) s2 ⟨fun y s3 => @W _ (itOf y) s3 ⟨fun r s4 => p.2.all (GI.okS s4) = true ∧ q.k (.s (pairs p.1 r.1) (p.2 ++ r.2)) s4⟩⟩⟩⟩ := by
  unfold W; simp only [evalV, gi_bind, gi_gs, gi_guard, gi_pure]
@[simp ↓] theorem wv_mat {e : E} : W (evalV P C (.mat e) ρ) s ↔ @W _ (evalV P C e ρ) s ⟨fun tv s1 => @W _ (mat tv) s1 ⟨fun x s2 => q.k (.t x) s2⟩⟩ := by
  unfold W; simp only [evalV, gi_bind, gi_pure]
@[simp ↓] theorem wv_bm {m : Bm} {o : E} {es : Es} : W (evalV P C (.bm m o es) ρ) s ↔ @W _ (evalV P C o ρ) s ⟨fun x s1 => @W _ (refOf x) s1 ⟨fun n s2 => @W _ (evalAs P C es ρ) s2 ⟨fun xs s3 => W (bmV m n xs) s3⟩⟩⟩ := by
  unfold W; simp only [evalV, gi_bind]
@[simp ↓] theorem wv_dnew {tk : Bool} : W (evalV P C (.dnew tk) ρ) s ↔ q.k (.t (.ref s.length)) (s ++ [if tk then .dt [] else .dk []]) := by
  unfold W; simp only [evalV, gi_bind, gi_pure]; exact w_at rfl (q := ⟨fun x s => q.k (.t x) s⟩)
@[simp ↓] theorem wv_dsing {k v : E} : W (evalV P C (.dsing k v) ρ) s ↔ @W _ (evalV P C k ρ) (s ++ [.dk []]) ⟨fun x s1 => @W _ (keyTv x) s1 ⟨fun x s2 => @W _ (evalV P C v ρ) s2 ⟨fun y s3 => @W _ (mat y) s3 ⟨fun y s4 => @W _ (dput0 s.length x y) s4 ⟨fun _ s5 => q.k (.t (.ref s.length)) s5⟩⟩⟩⟩⟩ := by
  have hl : (s ++ [O.dk []])[s.length]? = some (.dk []) := by rw [List.getElem?_append_right (Nat.le_refl _)]; simp
  unfold W; simp only [evalV, gi_bind, gi_pure]
  refine (w_at (m := alloc (.dk [])) (a := .ref s.length) (s' := s ++ [.dk []]) rfl (q := ⟨_⟩)).trans ?_
  refine (w_at (m := dref (.t (.ref s.length))) (a := s.length) (s' := s ++ [.dk []]) (by unfold dref; simp only [hl]) (q := ⟨_⟩)).trans ?_
  exact Iff.rfl
@[simp ↓] theorem wv_dix {d k : E} : W (evalV P C (.dix d k) ρ) s ↔ @W _ (evalV P C d ρ) s ⟨fun x s1 => @W _ (dref x) s1 ⟨fun n s2 => @W _ (evalV P C k ρ) s2 ⟨fun y s3 => @W _ (keyTv y) s3 ⟨fun y s4 => @W _ (dlook n y) s4 ⟨fun z s5 => @atO _ z s5 ⟨fun z s5 => q.k (.t z) s5⟩⟩⟩⟩⟩⟩ := by
  unfold W; simp only [evalV, gi_bind, gi_pure]
  refine gi_congr fun x s1 => gi_congr fun n s2 => gi_congr fun y s3 => gi_congr fun y s4 => gi_congr fun z s5 => ?_
  cases z with
  | none => exact gi_fail
  | some a => exact gi_pure
@[simp ↓] theorem wv_din {neg : Bool} {d k : E} : W (evalV P C (.din neg k d) ρ) s ↔ @W _ (evalV P C k ρ) s ⟨fun y s1 => @W _ (keyTv y) s1 ⟨fun y s2 => @W _ (evalV P C d ρ) s2 ⟨fun x s3 => @W _ (dref x) s3 ⟨fun n s4 => @W _ (dlook n y) s4 ⟨fun z s5 => q.k (.t (.bl (if neg then !z.isSome else z.isSome))) s5⟩⟩⟩⟩⟩ := by
  unfold W; simp only [evalV, gi_bind, gi_pure]
@[simp ↓] theorem wv_dget1 {d k : E} : W (evalV P C (.dget1 d k) ρ) s ↔ @W _ (evalV P C d ρ) s ⟨fun x s1 => @W _ (dref x) s1 ⟨fun n s2 => @W _ (evalV P C k ρ) s2 ⟨fun y s3 => @W _ (keyTv y) s3 ⟨fun y s4 => @W _ (dlook n y) s4 ⟨fun z s5 => q.k (.t (z.getD .non)) s5⟩⟩⟩⟩⟩ := by
  unfold W; simp only [evalV, gi_bind, gi_pure]
@[simp ↓] theorem wv_dget2 {d k x : E} : W (evalV P C (.dget2 d k x) ρ) s ↔ @W _ (evalV P C d ρ) s ⟨fun v s1 => @W _ (dref v) s1 ⟨fun n s2 => @W _ (evalV P C k ρ) s2 ⟨fun y s3 => @W _ (keyTv y) s3 ⟨fun y s4 => @W _ (evalV P C x ρ) s4 ⟨fun w s5 => @W _ (mat w) s5 ⟨fun w s6 => @W _ (dlook n y) s6 ⟨fun z s7 => q.k (.t (z.getD w)) s7⟩⟩⟩⟩⟩⟩⟩ := by
  unfold W; simp only [evalV, gi_bind, gi_pure]
@[simp ↓] theorem wv_dsetd {d k x : E} : W (evalV P C (.dsetd d k x) ρ) s ↔ @W _ (evalV P C d ρ) s ⟨fun v s1 => @W _ (dref v) s1 ⟨fun n s2 => @W _ (evalV P C k ρ) s2 ⟨fun y s3 => @W _ (keyTv y) s3 ⟨fun y s4 => @W _ (evalV P C x ρ) s4 ⟨fun w s5 => @W _ (mat w) s5 ⟨fun w s6 => W (dsetV n y w) s6⟩⟩⟩⟩⟩⟩ := by
  unfold W; simp only [evalV, gi_bind, gi_pure]
@[simp ↓] theorem wv_dlen {d : E} : W (evalV P C (.dlen d) ρ) s ↔ @W _ (evalV P C d ρ) s ⟨fun x s1 => @W _ (dref x) s1 ⟨fun n s2 => @W _ (dsize n) s2 ⟨fun i s3 => q.k (.t (.int i)) s3⟩⟩⟩ := by
  unfold W; simp only [evalV, gi_bind, gi_pure]
@[simp ↓] theorem wv_dsort {d : E} : W (evalV P C (.dsort d) ρ) s ↔ @W _ (evalV P C d ρ) s ⟨fun x s1 => @W _ (dref x) s1 ⟨fun n s2 => @W _ (dkeys n) s2 ⟨fun ks s3 => ks.length < 64 ∧ q.k (.l ((isort ks).map T.int)) s3⟩⟩⟩ := by
  unfold W; simp only [evalV, gi_bind, gi_pure, gi_guard]
@[simp ↓] theorem wv_eqo {neg : Bool} {a b : E} : W (evalV P C (.eqo neg a b) ρ) s ↔ @W _ (evalV P C a ρ) s ⟨fun x s1 => @W _ (evalV P C b ρ) s1 ⟨fun y s2 => @W _ (eqOf P x) s2 ⟨fun nf s3 => @W _ (eqRight P nf.2.1 y) s3 ⟨fun _ s4 => @W _ (C nf.2.2 [.t (.ref nf.1), argOf y]) s4 ⟨fun r s5 => @W _ (blOf r) s5 ⟨fun b s6 => q.k (.t (.bl (if neg then !b else b))) s6⟩⟩⟩⟩⟩⟩ := by
  have e : ∀ (m : M TV) (s : S) (Q : TV → S → Prop), Go (noExc m) s Q ↔ Go m s Q := fun m s Q => w_noExc (q := ⟨Q⟩)
  unfold W; simp only [evalV, gi_bind, gi_pure, e]
@[simp ↓] theorem wv_isc {a : E} {c : Nat} : W (evalV P C (.isc a c) ρ) s ↔ @W _ (evalV P C a ρ) s ⟨fun x s1 => @W _ (isCls P c x) s1 ⟨fun b s2 => q.k (.t (.bl b)) s2⟩⟩ := by
  unfold W; simp only [evalV, gi_bind, gi_pure]
@[simp ↓] theorem wv_rng3 {a b : E} : W (evalV P C (.rng3 a b) ρ) s ↔ @W _ (evalV P C a ρ) s ⟨fun x s1 => @W _ (intOf x) s1 ⟨fun i s2 => @W _ (evalV P C b ρ) s2 ⟨fun y s3 => @W _ (intOf y) s3 ⟨fun j s4 => W (rangeV3 i j) s4⟩⟩⟩⟩ := by
  unfold W; simp only [evalV, gi_bind]
@[simp ↓] theorem wv_isi {a : E} {ts : List Ty} : W (evalV P C (.isi a ts) ρ) s ↔ @W _ (evalV P C a ρ) s ⟨fun x s1 => isKnown s1 x = true ∧ q.k (.t (.bl (ts.any (isTy P s1 x)))) s1⟩ := by
  unfold W; simp only [evalV, gi_bind, gi_gs, gi_guard, gi_pure]
end
section
variable {q : Kn (List TV)}
@[simp ↓] theorem wa_nil : W (evalAs P C .nil ρ) s ↔ q.k [] s := by simp only [evalAs]; exact w_pure
@[simp ↓] theorem wa_cons {e : E} {r : Es} : W (evalAs P C (.cons e r) ρ) s ↔ @W _ (evalV P C e ρ) s ⟨fun x s1 => @W _ (evalAs P C r ρ) s1 ⟨fun xs s2 => q.k (argOf x :: xs) s2⟩⟩ := by
  unfold W; simp only [evalAs, gi_bind, gi_pure]
end
section
variable {q : Kn (List T)}
@[simp ↓] theorem wt_nil : W (evalTs P C .nil ρ) s ↔ q.k [] s := by simp only [evalTs]; exact w_pure
@[simp ↓] theorem wt_cons {e : E} {r : Es} : W (evalTs P C (.cons e r) ρ) s ↔ @W _ (evalV P C e ρ) s ⟨fun x s1 => @W _ (mat x) s1 ⟨fun y s2 => @W _ (evalTs P C r ρ) s2 ⟨fun xs s3 => q.k (y :: xs) s3⟩⟩⟩ := by
  unfold W; simp only [evalTs, gi_bind, gi_pure]
end
section
variable {q : Kn Out}
@[simp ↓] theorem ws_nil : W (evalSs P C .nil ρ) s ↔ q.k (.nx ρ) s := by simp only [evalSs]; exact w_pure
def treeOf : TV → M T
  | .t x => pure x
  | _ => fail
@[simp] theorem treeOf_t {x : T} : treeOf (.t x) = pure x := rfl
def tupOf : TV → M (List T)
  | .t (.tup xs) => pure xs
  | _ => fail
@[simp] theorem tupOf_t {xs : List T} : tupOf (.t (.tup xs)) = pure xs := rfl
set_option warn.classDefReducibility false in
/-- the rest of a block -/
def rest (P : Prog) (C : Call) (r : Sts) (q : Kn Out) : Kn Out := ⟨fun o s' => match o with
  | .nx ρ' => W (evalSs P C r ρ') s'
  | o => q.k o s'⟩
@[simp ↓] theorem rest_nx {r : Sts} : @Kn.k _ (rest P C r q) (.nx ρ) s = W (evalSs P C r ρ) s := rfl
@[simp ↓] theorem rest_rt {r : Sts} {v : TV} : @Kn.k _ (rest P C r q) (.rt v) s = q.k (.rt v) s := rfl
@[simp ↓] theorem rest_bk {r : Sts} : @Kn.k _ (rest P C r q) (.bk ρ) s = q.k (.bk ρ) s := rfl
@[simp ↓] theorem rest_ct {r : Sts} : @Kn.k _ (rest P C r q) (.ct ρ) s = q.k (.ct ρ) s := rfl
@[simp ↓] theorem ws_cons {c : St} {r : Sts} : W (evalSs P C (.cons c r) ρ) s ↔ @W _ (evalS P C c ρ) s (rest P C r q) := by
  simp only [evalSs]
  refine gi_bind.trans (gi_congr fun o s' => ?_)
  cases o with
  | nx ρ => exact Iff.rfl
  | rt v => exact gi_pure
  | bk ρ => exact gi_pure
  | ct ρ => exact gi_pure
@[simp ↓] theorem ws_mv {i j : Nat} : W (evalS P C (.mv i j) ρ) s ↔ @atO _ (moveV ρ j) s ⟨fun p s => q.k (.nx (store p.2 i p.1)) s⟩ := by
  unfold W; simp only [evalS, gi_bind, gi_pure]
  cases moveV ρ j with
  | none => exact gi_fail
  | some p => exact gi_pure
@[simp ↓] theorem ws_asg {i : Nat} {e : E} : W (evalS P C (.asg i e) ρ) s ↔ @W _ (evalV P C e ρ) s ⟨fun tv s1 => @W _ (own2 tv) s1 ⟨fun tv s2 => q.k (.nx (store ρ i tv)) s2⟩⟩ := by
  unfold W; simp only [evalS, gi_bind, gi_pure]
@[simp ↓] theorem ws_asgT {is : List Nat} {e : E} : W (evalS P C (.asgT is e) ρ) s ↔ @W _ (evalV P C e ρ) s ⟨fun tv s1 => @W _ (treeOf tv) s1 ⟨fun x s1 => @atO _ (target x (.p is) ρ) s1 ⟨fun ρ' s1 => q.k (.nx ρ') s1⟩⟩⟩ := by
  simp only [evalS]
  refine gi_bind.trans (gi_congr fun tv s1 => ?_)
  cases tv with
  | t x =>
    refine Iff.trans ?_ gi_pure.symm
    show Go (ofO (target x (.p is) ρ) >>= fun ρ' => pure (Out.nx ρ')) s1 q.k ↔ _
    rw [gi_bind]
    simp only [gi_pure]
    cases h : target x (.p is) ρ with
    | none => exact gi_fail
    | some p => exact gi_pure
  | l xs => exact gf2 (s' := s1)
  | s xs g => exact gf2 (s' := s1)
@[simp ↓] theorem ws_par {i j : Nat} {a b : E} : W (evalS P C (.par i j a b) ρ) s ↔ @W _ (evalV P C a ρ) s ⟨fun x s1 => @W _ (own2 x) s1 ⟨fun x s2 => @W _ (evalV P C b ρ) s2 ⟨fun y s3 => @W _ (own2 y) s3 ⟨fun y s4 => q.k (.nx (store (store ρ i x) j y)) s4⟩⟩⟩⟩ := by
  unfold W; simp only [evalS, gi_bind, gi_pure]
@[simp ↓] theorem ws_par3 {i j l : Nat} {a b c : E} : W (evalS P C (.par3 i j l a b c) ρ) s ↔ @W _ (evalV P C a ρ) s ⟨fun x s1 => @W _ (own2 x) s1 ⟨fun x s2 => @W _ (evalV P C b ρ) s2 ⟨fun y s3 => @W _ (own2 y) s3 ⟨fun y s4 => @W _ (evalV P C c ρ) s4 ⟨fun z s5 => @W _ (own2 z) s5 ⟨fun z s6 => q.k (.nx (store (store (store ρ i x) j y) l z)) s6⟩⟩⟩⟩⟩⟩ := by
  unfold W; simp only [evalS, gi_bind, gi_pure]
@[simp ↓] theorem ws_sub {o i e : E} : W (evalS P C (.sub o i e) ρ) s ↔ @W _ (evalV P C e ρ) s ⟨fun tv s1 => @W _ (mat tv) s1 ⟨fun x s2 => @W _ (evalV P C o ρ) s2 ⟨fun ov s3 => @W _ (evalV P C i ρ) s3 ⟨fun iv s4 => @W _ (putItem x ov iv) s4 ⟨fun _ s5 => q.k (.nx ρ) s5⟩⟩⟩⟩⟩ := by
  unfold W; simp only [evalS, gi_bind, gi_pure]
@[simp ↓] theorem ws_fst {o : E} {f : Str} {e : E} : W (evalS P C (.fst o f e) ρ) s ↔ @W _ (evalV P C e ρ) s ⟨fun tv s1 => @W _ (mat tv) s1 ⟨fun x s2 => @W _ (evalV P C o ρ) s2 ⟨fun ov s3 => @W _ (setFld P f x ov) s3 ⟨fun _ s5 => q.k (.nx ρ) s5⟩⟩⟩⟩ := by
  unfold W; simp only [evalS, gi_bind, gi_pure]
@[simp ↓] theorem ws_fsts {os : Es} {fs : List Str} {e : E} : W (evalS P C (.fsts os fs e) ρ) s ↔ @W _ (evalV P C e ρ) s ⟨fun tv s1 => @W _ (tupOf tv) s1 ⟨fun xs s1 => xs.length = fs.length ∧ @W _ (putFs P C os fs xs ρ) s1 ⟨fun _ s2 => q.k (.nx ρ) s2⟩⟩⟩ := by
  simp only [evalS]
  refine gi_bind.trans (gi_congr fun tv s1 => ?_)
  cases tv with
  | t x =>
    by_cases hx : ∃ xs, x = .tup xs
    case neg => cases x <;> first | exact gf2 (s' := s1) | exact absurd ⟨_, rfl⟩ hx
    obtain ⟨xs, rfl⟩ := hx
    refine Iff.trans ?_ (Iff.symm gi_pure)
    show Go (if xs.length = fs.length then (putFs P C os fs xs ρ >>= fun _ => pure (Out.nx ρ)) else fail) s1 q.k ↔ xs.length = fs.length ∧ Go (putFs P C os fs xs ρ) s1 fun _ s2 => q.k (.nx ρ) s2
    simp only [gi_bind, gi_pure, gi_guard]
  | l xs => exact gf2 (s' := s1)
  | s xs g => exact gf2 (s' := s1)
@[simp ↓] theorem ws_ex {e : E} : W (evalS P C (.ex e) ρ) s ↔ @W _ (evalV P C e ρ) s ⟨fun _ s1 => q.k (.nx ρ) s1⟩ := by
  unfold W; simp only [evalS, gi_bind, gi_pure]
@[simp ↓] theorem ws_app {i : Nat} {e : E} : W (evalS P C (.app i e) ρ) s ↔ @W _ (ownL ρ i) s ⟨fun xs s1 => @W _ (evalV P C e ρ) s1 ⟨fun tv s2 => @W _ (mat tv) s2 ⟨fun x s3 => xs.length < sizeLine ∧ q.k (.nx (store ρ i (.l (xs ++ [x])))) s3⟩⟩⟩ := by
  unfold W; simp only [evalS, gi_bind, gi_pure, gi_guard]
@[simp ↓] theorem ws_ext {i : Nat} {e : E} : W (evalS P C (.ext i e) ρ) s ↔ @W _ (ownL ρ i) s ⟨fun xs s1 => @W _ (evalV P C e ρ) s1 ⟨fun tv s2 => @W _ (lstOf2 tv) s2 ⟨fun ys s3 => xs.length + ys.length ≤ sizeLine ∧ q.k (.nx (store ρ i (.l (xs ++ ys)))) s3⟩⟩⟩ := by
  unfold W; simp only [evalS, gi_bind, gi_pure, gi_guard]
@[simp ↓] theorem ws_appo {o e : E} : W (evalS P C (.appo o e) ρ) s ↔ @W _ (evalV P C o ρ) s ⟨fun ov s1 => @W _ (refOf ov) s1 ⟨fun n s2 => @W _ (evalV P C e ρ) s2 ⟨fun tv s3 => @W _ (mat tv) s3 ⟨fun x s4 => @W _ (appendO x n) s4 ⟨fun _ s5 => q.k (.nx ρ) s5⟩⟩⟩⟩⟩ := by
  unfold W; simp only [evalS, gi_bind, gi_pure]
@[simp ↓] theorem ws_retm {j : Nat} : W (evalS P C (.retm j) ρ) s ↔ @atO _ (moveV ρ j) s ⟨fun p s => @W _ (own2 p.1) s ⟨fun tv s1 => q.k (.rt tv) s1⟩⟩ := by
  unfold W; simp only [evalS, gi_bind, gi_pure]
  cases moveV ρ j with
  | none => exact gi_fail
  | some p => exact gi_pure
@[simp ↓] theorem ws_ret {e : E} : W (evalS P C (.ret e) ρ) s ↔ @W _ (evalV P C e ρ) s ⟨fun tv s1 => @W _ (own2 tv) s1 ⟨fun tv s2 => q.k (.rt tv) s2⟩⟩ := by
  unfold W; simp only [evalS, gi_bind, gi_pure]
@[simp ↓] theorem ws_retN : W (evalS P C .retN ρ) s ↔ q.k (.rt (.t .non)) s := by simp only [evalS]; exact w_pure
@[simp ↓] theorem ws_ifs {c : E} {a b : Sts} : W (evalS P C (.ifs c a b) ρ) s ↔ @W _ (evalV P C c ρ) s ⟨fun x s1 => @W _ (truth x) s1 ⟨fun t s2 => W (if t then evalSs P C a ρ else evalSs P C b ρ) s2⟩⟩ := by
  unfold W; simp only [evalS, gi_bind]
@[simp ↓] theorem ws_for {g : Tg} {it : E} {b : Sts} : W (evalS P C (.for_ g it b) ρ) s ↔ @W _ (evalV P C it ρ) s ⟨fun tv s1 => @W _ (itOf tv) s1 ⟨fun p s2 => lockOk ρ p.2 = true ∧ W (forL (fun x ρ => target x g ρ) (fun ρ => evalSs P C b ρ) (fun s => p.2.all (GI.okS s)) p.1 (lock ρ p.2)) s2⟩⟩ := by
  unfold W; simp only [evalS, gi_bind, gi_guard]
@[simp ↓] theorem ws_whl {c : E} {b : Sts} : W (evalS P C (.whl c b) ρ) s ↔ W (whileL (fun ρ => do let x ← evalV P C c ρ; truth x) (fun ρ => evalSs P C b ρ) P.wf ρ) s := by
  unfold W; simp only [evalS]
@[simp ↓] theorem ws_dput {d k e : E} : W (evalS P C (.dput d k e) ρ) s ↔ @W _ (evalV P C e ρ) s ⟨fun tv s1 => @W _ (mat tv) s1 ⟨fun x s2 => @W _ (evalV P C d ρ) s2 ⟨fun dv s3 => @W _ (dref dv) s3 ⟨fun n s4 => @W _ (evalV P C k ρ) s4 ⟨fun kv s5 => @W _ (keyTv kv) s5 ⟨fun y s6 => @W _ (dput n y x) s6 ⟨fun _ s7 => q.k (.nx ρ) s7⟩⟩⟩⟩⟩⟩⟩ := by
  unfold W; simp only [evalS, gi_bind, gi_pure]
@[simp ↓] theorem ws_aug {i : Nat} {e : E} : W (evalS P C (.aug i e) ρ) s ↔ @atO _ (readV ρ i) s ⟨fun x s1 => @W _ (intOf x) s1 ⟨fun a s2 => @W _ (evalV P C e ρ) s2 ⟨fun y s3 => @W _ (intOf y) s3 ⟨fun b s4 => q.k (.nx (store ρ i (.t (.int (a + b))))) s4⟩⟩⟩⟩ := by
  unfold W; simp only [evalS, gi_bind, gi_pure]
  cases readV ρ i with
  | none => exact gi_fail
  | some p => exact gi_pure
@[simp ↓] theorem ws_exto {o e : E} : W (evalS P C (.exto o e) ρ) s ↔ @W _ (evalV P C o ρ) s ⟨fun ov s1 => @W _ (refOf ov) s1 ⟨fun n s2 => @W _ (evalV P C e ρ) s2 ⟨fun tv s3 => @W _ (lstOf2 tv) s3 ⟨fun ys s4 => @W _ (extendO ys n) s4 ⟨fun _ s5 => q.k (.nx ρ) s5⟩⟩⟩⟩⟩ := by
  unfold W; simp only [evalS, gi_bind, gi_pure]
@[simp ↓] theorem ws_brk : W (evalS P C .brk ρ) s ↔ q.k (.bk ρ) s := by simp only [evalS]; exact w_pure
@[simp ↓] theorem ws_cnt : W (evalS P C .cnt ρ) s ↔ q.k (.ct ρ) s := by simp only [evalS]; exact w_pure
@[simp ↓] theorem ws_pass : W (evalS P C .pass ρ) s ↔ q.k (.nx ρ) s := by simp only [evalS]; exact w_pure
end
section
variable {q : Kn Unit}
@[simp ↓] theorem wp_nil : W (putFs P C .nil [] [] ρ) s ↔ q.k () s := by simp only [putFs]; exact w_pure
@[simp ↓] theorem wp_cons {o : E} {r : Es} {f : Str} {fs : List Str} {x : T} {xs : List T} : W (putFs P C (.cons o r) (f :: fs) (x :: xs) ρ) s ↔ @W _ (evalV P C o ρ) s ⟨fun ov s1 => @W _ (setFld P f x ov) s1 ⟨fun _ s2 => W (putFs P C r fs xs ρ) s2⟩⟩ := by
  unfold W; simp only [putFs, gi_bind]
end
end
/-! ### operations -/
@[simp] theorem ixo_t {xs : List T} {i : Int} : ixOf (.t (.tup xs)) (.t (.int i)) = (ofO (L2.atI xs i) >>= fun x => pure (TV.t x)) := rfl
@[simp] theorem ixo_l {xs : List T} {i : Int} : ixOf (.l xs) (.t (.int i)) = (ofO (L2.atI xs i) >>= fun x => pure (TV.t x)) := rfl
@[simp] theorem ixo_s {xs : List T} {g : List GI} {i : Int} : ixOf (.s xs g) (.t (.int i)) = (ofO (L2.atI xs i) >>= fun x => pure (TV.t x)) := rfl
@[simp] theorem ixo_r {n : Nat} {i : Int} : ixOf (.t (.ref n)) (.t (.int i)) = (deref n >>= fun xs => ofO (L2.atI xs i) >>= fun x => pure (TV.t x)) := rfl
@[simp] theorem sqo_r {n : Nat} : seqOf (.t (.ref n)) = deref n := rfl
@[simp] theorem lso_r {n : Nat} : lstOf (.t (.ref n)) = deref n := rfl
@[simp] theorem lso2_r {n : Nat} : lstOf2 (.t (.ref n)) = deref n := rfl
@[simp] theorem ito_r {n : Nat} : itOf (.t (.ref n)) = (deref n >>= fun xs => pure (xs, [GI.o n xs])) := rfl
@[simp] theorem slo_t {xs : List T} {lo hi : Option Int} : slOf (.t (.tup xs)) lo hi = pure (.t (.tup (cut xs lo hi))) := rfl
@[simp] theorem slo_l {xs : List T} {lo hi : Option Int} : slOf (.l xs) lo hi = pure (.l (cut xs lo hi)) := rfl
@[simp] theorem slo_s {xs : List T} {g : List GI} {lo hi : Option Int} : slOf (.s xs g) lo hi = pure (.l (cut xs lo hi)) := rfl
@[simp] theorem slo_r {n : Nat} {lo hi : Option Int} : slOf (.t (.ref n)) lo hi = (deref n >>= fun xs => pure (.l (cut xs lo hi))) := rfl
@[simp] theorem rvo_t {xs : List T} : revOf (.t (.tup xs)) = pure (.t (.tup xs.reverse)) := rfl
@[simp] theorem rvo_l {xs : List T} : revOf (.l xs) = pure (.l xs.reverse) := rfl
@[simp] theorem rvo_s {xs : List T} {g : List GI} : revOf (.s xs g) = pure (.l xs.reverse) := rfl
@[simp] theorem cto {xs : List T} {i : Nat} : cut xs none (some (i : Int)) = xs.take i := cut_to xs i
@[simp] theorem cfr {xs : List T} {i : Nat} : cut xs (some (i : Int)) none = xs.drop i := cut_from xs i
@[simp] theorem cfr1 {xs : List T} : cut xs (some 1) none = xs.drop 1 := cut_from xs 1
def MulOk (a b : Int) : Prop := a.natAbs.log2 + b.natAbs.log2 < 1000000
instance {a b : Int} : Decidable (MulOk a b) := inferInstanceAs (Decidable (_ < _))
theorem mul_ok {a b : Int} (ha : a.natAbs < 2 ^ 64) (hb : b.natAbs < 2 ^ 64) : MulOk a b := by
  have := log2_lt ha
  have := log2_lt hb
  unfold MulOk
  omega
@[simp] theorem bo_mul {a b : Int} : bin .mul (.t (.int a)) (.t (.int b)) = if MulOk a b then pure (.t (.int (a * b))) else fail := rfl
@[simp] theorem bo_mod {a b : Int} : bin .mod (.t (.int a)) (.t (.int b)) = if 0 < b then pure (.t (.int (a % b))) else fail := rfl
def DivOk (b : Int) : Prop := 0 < b ∧ b.natAbs.log2 < 9000
instance {b : Int} : Decidable (DivOk b) := inferInstanceAs (Decidable (_ ∧ _))
theorem div_ok {b : Int} (h0 : 0 < b) (hb : b.natAbs < 2 ^ 64) : DivOk b := by
  have := log2_lt hb
  exact ⟨h0, by omega⟩
@[simp] theorem bo_fdiv {a b : Int} : bin .fdiv (.t (.int a)) (.t (.int b)) = if DivOk b then pure (.t (.int (a / b))) else fail := rfl
@[simp] theorem bo_addt {xs ys : List T} : bin .add (.t (.tup xs)) (.t (.tup ys)) = if xs.length + ys.length ≤ sizeLine then pure (.t (.tup (xs ++ ys))) else fail := by simp only [bin, addV]
@[simp] theorem bo_rep {xs : List T} {k : Int} : bin .mul (.t (.tup xs)) (.t (.int k)) = if repOk xs.length k then pure (.t (.tup (List.replicate k.toNat xs).flatten)) else fail := rfl
@[simp] theorem bo_addl {xs ys : List T} : bin .add (.l xs) (.l ys) = if xs.length + ys.length ≤ sizeLine then pure (.l (xs ++ ys)) else fail := rfl
@[simp] theorem bo_addsl {xs ys : List T} {g : List GI} : bin .add (.s xs g) (.l ys) = if xs.length + ys.length ≤ sizeLine then pure (.l (xs ++ ys)) else fail := rfl
@[simp] theorem bo_addls {xs ys : List T} {g : List GI} : bin .add (.l xs) (.s ys g) = if xs.length + ys.length ≤ sizeLine then pure (.l (xs ++ ys)) else fail := rfl
@[simp] theorem bo_addss {xs ys : List T} {g g' : List GI} : bin .add (.s xs g) (.s ys g') = if xs.length + ys.length ≤ sizeLine then pure (.l (xs ++ ys)) else fail := rfl
@[simp] theorem bi_lst_t {xs : List T} : Mini.bi .list [.t (.tup xs)] = pure (.l xs) := rfl
@[simp] theorem bi_lst_r {n : Nat} : Mini.bi .list [.t (.ref n)] = (deref n >>= fun xs => pure (.l xs)) := rfl
@[simp] theorem bi_tup_r {n : Nat} : Mini.bi .tuple [.t (.ref n)] = (deref n >>= fun xs => pure (.t (.tup xs))) := rfl
@[simp] theorem bi_int_b {b : Bool} : Mini.bi .int [.t (.bl b)] = pure (.t (.int (if b then 1 else 0))) := rfl
@[simp] theorem bi_sum_s {xs : List T} {g : List GI} : Mini.bi .sum [.s xs g] = (ofO (intsOf xs) >>= fun ns => pure (.t (.int ns.sum))) := rfl
@[simp] theorem bi_max1_s {xs : List T} {g : List GI} : Mini.bi .max1 [.s xs g] = (ofO (intsOf xs) >>= fun ns => ofO (maxI ns) >>= fun m => pure (.t (.int m))) := rfl
@[simp] theorem bi_min1_s {xs : List T} {g : List GI} : Mini.bi .min1 [.s xs g] = (ofO (intsOf xs) >>= fun ns => ofO (minI ns) >>= fun m => pure (.t (.int m))) := rfl
@[simp] theorem bi_max2 {a b : Int} : Mini.bi .max2 [.t (.int a), .t (.int b)] = pure (.t (.int (if b > a then b else a))) := rfl
@[simp] theorem bi_min2 {a b : Int} : Mini.bi .min2 [.t (.int a), .t (.int b)] = pure (.t (.int (if b < a then b else a))) := rfl
@[simp] theorem bi_ls_s {xs : List T} {g : List GI} : Mini.bi .lenset [.s xs g] = (ofO (intsOf xs) >>= fun ns => if ns.length < 4000 then pure (.t (.int (dedup ns).length)) else fail) := rfl
@[simp] theorem bi_sor_s {xs : List T} {g : List GI} : Mini.bi .sorted [.s xs g] = (ofO (intsOf xs) >>= fun ns => pure (.l ((isort ns).map T.int))) := rfl
@[simp] theorem bi_sos_s {xs : List T} {g : List GI} : Mini.bi .sortedset [.s xs g] = (ofO (intsOf xs) >>= fun ns => if ns.length < 4000 ∧ (dedup ns).length < 64 then pure (.l ((isort (dedup ns)).map T.int)) else fail) := rfl
@[simp] theorem bi_sos_t {xs : List T} : Mini.bi .sortedset [.t (.tup xs)] = (ofO (intsOf xs) >>= fun ns => if ns.length < 4000 ∧ (dedup ns).length < 64 then pure (.l ((isort (dedup ns)).map T.int)) else fail) := rfl
@[simp] theorem bmV_pat {n : Nat} {a : TV} : bmV .popAt n [a] = (intOf a >>= fun i => popAtM n i) := rfl
@[simp] theorem bmV_pop {n : Nat} : bmV .pop n [] = popM n := rfl
@[simp] theorem bi_len_r {n : Nat} : Mini.bi .len [.t (.ref n)] = (deref n >>= fun xs => pure (.t (.int xs.length))) := by
  show ((deref n >>= fun xs => pure (xs.length : Int)) >>= fun n => pure (TV.t (.int n))) = _
  rw [m_as]
  rfl
def atL (o : Option O) (s : S) [q : Kn (List T)] : Prop := match o with
  | some (.lst xs) => q.k xs s
  | _ => False
@[simp] theorem atL_some {xs : List T} {s : S} {q : Kn (List T)} : atL (some (.lst xs)) s = q.k xs s := rfl
@[simp ↓] theorem w_deref {n : Nat} {s : S} {q : Kn (List T)} : W (deref n) s ↔ atL s[n]? s := by
  cases h : s[n]? with
  | none => exact w_bad (by unfold deref; rw [h])
  | some o => cases o with
    | ins c fs => exact w_bad (by unfold deref; rw [h])
    | dk fs => exact w_bad (by unfold deref; rw [h])
    | dt fs => exact w_bad (by unfold deref; rw [h])
    | lst xs => exact w_at (by unfold deref; rw [h])
@[simp ↓] theorem w_alloc {o : O} {s : S} {q : Kn T} : W (alloc o) s ↔ q.k (.ref s.length) (s ++ [o]) := w_at rfl
@[simp ↓] theorem w_mat {xs : List T} {s : S} {q : Kn T} : W (mat (.l xs)) s ↔ q.k (.ref s.length) (s ++ [.lst xs]) := w_at rfl
@[simp] theorem own_l {xs : List T} {ρ : Env} {i : Nat} (h : ρ[i]? = some (some (.l xs))) : ownL ρ i = pure xs := by
  unfold ownL
  rw [h]
@[simp] theorem ref_r {n : Nat} : refOf (.t (.ref n)) = (deref n >>= fun _ => pure n) := rfl
@[simp ↓] theorem w_put {n : Nat} {x : T} {i : Int} {s : S} {q : Kn Unit} : W (putItem x (.t (.ref n)) (.t (.int i))) s ↔ @atL s[n]? s ⟨fun xs s => @atO _ (L2.ixN xs.length i) s ⟨fun j s => q.k () (s.set n (.lst (xs.set j x)))⟩⟩ := by
  cases h : s[n]? with
  | none => exact w_bad (by unfold putItem; simp only [h])
  | some o =>
    cases o with
    | ins c fs => exact w_bad (by unfold putItem; simp only [h])
    | dk fs => exact w_bad (by unfold putItem; simp only [h])
    | dt fs => exact w_bad (by unfold putItem; simp only [h])
    | lst xs =>
      simp only [atL_some, kk_mk]
      cases h2 : L2.ixN xs.length i with
      | none => exact w_bad (by unfold putItem; simp only [h, h2])
      | some j => exact w_at (by unfold putItem; simp only [h, h2])
@[simp ↓] theorem w_appO {n : Nat} {x : T} {s : S} {q : Kn Unit} : W (appendO x n) s ↔ @atL s[n]? s ⟨fun xs s => xs.length < sizeLine ∧ q.k () (s.set n (.lst (xs ++ [x])))⟩ := by
  cases h : s[n]? with
  | none => exact w_bad (by unfold appendO; simp only [h])
  | some o =>
    cases o with
    | ins c fs => exact w_bad (by unfold appendO; simp only [h])
    | dk fs => exact w_bad (by unfold appendO; simp only [h])
    | dt fs => exact w_bad (by unfold appendO; simp only [h])
    | lst xs =>
      simp only [atL_some, kk_mk]
      by_cases h2 : xs.length < sizeLine
      · simp only [h2, true_and]
        exact w_at (by unfold appendO; simp only [h, h2, if_true])
      · simp only [h2, false_and]
        exact w_bad (by unfold appendO; simp only [h, h2, if_false])
@[simp ↓] theorem w_popAt {n : Nat} {i : Int} {s : S} {q : Kn TV} : W (popAtM n i) s ↔ @atL s[n]? s ⟨fun xs s => @atO _ (L2.ixN xs.length i) s ⟨fun j s => @atO _ xs[j]? s ⟨fun x s => small62 i = true ∧ q.k (.t x) (s.set n (.lst (xs.eraseIdx j)))⟩⟩⟩ := by
  cases h : s[n]? with
  | none => exact w_bad (by unfold popAtM; simp only [h])
  | some o =>
    cases o with
    | ins c fs => exact w_bad (by unfold popAtM; simp only [h])
    | dk fs => exact w_bad (by unfold popAtM; simp only [h])
    | dt fs => exact w_bad (by unfold popAtM; simp only [h])
    | lst xs =>
      simp only [atL_some, kk_mk]
      cases h2 : L2.ixN xs.length i with
      | none => exact w_bad (by unfold popAtM; simp only [h, h2])
      | some j =>
        simp only [atO_some, kk_mk]
        cases h3 : xs[j]? with
        | none => exact w_bad (by unfold popAtM; simp only [h, h2, Option.bind_some, h3])
        | some x =>
          simp only [atO_some, kk_mk]
          by_cases h4 : small62 i = true
          · simp only [h4, true_and]
            exact w_at (by unfold popAtM; simp only [h, h2, Option.bind_some, h3, h4, if_true])
          · have e : popAtM n i s = .bad := by
              unfold popAtM
              simp only [h, h2, Option.bind_some, h3]
              exact if_neg h4
            exact (w_bad e).trans (by simp [h4])
@[simp ↓] theorem w_popM {n : Nat} {s : S} {q : Kn TV} : W (popM n) s ↔ @atL s[n]? s ⟨fun xs s => @atO _ xs[xs.length - 1]? s ⟨fun x s => q.k (.t x) (s.set n (.lst xs.dropLast))⟩⟩ := by
  cases h : s[n]? with
  | none => exact w_bad (by unfold popM; simp only [h])
  | some o =>
    cases o with
    | ins c fs => exact w_bad (by unfold popM; simp only [h])
    | dk fs => exact w_bad (by unfold popM; simp only [h])
    | dt fs => exact w_bad (by unfold popM; simp only [h])
    | lst xs =>
      simp only [atL_some, kk_mk]
      cases h3 : xs[xs.length - 1]? with
      | none => exact w_bad (by unfold popM; simp only [h, h3])
      | some x => exact w_at (by unfold popM; simp only [h, h3])
@[simp ↓] theorem w_extO {n : Nat} {ys : List T} {s : S} {q : Kn Unit} : W (extendO ys n) s ↔ @atL s[n]? s ⟨fun xs s => xs.length + ys.length ≤ sizeLine ∧ q.k () (s.set n (.lst (xs ++ ys)))⟩ := by
  cases h : s[n]? with
  | none => exact w_bad (by unfold extendO; simp only [h])
  | some o =>
    cases o with
    | ins c fs => exact w_bad (by unfold extendO; simp only [h])
    | dk fs => exact w_bad (by unfold extendO; simp only [h])
    | dt fs => exact w_bad (by unfold extendO; simp only [h])
    | lst xs =>
      simp only [atL_some, kk_mk]
      by_cases h2 : xs.length + ys.length ≤ sizeLine
      · simp only [h2, true_and]
        exact w_at (by unfold extendO; simp only [h, h2, if_true])
      · simp only [h2, false_and]
        exact w_bad (by unfold extendO; simp only [h, h2, if_false])
/-! ### dicts -/
@[simp] theorem kt_t {x : T} : keyTv (.t x) = pure x := rfl
def isD : Option O → Bool
  | some (.dk _) => true
  | some (.dt _) => true
  | _ => false
@[simp] theorem isD_k {fs : List (L2.Key × T)} : isD (some (.dk fs)) = true := rfl
@[simp] theorem isD_t {fs : List (T × T)} : isD (some (.dt fs)) = true := rfl
@[simp ↓] theorem w_dref {n : Nat} {s : S} {q : Kn Nat} : W (dref (.t (.ref n))) s ↔ isD s[n]? = true ∧ q.k n s := by
  cases h : s[n]? with
  | none => exact (w_bad (by unfold dref; simp only [h])).trans (by simp [isD])
  | some o =>
    cases o with
    | ins c fs => exact (w_bad (by unfold dref; simp only [h])).trans (by simp [isD])
    | lst fs => exact (w_bad (by unfold dref; simp only [h])).trans (by simp [isD])
    | dk fs => exact (w_at (a := n) (s' := s) (by unfold dref; simp only [h])).trans (by simp)
    | dt fs => exact (w_at (a := n) (s' := s) (by unfold dref; simp only [h])).trans (by simp)
/-- what stands at a key, of an object -/
def dlk : Option O → T → Option (Option T)
  | some (.dk fs), x => (keyF x).map (atG fs)
  | some (.dt fs), x => (keyT x).map (atT fs)
  | _, _ => none
@[simp] theorem dlk_i {fs : List (L2.Key × T)} {i : Int} : dlk (some (.dk fs)) (.int i) = some (atG fs (.inl i)) := rfl
@[simp] theorem dlk_s {fs : List (L2.Key × T)} {i : Str} : dlk (some (.dk fs)) (.str i) = some (atG fs (.inr i)) := rfl
@[simp] theorem dlk_t {fs : List (T × T)} {x : T} : dlk (some (.dt fs)) x = (keyT x).map (atT fs) := rfl
@[simp ↓] theorem w_dlook {n : Nat} {x : T} {s : S} {q : Kn (Option T)} : W (dlook n x) s ↔ atO (dlk s[n]? x) s := by
  cases h : s[n]? with
  | none => exact w_bad (by unfold dlook; simp only [h])
  | some o =>
    cases o with
    | ins c fs => exact w_bad (by unfold dlook; simp only [h])
    | lst fs => exact w_bad (by unfold dlook; simp only [h])
    | dk fs =>
      cases h2 : keyF x with
      | none => simp only [dlk, h2, Option.map_none, atO_none]; exact w_bad (by unfold dlook; simp only [h, h2])
      | some k => simp only [dlk, h2, Option.map_some, atO_some]; exact w_at (by unfold dlook; simp only [h, h2])
    | dt fs =>
      cases h2 : keyT x with
      | none => simp only [dlk, h2, Option.map_none, atO_none]; exact w_bad (by unfold dlook; simp only [h, h2])
      | some k => simp only [dlk, h2, Option.map_some, atO_some]; exact w_at (by unfold dlook; simp only [h, h2])
/-- a dict with a pair more -/
def dpt : Option O → T → T → Option O
  | some (.dk fs), x, y => if fs.length < sizeLine then (keyF x).map fun k => .dk (putG fs k y) else none
  | some (.dt fs), x, y => if fs.length < sizeLine then (keyT x).map fun k => .dt (putT fs x k y) else none
  | _, _, _ => none
theorem dpt_i {fs : List (L2.Key × T)} {i : Int} {y : T} (h : fs.length < sizeLine) : dpt (some (.dk fs)) (.int i) y = some (.dk (putG fs (.inl i) y)) := by simp only [dpt, if_pos h]; rfl
theorem dpt_t {fs : List (T × T)} {x y : T} {k : NestedKey} (h : fs.length < sizeLine) (hk : keyT x = some k) : dpt (some (.dt fs)) x y = some (.dt (putT fs x k y)) := by simp only [dpt, if_pos h, hk]; rfl
@[simp ↓] theorem w_dput {n : Nat} {x y : T} {s : S} {q : Kn Unit} : W (dput n x y) s ↔ @atO _ (dpt s[n]? x y) s ⟨fun ob s => q.k () (s.set n ob)⟩ := by
  cases h : s[n]? with
  | none => exact w_bad (by unfold dput; simp only [h])
  | some o =>
    cases o with
    | ins c fs => exact w_bad (by unfold dput; simp only [h])
    | lst fs => exact w_bad (by unfold dput; simp only [h])
    | dk fs =>
      by_cases hl : fs.length < sizeLine
      · cases h2 : keyF x with
        | none => simp only [dpt, if_pos hl, h2, Option.map_none, atO_none]; exact w_bad (by unfold dput; simp only [h, h2])
        | some k => simp only [dpt, if_pos hl, h2, Option.map_some, atO_some]; exact w_at (by unfold dput; simp only [h, h2, if_pos hl])
      · simp only [dpt, if_neg hl, atO_none]
        exact w_bad (by unfold dput; simp only [h, if_neg hl]; split <;> rfl)
    | dt fs =>
      by_cases hl : fs.length < sizeLine
      · cases h2 : keyT x with
        | none => simp only [dpt, if_pos hl, h2, Option.map_none, atO_none]; exact w_bad (by unfold dput; simp only [h, h2])
        | some k => simp only [dpt, if_pos hl, h2, Option.map_some, atO_some]; exact w_at (by unfold dput; simp only [h, h2, if_pos hl])
      · simp only [dpt, if_neg hl, atO_none]
        exact w_bad (by unfold dput; simp only [h, if_neg hl]; split <;> rfl)
/-- setdefault: what is given back, the dict behind it -/
def dst (o : Option O) (x y : T) : Option (T × Option O) := match dpt o x y, dlk o x with
  | some _, some (some z) => some (z, none)
  | some ob, some none => some (y, some ob)
  | _, _ => none
@[simp ↓] theorem w_dsetV {n : Nat} {x y : T} {s : S} {q : Kn TV} : W (dsetV n x y) s ↔ @atO _ (dst s[n]? x y) s ⟨fun p s => match p.2 with
    | none => q.k (.t p.1) s
    | some ob => q.k (.t p.1) (s.set n ob)⟩ := by
  cases h : s[n]? with
  | none => exact w_bad (by unfold dsetV; simp only [h])
  | some o =>
    cases o with
    | ins c fs => exact w_bad (by unfold dsetV; simp only [h])
    | lst fs => exact w_bad (by unfold dsetV; simp only [h])
    | dk fs =>
      by_cases hl : fs.length < sizeLine
      · cases h2 : keyF x with
        | none => simp only [dst, dpt, if_pos hl, h2, Option.map_none, atO_none]; exact w_bad (by unfold dsetV; simp only [h, h2])
        | some k =>
          cases h3 : atG fs k with
          | none => simp only [dst, dpt, dlk, if_pos hl, h2, h3, Option.map_some, atO_some]; exact w_at (by unfold dsetV; simp only [h, h2, if_pos hl, h3])
          | some z => simp only [dst, dpt, dlk, if_pos hl, h2, h3, Option.map_some, atO_some]; exact w_at (by unfold dsetV; simp only [h, h2, if_pos hl, h3])
      · simp only [dst, dpt, if_neg hl, atO_none]
        exact w_bad (by unfold dsetV; simp only [h, if_neg hl]; split <;> rfl)
    | dt fs =>
      by_cases hl : fs.length < sizeLine
      · cases h2 : keyT x with
        | none => simp only [dst, dpt, if_pos hl, h2, Option.map_none, atO_none]; exact w_bad (by unfold dsetV; simp only [h, h2])
        | some k =>
          cases h3 : atT fs k with
          | none => simp only [dst, dpt, dlk, if_pos hl, h2, h3, Option.map_some, atO_some]; exact w_at (by unfold dsetV; simp only [h, h2, if_pos hl, h3])
          | some z => simp only [dst, dpt, dlk, if_pos hl, h2, h3, Option.map_some, atO_some]; exact w_at (by unfold dsetV; simp only [h, h2, if_pos hl, h3])
      · simp only [dst, dpt, if_neg hl, atO_none]
        exact w_bad (by unfold dsetV; simp only [h, if_neg hl]; split <;> rfl)
def szD : Option O → Option Int
  | some (.dk fs) => some fs.length
  | some (.dt fs) => some fs.length
  | _ => none
@[simp] theorem szD_k {fs : List (L2.Key × T)} : szD (some (.dk fs)) = some (fs.length : Int) := rfl
@[simp] theorem szD_t {fs : List (T × T)} : szD (some (.dt fs)) = some (fs.length : Int) := rfl
@[simp ↓] theorem w_dsize {n : Nat} {s : S} {q : Kn Int} : W (dsize n) s ↔ atO (szD s[n]?) s := by
  cases h : s[n]? with
  | none => exact w_bad (by unfold dsize; simp only [h])
  | some o =>
    cases o with
    | ins c fs => exact w_bad (by unfold dsize; simp only [h])
    | lst fs => exact w_bad (by unfold dsize; simp only [h])
    | dk fs => exact w_at (by unfold dsize; simp only [h])
    | dt fs => exact w_at (by unfold dsize; simp only [h])
def kyD : Option O → Option (List Int)
  | some (.dk fs) => intKeys fs
  | _ => none
@[simp] theorem kyD_k {fs : List (L2.Key × T)} : kyD (some (.dk fs)) = intKeys fs := rfl
@[simp ↓] theorem w_dkeys {n : Nat} {s : S} {q : Kn (List Int)} : W (dkeys n) s ↔ atO (kyD s[n]?) s := by
  cases h : s[n]? with
  | none => exact w_bad (by unfold dkeys; simp only [h])
  | some o =>
    cases o with
    | ins c fs => exact w_bad (by unfold dkeys; simp only [h])
    | lst fs => exact w_bad (by unfold dkeys; simp only [h])
    | dk fs =>
      cases h2 : intKeys fs with
      | none => simp only [kyD, h2, atO_none]; exact w_bad (by unfold dkeys; simp only [h, h2])
      | some k => simp only [kyD, h2, atO_some]; exact w_at (by unfold dkeys; simp only [h, h2])
    | dt fs => exact w_bad (by unfold dkeys; simp only [h])
def dp0 : Option O → T → T → Option O
  | some (.dk []), x, y => (keyF x).map fun k => .dk [(k, y)]
  | _, _, _ => none
@[simp] theorem dp0_i {i : Int} {y : T} : dp0 (some (.dk [])) (.int i) y = some (.dk [(.inl i, y)]) := rfl
@[simp ↓] theorem w_dput0 {n : Nat} {x y : T} {s : S} {q : Kn Unit} : W (dput0 n x y) s ↔ @atO _ (dp0 s[n]? x y) s ⟨fun ob s => q.k () (s.set n ob)⟩ := by
  cases h : s[n]? with
  | none => exact w_bad (by unfold dput0; simp only [h])
  | some o =>
    cases o with
    | ins c fs => exact w_bad (by unfold dput0; simp only [h])
    | lst fs => exact w_bad (by unfold dput0; simp only [h])
    | dt fs => exact w_bad (by unfold dput0; simp only [h])
    | dk fs =>
      cases fs with
      | cons a r => exact w_bad (by unfold dput0; simp only [h])
      | nil =>
        cases h2 : keyF x with
        | none => simp only [dp0, h2, Option.map_none, atO_none]; exact w_bad (by unfold dput0; simp only [h, h2])
        | some k => simp only [dp0, h2, Option.map_some, atO_some]; exact w_at (by unfold dput0; simp only [h, h2])
@[simp] theorem bl_of {b : Bool} : blOf (.t (.bl b)) = pure b := rfl
/-- what an object is to isinstance -/
def clsO (P : Prog) (c : Nat) : Option O → Option Bool
  | some (.ins c' _) => if (P.cls[c']?).isSome then some (isSub P c' c) else none
  | some _ => some false
  | none => none
@[simp ↓] theorem w_isCr {P : Prog} {c n : Nat} {s : S} {q : Kn Bool} : W (isCls P c (.t (.ref n))) s ↔ atO (clsO P c s[n]?) s := by
  cases h : s[n]? with
  | none => exact w_bad (by unfold isCls; simp only [h])
  | some o =>
    cases o with
    | ins c' fs =>
      by_cases h2 : (P.cls[c']?).isSome = true
      · simp only [clsO, if_pos h2, atO_some]; exact w_at (by unfold isCls; simp only [h, if_pos h2])
      · simp only [clsO, if_neg h2, atO_none]; exact w_bad (by unfold isCls; simp only [h, if_neg h2])
    | lst fs => exact w_at (by unfold isCls; simp only [h])
    | dk fs => exact w_at (by unfold isCls; simp only [h])
    | dt fs => exact w_at (by unfold isCls; simp only [h])
section
variable {P : Prog} {c : Nat} {xs : List T} {g : List GI} {i : Int} {b : Bool} {z : Str}
@[simp] theorem isC_l : isCls P c (.l xs) = pure false := rfl
@[simp] theorem isC_s : isCls P c (.s xs g) = pure false := rfl
@[simp] theorem isC_t : isCls P c (.t (.tup xs)) = pure false := rfl
@[simp] theorem isC_i : isCls P c (.t (.int i)) = pure false := rfl
@[simp] theorem isC_b : isCls P c (.t (.bl b)) = pure false := rfl
@[simp] theorem isC_z : isCls P c (.t (.str z)) = pure false := rfl
@[simp] theorem isC_n : isCls P c (.t .non) = pure false := rfl
@[simp] theorem eqR_l : eqRight P c (.l xs) = pure () := rfl
@[simp] theorem eqR_s : eqRight P c (.s xs g) = pure () := rfl
@[simp] theorem eqR_t : eqRight P c (.t (.tup xs)) = pure () := rfl
@[simp] theorem eqR_i : eqRight P c (.t (.int i)) = pure () := rfl
@[simp] theorem eqR_b : eqRight P c (.t (.bl b)) = pure () := rfl
@[simp] theorem eqR_z : eqRight P c (.t (.str z)) = pure () := rfl
@[simp] theorem eqR_n : eqRight P c (.t .non) = pure () := rfl
end
def eqRO (P : Prog) (c : Nat) : Option O → Option Unit
  | some (.ins c' _) => if c' = c ∨ ((P.cls[c']?).isSome = true ∧ isSub P c' c = false) then some () else none
  | some _ => some ()
  | none => none
@[simp ↓] theorem w_eqRr {P : Prog} {c n : Nat} {s : S} {q : Kn Unit} : W (eqRight P c (.t (.ref n))) s ↔ atO (eqRO P c s[n]?) s := by
  cases h : s[n]? with
  | none => exact w_bad (by unfold eqRight; simp only [h])
  | some o =>
    cases o with
    | ins c' fs =>
      by_cases h2 : c' = c ∨ ((P.cls[c']?).isSome = true ∧ isSub P c' c = false)
      · simp only [eqRO, if_pos h2, atO_some]; exact w_at (by unfold eqRight; simp only [h, if_pos h2])
      · simp only [eqRO, if_neg h2, atO_none]; exact w_bad (by unfold eqRight; simp only [h, if_neg h2])
    | lst fs => exact w_at (by unfold eqRight; simp only [h])
    | dk fs => exact w_at (by unfold eqRight; simp only [h])
    | dt fs => exact w_at (by unfold eqRight; simp only [h])
def eqOO (P : Prog) (n : Nat) : Option O → Option (Nat × Nat × Nat)
  | some (.ins c _) => ((P.cls[c]?).bind fun cd => cd.meths.lookup ("__eq__" : Str)).map fun f => (n, c, f)
  | _ => none
@[simp ↓] theorem w_eqOr {P : Prog} {n : Nat} {s : S} {q : Kn (Nat × Nat × Nat)} : W (eqOf P (.t (.ref n))) s ↔ atO (eqOO P n s[n]?) s := by
  cases h : s[n]? with
  | none => exact w_bad (by unfold eqOf; simp only [h])
  | some o =>
    cases o with
    | ins c fs =>
      cases h2 : ((P.cls[c]?).bind fun cd => cd.meths.lookup ("__eq__" : Str)) with
      | none => simp only [eqOO, h2, Option.map_none, atO_none]; exact w_bad (by unfold eqOf; simp only [h, h2])
      | some f => simp only [eqOO, h2, Option.map_some, atO_some]; exact w_at (by unfold eqOf; simp only [h, h2])
    | lst fs => exact w_bad (by unfold eqOf; simp only [h])
    | dk fs => exact w_bad (by unfold eqOf; simp only [h])
    | dt fs => exact w_bad (by unfold eqOf; simp only [h])
/-! ### a call -/
theorem w_call {P : Prog} {l k : Nat} {fd : Fd} {args : List TV} {s : S} {q : Kn TV} (h : P.fns[k]? = some fd) (hl : args.length = fd.ps.length) (w : @W _ (evalSs P (callN P l) fd.body (start fd args)) s ⟨fun o s' => W (fin o) s'⟩) : W (callN P (l + 1) k args) s := by
  rw [call_at h hl]
  exact w_bind.mpr w
theorem w_pc {P : Prog} {l k : Nat} {fd : Fd} {args : List TV} {a : TV} (h : P.fns[k]? = some fd) (hl : args.length = fd.ps.length) (w : ∀ s, @W _ (evalSs P (callN P l) fd.body (start fd args)) s ⟨fun o s' => @W _ (fin o) s' ⟨fun b s2 => b = a ∧ s2 = s⟩⟩) : callN P (l + 1) k args = pure a :=
  w_eqv fun s => w_call h hl (w s)
theorem go_c {P : Prog} {l k : Nat} {fd : Fd} {args : List TV} {s : S} {Q : TV → S → Prop} (h : P.fns[k]? = some fd) (hl : args.length = fd.ps.length) (w : @W _ (evalSs P (callN P l) fd.body (start fd args)) s ⟨fun o s' => @W _ (fin o) s' ⟨Q⟩⟩) : Go (callN P (l + 1) k args) s Q :=
  go_w (w_call h hl w)
/-! ### loops -/
/-- how a turn may end -/
def turn (Q : Env → S → Prop) (q : Kn Out) : Out → S → Prop
  | .nx ρ, s => Q ρ s
  | .ct ρ, s => Q ρ s
  | .rt v, s => q.k (.rt v) s
  | .bk ρ, s => q.k (.nx ρ) s
section
variable {q : Kn Out} {Q : Env → S → Prop} {ρ : Env} {s : S} {v : TV}
@[simp ↓] theorem turn_nx : turn Q q (.nx ρ) s = Q ρ s := rfl
@[simp ↓] theorem turn_ct : turn Q q (.ct ρ) s = Q ρ s := rfl
@[simp ↓] theorem turn_rt : turn Q q (.rt v) s = q.k (.rt v) s := rfl
@[simp ↓] theorem turn_bk : turn Q q (.bk ρ) s = q.k (.nx ρ) s := rfl
end
theorem w_for0 {α : Type} {tgt : T → Env → Option Env} {body : Env → M Out} {g : S → Bool} {j : α → T} {q : Kn Out} (Wd : Nat → Env → S → Prop) : ∀ (as : List α) (k : Nat) (ρ : Env) (s : S), Wd k ρ s →
    (∀ i a ρ s, as[i]? = some a → Wd (k + i) ρ s → g s = true ∧ ∃ ρ1, tgt (j a) ρ = some ρ1 ∧ @W _ (body ρ1) s ⟨turn (Wd (k + i + 1)) q⟩) →
    (∀ ρ s, Wd (k + as.length) ρ s → g s = true ∧ q.k (.nx ρ) s) → W (forL tgt body g (as.map j) ρ) s
  | [], k, ρ, s, hw, _, he => by
    obtain ⟨h1, h2⟩ := he ρ s hw
    refine ⟨.nx ρ, s, ?_, h2⟩
    unfold forL
    simp only [List.map_nil]
    rw [if_pos h1]
  | a :: as, k, ρ, s, hw, h, he => by
    obtain ⟨hg, ρ1, h1, o, s2, h2, h3⟩ := h 0 a ρ s rfl hw
    have go : ∀ ρ2, Wd (k + 0 + 1) ρ2 s2 → W (forL tgt body g (as.map j) ρ2) s2 := fun ρ2 h4 => w_for0 Wd as (k + 1) ρ2 s2 h4 (fun i b ρ s hy hw => by
      have q := h (i + 1) b ρ s (by simpa using hy) (by rw [show k + (i + 1) = k + 1 + i by omega]; exact hw)
      rw [show k + (i + 1) + 1 = k + 1 + i + 1 by omega] at q
      exact q) fun ρ s hw => he ρ s (by rw [List.length_cons, show k + (as.length + 1) = k + 1 + as.length by omega]; exact hw)
    have e : forL tgt body g ((a :: as).map j) ρ s = (match o with
      | .nx ρ'' => forL tgt body g (as.map j) ρ''
      | .ct ρ'' => forL tgt body g (as.map j) ρ''
      | .bk ρ'' => pure (.nx ρ'')
      | .rt v => pure (.rt v) : M Out) s2 := by
      rw [List.map_cons]
      conv => lhs; unfold forL
      simp only [hg, if_true, h1]
      rw [m_ok h2]
      cases o <;> rfl
    show Go _ _ _
    unfold Go
    rw [e]
    cases o with
    | nx ρ2 => exact go ρ2 h3
    | ct ρ2 => exact go ρ2 h3
    | bk ρ2 => exact ⟨_, _, rfl, h3⟩
    | rt v => exact ⟨_, _, rfl, h3⟩
theorem w_for {α : Type} {tgt : T → Env → Option Env} {body : Env → M Out} {g : S → Bool} {j : α → T} {q : Kn Out} {as : List α} {ρ : Env} {s : S} (Wd : Nat → Env → S → Prop) (h0 : Wd 0 ρ s)
    (h : ∀ i a ρ s, as[i]? = some a → Wd i ρ s → g s = true ∧ ∃ ρ1, tgt (j a) ρ = some ρ1 ∧ @W _ (body ρ1) s ⟨turn (Wd (i + 1)) q⟩)
    (he : ∀ ρ s, Wd as.length ρ s → g s = true ∧ q.k (.nx ρ) s) : W (forL tgt body g (as.map j) ρ) s :=
  w_for0 Wd as 0 ρ s h0 (fun i a ρ s x y => by
    rw [Nat.zero_add] at y ⊢
    exact h i a ρ s x y) (by simpa using he)
/-- the items are told as they stand -/
theorem w_forT {tgt : T → Env → Option Env} {body : Env → M Out} {g : S → Bool} {q : Kn Out} {as : List T} {ρ : Env} {s : S} (Wd : Nat → Env → S → Prop) (h0 : Wd 0 ρ s)
    (h : ∀ i a ρ s, as[i]? = some a → Wd i ρ s → g s = true ∧ ∃ ρ1, tgt a ρ = some ρ1 ∧ @W _ (body ρ1) s ⟨turn (Wd (i + 1)) q⟩)
    (he : ∀ ρ s, Wd as.length ρ s → g s = true ∧ q.k (.nx ρ) s) : W (forL tgt body g as ρ) s := by
  have e := w_for (j := id) (tgt := tgt) (body := body) (g := g) (as := as) Wd h0 h he
  rwa [List.map_id] at e
theorem w_whl {test : Env → M Bool} {body : Env → M Out} {q : Kn Out} (Wd : Nat → Env → S → Prop)
    (h : ∀ n ρ s, Wd n ρ s → @W _ (test ρ) s ⟨fun b s1 => if b = true then 0 < n ∧ @W _ (body ρ) s1 ⟨turn (fun ρ s => ∃ n', n' < n ∧ Wd n' ρ s) q⟩ else q.k (.nx ρ) s1⟩) : ∀ (f n : Nat) (ρ : Env) (s : S), n < f → Wd n ρ s → W (whileL test body f ρ) s
  | 0, n, ρ, s, hn, hw => by omega
  | f + 1, n, ρ, s, hn, hw => by
    obtain ⟨b, s1, e1, h1⟩ := h n ρ s hw
    unfold whileL
    refine w_bind.mpr ⟨b, s1, e1, ?_⟩
    cases b with
    | false =>
      simp only [Bool.false_eq_true, if_false] at h1
      show W (if false = true then _ else pure (Out.nx ρ)) s1
      rw [w_bff, w_pure]
      exact h1
    | true =>
      simp only [if_true] at h1
      obtain ⟨h0, o, s2, e2, h2⟩ := h1
      show W (if true = true then _ else pure (Out.nx ρ)) s1
      rw [w_btt]
      refine w_bind.mpr ⟨o, s2, e2, ?_⟩
      cases o with
      | nx ρ2 => obtain ⟨n', hn', hw'⟩ := h2; exact w_whl Wd h f n' ρ2 s2 (by omega) hw'
      | ct ρ2 => obtain ⟨n', hn', hw'⟩ := h2; exact w_whl Wd h f n' ρ2 s2 (by omega) hw'
      | bk ρ2 => exact ⟨_, _, rfl, h2⟩
      | rt v => exact ⟨_, _, rfl, h2⟩
/-- comprehensions -/
theorem w_lc0 {α : Type} {tgt : T → Option Env} {tst : Env → M Bool} {elt : Env → M T} {g : S → Bool} {j : α → T} {q : Kn (List T)} (I : Nat → List T → S → Prop) : ∀ (as : List α) (k : Nat) (zs : List T) (s : S), I k zs s →
    (∀ i a zs s, as[i]? = some a → I (k + i) zs s → g s = true ∧ ∃ ρ, tgt (j a) = some ρ ∧ @W _ (tst ρ) s ⟨fun r s1 => if r = true then @W _ (elt ρ) s1 ⟨fun y s2 => I (k + i + 1) (zs ++ [y]) s2⟩ else I (k + i + 1) zs s1⟩) →
    (∀ zs s, I (k + as.length) zs s → g s = true ∧ q.k zs s) → @W _ (lcL tgt tst elt g (as.map j)) s ⟨fun ys s' => q.k (zs ++ ys) s'⟩
  | [], k, zs, s, hi, _, he => by
    obtain ⟨h1, h2⟩ := he zs s hi
    refine ⟨[], s, ?_, by show q.k (zs ++ []) s; rw [List.append_nil]; exact h2⟩
    unfold lcL
    simp only [List.map_nil]
    rw [if_pos h1]
  | a :: as, k, zs, s, hi, h, he => by
    obtain ⟨hg, ρ, h1, r, s1, e1, h2⟩ := h 0 a zs s rfl hi
    have go : ∀ zs2 s2, I (k + 0 + 1) zs2 s2 → @W _ (lcL tgt tst elt g (as.map j)) s2 ⟨fun ys s' => q.k (zs2 ++ ys) s'⟩ := fun zs2 s2 h4 => w_lc0 I as (k + 1) zs2 s2 h4 (fun i b zs s hy hw => by
      have q := h (i + 1) b zs s (by simpa using hy) (by rw [show k + (i + 1) = k + 1 + i by omega]; exact hw)
      rw [show k + (i + 1) + 1 = k + 1 + i + 1 by omega] at q
      exact q) fun zs s hw => he zs s (by rw [List.length_cons, show k + (as.length + 1) = k + 1 + as.length by omega]; exact hw)
    have e : lcL tgt tst elt g ((a :: as).map j) s = (if r = true then (do
        let y ← elt ρ
        let r ← lcL tgt tst elt g (as.map j)
        pure (y :: r))
      else lcL tgt tst elt g (as.map j)) s1 := by
      rw [List.map_cons]
      conv => lhs; unfold lcL
      simp only [hg, if_true, h1]
      rw [m_ok e1]
    show Go _ _ _
    unfold Go
    rw [e]
    cases r with
    | false =>
      exact go zs s1 (by simpa using h2)
    | true =>
      simp only [kk_mk, if_true] at h2
      obtain ⟨y, s2, e2, h4⟩ := h2
      obtain ⟨ys, s3, e3, h5⟩ := go _ s2 h4
      refine ⟨y :: ys, s3, ?_, ?_⟩
      · rw [if_pos rfl, m_ok e2, m_ok e3]
        rfl
      · simpa using h5
theorem w_lcI {α : Type} {tgt : T → Option Env} {tst : Env → M Bool} {elt : Env → M T} {g : S → Bool} {j : α → T} {as : List α} {s : S} {q : Kn (List T)} (I : Nat → List T → S → Prop) (h0 : I 0 [] s)
    (h : ∀ i a zs s, as[i]? = some a → I i zs s → g s = true ∧ ∃ ρ, tgt (j a) = some ρ ∧ @W _ (tst ρ) s ⟨fun r s1 => if r = true then @W _ (elt ρ) s1 ⟨fun y s2 => I (i + 1) (zs ++ [y]) s2⟩ else I (i + 1) zs s1⟩)
    (he : ∀ zs s, I as.length zs s → g s = true ∧ q.k zs s) : W (lcL tgt tst elt g (as.map j)) s := by
  have := w_lc0 (q := q) I as 0 [] s h0 (fun i a ρ s x y => by
    rw [Nat.zero_add] at y ⊢
    exact h i a ρ s x y) (by simpa using he)
  simpa using this
/-- .. whose turns leave the state -/
theorem w_lc {α : Type} {tgt : T → Option Env} {tst : Env → M Bool} {elt : Env → M T} {g : S → Bool} {j : α → T} {as : List α} {s : S} {q : Kn (List T)} (b : α → Bool) (y : α → T) (hg : g s = true)
    (h : ∀ a ∈ as, ∃ ρ, tgt (j a) = some ρ ∧ @W _ (tst ρ) s ⟨fun r s' => r = b a ∧ s' = s⟩ ∧ (b a = true → @W _ (elt ρ) s ⟨fun v s' => v = y a ∧ s' = s⟩)) (k : q.k ((as.filter b).map y) s) : W (lcL tgt tst elt g (as.map j)) s := by
  have key := go_lc (f := pure) (Q := q.k) as j b y hg (tgt := tgt) (tst := tst) (elt := elt) (fun a ha => by
    obtain ⟨ρ, h1, h2, h3⟩ := h a ha
    exact ⟨ρ, h1, w_done h2, fun hb => w_done (h3 hb)⟩) (go_pure k)
  rw [gi_bind] at key
  have := (w_noExc (q := ⟨fun a s' => Go (pure a) s' q.k⟩)).mp key
  exact go_imp this fun a s' h => gi_pure.mp h
theorem w_lcA {α : Type} {tgt : T → Option Env} {tst : Env → M Bool} {elt : Env → M T} {g : S → Bool} {j : α → T} {as : List α} {s : S} {q : Kn (List T)} (y : α → T) (hg : g s = true)
    (h : ∀ a ∈ as, ∃ ρ, tgt (j a) = some ρ ∧ @W _ (tst ρ) s ⟨fun r s' => r = true ∧ s' = s⟩ ∧ @W _ (elt ρ) s ⟨fun v s' => v = y a ∧ s' = s⟩) (k : q.k (as.map y) s) : W (lcL tgt tst elt g (as.map j)) s := by
  refine w_lc (fun _ => true) y hg (fun a ha => ?_) ?_
  · obtain ⟨ρ, h1, h2, h3⟩ := h a ha
    exact ⟨ρ, h1, h2, fun _ => h3⟩
  · rw [List.filter_eq_self.mpr fun _ _ => rfl]
    exact k
@[elab_as_elim] theorem snoc_ind {α : Type} {p : List α → Prop} (h0 : p []) (h1 : ∀ xs a, p xs → p (xs ++ [a])) (xs : List α) : p xs := by
  have : ∀ ys : List α, p ys.reverse := by
    intro ys
    induction ys with
    | nil => exact h0
    | cons y ys ih => rw [List.reverse_cons]; exact h1 _ _ ih
  have := this xs.reverse
  rwa [List.reverse_reverse] at this
@[simp] theorem oks_sl1 {s : S} {i : Nat} : GI.okS s (.sl i) = true := rfl
@[simp] theorem lkk_sl {ρ : Env} {i : Nat} {g : List GI} : lockOk ρ (.sl i :: g) = ((match ρ[i]? with
    | some (some (.l _)) => true
    | _ => false) && lockOk ρ g) := rfl
@[simp] theorem lkk_o {ρ : Env} {n : Nat} {xs : List T} {g : List GI} : lockOk ρ (.o n xs :: g) = lockOk ρ g := rfl
@[simp] theorem lc_o {ρ : Env} {n : Nat} {xs : List T} {g : List GI} : lock ρ (.o n xs :: g) = lock ρ g := rfl
section
variable {ρ : Env} {i : Nat} {v : TV} {x : T} {xs : List T} {is : List Nat}
@[simp] theorem store_eq : store ρ i v = ρ.set i (some v) := rfl
@[simp] theorem wipe_nil : Mini.wipe ρ [] = ρ := rfl
@[simp] theorem wipe_cons : Mini.wipe ρ (i :: is) = (Mini.wipe ρ is).set i none := rfl
@[simp] theorem start_eq {fd : Fd} {args : List TV} : Mini.start fd args = args.map some ++ List.replicate (fd.N.length - args.length) none := rfl
@[simp] theorem target_v : target x (.v i) ρ = some (ρ.set i (some (.t x))) := rfl
@[simp] theorem target_p : target (.tup xs) (.p is) ρ = if xs.length = is.length then some ((List.zip is xs).foldl (fun ρ p => store ρ p.1 (.t p.2)) ρ) else none := rfl
def mvO (ρ : Env) (i : Nat) : Option (Option TV) → Option (TV × Env)
  | some (some (.l xs)) => some (.l xs, ρ.set i none)
  | some (some tv) => some (tv, ρ)
  | _ => none
@[simp] theorem mv_eq : moveV ρ i = mvO ρ i ρ[i]? := by
  unfold moveV mvO
  split <;> simp [*]
@[simp] theorem mvO_l : mvO ρ i (some (some (.l xs))) = some (.l xs, ρ.set i none) := rfl
@[simp] theorem mvO_t : mvO ρ i (some (some (.t x))) = some (.t x, ρ) := rfl
@[simp] theorem mvO_s {g : List GI} : mvO ρ i (some (some (.s xs g))) = some (.s xs g, ρ) := rfl
@[simp] theorem nk_n : isNonK (.k .non) = true := rfl
@[simp] theorem nk_i {a : Int} : isNonK (.k (.int a)) = false := rfl
@[simp] theorem nk_v : isNonK (.v i) = false := rfl
@[simp] theorem nk_b {o : Bo} {a b : E} : isNonK (.bin o a b) = false := rfl
@[simp] theorem nk_c {f : Nat} {es : Es} : isNonK (.call f es) = false := rfl
@[simp] theorem nk_bi {f : Bi} {es : Es} : isNonK (.bi f es) = false := rfl
@[simp] theorem szl' : sizeLine = 16777216 := sizeLine_eq
end
section
variable {s : S} {xs : List T} {a : Int} {b : Bool} {z : Str} {g : List GI} {P : Prog} {n : Nat}
@[simp] theorem kn_t : isKnown s (.t (.tup xs)) = true := rfl
@[simp] theorem kn_i : isKnown s (.t (.int a)) = true := rfl
@[simp] theorem kn_b : isKnown s (.t (.bl b)) = true := rfl
@[simp] theorem kn_n : isKnown s (.t .non) = true := rfl
@[simp] theorem kn_z : isKnown s (.t (.str z)) = true := rfl
@[simp] theorem kn_l : isKnown s (.l xs) = true := rfl
@[simp] theorem kn_s : isKnown s (.s xs g) = true := rfl
@[simp] theorem nn_r : isNone (.t (.ref n)) = false := rfl
@[simp] theorem nn_b : isNone (.t (.bl b)) = false := rfl
@[simp] theorem nn_z : isNone (.t (.str z)) = false := rfl
@[simp] theorem nn_l : isNone (.l xs) = false := rfl
@[simp] theorem nn_s : isNone (.s xs g) = false := rfl
theorem kn_r (h : s[n]? = some (.lst xs)) : isKnown s (.t (.ref n)) = true := by simp only [isKnown, h]
@[simp] theorem ty_i {t : Ty} : isTy P s (.t (.int a)) t = (match t with
  | .int => true
  | _ => false) := by cases t <;> rfl
@[simp] theorem ty_b {t : Ty} : isTy P s (.t (.bl b)) t = (match t with
  | .int => true
  | .bool => true
  | _ => false) := by cases t <;> rfl
@[simp] theorem ty_n {t : Ty} : isTy P s (.t .non) t = false := by cases t <;> rfl
@[simp] theorem ty_z {t : Ty} : isTy P s (.t (.str z)) t = (match t with
  | .str => true
  | _ => false) := by cases t <;> rfl
@[simp] theorem ty_t {t : Ty} : isTy P s (.t (.tup xs)) t = (match t with
  | .tuple => true
  | _ => false) := by cases t <;> rfl
@[simp] theorem ty_l {t : Ty} : isTy P s (.l xs) t = (match t with
  | .list => true
  | _ => false) := by cases t <;> rfl
@[simp] theorem ty_s {t : Ty} : isTy P s (.s xs g) t = (match t with
  | .list => true
  | _ => false) := by cases t <;> rfl
@[simp] theorem ty_r {t : Ty} : isTy P s (.t (.ref n)) t = (match t with
  | .list => true
  | _ => false) := by cases t <;> rfl
end
section
variable {α : Type} {a b c d e : α} {xs : List α}
@[simp] theorem atI_c {i : Nat} : L2.atI xs (i : Int) = xs[i]? := by
  by_cases h : i < xs.length
  · rw [List.getElem?_eq_getElem h]
    exact atI_nat (List.getElem?_eq_getElem h)
  · rw [List.getElem?_eq_none (by omega)]
    unfold L2.atI L2.ixN
    rw [if_pos (by omega), if_neg (by omega)]
    rfl
@[simp] theorem atI_0 : L2.atI xs 0 = xs[0]? := atI_c (i := 0)
@[simp] theorem atI_1 : L2.atI xs 1 = xs[1]? := atI_c (i := 1)
@[simp] theorem atI_2 : L2.atI xs 2 = xs[2]? := atI_c (i := 2)
@[simp] theorem atI_3 : L2.atI xs 3 = xs[3]? := atI_c (i := 3)
@[simp] theorem atI_4 : L2.atI xs 4 = xs[4]? := atI_c (i := 4)
@[simp] theorem ixN_0 : L2.ixN 5 0 = some 0 := rfl
@[simp] theorem ixN_1 : L2.ixN 5 1 = some 1 := rfl
@[simp] theorem ixN_2 : L2.ixN 5 2 = some 2 := rfl
@[simp] theorem ixN_3 : L2.ixN 5 3 = some 3 := rfl
@[simp] theorem ixN_4 : L2.ixN 5 4 = some 4 := rfl
@[simp] theorem bo_pow {i j : Int} : bin .pow (.t (.int i)) (.t (.int j)) = if powOk i j then pure (.t (.int (i ^ j.toNat))) else fail := rfl
end
/-! ### the same, what is wanted kept out of sight -/
theorem go_k {P : Prog} {l k : Nat} {fd : Fd} {args : List TV} {s : S} {Q : TV → S → Prop} (h : P.fns[k]? = some fd) (hl : args.length = fd.ps.length) (w : ∀ Z : TV → S → Prop, (∀ v s, Q v s → Z v s) → @W _ (evalSs P (callN P l) fd.body (start fd args)) s ⟨fun o s' => @W _ (fin o) s' ⟨Z⟩⟩) : Go (callN P (l + 1) k args) s Q :=
  go_c h hl (w Q fun _ _ h => h)
theorem w_fork {α : Type} {tgt : T → Env → Option Env} {body : Env → M Out} {g : S → Bool} {j : α → T} {q : Kn Out} {as : List α} {ρ : Env} {s : S} (Wd : Nat → Env → S → Prop) (h0 : Wd 0 ρ s)
    (h : ∀ i a ρ s, as[i]? = some a → Wd i ρ s → g s = true ∧ ∃ ρ1, tgt (j a) ρ = some ρ1 ∧ ∀ Z : Env → S → Prop, (∀ ρ s, Wd (i + 1) ρ s → Z ρ s) → @W _ (body ρ1) s ⟨turn Z q⟩)
    (he : ∀ ρ s, Wd as.length ρ s → g s = true ∧ q.k (.nx ρ) s) : W (forL tgt body g (as.map j) ρ) s :=
  w_for Wd h0 (fun i a ρ s x y => by
    obtain ⟨h1, ρ1, h2, h3⟩ := h i a ρ s x y
    exact ⟨h1, ρ1, h2, h3 _ fun _ _ h => h⟩) he
theorem w_lck {α : Type} {tgt : T → Option Env} {tst : Env → M Bool} {elt : Env → M T} {g : S → Bool} {j : α → T} {as : List α} {s : S} {q : Kn (List T)} (I : Nat → List T → S → Prop) (h0 : I 0 [] s)
    (h : ∀ i a zs s, as[i]? = some a → I i zs s → g s = true ∧ ∃ ρ, tgt (j a) = some ρ ∧ ∀ Z : List T → S → Prop, (∀ zs s, I (i + 1) zs s → Z zs s) → @W _ (tst ρ) s ⟨fun r s1 => if r = true then @W _ (elt ρ) s1 ⟨fun y s2 => Z (zs ++ [y]) s2⟩ else Z zs s1⟩)
    (he : ∀ zs s, I as.length zs s → g s = true ∧ q.k zs s) : W (lcL tgt tst elt g (as.map j)) s :=
  w_lcI I h0 (fun i a zs s x y => by
    obtain ⟨h1, ρ1, h2, h3⟩ := h i a zs s x y
    exact ⟨h1, ρ1, h2, h3 _ fun _ _ h => h⟩) he
def nxO (Z : Env → S → Prop) : Out → S → Prop
  | .nx ρ, s => Z ρ s
  | _, _ => False
@[simp ↓] theorem nxO_nx {Z : Env → S → Prop} {ρ : Env} {s : S} : nxO Z (.nx ρ) s = Z ρ s := rfl
/-- what holds behind a statement -/
theorem w_mid {P : Prog} {C : Call} {c : St} {r : Sts} {ρ : Env} {s : S} {q : Kn Out} (Q : Env → S → Prop) (h1 : ∀ Z : Env → S → Prop, (∀ ρ s, Q ρ s → Z ρ s) → @W _ (evalS P C c ρ) s ⟨nxO Z⟩) (h2 : ∀ ρ' s', Q ρ' s' → W (evalSs P C r ρ') s') : W (evalSs P C (.cons c r) ρ) s := by
  refine ws_cons.mpr (w_use (h1 Q fun _ _ h => h) fun o s' h => ?_)
  cases o with
  | nx ρ => exact h2 ρ s' h
  | rt v => exact h.elim
  | bk ρ => exact h.elim
  | ct ρ => exact h.elim
/-- a value, told by a word -/
theorem w_val {α : Type} {m : M α} {s : S} {q : Kn α} (Q : α → S → Prop) (h1 : ∀ Z : α → S → Prop, (∀ a s, Q a s → Z a s) → @W _ m s ⟨Z⟩) (h2 : ∀ a s', Q a s' → q.k a s') : W m s :=
  w_use (h1 Q fun _ _ h => h) h2
end Mini
set_option linter.all false
set_option maxRecDepth 100000
namespace HD
open PySem PySem.Spec Mini
abbrev n_is_integer : Nat := 0
abbrev n_is_within : Nat := 1
abbrev n_is_tuple : Nat := 2
abbrev n_is_lot : Nat := 3
abbrev n_is_form : Nat := 4
abbrev n_report_in : Nat := 5
abbrev n_fault_in : Nat := 6
abbrev n_box_in : Nat := 7
abbrev n_check_fault : Nat := 8
abbrev n_check_report : Nat := 9
abbrev n_held : Nat := 10
abbrev n_agreeing : Nat := 11
abbrev n_all_faults : Nat := 12
abbrev n_are_rules : Nat := 13
abbrev n_is_lawful : Nat := 14
abbrev n_listed : Nat := 15
abbrev n_faults : Nat := 16
abbrev n_lawful : Nat := 17
abbrev n_broken : Nat := 18
abbrev n_first_for : Nat := 19
abbrev n_can_be : Nat := 20
abbrev n__law_hand : Nat := 21
abbrev n__law_draw : Nat := 22
abbrev n__law_any : Nat := 23
abbrev n__law_form : Nat := 24
abbrev n__law_faults : Nat := 25
abbrev n__law_box : Nat := 26
abbrev n__law_held : Nat := 27
abbrev n__law_rules : Nat := 28
abbrev n__law_report : Nat := 29
abbrev n__law_agrees : Nat := 30
abbrev n__law_flag : Nat := 31
abbrev n__law_numbers : Nat := 32
abbrev n__law_is_equal_right : Nat := 33
abbrev n__law_looks_right : Nat := 34
abbrev n__law_known_right : Nat := 35
abbrev n_law : Nat := 36
abbrev n_Book_init : Nat := 37
abbrev n_Book_eq : Nat := 38
-- 0: is_integer#fd38 (thing) locals ['thing']
def f_is_integer : Fd := ⟨"is_integer", ["thing"], ["thing"], (.cons (.ret (.and (.isi (.v 0) [.int]) (.not (.isi (.v 0) [.bool])))) .nil)⟩
-- 1: is_within#5f4d (thing, low, high) locals ['thing', 'low', 'high']
def f_is_within : Fd := ⟨"is_within", ["thing", "low", "high"], ["thing", "low", "high"], (.cons (.ret (.and (.call n_is_integer (.cons (.v 0) .nil)) (.chn .le .le (.v 1) (.v 0) (.v 2)))) .nil)⟩
-- 2: is_tuple#82fc (thing, least, most) locals ['thing', 'least', 'most']
def f_is_tuple : Fd := ⟨"is_tuple", ["thing", "least", "most"], ["thing", "least", "most"], (.cons (.ret (.and (.isi (.v 0) [.tuple]) (.chn .le .le (.v 1) (.bi .len (.cons (.v 0) .nil)) (.v 2)))) .nil)⟩
-- 3: is_lot#4410 (thing, many) locals ['thing', 'many', 'one', 'other']
def f_is_lot : Fd := ⟨"is_lot", ["thing", "many"], ["thing", "many", "one", "other"], (.cons (.ifs (.or (.not (.isi (.v 0) [.tuple])) (.not (.bi .all (.cons (.lc (.v 2) (.v 0) (.k (.bl true)) (.call n_is_within (.cons (.v 2) (.cons (.k (.int 0)) (.cons (.bin .sub (.v 1) (.k (.int 1))) .nil)))) [2]) .nil)))) (.cons (.ret (.k (.bl false))) .nil) .nil) (.cons (.ret (.bi .all (.cons (.lc (.p [2, 3]) (.zip (.v 0) (.sl (.v 0) (.k (.int 1)) (.k .non))) (.k (.bl true)) (.cmp .lt (.v 2) (.v 3)) [2, 3]) .nil))) .nil))⟩
-- 4: is_form#8a49 (thing) locals ['thing', 'product', 'many']
def f_is_form : Fd := ⟨"is_form", ["thing"], ["thing", "product", "many"], (.cons (.ifs (.or (.not (.call n_is_tuple (.cons (.v 0) (.cons (.k (.int 1)) (.cons (.k (.int 8)) .nil))))) (.not (.bi .all (.cons (.lc (.v 2) (.v 0) (.k (.bl true)) (.call n_is_within (.cons (.v 2) (.cons (.k (.int 2)) (.cons (.k (.int 6)) .nil)))) [2]) .nil)))) (.cons (.ret (.k (.bl false))) .nil) .nil) (.cons (.asg 1 (.k (.int 1))) (.cons (.for_ (.v 2) (.v 0) (.cons (.asg 1 (.bin .mul (.v 1) (.v 2))) .nil)) (.cons (.ret (.cmp .le (.v 1) (.gl 0))) .nil))))⟩
-- 5: report_in#843b (form, thing) locals ['form', 'thing', 'value', 'many']
def f_report_in : Fd := ⟨"report_in", ["form", "thing"], ["form", "thing", "value", "many"], (.cons (.ifs (.not (.call n_is_tuple (.cons (.v 1) (.cons (.bi .len (.cons (.v 0) .nil)) (.cons (.bi .len (.cons (.v 0) .nil)) .nil))))) (.cons (.ret (.k (.bl false))) .nil) .nil) (.cons (.ret (.bi .all (.cons (.lc (.p [2, 3]) (.zip (.v 1) (.v 0)) (.k (.bl true)) (.or (.cmp .is_ (.v 2) (.k .non)) (.call n_is_within (.cons (.v 2) (.cons (.k (.int 0)) (.cons (.bin .sub (.v 3) (.k (.int 1))) .nil))))) [2, 3]) .nil))) .nil))⟩
-- 6: fault_in#827f (form, thing) locals ['form', 'thing']
def f_fault_in : Fd := ⟨"fault_in", ["form", "thing"], ["form", "thing"], (.cons (.ret (.and (.call n_report_in (.cons (.v 0) (.cons (.v 1) .nil))) (.cmp .notin (.k .non) (.v 1)))) .nil)⟩
-- 7: box_in#8d11 (form, thing) locals ['form', 'thing', 'lot', 'many']
def f_box_in : Fd := ⟨"box_in", ["form", "thing"], ["form", "thing", "lot", "many"], (.cons (.ifs (.not (.call n_is_tuple (.cons (.v 1) (.cons (.bi .len (.cons (.v 0) .nil)) (.cons (.bi .len (.cons (.v 0) .nil)) .nil))))) (.cons (.ret (.k (.bl false))) .nil) .nil) (.cons (.ret (.bi .all (.cons (.lc (.p [2, 3]) (.zip (.v 1) (.v 0)) (.k (.bl true)) (.and (.call n_is_lot (.cons (.v 2) (.cons (.v 3) .nil))) (.cmp .gt (.bi .len (.cons (.v 2) .nil)) (.k (.int 0)))) [2, 3]) .nil))) .nil))⟩
-- 8: check_fault#9243 (form, fault) locals ['form', 'fault']
def f_check_fault : Fd := ⟨"check_fault", ["form", "fault"], ["form", "fault"], (.cons (.ifs (.not (.call n_fault_in (.cons (.v 0) (.cons (.v 1) .nil)))) (.cons (.never) .nil) .nil) .nil)⟩
-- 9: check_report#eb0c (form, report) locals ['form', 'report']
def f_check_report : Fd := ⟨"check_report", ["form", "report"], ["form", "report"], (.cons (.ifs (.not (.call n_report_in (.cons (.v 0) (.cons (.v 1) .nil)))) (.cons (.never) .nil) .nil) .nil)⟩
-- 10: held#34a1 (box, fault) locals ['box', 'fault', 'lot', 'value']
def f_held : Fd := ⟨"held", ["box", "fault"], ["box", "fault", "lot", "value"], (.cons (.ret (.bi .all (.cons (.lc (.p [2, 3]) (.zip (.v 0) (.v 1)) (.k (.bl true)) (.cmp .in_ (.v 3) (.v 2)) [2, 3]) .nil))) .nil)⟩
-- 11: agreeing#eabd (report, fault) locals ['report', 'fault', 'said', 'value']
def f_agreeing : Fd := ⟨"agreeing", ["report", "fault"], ["report", "fault", "said", "value"], (.cons (.ret (.bi .all (.cons (.lc (.p [2, 3]) (.zip (.v 0) (.v 1)) (.k (.bl true)) (.or (.cmp .is_ (.v 2) (.k .non)) (.cmp .eq (.v 2) (.v 3))) [2, 3]) .nil))) .nil)⟩
-- 12: all_faults#12c7 (form) locals ['form', 'found', 'many', 'longer', 'fault', 'value']
def f_all_faults : Fd := ⟨"all_faults", ["form"], ["form", "found", "many", "longer", "fault", "value"], (.cons (.asg 1 (.lst (.cons (.tup .nil) .nil))) (.cons (.for_ (.v 2) (.v 0) (.cons (.asg 3 (.lst .nil)) (.cons (.for_ (.v 4) (.v 1) (.cons (.ext 3 (.lc (.v 5) (.rng (.k (.int 0)) (.v 2)) (.k (.bl true)) (.bin .add (.v 4) (.tup (.cons (.v 5) .nil))) [5])) .nil)) (.cons (.mv 1 3) .nil)))) (.cons (.retm 1) .nil)))⟩
-- 13: are_rules#012d (form, thing) locals ['form', 'thing', 'box']
def f_are_rules : Fd := ⟨"are_rules", ["form", "thing"], ["form", "thing", "box"], (.cons (.ret (.and (.isi (.v 1) [.tuple]) (.bi .all (.cons (.lc (.v 2) (.v 1) (.k (.bl true)) (.call n_box_in (.cons (.v 0) (.cons (.v 2) .nil))) [2]) .nil)))) .nil)⟩
-- 14: is_lawful#f639 (book, fault) locals ['book', 'fault', 'rule']
def f_is_lawful : Fd := ⟨"is_lawful", ["book", "fault"], ["book", "fault", "rule"], (.cons (.ret (.not (.bi .any (.cons (.lc (.v 2) (.fld (.v 0) "rules") (.k (.bl true)) (.call n_held (.cons (.v 2) (.cons (.v 1) .nil))) [2]) .nil)))) .nil)⟩
-- 15: listed#60e7 (book) locals ['book', 'fault']
def f_listed : Fd := ⟨"listed", ["book"], ["book", "fault"], (.cons (.ifs (.cmp .is_ (.fld (.v 0) "listed") (.k .non)) (.cons (.fst (.v 0) "listed" (.lc (.v 1) (.call n_all_faults (.cons (.fld (.v 0) "form") .nil)) (.call n_is_lawful (.cons (.v 0) (.cons (.v 1) .nil))) (.v 1) [1])) .nil) .nil) (.cons (.ret (.fld (.v 0) "listed")) .nil))⟩
-- 16: faults#0bc9 (book) locals ['book']
def f_faults : Fd := ⟨"faults", ["book"], ["book"], (.cons (.ret (.bi .list (.cons (.call n_listed (.cons (.v 0) .nil)) .nil))) .nil)⟩
-- 17: lawful#24f6 (book, fault) locals ['book', 'fault']
def f_lawful : Fd := ⟨"lawful", ["book", "fault"], ["book", "fault"], (.cons (.ex (.call n_check_fault (.cons (.fld (.v 0) "form") (.cons (.v 1) .nil)))) (.cons (.ret (.call n_is_lawful (.cons (.v 0) (.cons (.v 1) .nil)))) .nil))⟩
-- 18: broken#c8d5 (book, fault) locals ['book', 'fault', 'number', 'rule']
def f_broken : Fd := ⟨"broken", ["book", "fault"], ["book", "fault", "number", "rule"], (.cons (.ex (.call n_check_fault (.cons (.fld (.v 0) "form") (.cons (.v 1) .nil)))) (.cons (.ret (.bi .tuple (.cons (.lc (.p [2, 3]) (.enum (.fld (.v 0) "rules")) (.call n_held (.cons (.v 3) (.cons (.v 1) .nil))) (.v 2) [2, 3]) .nil))) .nil))⟩
-- 19: first_for#7630 (book, report) locals ['book', 'report', 'fault']
def f_first_for : Fd := ⟨"first_for", ["book", "report"], ["book", "report", "fault"], (.cons (.for_ (.v 2) (.call n_listed (.cons (.v 0) .nil)) (.cons (.ifs (.call n_agreeing (.cons (.v 1) (.cons (.v 2) .nil))) (.cons (.retm 2) .nil) .nil) .nil)) (.cons (.ret (.k .non)) .nil))⟩
-- 20: can_be#5b0e (book, report) locals ['book', 'report']
def f_can_be : Fd := ⟨"can_be", ["book", "report"], ["book", "report"], (.cons (.ex (.call n_check_report (.cons (.fld (.v 0) "form") (.cons (.v 1) .nil)))) (.cons (.ret (.cmp .isnot (.call n_first_for (.cons (.v 0) (.cons (.v 1) .nil))) (.k .non))) .nil))⟩
-- 21: _law_hand#28a5 (script) locals ['script', 'cells', 'cell']
def f__law_hand : Fd := ⟨"_law_hand", ["script"], ["script", "cells", "cell"], (.cons (.asg 1 (.mat (.lc (.v 2) (.sl (.v 0) (.k .non) (.k (.int 63))) (.k (.bl true)) (.bi .abs (.cons (.bi .int (.cons (.v 2) .nil)) .nil)) [2]))) (.cons (.ret (.lst (.cons (.v 1) (.cons (.k (.int 0)) (.cons (.k (.int 0)) (.cons (.bin .add (.k (.int 5)) (.bi .len (.cons (.v 1) .nil))) (.cons (.k (.int 0)) .nil))))))) .nil))⟩
-- 22: _law_draw#29e9 (hand, many) locals ['hand', 'many', 'number', 'cell', 'digit']
def f__law_draw : Fd := ⟨"_law_draw", ["hand", "many"], ["hand", "many", "number", "cell", "digit"], (.cons (.ifs (.and (.cmp .eq (.ix (.v 0) (.k (.int 2))) (.k (.int 0))) (.cmp .lt (.ix (.v 0) (.k (.int 1))) (.bi .len (.cons (.ix (.v 0) (.k (.int 0))) .nil)))) (.cons (.asg 3 (.ix (.ix (.v 0) (.k (.int 0))) (.ix (.v 0) (.k (.int 1))))) (.cons (.sub (.v 0) (.k (.int 1)) (.bin .add (.ix (.v 0) (.k (.int 1))) (.k (.int 1)))) (.cons (.sub (.v 0) (.k (.int 3)) (.bin .mod (.bi .int (.cons (.bin .add (.bin .add (.bin .mul (.ix (.v 0) (.k (.int 3))) (.k (.int 69621))) (.v 3)) (.k (.int 11))) .nil)) (.k (.int 2147483629)))) (.cons (.ifs (.cmp .ge (.v 3) (.bin .pow (.k (.int 10)) (.k (.int 18)))) (.cons (.sub (.v 0) (.k (.int 2)) (.v 3)) .nil) .nil) .nil)))) .nil) (.cons (.ifs (.cmp .gt (.ix (.v 0) (.k (.int 2))) (.k (.int 0))) (.cons (.asg 4 (.bin .mod (.bi .int (.cons (.ix (.v 0) (.k (.int 2))) .nil)) (.v 1))) (.cons (.sub (.v 0) (.k (.int 2)) (.bin .fdiv (.ix (.v 0) (.k (.int 2))) (.v 1))) (.cons (.retm 4) .nil))) .nil) (.cons (.sub (.v 0) (.k (.int 4)) (.bin .add (.ix (.v 0) (.k (.int 4))) (.k (.int 1)))) (.cons (.asg 2 (.bin .mod (.bi .int (.cons (.bin .mul (.bi .int (.cons (.bin .add (.ix (.v 0) (.k (.int 3))) (.bin .mul (.k (.int 7919)) (.ix (.v 0) (.k (.int 4))))) .nil)) (.k (.int 48271))) .nil)) (.k (.int 2147483647)))) (.cons (.asg 2 (.bin .mod (.bi .int (.cons (.bin .mul (.v 2) (.bin .add (.bin .fdiv (.v 2) (.k (.int 1009))) (.k (.int 69621)))) .nil)) (.k (.int 2147483647)))) (.cons (.asg 2 (.bin .mod (.bi .int (.cons (.bin .mul (.v 2) (.bin .add (.bin .fdiv (.v 2) (.k (.int 2003))) (.k (.int 40692)))) .nil)) (.k (.int 2147483399)))) (.cons (.ret (.bin .mod (.bi .int (.cons (.bin .fdiv (.v 2) (.k (.int 16))) .nil)) (.v 1))) .nil)))))))⟩
-- 23: _law_any#d71a (hand, some) locals ['hand', 'some']
def f__law_any : Fd := ⟨"_law_any", ["hand", "some"], ["hand", "some"], (.cons (.ret (.ix (.v 1) (.call n__law_draw (.cons (.v 0) (.cons (.bi .len (.cons (.v 1) .nil)) .nil))))) .nil)⟩
-- 24: _law_form#6c6f (hand, most) locals ['hand', 'most', 'turn', 'found', 'many', 'size']
def f__law_form : Fd := ⟨"_law_form", ["hand", "most"], ["hand", "most", "turn", "found", "many", "size"], (.cons (.asgT [3, 4] (.tup (.cons (.tup .nil) (.cons (.k (.int 1)) .nil)))) (.cons (.for_ (.v 2) (.rng (.k (.int 0)) (.bin .add (.k (.int 1)) (.call n__law_draw (.cons (.v 0) (.cons (.k (.int 8)) .nil))))) (.cons (.asg 5 (.mat (.bin .add (.k (.int 2)) (.call n__law_draw (.cons (.v 0) (.cons (.k (.int 5)) .nil)))))) (.cons (.ifs (.cmp .le (.bin .mul (.v 4) (.v 5)) (.v 1)) (.cons (.par 3 4 (.bin .add (.v 3) (.tup (.cons (.v 5) .nil))) (.bin .mul (.v 4) (.v 5))) .nil) .nil) .nil))) (.cons (.ret (.ite (.cmp .gt (.bi .len (.cons (.v 3) .nil)) (.k (.int 0))) (.v 3) (.tup (.cons (.k (.int 2)) .nil)))) .nil)))⟩
-- 25: _law_faults#8547 (form) locals ['form', 'found', 'size', 'longer', 'row', 'value']
def f__law_faults : Fd := ⟨"_law_faults", ["form"], ["form", "found", "size", "longer", "row", "value"], (.cons (.asg 1 (.lst (.cons (.tup .nil) .nil))) (.cons (.for_ (.v 2) (.v 0) (.cons (.asg 3 (.lst .nil)) (.cons (.for_ (.v 4) (.v 1) (.cons (.ext 3 (.lc (.v 5) (.rng (.k (.int 0)) (.v 2)) (.k (.bl true)) (.bin .add (.v 4) (.tup (.cons (.v 5) .nil))) [5])) .nil)) (.cons (.mv 1 3) .nil)))) (.cons (.retm 1) .nil)))⟩
-- 26: _law_box#3bcc (hand, form, wide) locals ['hand', 'form', 'wide', 'found', 'size', 'lot', 'value']
def f__law_box : Fd := ⟨"_law_box", ["hand", "form", "wide"], ["hand", "form", "wide", "found", "size", "lot", "value"], (.cons (.asg 3 (.tup .nil)) (.cons (.for_ (.v 4) (.v 1) (.cons (.asg 5 (.bi .tuple (.cons (.rng (.k (.int 0)) (.v 4)) .nil))) (.cons (.ifs (.cmp .ge (.call n__law_draw (.cons (.v 0) (.cons (.k (.int 8)) .nil))) (.v 2)) (.cons (.asg 5 (.bi .tuple (.cons (.lc (.v 6) (.rng (.k (.int 0)) (.v 4)) (.cmp .eq (.call n__law_draw (.cons (.v 0) (.cons (.k (.int 2)) .nil))) (.k (.int 0))) (.v 6) [6]) .nil))) .nil) .nil) (.cons (.asg 3 (.bin .add (.v 3) (.tup (.cons (.ite (.cmp .gt (.bi .len (.cons (.v 5) .nil)) (.k (.int 0))) (.v 5) (.tup (.cons (.call n__law_draw (.cons (.v 0) (.cons (.v 4) .nil))) .nil))) .nil)))) .nil)))) (.cons (.retm 3) .nil)))⟩
-- 27: _law_held#723b (box, fault) locals ['box', 'fault', 'lot', 'value']
def f__law_held : Fd := ⟨"_law_held", ["box", "fault"], ["box", "fault", "lot", "value"], (.cons (.ret (.bi .all (.cons (.lc (.p [2, 3]) (.zip (.v 0) (.v 1)) (.k (.bl true)) (.cmp .in_ (.v 3) (.v 2)) [2, 3]) .nil))) .nil)⟩
-- 28: _law_rules#ed4b (hand, form) locals ['hand', 'form', 'many', 'wide', 'found', 'turn', 'box']
def f__law_rules : Fd := ⟨"_law_rules", ["hand", "form"], ["hand", "form", "many", "wide", "found", "turn", "box"], (.cons (.asg 2 (.call n__law_any (.cons (.v 0) (.cons (.lst (.cons (.k (.int 0)) (.cons (.k (.int 1)) (.cons (.k (.int 2)) (.cons (.k (.int 3)) (.cons (.k (.int 4)) (.cons (.k (.int 5)) (.cons (.k (.int 6)) (.cons (.k (.int 8)) (.cons (.ix (.lst (.cons (.k (.int 8)) (.cons (.k (.int 40)) .nil))) (.bi .int (.cons (.cmp .eq (.call n__law_draw (.cons (.v 0) (.cons (.k (.int 8)) .nil))) (.k (.int 0))) .nil))) .nil)))))))))) .nil)))) (.cons (.asg 3 (.call n__law_any (.cons (.v 0) (.cons (.lst (.cons (.k (.int 2)) (.cons (.k (.int 4)) (.cons (.k (.int 5)) (.cons (.k (.int 6)) .nil))))) .nil)))) (.cons (.asg 4 (.tup .nil)) (.cons (.for_ (.v 5) (.rng (.k (.int 0)) (.v 2)) (.cons (.asg 6 (.mat (.call n__law_box (.cons (.v 0) (.cons (.v 1) (.cons (.v 3) .nil)))))) (.cons (.ifs (.and (.cmp .gt (.v 5) (.k (.int 0))) (.cmp .eq (.call n__law_draw (.cons (.v 0) (.cons (.k (.int 12)) .nil))) (.k (.int 0)))) (.cons (.asg 6 (.mat (.call n__law_any (.cons (.v 0) (.cons (.v 4) .nil))))) .nil) .nil) (.cons (.asg 4 (.bin .add (.v 4) (.tup (.cons (.v 6) .nil)))) .nil)))) (.cons (.retm 4) .nil)))))⟩
-- 29: _law_report#25e2 (hand, form, most) locals ['hand', 'form', 'most', 'size']
def f__law_report : Fd := ⟨"_law_report", ["hand", "form", "most"], ["hand", "form", "most", "size"], (.cons (.ret (.bi .tuple (.cons (.lc (.v 3) (.v 1) (.k (.bl true)) (.ite (.cmp .lt (.call n__law_draw (.cons (.v 0) (.cons (.k (.int 8)) .nil))) (.v 2)) (.call n__law_draw (.cons (.v 0) (.cons (.v 3) .nil))) (.k .non)) [3]) .nil))) .nil)⟩
-- 30: _law_agrees#39bb (report, fault) locals ['report', 'fault', 'said', 'value']
def f__law_agrees : Fd := ⟨"_law_agrees", ["report", "fault"], ["report", "fault", "said", "value"], (.cons (.ret (.bi .all (.cons (.lc (.p [2, 3]) (.zip (.v 0) (.v 1)) (.k (.bl true)) (.or (.cmp .is_ (.v 2) (.k .non)) (.cmp .eq (.v 2) (.v 3))) [2, 3]) .nil))) .nil)⟩
-- 31: _law_flag#351a (told, due) locals ['told', 'due']
def f__law_flag : Fd := ⟨"_law_flag", ["told", "due"], ["told", "due"], (.cons (.ret (.and (.isi (.v 0) [.bool]) (.cmp .eq (.v 0) (.v 1)))) .nil)⟩
-- 32: _law_numbers#dc9a (rules, fault) locals ['rules', 'fault', 'number', 'rule']
def f__law_numbers : Fd := ⟨"_law_numbers", ["rules", "fault"], ["rules", "fault", "number", "rule"], (.cons (.ret (.bi .tuple (.cons (.lc (.p [2, 3]) (.enum (.v 0)) (.call n__law_held (.cons (.v 3) (.cons (.v 1) .nil))) (.v 2) [2, 3]) .nil))) .nil)⟩
-- 33: _law_is_equal_right#53ec (hand, form, rules) locals ['hand', 'form', 'rules', 'things', 'more', 'others', 'other', 'book', 'again', 'at', 'one', 'thing', 'rule']
def f__law_is_equal_right : Fd := ⟨"_law_is_equal_right", ["hand", "form", "rules"], ["hand", "form", "rules", "things", "more", "others", "other", "book", "again", "at", "one", "thing", "rule"], (.cons (.asgT [7, 8] (.tup (.cons (.mk 0 (.cons (.v 1) (.cons (.v 2) .nil))) (.cons (.mk 0 (.cons (.bi .tuple (.cons (.bi .list (.cons (.v 1) .nil)) .nil)) (.cons (.bi .tuple (.cons (.lc (.v 12) (.v 2) (.k (.bl true)) (.bi .tuple (.cons (.bi .list (.cons (.v 12) .nil)) .nil)) [12]) .nil)) .nil))) .nil)))) (.cons (.ifs (.or (.cmp .ne (.fld (.v 7) "form") (.v 1)) (.or (.cmp .ne (.fld (.v 7) "rules") (.v 2)) (.not (.isi (.fld (.v 7) "form") [.tuple])))) (.cons (.ret (.k (.bl false))) .nil) .nil) (.cons (.ifs (.or (.not (.isi (.fld (.v 7) "rules") [.tuple])) (.not (.bi .all (.cons (.lc (.v 12) (.fld (.v 7) "rules") (.k (.bl true)) (.isi (.v 12) [.tuple]) [12]) .nil)))) (.cons (.ret (.k (.bl false))) .nil) .nil) (.cons (.asg 3 (.lst (.cons (.tup (.cons (.v 1) (.cons (.v 2) .nil))) (.cons (.v 2) (.cons (.v 1) (.cons (.k .non) (.cons (.k (.int 0)) (.cons (.k (.str "book")) (.cons (.lst (.cons (.v 1) (.cons (.v 2) .nil))) .nil))))))))) (.cons (.ifs (.or (.not (.eqo false (.v 7) (.v 8))) (.or (.eqo true (.v 7) (.v 8)) (.bi .any (.cons (.lc (.v 11) (.v 3) (.k (.bl true)) (.or (.eqo false (.v 7) (.v 11)) (.not (.eqo true (.v 7) (.v 11)))) [11]) .nil)))) (.cons (.ret (.k (.bl false))) .nil) .nil) (.cons (.asg 4 (.mat (.call n__law_box (.cons (.v 0) (.cons (.v 1) (.cons (.k (.int 4)) .nil)))))) (.cons (.asg 5 (.lst (.cons (.bin .add (.v 2) (.tup (.cons (.v 4) .nil))) (.cons (.sl (.v 2) (.k (.int 1)) (.k .non)) (.cons (.rev (.v 2)) (.cons (.sl (.v 2) (.k .non) (.neg (.k (.int 1)))) .nil)))))) (.cons (.ifs (.cmp .gt (.bi .len (.cons (.v 2) .nil)) (.k (.int 0))) (.cons (.asg 9 (.call n__law_draw (.cons (.v 0) (.cons (.bi .len (.cons (.v 2) .nil)) .nil)))) (.cons (.ext 5 (.lst (.cons (.bin .add (.bin .add (.sl (.v 2) (.k .non) (.v 9)) (.tup (.cons (.v 4) .nil))) (.sl (.v 2) (.bin .add (.v 9) (.k (.int 1))) (.k .non))) (.cons (.bin .add (.bin .add (.sl (.v 2) (.k .non) (.v 9)) (.sl (.v 2) (.v 9) (.bin .add (.v 9) (.k (.int 1))))) (.sl (.v 2) (.v 9) (.k .non))) .nil)))) .nil)) .nil) (.cons (.for_ (.v 6) (.v 5) (.cons (.ifs (.cmp .le (.bi .len (.cons (.v 6) .nil)) (.k (.int 40))) (.cons (.asg 10 (.mk 0 (.cons (.v 1) (.cons (.v 6) .nil)))) (.cons (.ifs (.or (.cmp .ne (.eqo false (.v 7) (.v 10)) (.cmp .eq (.v 6) (.v 2))) (.cmp .ne (.eqo true (.v 7) (.v 10)) (.cmp .ne (.v 6) (.v 2)))) (.cons (.ret (.k (.bl false))) .nil) .nil) .nil)) .nil) .nil)) (.cons (.asg 6 (.mat (.ite (.cmp .gt (.ix (.v 1) (.neg (.k (.int 1)))) (.k (.int 2))) (.bin .add (.sl (.v 1) (.k .non) (.neg (.k (.int 1)))) (.tup (.cons (.bin .sub (.ix (.v 1) (.neg (.k (.int 1)))) (.k (.int 1))) .nil))) (.sl (.v 1) (.k .non) (.neg (.k (.int 1))))))) (.cons (.asg 6 (.ite (.cmp .gt (.bi .len (.cons (.v 6) .nil)) (.k (.int 0))) (.v 6) (.tup (.cons (.k (.int 3)) .nil)))) (.cons (.ret (.and (.eqo true (.mk 0 (.cons (.v 1) (.cons (.tup .nil) .nil))) (.mk 0 (.cons (.v 6) (.cons (.tup .nil) .nil)))) (.eqo false (.mk 0 (.cons (.v 1) (.cons (.tup .nil) .nil))) (.mk 0 (.cons (.v 1) (.cons (.tup .nil) .nil)))))) .nil))))))))))))⟩
-- 34: _law_looks_right#ace6 (hand, form, rules) locals ['hand', 'form', 'rules', 'due', 'told', 'turn', 'reports', 'report', 'book', 'every', 'fault', 'numbers', 'number']
def f__law_looks_right : Fd := ⟨"_law_looks_right", ["hand", "form", "rules"], ["hand", "form", "rules", "due", "told", "turn", "reports", "report", "book", "every", "fault", "numbers", "number"], (.cons (.par 8 9 (.mk 0 (.cons (.v 1) (.cons (.v 2) .nil))) (.call n__law_faults (.cons (.v 1) .nil))) (.cons (.asg 3 (.lc (.v 10) (.v 9) (.cmp .eq (.call n__law_numbers (.cons (.v 2) (.cons (.v 10) .nil))) (.tup .nil)) (.v 10) [10])) (.cons (.asg 4 (.mat (.call n_faults (.cons (.v 8) .nil)))) (.cons (.ifs (.or (.not (.isi (.v 4) [.list])) (.or (.cmp .ne (.v 4) (.v 3)) (.not (.bi .all (.cons (.lc (.v 10) (.v 4) (.k (.bl true)) (.isi (.v 10) [.tuple]) [10]) .nil))))) (.cons (.ret (.k (.bl false))) .nil) .nil) (.cons (.appo (.v 4) (.k .non)) (.cons (.sub (.v 4) (.k (.int 0)) (.k .non)) (.cons (.ifs (.cmp .ne (.call n_faults (.cons (.v 8) .nil)) (.v 3)) (.cons (.ret (.k (.bl false))) .nil) .nil) (.cons (.for_ (.v 5) (.rng (.k (.int 0)) (.k (.int 8))) (.cons (.asg 10 (.mat (.call n__law_any (.cons (.v 0) (.cons (.v 9) .nil))))) (.cons (.asg 11 (.call n_broken (.cons (.v 8) (.cons (.v 10) .nil)))) (.cons (.ifs (.or (.cmp .ne (.v 11) (.call n__law_numbers (.cons (.v 2) (.cons (.v 10) .nil)))) (.not (.isi (.v 11) [.tuple]))) (.cons (.ret (.k (.bl false))) .nil) .nil) (.cons (.ifs (.or (.bi .any (.cons (.lc (.v 12) (.v 11) (.k (.bl true)) (.isi (.v 12) [.bool]) [12]) .nil)) (.not (.call n__law_flag (.cons (.call n_lawful (.cons (.v 8) (.cons (.v 10) .nil))) (.cons (.cmp .eq (.v 11) (.tup .nil)) .nil))))) (.cons (.ret (.k (.bl false))) .nil) .nil) .nil))))) (.cons (.asg 6 (.lst (.cons (.bin .mul (.tup (.cons (.k .non) .nil)) (.bi .len (.cons (.v 1) .nil))) (.cons (.call n__law_any (.cons (.v 0) (.cons (.v 9) .nil))) .nil)))) (.cons (.ext 6 (.lc (.v 5) (.rng (.k (.int 0)) (.k (.int 7))) (.k (.bl true)) (.call n__law_report (.cons (.v 0) (.cons (.v 1) (.cons (.bin .add (.k (.int 1)) (.v 5)) .nil)))) [5])) (.cons (.for_ (.v 7) (.v 6) (.cons (.ifs (.not (.call n__law_flag (.cons (.call n_can_be (.cons (.v 8) (.cons (.v 7) .nil))) (.cons (.bi .any (.cons (.lc (.v 10) (.v 3) (.k (.bl true)) (.call n__law_agrees (.cons (.v 7) (.cons (.v 10) .nil))) [10]) .nil)) .nil)))) (.cons (.ret (.k (.bl false))) .nil) .nil) .nil)) (.cons (.ret (.k (.bl true))) .nil))))))))))))⟩
-- 35: _law_known_right#6fa0 () locals ['book', 'told', 'fault', 'flag']
def f__law_known_right : Fd := ⟨"_law_known_right", [], ["book", "told", "fault", "flag"], (.cons (.asg 0 (.mk 0 (.cons (.tup (.cons (.k (.int 2)) (.cons (.k (.int 2)) (.cons (.k (.int 3)) .nil)))) (.cons (.tup (.cons (.tup (.cons (.tup (.cons (.k (.int 0)) .nil)) (.cons (.tup (.cons (.k (.int 0)) (.cons (.k (.int 1)) .nil))) (.cons (.tup (.cons (.k (.int 0)) (.cons (.k (.int 1)) (.cons (.k (.int 2)) .nil)))) .nil)))) (.cons (.tup (.cons (.tup (.cons (.k (.int 0)) (.cons (.k (.int 1)) .nil))) (.cons (.tup (.cons (.k (.int 1)) .nil)) (.cons (.tup (.cons (.k (.int 0)) (.cons (.k (.int 1)) .nil))) .nil)))) (.cons (.tup (.cons (.tup (.cons (.k (.int 0)) .nil)) (.cons (.tup (.cons (.k (.int 1)) .nil)) (.cons (.tup (.cons (.k (.int 0)) (.cons (.k (.int 2)) .nil))) .nil)))) .nil)))) .nil)))) (.cons (.ifs (.or (.cmp .ne (.call n_faults (.cons (.v 0) .nil)) (.lst (.cons (.tup (.cons (.k (.int 1)) (.cons (.k (.int 0)) (.cons (.k (.int 0)) .nil)))) (.cons (.tup (.cons (.k (.int 1)) (.cons (.k (.int 0)) (.cons (.k (.int 1)) .nil)))) (.cons (.tup (.cons (.k (.int 1)) (.cons (.k (.int 0)) (.cons (.k (.int 2)) .nil)))) (.cons (.tup (.cons (.k (.int 1)) (.cons (.k (.int 1)) (.cons (.k (.int 2)) .nil)))) .nil)))))) (.cmp .ne (.call n_broken (.cons (.v 0) (.cons (.tup (.cons (.k (.int 0)) (.cons (.k (.int 1)) (.cons (.k (.int 0)) .nil)))) .nil))) (.tup (.cons (.k (.int 0)) (.cons (.k (.int 1)) (.cons (.k (.int 2)) .nil)))))) (.cons (.ret (.k (.bl false))) .nil) .nil) (.cons (.ifs (.cmp .ne (.lc (.v 2) (.lst (.cons (.tup (.cons (.k (.int 0)) (.cons (.k (.int 0)) (.cons (.k (.int 0)) .nil)))) (.cons (.tup (.cons (.k (.int 1)) (.cons (.k (.int 1)) (.cons (.k (.int 1)) .nil)))) (.cons (.tup (.cons (.k (.int 1)) (.cons (.k (.int 1)) (.cons (.k (.int 2)) .nil)))) .nil)))) (.k (.bl true)) (.call n_broken (.cons (.v 0) (.cons (.v 2) .nil))) [2]) (.lst (.cons (.tup (.cons (.k (.int 0)) .nil)) (.cons (.tup (.cons (.k (.int 1)) .nil)) (.cons (.tup .nil) .nil))))) (.cons (.ret (.k (.bl false))) .nil) .nil) (.cons (.asg 1 (.lst (.cons (.call n_lawful (.cons (.v 0) (.cons (.tup (.cons (.k (.int 1)) (.cons (.k (.int 1)) (.cons (.k (.int 2)) .nil)))) .nil))) (.cons (.call n_lawful (.cons (.v 0) (.cons (.tup (.cons (.k (.int 1)) (.cons (.k (.int 1)) (.cons (.k (.int 1)) .nil)))) .nil))) (.cons (.call n_can_be (.cons (.v 0) (.cons (.tup (.cons (.k .non) (.cons (.k (.int 1)) (.cons (.k .non) .nil)))) .nil))) (.cons (.call n_can_be (.cons (.v 0) (.cons (.tup (.cons (.k .non) (.cons (.k (.int 1)) (.cons (.k (.int 0)) .nil)))) .nil))) .nil)))))) (.cons (.ret (.and (.bi .all (.cons (.lc (.v 3) (.v 1) (.k (.bl true)) (.isi (.v 3) [.bool]) [3]) .nil)) (.cmp .eq (.v 1) (.lst (.cons (.k (.bl true)) (.cons (.k (.bl false)) (.cons (.k (.bl true)) (.cons (.k (.bl false)) .nil)))))))) .nil)))))⟩
-- 36: law#cd01 (script) locals ['script', 'hand', 'turn', 'great', 'most', 'form', 'rules']
def f_law : Fd := ⟨"law", ["script"], ["script", "hand", "turn", "great", "most", "form", "rules"], (.cons (.asg 1 (.mat (.call n__law_hand (.cons (.v 0) .nil)))) (.cons (.ifs (.not (.call n__law_known_right .nil)) (.cons (.ret (.k (.bl false))) .nil) .nil) (.cons (.for_ (.v 2) (.rng (.k (.int 0)) (.k (.int 3))) (.cons (.asg 3 (.bin .add (.bi .int (.cons (.cmp .eq (.call n__law_draw (.cons (.v 1) (.cons (.k (.int 6)) .nil))) (.k (.int 0))) .nil)) (.bi .int (.cons (.cmp .eq (.call n__law_draw (.cons (.v 1) (.cons (.k (.int 12)) .nil))) (.k (.int 0))) .nil)))) (.cons (.asg 4 (.call n__law_any (.cons (.v 1) (.cons (.lst (.cons (.k (.int 8)) (.cons (.k (.int 30)) (.cons (.k (.int 60)) (.cons (.k (.int 100)) (.cons (.k (.int 100)) (.cons (.ix (.lst (.cons (.k (.int 200)) (.cons (.k (.int 1000)) (.cons (.k (.int 4000)) .nil)))) (.v 3)) .nil))))))) .nil)))) (.cons (.asg 5 (.mat (.call n__law_form (.cons (.v 1) (.cons (.v 4) .nil))))) (.cons (.ifs (.and (.cmp .eq (.v 4) (.k (.int 4000))) (.cmp .eq (.call n__law_draw (.cons (.v 1) (.cons (.k (.int 2)) .nil))) (.k (.int 0)))) (.cons (.asg 5 (.mat (.call n__law_any (.cons (.v 1) (.cons (.lst (.cons (.tup (.cons (.k (.int 5)) (.cons (.k (.int 5)) (.cons (.k (.int 5)) (.cons (.k (.int 4)) (.cons (.k (.int 2)) (.cons (.k (.int 4)) .nil))))))) (.cons (.tup (.cons (.k (.int 4)) (.cons (.k (.int 5)) (.cons (.k (.int 2)) (.cons (.k (.int 5)) (.cons (.k (.int 4)) (.cons (.k (.int 5)) .nil))))))) (.cons (.tup (.cons (.k (.int 2)) (.cons (.k (.int 2)) (.cons (.k (.int 2)) (.cons (.k (.int 2)) (.cons (.k (.int 2)) (.cons (.k (.int 5)) (.cons (.k (.int 5)) (.cons (.k (.int 5)) .nil))))))))) .nil)))) .nil))))) .nil) .nil) (.cons (.asg 6 (.mat (.call n__law_rules (.cons (.v 1) (.cons (.v 5) .nil))))) (.cons (.ifs (.cmp .gt (.v 4) (.k (.int 200))) (.cons (.asg 6 (.mat (.sl (.v 6) (.k .non) (.k (.int 6))))) .nil) .nil) (.cons (.ifs (.or (.not (.call n__law_is_equal_right (.cons (.v 1) (.cons (.v 5) (.cons (.v 6) .nil))))) (.not (.call n__law_looks_right (.cons (.v 1) (.cons (.v 5) (.cons (.v 6) .nil)))))) (.cons (.ret (.k (.bl false))) .nil) .nil) .nil)))))))) (.cons (.ret (.k (.bl true))) .nil))))⟩
-- 37: Book_init#8dc2 (self, form, rules) locals ['self', 'form', 'rules']
def f_Book_init : Fd := ⟨"__init__", ["self", "form", "rules"], ["self", "form", "rules"], (.cons (.ifs (.not (.call n_is_form (.cons (.v 1) .nil))) (.cons (.never) .nil) .nil) (.cons (.ifs (.or (.not (.call n_are_rules (.cons (.v 1) (.cons (.v 2) .nil)))) (.not (.call n_is_tuple (.cons (.v 2) (.cons (.k (.int 0)) (.cons (.gl 1) .nil)))))) (.cons (.never) .nil) .nil) (.cons (.fsts (.cons (.v 0) (.cons (.v 0) .nil)) ["form", "rules"] (.tup (.cons (.v 1) (.cons (.v 2) .nil)))) (.cons (.fst (.v 0) "listed" (.k .non)) .nil))))⟩
-- 38: Book_eq#65f8 (self, other) locals ['self', 'other']
def f_Book_eq : Fd := ⟨"__eq__", ["self", "other"], ["self", "other"], (.cons (.ret (.and (.isc (.v 1) 0) (.cmp .eq (.tup (.cons (.fld (.v 0) "form") (.cons (.fld (.v 0) "rules") .nil))) (.tup (.cons (.fld (.v 1) "form") (.cons (.fld (.v 1) "rules") .nil)))))) .nil)⟩
def P : Prog := ⟨[f_is_integer, f_is_within, f_is_tuple, f_is_lot, f_is_form, f_report_in, f_fault_in, f_box_in, f_check_fault, f_check_report, f_held, f_agreeing, f_all_faults, f_are_rules, f_is_lawful, f_listed, f_faults, f_lawful, f_broken, f_first_for, f_can_be, f__law_hand, f__law_draw, f__law_any, f__law_form, f__law_faults, f__law_box, f__law_held, f__law_rules, f__law_report, f__law_agrees, f__law_flag, f__law_numbers, f__law_is_equal_right, f__law_looks_right, f__law_known_right, f_law, f_Book_init, f_Book_eq], [⟨"Book", 37, [(("__eq__" : Str), 38)], ["listed", "form", "rules"], []⟩], [(("MOST_FAULTS" : Str), .int (4000)), (("MOST_RULES" : Str), .int (40))], 1000000⟩
theorem g_MOST_FAULTS : P.consts[0]? = some (("MOST_FAULTS" : Str), .int (4000)) := rfl
theorem g_MOST_RULES : P.consts[1]? = some (("MOST_RULES" : Str), .int (40)) := rfl
theorem hf_Book_listed : hasF P 0 "listed" = true := by decide +kernel
theorem hf_Book_form : hasF P 0 "form" = true := by decide +kernel
theorem hf_Book_rules : hasF P 0 "rules" = true := by decide +kernel
end HD
set_option linter.all false
set_option autoImplicit false
set_option maxRecDepth 100000
namespace Pl
open PySem Mini
abbrev P := HD.P
local macro_rules | `(tactic| walk_at "go") => `(tactic| simp [szl, Mini.start, store, moveV, target, Mini.wipe, isNonK, isKnown, isTy])
theorem take_at {α : Type} {xs : List α} {i : Nat} {a : α} (h : xs[i]? = some a) : xs.take (i + 1) = xs.take i ++ [a] := by rw [List.take_add_one, h]; rfl
theorem tO_plain (o : Option Int) : plainT (tO o) = true := by cases o <;> rfl
@[simp] theorem tO_n : tO none = .non := rfl
@[simp] theorem tO_s {a : Int} : tO (some a) = .int a := rfl
/-- two defs of the same code -/
theorem same_call {l k k' : Nat} {fd fd' : Fd} {args : List TV} (h : P.fns[k]? = some fd) (h' : P.fns[k']? = some fd') (hb : fd.body = fd'.body) (hN : fd.N.length = fd'.N.length) (hp : fd.ps.length = fd'.ps.length) : callN P (l + 1) k args = callN P (l + 1) k' args := by
  show (match P.fns[k]? with
    | none => fail
    | some fd => if args.length = fd.ps.length then evalSs P (callN P l) fd.body (Mini.start fd args) >>= fin else fail) = (match P.fns[k']? with
    | none => fail
    | some fd => if args.length = fd.ps.length then evalSs P (callN P l) fd.body (Mini.start fd args) >>= fin else fail)
  rw [h, h']
  simp only [hb, hp]
  unfold Mini.start
  rw [hN]
/-- .. the items told as they stand -/
theorem w_lcT {tgt : T → Option Mini.Env} {tst : Mini.Env → M Bool} {elt : Mini.Env → M T} {g : S → Bool} {as : List T} {s : S} {q : Kn (List T)} (y : T → T) (hg : g s = true)
    (h : ∀ a ∈ as, ∃ ρ, tgt a = some ρ ∧ @W _ (tst ρ) s ⟨fun r s' => r = true ∧ s' = s⟩ ∧ @W _ (elt ρ) s ⟨fun v s' => v = y a ∧ s' = s⟩) (k : q.k (as.map y) s) : W (lcL tgt tst elt g as) s := by
  have := w_lcA (as := as) (j := id) (tgt := tgt) (tst := tst) (elt := elt) y hg h k
  rwa [List.map_id] at this
@[simp] theorem nk_neg {a : E} : isNonK (.neg a) = false := rfl
theorem cut_map {α β : Type} (f : α → β) (xs : List α) (lo hi : Option Int) : cut (xs.map f) lo hi = (cut xs lo hi).map f := by
  unfold cut
  simp only [List.length_map, List.map_take, List.map_drop]
theorem mem_cut {α : Type} {xs : List α} {lo hi : Option Int} {x : α} (h : x ∈ cut xs lo hi) : x ∈ xs := by
  unfold cut at h
  exact List.mem_of_mem_drop (List.mem_of_mem_take h)
theorem cut_len {α : Type} (xs : List α) (lo hi : Option Int) : (cut xs lo hi).length ≤ xs.length := by
  unfold cut
  simp only [List.length_take, List.length_drop]
  omega
/-- the items told as they stand, what is wanted kept out of sight -/
theorem w_forkT {tgt : T → Mini.Env → Option Mini.Env} {body : Mini.Env → M Out} {g : S → Bool} {q : Kn Out} {as : List T} {ρ : Mini.Env} {s : S} (Wd : Nat → Mini.Env → S → Prop) (h0 : Wd 0 ρ s)
    (h : ∀ i a ρ s, as[i]? = some a → Wd i ρ s → g s = true ∧ ∃ ρ1, tgt a ρ = some ρ1 ∧ ∀ Z : Mini.Env → S → Prop, (∀ ρ s, Wd (i + 1) ρ s → Z ρ s) → @W _ (body ρ1) s ⟨turn Z q⟩)
    (he : ∀ ρ s, Wd as.length ρ s → g s = true ∧ q.k (.nx ρ) s) : W (forL tgt body g as ρ) s := by
  have := w_fork (as := as) (j := id) (tgt := tgt) (body := body) (g := g) Wd h0 h he
  rwa [List.map_id] at this
@[simp] theorem cm_nebl {a b : Bool} : Mini.cmp .ne (.t (.bl a)) (.t (.bl b)) = pure (!(a == b)) := by
  funext s
  show (match (if SeqAt.shaped (.bool a) && SeqAt.shaped (.bool b) then Res.ok (PyData.eqv (.bool a) (.bool b)) s else .bad) with | .ok r s' => (pure (!r) : M Bool) s' | .exc e s' => .exc e s' | .bad => .bad) = _
  cases a <;> cases b <;> rfl
theorem atI_m1 {α : Type} (xs : List α) (a : α) : L2.atI (xs ++ [a]) (-1) = some a := by
  unfold L2.atI L2.ixN
  have e : (-1 + ((xs.length : Int) + 1)).toNat = xs.length := by omega
  simp [e, show (1 : Int) ≤ xs.length + 1 by omega]
theorem cut_m1 {α : Type} (xs : List α) (a : α) : cut (xs ++ [a]) none (some (-1)) = xs := by
  unfold cut HT.sIx
  have e : (-1 + ((xs.length : Int) + 1)).toNat = xs.length := by omega
  simp [e]

def LotOk (m : Int) (xs : List Int) : Prop := (∀ a ∈ xs, 0 ≤ a ∧ a ≤ m - 1) ∧ xs.Pairwise (· < ·) ∧ xs ≠ [] ∧ xs.length ≤ 1000
theorem pw_zip : ∀ {xs : List Int}, xs.Pairwise (· < ·) → ∀ p ∈ xs.zip xs.tail, p.1 < p.2
  | [], _, p, hp => by simp at hp
  | [x], _, p, hp => by simp at hp
  | x :: y :: r, h, p, hp => by
    simp at hp
    rcases hp with rfl | hp
    · exact (List.pairwise_cons.mp h).1 y (by simp)
    · exact pw_zip (List.pairwise_cons.mp h).2 p (by simpa using hp)
/-- a report fits a form -/
def RepOk (form : List Int) (r : List (Option Int)) : Prop := r.length = form.length ∧ form.length ≤ 1000 ∧ ∀ p ∈ r.zip form, ∀ a, p.1 = some a → 0 ≤ a ∧ a ≤ p.2 - 1
def BoxOk (form : List Int) (b : List (List Int)) : Prop := b.length = form.length ∧ form.length ≤ 1000 ∧ ∀ p ∈ b.zip form, LotOk p.2 p.1
def heldB (b : List (List Int)) (f : List Int) : Bool := (b.zip f).all fun p => p.1.any fun a => decide (a = p.2)
def agreeB (r : List (Option Int)) (f : List Int) : Bool := (r.zip f).all fun p => p.1.isNone || decide (p.1 = some p.2)
/-- all faults of a form -/
def stepF (acc : List (List Int)) (m : Int) : List (List Int) := acc.flatMap fun f => (List.range m.toNat).map fun (v : Nat) => f ++ [(v : Int)]
def faults (form : List Int) : List (List Int) := form.foldl stepF [[]]
def prodN (form : List Int) : Nat := form.foldl (fun p m => p * m.toNat) 1
theorem stepF_len (acc : List (List Int)) (m : Int) : (stepF acc m).length = acc.length * m.toNat := by
  unfold stepF
  induction acc with
  | nil => simp
  | cons a as ih => rw [List.flatMap_cons, List.length_append, ih]; simp [Nat.add_mul, Nat.add_comm]
theorem faults_snoc (xs : List Int) (m : Int) : faults (xs ++ [m]) = stepF (faults xs) m := by unfold faults; rw [List.foldl_append]; rfl
theorem prodN_snoc (xs : List Int) (m : Int) : prodN (xs ++ [m]) = prodN xs * m.toNat := by unfold prodN; rw [List.foldl_append]; rfl
theorem faults_len (form : List Int) : (faults form).length = prodN form := by
  induction form using snoc_ind with
  | h0 => rfl
  | h1 xs m ih => rw [faults_snoc, prodN_snoc, stepF_len, ih]
theorem stepF_snoc (acc : List (List Int)) (f : List Int) (m : Int) : stepF (acc ++ [f]) m = stepF acc m ++ (List.range m.toNat).map fun (v : Nat) => f ++ [(v : Int)] := by unfold stepF; rw [List.flatMap_append]; simp
theorem mem_stepF {acc : List (List Int)} {m : Int} {g : List Int} : g ∈ stepF acc m ↔ ∃ f ∈ acc, ∃ v : Nat, v < m.toNat ∧ g = f ++ [(v : Int)] := by
  unfold stepF
  constructor
  · intro h
    obtain ⟨f, hf, h⟩ := List.mem_flatMap.mp h
    obtain ⟨v, hv, rfl⟩ := List.mem_map.mp h
    exact ⟨f, hf, v, List.mem_range.mp hv, rfl⟩
  · rintro ⟨f, hf, v, hv, rfl⟩
    exact List.mem_flatMap.mpr ⟨f, hf, List.mem_map.mpr ⟨v, List.mem_range.mpr hv, rfl⟩⟩
theorem faults_flen (form : List Int) : ∀ f ∈ faults form, f.length = form.length := by
  induction form using snoc_ind with
  | h0 => intro f hf; rw [show f = [] by simpa [faults] using hf]
  | h1 xs m ih =>
    intro f hf
    rw [faults_snoc] at hf
    obtain ⟨g, hg, v, _, rfl⟩ := mem_stepF.mp hf
    simp [ih g hg]
theorem prodN_le (form : List Int) (h : ∀ m ∈ form, 1 ≤ m) : ∀ k, prodN (form.take k) ≤ prodN form := by
  have step : ∀ k, prodN (form.take k) ≤ prodN (form.take (k + 1)) := fun k => by
    by_cases hk : k < form.length
    · rw [take_at (List.getElem?_eq_getElem hk), prodN_snoc]
      have := h form[k] (List.getElem_mem hk)
      exact Nat.le_mul_of_pos_right _ (by omega)
    · rw [List.take_of_length_le (by omega : form.length ≤ k), List.take_of_length_le (by omega : form.length ≤ k + 1)]
      exact Nat.le_refl _
  have up : ∀ d k, prodN (form.take k) ≤ prodN (form.take (k + d)) := fun d => by
    induction d with
    | zero => exact fun k => Nat.le_refl _
    | succ d ih => exact fun k => Nat.le_trans (ih k) (step (k + d))
  intro k
  have := up form.length k
  rw [List.take_of_length_le (by omega : form.length ≤ k + form.length)] at this
  exact this
def FormOk (form : List Int) : Prop := 1 ≤ form.length ∧ form.length ≤ 8 ∧ (∀ m ∈ form, 2 ≤ m ∧ m ≤ 6) ∧ prodN form ≤ 4000
def prodI (form : List Int) : Int := form.foldl (fun p m => p * m) 1
theorem prodI_snoc (xs : List Int) (m : Int) : prodI (xs ++ [m]) = prodI xs * m := by unfold prodI; rw [List.foldl_append]; rfl
theorem prodI_N (form : List Int) : (∀ m ∈ form, 0 ≤ m) → prodI form = (prodN form : Int) := by
  induction form using snoc_ind with
  | h0 => intro _; rfl
  | h1 xs m ih =>
    intro h
    rw [prodI_snoc, prodN_snoc, ih fun m hm => h m (List.mem_append_left _ hm), Int.natCast_mul, Int.toNat_of_nonneg (h m (by simp))]
theorem zip_snoc' {α β : Type} : ∀ {xs : List α} {ys : List β} {x : α} {y : β}, xs.length = ys.length → (xs ++ [x]).zip (ys ++ [y]) = xs.zip ys ++ [(x, y)]
  | [], [], x, y, _ => rfl
  | a :: xs, b :: ys, x, y, h => by
    have := zip_snoc' (x := x) (y := y) (show xs.length = ys.length by simpa using h)
    simp [this]
theorem mem_faults (form : List Int) : ∀ f, f ∈ faults form ↔ f.length = form.length ∧ ∀ p ∈ f.zip form, 0 ≤ p.1 ∧ p.1 < p.2 := by
  induction form using snoc_ind with
  | h0 =>
    intro f
    simp [faults]
  | h1 xs m ih =>
    intro f
    rw [faults_snoc, mem_stepF]
    constructor
    · rintro ⟨g, hg, v, hv, rfl⟩
      obtain ⟨h1, h2⟩ := (ih g).mp hg
      refine ⟨by simp [h1], fun p hp => ?_⟩
      rw [zip_snoc' h1] at hp
      rcases List.mem_append.mp hp with hp | hp
      · exact h2 p hp
      · simp at hp; subst hp; exact ⟨by simp, by simp; omega⟩
    · rintro ⟨h1, h2⟩
      rcases List.eq_nil_or_concat f with rfl | ⟨g, v, rfl⟩
      · simp at h1
      · simp at h1
        simp only [List.concat_eq_append] at h2 ⊢
        rw [zip_snoc' h1] at h2
        have hv := h2 (v, m) (by simp)
        refine ⟨g, (ih g).mpr ⟨h1, fun p hp => h2 p (by simp [hp])⟩, v.toNat, by simp at hv; omega, ?_⟩
        simp at hv
        rw [Int.toNat_of_nonneg hv.1]
theorem zip_at {α β : Type} {xs : List α} {ys : List β} {i : Nat} {x : α} {y : β} (h : xs[i]? = some x) (k : ys[i]? = some y) : (x, y) ∈ xs.zip ys := by
  refine List.mem_of_getElem? (i := i) ?_
  rw [List.getElem?_zip_eq_some]
  exact ⟨h, k⟩
theorem rep_of_fault {form f : List Int} (hf : form.length ≤ 1000) (h : f ∈ faults form) : RepOk form (f.map some) := by
  obtain ⟨h1, h2⟩ := (mem_faults form f).mp h
  refine ⟨by simpa using h1, hf, fun p hp a ha => ?_⟩
  rw [List.zip_map_left] at hp
  obtain ⟨q, hq, rfl⟩ := List.mem_map.mp hp
  have := h2 q hq
  simp at ha
  subst ha
  simp
  omega
def lawfulB (rs : List (List (List Int))) (f : List Int) : Bool := !rs.any fun r => heldB r f
def allowedF (form : List Int) (rs : List (List (List Int))) : List (List Int) := (faults form).filter (lawfulB rs)
/-- what a told report is -/
def share (r : List (Option Int)) (f : List Int) : List (Option Int) := (r.zip f).map fun p => if p.1 = some p.2 then p.1 else none
def tT : Option (List (Option Int)) → T
  | none => .non
  | some r => tR r
def stepT (r : List (Option Int)) (acc : Option (List (Option Int))) (f : List Int) : Option (List (Option Int)) := if agreeB r f then (match acc with
  | none => some (f.map some)
  | some q => some (share q f)) else acc
def toldF (r : List (Option Int)) (fs : List (List Int)) : Option (List (Option Int)) := fs.foldl (stepT r) none
theorem toldF_snoc (r : List (Option Int)) (fs : List (List Int)) (f : List Int) : toldF r (fs ++ [f]) = stepT r (toldF r fs) f := by unfold toldF; rw [List.foldl_append]; rfl
theorem tI_tR (f : List Int) : tI f = tR (f.map some) := by simp [tI, tR, Function.comp_def, tO]
theorem toldF_len (r : List (Option Int)) (n : Nat) (fs : List (List Int)) : (∀ f ∈ fs, f.length = n) → ∀ q, toldF r fs = some q → q.length = n := by
  induction fs using snoc_ind with
  | h0 => intro _ q e; cases e
  | h1 fs f ih =>
    intro h q e
    rw [toldF_snoc] at e
    have hf := h f (by simp)
    have ih' := ih fun g hg => h g (List.mem_append_left _ hg)
    unfold stepT at e
    split at e
    · split at e
      · cases e; simpa using hf
      · rename_i p hp
        cases e
        have := ih' p hp
        simp [share, this, hf]
    · exact ih' q e
theorem allowed_ln {form f : List Int} {rs : List (List (List Int))} (h : f ∈ allowedF form rs) : f.length = form.length := faults_flen form f (List.mem_filter.mp h).1
def RulesOk (form : List Int) (rs : List (List (List Int))) : Prop := rs.length ≤ 40 ∧ ∀ b ∈ rs, BoxOk form b
theorem prodN_pos (xs : List Int) (h : ∀ m ∈ xs, 2 ≤ m) : 1 ≤ prodN xs := by
  induction xs using snoc_ind with
  | h0 => simp [prodN]
  | h1 xs m ih =>
    rw [prodN_snoc]
    have := ih fun m hm => h m (List.mem_append_left _ hm)
    have := h m (by simp)
    exact Nat.mul_pos (by omega) (by omega)

theorem is_integer_spec {l : Nat} (t : T) (h : plainT t = true) : callN P (l + 1) HD.n_is_integer [.t t] = pure (.t (.bl (isInt t))) := by
  cases t <;> first | rfl | cases h
theorem is_within_spec {l : Nat} (t : T) (h : plainT t = true) (lo hi : Int) : callN P (l + 2) HD.n_is_within [.t t, .t (.int lo), .t (.int hi)] = pure (.t (.bl (inB lo hi t))) := by
  refine w_pc (fd := HD.f_is_within) rfl rfl fun s => ?_
  simp [HD.f_is_within, Mini.start, is_integer_spec t h]
  cases t <;> simp [isInt, inB, w_ite]
  omega
theorem is_within_in {l : Nat} (v lo hi : Int) (h1 : lo ≤ v) (h2 : v ≤ hi) : callN P (l + 2) HD.n_is_within [.t (.int v), .t (.int lo), .t (.int hi)] = pure (.t (.bl true)) := by
  rw [is_within_spec _ rfl]
  simp [inB, h1, h2]
theorem is_tuple_spec {l : Nat} (xs : List T) (lo hi : Int) : callN P (l + 1) HD.n_is_tuple [.t (.tup xs), .t (.int lo), .t (.int hi)] = pure (.t (.bl (decide (lo ≤ xs.length) && decide ((xs.length : Int) ≤ hi)))) := by
  refine w_pc (fd := HD.f_is_tuple) rfl rfl fun s => ?_
  simp only [HD.f_is_tuple]
  walk_at "go"
  simp [w_ite]
  omega
theorem is_tuple_in {l : Nat} (xs : List T) (lo hi : Int) (h1 : lo ≤ xs.length) (h2 : (xs.length : Int) ≤ hi) : callN P (l + 1) HD.n_is_tuple [.t (.tup xs), .t (.int lo), .t (.int hi)] = pure (.t (.bl true)) := by
  rw [is_tuple_spec]
  simp [h1, h2]
theorem is_lot_spec {l : Nat} (xs : List Int) (m : Int) (h : LotOk m xs) : callN P (l + 3) HD.n_is_lot [.t (tI xs), .t (.int m)] = pure (.t (.bl true)) := by
  obtain ⟨h1, h2, h3, hl⟩ := h
  refine w_pc (fd := HD.f_is_lot) rfl rfl fun s => ?_
  simp only [HD.f_is_lot]
  walk_at "go"
  refine ⟨by omega, w_lcA (fun a => .bl true) rfl (fun a ha => ⟨_, rfl, by simp, ?_⟩) ?_⟩
  · have := h1 a ha
    simp [store, is_within_in a 0 (m - 1) this.1 this.2]
  simp only [List.map_map, kk_mk, ← List.map_drop]
  walk_at "go"
  rw [show (List.map T.int xs).tail = xs.tail.map T.int by simp, pairs_map]
  refine ⟨by simp; omega, w_lcA (fun a => .bl true) rfl (fun p hp => ⟨_, rfl, by simp, ?_⟩) ?_⟩
  · have := pw_zip h2 p hp
    walk_at "go"
    exact this
  · walk_at "go"
theorem report_in_spec {l : Nat} (form : List Int) (r : List (Option Int)) (h : RepOk form r) : callN P (l + 3) HD.n_report_in [.t (tI form), .t (tR r)] = pure (.t (.bl true)) := by
  obtain ⟨h1, h2, h3⟩ := h
  refine w_pc (fd := HD.f_report_in) rfl rfl fun s => ?_
  simp only [HD.f_report_in]
  walk_at "go"
  rw [is_tuple_in _ _ _ (by simp [h1]) (by simp [h1])]
  walk_at "go"
  refine ⟨by omega, w_lcA (fun a => .bl true) rfl (fun p hp => ⟨_, rfl, by simp, ?_⟩) ?_⟩
  · have q := h3 p hp
    obtain ⟨o, m⟩ := p
    cases o with
    | none => simp [store, target, tO]
    | some a =>
      have := q a rfl
      simp [store, target, tO, is_within_in a 0 (m - 1) this.1 this.2]
  · walk_at "go"
theorem box_in_spec {l : Nat} (form : List Int) (b : List (List Int)) (h : BoxOk form b) : callN P (l + 4) HD.n_box_in [.t (tI form), .t (tB b)] = pure (.t (.bl true)) := by
  obtain ⟨h1, h2, h3⟩ := h
  refine w_pc (fd := HD.f_box_in) rfl rfl fun s => ?_
  simp only [HD.f_box_in]
  walk_at "go"
  rw [is_tuple_in _ _ _ (by simp [h1]) (by simp [h1])]
  walk_at "go"
  refine ⟨by omega, w_lcA (fun a => .bl true) rfl (fun p hp => ⟨_, rfl, by simp, ?_⟩) ?_⟩
  · have q := h3 p hp
    obtain ⟨lot, m⟩ := p
    have ne : 0 < lot.length := List.length_pos_iff.mpr q.2.2.1
    simp [store, target, is_lot_spec lot m q, ne]
  · walk_at "go"
theorem check_report_spec {l : Nat} (form : List Int) (r : List (Option Int)) (h : RepOk form r) : callN P (l + 4) HD.n_check_report [.t (tI form), .t (tR r)] = pure (.t .non) := by
  refine w_pc (fd := HD.f_check_report) rfl rfl fun s => ?_
  simp [HD.f_check_report, Mini.start, report_in_spec form r h]
theorem held_spec {l : Nat} (b : List (List Int)) (f : List Int) (hl : b.length ≤ 1000) : callN P (l + 1) HD.n_held [.t (tB b), .t (tI f)] = pure (.t (.bl (heldB b f))) := by
  refine w_pc (fd := HD.f_held) rfl rfl fun s => ?_
  simp [HD.f_held, szl, Mini.start]
  refine ⟨by omega, w_lcA (fun p => .bl (p.1.any fun a => decide (a = p.2))) rfl (fun p _ => ⟨_, rfl, by simp, ?_⟩) ?_⟩
  · walk_at "go"
  · walk_at "go"
    simp [heldB]
theorem agreeing_spec {l : Nat} (r : List (Option Int)) (f : List Int) (hl : r.length ≤ 1000) : callN P (l + 1) HD.n_agreeing [.t (tR r), .t (tI f)] = pure (.t (.bl (agreeB r f))) := by
  refine w_pc (fd := HD.f_agreeing) rfl rfl fun s => ?_
  simp [HD.f_agreeing, szl, Mini.start]
  refine ⟨by omega, w_lcA (fun p => .bl (p.1.isNone || decide (p.1 = some p.2))) rfl (fun p _ => ⟨_, rfl, by simp, ?_⟩) ?_⟩
  · obtain ⟨o, v⟩ := p
    cases o <;> simp [store, target, tO, Mini.wipe]
  · walk_at "go"
    simp [agreeB]
theorem all_faults_spec {l : Nat} (form : List Int) (h : FormOk form) : callN P (l + 1) HD.n_all_faults [.t (tI form)] = pure (.l ((faults form).map tI)) := by
  obtain ⟨f1, f2, f3, f4⟩ := h
  have hp := prodN_le form fun m hm => by have := f3 m hm; omega
  refine w_pc (fd := HD.f_all_faults) rfl rfl fun s0 => ?_
  simp only [HD.f_all_faults]
  walk_at "go"
  refine w_for (fun i ρ s => s = s0 ∧ ∃ x2 x4, ρ = [some (.t (tI form)), some (.l ((faults (form.take i)).map tI)), x2, none, x4, none]) ⟨rfl, none, none, rfl⟩ ?_ ?_
  · rintro i m ρ s hm ⟨rfl, x2, x4, rfl⟩
    have hmb := f3 m (List.mem_of_getElem? hm)
    have hlen := faults_len (form.take i)
    have hpi := hp i
    have hpi2 := hp (i + 1)
    rw [take_at hm, prodN_snoc] at hpi2
    refine ⟨rfl, _, rfl, ?_⟩
    walk_at "go"
    refine w_for (fun k ρ s' => s' = s ∧ ∃ x4, ρ = [some (.t (tI form)), none, some (.t (.int m)), some (.l ((stepF ((faults (form.take i)).take k) m).map tI)), x4, none]) ⟨rfl, x4, rfl⟩ ?_ ?_
    · rintro k f ρ s' hf ⟨rfl, x4, rfl⟩
      refine ⟨rfl, _, rfl, ?_⟩
      have r : rangeV 0 m = pure (.s (rangeT 0 m) []) := rng_ok (by omega) (by omega) (by rw [szl]; omega)
      have fl := faults_flen _ f (List.mem_of_getElem? hf)
      have kl : k < (faults (form.take i)).length := (List.getElem?_eq_some_iff.mp hf).1
      simp [szl, r, store]
      refine ⟨by omega, w_lcA (fun v => tI (f ++ [(v : Int)])) rfl (fun v _ => ⟨_, rfl, by simp, ?_⟩) ?_⟩
      · walk_at "go"
        simp at fl
        omega
      · walk_at "go"
        have sl : (stepF ((faults (form.take i)).take k) m).length + m.toNat ≤ 16777216 := by
          rw [stepF_len, List.length_take, Nat.min_eq_left (by omega)]
          have : k * m.toNat ≤ prodN (form.take i) * m.toNat := Nat.mul_le_mul_right _ (by omega)
          omega
        refine ⟨by simpa using sl, ?_⟩
        rw [take_at hf, stepF_snoc]
        simp
    · rintro ρ s' ⟨rfl, x4, rfl⟩
      walk_at "go"
      rw [take_at hm, faults_snoc]
  · rintro ρ s ⟨rfl, x2, x4, rfl⟩
    walk_at "go"
theorem is_form_spec {l : Nat} (form : List Int) (h : FormOk form) : callN P (l + 3) HD.n_is_form [.t (tI form)] = pure (.t (.bl true)) := by
  obtain ⟨h1, h2, h3, h4⟩ := h
  have hp := prodN_le form fun m hm => by have := h3 m hm; omega
  refine w_pc (fd := HD.f_is_form) rfl rfl fun s0 => ?_
  simp only [HD.f_is_form]
  walk_at "go"
  rw [is_tuple_in _ _ _ (by simp; omega) (by simp; omega)]
  walk_at "go"
  refine ⟨by omega, w_lcA (fun a => .bl true) rfl (fun a ha => ⟨_, rfl, by simp, ?_⟩) ?_⟩
  · have := h3 a ha
    simp [store, is_within_in a 2 6 this.1 this.2]
  walk_at "go"
  refine w_for (fun i ρ s => s = s0 ∧ ∃ x2, ρ = [some (.t (tI form)), some (.t (.int (prodI (form.take i)))), x2]) ⟨rfl, none, rfl⟩ ?_ ?_
  · rintro i m ρ s hm ⟨rfl, x2, rfl⟩
    have hb := h3 m (List.mem_of_getElem? hm)
    refine ⟨rfl, _, rfl, ?_⟩
    have e := prodI_N (form.take i) fun m hm => by have := h3 m (List.mem_of_mem_take hm); omega
    have le := hp i
    walk_at "go"
    refine ⟨mul_ok (by omega) (by omega), ?_⟩
    rw [take_at hm, prodI_snoc]
  · rintro ρ s ⟨rfl, x2, rfl⟩
    have e := prodI_N form fun m hm => by have := h3 m hm; omega
    simp [HD.g_MOST_FAULTS]
    omega

/-! ### the objects, told by kinds -/
inductive Ki where
  | hand (c : Nat)
  | cst (xs : List T)
  | book (form : List Int) (rs : List (List (List Int)))
  | pool (c : Nat)
  | nums
  | repl (form : List Int)
  | any
abbrev Sg := List Ki
def okO (G : Sg) (k : Int) : Ki → O → Prop
  | .hand c, o => ∃ (cells : List Int) (i : Nat) (big h3 h4 : Int), o = .lst [.ref c, .int i, .int big, .int h3, .int h4] ∧ G[c]? = some (.cst (cells.map T.int)) ∧ (∀ a ∈ cells, 0 ≤ a) ∧ 0 ≤ big ∧ 0 ≤ h3 ∧ h3 < 2147483629 ∧ 0 ≤ h4 ∧ h4 + k ≤ 1000000000
  | .cst xs, o => o = .lst xs
  | .pool c, o => ∃ seed cnt : Int, o = .lst [.int seed, .int cnt, .ref c] ∧ G[c]? = some .nums ∧ 0 ≤ seed ∧ seed < 2147483647 ∧ 0 ≤ cnt ∧ cnt + k ≤ 1000000000
  | .repl form, o => ∃ r : List (Option Int), o = .lst (r.map tO) ∧ RepOk form r
  | .nums, o => ∃ cells : List Int, o = .lst (cells.map T.int) ∧ ∀ a ∈ cells, 0 ≤ a
  | .book form rs, o => ∃ x, o = .ins 0 [("form", tI form), ("rules", tRs rs), ("listed", x)] ∧ (x = .non ∨ ∃ n, x = .ref n ∧ G[n]? = some (.cst ((allowedF form rs).map tI)))
  | .any, _ => True
def HT (G : Sg) (k : Int) (s : S) : Prop := s.length = G.length ∧ ∀ (i : Nat) (t : Ki), G[i]? = some t → ∃ o, s[i]? = some o ∧ okO G k t o
def Ext (G G' : Sg) : Prop := ∃ D, G' = G ++ D
theorem Ext.refl {G : Sg} : Ext G G := ⟨[], by simp⟩
theorem Ext.trans {G G' G2 : Sg} (h : Ext G G') (k : Ext G' G2) : Ext G G2 := by
  obtain ⟨D, rfl⟩ := h
  obtain ⟨D2, rfl⟩ := k
  exact ⟨D ++ D2, by simp⟩
theorem Ext.snoc {G : Sg} {D : Sg} : Ext G (G ++ D) := ⟨D, rfl⟩
theorem Ext.at {G G' : Sg} (h : Ext G G') {i : Nat} {t : Ki} (e : G[i]? = some t) : G'[i]? = some t := by
  obtain ⟨D, rfl⟩ := h
  rw [List.getElem?_append_left (List.getElem?_eq_some_iff.mp e).1]
  exact e
theorem okO_ext {G G' : Sg} {k : Int} {t : Ki} {o : O} (x : Ext G G') (h : okO G k t o) : okO G' k t o := by
  cases t with
  | hand c =>
    obtain ⟨cells, i, big, h3, h4, e, g, r⟩ := h
    exact ⟨cells, i, big, h3, h4, e, x.at g, r⟩
  | cst xs => exact h
  | pool c =>
    obtain ⟨seed, cnt, e, g, r⟩ := h
    exact ⟨seed, cnt, e, x.at g, r⟩
  | repl form => exact h
  | nums => exact h
  | book form rs =>
    obtain ⟨y, e, h⟩ := h
    refine ⟨y, e, ?_⟩
    rcases h with h | ⟨n, h, g⟩
    · exact .inl h
    · exact .inr ⟨n, h, x.at g⟩
  | any => trivial
theorem okO_mono {G : Sg} {k k' : Int} {t : Ki} {o : O} (x : k' ≤ k) (h : okO G k t o) : okO G k' t o := by
  cases t with
  | hand c =>
    obtain ⟨cells, i, big, h3, h4, e, g, a, b, c, d, f, r⟩ := h
    exact ⟨cells, i, big, h3, h4, e, g, a, b, c, d, f, by omega⟩
  | cst xs => exact h
  | pool c =>
    obtain ⟨seed, cnt, e, g, a, b, c, d⟩ := h
    exact ⟨seed, cnt, e, g, a, b, c, by omega⟩
  | repl form => exact h
  | nums => exact h
  | book form rs => exact h
  | any => trivial
section
variable {G : Sg} {k : Int} {s : S}
theorem HT.mono {k' : Int} (h : HT G k s) (x : k' ≤ k) : HT G k' s := ⟨h.1, fun i t e => by
  obtain ⟨o, a, b⟩ := h.2 i t e
  exact ⟨o, a, okO_mono x b⟩⟩
theorem HT.lt (h : HT G k s) {i : Nat} {t : Ki} (e : G[i]? = some t) : i < s.length := by rw [h.1]; exact (List.getElem?_eq_some_iff.mp e).1
theorem HT.alloc (h : HT G k s) (t : Ki) (o : O) (x : okO (G ++ [t]) k t o) : HT (G ++ [t]) k (s ++ [o]) := by
  refine ⟨by simp [h.1], fun i u e => ?_⟩
  by_cases hi : i < G.length
  · rw [List.getElem?_append_left hi] at e
    obtain ⟨p, a, b⟩ := h.2 i u e
    exact ⟨p, by rw [List.getElem?_append_left (by rw [h.1]; exact hi)]; exact a, okO_ext .snoc b⟩
  · rw [List.getElem?_append_right (by omega)] at e
    have hz : i = G.length := by
      have := (List.getElem?_eq_some_iff.mp e).1
      simp at this
      omega
    subst hz
    simp at e
    subst e
    exact ⟨o, by rw [← h.1]; simp, x⟩
theorem HT.set (h : HT G k s) {i : Nat} {t : Ki} (e : G[i]? = some t) {o : O} (x : okO G k t o) : HT G k (s.set i o) := by
  refine ⟨by simp [h.1], fun j u e2 => ?_⟩
  by_cases hj : j = i
  · subst hj
    rw [e] at e2
    cases e2
    exact ⟨o, List.getElem?_set_self (h.lt e), x⟩
  · obtain ⟨p, a, b⟩ := h.2 j u e2
    exact ⟨p, by rw [List.getElem?_set_ne (fun z => hj z.symm)]; exact a, b⟩
theorem HT.cst (h : HT G k s) {i : Nat} {xs : List T} (e : G[i]? = some (.cst xs)) : s[i]? = some (.lst xs) := by
  obtain ⟨o, a, b⟩ := h.2 i _ e
  rw [a, show o = _ from b]
theorem HT.book (h : HT G k s) {b : Nat} {form : List Int} {rs : List (List (List Int))} (e : G[b]? = some (.book form rs)) : ∃ x, s[b]? = some (.ins 0 [("form", tI form), ("rules", tRs rs), ("listed", x)]) ∧ (x = .non ∨ ∃ n, x = .ref n ∧ G[n]? = some (.cst ((allowedF form rs).map tI))) := by
  obtain ⟨o, a, x, b, c⟩ := h.2 b _ e
  exact ⟨x, by rw [a, b], c⟩
theorem HT.nil {k : Int} : HT [] k [] := ⟨rfl, fun i t e => by simp at e⟩
end
theorem oks_o {s : S} {n : Nat} {xs : List T} (h : s[n]? = some (.lst xs)) : GI.okS s (.o n xs) = true := by
  simp [GI.okS, h, T.eqbAll_refl]
theorem it_ref {s : S} {n : Nat} {xs : List T} (h : s[n]? = some (.lst xs)) : itOf (.t (.ref n)) s = .ok (xs, [.o n xs]) s := by
  rw [ito_r, m_ok (deref_ok h)]
  rfl

theorem are_rules_spec {l : Nat} (form : List Int) (rs : List (List (List Int))) (h : RulesOk form rs) : callN P (l + 5) HD.n_are_rules [.t (tI form), .t (tRs rs)] = pure (.t (.bl true)) := by
  obtain ⟨h1, h2⟩ := h
  refine w_pc (fd := HD.f_are_rules) rfl rfl fun s => ?_
  simp only [HD.f_are_rules]
  walk_at "go"
  refine ⟨by omega, w_lcA (fun a => .bl true) rfl (fun b hb => ⟨_, rfl, by simp, ?_⟩) ?_⟩
  · simp [store, box_in_spec form b (h2 b hb)]
  · walk_at "go"
section
variable {G : Sg} {k : Int} {s : S} {b : Nat} {form : List Int} {rs : List (List (List Int))}
theorem bk_form (h : HT G k s) (e : G[b]? = some (.book form rs)) : fldOf P "form" (.t (.ref b)) s = .ok (.t (tI form)) s := by
  obtain ⟨x, a, _⟩ := h.book e
  exact fld_ok a (by rfl) HD.hf_Book_form
theorem bk_rules (h : HT G k s) (e : G[b]? = some (.book form rs)) : fldOf P "rules" (.t (.ref b)) s = .ok (.t (tRs rs)) s := by
  obtain ⟨x, a, _⟩ := h.book e
  exact fld_ok a (by rfl) HD.hf_Book_rules
theorem init_spec {l : Nat} (h : s[b]? = some (.ins 0 [])) (hf : FormOk form) (hr : RulesOk form rs) :
    callN P (l + 6) HD.n_Book_init [.t (.ref b), .t (tI form), .t (tRs rs)] s = .ok (.t .non) (s.set b (.ins 0 [("form", tI form), ("rules", tRs rs), ("listed", .non)])) := by
  have hb : b < s.length := (List.getElem?_eq_some_iff.mp h).1
  refine w_done (w_call (fd := HD.f_Book_init) rfl rfl ?_)
  have hl := hr.1
  simp [HD.f_Book_init, Mini.start, is_form_spec form hf, are_rules_spec form rs hr, HD.g_MOST_RULES, is_tuple_in (rs.map tB) 0 40 (by simp) (by simp; omega), szl]
  let o1 : O := .ins 0 [("form", tI form)]
  let o2 : O := .ins 0 [("form", tI form), ("rules", tRs rs)]
  have q1 : setFld P "form" (tI form) (.t (.ref b)) s = .ok () (s.set b o1) := set_ok h (by simp) HD.hf_Book_form
  have h1 : (s.set b o1)[b]? = some o1 := List.getElem?_set_self hb
  have q2 : setFld P "rules" (tRs rs) (.t (.ref b)) (s.set b o1) = .ok () ((s.set b o1).set b o2) := set_ok h1 (by simp) HD.hf_Book_rules
  have h2 : ((s.set b o1).set b o2)[b]? = some o2 := List.getElem?_set_self (by rw [List.length_set]; exact hb)
  have q3 : setFld P "listed" .non (.t (.ref b)) ((s.set b o1).set b o2) = .ok () (((s.set b o1).set b o2).set b (.ins 0 [("form", tI form), ("rules", tRs rs), ("listed", .non)])) := set_ok h2 (by simp) HD.hf_Book_listed
  refine w_ok q1 ?_
  simp
  refine w_ok q2 ?_
  simp
  refine w_ok (by simpa using q3) ?_
  simp
theorem make_book {l : Nat} (h : HT G k s) (hf : FormOk form) (hr : RulesOk form rs) : ∃ s', make P (callN P (l + 6)) 0 [.t (tI form), .t (tRs rs)] s = .ok (.t (.ref G.length)) s' ∧ HT (G ++ [.book form rs]) k s' := by
  have h0 : (s ++ [O.ins 0 []] : S)[s.length]? = some (O.ins 0 []) := by rw [List.getElem?_append_right (Nat.le_refl _)]; simp
  have e := init_spec (l := l) h0 hf hr
  have e2 : (s ++ [O.ins 0 []] : S).set s.length (O.ins 0 [("form", tI form), ("rules", tRs rs), ("listed", .non)]) = s ++ [O.ins 0 [("form", tI form), ("rules", tRs rs), ("listed", .non)]] := by
    rw [List.set_append_right _ _ (Nat.le_refl _)]
    simp
  rw [e2] at e
  obtain ⟨cd, c0, c1⟩ : ∃ cd, P.cls[0]? = some cd ∧ cd.init = HD.n_Book_init := ⟨_, rfl, rfl⟩
  refine ⟨_, ?_, h.alloc (.book form rs) _ ⟨.non, rfl, .inl rfl⟩⟩
  unfold make
  simp only [c0, c1]
  rw [m_ok (show alloc (.ins 0 []) s = .ok (.ref s.length) (s ++ [O.ins 0 []]) from rfl), m_ok e, h.1]
  rfl
theorem is_lawful_spec {l : Nat} (h : HT G k s) (e : G[b]? = some (.book form rs)) (hr : RulesOk form rs) (f : List Int) : callN P (l + 2) HD.n_is_lawful [.t (.ref b), .t (tI f)] s = .ok (.t (.bl (lawfulB rs f))) s := by
  refine w_done (w_call (fd := HD.f_is_lawful) rfl rfl ?_)
  have hl := hr.1
  simp [HD.f_is_lawful, Mini.start, w_at (bk_rules h e), szl]
  refine ⟨by omega, w_lcA (fun r => .bl (heldB r f)) rfl (fun r hm => ⟨_, rfl, by simp, ?_⟩) ?_⟩
  · have := hr.2 r hm
    simp [held_spec r f (by have h1 := this.1; have h2 := this.2.1; omega)]
  · simp [lawfulB]
theorem listed_spec {l : Nat} (h : HT G k s) (e : G[b]? = some (.book form rs)) (hf : FormOk form) (hr : RulesOk form rs) : Go (callN P (l + 3) HD.n_listed [.t (.ref b)]) s fun r s' => ∃ G' n, r = .t (.ref n) ∧ Ext G G' ∧ HT G' k s' ∧ G'[n]? = some (.cst ((allowedF form rs).map tI)) := by
  refine go_c (fd := HD.f_listed) rfl rfl ?_
  obtain ⟨x, a, c⟩ := h.book e
  have bl : fldOf P "listed" (.t (.ref b)) s = .ok (.t x) s := fld_ok a (by rfl) HD.hf_Book_listed
  have hb := h.lt e
  rcases c with rfl | ⟨n, rfl, g⟩
  · simp [HD.f_listed, Mini.start, w_at bl, w_at (bk_form h e), all_faults_spec form hf, szl]
    have fl := faults_len form
    have p4 := hf.2.2.2
    refine ⟨by omega, w_lc (lawfulB rs) tI rfl (fun f _ => ⟨_, rfl, ?_, fun _ => by simp [store]⟩) ?_⟩
    · simp [store, w_at (is_lawful_spec h e hr f)]
    · have h2 := h.alloc (.cst ((allowedF form rs).map tI)) (.lst ((allowedF form rs).map tI)) rfl
      obtain ⟨y, a2, _⟩ := h2.book (Ext.snoc.at e)
      have h3 := h2.set (Ext.snoc.at e) (o := .ins 0 [("form", tI form), ("rules", tRs rs), ("listed", .ref s.length)]) ⟨_, rfl, .inr ⟨_, rfl, by rw [h.1]; simp⟩⟩
      refine w_ok rfl ?_
      simp
      refine w_ok (set_ok a2 (by simp) HD.hf_Book_listed) ?_
      simp [putF]
      refine w_ok (fld_ok (x := .ref s.length) (List.getElem?_set_self (by rw [List.length_append]; omega)) (by rfl) HD.hf_Book_listed) ?_
      simp
      exact ⟨_, Ext.snoc, h3, by rw [h.1]; simp⟩
  · simp [HD.f_listed, Mini.start, w_at bl]
    exact ⟨G, Ext.refl, h, g⟩
theorem first_for_spec {l : Nat} (h : HT G k s) (e : G[b]? = some (.book form rs)) (hf : FormOk form) (hr : RulesOk form rs) (r : List (Option Int)) (hl : r.length ≤ 1000) :
    Go (callN P (l + 4) HD.n_first_for [.t (.ref b), .t (tR r)]) s fun v s' => v = .t (match (allowedF form rs).find? (agreeB r) with | some f => tI f | none => .non) ∧ ∃ G', Ext G G' ∧ HT G' k s' := by
  refine go_c (fd := HD.f_first_for) rfl rfl ?_
  simp [HD.f_first_for, Mini.start]
  refine w_use (listed_spec h e hf hr) ?_
  rintro _ s1 ⟨G1, n, rfl, x1, h1, g⟩
  simp [h1.cst g]
  refine w_for (fun i ρ s => s = s1 ∧ (∀ f ∈ (allowedF form rs).take i, agreeB r f = false) ∧ ∃ x2, ρ = [some (.t (.ref b)), some (.t (tR r)), x2]) ⟨rfl, by simp, none, rfl⟩ ?_ ?_
  · rintro i f ρ s hi ⟨rfl, hn, x2, rfl⟩
    refine ⟨oks_o (h1.cst g), _, rfl, ?_⟩
    simp [store, agreeing_spec r f hl]
    have ht : (allowedF form rs).find? (agreeB r) = if agreeB r f then some f else ((allowedF form rs).drop (i + 1)).find? (agreeB r) := by
      conv => lhs; rw [← List.take_append_drop (i + 1) (allowedF form rs), take_at hi, List.append_assoc, List.find?_append, List.find?_eq_none.mpr (by simpa using hn)]
      cases ha : agreeB r f <;> simp [ha]
    cases ha : agreeB r f with
    | true => simp [ht, ha]; exact ⟨G1, x1, h1⟩
    | false =>
      simp
      intro f' hf'
      rw [take_at hi, List.mem_append] at hf'
      rcases hf' with hf' | hf'
      · exact hn f' hf'
      · simp at hf'; rw [hf']; exact ha
  · rintro ρ s ⟨rfl, hn, x2, rfl⟩
    rw [List.take_length] at hn
    refine ⟨oks_o (h1.cst g), ?_⟩
    simp [List.find?_eq_none.mpr (by simpa using hn)]
    exact ⟨G1, x1, h1⟩
theorem can_be_spec {l : Nat} (h : HT G k s) (e : G[b]? = some (.book form rs)) (hf : FormOk form) (hr : RulesOk form rs) (r : List (Option Int)) (hl : RepOk form r) :
    Go (callN P (l + 5) HD.n_can_be [.t (.ref b), .t (tR r)]) s fun v s' => v = .t (.bl ((allowedF form rs).any (agreeB r))) ∧ ∃ G', Ext G G' ∧ HT G' k s' := by
  refine go_c (fd := HD.f_can_be) rfl rfl ?_
  simp [HD.f_can_be, Mini.start, w_at (bk_form h e), check_report_spec form r hl]
  refine w_use (first_for_spec h e hf hr r (by have := hl.1; have := hl.2.1; omega)) ?_
  rintro _ s1 ⟨rfl, G1, x1, h1⟩
  have fa : (allowedF form rs).any (agreeB r) = ((allowedF form rs).find? (agreeB r)).isSome := by
    rw [Bool.eq_iff_iff, List.find?_isSome, List.any_eq_true]
  rw [fa]
  cases (allowedF form rs).find? (agreeB r) with
  | none => simp; exact ⟨G1, x1, h1⟩
  | some f => simp; exact ⟨G1, x1, h1⟩
end

/-! ### what repr shows -/
theorem so_app (x y : Str) : PyData.strOk (x ++ y) = (PyData.strOk x && PyData.strOk y) := by
  show (x.cps ++ y.cps).all _ = _
  rw [Array.all_append]
  rfl
theorem so_of (z : String) : PyData.strOk (Str.ofString z) = true := by
  rw [Str.ofString_eq_toList]
  show Array.all (List.toArray (z.toList.map Char.toNat)) _ = true
  rw [List.all_toArray, List.all_eq_true]
  intro n hn
  obtain ⟨c, _, rfl⟩ := List.mem_map.mp hn
  have : c.toNat < 0x110000 := by
    have := c.valid
    have h2 : c.val.toNat = c.toNat := rfl
    rcases this with h | h <;> omega
  simpa using this
theorem so_join (sep : Str) (hs : PyData.strOk sep = true) : ∀ ts : List Str, (∀ t ∈ ts, PyData.strOk t = true) → PyData.strOk (Str.join sep ts) = true
  | [], _ => by simp [Str.join, Str.empty, PyData.strOk]
  | [x], h => h x (by simp)
  | x :: y :: r, h => by
    show PyData.strOk (x ++ sep ++ Str.join sep (y :: r)) = true
    rw [so_app, so_app, h x (by simp), hs, so_join sep hs (y :: r) fun t ht => h t (List.mem_cons_of_mem _ ht)]
    rfl
mutual
/-- a bound for the weight -/
def T.wt : T → Nat
  | .int _ => 41
  | .tup xs => T.wts xs
  | _ => 0
def T.wts : List T → Nat
  | [] => 0
  | x :: xs => T.wt x + 1 + T.wts xs
end
mutual
/-- small numbers alone -/
def T.smI : T → Bool
  | .int i => decide (i.natAbs < 10 ^ 12)
  | .tup xs => T.smIs xs
  | _ => true
def T.smIs : List T → Bool
  | [] => true
  | x :: xs => T.smI x && T.smIs xs
end
theorem sm_log {i : Int} (h : i.natAbs < 10 ^ 12) : i.natAbs.log2 + 1 ≤ 41 := by
  by_cases hn : i.natAbs = 0
  · rw [hn]; decide
  · have : i.natAbs.log2 < 40 := (Nat.log2_lt hn).mpr (by omega)
    omega
mutual
/-- what repr shows here -/
def T.okP : T → Bool
  | .non => true
  | .bl _ => true
  | .int _ => true
  | .tup xs => T.okPs xs
  | _ => false
def T.okPs : List T → Bool
  | [] => true
  | x :: xs => T.okP x && T.okPs xs
end
mutual
theorem okP_of : ∀ t : T, T.okD t = true → T.okP t = true
  | .non, _ => rfl
  | .int _, _ => rfl
  | .tup xs, h => okPs_of xs h
  | .bl _, h => by cases h
  | .str _, h => by cases h
  | .ref _, h => by cases h
  | .fn _, h => by cases h
  | .cl _, h => by cases h
  | .ty _, h => by cases h
theorem okPs_of : ∀ xs : List T, T.okDs xs = true → T.okPs xs = true
  | [], _ => rfl
  | x :: xs, h => by
    simp only [T.okDs, Bool.and_eq_true] at h
    simp only [T.okPs, okP_of x h.1, okPs_of xs h.2, Bool.and_self]
end
mutual
theorem wt_ok (r : Nat → Option PyData) : ∀ t : T, T.okP t = true → T.smI t = true → t.toD.weight ≤ T.wt t ∧ t.toD.intsShort 13 = true ∧ t.toD.showable = true ∧ t.toD.hasDict = false ∧ PyData.strOk t.toD.shown = true ∧ t.dat r = some t.toD ∧ t.toD.canLay0 = true ∧ t.toD.depth = t.dep
  | .non, _, _ => ⟨Nat.le_refl _, rfl, rfl, rfl, so_of _, rfl, rfl, rfl⟩
  | .bl b, _, _ => ⟨Nat.le_refl _, rfl, rfl, rfl, by cases b <;> exact so_of _, rfl, rfl, rfl⟩
  | .int i, _, h => by
    have h' : i.natAbs < 10 ^ 12 := by simpa [T.smI] using h
    have := sm_log h'
    refine ⟨?_, ?_, ?_, rfl, so_of _, rfl, rfl, rfl⟩
    · simp only [T.toD, PyData.weight, T.wt]
      split <;> omega
    · simpa [T.toD, PyData.intsShort] using PyData.shown_int_le h'
    · simp only [T.toD, PyData.showable, decide_eq_true_eq]
      omega
  | .tup xs, h, k => by
    obtain ⟨h1, h2, h3, h4, h5, h6, h7, h8⟩ := wts_ok r xs h k
    refine ⟨h1, h2, h3, h4, ?_, by simp only [T.dat, h6, T.toD, Option.map_some], by simpa only [T.toD, PyData.canLay0] using h7, by simp only [T.toD, PyData.depth, T.dep, h8]⟩
    show PyData.strOk (tupleText (PyData.shownAll (T.toDs xs))) = true
    unfold tupleText
    rw [so_app, so_app, so_of, so_join _ (so_of _) _ h5]
    split <;> simp [so_of]
  | .str _, h, _ => by cases h
  | .ref _, h, _ => by cases h
  | .fn _, h, _ => by cases h
  | .cl _, h, _ => by cases h
  | .ty _, h, _ => by cases h
theorem wts_ok (r : Nat → Option PyData) : ∀ xs : List T, T.okPs xs = true → T.smIs xs = true → PyData.weightAll (T.toDs xs) ≤ T.wts xs ∧ PyData.intsShortAll 13 (T.toDs xs) = true ∧ PyData.showableAll (T.toDs xs) = true ∧ PyData.hasDictAll (T.toDs xs) = false ∧ (∀ z ∈ PyData.shownAll (T.toDs xs), PyData.strOk z = true) ∧
    T.datAll r xs = some (T.toDs xs) ∧ PyData.canLayAll0 (T.toDs xs) = true ∧ PyData.depthAll (T.toDs xs) = T.deps xs
  | [], _, _ => ⟨Nat.le_refl _, rfl, rfl, rfl, by simp [T.toDs, PyData.shownAll], rfl, rfl, rfl⟩
  | x :: xs, h, k => by
    simp only [T.okPs, T.smIs, Bool.and_eq_true] at h k
    obtain ⟨a1, a2, a3, a4, a5, a6, a7, a8⟩ := wt_ok r x h.1 k.1
    obtain ⟨b1, b2, b3, b4, b5, b6, b7, b8⟩ := wts_ok r xs h.2 k.2
    refine ⟨?_, ?_, ?_, ?_, ?_, by simp only [T.datAll, a6, b6, T.toDs], by simp only [T.toDs, PyData.canLayAll0, a7, b7, Bool.and_self], by simp only [T.toDs, PyData.depthAll, a8, b8, T.deps]⟩
    · simp only [T.toDs, PyData.weightAll, T.wts]; omega
    · simp only [T.toDs, PyData.intsShortAll, a2, b2, Bool.and_self]
    · simp only [T.toDs, PyData.showableAll, a3, b3, Bool.and_self]
    · simp only [T.toDs, PyData.hasDictAll, a4, b4, Bool.or_self]
    · simp only [T.toDs, PyData.shownAll, List.mem_cons]
      rintro z (rfl | hz)
      · exact a5
      · exact b5 z hz
end
/-- fit to be shown -/
def Shw (t : T) : Prop := T.okP t = true ∧ T.smI t = true ∧ t.dep ≤ 60 ∧ T.wt t ≤ 2 ^ 20
theorem repr_ok {t : T} (h : Shw t) : Mini.bi .repr [.t t] = pure (.t (.str t.toD.shown)) := by
  obtain ⟨h, h2, h3, h4⟩ := h
  funext s
  obtain ⟨a1, a2, a3, a4, a5, e1, c2, c3⟩ := wt_ok (refD s 40) t h h2
  show (match (TV.t t).dat s with
  | some d => if reprOk d then Res.ok (TV.t (.str d.shown)) s else .bad
  | none => .bad) = _
  have e1 : (TV.t t).dat s = some t.toD := e1
  have fits : t.toD.shown.length ≤ sizeLine := PyData.shown_fits_of_layable0 (B := 13) (by decide) (by decide) (by
    unfold PyData.layable0
    rw [c2, c3]
    simp
    omega) a2
  have r : reprOk t.toD = true := by
    unfold reprOk
    rw [a3, a4, c3]
    simp at fits
    simp
    omega
  rw [e1]
  simp only [r, if_true]
  rfl
theorem shs_shown {t : T} (h : Shw t) : SeqAt.shaped (.str t.toD.shown) = true := by
  unfold SeqAt.shaped
  simp only [PyData.canLay0, (wt_ok (fun _ => none) t h.1 h.2.1).2.2.2.2.1, PyData.depth]
  rfl
theorem eq_shown {t : T} (h : Shw t) : Mini.cmp .eq (.t (.str t.toD.shown)) (.t (.str t.toD.shown)) = pure true := by
  funext s
  show (if SeqAt.shaped (.str t.toD.shown) && SeqAt.shaped (.str t.toD.shown) then Res.ok (PyData.eqv (.str t.toD.shown) (.str t.toD.shown)) s else .bad) = _
  rw [shs_shown h]
  simp [PyData.eqv]
theorem ne_shown {t : T} (h : Shw t) : Mini.cmp .ne (.t (.str t.toD.shown)) (.t (.str t.toD.shown)) = pure false := by
  show (Mini.cmp .eq (.t (.str t.toD.shown)) (.t (.str t.toD.shown)) >>= fun r => pure !r) = _
  rw [eq_shown h]
  rfl
theorem rep_small : ∀ {r : List (Option Int)}, (∀ a, some a ∈ r → 0 ≤ a ∧ a < 1000) → T.okDs (r.map tO) = true ∧ T.smIs (r.map tO) = true ∧ T.deps (r.map tO) = 0 ∧ T.wts (r.map tO) ≤ 42 * r.length
  | [], _ => ⟨rfl, rfl, rfl, Nat.le_refl _⟩
  | o :: r, h => by
    obtain ⟨a1, a2, a3, a4⟩ := rep_small (r := r) fun a ha => h a (List.mem_cons_of_mem _ ha)
    cases o with
    | none => simp [T.okDs, T.smIs, T.deps, T.wts, tO, T.okD, T.smI, T.dep, T.wt, a1, a2, a3]; omega
    | some a =>
      have := h a (by simp)
      simp [T.okDs, T.smIs, T.deps, T.wts, tO, T.okD, T.smI, T.dep, T.wt, a1, a2, a3]; omega

theorem dedup_snoc (vs : List Int) (v : Int) : dedup (vs ++ [v]) = if v ∈ dedup vs then dedup vs else dedup vs ++ [v] := by
  unfold dedup
  rw [List.foldl_append]
  simp only [List.foldl_cons, List.foldl_nil, PyProof.Rows.step_dedup]
  simp
theorem mem_dedup (vs : List Int) (v : Int) : v ∈ dedup vs ↔ v ∈ vs := by
  induction vs using snoc_ind with
  | h0 => simp [dedup]
  | h1 xs m ih =>
    rw [dedup_snoc]
    split
    · rename_i h
      constructor
      · intro k; exact List.mem_append_left _ (ih.mp k)
      · intro k
        rcases List.mem_append.mp k with k | k
        · exact ih.mpr k
        · simp at k; rw [k]; exact h
    · simp [ih]
theorem dedup_nd (vs : List Int) : (dedup vs).Nodup := by
  induction vs using snoc_ind with
  | h0 => simp [dedup]
  | h1 xs m ih =>
    rw [dedup_snoc]
    split
    · exact ih
    · rename_i h
      rw [List.nodup_append]
      refine ⟨ih, by simp, ?_⟩
      intro a ha b hb
      simp at hb
      subst hb
      rintro rfl
      exact h ha
theorem dedup_one {vs : List Int} {v : Int} (h : v ∈ vs) : (dedup vs).length = 1 ↔ ∀ a ∈ vs, a = v := by
  have hv := (mem_dedup vs v).mpr h
  constructor
  · intro k a ha
    obtain ⟨x, hx⟩ := List.length_eq_one_iff.mp k
    have ha' := (mem_dedup vs a).mpr ha
    rw [hx] at hv ha'
    simp at hv ha'
    rw [hv, ha']
  · intro k
    have all : ∀ a ∈ dedup vs, a = v := fun a ha => k a ((mem_dedup vs a).mp ha)
    have nd := dedup_nd vs
    cases hd : dedup vs with
    | nil => rw [hd] at hv; simp at hv
    | cons x r =>
      cases r with
      | nil => rfl
      | cons y r =>
        rw [hd] at all nd
        have e1 := all x (by simp)
        have e2 := all y (by simp)
        rw [e1, e2] at nd
        simp at nd
theorem is_perm (ns : List Int) : (isort ns).Perm ns := List.mergeSort_perm _ _
theorem is_pw (ns : List Int) : (isort ns).Pairwise (· ≤ ·) := by
  have h := List.pairwise_mergeSort (le := fun a b : Int => decide (a ≤ b)) (by intro a b c; simp; omega) (by intro a b; simp; omega) ns
  exact h.imp fun h => by simpa using h
theorem mem_sset (ns : List Int) (v : Int) : v ∈ isort (dedup ns) ↔ v ∈ ns := by rw [(is_perm (dedup ns)).mem_iff, mem_dedup]
theorem sset_pw (ns : List Int) : (isort (dedup ns)).Pairwise (· < ·) := by
  have h1 := is_pw (dedup ns)
  have h2 : (isort (dedup ns)).Nodup := (is_perm (dedup ns)).nodup_iff.mpr (dedup_nd ns)
  exact (List.Pairwise.and h1 h2).imp fun ⟨a, b⟩ => by omega
/-- ascending lists with the same members are the same -/
theorem asc_eq {xs ys : List Int} (h1 : xs.Pairwise (· < ·)) (h2 : ys.Pairwise (· < ·)) (h : ∀ v, v ∈ xs ↔ v ∈ ys) : xs = ys := by
  have n1 : xs.Nodup := h1.imp fun h => by omega
  have n2 : ys.Nodup := h2.imp fun h => by omega
  exact List.Perm.eq_of_pairwise (le := (· < ·)) (fun a b _ _ h k => by omega) h1 h2 ((List.perm_ext_iff_of_nodup n1 n2).mpr h)
theorem asc_len' (m : Int) : ∀ (xs : List Int) (lo : Int), xs.Pairwise (· < ·) → (∀ v ∈ xs, lo ≤ v ∧ v < m) → xs.length ≤ (m - lo).toNat
  | [], _, _, _ => Nat.zero_le _
  | x :: r, lo, h, k => by
    have h' := List.pairwise_cons.mp h
    have hx := k x (by simp)
    have := asc_len' m r (x + 1) h'.2 fun v hv => ⟨by have := h'.1 v hv; omega, (k v (List.mem_cons_of_mem _ hv)).2⟩
    simp only [List.length_cons]
    omega
theorem asc_len {xs : List Int} {m : Nat} (h1 : xs.Pairwise (· < ·)) (h : ∀ v ∈ xs, 0 ≤ v ∧ v < m) : xs.length ≤ m := by
  have := asc_len' m xs 0 h1 h
  omega
theorem dedup_len (ns : List Int) : (dedup ns).length ≤ ns.length := by
  induction ns using snoc_ind with
  | h0 => simp [dedup]
  | h1 xs m ih =>
    rw [dedup_snoc]
    split
    · simp; omega
    · simp; omega

mutual
/-- plain data of bounded width -/
def T.okW : T → Bool
  | .non => true
  | .bl _ => true
  | .int _ => true
  | .tup xs => decide (xs.length ≤ 1000000) && T.okWs xs
  | _ => false
def T.okWs : List T → Bool
  | [] => true
  | x :: xs => T.okW x && T.okWs xs
end
theorem okWs_all : ∀ {xs : List T}, T.okWs xs = true ↔ ∀ x ∈ xs, T.okW x = true
  | [] => by simp [T.okWs]
  | x :: xs => by simp [T.okWs, okWs_all (xs := xs)]
theorem deps_all {n : Nat} : ∀ {xs : List T}, T.deps xs ≤ n ↔ ∀ x ∈ xs, T.dep x ≤ n
  | [] => by simp [T.deps]
  | x :: xs => by simp [T.deps, deps_all (xs := xs), Nat.max_le]
theorem eqbAll_zip : ∀ {xs ys : List T}, xs.length = ys.length → T.eqbAll xs ys = ((xs.zip ys).all fun p => T.eqb p.1 p.2)
  | [], [], _ => rfl
  | x :: xs, y :: ys, h => by simp [T.eqbAll, eqbAll_zip (xs := xs) (ys := ys) (by simpa using h)]
theorem eqbAll_len : ∀ {xs ys : List T}, xs.length ≠ ys.length → T.eqbAll xs ys = false
  | [], [], h => absurd rfl h
  | [], _ :: _, _ => rfl
  | _ :: _, [], _ => rfl
  | x :: xs, y :: ys, h => by simp [T.eqbAll, eqbAll_len (xs := xs) (ys := ys) (by simpa using h)]
theorem cm_eqb {a b : Bool} : Mini.cmp .eq (.t (.bl a)) (.t (.bl b)) = pure (a == b) := by
  funext s
  show (if SeqAt.shaped (.bool a) && SeqAt.shaped (.bool b) then Res.ok (PyData.eqv (.bool a) (.bool b)) s else .bad) = _
  cases a <;> cases b <;> rfl
theorem okW_tup {xs : List T} (h : xs.length ≤ 1000000) (k : ∀ x ∈ xs, T.okW x = true) : T.okW (.tup xs) = true := by
  simp only [T.okW, Bool.and_eq_true, decide_eq_true_eq]
  exact ⟨h, okWs_all.mpr k⟩
theorem okW_tO (o : Option Int) : T.okW (tO o) = true := by cases o <;> rfl
theorem okW_tI {xs : List Int} (h : xs.length ≤ 1000000) : T.okW (tI xs) = true := okW_tup (by simpa using h) fun x hx => by
  obtain ⟨a, _, rfl⟩ := List.mem_map.mp hx
  rfl
theorem okW_tR {xs : List (Option Int)} (h : xs.length ≤ 1000000) : T.okW (tR xs) = true := okW_tup (by simpa using h) fun x hx => by
  obtain ⟨a, _, rfl⟩ := List.mem_map.mp hx
  exact okW_tO a
theorem okW_tB {xs : List (List Int)} (h : xs.length ≤ 1000000) (k : ∀ x ∈ xs, x.length ≤ 1000000) : T.okW (tB xs) = true := okW_tup (by simpa using h) fun x hx => by
  obtain ⟨a, ha, rfl⟩ := List.mem_map.mp hx
  exact okW_tI (k a ha)
theorem dep_tup {xs : List T} {n : Nat} (k : ∀ x ∈ xs, T.dep x ≤ n) : T.dep (.tup xs) ≤ n + 1 := by
  simp only [T.dep]
  have := deps_all.mpr k
  omega
theorem dep_tI (xs : List Int) : T.dep (tI xs) ≤ 1 := dep_tup (n := 0) fun x hx => by
  obtain ⟨a, _, rfl⟩ := List.mem_map.mp hx
  exact Nat.le_refl _
theorem dep_tR (xs : List (Option Int)) : T.dep (tR xs) ≤ 1 := dep_tup (n := 0) fun x hx => by
  obtain ⟨a, _, rfl⟩ := List.mem_map.mp hx
  simp
theorem dep_tB (xs : List (List Int)) : T.dep (tB xs) ≤ 2 := dep_tup (n := 1) fun x hx => by
  obtain ⟨a, _, rfl⟩ := List.mem_map.mp hx
  exact dep_tI a
theorem dep_tRs (xs : List (List (List Int))) : T.dep (tRs xs) ≤ 3 := dep_tup (n := 2) fun x hx => by
  obtain ⟨a, _, rfl⟩ := List.mem_map.mp hx
  exact dep_tB a
theorem okW_box {form : List Int} {b : List (List Int)} (h : BoxOk form b) : T.okW (tB b) = true := by
  refine okW_tB (by have := h.1; have := h.2.1; omega) fun x hx => ?_
  obtain ⟨i, hi, rfl⟩ := List.mem_iff_getElem.mp hx
  have h1 := h.1
  have := h.2.2 (b[i], form[i]) (zip_at (List.getElem?_eq_getElem hi) (List.getElem?_eq_getElem (by omega)))
  have := this.2.2.2
  simp at this
  omega
theorem okW_rules {form : List Int} {rs : List (List (List Int))} (h : RulesOk form rs) : T.okW (tRs rs) = true := okW_tup (by have := h.1; simp; omega) fun x hx => by
  obtain ⟨b, hb, rfl⟩ := List.mem_map.mp hx
  exact okW_box (h.2 b hb)
theorem zip_snoc {α β : Type} : ∀ {xs : List α} {ys : List β} {x : α} {y : β}, ys[xs.length]? = some y → (xs ++ [x]).zip ys = xs.zip ys ++ [(x, y)]
  | [], y' :: ys, x, y, h => by simp at h; simp [h]
  | [], [], x, y, h => by simp at h
  | a :: xs, [], x, y, h => by simp at h
  | a :: xs, b :: ys, x, y, h => by
    simp at h
    simp [zip_snoc h]
theorem rg_int (n : Int) : rangeT 0 n = ((List.range n.toNat).map fun (i : Nat) => (i : Int)).map T.int := by
  rw [range_map]
  simp
theorem rg_get {n : Int} {i : Nat} {x : Nat} (h : (List.range n.toNat)[i]? = some x) : x = i ∧ (i : Int) < n := by
  have h1 := (List.getElem?_eq_some_iff.mp h).1
  simp at h1
  rw [List.getElem?_range (by omega)] at h
  cases h
  exact ⟨rfl, by omega⟩
theorem full_lot {m : Int} (h : 2 ≤ m) (h2 : m ≤ 6) : LotOk m ((List.range m.toNat).map fun (i : Nat) => (i : Int)) := by
  refine ⟨fun a ha => ?_, ?_, ?_, by simp; omega⟩
  · obtain ⟨i, hi, rfl⟩ := List.mem_map.mp ha
    have := List.mem_range.mp hi
    omega
  · rw [List.pairwise_map]
    exact List.pairwise_lt_range.imp fun h => by omega
  · intro e
    have := congrArg List.length e
    simp at this
    omega
theorem one_lot {m a : Int} (h0 : 0 ≤ a) (h1 : a < m) : LotOk m [a] := ⟨by intro b hb; simp at hb; omega, by simp, by simp, by simp⟩
def tOF : Option (List Int) → T
  | none => .non
  | some f => tI f
@[simp] theorem tOF_n : tOF none = .non := rfl
@[simp] theorem tOF_s {f : List Int} : tOF (some f) = tI f := rfl
@[simp] theorem enum_map {α : Type} (f : α → T) (l : List α) : enumT (l.map f) = ((List.range l.length).zip l).map fun p => T.tup [.int p.1, f p.2] := by
  unfold enumT
  rw [List.length_map, List.zip_map_right, List.map_map]
  rfl
theorem enum_get {α : Type} {l : List α} {i : Nat} {p : Nat × α} (h : ((List.range l.length).zip l)[i]? = some p) : p.1 = i ∧ l[i]? = some p.2 := by
  rw [List.getElem?_zip_eq_some] at h
  obtain ⟨h1, h2⟩ := h
  have := (List.getElem?_eq_some_iff.mp h1).1
  simp at this
  rw [List.getElem?_range this] at h1
  cases h1
  exact ⟨rfl, h2⟩

/-- fit to be shown, with bounds -/
def Sh (n d : Nat) (t : T) : Prop := T.okP t = true ∧ T.smI t = true ∧ t.dep ≤ d ∧ T.wt t ≤ n
theorem Sh.mono {n d n' d' : Nat} {t : T} (h : Sh n d t) (h1 : n ≤ n') (h2 : d ≤ d') : Sh n' d' t := ⟨h.1, h.2.1, Nat.le_trans h.2.2.1 h2, Nat.le_trans h.2.2.2 h1⟩
theorem Sh.shw {n d : Nat} {t : T} (h : Sh n d t) (h1 : n ≤ 2 ^ 20) (h2 : d ≤ 60) : Shw t := ⟨h.1, h.2.1, Nat.le_trans h.2.2.1 h2, Nat.le_trans h.2.2.2 h1⟩
theorem sh_int {i : Int} (h : i.natAbs < 10 ^ 12) : Sh 41 0 (.int i) := ⟨rfl, by simpa [T.smI] using h, Nat.le_refl _, Nat.le_refl _⟩
theorem sh_non : Sh 41 0 .non := ⟨rfl, rfl, Nat.le_refl _, Nat.zero_le _⟩
theorem sh_bl {b : Bool} : Sh 41 0 (.bl b) := ⟨rfl, rfl, Nat.le_refl _, Nat.zero_le _⟩
theorem sh_tO {o : Option Int} (h : ∀ a, o = some a → a.natAbs < 10 ^ 12) : Sh 41 0 (tO o) := by
  cases o with
  | none => exact sh_non
  | some a => exact sh_int (h a rfl)
theorem sh_all {n d : Nat} : ∀ {xs : List T}, (∀ x ∈ xs, Sh n d x) → T.okPs xs = true ∧ T.smIs xs = true ∧ T.wts xs ≤ (n + 1) * xs.length
  | [], _ => ⟨rfl, rfl, Nat.zero_le _⟩
  | x :: xs, h => by
    obtain ⟨a, b, c⟩ := sh_all (xs := xs) fun y hy => h y (List.mem_cons_of_mem _ hy)
    obtain ⟨p, q, _, r⟩ := h x (by simp)
    refine ⟨by simp [T.okPs, p, a], by simp [T.smIs, q, b], ?_⟩
    simp only [T.wts, List.length_cons, Nat.mul_add, Nat.mul_one]
    omega
theorem sh_tup {n d L : Nat} {xs : List T} (hl : xs.length ≤ L) (h : ∀ x ∈ xs, Sh n d x) : Sh ((n + 1) * L) (d + 1) (.tup xs) := by
  obtain ⟨a, b, c⟩ := sh_all h
  exact ⟨a, b, dep_tup fun x hx => (h x hx).2.2.1, Nat.le_trans c (Nat.mul_le_mul_left _ hl)⟩
theorem sh_tI {xs : List Int} {L : Nat} (hl : xs.length ≤ L) (h : ∀ a ∈ xs, a.natAbs < 10 ^ 12) : Sh (42 * L) 1 (tI xs) := by
  refine sh_tup (n := 41) (d := 0) (by simpa using hl) fun x hx => ?_
  simp at hx
  obtain ⟨a, ha, rfl⟩ := hx
  exact sh_int (h a ha)
theorem sh_tR {xs : List (Option Int)} {L : Nat} (hl : xs.length ≤ L) (h : ∀ a, some a ∈ xs → a.natAbs < 10 ^ 12) : Sh (42 * L) 1 (tR xs) := by
  refine sh_tup (n := 41) (d := 0) (by simpa using hl) fun x hx => ?_
  simp at hx
  obtain ⟨a, ha, rfl⟩ := hx
  exact sh_tO fun b hb => h b (hb ▸ ha)
theorem sh_form {form : List Int} (hf : FormOk form) : Sh 336 1 (tI form) := sh_tI (L := 8) hf.2.1 fun a ha => by have := hf.2.2.1 a ha; omega
theorem sh_box {form : List Int} {b : List (List Int)} (hf : FormOk form) (h : BoxOk form b) : Sh 336008 2 (tB b) := by
  refine sh_tup (n := 42000) (L := 8) (d := 1) (by rw [List.length_map, h.1]; exact hf.2.1) fun x hx => ?_
  simp at hx
  obtain ⟨lot, hl, rfl⟩ := hx
  obtain ⟨i, hi⟩ := List.mem_iff_getElem?.mp hl
  obtain ⟨m, hm⟩ : ∃ m, form[i]? = some m := ⟨_, List.getElem?_eq_getElem (by have := (List.getElem?_eq_some_iff.mp hi).1; rw [h.1] at this; exact this)⟩
  have lo := h.2.2 _ (zip_at hi hm)
  have hmb := hf.2.2.1 m (List.mem_of_getElem? hm)
  exact sh_tI (L := 1000) lo.2.2.2 fun a ha => by have := lo.1 a ha; simp only at this; omega
theorem sh_fault {form f : List Int} (hf : FormOk form) (h : f ∈ faults form) : Sh 336 1 (tI f) := by
  obtain ⟨h1, h2⟩ := (mem_faults form f).mp h
  refine sh_tI (L := 8) (by rw [h1]; exact hf.2.1) fun a ha => ?_
  obtain ⟨i, hi⟩ := List.mem_iff_getElem?.mp ha
  obtain ⟨m, hm⟩ : ∃ m, form[i]? = some m := ⟨_, List.getElem?_eq_getElem (by have := (List.getElem?_eq_some_iff.mp hi).1; rw [h1] at this; exact this)⟩
  have := h2 _ (zip_at hi hm)
  have hmb := hf.2.2.1 m (List.mem_of_getElem? hm)
  simp only at this
  omega
theorem sh_rep {form : List Int} {r : List (Option Int)} (hf : FormOk form) (h : RepOk form r) : Sh 336 1 (tR r) := by
  refine sh_tR (L := 8) (by rw [h.1]; exact hf.2.1) fun a ha => ?_
  obtain ⟨i, hi⟩ := List.mem_iff_getElem?.mp ha
  obtain ⟨m, hm⟩ : ∃ m, form[i]? = some m := ⟨_, List.getElem?_eq_getElem (by have := (List.getElem?_eq_some_iff.mp hi).1; rw [h.1] at this; exact this)⟩
  have := h.2.2 _ (zip_at hi hm) a rfl
  have hmb := hf.2.2.1 m (List.mem_of_getElem? hm)
  simp only at this
  omega

theorem cm_notin {x : T} {ys : List T} (hx : T.okD x = true) (hy : T.okDs ys = true) (dx : x.dep ≤ 60) (dy : T.deps ys ≤ 59) : Mini.cmp .notin (.t x) (.t (.tup ys)) = pure (!ys.any fun y => T.eqb y x) := by
  show (Mini.cmp .in_ (.t x) (.t (.tup ys)) >>= fun r => pure !r) = _
  rw [cm_in hx hy dx dy]
  rfl
theorem eqb_non (o : Option Int) : T.eqb (tO o) .non = o.isNone := by cases o <;> rfl
@[simp] theorem cm_nn2 (o p : Option Int) : Mini.cmp .notin (.t .non) (.t (.tup [tO o, tO p])) = pure (!(o.isNone || p.isNone)) := by
  rw [cm_notin rfl (by simp [T.okDs]) (Nat.zero_le _) (by simp [T.deps])]
  simp [eqb_non]
@[simp] theorem cm_nnf (f : List Int) : Mini.cmp .notin (.t .non) (.t (.tup (f.map T.int))) = pure true := by
  have e : ((f.map T.int).any fun y => T.eqb y .non) = false := by
    induction f with
    | nil => rfl
    | cons a as ih => simpa [T.eqb] using ih
  rw [cm_notin rfl (okD_ints f) (Nat.zero_le _) (by rw [dep_ints]; omega), e]
  rfl
@[simp] theorem cm_neO (o p : Option Int) : Mini.cmp .ne (.t (tO o)) (.t (tO p)) = pure (!decide (o = p)) := by
  rw [cm_ne (okD_tO o) (okD_tO p) (by simp) (by simp), eqb_tO]
@[simp] theorem cm_eqO (o p : Option Int) : Mini.cmp .eq (.t (tO o)) (.t (tO p)) = pure (decide (o = p)) := by
  rw [cm_eq (okD_tO o) (okD_tO p) (by simp) (by simp), eqb_tO]
def liesB (one other : List (List Int)) : Bool := (one.zip other).all fun p => p.1.all fun v => p.2.any fun a => decide (a = v)
def lotAnd (a b : List Int) : List Int := a.filter fun v => b.any fun w => decide (w = v)
def meetF (one other : List (List Int)) : Option (List (List Int)) := if ((one.zip other).map fun p => lotAnd p.1 p.2).any List.isEmpty then none else some ((one.zip other).map fun p => lotAnd p.1 p.2)
def tTB : Option (List (List Int)) → T
  | none => .non
  | some b => tB b
def rangeI (m : Int) : List Int := (List.range m.toNat).map fun (i : Nat) => (i : Int)
def rlot (p : Option Int × Int) : List Int := match p.1 with
  | none => rangeI p.2
  | some a => [a]
def rboxF (form : List Int) (r : List (Option Int)) : List (List Int) := (r.zip form).map rlot
def fieldsF (form : List Int) (b : List (List Int)) : List Int := (((List.range form.length).zip form).filter fun p => decide (((b.getD p.1 []).length : Int) < p.2)).map fun p => (p.1 : Int)
theorem okD_tI (xs : List Int) : T.okD (tI xs) = true := okD_ints xs
theorem okDs_tB (b : List (List Int)) : T.okDs (b.map tI) = true := by
  induction b with
  | nil => rfl
  | cons a as ih => simp [T.okDs, okD_tI, ih]
theorem deps_tB (b : List (List Int)) : T.deps (b.map tI) ≤ 1 := deps_all.mpr fun x hx => by
  obtain ⟨a, _, rfl⟩ := List.mem_map.mp hx
  exact dep_tI a
theorem okDs_all : ∀ {xs : List T}, T.okDs xs = true ↔ ∀ x ∈ xs, T.okD x = true
  | [] => by simp [T.okDs]
  | x :: xs => by simp [T.okDs, okDs_all (xs := xs)]
theorem okD_tB (b : List (List Int)) : T.okD (tB b) = true := okDs_tB b
theorem okD_tRs (rs : List (List (List Int))) : T.okD (tRs rs) = true := okDs_all.mpr fun x hx => by
  obtain ⟨b, _, rfl⟩ := List.mem_map.mp hx
  exact okD_tB b
theorem eqb_comm (x y : T) : T.eqb x y = T.eqb y x := by
  cases h : T.eqb y x with
  | true => rw [T.eq_of_eqb _ _ h, T.eqb_refl]
  | false =>
    cases h2 : T.eqb x y with
    | false => rfl
    | true =>
      rw [T.eq_of_eqb _ _ h2, T.eqb_refl] at h
      cases h
theorem okD2 {a b : T} (ha : T.okD a = true) (hb : T.okD b = true) : T.okD (.tup [a, b]) = true := by simp [T.okD, T.okDs, ha, hb]
theorem dep2 {a b : T} {n : Nat} (ha : a.dep ≤ n) (hb : b.dep ≤ n) : (T.tup [a, b]).dep ≤ n + 1 := dep_tup (by simp [ha, hb])
/-! ### lists as data -/
theorem ld_l {s : S} {xs : List T} (hx : T.okDs xs = true) : (TV.l xs).dat s = some (.list (T.toDs xs)) := by
  show (T.datAll (refD s 40) xs).map PyData.list = _
  rw [(dats_ok (refD s 40) xs hx).1]
  rfl
theorem ld_s {s : S} {xs : List T} {g : List GI} (hx : T.okDs xs = true) : (TV.s xs g).dat s = some (.list (T.toDs xs)) := by
  show (T.datAll (refD s 40) xs).map PyData.list = _
  rw [(dats_ok (refD s 40) xs hx).1]
  rfl
theorem ld_r {s : S} {n : Nat} {xs : List T} (h : s[n]? = some (.lst xs)) (hx : T.okDs xs = true) : (TV.t (.ref n)).dat s = some (.list (T.toDs xs)) := by
  show refD s 40 n = _
  unfold refD
  rw [h]
  show (T.datAll (refD s 39) xs).map PyData.list = _
  rw [(dats_ok (refD s 39) xs hx).1]
  rfl
theorem datEqL {s : S} {a b : TV} {xs ys : List T} (ha : a.dat s = some (.list (T.toDs xs))) (hb : b.dat s = some (.list (T.toDs ys))) (hx : T.okDs xs = true) (hy : T.okDs ys = true) (dx : T.deps xs ≤ 59) (dy : T.deps ys ≤ 59) : datEq a b s = .ok (T.eqbAll xs ys) s := by
  have sh : ∀ zs : List T, T.okDs zs = true → T.deps zs ≤ 59 → SeqAt.shaped (.list (T.toDs zs)) = true := fun zs hz dz => by
    obtain ⟨_, e3, e4⟩ := dats_ok (refD s 40) zs hz
    unfold SeqAt.shaped
    simp only [PyData.canLay0, PyData.depth, e3, e4, Bool.true_and, decide_eq_true_eq]
    omega
  unfold datEq
  rw [ha, hb]
  simp only [sh xs hx dx, sh ys hy dy, Bool.and_self, if_true]
  have := eqvs_ok xs ys hx hy
  simp only [PyData.eqv, this]
theorem cmL_eq {s : S} {a b : TV} {xs ys : List T} (ha : a.dat s = some (.list (T.toDs xs))) (hb : b.dat s = some (.list (T.toDs ys))) (hx : T.okDs xs = true) (hy : T.okDs ys = true) (dx : T.deps xs ≤ 59) (dy : T.deps ys ≤ 59) : Mini.cmp .eq a b s = .ok (T.eqbAll xs ys) s := datEqL ha hb hx hy dx dy
theorem cmL_ne {s : S} {a b : TV} {xs ys : List T} (ha : a.dat s = some (.list (T.toDs xs))) (hb : b.dat s = some (.list (T.toDs ys))) (hx : T.okDs xs = true) (hy : T.okDs ys = true) (dx : T.deps xs ≤ 59) (dy : T.deps ys ≤ 59) : Mini.cmp .ne a b s = .ok (!T.eqbAll xs ys) s := by
  show (datEq a b >>= fun r => pure !r) s = _
  rw [m_ok (datEqL ha hb hx hy dx dy)]
  rfl
theorem emp_in (b : List (List Int)) : Mini.cmp .in_ (.t (.tup [])) (.t (tB b)) = pure (b.any List.isEmpty) := by
  rw [cm_in rfl (okDs_tB b) (by simp [T.dep, T.deps]) (by have := deps_tB b; omega), List.any_map]
  congr 2
  funext l
  cases l <;> rfl
theorem rgI_map (m : Int) : (List.range m.toNat).map (T.int ∘ fun (i : Nat) => (i : Int)) = (rangeI m).map T.int := by simp [rangeI]
theorem fault_in_spec {l : Nat} (form f : List Int) (h8 : form.length ≤ 1000) (h : f ∈ faults form) : callN P (l + 4) HD.n_fault_in [.t (tI form), .t (tI f)] = pure (.t (.bl true)) := by
  refine w_pc (fd := HD.f_fault_in) rfl rfl fun s => ?_
  have := report_in_spec (l := l) form (f.map some) (rep_of_fault h8 h)
  rw [← tI_tR] at this
  simp [HD.f_fault_in, this]
theorem check_fault_spec {l : Nat} (form f : List Int) (h8 : form.length ≤ 1000) (h : f ∈ faults form) : callN P (l + 5) HD.n_check_fault [.t (tI form), .t (tI f)] = pure (.t .non) := by
  refine w_pc (fd := HD.f_check_fault) rfl rfl fun s => ?_
  simp [HD.f_check_fault, fault_in_spec form f h8 h]
/-- two reports say unlike values of a field -/
def clashAt (rs : List (List (Option Int))) (a b i : Nat) : Prop := ∃ p q : List (Option Int), rs[a]? = some p ∧ rs[b]? = some q ∧ ∃ x y : Int, p[i]? = some (some x) ∧ q[i]? = some (some y) ∧ x ≠ y
def clash (rs : List (List (Option Int))) : Prop := ∃ a b i, a < b ∧ clashAt rs a b i
def orR (f r : List (Option Int)) : List (Option Int) := (f.zip r).map fun p => if p.1.isNone then p.2 else p.1
/-- a row: a list that is read, a tuple, a shared list -/
def RowS (s : S) (v : TV) (xs : List T) : Prop := v = .s xs [] ∨ v = .t (.tup xs) ∨ ∃ n, v = .t (.ref n) ∧ s[n]? = some (.lst xs)
structure RowF (s : S) (v : TV) (xs : List T) (g : List GI) : Prop where
  iv : itOf v s = .ok (xs, g) s
  ok : g.all (GI.okS s) = true
  lk : ∀ ρ, lockOk ρ g = true
  lc : ∀ ρ, lock ρ g = ρ
  ln : Mini.bi .len [v] s = .ok (.t (.int xs.length)) s
  ix : ∀ (i : Int) (x : T), L2.atI xs i = some x → ixOf v (.t (.int i)) s = .ok (.t x) s
  rd : ∀ i, rdO i (some (some v)) = some v
  ag : argOf v = v
  kn : isKnown s v = true
  ty : isTy P s v .list = true ∨ isTy P s v .tuple = true
def gOf (xs : List T) : TV → List GI
  | .t (.ref n) => [.o n xs]
  | _ => []
theorem RowS.facts {s : S} {v : TV} {xs : List T} (h : RowS s v xs) : RowF s v xs (gOf xs v) := by
  rcases h with rfl | rfl | ⟨n, rfl, h⟩
  · exact ⟨rfl, rfl, fun _ => rfl, fun _ => rfl, rfl, fun i x e => by simp [e], fun _ => rfl, rfl, rfl, .inl rfl⟩
  · exact ⟨rfl, rfl, fun _ => rfl, fun _ => rfl, rfl, fun i x e => by simp [e], fun _ => rfl, rfl, rfl, .inr rfl⟩
  · exact ⟨it_ref h, by simpa [gOf] using oks_o h, fun _ => rfl, fun _ => rfl, len_ok h, fun i x e => ix_ok h e, fun _ => rfl, rfl, kn_r h, .inl rfl⟩
theorem RowS.step {s s' : S} {v : TV} {xs : List T} (h : RowS s v xs) (k : ∀ n, n < s.length → s'[n]? = s[n]?) : RowS s' v xs := by
  rcases h with h | h | ⟨n, h, e⟩
  · exact .inl h
  · exact .inr (.inl h)
  · exact .inr (.inr ⟨n, h, by rw [k n (List.getElem?_eq_some_iff.mp e).1]; exact e⟩)
theorem cm_notI (v : Int) (xs : List Int) : Mini.cmp .notin (.t (.int v)) (.t (tI xs)) = pure (!xs.any fun a => decide (a = v)) := by
  have := cm_notin (x := .int v) (ys := xs.map T.int) rfl (okD_ints xs) (Nat.zero_le _) (by rw [dep_ints]; omega)
  rw [List.any_map] at this
  exact this
theorem heldB_iff {b : List (List Int)} {f : List Int} : heldB b f = true ↔ ∀ (j : Nat) (lot : List Int) (v : Int), b[j]? = some lot → f[j]? = some v → v ∈ lot := by
  unfold heldB
  rw [List.all_eq_true]
  constructor
  · intro h j lot v h1 h2
    have := h (lot, v) (zip_at h1 h2)
    simpa using this
  · rintro h ⟨lot, v⟩ hp
    obtain ⟨j, hj⟩ := List.mem_iff_getElem?.mp hp
    rw [List.getElem?_zip_eq_some] at hj
    have := h j lot v hj.1 hj.2
    simpa using this
theorem held_ext {form : List Int} {b : List (List Int)} (hl : b.length = form.length) (hb : ∀ (j : Nat) (lot : List Int) (m : Int), b[j]? = some lot → form[j]? = some m → lot ≠ [] ∧ ∀ v ∈ lot, 0 ≤ v ∧ v < m) {j : Nat} {lot : List Int} {v : Int} (hj : b[j]? = some lot) (hv : v ∈ lot) :
    ∃ f ∈ faults form, heldB b f = true ∧ f[j]? = some v := by
  have jl := (List.getElem?_eq_some_iff.mp hj).1
  refine ⟨(b.map fun l => l.headD 0).set j v, (mem_faults _ _).mpr ⟨by simp [hl], ?_⟩, ?_, by rw [List.getElem?_set_self (by simpa using jl)]⟩
  · rintro ⟨x, m⟩ hp
    obtain ⟨i, hi⟩ := List.mem_iff_getElem?.mp hp
    rw [List.getElem?_zip_eq_some] at hi
    by_cases z : i = j
    · subst z
      rw [List.getElem?_set_self (by simpa using jl)] at hi
      simp at hi
      obtain ⟨rfl, h2⟩ := hi
      exact (hb i lot m hj h2).2 _ hv
    · rw [List.getElem?_set_ne (fun w => z w.symm)] at hi
      simp at hi
      obtain ⟨⟨l2, h1, rfl⟩, h2⟩ := hi
      obtain ⟨n1, n2⟩ := hb i l2 m h1 h2
      cases l2 with
      | nil => exact absurd rfl n1
      | cons a as => exact n2 _ (by simp)
  · rw [heldB_iff]
    intro i l2 x h1 h2
    by_cases z : i = j
    · subst z
      rw [List.getElem?_set_self (by simpa using jl)] at h2
      simp at h2
      subst h2
      rw [hj] at h1; cases h1
      exact hv
    · rw [List.getElem?_set_ne (fun w => z w.symm)] at h2
      simp at h2
      obtain ⟨l3, h3, rfl⟩ := h2
      rw [h1] at h3; cases h3
      have im : ∃ m, form[i]? = some m := ⟨_, List.getElem?_eq_getElem (by have := (List.getElem?_eq_some_iff.mp h1).1; omega)⟩
      obtain ⟨m, hm⟩ := im
      obtain ⟨n1, n2⟩ := hb i l2 m h1 hm
      cases l2 with
      | nil => exact absurd rfl n1
      | cons a as => simp
theorem box_lots {form : List Int} {b : List (List Int)} (h : BoxOk form b) : ∀ (j : Nat) (lot : List Int) (m : Int), b[j]? = some lot → form[j]? = some m → lot ≠ [] ∧ ∀ v ∈ lot, 0 ≤ v ∧ v < m := by
  intro j lot m h1 h2
  have := h.2.2 _ (zip_at h1 h2)
  exact ⟨this.2.2.1, fun v hv => by have := this.1 v hv; simp only at this; omega⟩
theorem lies_iff {form : List Int} {one other : List (List Int)} (h1 : BoxOk form one) (h2 : BoxOk form other) : liesB one other = ((faults form).filter (heldB one)).all (heldB other) := by
  rw [Bool.eq_iff_iff]
  simp only [List.all_eq_true, List.mem_filter, liesB]
  constructor
  · rintro h f ⟨hf, hh⟩
    rw [heldB_iff] at hh ⊢
    intro j lot v e1 e2
    obtain ⟨l1, hl1⟩ : ∃ l1, one[j]? = some l1 := ⟨_, List.getElem?_eq_getElem (by have := (List.getElem?_eq_some_iff.mp e1).1; rw [h2.1] at this; rw [h1.1]; exact this)⟩
    have := h (l1, lot) (zip_at hl1 e1) v (hh j l1 v hl1 e2)
    simpa using this
  · rintro h ⟨l1, l2⟩ hp v hv
    obtain ⟨j, hj⟩ := List.mem_iff_getElem?.mp hp
    rw [List.getElem?_zip_eq_some] at hj
    obtain ⟨f, hf, hh, hfv⟩ := held_ext h1.1 (box_lots h1) hj.1 hv
    have := heldB_iff.mp (h f ⟨hf, hh⟩) j l2 v hj.2 hfv
    simpa using this
def meetL (one other : List (List Int)) : List (List Int) := (one.zip other).map fun p => lotAnd p.1 p.2
theorem meetL_at {one other : List (List Int)} {j : Nat} {a b : List Int} (h1 : one[j]? = some a) (h2 : other[j]? = some b) : (meetL one other)[j]? = some (lotAnd a b) := by
  unfold meetL
  rw [List.getElem?_map, List.getElem?_zip_eq_some (z := (a, b)) |>.mpr ⟨h1, h2⟩]
  rfl
theorem meetL_inv {one other : List (List Int)} {j : Nat} {lot : List Int} (h : (meetL one other)[j]? = some lot) : ∃ x y, one[j]? = some x ∧ other[j]? = some y ∧ lot = lotAnd x y := by
  unfold meetL at h
  rw [List.getElem?_map, Option.map_eq_some_iff] at h
  obtain ⟨⟨x, y⟩, h1, rfl⟩ := h
  rw [List.getElem?_zip_eq_some] at h1
  exact ⟨x, y, h1.1, h1.2, rfl⟩
theorem meetL_held {form : List Int} {one other : List (List Int)} (h1 : BoxOk form one) (h2 : BoxOk form other) (f : List Int) : heldB (meetL one other) f = (heldB one f && heldB other f) := by
  rw [Bool.eq_iff_iff, Bool.and_eq_true]
  simp only [heldB_iff]
  constructor
  · intro h
    constructor
    · intro j lot v e1 e2
      obtain ⟨l2, hl2⟩ : ∃ l1, other[j]? = some l1 := ⟨_, List.getElem?_eq_getElem (by have := (List.getElem?_eq_some_iff.mp e1).1; rw [h1.1] at this; rw [h2.1]; exact this)⟩
      have := h j (lotAnd lot l2) v (meetL_at e1 hl2) e2
      exact (List.mem_filter.mp this).1
    · intro j lot v e1 e2
      obtain ⟨l1, hl1⟩ : ∃ l1, one[j]? = some l1 := ⟨_, List.getElem?_eq_getElem (by have := (List.getElem?_eq_some_iff.mp e1).1; rw [h2.1] at this; rw [h1.1]; exact this)⟩
      have := h j (lotAnd l1 lot) v (meetL_at hl1 e1) e2
      simpa using (List.mem_filter.mp this).2
  · rintro ⟨a, b⟩ j lot v e1 e2
    obtain ⟨x, y, q1, q2, rfl⟩ := meetL_inv e1
    exact List.mem_filter.mpr ⟨a j x v q1 e2, by simpa using b j y v q2 e2⟩
theorem meetL_lot {form : List Int} {one other : List (List Int)} (h1 : BoxOk form one) {j : Nat} {lot : List Int} {m : Int} (e : (meetL one other)[j]? = some lot) (hm : form[j]? = some m) : lot.Pairwise (· < ·) ∧ ∀ v ∈ lot, 0 ≤ v ∧ v < m := by
  obtain ⟨x, y, q1, q2, rfl⟩ := meetL_inv e
  have := h1.2.2 _ (zip_at q1 hm)
  exact ⟨this.2.1.sublist List.filter_sublist, fun v hv => by have := this.1 v (List.mem_filter.mp hv).1; simp only at this; omega⟩
theorem meetL_len {form : List Int} {one other : List (List Int)} (h1 : BoxOk form one) (h2 : BoxOk form other) : (meetL one other).length = form.length := by
  simp [meetL, h1.1, h2.1]
theorem meet_none {form : List Int} {one other : List (List Int)} (h1 : BoxOk form one) (h2 : BoxOk form other) (f0 : 1 ≤ form.length) : (meetL one other).any List.isEmpty = ((faults form).filter fun f => heldB one f && heldB other f).isEmpty := by
  rw [Bool.eq_iff_iff]
  rw [List.any_eq_true, List.isEmpty_iff]
  constructor
  · rintro ⟨lot, hm, he⟩
    rw [List.isEmpty_iff] at he
    subst he
    obtain ⟨j, hj⟩ := List.mem_iff_getElem?.mp hm
    rw [List.filter_eq_nil_iff]
    intro f hf
    rw [← meetL_held h1 h2]
    intro hh
    obtain ⟨v, hv⟩ : ∃ v, f[j]? = some v := ⟨_, List.getElem?_eq_getElem (by have := (List.getElem?_eq_some_iff.mp hj).1; rw [meetL_len h1 h2] at this; rw [faults_flen form f hf]; exact this)⟩
    have := heldB_iff.mp hh j [] v hj hv
    cases this
  · intro h
    apply Classical.byContradiction
    intro hn
    have ne : ∀ lot ∈ meetL one other, lot ≠ [] := by
      rintro lot hl rfl
      exact hn ⟨[], hl, rfl⟩
    obtain ⟨l0, h0⟩ : ∃ l0, (meetL one other)[0]? = some l0 := ⟨_, List.getElem?_eq_getElem (by rw [meetL_len h1 h2]; omega)⟩
    obtain ⟨a, as, e⟩ := List.exists_cons_of_ne_nil (ne l0 (List.mem_of_getElem? h0))
    obtain ⟨f, hf, hh, _⟩ := held_ext (meetL_len h1 h2) (fun j lot m q1 q2 => ⟨ne lot (List.mem_of_getElem? q1), (meetL_lot h1 q1 q2).2⟩) h0 (v := a) (by rw [e]; simp)
    rw [meetL_held h1 h2] at hh
    rw [List.filter_eq_nil_iff] at h
    exact h f hf hh
theorem meet_col {form : List Int} {one other : List (List Int)} (h1 : BoxOk form one) (h2 : BoxOk form other) (hn : (meetL one other).any List.isEmpty = false) {j : Nat} {lot : List Int} (hj : (meetL one other)[j]? = some lot) :
    isort (dedup (((faults form).filter fun f => heldB one f && heldB other f).map fun f => f.getD j 0)) = lot := by
  have jl := (List.getElem?_eq_some_iff.mp hj).1
  rw [meetL_len h1 h2] at jl
  obtain ⟨m, hm⟩ : ∃ m, form[j]? = some m := ⟨_, List.getElem?_eq_getElem jl⟩
  have ne : ∀ lot ∈ meetL one other, lot ≠ [] := by
    rintro lot hl rfl
    rw [List.any_eq_false] at hn
    exact hn [] hl rfl
  refine asc_eq (sset_pw _) (meetL_lot h1 hj hm).1 fun v => ?_
  rw [mem_sset, List.mem_map]
  constructor
  · rintro ⟨f, hf, rfl⟩
    rw [List.mem_filter, ← meetL_held h1 h2] at hf
    have fl := faults_flen form f hf.1
    have e2 : f[j]? = some (f.getD j 0) := by simp [List.getD, List.getElem?_eq_getElem (show j < f.length by omega)]
    exact heldB_iff.mp hf.2 j lot _ hj e2
  · intro hv
    obtain ⟨f, hf, hh, hfv⟩ := held_ext (meetL_len h1 h2) (fun j lot m q1 q2 => ⟨ne lot (List.mem_of_getElem? q1), (meetL_lot h1 q1 q2).2⟩) hj hv
    rw [meetL_held h1 h2] at hh
    exact ⟨f, List.mem_filter.mpr ⟨hf, hh⟩, by simp [List.getD, hfv]⟩
@[simp] theorem cm_is_s {xs : List T} {g : List GI} : Mini.cmp .is_ (.s xs g) (.t .non) = pure false := rfl
theorem emp_inL (b : List (List Int)) (g : List GI) : Mini.cmp .in_ (.t (.tup [])) (.s (b.map tI) g) = pure (b.any List.isEmpty) := emp_in b
def evT : Option (List (List Int)) → TV
  | none => .t .non
  | some fs => .s (fs.map tI) []
theorem meet_box {form : List Int} {one other q : List (List Int)} (h1 : BoxOk form one) (h2 : BoxOk form other) (h : meetF one other = some q) : BoxOk form q := by
  have e : meetF one other = if (meetL one other).any List.isEmpty then none else some (meetL one other) := rfl
  rw [e] at h
  by_cases z : (meetL one other).any List.isEmpty = true
  · rw [if_pos z] at h; cases h
  · rw [if_neg z] at h
    cases h
    refine ⟨meetL_len h1 h2, h1.2.1, ?_⟩
    rintro ⟨lot, m⟩ hp
    obtain ⟨j, hj⟩ := List.mem_iff_getElem?.mp hp
    rw [List.getElem?_zip_eq_some] at hj
    have lo := meetL_lot h1 hj.1 hj.2
    obtain ⟨x, y, q1, q2, rfl⟩ := meetL_inv hj.1
    refine ⟨fun a ha => by have := lo.2 a ha; simp only at this ⊢; omega, lo.1, ?_, ?_⟩
    · intro he
      simp only at he
      apply z
      rw [List.any_eq_true]
      exact ⟨_, List.mem_of_getElem? hj.1, by rw [he]; rfl⟩
    · have := (h1.2.2 _ (zip_at q1 hj.2)).2.2.2
      exact Nat.le_trans (List.length_filter_le ..) this
theorem meet_comm {form : List Int} {one other : List (List Int)} (h1 : BoxOk form one) (h2 : BoxOk form other) : meetF one other = meetF other one := by
  have e : meetL one other = meetL other one := by
    apply List.ext_getElem?
    intro i
    by_cases hi : i < form.length
    · obtain ⟨a, q1⟩ : ∃ a, one[i]? = some a := ⟨_, List.getElem?_eq_getElem (by rw [h1.1]; exact hi)⟩
      obtain ⟨b, q2⟩ : ∃ a, other[i]? = some a := ⟨_, List.getElem?_eq_getElem (by rw [h2.1]; exact hi)⟩
      rw [meetL_at q1 q2, meetL_at q2 q1]
      have hm : form[i]? = some form[i] := List.getElem?_eq_getElem hi
      refine congrArg some (asc_eq ((meetL_lot h1 (meetL_at q1 q2) hm).1) ((meetL_lot h2 (meetL_at q2 q1) hm).1) fun v => ?_)
      simp [lotAnd]
      exact And.comm
    · rw [List.getElem?_eq_none (by rw [meetL_len h1 h2]; omega), List.getElem?_eq_none (by rw [meetL_len h2 h1]; omega)]
  show (if (meetL one other).any List.isEmpty then none else some (meetL one other)) = if (meetL other one).any List.isEmpty then none else some (meetL other one)
  rw [e]
theorem last_fault {form : List Int} {b : List (List Int)} (h : BoxOk form b) : b.map (fun l => l.getD (l.length - 1) 0) ∈ faults form := by
  refine (mem_faults _ _).mpr ⟨by simp [h.1], ?_⟩
  rintro ⟨v, m⟩ hp
  obtain ⟨j, hj⟩ := List.mem_iff_getElem?.mp hp
  rw [List.getElem?_zip_eq_some] at hj
  simp only [List.getElem?_map, Option.map_eq_some_iff] at hj
  obtain ⟨⟨lot, e1, e2⟩, e3⟩ := hj
  have := box_lots h j lot m e1 e3
  refine this.2 v ?_
  rw [← e2]
  have lp := List.length_pos_iff.mpr this.1
  rw [List.getD, List.getElem?_eq_getElem (show lot.length - 1 < lot.length by omega)]
  exact List.getElem_mem _
@[simp] theorem tr_s {xs : List T} {g : List GI} : truth (.s xs g) = pure (!xs.isEmpty) := rfl
@[simp] theorem rd_evT {n : Nat} {ev : Option (List (List Int))} : rdO n (some (some (evT ev))) = some (evT ev) := by cases ev <;> rfl
@[simp] theorem ar_evT {ev : Option (List (List Int))} : argOf (evT ev) = evT ev := by cases ev <;> rfl
theorem fieldsF_range (form : List Int) (b : List (List Int)) : fieldsF form b = ((List.range form.length).filter fun j : Nat => decide (((b.getD j []).length : Int) < form.getD j 0)).map fun j : Nat => (j : Int) := by
  have e : (List.range form.length).zip form = (List.range form.length).map fun j : Nat => (j, form.getD j 0) := by
    apply List.ext_getElem?
    intro i
    by_cases hi : i < form.length
    · rw [List.getElem?_zip_eq_some (z := (i, form.getD i 0)) |>.mpr ⟨by simp [hi], by rw [List.getD, List.getElem?_eq_getElem hi]; rfl⟩]
      simp [hi]
    · rw [List.getElem?_eq_none (by simp; omega), List.getElem?_eq_none (by simp; omega)]
  unfold fieldsF
  rw [e, List.filter_map, List.map_map]
  rfl
mutual
theorem eqb_rf : ∀ t : T, T.okD t = true → T.eqb t t = true
  | .non, _ => rfl
  | .int i, _ => by simp [T.eqb]
  | .tup xs, h => by
    have := eqbs_rf xs h
    simpa [T.eqb] using this
theorem eqbs_rf : ∀ xs : List T, T.okDs xs = true → T.eqbAll xs xs = true
  | [], _ => rfl
  | x :: xs, h => by
    simp only [T.okDs, Bool.and_eq_true] at h
    simp [T.eqbAll, eqb_rf x h.1, eqbs_rf xs h.2]
end
theorem cm_neL {xs : List T} {g : List GI} (hx : T.okDs xs = true) (dx : T.deps xs ≤ 59) : Mini.cmp .ne (.l xs) (.s xs g) = pure false := by
  funext s
  obtain ⟨e2, e3, e4⟩ := dats_ok (refD s 40) xs hx
  have sh : SeqAt.shaped (.list (T.toDs xs)) = true := by
    unfold SeqAt.shaped
    simp only [PyData.canLay0, PyData.depth, e3, e4, Bool.true_and, decide_eq_true_eq]
    omega
  have h : datEq (.l xs) (.s xs g) s = .ok true s := by
    unfold datEq
    have a1 : (TV.l xs).dat s = some (.list (T.toDs xs)) := by show (T.datAll (refD s 40) xs).map PyData.list = _; rw [e2]; rfl
    have a2 : (TV.s xs g).dat s = some (.list (T.toDs xs)) := by show (T.datAll (refD s 40) xs).map PyData.list = _; rw [e2]; rfl
    rw [a1, a2]
    simp only [sh, Bool.and_self, if_true]
    have : PyData.eqv (.list (T.toDs xs)) (.list (T.toDs xs)) = true := by
      have := eqvs_ok xs xs hx hx
      rw [eqbs_rf xs hx] at this
      simpa [PyData.eqv] using this
    rw [this]
  show (datEq (.l xs) (.s xs g) >>= fun r => pure !r) s = _
  show M.bind (datEq (.l xs) (.s xs g)) (fun r => M.pure !r) s = _
  unfold M.bind
  rw [h]
  rfl
theorem okDs_tR : ∀ (rs : List (List (Option Int))), T.okDs (rs.map tR) = true
  | [] => rfl
  | r :: rs => by
    simp only [List.map_cons, T.okDs, okDs_tR rs, Bool.and_true]
    show T.okDs (r.map tO) = true
    induction r with
    | nil => rfl
    | cons o r ih => simp [T.okDs, ih]
theorem deps_tR (rs : List (List (Option Int))) : T.deps (rs.map tR) ≤ 1 := deps_all.mpr fun x hx => by
  simp at hx
  obtain ⟨r, _, rfl⟩ := hx
  exact dep_tR r
theorem rbox_ok {form : List Int} {r : List (Option Int)} (hf : FormOk form) (h : RepOk form r) : BoxOk form (rboxF form r) := by
  obtain ⟨f1, f2, f3, f4⟩ := hf
  refine ⟨by simp [rboxF, h.1], by omega, ?_⟩
  rintro ⟨lot, m⟩ hp
  obtain ⟨j, hj⟩ := List.mem_iff_getElem?.mp hp
  rw [List.getElem?_zip_eq_some] at hj
  obtain ⟨h1, h2⟩ := hj
  unfold rboxF at h1
  rw [List.getElem?_map, Option.map_eq_some_iff] at h1
  obtain ⟨⟨o, m'⟩, h1, e⟩ := h1
  rw [List.getElem?_zip_eq_some] at h1
  simp only at h1 h2
  rw [h2] at h1
  obtain ⟨h1, h3⟩ := h1
  cases h3
  have hm := f3 m (List.mem_of_getElem? h2)
  simp only at e
  subst e
  cases o with
  | none => exact full_lot hm.1 hm.2
  | some a => 
    have := h.2.2 _ (zip_at h1 h2) a rfl
    simp only at this
    exact one_lot this.1 (by omega)
theorem rbox_held {form f : List Int} {r : List (Option Int)} (h : RepOk form r) (hfm : f ∈ faults form) : heldB (rboxF form r) f = agreeB r f := by
  obtain ⟨l1, l2⟩ := (mem_faults _ _).mp hfm
  rw [Bool.eq_iff_iff, heldB_iff]
  unfold agreeB
  rw [List.all_eq_true]
  have at_ : ∀ (j : Nat) (o : Option Int) (m : Int), r[j]? = some o → form[j]? = some m → (rboxF form r)[j]? = some (rlot (o, m)) := by
    intro j o m q1 q2
    unfold rboxF
    rw [List.getElem?_map, List.getElem?_zip_eq_some (z := (o, m)) |>.mpr ⟨q1, q2⟩]
    rfl
  constructor
  · rintro hh ⟨o, v⟩ hp
    obtain ⟨j, hj⟩ := List.mem_iff_getElem?.mp hp
    rw [List.getElem?_zip_eq_some] at hj
    obtain ⟨h1, h2⟩ := hj
    obtain ⟨m, hm⟩ : ∃ m, form[j]? = some m := ⟨_, List.getElem?_eq_getElem (by have := (List.getElem?_eq_some_iff.mp h1).1; have := h.1; omega)⟩
    have := hh j _ v (at_ j o m h1 hm) h2
    cases o with
    | none => rfl
    | some a =>
      simp [rlot] at this
      simp [this]
  · intro hh j lot v q1 q2
    unfold rboxF at q1
    rw [List.getElem?_map, Option.map_eq_some_iff] at q1
    obtain ⟨⟨o, m⟩, q1, rfl⟩ := q1
    rw [List.getElem?_zip_eq_some] at q1
    have hv := l2 _ (zip_at q2 q1.2)
    simp only at hv q1
    cases o with
    | none =>
      simp only [rlot, rangeI, List.mem_map, List.mem_range]
      exact ⟨v.toNat, by omega, by omega⟩
    | some a =>
      have := hh _ (zip_at q1.1 q2)
      simp at this
      simp [rlot, this]
abbrev HK (c : Nat) : Ki := .hand c
def drawRest : Sts := match HD.f__law_draw.body with
  | .cons _ r => r
  | _ => .nil
/-- the hand as it stands -/
structure HandAt (G : Sg) (s : S) (h c : Nat) (cells : List Int) (i : Nat) (big h3 h4 : Int) : Prop where
  kind : G[h]? = some (.hand c)
  hand : s[h]? = some (.lst [.ref c, .int i, .int big, .int h3, .int h4])
  kc : G[c]? = some (.cst (cells.map T.int))
  pos : ∀ a ∈ cells, 0 ≤ a
  b1 : 0 ≤ big
  b2 : 0 ≤ h3
  b3 : h3 < 2147483629
  b4 : 0 ≤ h4
theorem HT.hand {G : Sg} {k : Int} {s : S} (ht : HT G k s) {h c : Nat} (e : G[h]? = some (.hand c)) : ∃ cells i big h3 h4, HandAt G s h c cells i big h3 h4 ∧ h4 + k ≤ 1000000000 := by
  obtain ⟨o, a, cells, i, big, h3, h4, rfl, g, p, b1, b2, b3, b4, b5⟩ := ht.2 h _ e
  exact ⟨cells, i, big, h3, h4, ⟨e, a, g, p, b1, b2, b3, b4⟩, b5⟩
theorem HT.put {G : Sg} {k k' : Int} {s : S} (ht : HT G k s) {h c i i' : Nat} {cells : List Int} {big h3 h4 big' h3' h4' : Int} (a : HandAt G s h c cells i big h3 h4) (c1 : 0 ≤ big') (c2 : 0 ≤ h3') (c3 : h3' < 2147483629) (c4 : 0 ≤ h4') (c5 : h4' + k' ≤ 1000000000) (ck : k' ≤ k) :
    HT G k' (s.set h (.lst [.ref c, .int i', .int big', .int h3', .int h4'])) ∧ HandAt G (s.set h (.lst [.ref c, .int i', .int big', .int h3', .int h4'])) h c cells i' big' h3' h4' :=
  ⟨(ht.mono ck).set a.kind ⟨cells, i', big', h3', h4', rfl, a.kc, a.pos, c1, c2, c3, c4, c5⟩, a.kind, List.getElem?_set_self (ht.lt a.kind), a.kc, a.pos, c1, c2, c3, c4⟩
theorem draw_rest {C : Call} {G : Sg} {k : Int} {s : S} {h c i : Nat} {cells : List Int} {big h3 h4 limit : Int} {x3 : Option TV} (ht : HT G (k + 1) s) (ha : HandAt G s h c cells i big h3 h4) (hk : h4 + (k + 1) ≤ 1000000000) (k0 : 0 ≤ k) (l0 : 0 < limit) (l1 : limit ≤ 1000000) :
    @W _ (evalSs P C drawRest [some (.t (.ref h)), some (.t (.int limit)), none, x3, none]) s ⟨fun o s' => ∃ v, o = .rt (.t (.int v)) ∧ 0 ≤ v ∧ v < limit ∧ HT G k s'⟩ := by
  have hs := ha.hand
  have dl : DivOk limit := div_ok l0 (by omega)
  have b1 := ha.b1
  have b2 := ha.b2
  have b3 := ha.b3
  have b4 := ha.b4
  simp only [drawRest, HD.f__law_draw]
  simp [hs]
  refine w_if (fun hp => ?_) (fun hn => ?_)
  · simp [hs, l0, dl]
    exact ⟨Int.emod_nonneg _ (by omega), Int.emod_lt_of_pos _ l0, (ht.put (k' := k) ha (i' := i) (Int.ediv_nonneg b1 (by omega)) b2 b3 b4 (by omega) (by omega)).1⟩
  · have hl := ht.lt ha.kind
    have g5 := (ht.put (k' := k) ha (i' := i) (h4' := h4 + 1) b1 b2 b3 (by omega) (by omega) (by omega)).1
    simp [hs, List.getElem?_set_self hl]
    refine ⟨mul_ok (by omega) (by omega), mul_ok (by omega) (by omega), ?_⟩
    have n1 := Int.emod_nonneg ((h3 + 7919 * (h4 + 1)) * 48271) (b := 2147483647) (by omega)
    have n2 := Int.emod_lt_of_pos ((h3 + 7919 * (h4 + 1)) * 48271) (b := 2147483647) (by omega)
    generalize (h3 + 7919 * (h4 + 1)) * 48271 % 2147483647 = n at n1 n2
    refine ⟨div_ok (by omega) (by omega), mul_ok (by omega) (by omega), ?_⟩
    have n3 := Int.emod_nonneg (n * (n / 1009 + 69621)) (b := 2147483647) (by omega)
    have n4 := Int.emod_lt_of_pos (n * (n / 1009 + 69621)) (b := 2147483647) (by omega)
    generalize n * (n / 1009 + 69621) % 2147483647 = n' at n3 n4
    refine ⟨div_ok (by omega) (by omega), mul_ok (by omega) (by omega), ?_⟩
    refine ⟨div_ok (by omega) (by omega), l0, Int.emod_nonneg _ (by omega), Int.emod_lt_of_pos _ l0, g5⟩
theorem draw_spec {l : Nat} {G : Sg} {k : Int} {s : S} {h c : Nat} {limit : Int} (ht : HT G (k + 1) s) (e : G[h]? = some (.hand c)) (k0 : 0 ≤ k) (l0 : 0 < limit) (l1 : limit ≤ 1000000) :
    Go (callN P (l + 1) HD.n__law_draw [.t (.ref h), .t (.int limit)]) s fun v s' => ∃ a, v = .t (.int a) ∧ 0 ≤ a ∧ a < limit ∧ HT G k s' := by
  obtain ⟨cells, i, big, h3, h4, ha, hk⟩ := ht.hand e
  have fin : ∀ {s : S} {i : Nat} {big h3 h4 : Int} {x3 : Option TV}, HT G (k + 1) s → HandAt G s h c cells i big h3 h4 → h4 + (k + 1) ≤ 1000000000 → @W _ (evalSs P (callN P l) drawRest [some (.t (.ref h)), some (.t (.int limit)), none, x3, none]) s ⟨fun o s' => @W _ (fin o) s' ⟨fun v s' => ∃ a, v = .t (.int a) ∧ 0 ≤ a ∧ a < limit ∧ HT G k s'⟩⟩ := by
    intro s i big h3 h4 x3 ht ha hk
    refine go_imp (draw_rest ht ha hk k0 l0 l1) ?_
    rintro _ s' ⟨v, rfl, r⟩
    simpa using r
  refine go_c (fd := HD.f__law_draw) rfl rfl ?_
  have hs := ha.hand
  have hcs := ht.cst ha.kc
  have b1 := ha.b1
  have b2 := ha.b2
  have b3 := ha.b3
  have b4 := ha.b4
  simp only [HD.f__law_draw]
  simp [hs]
  refine w_if (fun hp => ?_) (fun hn => ?_)
  · subst hp
    simp [hs, hcs]
    refine w_if (fun hp => ?_) (fun hn => ?_)
    · have hl := ht.lt ha.kind
      have cp := ha.pos cells[i] (List.getElem_mem hp)
      have hg : cells[i]? = some cells[i] := List.getElem?_eq_getElem hp
      have pw : powOk 10 18 = true := by decide
      simp [hs, hcs, hg, pw, List.getElem?_set_self hl]
      refine ⟨mul_ok (by omega) (by omega), ?_⟩
      generalize hm : _ % (2147483629 : Int) = m
      have m0 : 0 ≤ m := hm ▸ Int.emod_nonneg _ (by omega)
      have m1 : m < 2147483629 := hm ▸ Int.emod_lt_of_pos _ (by omega)
      refine w_if (fun hb => ?_) (fun hb => ?_)
      · have p := ht.put (k' := k + 1) ha (i' := i + 1) (big' := cells[i]) (h3' := m) cp m0 m1 b4 hk (by omega)
        simp [-rest_nx, List.getElem?_set_self hl]
        refine Iff.mpr (ws_nil (P := P) (C := callN P l)) ?_
        refine Iff.mpr (ws_nil (P := P) (C := callN P l)) ?_
        exact fin p.1 p.2 hk
      · have p := ht.put (k' := k + 1) ha (i' := i + 1) (big' := 0) (h3' := m) (by omega) m0 m1 b4 hk (by omega)
        exact ws_nil.mpr (ws_nil.mpr (fin p.1 p.2 hk))
    · exact ws_nil.mpr (fin ht ha hk)
  · simp only [w_pure, kk_mk, tr_bl, hn, decide_false, w_bff]
    exact ws_nil.mpr (fin ht ha hk)

theorem hand_spec {l : Nat} (ns : List Int) (hn : ns.length ≤ 63) : Go (callN P (l + 1) HD.n__law_hand [.s (ns.map T.int) []]) [] fun v s' => ∃ (cells : List Int) (a : Int), (∀ c ∈ cells, 0 ≤ c) ∧ 0 ≤ a ∧ a < 1000000 ∧ v = .l [.ref 0, .int 0, .int 0, .int a, .int 0] ∧ s' = [.lst (cells.map T.int)] := by
  refine go_c (fd := HD.f__law_hand) rfl rfl ?_
  have e : ns.take 63 = ns := List.take_of_length_le hn
  have e1 : cut (ns.map T.int) none (some 63) = ns.map T.int := by rw [show (63 : Int) = ((63 : Nat) : Int) from rfl, cut_to, ← List.map_take, e]
  simp [HD.f__law_hand, e1]
  refine ⟨by omega, w_lcA (fun a => .int (if a < 0 then -a else a)) rfl (fun a _ => ⟨_, rfl, by simp, by simp⟩) ?_⟩
  simp
  refine ⟨ns.map fun a => if a < 0 then -a else a, ?_, _, ?_, ?_, rfl, by simp [Function.comp_def]⟩
  · intro c hc
    obtain ⟨a, _, rfl⟩ := List.mem_map.mp hc
    split <;> omega
  · omega
  · omega
theorem hand_HT {k : Int} {cells : List Int} {a : Int} (h1 : ∀ c ∈ cells, 0 ≤ c) (h2 : 0 ≤ a) (h3 : a < 1000000) (hk : k ≤ 1000000000) : HT [.cst (cells.map T.int), .hand 0] k [.lst (cells.map T.int), .lst [.ref 0, .int 0, .int 0, .int a, .int 0]] := by
  have h0 := (HT.nil (k := k)).alloc (.cst (cells.map T.int)) (.lst (cells.map T.int)) rfl
  exact h0.alloc (.hand 0) _ ⟨cells, 0, 0, a, 0, rfl, rfl, h1, by omega, h2, by omega, by omega, by omega⟩
theorem some_spec {l : Nat} {G : Sg} {k : Int} {s : S} {h c : Nat} {xs : List T} {v : TV} (ht : HT G (k + 1) s) (e : G[h]? = some (HK c)) (k0 : 0 ≤ k) (hv : v = .s xs [] ∨ v = .t (.tup xs)) (l0 : 0 < xs.length) (l1 : xs.length ≤ 1000000) :
    Go (callN P (l + 2) HD.n__law_any [.t (.ref h), v]) s fun v s' => ∃ x ∈ xs, v = .t x ∧ HT G k s' := by
  refine go_c (fd := HD.f__law_any) rfl rfl ?_
  have tail : ∀ {s' : S} {a : Int} (f : TV → M TV), (∀ a : Int, f (.t (.int a)) = (ofO (L2.atI xs a) >>= fun x => pure (TV.t x))) → 0 ≤ a → a < xs.length → HT G k s' → @W _ (f (.t (.int a))) s' ⟨fun v s' => ∃ x ∈ xs, v = .t x ∧ HT G k s'⟩ := by
    intro s' a f hf a0 a1 h1
    obtain ⟨n, rfl⟩ := Int.eq_ofNat_of_zero_le a0
    rw [hf]
    simp [List.getElem?_eq_getElem (show n < xs.length by omega), h1]
  rcases hv with rfl | rfl
  · simp [HD.f__law_any]
    refine w_use (draw_spec ht e k0 (by omega) (by omega)) ?_
    rintro _ s1 ⟨a, rfl, a0, a1, h1⟩
    obtain ⟨n, rfl⟩ := Int.eq_ofNat_of_zero_le a0
    simp [List.getElem?_eq_getElem (show n < xs.length by omega), h1]
  · simp [HD.f__law_any]
    refine w_use (draw_spec ht e k0 (by omega) (by omega)) ?_
    rintro _ s1 ⟨a, rfl, a0, a1, h1⟩
    obtain ⟨n, rfl⟩ := Int.eq_ofNat_of_zero_le a0
    simp [List.getElem?_eq_getElem (show n < xs.length by omega), h1]

/-- a draw for each of some sizes -/
theorem draws_lc {l : Nat} {G : Sg} {k : Int} {s : S} {h c : Nat} {form : List Int} {tgt : T → Option Mini.Env} {tst : Mini.Env → M Bool} {elt : Mini.Env → M T} {q : Kn (List T)} (ht : HT G (k + form.length) s) (e : G[h]? = some (HK c)) (k0 : 0 ≤ k) (hf : ∀ m ∈ form, 0 < m ∧ m ≤ 1000)
    (step : ∀ m : Int, ∃ ρ, tgt (.int m) = some ρ ∧ ∀ s, (@W _ (tst ρ) s ⟨fun r s' => r = true ∧ s' = s⟩) ∧ ∀ {q : Kn T}, @W _ (callN P (l + 1) HD.n__law_draw [.t (.ref h), .t (.int m)]) s ⟨fun v s' => @W _ (mat v) s' q⟩ → @W _ (elt ρ) s q)
    (he : ∀ (ys : List Int) (s' : S), ys.length = form.length → (∀ p ∈ ys.zip form, 0 ≤ p.1 ∧ p.1 < p.2) → HT G k s' → q.k (ys.map T.int) s') : W (lcL tgt tst elt (fun _ => true) (form.map T.int)) s := by
  refine w_lck (fun i zs s => ∃ ys : List Int, zs = ys.map T.int ∧ ys.length = i ∧ (∀ p ∈ ys.zip form, 0 ≤ p.1 ∧ p.1 < p.2) ∧ HT G (k + form.length - i) s) ⟨[], rfl, rfl, by simp, by simpa using ht⟩ ?_ ?_
  · rintro i m zs s hm ⟨ys, rfl, hl, hp, hs⟩
    have hil := (List.getElem?_eq_some_iff.mp hm).1
    have hmb := hf m (List.mem_of_getElem? hm)
    obtain ⟨ρ, h1, h2⟩ := step m
    refine ⟨rfl, ρ, h1, fun Z hZ => ?_⟩
    obtain ⟨h3, h4⟩ := h2 s
    refine go_imp h3 ?_
    rintro _ _ ⟨rfl, rfl⟩
    show @W _ (elt ρ) _ ⟨fun y s2 => Z (ys.map T.int ++ [y]) s2⟩
    refine h4 (w_use (draw_spec (k := k + form.length - (i + 1 : Nat)) (hs.mono (by omega)) e (by omega) hmb.1 (by omega)) ?_)
    rintro _ s2 ⟨a, rfl, a0, a1, h5⟩
    show @W _ (mat (.t (.int a))) s2 ⟨fun y s2 => Z (ys.map T.int ++ [y]) s2⟩
    rw [mt_t, w_pure, kk_mk]
    refine hZ _ _ ⟨ys ++ [a], by simp, by simp [hl], ?_, h5⟩
    intro p hp2
    rw [zip_snoc (y := m) (by rw [hl]; exact hm)] at hp2
    rcases List.mem_append.mp hp2 with hp2 | hp2
    · exact hp p hp2
    · simp at hp2
      subst hp2
      exact ⟨a0, a1⟩
  · rintro zs s ⟨ys, rfl, hl, hp, hs⟩
    exact ⟨rfl, he ys s hl hp (hs.mono (by omega))⟩
/-- some of the first numbers, picked by draws -/
theorem picks_lc {G : Sg} {k : Int} {s : S} {n : Nat} {tgt : T → Option Mini.Env} {tst : Mini.Env → M Bool} {elt : Mini.Env → M T} {q : Kn (List T)} (ht : HT G (k + n) s) (k0 : 0 ≤ k)
    (step : ∀ i : Nat, i < n → ∃ ρ, tgt (.int i) = some ρ ∧ (∀ (s : S) (kk : Int), 0 ≤ kk → HT G (kk + 1) s → @W _ (tst ρ) s ⟨fun _ s1 => HT G kk s1⟩) ∧ ∀ s, @W _ (elt ρ) s ⟨fun v s' => v = .int i ∧ s' = s⟩)
    (he : ∀ (ys : List Int) (s' : S), (∀ a ∈ ys, 0 ≤ a ∧ a ≤ (n : Int) - 1) → ys.Pairwise (· < ·) → ys.length ≤ n → HT G k s' → q.k (ys.map T.int) s') : W (lcL tgt tst elt (fun _ => true) ((List.range n).map (T.int ∘ fun (i : Nat) => (i : Int)))) s := by
  refine w_lck (fun i zs s => ∃ ys : List Int, zs = ys.map T.int ∧ ys.length ≤ i ∧ (∀ a ∈ ys, 0 ≤ a ∧ a < i) ∧ ys.Pairwise (· < ·) ∧ HT G (k + n - i) s) ⟨[], rfl, Nat.le_refl _, by simp, by simp, by simpa using ht⟩ ?_ ?_
  · rintro i m zs s hm ⟨ys, rfl, hl, hp, hw, hs⟩
    have hil := (List.getElem?_eq_some_iff.mp hm).1
    simp at hil
    rw [List.getElem?_range hil] at hm
    cases hm
    obtain ⟨ρ, h1, h2, h3⟩ := step i hil
    refine ⟨rfl, ρ, h1, fun Z hZ => ?_⟩
    refine go_imp (h2 s (k + n - (i + 1 : Nat)) (by omega) (hs.mono (by omega))) ?_
    intro r s1 h4
    show if r = true then @W _ (elt ρ) s1 ⟨fun y s2 => Z (ys.map T.int ++ [y]) s2⟩ else Z (ys.map T.int) s1
    cases r with
    | false =>
      rw [if_neg (by simp)]
      exact hZ _ _ ⟨ys, rfl, by omega, fun a ha => by have := hp a ha; omega, hw, h4⟩
    | true =>
      rw [if_pos rfl]
      refine go_imp (h3 s1) ?_
      rintro _ _ ⟨rfl, rfl⟩
      refine hZ _ _ ⟨ys ++ [(i : Int)], by simp, by simp; omega, ?_, ?_, h4⟩
      · intro a ha
        rcases List.mem_append.mp ha with ha | ha
        · have := hp a ha; omega
        · simp at ha; omega
      · rw [List.pairwise_append]
        refine ⟨hw, by simp, fun a ha b hb => ?_⟩
        simp at hb
        have := hp a ha
        omega
  · rintro zs s ⟨ys, rfl, hl, hp, hw, hs⟩
    simp at hl hp hs
    exact ⟨rfl, he ys s (fun a ha => by have := hp a ha; omega) hw (by omega) (hs.mono (by omega))⟩
/-- things made one by one, by c draws each -/
theorem many_lc {α : Type} {G : Sg} {k c : Int} {s : S} {Pd : T → Prop} {as : List α} {j : α → T} {tgt : T → Option Mini.Env} {tst : Mini.Env → M Bool} {elt : Mini.Env → M T} {q : Kn (List T)} (ht : HT G (k + c * as.length) s) (c0 : 0 ≤ c) (k0 : 0 ≤ k)
    (step : ∀ a ∈ as, ∃ ρ, tgt (j a) = some ρ ∧ (∀ s, @W _ (tst ρ) s ⟨fun r s' => r = true ∧ s' = s⟩) ∧ ∀ (s : S) (kk : Int), 0 ≤ kk → HT G (kk + c) s → ∀ Z : T → S → Prop, (∀ v s', Pd v → HT G kk s' → Z v s') → @W _ (elt ρ) s ⟨Z⟩)
    (he : ∀ (zs : List T) (s' : S), zs.length = as.length → (∀ z ∈ zs, Pd z) → HT G k s' → q.k zs s') : W (lcL tgt tst elt (fun _ => true) (as.map j)) s := by
  refine w_lck (fun i zs s => zs.length = i ∧ (∀ z ∈ zs, Pd z) ∧ HT G (k + c * ((as.length : Int) - i)) s) ⟨rfl, by simp, by simpa using ht⟩ ?_ ?_
  · rintro i a zs s ha ⟨hl, hp, hs⟩
    have hil := (List.getElem?_eq_some_iff.mp ha).1
    obtain ⟨ρ, h1, h2, h3⟩ := step a (List.mem_of_getElem? ha)
    have e : c * ((as.length : Int) - i) = c * ((as.length : Int) - (i + 1 : Nat)) + c := by
      rw [show (as.length : Int) - i = ((as.length : Int) - (i + 1 : Nat)) + 1 by omega, Int.mul_add, Int.mul_one]
    have nn : 0 ≤ c * ((as.length : Int) - (i + 1 : Nat)) := Int.mul_nonneg c0 (by omega)
    refine ⟨rfl, ρ, h1, fun Z hZ => ?_⟩
    refine go_imp (h2 s) ?_
    rintro _ _ ⟨rfl, rfl⟩
    show @W _ (elt ρ) _ ⟨fun y s2 => Z (zs ++ [y]) s2⟩
    refine h3 _ (k + c * ((as.length : Int) - (i + 1 : Nat))) (by omega) (by rw [e] at hs; exact hs.mono (by omega)) _ fun v s' hv h4 => ?_
    refine hZ _ _ ⟨by simp [hl], ?_, h4⟩
    intro z hz
    rcases List.mem_append.mp hz with hz | hz
    · exact hp z hz
    · simp at hz; rw [hz]; exact hv
  · rintro zs s ⟨hl, hp, hs⟩
    exact ⟨rfl, he zs s hl hp (by simpa using hs)⟩
theorem all_map {α : Type} {f : α → T} {p : α → Prop} : ∀ {zs : List T}, (∀ z ∈ zs, ∃ a, z = f a ∧ p a) → ∃ as : List α, zs = as.map f ∧ ∀ a ∈ as, p a
  | [], _ => ⟨[], rfl, by simp⟩
  | z :: zs, h => by
    obtain ⟨a, rfl, ha⟩ := h z (by simp)
    obtain ⟨as, rfl, has⟩ := all_map (zs := zs) fun z hz => h z (List.mem_cons_of_mem _ hz)
    exact ⟨a :: as, rfl, by simpa using ⟨ha, has⟩⟩

end Pl
set_option linter.all false
set_option autoImplicit false
set_option maxRecDepth 100000
namespace Pl
open PySem Mini
local macro_rules | `(tactic| walk_at "go") => `(tactic| simp [szl, Mini.start, store, moveV, target, Mini.wipe, isNonK, isKnown, isTy])
theorem lfaults_spec {l : Nat} (form : List Int) (h : FormOk form) : callN P (l + 1) HD.n__law_faults [.t (tI form)] = pure (.l ((faults form).map tI)) := by
  rw [same_call (k' := HD.n_all_faults) (fd := HD.f__law_faults) (fd' := HD.f_all_faults) rfl rfl rfl rfl rfl]
  exact all_faults_spec form h
theorem lheld_spec {l : Nat} (b : List (List Int)) (f : List Int) (hl : b.length ≤ 1000) : callN P (l + 1) HD.n__law_held [.t (tB b), .t (tI f)] = pure (.t (.bl (heldB b f))) := by
  rw [same_call (k' := HD.n_held) (fd := HD.f__law_held) (fd' := HD.f_held) rfl rfl rfl rfl rfl]
  exact held_spec b f hl
theorem agrees_spec {l : Nat} (r : List (Option Int)) (f : List Int) (hl : r.length ≤ 1000) : callN P (l + 1) HD.n__law_agrees [.t (tR r), .t (tI f)] = pure (.t (.bl (agreeB r f))) := by
  rw [same_call (k' := HD.n_agreeing) (fd := HD.f__law_agrees) (fd' := HD.f_agreeing) rfl rfl rfl rfl rfl]
  exact agreeing_spec r f hl
theorem form_spec {l : Nat} {G : Sg} {k : Int} {s : S} {h c : Nat} {most : Int} (ht : HT G (k + 10) s) (e : G[h]? = some (HK c)) (k0 : 0 ≤ k) (m0 : 6 ≤ most) (m1 : most ≤ 4000) :
    Go (callN P (l + 3) HD.n__law_form [.t (.ref h), .t (.int most)]) s fun v s' => ∃ form, v = .t (tI form) ∧ FormOk form ∧ (prodN form : Int) ≤ most ∧ HT G k s' := by
  refine go_k (fd := HD.f__law_form) rfl rfl fun Z hZ => ?_
  simp [HD.f__law_form]
  refine w_use (draw_spec (k := k + 9) (by simpa [Int.add_assoc] using ht) e (by omega) (by omega) (by omega)) ?_
  rintro _ s1 ⟨n, rfl, n0, n1, h1⟩
  simp [rng_ok (a := 0) (b := 1 + n) (by omega) (by omega) (by rw [szl]; omega)]
  refine w_fork (fun i ρ s => ∃ (xs : List Int) (x2 x5 : Option TV), ρ = [some (.t (.ref h)), some (.t (.int most)), x2, some (.t (tI xs)), some (.t (.int (prodN xs))), x5] ∧ xs.length ≤ i ∧ (∀ m ∈ xs, 2 ≤ m ∧ m ≤ 6) ∧ (prodN xs : Int) ≤ most ∧ (0 < i → xs ≠ []) ∧ HT G (k + 9 - i) s) ?_ ?_ ?_
  · exact ⟨[], none, none, rfl, by simp, by simp, by simp [prodN]; omega, by simp, by simpa using h1⟩
  · rintro i t ρ s hi ⟨xs, x2, x5, rfl, a1, a2, a3, a4, hs⟩
    have hin : (i : Int) < 1 + n := by
      have := (List.getElem?_eq_some_iff.mp hi).1
      simp at this
      omega
    refine ⟨rfl, _, rfl, fun Y hY => ?_⟩
    simp
    refine w_use (draw_spec (k := k + 9 - (i + 1 : Nat)) (hs.mono (by omega)) e (by omega) (by omega) (by omega)) ?_
    rintro _ s2 ⟨m0, rfl, b0, b1, h2⟩
    obtain ⟨m, hm⟩ : ∃ m, m = 2 + m0 := ⟨_, rfl⟩
    have pe : (prodN (xs ++ [m]) : Int) = prodN xs * m := by
      rw [prodN_snoc, Int.natCast_mul, Int.toNat_of_nonneg (by omega)]
    simp [← hm]
    refine ⟨mul_ok (by omega) (by omega), w_if (fun hm' => ?_) (fun hm' => ?_)⟩
    · simp
      refine ⟨by omega, mul_ok (by omega) (by omega), hY _ _ ⟨xs ++ [m], _, _, by simp [pe]; exact ⟨rfl, rfl⟩, by simp; omega, ?_, by rw [pe]; exact hm', by simp, h2⟩⟩
      intro q hq
      rcases List.mem_append.mp hq with hq | hq
      · exact a2 q hq
      · simp at hq; omega
    · simp
      refine hY _ _ ⟨xs, _, _, rfl, by omega, a2, a3, fun _ => ?_, h2⟩
      rintro rfl
      simp [prodN] at hm'
      omega
  · rintro ρ s ⟨xs, x2, x5, rfl, a1, a2, a3, a4, hs⟩
    simp at a1 a4 hs
    refine ⟨rfl, ?_⟩
    simp
    have : 0 < xs.length := List.length_pos_iff.mpr (a4 (by omega))
    simp [this]
    exact hZ _ _ ⟨xs, rfl, ⟨by omega, by omega, a2, by omega⟩, a3, hs.mono (by omega)⟩
theorem box_spec {l : Nat} {G : Sg} {k : Int} {s : S} {h c : Nat} {form : List Int} {wide : Int} (ht : HT G (k + 100) s) (e : G[h]? = some (HK c)) (k0 : 0 ≤ k) (hf : FormOk form) :
    Go (callN P (l + 3) HD.n__law_box [.t (.ref h), .t (tI form), .t (.int wide)]) s fun v s' => ∃ b, v = .t (tB b) ∧ BoxOk form b ∧ HT G k s' := by
  refine go_k (fd := HD.f__law_box) rfl rfl fun Z hZ => ?_
  obtain ⟨f1, f2, f3, f4⟩ := hf
  simp [HD.f__law_box]
  refine w_fork (fun i ρ s => ∃ (b : List (List Int)) (x4 x5 : Option TV), ρ = [some (.t (.ref h)), some (.t (tI form)), some (.t (.int wide)), some (.t (tB b)), x4, x5, none] ∧ b.length = i ∧ (∀ p ∈ b.zip form, LotOk p.2 p.1) ∧ HT G (k + 100 - 10 * i) s) ⟨[], none, none, rfl, rfl, by simp, by simpa using ht⟩ ?_ ?_
  · rintro i m ρ s hm ⟨b, x4, x5, rfl, hl, hp, hs⟩
    have hil := (List.getElem?_eq_some_iff.mp hm).1
    have hmb := f3 m (List.mem_of_getElem? hm)
    have rg : rangeV 0 m = pure (.s (rangeT 0 m) []) := rng_ok (by omega) (by omega) (by rw [szl]; omega)
    refine ⟨rfl, _, rfl, fun Y hY => ?_⟩
    have fin : ∀ (lot : List Int) (x5 : Option TV) (s : S), LotOk m lot → HT G (k + 100 - 10 * (i + 1 : Nat)) s → Y [some (.t (.ref h)), some (.t (tI form)), some (.t (.int wide)), some (.t (.tup (List.map tI b ++ [tI lot]))), some (.t (.int m)), x5, none] s := by
      intro lot x5 s h1 h2
      refine hY _ _ ⟨b ++ [lot], _, _, by simp; and_intros <;> rfl, by simp [hl], ?_, h2⟩
      intro p hp2
      rw [zip_snoc (y := m) (by rw [hl]; exact hm)] at hp2
      rcases List.mem_append.mp hp2 with hp2 | hp2
      · exact hp p hp2
      · simp at hp2; subst hp2; exact h1
    simp [rg]
    refine w_use (draw_spec (k := k + 99 - 10 * i) (hs.mono (by omega)) e (by omega) (by omega) (by omega)) ?_
    rintro _ s2 ⟨a, rfl, a0, a1, h2⟩
    simp
    refine w_if (fun hz => ?_) (fun hz => ?_)
    · simp [rg]
      refine ⟨by omega, picks_lc (k := k + 93 - 10 * i) (h2.mono (by omega)) (by omega) (fun v hv => ⟨_, rfl, fun s kk kk0 hkk => ?_, fun s => by simp⟩) ?_⟩
      · simp
        refine w_use (draw_spec hkk e kk0 (by omega) (by omega)) ?_
        rintro _ s2 ⟨a, rfl, a0, a1, h5⟩
        simpa using h5
      · intro ys s5 c1 c2 c3 h5
        simp
        refine w_if (fun hy => ?_) (fun hy => ?_)
        · simp
          refine ⟨by omega, ?_⟩
          exact fin ys _ s5 ⟨fun a ha => by have := c1 a ha; omega, c2, by rintro rfl; simp at hy, by omega⟩ (h5.mono (by omega))
        · simp
          refine w_use (draw_spec (k := k + 92 - 10 * i) (h5.mono (by omega)) e (by omega) (by omega) (by omega)) ?_
          rintro _ s2 ⟨a, rfl, a0, a1, h6⟩
          simp
          refine ⟨by omega, ?_⟩
          exact fin [a] _ s2 (one_lot a0 a1) (h6.mono (by omega))
    · have em : (List.range m.toNat).map (T.int ∘ fun (i : Nat) => (i : Int)) = ((List.range m.toNat).map fun (i : Nat) => (i : Int)).map T.int := by simp
      have hh := fin ((List.range m.toNat).map fun (i : Nat) => (i : Int)) (some (.t (tI ((List.range m.toNat).map fun (i : Nat) => (i : Int))))) s2 (full_lot hmb.1 hmb.2) (h2.mono (by omega))
      simp [show (0 : Int) < max m 0 by omega]
      refine ⟨by omega, ?_⟩
      rw [em]
      exact hh
  · rintro ρ s ⟨b, x4, x5, rfl, hl, hp, hs⟩
    refine ⟨rfl, ?_⟩
    simp
    exact hZ _ _ ⟨b, rfl, ⟨hl, by omega, hp⟩, hs.mono (by omega)⟩
theorem rules_spec {l : Nat} {G : Sg} {k : Int} {s : S} {h c : Nat} {form : List Int} (ht : HT G (k + 5000) s) (e : G[h]? = some (HK c)) (k0 : 0 ≤ k) (hf : FormOk form) :
    Go (callN P (l + 4) HD.n__law_rules [.t (.ref h), .t (tI form)]) s fun v s' => ∃ rs, v = .t (tRs rs) ∧ RulesOk form rs ∧ HT G k s' := by
  refine go_k (fd := HD.f__law_rules) rfl rfl fun Z hZ => ?_
  simp [HD.f__law_rules]
  refine w_use (draw_spec (k := k + 4999) (ht.mono (by omega)) e (by omega) (by omega) (by omega)) ?_
  rintro _ s1 ⟨a, rfl, a0, a1, h1⟩
  obtain ⟨i, hi, hi2⟩ : ∃ i : Int, (if a = 0 then 1 else 0) = i ∧ (i = 0 ∨ i = 1) := by
    by_cases q : a = 0
    · exact ⟨1, by simp [q], .inr rfl⟩
    · exact ⟨0, by simp [q], .inl rfl⟩
  have step : ∀ (z : Int) (s1 : S), z = 8 ∨ z = 40 → HT G (k + 4999) s1 → Go (callN P (l + 3) HD.n__law_any [.t (.ref h), .s [.int 0, .int 1, .int 2, .int 3, .int 4, .int 5, .int 6, .int 8, .int z] []]) s1 fun v s' => ∃ n : Int, v = .t (.int n) ∧ 0 ≤ n ∧ n ≤ 40 ∧ HT G (k + 4998) s' := by
    intro z s1 hz h1
    refine go_imp (some_spec (l := l + 1) (k := k + 4998) (xs := [.int 0, .int 1, .int 2, .int 3, .int 4, .int 5, .int 6, .int 8, .int z]) (h1.mono (by omega)) e (by omega) (.inl rfl) (by simp) (by simp)) ?_
    rintro _ s2 ⟨x, hx, rfl, h2⟩
    simp only [List.mem_cons, List.not_mem_nil, or_false] at hx
    rcases hx with rfl | rfl | rfl | rfl | rfl | rfl | rfl | rfl | rfl
    all_goals exact ⟨_, rfl, by omega, by omega, h2⟩
  have zz : ∃ z : Int, L2.atI [T.int 8, T.int 40] i = some (.int z) ∧ (z = 8 ∨ z = 40) := by
    rcases hi2 with rfl | rfl
    · exact ⟨8, rfl, .inl rfl⟩
    · exact ⟨40, rfl, .inr rfl⟩
  obtain ⟨z, hz, hz2⟩ := zz
  simp [hi, hz]
  refine w_use (step z s1 hz2 h1) ?_
  rintro _ s2 ⟨n, rfl, n0, n1, h2⟩
  simp
  refine w_use (some_spec (l := l + 1) (k := k + 4997) (xs := [.int 2, .int 4, .int 5, .int 6]) (h2.mono (by omega)) e (by omega) (.inl rfl) (by simp) (by simp)) ?_
  rintro _ s3 ⟨x, hx, rfl, h3⟩
  obtain ⟨wide, rfl⟩ : ∃ w : Int, x = .int w := by
    simp only [List.mem_cons, List.not_mem_nil, or_false] at hx
    rcases hx with rfl | rfl | rfl | rfl <;> exact ⟨_, rfl⟩
  simp [rng_ok (a := 0) (b := n) (by omega) (by omega) (by rw [szl]; omega)]
  refine w_fork (fun i ρ s => ∃ (rs : List (List (List Int))) (x4 x6 : Option TV), ρ = [some (.t (.ref h)), some (.t (tI form)), some (.t (.int n)), some (.t (.int wide)), some (.t (tRs rs)), x4, x6] ∧ rs.length = i ∧ (∀ b ∈ rs, BoxOk form b) ∧ HT G (k + 4500 - 110 * i) s) ⟨[], none, none, rfl, rfl, by simp, h3.mono (by simp <;> omega)⟩ ?_ ?_
  · rintro i m ρ s hm ⟨rs, x4, x6, rfl, hl, hp, hs⟩
    obtain ⟨rfl, hil⟩ := rg_get hm
    refine ⟨rfl, _, rfl, fun Y hY => ?_⟩
    have fin : ∀ (b : List (List Int)) (s : S), BoxOk form b → HT G (k + 4500 - 110 * (m + 1 : Nat)) s → Y [some (.t (.ref h)), some (.t (tI form)), some (.t (.int n)), some (.t (.int wide)), some (.t (.tup (List.map tB rs ++ [tB b]))), some (.t (.int m)), some (.t (tB b))] s := by
      intro b s h1 h2
      refine hY _ _ ⟨rs ++ [b], _, _, by simp; and_intros <;> rfl, by simp [hl], ?_, h2⟩
      intro b2 hb2
      rcases List.mem_append.mp hb2 with hb2 | hb2
      · exact hp b2 hb2
      · simp at hb2; subst hb2; exact h1
    simp
    refine w_use (box_spec (k := k + 4400 - 110 * m) (hs.mono (by omega)) e (by omega) hf) ?_
    rintro _ s4 ⟨b, rfl, hb, h4⟩
    simp
    refine w_if (fun hz => ?_) (fun hz => ?_)
    · simp
      refine w_use (draw_spec (k := k + 4399 - 110 * m) (h4.mono (by omega)) e (by omega) (by omega) (by omega)) ?_
      rintro _ s5 ⟨a, rfl, a0, a1, h5⟩
      simp
      refine w_if (fun hz2 => ?_) (fun hz2 => ?_)
      · simp
        refine w_use (some_spec (l := l + 1) (k := k + 4398 - 110 * m) (xs := rs.map tB) (h5.mono (by omega)) e (by omega) (.inr rfl) (by simp; omega) (by simp; omega)) ?_
        rintro _ s6 ⟨x, hx, rfl, h6⟩
        obtain ⟨b2, hb2, rfl⟩ := List.mem_map.mp hx
        simp
        exact ⟨by omega, fin b2 s6 (hp b2 hb2) (h6.mono (by omega))⟩
      · simp
        exact ⟨by omega, fin b s5 hb (h5.mono (by omega))⟩
    · simp [hz]
      exact ⟨by omega, fin b s4 hb (h4.mono (by omega))⟩
  · rintro ρ s ⟨rs, x4, x6, rfl, hl, hp, hs⟩
    refine ⟨rfl, ?_⟩
    simp
    exact hZ _ _ ⟨rs, rfl, ⟨by rw [hl, List.length_range]; omega, hp⟩, hs.mono (by rw [List.length_range]; omega)⟩
theorem report_spec {l : Nat} {G : Sg} {k : Int} {s : S} {h c : Nat} {form : List Int} {most : Int} (ht : HT G (k + 20) s) (e : G[h]? = some (HK c)) (k0 : 0 ≤ k) (hf : FormOk form) :
    Go (callN P (l + 2) HD.n__law_report [.t (.ref h), .t (tI form), .t (.int most)]) s fun v s' => ∃ r, v = .t (tR r) ∧ RepOk form r ∧ HT G k s' := by
  refine go_k (fd := HD.f__law_report) rfl rfl fun Z hZ => ?_
  obtain ⟨f1, f2, f3, f4⟩ := hf
  simp [HD.f__law_report]
  refine ⟨by omega, w_lck (fun i zs s => ∃ r : List (Option Int), zs = r.map tO ∧ r.length = i ∧ (∀ p ∈ r.zip form, ∀ a, p.1 = some a → 0 ≤ a ∧ a ≤ p.2 - 1) ∧ HT G (k + 20 - 2 * i) s) ⟨[], rfl, rfl, by simp, by simpa using ht⟩ ?_ ?_⟩
  · rintro i m zs s hm ⟨r, rfl, hl, hp, hs⟩
    have hil := (List.getElem?_eq_some_iff.mp hm).1
    have hmb := f3 m (List.mem_of_getElem? hm)
    refine ⟨rfl, _, rfl, fun Y hY => ?_⟩
    have fin : ∀ (o : Option Int) (s : S), (∀ a, o = some a → 0 ≤ a ∧ a ≤ m - 1) → HT G (k + 20 - 2 * (i + 1 : Nat)) s → Y (r.map tO ++ [tO o]) s := by
      intro o s h1 h2
      refine hY _ _ ⟨r ++ [o], by simp, by simp [hl], ?_, h2⟩
      intro p hp2
      rw [zip_snoc (y := m) (by rw [hl]; exact hm)] at hp2
      rcases List.mem_append.mp hp2 with hp2 | hp2
      · exact hp p hp2
      · simp at hp2; subst hp2; exact h1
    simp
    refine w_use (draw_spec (k := k + 19 - 2 * i) (hs.mono (by omega)) e (by omega) (by omega) (by omega)) ?_
    rintro _ s2 ⟨a, rfl, a0, a1, h2⟩
    simp
    refine w_if (fun hz => ?_) (fun hz => ?_)
    · simp
      refine w_use (draw_spec (k := k + 18 - 2 * i) (h2.mono (by omega)) e (by omega) (by omega) (by omega)) ?_
      rintro _ s3 ⟨b, rfl, b0, b1, h3⟩
      simp
      exact fin (some b) s3 (by rintro _ ⟨⟩; omega) (h3.mono (by omega))
    · simp
      exact fin none s2 (by simp) (h2.mono (by omega))
  · rintro zs s ⟨r, rfl, hl, hp, hs⟩
    refine ⟨rfl, ?_⟩
    simp
    exact hZ _ _ ⟨r, rfl, ⟨hl, by omega, hp⟩, hs.mono (by omega)⟩
theorem flag_spec {l : Nat} (a b : Bool) : callN P (l + 1) HD.n__law_flag [.t (.bl a), .t (.bl b)] = pure (.t (.bl (a == b))) := by
  refine w_pc (fd := HD.f__law_flag) rfl rfl fun s => ?_
  simp [HD.f__law_flag, cm_eqb]
def numsF (rs : List (List (List Int))) (f : List Int) : List Int := (((List.range rs.length).zip rs).filter fun p => heldB p.2 f).map fun p => (p.1 : Int)
theorem numbers_spec {l : Nat} {form : List Int} (rs : List (List (List Int))) (f : List Int) (hr : RulesOk form rs) : callN P (l + 2) HD.n__law_numbers [.t (tRs rs), .t (tI f)] = pure (.t (tI (numsF rs f))) := by
  refine w_pc (fd := HD.f__law_numbers) rfl rfl fun s => ?_
  have hl := hr.1
  simp [HD.f__law_numbers]
  refine ⟨by omega, w_lc (fun p => heldB p.2 f) (fun p => .int p.1) rfl (fun p hp => ⟨_, rfl, ?_, fun _ => by simp⟩) ?_⟩
  · have hb := hr.2 p.2 (List.of_mem_zip hp).2
    simp [lheld_spec p.2 f (by have := hb.1; have := hb.2.1; omega)]
  · simp [numsF]
theorem nums_nil (rs : List (List (List Int))) (f : List Int) : (numsF rs f = []) ↔ lawfulB rs f = true := by
  unfold numsF lawfulB
  simp only [List.map_eq_nil_iff, List.filter_eq_nil_iff, Bool.not_eq_true', List.any_eq_false]
  constructor
  · intro h b hb
    obtain ⟨i, hi⟩ := List.mem_iff_getElem?.mp hb
    exact h (i, b) (zip_at (List.getElem?_range (List.getElem?_eq_some_iff.mp hi).1) hi)
  · intro h p hp
    exact h p.2 (List.of_mem_zip hp).2
section
variable {G : Sg} {k : Int} {s : S} {b : Nat} {form : List Int} {rs : List (List (List Int))}
theorem bfaults_spec {l : Nat} (h : HT G k s) (e : G[b]? = some (.book form rs)) (hf : FormOk form) (hr : RulesOk form rs) : Go (callN P (l + 4) HD.n_faults [.t (.ref b)]) s fun v s' => v = .l ((allowedF form rs).map tI) ∧ ∃ G', Ext G G' ∧ HT G' k s' := by
  refine go_c (fd := HD.f_faults) rfl rfl ?_
  simp [HD.f_faults]
  refine w_use (listed_spec h e hf hr) ?_
  rintro _ s1 ⟨G1, n, rfl, x1, h1, g⟩
  simp [h1.cst g]
  exact ⟨G1, x1, h1⟩
theorem lawful_spec {l : Nat} (h : HT G k s) (e : G[b]? = some (.book form rs)) (hf : FormOk form) (hr : RulesOk form rs) (f : List Int) (hm : f ∈ faults form) : callN P (l + 6) HD.n_lawful [.t (.ref b), .t (tI f)] s = .ok (.t (.bl (lawfulB rs f))) s := by
  refine w_done (w_call (fd := HD.f_lawful) rfl rfl ?_)
  have h8 := hf.2.1
  simp [HD.f_lawful, w_at (bk_form h e), check_fault_spec form f (by omega) hm, w_at (is_lawful_spec h e hr f)]
theorem broken_spec {l : Nat} (h : HT G k s) (e : G[b]? = some (.book form rs)) (hf : FormOk form) (hr : RulesOk form rs) (f : List Int) (hm : f ∈ faults form) : callN P (l + 6) HD.n_broken [.t (.ref b), .t (tI f)] s = .ok (.t (tI (numsF rs f))) s := by
  refine w_done (w_call (fd := HD.f_broken) rfl rfl ?_)
  have h8 := hf.2.1
  have hl := hr.1
  simp [HD.f_broken, w_at (bk_form h e), check_fault_spec form f (by omega) hm, w_at (bk_rules h e)]
  refine ⟨by omega, w_lc (fun p => heldB p.2 f) (fun p => .int p.1) rfl (fun p hp => ⟨_, rfl, ?_, fun _ => by simp⟩) ?_⟩
  · have hb := hr.2 p.2 (List.of_mem_zip hp).2
    simp [held_spec p.2 f (by have := hb.1; have := hb.2.1; omega)]
  · simp [numsF]
end
theorem eqOO_bk {n : Nat} {fs : List (Str × T)} : eqOO P n (some (.ins 0 fs)) = some (n, 0, HD.n_Book_eq) := rfl
theorem clsO_bk {fs : List (Str × T)} : clsO P 0 (some (.ins 0 fs)) = some true := rfl
theorem eqRO_bk {fs : List (Str × T)} : eqRO P 0 (some (.ins 0 fs)) = some () := rfl
theorem eqRO_ls {xs : List T} : eqRO P 0 (some (.lst xs)) = some () := rfl
theorem clsO_ls {xs : List T} : clsO P 0 (some (.lst xs)) = some false := rfl
section
variable {G : Sg} {k : Int} {s : S} {b b' : Nat} {form form' : List Int} {rs rs' : List (List (List Int))}
def bkEq (form : List Int) (rs : List (List (List Int))) (form' : List Int) (rs' : List (List (List Int))) : Bool := T.eqb (tI form) (tI form') && T.eqb (tRs rs) (tRs rs')
theorem eq_book {l : Nat} (h : HT G k s) (e : G[b]? = some (.book form rs)) (e' : G[b']? = some (.book form' rs')) : callN P (l + 1) HD.n_Book_eq [.t (.ref b), .t (.ref b')] s = .ok (.t (.bl (bkEq form rs form' rs'))) s := by
  refine w_done (w_call (fd := HD.f_Book_eq) rfl rfl ?_)
  obtain ⟨x, a, _⟩ := h.book e
  obtain ⟨x', a', _⟩ := h.book e'
  have ce : Mini.cmp .eq (.t (.tup [tI form, tRs rs])) (.t (.tup [tI form', tRs rs'])) = pure (bkEq form rs form' rs') := by
    rw [cm_eq (okD2 (okD_tI _) (okD_tRs _)) (okD2 (okD_tI _) (okD_tRs _)) (Nat.le_trans (dep2 (Nat.le_trans (dep_tI _) (by omega)) (dep_tRs _)) (by omega)) (Nat.le_trans (dep2 (Nat.le_trans (dep_tI _) (by omega)) (dep_tRs _)) (by omega))]
    simp [T.eqb, T.eqbAll, bkEq]
  simp [HD.f_Book_eq, a', clsO_bk, w_at (bk_form h e), w_at (bk_rules h e), w_at (bk_form h e'), w_at (bk_rules h e'), ce]
theorem eq_not {l : Nat} {x : T} (hx : isCls P 0 (.t x) s = .ok false s) : callN P (l + 1) HD.n_Book_eq [.t (.ref b), .t x] s = .ok (.t (.bl false)) s := by
  refine w_done (w_call (fd := HD.f_Book_eq) rfl rfl ?_)
  simp [HD.f_Book_eq, w_at hx]
end
theorem is_equal_spec {l : Nat} {G : Sg} {k : Int} {s : S} {h c : Nat} {form : List Int} {rs : List (List (List Int))} (ht : HT G (k + 200) s) (e : G[h]? = some (HK c)) (k0 : 0 ≤ k) (hf : FormOk form) (hr : RulesOk form rs) :
    Go (callN P (l + 8) HD.n__law_is_equal_right [.t (.ref h), .t (tI form), .t (tRs rs)]) s fun v s' => v = .t (.bl true) ∧ ∃ G', Ext G G' ∧ HT G' k s' := by
  refine go_k (fd := HD.f__law_is_equal_right) rfl rfl fun Z hZ => ?_
  have hF := hf
  obtain ⟨f1, f2, f3, f4⟩ := hf
  simp [HD.f__law_is_equal_right]
  obtain ⟨s1, m1, h1⟩ := make_book (l := l + 1) ht hF hr
  refine w_ok m1 ?_
  simp
  have hl := hr.1
  refine ⟨by omega, w_lcA tB rfl (fun b _ => ⟨_, rfl, by simp, by simp⟩) ?_⟩
  simp
  obtain ⟨s2, m2, h2⟩ := make_book (l := l + 1) h1 hF hr
  refine w_ok m2 ?_
  simp
  have ga : (G ++ [Ki.book form rs])[G.length]? = some (.book form rs) := by simp
  have gb : (G ++ [Ki.book form rs] ++ [Ki.book form rs])[G.length]? = some (.book form rs) := Ext.snoc.at ga
  have gc : (G ++ [Ki.book form rs] ++ [Ki.book form rs])[G.length + 1]? = some (.book form rs) := by simp
  have neI : ∀ x : T, T.okD x = true → x.dep ≤ 60 → Mini.cmp .ne (.t x) (.t x) = pure false := fun x h1 h2 => by rw [cm_ne h1 h1 h2 h2, T.eqb_refl]; rfl
  have n1 := neI (tI form) (okD_tI _) (Nat.le_trans (dep_tI _) (by omega))
  have n2 := neI (tRs rs) (okD_tRs _) (Nat.le_trans (dep_tRs _) (by omega))
  simp [w_at (bk_form h2 gb), w_at (bk_rules h2 gb), n1, n2]
  refine ⟨by omega, w_lcA (fun _ => T.bl true) rfl (fun b _ => ⟨_, rfl, by simp, by simp⟩) ?_⟩
  simp
  have h3 := h2.alloc (.cst [tI form, tRs rs]) (.lst [tI form, tRs rs]) rfl
  have hl2 := h2.1
  generalize hs3 : s2 ++ [O.lst [tI form, tRs rs]] = s3 at h3
  generalize hG3 : G ++ [Ki.book form rs] ++ [Ki.book form rs] ++ [Ki.cst [tI form, tRs rs]] = G3 at h3
  have x3 : Ext G G3 := by rw [← hG3]; exact Ext.trans (Ext.trans Ext.snoc Ext.snoc) Ext.snoc
  have ga3 : G3[G.length]? = some (.book form rs) := by rw [← hG3]; exact Ext.snoc.at gb
  have gc3 : G3[G.length + 1]? = some (.book form rs) := by rw [← hG3]; exact Ext.snoc.at gc
  have gl3 : G3[s2.length]? = some (.cst [tI form, tRs rs]) := by rw [← hG3, hl2]; simp
  obtain ⟨xa, a3, _⟩ := h3.book ga3
  obtain ⟨xc, c3, _⟩ := h3.book gc3
  have l3 := h3.cst gl3
  have bke : bkEq form rs form rs = true := by simp [bkEq, T.eqb_refl]
  have q1 := eq_book (l := l + 6) h3 ga3 gc3
  rw [bke] at q1
  simp [a3, eqOO_bk, eqRO_bk, c3, w_at q1]
  refine w_lcT (fun _ => T.bl false) rfl (fun x hx => ?_) ?_
  · simp only [List.mem_cons, List.not_mem_nil, or_false] at hx
    have en : ∀ x : T, isCls P 0 (.t x) s3 = .ok false s3 → callN P (l + 7) HD.n_Book_eq [.t (.ref G.length), .t x] s3 = .ok (.t (.bl false)) s3 := fun x hx => eq_not (l := l + 6) hx
    rcases hx with rfl | rfl | rfl | rfl | rfl | rfl | rfl
    all_goals refine ⟨_, rfl, by simp, ?_⟩
    · simp [a3, eqOO_bk, w_at (en (.tup [tI form, tRs rs]) rfl)]
    · simp [a3, eqOO_bk, w_at (en (tRs rs) rfl)]
    · simp [a3, eqOO_bk, w_at (en (tI form) rfl)]
    · simp [a3, eqOO_bk, w_at (en .non rfl)]
    · simp [a3, eqOO_bk, w_at (en (.int 0) rfl)]
    · simp [a3, eqOO_bk, w_at (en (.str "book") rfl)]
    · simp [a3, eqOO_bk, l3, eqRO_ls, w_at (en (.ref s2.length) (by unfold isCls; simp only [l3]))]
  simp [boolsOf]
  refine w_use (box_spec (k := k + 100) (h3.mono (by omega)) (x3.at e) (by omega) hF) ?_
  rintro _ s4 ⟨more, rfl, hm, h4⟩
  have okC : ∀ lo hi, ∀ b ∈ cut rs lo hi, BoxOk form b := fun lo hi b hb => hr.2 b (mem_cut hb)
  have lnC : ∀ lo hi, (cut rs lo hi).length ≤ 40 := fun lo hi => Nat.le_trans (cut_len rs lo hi) hl
  let Wd : Option TV → Option TV → List (List (List (List Int))) → Mini.Env := fun x3 x9 os => [some (.t (.ref h)), some (.t (tI form)), some (.t (tRs rs)), x3, some (.t (tB more)), some (.l (os.map tRs)), none, some (.t (.ref G.length)), some (.t (.ref (G.length + 1))), x9, none, none, none]
  let OsOk : List (List (List (List Int))) → Prop := fun os => os.length ≤ 10 ∧ ∀ o ∈ os, o.length ≤ 1000 ∧ ∀ b ∈ o, BoxOk form b
  simp [-rest_nx]
  simp only [rest_nx]
  refine w_mid (fun ρ s' => s' = s4 ∧ ∃ (os : List (List (List (List Int)))) (x3 x9 : Option TV), ρ = Wd x3 x9 os ∧ os.length ≤ 4 ∧ ∀ o ∈ os, o.length ≤ 1000 ∧ ∀ b ∈ o, BoxOk form b) (fun V hV => ?_) ?_
  · simp [cut_map]
    refine ⟨by omega, hV _ _ ⟨rfl, [rs ++ [more], cut rs (some 1) none, rs.reverse, cut rs none (some (-1))], _, _, by simp [Wd]; and_intros <;> rfl, by simp, ?_⟩⟩
    intro o ho
    simp only [List.mem_cons, List.not_mem_nil, or_false] at ho
    rcases ho with rfl | rfl | rfl | rfl
    · refine ⟨by simp; omega, fun b hb => ?_⟩
      simp at hb
      rcases hb with hb | rfl
      · exact hr.2 b hb
      · exact hm
    · exact ⟨Nat.le_trans (lnC _ _) (by omega), okC _ _⟩
    · exact ⟨by simp; omega, fun b hb => hr.2 b (by simpa using hb)⟩
    · exact ⟨Nat.le_trans (lnC _ _) (by omega), okC _ _⟩
  rintro _ _ ⟨rfl, os, x3', x9, rfl, o1, o2⟩
  refine w_mid (fun ρ s' => HT G3 (k + 90) s' ∧ ∃ (os : List (List (List (List Int)))) (x3 x9 : Option TV), ρ = Wd x3 x9 os ∧ os.length ≤ 10 ∧ ∀ o ∈ os, o.length ≤ 1000 ∧ ∀ b ∈ o, BoxOk form b) (fun V hV => ?_) ?_
  · simp [Wd]
    refine w_if (fun hp => ?_) (fun hp => ?_)
    · simp
      refine w_use (draw_spec (k := k + 99) (h4.mono (by omega)) (x3.at e) (by omega) (by omega) (by omega)) ?_
      rintro _ s5 ⟨a, rfl, a0, a1, h5⟩
      simp [cut_map]
      have b1 := lnC none (some a)
      have b2 := lnC (some (a + 1)) none
      have b3 := lnC (some a) (some (a + 1))
      have b4 := lnC (some a) none
      refine ⟨by omega, by omega, by omega, by omega, by omega, hV _ _ ⟨h5.mono (by omega), os ++ [cut rs none (some a) ++ more :: cut rs (some (a + 1)) none, cut rs none (some a) ++ (cut rs (some a) (some (a + 1)) ++ cut rs (some a) none)], x3', _, by simp [Wd]; and_intros <;> rfl, by simp; omega, ?_⟩⟩
      intro o ho
      simp only [List.mem_append, List.mem_cons, List.not_mem_nil, or_false] at ho
      rcases ho with ho | rfl | rfl
      · exact o2 o ho
      · refine ⟨by simp; omega, fun b hb => ?_⟩
        simp only [List.mem_append, List.mem_cons] at hb
        rcases hb with hb | rfl | hb
        · exact okC _ _ b hb
        · exact hm
        · exact okC _ _ b hb
      · refine ⟨by simp; omega, fun b hb => ?_⟩
        simp only [List.mem_append] at hb
        rcases hb with hb | hb | hb <;> exact okC _ _ b hb
    · simp
      exact hV _ _ ⟨h4.mono (by omega), os, _, _, rfl, by omega, o2⟩
  rintro _ s6 ⟨h6, os, x3'', x9', rfl, o1, o2⟩
  simp [Wd]
  refine w_fork (fun i ρ s' => ∃ (G' : Sg) (x6 x10 : Option TV), Ext G3 G' ∧ HT G' (k + 90) s' ∧ ρ = [some (.t (.ref h)), some (.t (tI form)), some (.t (tRs rs)), x3'', some (.t (tB more)), none, x6, some (.t (.ref G.length)), some (.t (.ref (G.length + 1))), x9', x10, none, none]) ⟨G3, none, none, Ext.refl, h6, rfl⟩ ?_ ?_
  · rintro i o ρ s' hi ⟨G', x6, x10, xt, hs, rfl⟩
    obtain ⟨p1, p2⟩ := o2 o (List.mem_of_getElem? hi)
    refine ⟨rfl, _, rfl, fun Y hY => ?_⟩
    simp
    refine w_if (fun hp => ?_) (fun hp => ?_)
    · simp
      obtain ⟨s7, m7, h7⟩ := make_book (l := l + 1) hs hF ⟨by omega, p2⟩
      refine w_ok m7 ?_
      have g7 : (G' ++ [Ki.book form o])[G.length]? = some (.book form rs) := Ext.snoc.at (xt.at ga3)
      have g8 : (G' ++ [Ki.book form o])[G'.length]? = some (.book form o) := by simp
      obtain ⟨x7, a7, _⟩ := h7.book g7
      obtain ⟨x8, a8, _⟩ := h7.book g8
      have q7 := eq_book (l := l + 6) h7 g7 g8
      have be : bkEq form rs form o = T.eqb (tRs o) (tRs rs) := by simp only [bkEq, T.eqb_refl, Bool.true_and]; exact eqb_comm _ _
      rw [be] at q7
      have d1 := dep_tRs rs
      have d2 := dep_tRs o
      have c1 : Mini.cmp .eq (.t (tRs o)) (.t (tRs rs)) = pure (T.eqb (tRs o) (tRs rs)) := cm_eq (okD_tRs _) (okD_tRs _) (by omega) (by omega)
      have c2 : Mini.cmp .ne (.t (tRs o)) (.t (tRs rs)) = pure (!T.eqb (tRs o) (tRs rs)) := cm_ne (okD_tRs _) (okD_tRs _) (by omega) (by omega)
      simp [a7, a8, eqOO_bk, eqRO_bk, w_at q7, c1, c2]
      exact hY _ _ ⟨_, _, _, Ext.trans xt Ext.snoc, h7, by simp; and_intros <;> rfl⟩
    · simp
      exact hY _ _ ⟨_, _, _, xt, hs, rfl⟩
  · rintro ρ s' ⟨G', x6, x10, xt, hs, rfl⟩
    refine ⟨rfl, ?_⟩
    obtain ⟨fs, m, hfm⟩ : ∃ fs m, form = fs ++ [m] := by
      rcases List.eq_nil_or_concat form with h | ⟨fs, m, h⟩
      · rw [h] at f1; simp at f1
      · exact ⟨fs, m, by rw [h, List.concat_eq_append]⟩
    have a1 : L2.atI (List.map T.int form) (-1) = some (.int m) := by rw [hfm, List.map_append]; exact atI_m1 _ _
    have a2 : cut (List.map T.int form) none (some (-1)) = fs.map T.int := by rw [hfm, List.map_append]; exact cut_m1 _ _
    have mb := f3 m (by rw [hfm]; simp)
    have fb : ∀ q ∈ fs, 2 ≤ q ∧ q ≤ 6 := fun q hq => f3 q (by rw [hfm]; exact List.mem_append_left _ hq)
    have fl : form.length = fs.length + 1 := by rw [hfm]; simp
    have pf := prodN_pos fs fun q hq => (fb q hq).1
    have pm : prodN form = prodN fs * m.toNat := by rw [hfm, prodN_snoc]
    simp only [rest_nx]
    refine w_mid (fun ρ s2 => s2 = s' ∧ ∃ form0 : List Int, ρ = [some (.t (.ref h)), some (.t (tI form)), some (.t (tRs rs)), x3'', some (.t (tB more)), none, some (.t (tI form0)), some (.t (.ref G.length)), some (.t (.ref (G.length + 1))), x9', x10, none, none] ∧ ((form0 = [] ∧ form = [2]) ∨ (FormOk form0 ∧ form0 ≠ form))) (fun V hV => ?_) ?_
    · simp [a1]
      refine w_if (fun hz => ?_) (fun hz => ?_)
      · simp [a1, a2]
        refine ⟨by omega, hV _ _ ⟨rfl, fs ++ [m - 1], by simp, .inr ⟨⟨by simp, by simp; omega, ?_, ?_⟩, ?_⟩⟩⟩
        · intro q hq
          rcases List.mem_append.mp hq with hq | hq
          · exact fb q hq
          · simp at hq; omega
        · rw [prodN_snoc]
          have : prodN fs * (m - 1).toNat ≤ prodN fs * m.toNat := Nat.mul_le_mul_left _ (by omega)
          omega
        · intro he
          rw [hfm] at he
          simp at he
          omega
      · simp [a2]
        by_cases hfs : fs = []
        · subst hfs
          refine hV _ _ ⟨rfl, [], by simp, .inl ⟨rfl, ?_⟩⟩
          rw [hfm, show m = 2 by omega]
          rfl
        · have : 0 < fs.length := List.length_pos_iff.mpr hfs
          refine hV _ _ ⟨rfl, fs, by simp, .inr ⟨⟨by omega, by omega, fb, ?_⟩, fun he => ?_⟩⟩
          · have : prodN fs * 1 ≤ prodN fs * m.toNat := Nat.mul_le_mul_left _ (by omega)
            omega
          · rw [← he] at fl
            omega
    rintro _ s8 ⟨rfl, form0, rfl, h0⟩
    refine w_mid (fun ρ s2 => s2 = s8 ∧ ∃ form0 : List Int, ρ = [some (.t (.ref h)), some (.t (tI form)), some (.t (tRs rs)), x3'', some (.t (tB more)), none, some (.t (tI form0)), some (.t (.ref G.length)), some (.t (.ref (G.length + 1))), x9', x10, none, none] ∧ FormOk form0 ∧ form0 ≠ form) (fun V hV => ?_) ?_
    · simp
      rcases h0 with ⟨rfl, h2⟩ | ⟨h1, h2⟩
      · simp
        exact hV _ _ ⟨rfl, [3], rfl, ⟨by decide, by decide, by decide, by decide⟩, by rw [h2]; decide⟩
      · simp [show 0 < form0.length from h1.1]
        exact hV _ _ ⟨rfl, form0, rfl, h1, h2⟩
    rintro _ _ ⟨rfl, form1, rfl, hf1, hne⟩
    simp
    have hF : FormOk form := ⟨f1, f2, f3, f4⟩
    have nr : ∀ form, RulesOk form [] := fun form => ⟨by simp, by simp⟩
    obtain ⟨sA, mA, hA⟩ := make_book (l := l + 1) hs hF (nr form)
    refine w_ok mA ?_
    simp
    obtain ⟨sB, mB, hB⟩ := make_book (l := l + 1) hA hf1 (nr form1)
    refine w_ok mB ?_
    have gA : (G' ++ [Ki.book form []] ++ [Ki.book form1 []])[G'.length]? = some (.book form []) := Ext.snoc.at (by simp)
    have gB : (G' ++ [Ki.book form []] ++ [Ki.book form1 []])[G'.length + 1]? = some (.book form1 []) := by simp
    obtain ⟨xA, aA, _⟩ := hB.book gA
    obtain ⟨xB, aB, _⟩ := hB.book gB
    have qB := eq_book (l := l + 6) hB gA gB
    have be : bkEq form [] form1 [] = false := by
      unfold bkEq
      cases hq : T.eqb (tI form) (tI form1) with
      | false => rfl
      | true =>
        have := T.eq_of_eqb _ _ hq
        simp only [T.tup.injEq] at this
        exact absurd ((List.map_inj_right (fun a b h => by cases h; rfl)).mp this).symm hne
    rw [be] at qB
    simp [aA, aB, eqOO_bk, eqRO_bk, w_at qB]
    obtain ⟨sC, mC, hC⟩ := make_book (l := l + 1) hB hF (nr form)
    refine w_ok mC ?_
    simp
    obtain ⟨sD, mD, hD⟩ := make_book (l := l + 1) hC hF (nr form)
    refine w_ok mD ?_
    have gC : (G' ++ [Ki.book form []] ++ [Ki.book form1 []] ++ [Ki.book form []] ++ [Ki.book form []])[G'.length + 2]? = some (.book form []) := Ext.snoc.at (by simp)
    have gD : (G' ++ [Ki.book form []] ++ [Ki.book form1 []] ++ [Ki.book form []] ++ [Ki.book form []])[G'.length + 3]? = some (.book form []) := by simp
    obtain ⟨xC, aC, _⟩ := hD.book gC
    obtain ⟨xD, aD, _⟩ := hD.book gD
    have qD := eq_book (l := l + 6) hD gC gD
    rw [show bkEq form [] form [] = true by simp [bkEq, T.eqb_refl]] at qD
    simp [aC, aD, eqOO_bk, eqRO_bk, w_at qD]
    exact hZ _ _ ⟨rfl, _, Ext.trans x3 (Ext.trans xt (Ext.trans (Ext.trans (Ext.trans Ext.snoc Ext.snoc) Ext.snoc) Ext.snoc)), hD.mono (by omega)⟩
theorem numsF_len (rs : List (List (List Int))) (f : List Int) : (numsF rs f).length ≤ rs.length := by
  unfold numsF
  rw [List.length_map]
  refine Nat.le_trans (List.length_filter_le _ _) ?_
  rw [List.length_zip]
  omega
theorem numsF_int {rs : List (List (List Int))} {f : List Int} {b : T} (h : b ∈ (numsF rs f).map T.int) : ∃ n, b = .int n := by
  obtain ⟨n, _, rfl⟩ := List.mem_map.mp h
  exact ⟨n, rfl⟩
theorem looks_spec {l : Nat} {G : Sg} {k : Int} {s : S} {h c : Nat} {form : List Int} {rs : List (List (List Int))} (ht : HT G (k + 300) s) (e : G[h]? = some (HK c)) (k0 : 0 ≤ k) (hf : FormOk form) (hr : RulesOk form rs) :
    Go (callN P (l + 8) HD.n__law_looks_right [.t (.ref h), .t (tI form), .t (tRs rs)]) s fun v s' => v = .t (.bl true) ∧ ∃ G', Ext G G' ∧ HT G' k s' := by
  refine go_k (fd := HD.f__law_looks_right) rfl rfl fun Z hZ => ?_
  have hF := hf
  have hrs := hr
  obtain ⟨f1, f2, f3, f4⟩ := hf
  have fl := faults_len form
  have fp : 0 < (faults form).length := by rw [fl]; exact prodN_pos form fun m hm => (f3 m hm).1
  simp [HD.f__law_looks_right]
  obtain ⟨s1, m1, h1⟩ := make_book (l := l + 1) ht hF hr
  refine w_ok m1 ?_
  simp [lfaults_spec form hF]
  have hl := hr.1
  have ga : (G ++ [Ki.book form rs])[G.length]? = some (.book form rs) := by simp
  have cn : ∀ f : List Int, Mini.cmp .eq (.t (tI (numsF rs f))) (.t (.tup [])) = pure (lawfulB rs f) := by
    intro f
    rw [show (T.tup []) = tI [] from rfl, cm_eq (okD_tI _) (okD_tI _) (Nat.le_trans (dep_tI _) (by omega)) (by simp [T.dep, T.deps])]
    congr 1
    rw [Bool.eq_iff_iff, ← nums_nil]
    cases numsF rs f <;> simp [T.eqb, T.eqbAll]
  refine ⟨by omega, w_lc (lawfulB rs) tI rfl (fun f _ => ⟨_, rfl, by simp [numbers_spec rs f hr, cn], fun _ => by simp⟩) ?_⟩
  simp
  rw [show (faults form).filter (lawfulB rs) = allowedF form rs from rfl]
  have al : ∀ f ∈ allowedF form rs, f ∈ faults form := fun f hf => (List.mem_filter.mp hf).1
  have ac : (allowedF form rs).length ≤ 4000 := by
    have := List.length_filter_le (lawfulB rs) (faults form)
    unfold allowedF
    omega
  refine w_use (bfaults_spec (l := l + 3) h1 ga hF hr) ?_
  rintro _ s2 ⟨rfl, G2, x2, h2⟩
  simp
  have okF : T.okDs ((allowedF form rs).map tI) = true := okDs_tB _
  have dpF : T.deps ((allowedF form rs).map tI) ≤ 59 := Nat.le_trans (deps_tB _) (by omega)
  have h3 := h2.alloc .any (.lst ((allowedF form rs).map tI)) trivial
  have hs2 := h2.1
  have e3 : (s2 ++ [O.lst (List.map tI (allowedF form rs))] : S)[s2.length]? = some (.lst ((allowedF form rs).map tI)) := by simp
  have gl : (G2 ++ [Ki.any])[s2.length]? = some .any := by rw [hs2]; simp
  generalize hg3 : (s2 ++ [O.lst (List.map tI (allowedF form rs))] : S) = s3 at h3 e3
  simp [kn_r e3, w_at (cmL_ne (ld_r e3 okF) (ld_s (g := [.sl 3]) okF) okF okF dpF dpF), T.eqbAll_refl, e3]
  refine ⟨by omega, w_lcA (fun _ => T.bl true) (oks_o e3) (fun b _ => ⟨_, rfl, by simp, by simp⟩) ?_⟩
  have hl3 : s2.length < s3.length := (List.getElem?_eq_some_iff.mp e3).1
  have h4 := h3.set gl (o := .lst (.non :: ((allowedF form rs ++ []).map tI ++ [.non]).tail)) trivial
  have ixz : L2.ixN ((allowedF form rs).length + 1) 0 = some 0 := by
    unfold L2.ixN
    rw [if_pos (by omega), if_pos (by omega)]
    rfl
  simp [e3, List.getElem?_set_self hl3, ixz]
  refine ⟨by omega, ?_⟩
  generalize hg4 : List.set s3 s2.length (O.lst ((List.map tI (allowedF form rs) ++ [T.non]).set 0 T.non)) = s4
  have h4 : HT (G2 ++ [Ki.any]) (k + 300) s4 := by rw [← hg4]; exact h3.set gl trivial
  have ga4 : (G2 ++ [Ki.any])[G.length]? = some (.book form rs) := Ext.snoc.at (x2.at ga)
  refine w_use (bfaults_spec (l := l + 3) h4 ga4 hF hr) ?_
  rintro _ s5 ⟨rfl, G5, x5, h5⟩
  simp [w_at (cmL_ne (ld_l okF) (ld_s (g := [.sl 3]) okF) okF okF dpF dpF), T.eqbAll_refl]
  have r8 : rangeV 0 8 = pure (.s (rangeT 0 8) []) := rng_ok (by omega) (by omega) (by rw [szl]; omega)
  have r7 : rangeV 0 7 = pure (.s (rangeT 0 7) []) := rng_ok (by omega) (by omega) (by rw [szl]; omega)
  have xG : Ext G G5 := Ext.trans Ext.snoc (Ext.trans x2 (Ext.trans Ext.snoc x5))
  have ga5 : G5[G.length]? = some (.book form rs) := x5.at ga4
  simp [r8]
  have cN : ∀ a : List Int, Mini.cmp .ne (.t (tI a)) (.t (tI a)) = pure false := fun a => by rw [cm_ne (okD_tI _) (okD_tI _) (Nat.le_trans (dep_tI _) (by omega)) (Nat.le_trans (dep_tI _) (by omega)), T.eqb_refl]; rfl
  refine w_fork (fun i ρ s' => ∃ (G' : Sg) (x5 x10 x11 : Option TV), Ext G5 G' ∧ HT G' (k + 300 - i) s' ∧ ρ = [some (.t (.ref h)), some (.t (tI form)), some (.t (tRs rs)), some (.l ((allowedF form rs).map tI)), some (.t (.ref s2.length)), x5, none, none, some (.t (.ref G.length)), some (.l ((faults form).map tI)), x10, x11, none]) ⟨G5, none, none, none, Ext.refl, by simpa using h5, rfl⟩ ?_ ?_
  · rintro i m ρ s' hi ⟨G', x5', x10, x11, xt, hs, rfl⟩
    have hil := (List.getElem?_eq_some_iff.mp hi).1
    simp at hil
    refine ⟨rfl, _, rfl, fun Y hY => ?_⟩
    simp
    refine w_use (some_spec (k := k + 299 - i) (xs := (faults form).map tI) (hs.mono (by omega)) (xt.at (xG.at e)) (by omega) (.inl rfl) (by simpa using fp) (by simp; omega)) ?_
    rintro _ s6 ⟨x, hx, rfl, h6⟩
    obtain ⟨f, hfm, rfl⟩ := List.mem_map.mp hx
    have g6 := xt.at ga5
    simp [w_at (broken_spec (l := l + 1) h6 g6 hF hr f hfm), numbers_spec rs f hr, cN]
    refine ⟨by have := numsF_len rs f; omega, w_lcA (fun _ => T.bl false) rfl (fun b hb => ⟨_, rfl, by simp, ?_⟩) ?_⟩
    · simp
    simp [boolsOf, w_at (lawful_spec (l := l + 1) h6 g6 hF hr f hfm), cn, flag_spec]
    exact hY _ _ ⟨G', _, _, _, xt, h6.mono (by omega), by simp; and_intros <;> rfl⟩
  · rintro ρ s' ⟨G', x5', x10, x11, xt, hs, rfl⟩
    refine ⟨rfl, ?_⟩
    have rp : repOk 1 (form.length : Int) = true := by simp [repOk]; omega
    simp [rp]
    simp only [List.length_range] at hs
    refine w_use (some_spec (k := k + 291) (xs := (faults form).map tI) (hs.mono (by omega)) (xt.at (xG.at e)) (by omega) (.inl rfl) (by simpa using fp) (by simp; omega)) ?_
    rintro _ s6 ⟨x, hx, rfl, h6⟩
    obtain ⟨f0, hf0, rfl⟩ := List.mem_map.mp hx
    simp [r7]
    refine many_lc (k := k + 100) (c := 20) (Pd := fun z => ∃ r, z = tR r ∧ RepOk form r) (h6.mono (by simp; omega)) (by omega) (by omega) (fun a ha => ⟨_, rfl, fun s => by simp, fun s kk kk0 hkk V hV => ?_⟩) ?_
    · simp at ha
      simp
      refine w_use (report_spec (k := kk) hkk (xt.at (xG.at e)) kk0 hF) ?_
      rintro _ s7 ⟨r, rfl, hr, h7⟩
      simp
      exact hV _ _ ⟨r, rfl, hr⟩ h7
    · intro zs s7 hzl hz h7
      obtain ⟨qs, rfl, hqs⟩ := all_map hz
      simp
      have hall : ∀ r ∈ List.replicate form.length none :: f0.map some :: qs, RepOk form r := by
        intro r hr
        simp only [List.mem_cons] at hr
        rcases hr with rfl | rfl | hr
        · refine ⟨by simp, by omega, fun p hp a ha => ?_⟩
          have := List.of_mem_zip hp
          simp [ha] at this
        · exact rep_of_fault (by omega) hf0
        · exact hqs r hr
      have he : (T.tup (List.replicate form.length T.non) :: tI f0 :: List.map tR qs) = (List.replicate form.length none :: f0.map some :: qs).map tR := by
        simp [← tI_tR, tO]
      rw [he]
      simp at hzl
      refine ⟨by omega, w_fork (fun i ρ s' => ∃ (G'' : Sg) (x7 : Option TV), Ext G' G'' ∧ HT G'' (k + 100) s' ∧ ρ = [some (.t (.ref h)), some (.t (tI form)), some (.t (tRs rs)), some (.l ((allowedF form rs).map tI)), some (.t (.ref s2.length)), x5', none, x7, some (.t (.ref G.length)), some (.l ((faults form).map tI)), x10, x11, none]) ⟨G', none, Ext.refl, h7, rfl⟩ ?_ ?_⟩
      · rintro i r ρ s' hi ⟨G'', x7, xu, hs, rfl⟩
        have hr := hall r (List.mem_of_getElem? hi)
        refine ⟨rfl, _, rfl, fun Y hY => ?_⟩
        simp
        refine w_use (can_be_spec (l := l + 2) hs (xu.at (xt.at ga5)) hF hrs r hr) ?_
        rintro _ s8 ⟨rfl, G8, x8, h8⟩
        simp
        refine ⟨by omega, w_lcA (fun f => T.bl (agreeB r f)) rfl (fun f hf => ⟨_, rfl, by simp, ?_⟩) ?_⟩
        · simp [agrees_spec (l := l + 6) r f (by have := hr.1; omega)]
        · simp [flag_spec, List.any_map, Function.comp_def]
          exact hY _ _ ⟨G8, _, Ext.trans xu x8, h8, rfl⟩
      · rintro ρ s' ⟨G'', x7, xu, hs, rfl⟩
        refine ⟨rfl, ?_⟩
        simp
        exact hZ _ _ ⟨rfl, _, Ext.trans xG (Ext.trans xt xu), hs.mono (by omega)⟩
abbrev qForm : List Int := [2, 2, 3]
abbrev qRules : List (List (List Int)) := [[[0], [0, 1], [0, 1, 2]], [[0, 1], [1], [0, 1]], [[0], [1], [0, 2]]]
theorem q_form : FormOk qForm := ⟨by decide, by decide, by decide, by decide⟩
theorem q_rules : RulesOk qForm qRules := by
  refine ⟨by decide, fun b hb => ⟨?_, by decide, fun p hp => ⟨?_, ?_, ?_, ?_⟩⟩⟩
  all_goals simp [qRules] at hb
  · rcases hb with rfl | rfl | rfl <;> rfl
  all_goals rcases hb with rfl | rfl | rfl <;> simp [qForm] at hp <;> rcases hp with rfl | rfl | rfl <;> decide
theorem q_allowed : allowedF qForm qRules = [[1, 0, 0], [1, 0, 1], [1, 0, 2], [1, 1, 2]] := by decide +kernel
theorem q_n1 : numsF qRules [0, 1, 0] = [0, 1, 2] := by decide +kernel
theorem q_n2 : numsF qRules [0, 0, 0] = [0] := by decide +kernel
theorem q_n3 : numsF qRules [1, 1, 1] = [1] := by decide +kernel
theorem q_n4 : numsF qRules [1, 1, 2] = [] := by decide +kernel
theorem q_l1 : lawfulB qRules [1, 1, 2] = true := by decide +kernel
theorem q_l2 : lawfulB qRules [1, 1, 1] = false := by decide +kernel
theorem q_a1 : (allowedF qForm qRules).any (agreeB [none, some 1, none]) = true := by decide +kernel
theorem q_a2 : (allowedF qForm qRules).any (agreeB [none, some 1, some 0]) = false := by decide +kernel
theorem q_m (f : List Int) (h : f ∈ [[0, 1, 0], [0, 0, 0], [1, 1, 1], [1, 1, 2]]) : f ∈ faults qForm := by
  simp at h
  rcases h with rfl | rfl | rfl | rfl <;> decide +kernel
theorem q_r (r : List (Option Int)) (h : r ∈ [[none, some 1, none], [none, some 1, some 0]]) : RepOk qForm r := by
  simp at h
  rcases h with rfl | rfl <;> refine ⟨rfl, by decide, fun p hp => ?_⟩ <;> simp [qForm] at hp <;> rcases hp with rfl | rfl | rfl <;> simp
theorem known_spec {l : Nat} {G : Sg} {k : Int} {s : S} (ht : HT G k s) : Go (callN P (l + 10) HD.n__law_known_right []) s fun v s' => v = .t (.bl true) ∧ ∃ G', Ext G G' ∧ HT G' k s' := by
  refine go_k (fd := HD.f__law_known_right) rfl rfl fun Z hZ => ?_
  simp [HD.f__law_known_right]
  obtain ⟨s1, m1, h1⟩ := make_book (l := l + 3) ht q_form q_rules
  refine w_ok m1 ?_
  simp
  have g1 : (G ++ [Ki.book qForm qRules])[G.length]? = some (.book qForm qRules) := by simp
  refine w_use (bfaults_spec (l := l + 5) h1 g1 q_form q_rules) ?_
  rintro _ s2 ⟨rfl, G2, x2, h2⟩
  have g2 := x2.at g1
  have b1 : callN P (l + 9) HD.n_broken [.t (.ref G.length), .t (.tup [.int 0, .int 1, .int 0])] s2 = .ok (.t (.tup [.int 0, .int 1, .int 2])) s2 := by
    have := broken_spec (l := l + 3) h2 g2 q_form q_rules [0, 1, 0] (q_m _ (by simp))
    rw [q_n1] at this
    exact this
  have b2 : callN P (l + 9) HD.n_broken [.t (.ref G.length), .t (.tup [.int 0, .int 0, .int 0])] s2 = .ok (.t (.tup [.int 0])) s2 := by
    have := broken_spec (l := l + 3) h2 g2 q_form q_rules [0, 0, 0] (q_m _ (by simp))
    rw [q_n2] at this
    exact this
  have b3 : callN P (l + 9) HD.n_broken [.t (.ref G.length), .t (.tup [.int 1, .int 1, .int 1])] s2 = .ok (.t (.tup [.int 1])) s2 := by
    have := broken_spec (l := l + 3) h2 g2 q_form q_rules [1, 1, 1] (q_m _ (by simp))
    rw [q_n3] at this
    exact this
  have b4 : callN P (l + 9) HD.n_broken [.t (.ref G.length), .t (.tup [.int 1, .int 1, .int 2])] s2 = .ok (.t (.tup [])) s2 := by
    have := broken_spec (l := l + 3) h2 g2 q_form q_rules [1, 1, 2] (q_m _ (by simp))
    rw [q_n4] at this
    exact this
  have l1 : callN P (l + 9) HD.n_lawful [.t (.ref G.length), .t (.tup [.int 1, .int 1, .int 2])] s2 = .ok (.t (.bl true)) s2 := by
    have := lawful_spec (l := l + 3) h2 g2 q_form q_rules [1, 1, 2] (q_m _ (by simp))
    rw [q_l1] at this
    exact this
  have l2 : callN P (l + 9) HD.n_lawful [.t (.ref G.length), .t (.tup [.int 1, .int 1, .int 1])] s2 = .ok (.t (.bl false)) s2 := by
    have := lawful_spec (l := l + 3) h2 g2 q_form q_rules [1, 1, 1] (q_m _ (by simp))
    rw [q_l2] at this
    exact this
  rw [q_allowed]
  have dt : ∀ {s : S} {xs : List T}, T.okDs xs = true → (TV.l xs).dat s = some (.list (T.toDs xs)) := fun h => ld_l h
  simp
  refine w_ok (cmL_ne (ld_l (by decide)) (ld_l (by decide)) (by decide) (by decide) (by decide) (by decide)) ?_
  simp [show T.eqbAll [tI [1, 0, 0], tI [1, 0, 1], tI [1, 0, 2], tI [1, 1, 2]] [.tup [.int 1, .int 0, .int 0], .tup [.int 1, .int 0, .int 1], .tup [.int 1, .int 0, .int 2], .tup [.int 1, .int 1, .int 2]] = true by decide, w_at b1]
  have c1 : Mini.cmp .ne (.t (.tup [.int 0, .int 1, .int 2])) (.t (.tup [.int 0, .int 1, .int 2])) = pure false := by
    rw [cm_ne (by decide) (by decide) (by decide) (by decide), T.eqb_refl]; rfl
  simp [c1]
  have r1 : repOk 1 3 = true := rfl
  refine w_lcA (j := tI) (as := [[0, 0, 0], [1, 1, 1], [1, 1, 2]]) (fun f => tI (numsF qRules f)) rfl (fun f hf => ⟨_, rfl, by simp, ?_⟩) ?_
  · simp [w_at (broken_spec (l := l + 3) h2 g2 q_form q_rules f (q_m f (List.mem_cons_of_mem _ hf)))]
  simp [q_n2, q_n3, q_n4]
  refine w_ok (cmL_ne (ld_l (by decide)) (ld_l (by decide)) (by decide) (by decide) (by decide) (by decide)) ?_
  simp [show T.eqbAll [tI [0], tI [1], tI []] [.tup [.int 0], .tup [.int 1], .tup []] = true by decide, w_at l1, w_at l2]
  refine w_use (can_be_spec (l := l + 4) h2 g2 q_form q_rules [none, some 1, none] (q_r _ (by simp))) ?_
  rintro _ s3 ⟨rfl, G3, x3, h3⟩
  simp [q_a1]
  refine w_use (can_be_spec (l := l + 4) h3 (x3.at g2) q_form q_rules [none, some 1, some 0] (q_r _ (by simp))) ?_
  rintro _ s4 ⟨rfl, G4, x4, h4⟩
  simp [q_a2]
  refine w_lcA (j := T.bl) (as := [true, false, true, false]) (fun _ => T.bl true) rfl (fun f hf => ⟨_, rfl, by simp, by simp⟩) ?_
  simp [boolsOf]
  have ce : ∀ s : S, Mini.cmp .eq (.l [.bl true, .bl false, .bl true, .bl false]) (.l [.bl true, .bl false, .bl true, .bl false]) s = .ok true s := fun s => by
    show (if SeqAt.shaped (.list [.bool true, .bool false, .bool true, .bool false]) && SeqAt.shaped (.list [.bool true, .bool false, .bool true, .bool false]) then Res.ok (PyData.eqv (.list [.bool true, .bool false, .bool true, .bool false]) (.list [.bool true, .bool false, .bool true, .bool false])) s else .bad) = _
    rfl
  refine w_ok (ce s4) ?_
  simp
  exact hZ _ _ ⟨rfl, G4, Ext.trans Ext.snoc (Ext.trans x2 (Ext.trans x3 x4)), h4⟩

theorem law_spec (ns : List Int) (hn : ns.length ≤ 63) : ∃ th, callN P 40 HD.n_law [.s (ns.map T.int) []] [] = .ok (.t (.bl true)) th := by
  have key : Go (callN P (39 + 1) HD.n_law [.s (ns.map T.int) []]) [] fun v _ => v = .t (.bl true) := by
    refine go_k (fd := HD.f_law) rfl rfl fun Z hZ => ?_
    simp [HD.f_law]
    refine w_use (hand_spec (l := 38) ns hn) ?_
    rintro _ s1 ⟨cells, a, h1, h2, h3, rfl, rfl⟩
    simp
    have ht := hand_HT (k := 100000) h1 h2 h3 (by omega)
    refine w_use (known_spec (l := 29) ht) ?_
    rintro _ s2 ⟨rfl, G2, x2, hs2⟩
    have r3 : rangeV 0 3 = pure (.s (rangeT 0 3) []) := rng_ok (by omega) (by omega) (by rw [szl]; omega)
    simp [r3]
    refine w_fork (fun i ρ s' => ∃ (x0 x2 x3 x4 x5 x6 : Option TV), ρ = [x0, some (.t (.ref 1)), x2, x3, x4, x5, x6] ∧ ∃ G', G'[1]? = some (.hand 0) ∧ HT G' (100000 - 20000 * i) s') ⟨_, _, _, _, _, _, rfl, _, x2.at rfl, by simpa using hs2⟩ ?_ ?_
    · rintro i t ρ s' hi ⟨x0, x2, x3, x4, x5, x6, rfl, G1, g1, hs⟩
      have hil := (List.getElem?_eq_some_iff.mp hi).1
      simp at hil
      refine ⟨rfl, _, rfl, fun Y hY => ?_⟩
      simp
      refine w_use (draw_spec (k := 100000 - 20000 * i - 1) (hs.mono (by omega)) g1 (by omega) (by omega) (by omega)) ?_
      rintro _ s3 ⟨a, rfl, a0, a1, h3⟩
      simp
      refine w_use (draw_spec (k := 100000 - 20000 * i - 2) (h3.mono (by omega)) g1 (by omega) (by omega) (by omega)) ?_
      rintro _ s4 ⟨b, rfl, b0, b1, h4⟩
      simp
      obtain ⟨i0, hi0, hi2⟩ : ∃ i0 : Int, ((if a = 0 then 1 else 0) + if b = 0 then 1 else 0) = i0 ∧ (i0 = 0 ∨ i0 = 1 ∨ i0 = 2) := ⟨_, rfl, by split <;> split <;> omega⟩
      obtain ⟨z, hz, hz2⟩ : ∃ z : Int, L2.atI [T.int 200, T.int 1000, T.int 4000] i0 = some (.int z) ∧ 200 ≤ z ∧ z ≤ 4000 := by
        rcases hi2 with rfl | rfl | rfl
        · exact ⟨200, rfl, by omega⟩
        · exact ⟨1000, rfl, by omega⟩
        · exact ⟨4000, rfl, by omega⟩
      simp [hi0, hz]
      refine w_use (some_spec (l := 37) (k := 100000 - 20000 * i - 3) (xs := [.int 8, .int 30, .int 60, .int 100, .int 100, .int z]) (h4.mono (by omega)) g1 (by omega) (.inl rfl) (by simp) (by simp)) ?_
      rintro _ s5 ⟨x, hx, rfl, h5⟩
      obtain ⟨m, rfl, m0, m1⟩ : ∃ m : Int, x = .int m ∧ 6 ≤ m ∧ m ≤ 4000 := by
        simp only [List.mem_cons, List.not_mem_nil, or_false] at hx
        rcases hx with rfl | rfl | rfl | rfl | rfl | rfl <;> exact ⟨_, rfl, by omega, by omega⟩
      simp
      refine w_use (form_spec (l := 36) (k := 100000 - 20000 * i - 20) (h5.mono (by omega)) g1 (by omega) m0 m1) ?_
      rintro _ s6 ⟨form, rfl, hf, hp, h6⟩
      simp [-rest_nx]
      simp only [rest_nx]
      refine w_mid (fun ρ s' => ∃ form, ρ = [x0, some (.t (.ref 1)), some (.t (.int (t : Int))), some (.t (.int i0)), some (.t (.int m)), some (.t (tI form)), x6] ∧ FormOk form ∧ HT G1 (100000 - 20000 * i - 30) s') (fun V hV => ?_) ?_
      · simp
        refine w_if (fun hm => ?_) (fun hm => ?_)
        · simp
          refine w_use (draw_spec (k := 100000 - 20000 * i - 21) (h6.mono (by omega)) g1 (by omega) (by omega) (by omega)) ?_
          rintro _ s7 ⟨d, rfl, d0, d1, h7⟩
          simp
          refine w_if (fun hd => ?_) (fun hd => ?_)
          · simp
            refine w_use (some_spec (l := 37) (k := 100000 - 20000 * i - 22) (xs := [tI [5, 5, 5, 4, 2, 4], tI [4, 5, 2, 5, 4, 5], tI [2, 2, 2, 2, 2, 5, 5, 5]]) (h7.mono (by omega)) g1 (by omega) (.inl rfl) (by simp) (by simp)) ?_
            rintro _ s8 ⟨x, hx, rfl, h8⟩
            obtain ⟨form2, rfl, hf2⟩ : ∃ form, x = tI form ∧ FormOk form := by
              simp only [List.mem_cons, List.not_mem_nil, or_false] at hx
              rcases hx with rfl | rfl | rfl
              all_goals exact ⟨_, rfl, ⟨by decide, by decide, by decide, by decide⟩⟩
            simp
            exact hV _ _ ⟨form2, by rw [hi0], hf2, h8.mono (by omega)⟩
          · simp
            exact hV _ _ ⟨form, by rw [hi0], hf, h7.mono (by omega)⟩
        · simp [hm]
          exact hV _ _ ⟨form, by rw [hi0], hf, h6.mono (by omega)⟩
      rintro _ s7 ⟨form, rfl, hf, h7⟩
      simp
      refine w_use (rules_spec (l := 35) (k := 100000 - 20000 * i - 6000) (h7.mono (by omega)) g1 (by omega) hf) ?_
      rintro _ s8 ⟨rs0, rfl, hr0, h8⟩
      simp [-rest_nx]
      simp only [rest_nx]
      refine w_mid (fun ρ s' => s' = s8 ∧ ∃ rs, ρ = [x0, some (.t (.ref 1)), some (.t (.int (t : Int))), some (.t (.int i0)), some (.t (.int m)), some (.t (tI form)), some (.t (tRs rs))] ∧ RulesOk form rs) (fun V hV => ?_) ?_
      · simp
        refine w_if (fun hm => ?_) (fun hm => ?_)
        · simp [cut_map]
          exact hV _ _ ⟨rfl, cut rs0 none (some 6), rfl, ⟨Nat.le_trans (cut_len rs0 _ _) hr0.1, fun b hb => hr0.2 b (mem_cut hb)⟩⟩
        · simp
          exact hV _ _ ⟨rfl, rs0, rfl, hr0⟩
      rintro _ _ ⟨rfl, rs, rfl, hr⟩
      simp
      refine w_use (is_equal_spec (l := 31) (k := 100000 - 20000 * i - 7000) (h8.mono (by omega)) g1 (by omega) hf hr) ?_
      rintro _ s9 ⟨rfl, G3, x3', h9⟩
      simp
      refine w_use (looks_spec (l := 31) (k := 100000 - 20000 * i - 8000) (h9.mono (by omega)) (x3'.at g1) (by omega) hf hr) ?_
      rintro _ s10 ⟨rfl, G4, x4', h10⟩
      simp
      exact hY _ _ ⟨_, _, _, _, _, _, rfl, G4, x4'.at (x3'.at g1), h10.mono (by omega)⟩
    · rintro ρ s' ⟨x0, x2, x3, x4, x5, x6, rfl, G1, g1, hs⟩
      refine ⟨rfl, ?_⟩
      simp
      exact hZ _ _ rfl
  obtain ⟨v, th, e, rfl⟩ := key
  exact ⟨th, e⟩

end Pl
set_option linter.all false
set_option maxRecDepth 100000
namespace HD
open PySem PySem.Spec PyProof.Rows Mini
def top (i : Nat) : Stmt := PySem.Challenge.pw_samefault_k03_whole_books_and_lawful_fau.main.body.getD i (.Pass ⟨0, 0, 0, 0⟩)
def mem (i j : Nat) : Stmt := match top i with
  | .ClassDef _ _ _ b _ _ _ _ _ _ _ => b.getD j (.Pass ⟨0, 0, 0, 0⟩)
  | _ => .Pass ⟨0, 0, 0, 0⟩
def d0 : He.DefD := ⟨("is_integer", none), "is_integer", "is_integer", L2.defArgs (top 1), L2.defBody (top 1), L2.defScope (top 1), [], []⟩
def d1 : He.DefD := ⟨("is_within", none), "is_within", "is_within", L2.defArgs (top 2), L2.defBody (top 2), L2.defScope (top 2), [], []⟩
def d2 : He.DefD := ⟨("is_tuple", none), "is_tuple", "is_tuple", L2.defArgs (top 3), L2.defBody (top 3), L2.defScope (top 3), [], []⟩
def d3 : He.DefD := ⟨("is_lot", none), "is_lot", "is_lot", L2.defArgs (top 4), L2.defBody (top 4), L2.defScope (top 4), [], []⟩
def d4 : He.DefD := ⟨("is_form", none), "is_form", "is_form", L2.defArgs (top 12), L2.defBody (top 12), L2.defScope (top 12), [], []⟩
def d5 : He.DefD := ⟨("report_in", none), "report_in", "report_in", L2.defArgs (top 13), L2.defBody (top 13), L2.defScope (top 13), [], []⟩
def d6 : He.DefD := ⟨("fault_in", none), "fault_in", "fault_in", L2.defArgs (top 14), L2.defBody (top 14), L2.defScope (top 14), [], []⟩
def d7 : He.DefD := ⟨("box_in", none), "box_in", "box_in", L2.defArgs (top 15), L2.defBody (top 15), L2.defScope (top 15), [], []⟩
def d8 : He.DefD := ⟨("check_fault", none), "check_fault", "check_fault", L2.defArgs (top 16), L2.defBody (top 16), L2.defScope (top 16), [], []⟩
def d9 : He.DefD := ⟨("check_report", none), "check_report", "check_report", L2.defArgs (top 17), L2.defBody (top 17), L2.defScope (top 17), [], []⟩
def d10 : He.DefD := ⟨("held", none), "held", "held", L2.defArgs (top 18), L2.defBody (top 18), L2.defScope (top 18), [], []⟩
def d11 : He.DefD := ⟨("agreeing", none), "agreeing", "agreeing", L2.defArgs (top 19), L2.defBody (top 19), L2.defScope (top 19), [], []⟩
def d12 : He.DefD := ⟨("all_faults", none), "all_faults", "all_faults", L2.defArgs (top 20), L2.defBody (top 20), L2.defScope (top 20), [], []⟩
def d13 : He.DefD := ⟨("are_rules", none), "are_rules", "are_rules", L2.defArgs (top 23), L2.defBody (top 23), L2.defScope (top 23), [], []⟩
def d14 : He.DefD := ⟨("is_lawful", none), "is_lawful", "is_lawful", L2.defArgs (top 25), L2.defBody (top 25), L2.defScope (top 25), [], []⟩
def d15 : He.DefD := ⟨("listed", none), "listed", "listed", L2.defArgs (top 26), L2.defBody (top 26), L2.defScope (top 26), [], []⟩
def d16 : He.DefD := ⟨("faults", none), "faults", "faults", L2.defArgs (top 27), L2.defBody (top 27), L2.defScope (top 27), [], []⟩
def d17 : He.DefD := ⟨("lawful", none), "lawful", "lawful", L2.defArgs (top 28), L2.defBody (top 28), L2.defScope (top 28), [], []⟩
def d18 : He.DefD := ⟨("broken", none), "broken", "broken", L2.defArgs (top 29), L2.defBody (top 29), L2.defScope (top 29), [], []⟩
def d19 : He.DefD := ⟨("first_for", none), "first_for", "first_for", L2.defArgs (top 30), L2.defBody (top 30), L2.defScope (top 30), [], []⟩
def d20 : He.DefD := ⟨("can_be", none), "can_be", "can_be", L2.defArgs (top 31), L2.defBody (top 31), L2.defScope (top 31), [], []⟩
def d21 : He.DefD := ⟨("_law_hand", none), "_law_hand", "_law_hand", L2.defArgs (top 33), L2.defBody (top 33), L2.defScope (top 33), [], []⟩
def d22 : He.DefD := ⟨("_law_draw", none), "_law_draw", "_law_draw", L2.defArgs (top 34), L2.defBody (top 34), L2.defScope (top 34), [], []⟩
def d23 : He.DefD := ⟨("_law_any", none), "_law_any", "_law_any", L2.defArgs (top 35), L2.defBody (top 35), L2.defScope (top 35), [], []⟩
def d24 : He.DefD := ⟨("_law_form", none), "_law_form", "_law_form", L2.defArgs (top 36), L2.defBody (top 36), L2.defScope (top 36), [], []⟩
def d25 : He.DefD := ⟨("_law_faults", none), "_law_faults", "_law_faults", L2.defArgs (top 37), L2.defBody (top 37), L2.defScope (top 37), [], []⟩
def d26 : He.DefD := ⟨("_law_box", none), "_law_box", "_law_box", L2.defArgs (top 38), L2.defBody (top 38), L2.defScope (top 38), [], []⟩
def d27 : He.DefD := ⟨("_law_held", none), "_law_held", "_law_held", L2.defArgs (top 39), L2.defBody (top 39), L2.defScope (top 39), [], []⟩
def d28 : He.DefD := ⟨("_law_rules", none), "_law_rules", "_law_rules", L2.defArgs (top 40), L2.defBody (top 40), L2.defScope (top 40), [], []⟩
def d29 : He.DefD := ⟨("_law_report", none), "_law_report", "_law_report", L2.defArgs (top 41), L2.defBody (top 41), L2.defScope (top 41), [], []⟩
def d30 : He.DefD := ⟨("_law_agrees", none), "_law_agrees", "_law_agrees", L2.defArgs (top 42), L2.defBody (top 42), L2.defScope (top 42), [], []⟩
def d31 : He.DefD := ⟨("_law_flag", none), "_law_flag", "_law_flag", L2.defArgs (top 43), L2.defBody (top 43), L2.defScope (top 43), [], []⟩
def d32 : He.DefD := ⟨("_law_numbers", none), "_law_numbers", "_law_numbers", L2.defArgs (top 44), L2.defBody (top 44), L2.defScope (top 44), [], []⟩
def d33 : He.DefD := ⟨("_law_is_equal_right", none), "_law_is_equal_right", "_law_is_equal_right", L2.defArgs (top 45), L2.defBody (top 45), L2.defScope (top 45), [], []⟩
def d34 : He.DefD := ⟨("_law_looks_right", none), "_law_looks_right", "_law_looks_right", L2.defArgs (top 46), L2.defBody (top 46), L2.defScope (top 46), [], []⟩
def d35 : He.DefD := ⟨("_law_known_right", none), "_law_known_right", "_law_known_right", L2.defArgs (top 47), L2.defBody (top 47), L2.defScope (top 47), [], []⟩
def d36 : He.DefD := ⟨("law", none), "law", "law", L2.defArgs (top 48), L2.defBody (top 48), L2.defScope (top 48), [], []⟩
def d37 : He.DefD := ⟨("Book", some "__init__"), "__init__", "Book.__init__", L2.defArgs (mem 24 0), L2.defBody (mem 24 0), L2.defScope (mem 24 0), [], []⟩
def d38 : He.DefD := ⟨("Book", some "__eq__"), "__eq__", "Book.__eq__", L2.defArgs (mem 24 1), L2.defBody (mem 24 1), L2.defScope (mem 24 1), [], []⟩
def fn : List He.DefD := [d0, d1, d2, d3, d4, d5, d6, d7, d8, d9, d10, d11, d12, d13, d14, d15, d16, d17, d18, d19, d20, d21, d22, d23, d24, d25, d26, d27, d28, d29, d30, d31, d32, d33, d34, d35, d36, d37, d38]
def G : Gt := ⟨[(("is_integer" : Str), 0), (("is_within" : Str), 1), (("is_tuple" : Str), 2), (("is_lot" : Str), 3), (("is_form" : Str), 4), (("report_in" : Str), 5), (("fault_in" : Str), 6), (("box_in" : Str), 7), (("check_fault" : Str), 8), (("check_report" : Str), 9), (("held" : Str), 10), (("agreeing" : Str), 11), (("all_faults" : Str), 12), (("are_rules" : Str), 13), (("is_lawful" : Str), 14), (("listed" : Str), 15), (("faults" : Str), 16), (("lawful" : Str), 17), (("broken" : Str), 18), (("first_for" : Str), 19), (("can_be" : Str), 20), (("_law_hand" : Str), 21), (("_law_draw" : Str), 22), (("_law_any" : Str), 23), (("_law_form" : Str), 24), (("_law_faults" : Str), 25), (("_law_box" : Str), 26), (("_law_held" : Str), 27), (("_law_rules" : Str), 28), (("_law_report" : Str), 29), (("_law_agrees" : Str), 30), (("_law_flag" : Str), 31), (("_law_numbers" : Str), 32), (("_law_is_equal_right" : Str), 33), (("_law_looks_right" : Str), 34), (("_law_known_right" : Str), 35), (("law" : Str), 36)], [(("Book" : Str), 0)], [("ValueError" : Str), ("abs" : Str), ("all" : Str), ("any" : Str), ("bool" : Str), ("enumerate" : Str), ("int" : Str), ("isinstance" : Str), ("len" : Str), ("list" : Str), ("range" : Str), ("super" : Str), ("tuple" : Str), ("zip" : Str)]⟩
theorem c1 : modC P G fn = true := by decide +kernel
theorem c2 : defsC P G 30 60 P.fns fn = true := by decide +kernel
theorem b0 : BindOk f_is_integer d0 := fun _ _ _ _ _ _ us hl => match us, hl with
  | [_], _ => rfl
theorem b1 : BindOk f_is_within d1 := fun _ _ _ _ _ _ us hl => match us, hl with
  | [_, _, _], _ => rfl
theorem b2 : BindOk f_is_tuple d2 := fun _ _ _ _ _ _ us hl => match us, hl with
  | [_, _, _], _ => rfl
theorem b3 : BindOk f_is_lot d3 := fun _ _ _ _ _ _ us hl => match us, hl with
  | [_, _], _ => rfl
theorem b4 : BindOk f_is_form d4 := fun _ _ _ _ _ _ us hl => match us, hl with
  | [_], _ => rfl
theorem b5 : BindOk f_report_in d5 := fun _ _ _ _ _ _ us hl => match us, hl with
  | [_, _], _ => rfl
theorem b6 : BindOk f_fault_in d6 := fun _ _ _ _ _ _ us hl => match us, hl with
  | [_, _], _ => rfl
theorem b7 : BindOk f_box_in d7 := fun _ _ _ _ _ _ us hl => match us, hl with
  | [_, _], _ => rfl
theorem b8 : BindOk f_check_fault d8 := fun _ _ _ _ _ _ us hl => match us, hl with
  | [_, _], _ => rfl
theorem b9 : BindOk f_check_report d9 := fun _ _ _ _ _ _ us hl => match us, hl with
  | [_, _], _ => rfl
theorem b10 : BindOk f_held d10 := fun _ _ _ _ _ _ us hl => match us, hl with
  | [_, _], _ => rfl
theorem b11 : BindOk f_agreeing d11 := fun _ _ _ _ _ _ us hl => match us, hl with
  | [_, _], _ => rfl
theorem b12 : BindOk f_all_faults d12 := fun _ _ _ _ _ _ us hl => match us, hl with
  | [_], _ => rfl
theorem b13 : BindOk f_are_rules d13 := fun _ _ _ _ _ _ us hl => match us, hl with
  | [_, _], _ => rfl
theorem b14 : BindOk f_is_lawful d14 := fun _ _ _ _ _ _ us hl => match us, hl with
  | [_, _], _ => rfl
theorem b15 : BindOk f_listed d15 := fun _ _ _ _ _ _ us hl => match us, hl with
  | [_], _ => rfl
theorem b16 : BindOk f_faults d16 := fun _ _ _ _ _ _ us hl => match us, hl with
  | [_], _ => rfl
theorem b17 : BindOk f_lawful d17 := fun _ _ _ _ _ _ us hl => match us, hl with
  | [_, _], _ => rfl
theorem b18 : BindOk f_broken d18 := fun _ _ _ _ _ _ us hl => match us, hl with
  | [_, _], _ => rfl
theorem b19 : BindOk f_first_for d19 := fun _ _ _ _ _ _ us hl => match us, hl with
  | [_, _], _ => rfl
theorem b20 : BindOk f_can_be d20 := fun _ _ _ _ _ _ us hl => match us, hl with
  | [_, _], _ => rfl
theorem b21 : BindOk f__law_hand d21 := fun _ _ _ _ _ _ us hl => match us, hl with
  | [_], _ => rfl
theorem b22 : BindOk f__law_draw d22 := fun _ _ _ _ _ _ us hl => match us, hl with
  | [_, _], _ => rfl
theorem b23 : BindOk f__law_any d23 := fun _ _ _ _ _ _ us hl => match us, hl with
  | [_, _], _ => rfl
theorem b24 : BindOk f__law_form d24 := fun _ _ _ _ _ _ us hl => match us, hl with
  | [_, _], _ => rfl
theorem b25 : BindOk f__law_faults d25 := fun _ _ _ _ _ _ us hl => match us, hl with
  | [_], _ => rfl
theorem b26 : BindOk f__law_box d26 := fun _ _ _ _ _ _ us hl => match us, hl with
  | [_, _, _], _ => rfl
theorem b27 : BindOk f__law_held d27 := fun _ _ _ _ _ _ us hl => match us, hl with
  | [_, _], _ => rfl
theorem b28 : BindOk f__law_rules d28 := fun _ _ _ _ _ _ us hl => match us, hl with
  | [_, _], _ => rfl
theorem b29 : BindOk f__law_report d29 := fun _ _ _ _ _ _ us hl => match us, hl with
  | [_, _, _], _ => rfl
theorem b30 : BindOk f__law_agrees d30 := fun _ _ _ _ _ _ us hl => match us, hl with
  | [_, _], _ => rfl
theorem b31 : BindOk f__law_flag d31 := fun _ _ _ _ _ _ us hl => match us, hl with
  | [_, _], _ => rfl
theorem b32 : BindOk f__law_numbers d32 := fun _ _ _ _ _ _ us hl => match us, hl with
  | [_, _], _ => rfl
theorem b33 : BindOk f__law_is_equal_right d33 := fun _ _ _ _ _ _ us hl => match us, hl with
  | [_, _, _], _ => rfl
theorem b34 : BindOk f__law_looks_right d34 := fun _ _ _ _ _ _ us hl => match us, hl with
  | [_, _, _], _ => rfl
theorem b35 : BindOk f__law_known_right d35 := fun _ _ _ _ _ _ us hl => match us, hl with
  | [], _ => rfl
theorem b36 : BindOk f_law d36 := fun _ _ _ _ _ _ us hl => match us, hl with
  | [_], _ => rfl
theorem b37 : BindOk f_Book_init d37 := fun _ _ _ _ _ _ us hl => match us, hl with
  | [_, _, _], _ => rfl
theorem b38 : BindOk f_Book_eq d38 := fun _ _ _ _ _ _ us hl => match us, hl with
  | [_, _], _ => rfl
theorem c3 : BindsOk P.fns fn := ⟨b0, b1, b2, b3, b4, b5, b6, b7, b8, b9, b10, b11, b12, b13, b14, b15, b16, b17, b18, b19, b20, b21, b22, b23, b24, b25, b26, b27, b28, b29, b30, b31, b32, b33, b34, b35, b36, b37, b38, trivial⟩
abbrev R : PySem.W.OpenRow := PySem.W.OpenLaw.row PySem.Challenge.rw_samefault_k03_whole_books_and_lawful_fau
def fa : List He.Fa := [.glo "is_integer", .glo "is_within", .glo "is_tuple", .glo "is_lot", .glo "is_form", .glo "report_in", .glo "fault_in", .glo "box_in", .glo "check_fault", .glo "check_report", .glo "held", .glo "agreeing", .glo "all_faults", .glo "are_rules", .glo "is_lawful", .glo "listed", .glo "faults", .glo "lawful", .glo "broken", .glo "first_for", .glo "can_be", .glo "_law_hand", .glo "_law_draw", .glo "_law_any", .glo "_law_form", .glo "_law_faults", .glo "_law_box", .glo "_law_held", .glo "_law_rules", .glo "_law_report", .glo "_law_agrees", .glo "_law_flag", .glo "_law_numbers", .glo "_law_is_equal_right", .glo "_law_looks_right", .glo "_law_known_right", .glo "law", .glo "Book", .free "ValueError", .free "abs", .free "all", .free "any", .free "bool", .free "enumerate", .free "int", .free "isinstance", .free "len", .free "list", .free "range", .free "super", .free "tuple", .free "zip", .int "MOST_FAULTS" (4000), .int "MOST_RULES" (40), .cls "Book", .mkr "Book", .noat "Book" "listed", .noat "Book" "form", .noat "Book" "rules", .meth "Book" "__eq__"]
theorem fa_eq : faOf P G = fa := by kernel_rfl
abbrev hk : PySem.W.Hook := Mini.hookE 5 fa fn (Mini.exB P)
def ob (s : PySem.W.SharedT) : Mini.AlE := Mini.obsEG 5 fa fn (Mini.exB P) (HandSHeadRun.getT s)
theorem ob_eq (s : PySem.W.SharedT) : ob s = hk.obs s.abs := Mini.obsEG_eq (HandSHeadRun.getT_eq s)
def others : List Str := (["__name__", "is_integer", "is_within", "is_tuple", "is_lot", "FaultError", "NoReport", "NoFault", "BadBook", "MOST_FAULTS", "is_form", "report_in", "fault_in", "box_in", "check_fault", "check_report", "held", "agreeing", "all_faults", "MOST_RULES", "are_rules", "Book", "is_lawful", "listed", "faults", "lawful", "broken", "first_for", "can_be", "_law_hand"] : List Str) ++ (["_law_draw", "_law_any", "_law_form", "_law_faults", "_law_box", "_law_held", "_law_rules", "_law_report", "_law_agrees", "_law_flag", "_law_numbers", "_law_is_equal_right", "_law_looks_right", "_law_known_right"] : List Str)
set_option maxHeartbeats 0 in
theorem run (w : World) : HandSHeadRun.RunEq R (PySem.W.view R.prog [48]) hk ob 4000 others w := by
  intro os
  kernel_rfl
end HD
open PySem PySem.W PySem.Calls PyProof.Rows
set_option maxHeartbeats 0 in
theorem cw_head (pure : ∀ ns : List Int, ns.length ≤ 63 → ∃ th, Mini.callN HD.P 40 36 [.s (ns.map Mini.T.int) []] [] = .ok (.t (.bl true)) th) : PySem.Challenge.rw_samefault_k03_whole_books_and_lawful_fau.Holds := by
  w_on; o_law
  refine HandSHeadRun.head_any (r := OpenLaw.row PySem.Challenge.rw_samefault_k03_whole_books_and_lawful_fau) (q := view (OpenLaw.row PySem.Challenge.rw_samefault_k03_whole_books_and_lawful_fau).prog [48]) (H := HD.hk) (ob := HD.ob) (M := 4000) (loose := HD.others) (d := HandSHeadRun.topDef (OpenLaw.row PySem.Challenge.rw_samefault_k03_whole_books_and_lawful_fau).prog 48) (kwd := []) HD.ob_eq
    (by kernel_rfl) (fun s => by kernel_rfl) HD.run (by kernel_rfl) (by kernel_rfl) (by kernel_rfl) (by rfl) (by first | assumption | decide +kernel) (by decide +kernel) ⟨rfl, rfl, rfl, rfl, rfl, by decide +kernel⟩ ?hw ?hc
  case hw => w_witness2
  case hc =>
    refine Mini.walk_ofG (l := PySem.Challenge.rw_samefault_k03_whole_books_and_lawful_fau) (n := 63) (k := 2 * 40) (x := "script") (CX := fun w => L2.CX PySem.Challenge.rw_samefault_k03_whole_books_and_lawful_fau.prog w) rfl (by decide) (by kernel_rfl) ⟨rfl, by decide, by decide⟩ ?F (fun _ _ _ _ _ z => Mini.cx_false z)
    intro w mg fa h Y G hmg0
    have hmg : mg ("law" : PySem.Str) = some (.ref fa) := by
      have e : (HandSHeadRun.topDef (OpenLaw.row PySem.Challenge.rw_samefault_k03_whole_books_and_lawful_fau).prog 48).name = ("law" : PySem.Str) := by kernel_rfl
      rw [← e]
      exact hmg0
    have Y2 : ∃ K : PySem.W.Frag, K.In h ∧ He.SaysD (Mini.faOf HD.P HD.G) HD.fn K ∧ Mini.exB HD.P K = true := by
      rw [HD.fa_eq]
      exact Y
    exact Mini.law_all Y2 G hmg HD.c1 HD.c2 HD.c3 (f := 36) (by decide +kernel) rfl pure
theorem PySem.Challenge.cw_samefault_k03_whole_books_and_lawful_fau_holds : PySem.Challenge.rw_samefault_k03_whole_books_and_lawful_fau.Holds :=
  cw_head Pl.law_spec
