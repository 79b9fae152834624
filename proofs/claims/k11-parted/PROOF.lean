import PyProof.Rows.All
import PySem.Syntax
import PySem.PyData
import HandS.ForMost
import HandS.Exc
import HandS.ExcOwn
import HandS.Deep
import HandS.TupAny
import HandS.WideBits
import PyProof.P3In
import HandS.IsInst
import HandS.TupLen
import HandS.Flow
import HandS.Small
import HandS.ExcIs
import HandS.Words
import HandS.WordsExc
import Wide.All
import OpenK.AllK
import Wide.FinOn
import PySem.Challenge.RW_farhold_k11_parted
set_option linter.all false
set_option Elab.async false
set_option maxRecDepth 100000
/-! The little machine: values, owned trees, the world of trees, and what an IR term does there. -/
namespace AM
open PySem (Str)

/-- keys of dicts; names of attributes; places in lists -/
inductive Ky where
  | i (n : Int) | s (x : Str) | t (xs : List (Sum Int Str)) | f (n : Nat)
  deriving DecidableEq
/-- where a thing lies: its root, the way down, its mark -/
structure Rf where
  root : Nat
  path : List Ky
  id : Nat
  deriving DecidableEq
inductive Va where
  | non | bl (b : Bool) | int (i : Int) | str (x : Str) | tup (xs : List Va) | ref (r : Rf) | exc (c : Nat)
inductive Tr where
  | lf (v : Va) | lst (id : Nat) (lk : Bool) (xs : List Tr) | nd (id : Nat) (lk : Bool) (hd : Option Nat) (cs : List (Ky × Tr))
inductive Sv where
  | va (a : Va) | tr (a : Tr)
structure Tw where
  roots : List (Option Tr)
  next : Nat

abbrev lim : Nat := 16777216

/-! ### lists of pairs -/
def getK {β : Type} : List (Ky × β) → Ky → Option β
  | [], _ => none
  | (k', v) :: r, k => if k' = k then some v else getK r k
def hasK {β : Type} (cs : List (Ky × β)) (k : Ky) : Bool := (getK cs k).isSome
/-- replaced in its place, or put behind -/
def setK {β : Type} : List (Ky × β) → Ky → β → List (Ky × β)
  | [], k, v => [(k, v)]
  | (k', v') :: r, k, v => if k' = k then (k', v) :: r else (k', v') :: setK r k v
def delK {β : Type} (cs : List (Ky × β)) (k : Ky) : List (Ky × β) := cs.filter fun p => decide (p.1 ≠ k)

/-! ### trees -/
def Tr.id : Tr → Nat
  | .lf _ => 0 | .lst i _ _ => i | .nd i _ _ _ => i
def Tr.isNode : Tr → Bool
  | .lf _ => false | _ => true
def Tr.child : Tr → Ky → Option Tr
  | .lst _ _ xs, .i n => if 0 ≤ n then xs[n.toNat]? else none
  | .nd _ _ _ cs, k => getK cs k
  | _, _ => none
def Tr.setChild : Tr → Ky → Tr → Tr
  | .lst i l xs, .i n, c => if 0 ≤ n then .lst i l (xs.set n.toNat c) else .lst i l xs
  | .nd i l h cs, k, c => .nd i l h (setK cs k c)
  | t, _, _ => t
def Tr.sub : List Ky → Tr → Option Tr
  | [], t => some t
  | k :: p, t => (t.child k).bind (Tr.sub p)
def Tr.put : List Ky → Tr → Tr → Tr
  | [], n, _ => n
  | k :: p, n, t => match t.child k with
    | some c => t.setChild k (Tr.put p n c)
    | none => t

/-! ### the world -/
def Tw.root (T : Tw) (r : Nat) : Option Tr := (T.roots[r]?).getD none
def Tw.at (T : Tw) (ρ : Rf) : Option Tr := ((T.root ρ.root).bind (Tr.sub ρ.path)).bind fun t => if t.isNode ∧ t.id = ρ.id then some t else none
def Tw.put (T : Tw) (ρ : Rf) (n : Tr) : Tw := match T.root ρ.root with
  | some t => { T with roots := T.roots.set ρ.root (some (Tr.put ρ.path n t)) }
  | none => T
def Tw.adv (T : Tw) (k : Nat) : Tw := { T with next := T.next + k }
def Tw.take (T : Tw) (n : Nat) : Tw := { T with roots := T.roots.take n }
def Tw.new (T : Tw) (t : Tr) : Tw := { T with roots := T.roots ++ [some t] }
def Tw.newRef (T : Tw) (t : Tr) : Va := .ref ⟨T.roots.length, [], t.id⟩
def Rf.kid (ρ : Rf) (k : Ky) (i : Nat) : Rf := ⟨ρ.root, ρ.path ++ [k], i⟩
/-- what a slot holds, as a value -/
def slotV (ρ : Rf) (k : Ky) : Tr → Va
  | .lf v => v
  | .lst i _ _ => .ref (ρ.kid k i)
  | .nd i _ _ _ => .ref (ρ.kid k i)

inductive Res (α : Type) where
  | ok (a : α) (T : Tw) | ex (c : Nat) (T : Tw) | bad
def Res.bind {α β : Type} (r : Res α) (f : α → Tw → Res β) : Res β := match r with
  | .ok a T => f a T | .ex c T => .ex c T | .bad => .bad

/-- a value out of what an expression gives: a new tree becomes a root -/
def settle (s : Sv) (T : Tw) : Res Va := match s with
  | .va a => .ok a T
  | .tr t => .ok (T.newRef t) (T.new t)
/-- a slot of what an expression gives -/
def Sv.slot : Sv → Tr
  | .va a => .lf a | .tr t => t

/-! ### keys, data -/
def keyItems : List Va → Option (List (Sum Int Str))
  | [] => some []
  | .int i :: r => (keyItems r).map (.inl i :: ·)
  | .str x :: r => (keyItems r).map (.inr x :: ·)
  | _ :: _ => none
def Va.key : Va → Option Ky
  | .int i => some (.i i)
  | .str x => some (.s x)
  | .tup xs => (keyItems xs).map .t
  | _ => none
def itemVa : Sum Int Str → Va
  | .inl i => .int i | .inr x => .str x
def Ky.va : Ky → Va
  | .i n => .int n | .s x => .str x | .t xs => .tup (xs.map itemVa) | .f _ => .non
def Ky.isT : Ky → Bool
  | .t _ => true | _ => false
def Ky.isF : Ky → Bool
  | .f _ => true | _ => false
/-- only leaves -/
def leaves : List Tr → Option (List Va)
  | [] => some []
  | .lf v :: r => (leaves r).map (v :: ·)
  | _ :: _ => none
def lfs (xs : List Va) : List Tr := xs.map .lf
/-- the items that a sequence or a dict's keys give, as values -/
def itemsT : Tr → Option (List Va)
  | .lst _ _ xs => leaves xs
  | .nd _ _ none cs => some (cs.map fun p => p.1.va)
  | _ => none
end AM
/-! What an IR term does. -/
namespace AM
open PySem (Str PyData)

/-! ### data compared -/
mutual
def dEq : PyData → PyData → Bool
  | .none, .none => true
  | .bool a, .bool b => a == b
  | .bool a, .int j => (if a then 1 else 0) == j
  | .int i, .bool b => i == (if b then 1 else 0)
  | .int i, .int j => i == j
  | .str x, .str y => x == y
  | .list xs, .list ys => dEqs xs ys
  | .tuple xs, .tuple ys => dEqs xs ys
  | _, _ => false
def dEqs : List PyData → List PyData → Bool
  | [], [] => true
  | x :: xs, y :: ys => dEq x y && dEqs xs ys
  | _, _ => false
end
mutual
def dVa (T : Tw) : Nat → Va → Option PyData
  | _, .non => some .none
  | _, .bl b => some (.bool b)
  | _, .int i => some (.int i)
  | _, .str x => if x.cps.all (· < 0x110000) then some (.str x) else none
  | n + 1, .tup xs => (dVas T n xs).map .tuple
  | n + 1, .ref ρ => match T.at ρ with
    | some (.lst _ _ ts) => match leaves ts with
      | some xs => (dVas T n xs).map .list
      | none => none
    | _ => none
  | _, _ => none
termination_by n _ => (n, 0)
def dVas (T : Tw) : Nat → List Va → Option (List PyData)
  | _, [] => some []
  | n, x :: xs => match dVa T n x with
    | some d => match dVas T n xs with
      | some ds => some (d :: ds)
      | none => none
    | none => none
termination_by n xs => (n, xs.length + 1)
end
/-- as data, of what an expression gives -/
def dSv (T : Tw) (n : Nat) : Sv → Option PyData
  | .va a => dVa T n a
  | .tr (.lst _ _ ts) => match leaves ts with
    | some xs => (dVas T (n - 1) xs).map .list
    | none => none
  | .tr _ => none
def eqSv (T : Tw) (a b : Sv) : Option Bool :=
  match a, b with
  | .va (.int i), .va (.int j) => some (decide (i = j))
  | .va (.str x), .va (.str y) => some (decide (x = y))
  | _, _ => match dSv T 60 a, dSv T 60 b with
    | some d, some e => some (dEq d e)
    | _, _ => none

/-! ### sequences -/
def leavesK : List (Ky × Tr) → Option (List (Ky × Va))
  | [] => some []
  | (k, .lf v) :: r => (leavesK r).map ((k, v) :: ·)
  | _ :: _ => none
def notSame (ρ : Rf) : Sv → Bool
  | .va (.ref r) => decide (r.id ≠ ρ.id)
  | _ => true
def listOf (T : Tw) : Sv → Option (List Tr)
  | .tr (.lst _ _ xs) => some xs
  | .va (.ref ρ) => match T.at ρ with
    | some (.lst _ _ xs) => some xs
    | _ => none
  | _ => none
def listVa (T : Tw) (s : Sv) : Option (List Va) := (listOf T s).bind leaves
/-- of a list that is not locked -/
def freeOf (T : Tw) : Sv → Option (List Tr)
  | .tr (.lst _ false xs) => some xs
  | .va (.ref ρ) => match T.at ρ with
    | some (.lst _ false xs) => some xs
    | _ => none
  | _ => none
def freeVa (T : Tw) (s : Sv) : Option (List Va) := (freeOf T s).bind leaves
def dictOf (T : Tw) : Sv → Option (List (Ky × Tr))
  | .va (.ref ρ) => match T.at ρ with
    | some (.nd _ _ none cs) => some cs
    | _ => none
  | _ => none
/-- may this key be asked of this dict: keys of one kind; a locked one is not empty -/
def kindOk (lk : Bool) (cs : List (Ky × Tr)) (k : Ky) : Bool := !k.isF && (cs.all fun p => p.1.isT == k.isT) && (!lk || !cs.isEmpty)
def mkList (xs : List Va) (T : Tw) : Res Sv := .ok (.tr (.lst T.next false (lfs xs))) (T.adv 1)
def mkTup (xs : List Va) (T : Tw) : Res Sv := if xs.length ≤ lim then .ok (.va (.tup xs)) T else .bad
def okV (v : Va) (T : Tw) : Res Sv := .ok (.va v) T

inductive BOp where
  | add | sub | mul | fdiv | mod | pow
inductive COp where
  | eq | ne | lt | le | gt | ge | isin | notin | isn | notn
def opBin (o : BOp) (a b : Sv) (T : Tw) : Res Sv :=
  match o, a, b with
  | .add, .va (.int i), .va (.int j) => okV (.int (i + j)) T
  | .sub, .va (.int i), .va (.int j) => okV (.int (i - j)) T
  | .mul, .va (.int i), .va (.int j) => if (-(2 ^ 64) < i ∧ i < 2 ^ 64) ∨ (-(2 ^ 64) < j ∧ j < 2 ^ 64) then okV (.int (i * j)) T else .bad
  | .fdiv, .va (.int i), .va (.int j) => if 0 < j ∧ j < 1073741824 then okV (.int (i / j)) T else .bad
  | .mod, .va (.int i), .va (.int j) => if 0 < j then okV (.int (i % j)) T else .bad
  | .pow, .va (.int i), .va (.int j) => if 0 ≤ j ∧ j ≤ 1000000 ∧ i.natAbs < 2 ^ 64 then okV (.int (i ^ j.toNat)) T else .bad
  | .add, .va (.str x), .va (.str y) => if x.length + y.length ≤ lim then okV (.str (x ++ y)) T else .bad
  | .add, .va (.tup xs), .va (.tup ys) => if xs.length + ys.length ≤ lim then okV (.tup (xs ++ ys)) T else .bad
  | .add, a, b => match freeVa T a, freeVa T b with
    | some xs, some ys => if xs.length + ys.length ≤ lim then mkList (xs ++ ys) T else .bad
    | _, _ => .bad
  | _, _, _ => .bad
def opNeg (a : Sv) (T : Tw) : Res Sv := match a with
  | .va (.int i) => okV (.int (-i)) T
  | _ => .bad
/-- some item is equal -/
def memD (T : Tw) (a : Va) (xs : List Va) : Option Bool := match dVa T 60 a, dVas T 59 xs with
  | some d, some ds => some (ds.any fun z => dEq z d)
  | _, _ => none
def inSv (T : Tw) (a c : Sv) : Option Bool := match a with
  | .tr _ => none
  | .va v => match c with
    | .va (.tup xs) => memD T v xs
    | .va (.ref ρ) => match T.at ρ with
      | some (.nd _ lk none cs) => match v.key with
        | some k => if kindOk lk cs k then some (hasK cs k) else none
        | none => none
      | _ => match listVa T c with
        | some xs => memD T v xs
        | none => none
    | _ => match listVa T c with
        | some xs => memD T v xs
        | none => none
def isNon : Sv → Bool
  | .va .non => true | _ => false
def opCmp (o : COp) (a b : Sv) (T : Tw) : Res Bool :=
  match o with
  | .eq => match eqSv T a b with | some r => .ok r T | none => .bad
  | .ne => match eqSv T a b with | some r => .ok (!r) T | none => .bad
  | .lt => match a, b with | .va (.int i), .va (.int j) => .ok (decide (i < j)) T | _, _ => .bad
  | .le => match a, b with | .va (.int i), .va (.int j) => .ok (decide (i ≤ j)) T | _, _ => .bad
  | .gt => match a, b with | .va (.int i), .va (.int j) => .ok (decide (j < i)) T | _, _ => .bad
  | .ge => match a, b with | .va (.int i), .va (.int j) => .ok (decide (j ≤ i)) T | _, _ => .bad
  | .isin => match inSv T a b with | some r => .ok r T | none => .bad
  | .notin => match inSv T a b with | some r => .ok (!r) T | none => .bad
  | .isn => .ok (isNon a) T
  | .notn => .ok (!isNon a) T

/-! ### subscripts -/
/-- the place of an index, from behind when below 0 -/
def ixAt (n : Nat) (i : Int) : Option Nat :=
  if 0 ≤ i then (if i.toNat < n then some i.toNat else none) else (if (-i).toNat ≤ n then some (n - (-i).toNat) else none)
def opIx (a i : Sv) (T : Tw) : Res Sv := match i with
  | .tr _ => .bad
  | .va i => match a with
    | .tr (.lst _ _ ts) => match i with
      | .int j => match ixAt ts.length j with
        | some n => match ts[n]? with
          | some (.lf v) => okV v T
          | _ => .bad
        | none => .bad
      | _ => .bad
    | .va (.tup xs) => match i with
      | .int j => match ixAt xs.length j with
        | some n => match xs[n]? with
          | some v => okV v T
          | none => .bad
        | none => .bad
      | _ => .bad
    | .va (.ref ρ) => match T.at ρ with
      | some (.lst _ _ ts) => match i with
        | .int j => match ixAt ts.length j with
          | some n => match ts[n]? with
            | some t => okV (slotV ρ (.i n) t) T
            | none => .bad
          | none => .bad
        | _ => .bad
      | some (.nd _ _ none cs) => match i.key with
        | some k => match getK cs k with
          | some t => okV (slotV ρ k t) T
          | none => .bad
        | none => .bad
      | _ => .bad
    | _ => .bad
/-- a bound of a slice, held within the length -/
def clampS (n : Nat) (i : Int) : Nat := if 0 ≤ i then min i.toNat n else n - (-i).toNat
def cut {α : Type} (xs : List α) (lo hi : Option Int) : List α :=
  (xs.take (match hi with | some j => clampS xs.length j | none => xs.length)).drop (match lo with | some i => clampS xs.length i | none => 0)
def opSlc (a : Sv) (lo hi : Option Int) (T : Tw) : Res Sv := match listVa T a with
  | some xs => mkList (cut xs lo hi) T
  | none => .bad

/-! ### built-in functions, by value -/
inductive Ty where
  | int | bool | list | tuple | str | valueError | cls (c : Nat)
inductive Bf where
  | len | sorted | list | tuple | dict | int | str | max | min | sum | lenSet
/-- the order of keys of one kind -/
def leItem : Sum Int Str → Sum Int Str → Bool
  | .inl i, .inl j => decide (i ≤ j)
  | .inr x, .inr y => decide (¬ y.cps.toList < x.cps.toList)
  | .inl _, .inr _ => true
  | .inr _, .inl _ => false
def leItems : List (Sum Int Str) → List (Sum Int Str) → Bool
  | [], _ => true
  | _ :: _, [] => false
  | a :: as, b :: bs => if a = b then leItems as bs else leItem a b
def leKy : Ky → Ky → Bool
  | .i a, .i b => decide (a ≤ b)
  | .s x, .s y => leItem (.inr x) (.inr y)
  | .t a, .t b => leItems a b
  | _, _ => true
/-- all ints, or all tuples of two ints: what is sorted here -/
def pairKey : Va → Option (Int × Int)
  | .tup [.int a, .int b] => some (a, b)
  | _ => none
def intVa : Va → Option Int
  | .int i => some i
  | _ => none
def leP (a b : Int × Int) : Bool := decide (a.1 < b.1 ∨ (a.1 = b.1 ∧ a.2 ≤ b.2))
def allSome {α β : Type} (f : α → Option β) : List α → Option (List β)
  | [] => some []
  | x :: xs => match f x, allSome f xs with
    | some y, some ys => some (y :: ys)
    | _, _ => none
def pairVa (p : Int × Int) : Va := .tup [.int p.1, .int p.2]
def sortVa (xs : List Va) : Option (List Va) :=
  match allSome intVa xs with
  | some ns => some ((ns.mergeSort fun a b => decide (a ≤ b)).map .int)
  | none => match allSome pairKey xs with
    | some ps => some ((ps.mergeSort leP).map pairVa)
    | none => none
/-- what is walked when a sequence is made of it -/
def seqVa (T : Tw) (s : Sv) : Option (List Va) := match s with
  | .va (.tup xs) => some xs
  | s => match dictOf T s with
    | some cs => some (cs.map fun p => p.1.va)
    | none => listVa T s
def opBf (hash : Ky → Int) (f : Bf) (as : List Sv) (T : Tw) : Res Sv := match f, as with
  | .len, [s] => match s with
    | .va (.tup xs) => okV (.int xs.length) T
    | .va (.str x) => if x.length ≤ lim then okV (.int x.length) T else .bad
    | s => match dictOf T s with
      | some cs => okV (.int cs.length) T
      | none => match listOf T s with
        | some xs => okV (.int xs.length) T
        | none => .bad
  | .sorted, [s] => match seqVa T s with
    | some xs => match sortVa xs with
      | some ys => mkList ys T
      | none => .bad
    | none => .bad
  | .list, [s] => match seqVa T s with
    | some xs => mkList xs T
    | none => .bad
  | .tuple, [s] => match s with
    | .va (.tup xs) => okV (.tup xs) T
    | s => match listVa T s with
      | some xs => okV (.tup xs) T
      | none => .bad
  | .dict, [s] => match dictOf T s with
    | some cs => match leavesK cs with
      | some ps => if cs.all (fun p => !p.1.isT) ∨ ((cs.all fun p => p.1.isT) ∧ (ps.map fun p => hash p.1).Nodup) then .ok (.tr (.nd T.next false none cs)) (T.adv 1) else .bad
      | none => .bad
    | none => .bad
  | .int, [.va (.bl b)] => okV (.int (if b then 1 else 0)) T
  | .int, [.va (.int i)] => okV (.int i) T
  | .max, [.va (.int i), .va (.int j)] => okV (.int (if j > i then j else i)) T
  | .min, [.va (.int i), .va (.int j)] => okV (.int (if j < i then j else i)) T
  | _, _ => .bad
/-- isinstance -/
def excTy (sub : Nat → Nat → Bool) (c : Nat) (t : Ty) : Bool := match t with | .valueError => true | .cls d => sub c d | _ => false
def isTy (T : Tw) (sub : Nat → Nat → Bool) (s : Sv) (t : Ty) : Option Bool := match s with
  | .va (.int _) => match t with | .int => some true | _ => some false
  | .va (.bl _) => match t with | .int => some true | .bool => some true | _ => some false
  | .va (.tup _) => match t with | .tuple => some true | _ => some false
  | .va .non => some false
  | .va (.str _) => match t with | .str => some true | _ => some false
  | .va (.exc c) => if sub c c then some (excTy sub c t) else none
  | s => match listOf T s with
    | some _ => match t with | .list => some true | _ => some false
    | none => none
def isTys (T : Tw) (sub : Nat → Nat → Bool) (s : Sv) : List Ty → Option Bool
  | [] => some false
  | t :: ts => match isTy T sub s t with
    | some true => some true
    | some false => isTys T sub s ts
    | none => none

/-! ### methods of built-in things -/
inductive Bm where
  | get | pop | append | extend | update | remove | clear
def wr (T : Tw) (ρ : Rf) (n : Tr) (r : Sv) : Res Sv := .ok r (T.put ρ n)
/-- the item at a place taken away -/
def eraseAt {α : Type} : List α → Nat → List α
  | [], _ => []
  | _ :: xs, 0 => xs
  | x :: xs, n + 1 => x :: eraseAt xs n
def slotS : Tr → Sv
  | .lf v => .va v
  | t => .tr t
def mergeKs (cs : List (Ky × Tr)) : List (Ky × Va) → List (Ky × Tr)
  | [] => cs
  | (k, v) :: r => mergeKs (setK cs k (.lf v)) r
/-- the first place of an equal item -/
def findEq (T : Tw) (a : Va) (xs : List Va) : Option Nat := match dVa T 60 a, dVas T 59 xs with
  | some d, some ds => ds.findIdx? fun z => dEq z d
  | _, _ => none
def opBm (hash : Ky → Int) (m : Bm) (o : Sv) (as : List Sv) (T : Tw) : Res Sv := match o with
  | .va (.ref ρ) => match T.at ρ with
    | some (.lst id lk ts) => match m, as with
      | .append, [a] => if lk = false ∧ ts.length < lim then wr T ρ (.lst id lk (ts ++ [a.slot])) (.va .non) else .bad
      | .pop, [] => if lk = false then match ts[ts.length - 1]? with
          | some t => wr T ρ (.lst id lk ts.dropLast) (slotS t)
          | none => .bad
        else .bad
      | .pop, [.va (.int j)] => if lk = false ∧ -(2 ^ 63) ≤ j ∧ j < 2 ^ 63 then match ixAt ts.length j with
          | some n => match ts[n]? with
            | some (.lf v) => match leaves ts with
              | some _ => wr T ρ (.lst id lk (eraseAt ts n)) (.va v)
              | none => .bad
            | _ => .bad
          | none => .bad
        else .bad
      | .extend, [a] => match seqVa T a with
        | some ys => if lk = false ∧ ts.length + ys.length ≤ lim then wr T ρ (.lst id lk (ts ++ lfs ys)) (.va .non) else .bad
        | none => .bad
      | .remove, [.va a] => match leaves ts with
        | some xs => match findEq T a xs with
          | some n => if lk = false then wr T ρ (.lst id lk (eraseAt ts n)) (.va .non) else .bad
          | none => .bad
        | none => .bad
      | .clear, [] => if lk = false then wr T ρ (.lst id lk []) (.va .non) else .bad
      | _, _ => .bad
    | some (.nd id lk none cs) => match m, as with
      | .get, [.va a, d] => match a.key with
        | some k => if kindOk lk cs k then match getK cs k with
            | some t => okV (slotV ρ k t) T
            | none => (settle d T).bind fun v T => okV v T
          else .bad
        | none => .bad
      | .pop, [.va a] => match a.key with
        | some k => match getK cs k with
          | some t => if lk = false then wr T ρ (.nd id lk none (delK cs k)) (slotS t) else .bad
          | none => .bad
        | none => .bad
      | .update, [b] => match dictOf T b with
        | some ds => match leavesK ds with
          | some ps => if lk = false ∧ cs.length + ps.length ≤ lim ∧ (cs ++ ds).all (fun p => p.1.isT) ∧ (ps.map fun p => hash p.1).Nodup ∧ notSame ρ b = true then
              wr T ρ (.nd id lk none (mergeKs cs ps)) (.va .non) else .bad
          | none => .bad
        | none => .bad
      | _, _ => .bad
    | _ => .bad
  | _ => .bad
end AM
/-! IR terms and the evaluator. -/
namespace AM
open PySem (Str)

/-- not locked -/
def Tr.free : Tr → Bool
  | .lf _ => false | .lst _ l _ => !l | .nd _ l _ _ => !l
/-- what a loop's item goes to -/
inductive Tg where
  | one (i : Nat) | many (is : List Nat)
/-- what is walked -/
inductive Ik where
  | rng1 | rng2 | zip | enum | gen
inductive IE where
  | v (i : Nat)
  | cst (c : Va)
  | bin (o : BOp) (a b : IE)
  | neg (a : IE)
  | cmp (o : COp) (a b : IE)
  | chain (o p : COp) (a b c : IE)
  | and (a b : IE)
  | or (a b : IE)
  | not (a : IE)
  | tup (es : List IE)
  | lst (es : List IE)
  | dct (ks : List Ky) (es : List IE)
  | fld (a : IE) (f : Nat)
  | ix (a i : IE)
  | slc (a : IE) (lo hi : List IE)
  | call (f : Nat) (es : List IE)
  | meth (m : Nat) (o : IE) (es : List IE)
  | make (c : Nat) (es : List IE)
  | bf (b : Bf) (es : List IE)
  | bm (b : Bm) (o : IE) (es : List IE)
  | isi (a : IE) (ts : List Ty)
  | lc (elt : IE) (g : Tg) (ws : List Nat) (k : Ik) (its : List IE) (cond : IE)
inductive IS where
  | asg (i : Nat) (e : IE)
  | setF (o : IE) (f : Nat) (e : IE)
  | setI (o i e : IE)
  | unp (is : List Nat) (e : IE)
  | ex (e : IE)
  | ret (e : IE)
  | retN
  | ite (c : IE) (a b : List IS)
  | whl (c : IE) (b : List IS)
  | for_ (g : Tg) (k : Ik) (its : List IE) (b : List IS)
  | raise (c : Nat)
  | try_ (b : List IS) (c : Nat) (i : Option Nat) (h : List IS)
  | pass
  | brk

abbrev Sg := List (Option Va)
inductive SRes where
  | nx (σ : Sg) (T : Tw) | rt (s : Sv) (T : Tw) | bk (σ : Sg) (T : Tw) | ct (σ : Sg) (T : Tw) | ex (c : Nat) (σ : Sg) (T : Tw) | bad

/-- what is fixed: the classes' tables, the hash of keys -/
structure Env where
  /-- the def of the method m of the class c -/
  meth : Nat → Nat → Option Nat
  init : Nat → Option Nat
  /-- an own error's class is below another one -/
  sub : Nat → Nat → Bool
  hash : Ky → Int
abbrev Ph := Nat → List Va → Tw → Res Sv

def settleAll : List Sv → Tw → Res (List Va)
  | [], T => .ok [] T
  | s :: r, T => (settle s T).bind fun v T => (settleAll r T).bind fun vs T => .ok (v :: vs) T
def truth (s : Sv) (T : Tw) : Res Bool := match s with
  | .va (.bl b) => .ok b T
  | _ => .bad
def Sg.get (σ : Sg) (i : Nat) : Option Va := (σ[i]?).getD none
/-- an item goes to its names -/
def bindG (g : Tg) (v : Va) (σ : Sg) : Option Sg := match g with
  | .one i => some (σ.set i (some v))
  | .many is => match v with
    | .tup vs => if vs.length = is.length then some ((is.zip vs).foldl (fun σ p => σ.set p.1 (some p.2)) σ) else none
    | _ => none
def wipeG (σ : Sg) : List Nat → Sg
  | [] => σ
  | i :: is => (wipeG σ is).set i none
/-- the slots of a dict, each with its key -/
def dctSlots : List Ky → List Sv → Option (List (Ky × Tr))
  | [], [] => some []
  | k :: ks, s :: ss => (dctSlots ks ss).map ((k, s.slot) :: ·)
  | _, _ => none
/-- what is walked: the values one after another, or the place of a list, or of a dict -/
inductive Wk where
  | vals (vs : List Va) | list (ρ : Rf) | dict (ρ : Rf)
def range2 (a b : Int) : List Va := (List.range (b - a).toNat).map fun (n : Nat) => .int (a + n)
def zipVa : List Va → List Va → List Va
  | x :: xs, y :: ys => .tup [x, y] :: zipVa xs ys
  | _, _ => []
def enumVa : Int → List Va → List Va
  | _, [] => []
  | n, x :: xs => .tup [.int n, x] :: enumVa (n + 1) xs
def okR (i : Int) : Prop := -(2 ^ 62) ≤ i ∧ i < 2 ^ 62
instance (i : Int) : Decidable (okR i) := by unfold okR; infer_instance
def walkOf (k : Ik) (as : List Sv) (T : Tw) : Option Wk := match k, as with
  | .rng1, [.va (.int j)] => if okR j then some (.vals (range2 0 j)) else none
  | .rng2, [.va (.int i), .va (.int j)] => if okR i ∧ okR j then some (.vals (range2 i j)) else none
  | .zip, [a, b] => match listVa T a, listVa T b with
    | some xs, some ys => some (.vals (zipVa xs ys))
    | _, _ => none
  | .enum, [a] => match listVa T a with
    | some xs => some (.vals (enumVa 0 xs))
    | none => none
  | .gen, [s] => match s with
    | .tr (.lst _ _ ts) => (leaves ts).map .vals
    | .va (.tup xs) => some (.vals xs)
    | .va (.ref ρ) => match T.at ρ with
      | some (.lst _ _ _) => some (.list ρ)
      | some (.nd _ false none _) => some (.dict ρ)
      | _ => none
    | _ => none
  | _, _ => none
/-- the flag of a dict set -/
def setLk (T : Tw) (ρ : Rf) (b : Bool) : Option Tw := match T.at ρ with
  | some (.nd id l none cs) => if l = !b then some (T.put ρ (.nd id b none cs)) else none
  | _ => none

/-- no error leaves a comprehension -/
def calm {α : Type} (r : Res α) : Res α := match r with
  | .ex _ _ => .bad
  | r => r
/-! ### loops -/
def loopV (f : Va → Sg → Tw → SRes) : List Va → Sg → Tw → SRes
  | [], σ, T => .nx σ T
  | v :: vs, σ, T => match f v σ T with
    | .nx σ T => loopV f vs σ T
    | .ct σ T => loopV f vs σ T
    | .bk σ T => .nx σ T
    | r => r
/-- over a list as it stands at each turn; n turns are left at most, i is the next one -/
def loopL (f : Va → Sg → Tw → SRes) (ρ : Rf) : Nat → Nat → Sg → Tw → SRes
  | 0, _, _, _ => .bad
  | n + 1, i, σ, T => match T.at ρ with
    | some (.lst _ _ ts) => match ts[i]? with
      | none => .nx σ T
      | some t => match f (slotV ρ (.i i) t) σ T with
        | .nx σ T => loopL f ρ n (i + 1) σ T
        | .ct σ T => loopL f ρ n (i + 1) σ T
        | .bk σ T => .nx σ T
        | r => r
    | _ => .bad
def loopW (c : Sg → Tw → Res Bool) (f : Sg → Tw → SRes) : Nat → Sg → Tw → SRes
  | 0, _, _ => .bad
  | n + 1, σ, T => match c σ T with
    | .ok true T => match f σ T with
      | .nx σ T => loopW c f n σ T
      | .ct σ T => loopW c f n σ T
      | .bk σ T => .nx σ T
      | r => r
    | .ok false T => .nx σ T
    | .ex e T => .ex e σ T
    | .bad => .bad
def gas : Nat := 1000000000
/-- what must hold behind a loop over a dict: it is unlocked again -/
def unlk (ρ : Rf) (r : SRes) : SRes := match r with
  | .nx σ T => match setLk T ρ false with | some T => .nx σ T | none => .bad
  | .rt (.va v) T => match setLk T ρ false with | some T => .rt (.va v) T | none => .bad
  | _ => .bad
def loopS (w : Wk) (f : Va → Sg → Tw → SRes) (σ : Sg) (T : Tw) : SRes := match w with
  | .vals vs => loopV f vs σ T
  | .list ρ => loopL f ρ (lim + 1) 0 σ T
  | .dict ρ => match T.at ρ, setLk T ρ true with
    | some (.nd _ _ _ cs), some T => unlk ρ (loopV f (cs.map fun p => p.1.va) σ T)
    | _, _ => .bad
/-- a comprehension's turns: the values made so far -/
def compV (f : Va → Tw → Res (Option Sv)) : List Va → List Tr → Tw → Res (List Tr)
  | [], acc, T => .ok acc T
  | v :: vs, acc, T => (f v T).bind fun o T => match o with
    | none => compV f vs acc T
    | some s => if acc.length < lim then compV f vs (acc ++ [s.slot]) T else .bad
def compL (f : Va → Tw → Res (Option Sv)) (ρ : Rf) : Nat → Nat → List Tr → Tw → Res (List Tr)
  | 0, _, _, _ => .bad
  | n + 1, i, acc, T => match T.at ρ with
    | some (.lst _ _ ts) => match ts[i]? with
      | none => .ok acc T
      | some t => (f (slotV ρ (.i i) t) T).bind fun o T => match o with
        | none => compL f ρ n (i + 1) acc T
        | some s => if acc.length < lim then compL f ρ n (i + 1) (acc ++ [s.slot]) T else .bad
    | _ => .bad
def unlkR (ρ : Rf) (r : Res (List Tr)) : Res (List Tr) := r.bind fun ts T => match setLk T ρ false with
  | some T => .ok ts T
  | none => .bad
def compS (w : Wk) (f : Va → Tw → Res (Option Sv)) (T : Tw) : Res (List Tr) := match w with
  | .vals vs => compV f vs [] T
  | .list ρ => compL f ρ (lim + 1) 0 [] T
  | .dict ρ => match T.at ρ, setLk T ρ true with
    | some (.nd _ _ _ cs), some T => unlkR ρ (compV f (cs.map fun p => p.1.va) [] T)
    | _, _ => .bad

/-! ### expressions -/
section
variable (Ev : Env) (Φ : Ph)
/-- the receiver of a method: where it is, its def -/
def recv (m : Nat) (x : Sv) (T : Tw) : Option (Rf × Nat) := match x with
  | .va (.ref ρ) => match T.at ρ with
    | some (.nd _ _ (some c) _) => (Ev.meth c m).map fun f => (ρ, f)
    | _ => none
  | _ => none
def mkInst (c : Nat) (vs : List Va) (T : Tw) : Res Sv := match Ev.init c with
  | none => .bad
  | some f =>
    let t : Tr := .nd T.next false (some c) []
    let r := T.roots.length
    (calm (Φ f (T.newRef t :: vs) ((T.new t).adv 1))).bind fun s T' => match s, T'.root r with
      | .va .non, some t' => if t'.free = true ∧ t'.id = T.next then .ok (.tr t') (T'.take r) else .bad
      | _, _ => .bad
def optI : List Sv → Option (Option Int)
  | [] => some none
  | [.va (.int i)] => some (some i)
  | _ => none
mutual
def E : IE → Sg → Tw → Res Sv
  | .v i, σ, T => match σ.get i with
    | some v => .ok (.va v) T
    | none => .bad
  | .cst c, _, T => .ok (.va c) T
  | .bin o a b, σ, T => (E a σ T).bind fun x T => (E b σ T).bind fun y T => opBin o x y T
  | .neg a, σ, T => (E a σ T).bind fun x T => opNeg x T
  | .cmp o a b, σ, T => (E a σ T).bind fun x T => (E b σ T).bind fun y T => (opCmp o x y T).bind fun r T => .ok (.va (.bl r)) T
  | .chain o p a b c, σ, T => (E a σ T).bind fun x T => (E b σ T).bind fun y T => (opCmp o x y T).bind fun r T => match r with
    | true => (E c σ T).bind fun z T => (opCmp p y z T).bind fun r T => .ok (.va (.bl r)) T
    | false => .ok (.va (.bl false)) T
  | .and a b, σ, T => (E a σ T).bind fun x T => (truth x T).bind fun r T => match r with
    | true => E b σ T
    | false => .ok (.va (.bl false)) T
  | .or a b, σ, T => (E a σ T).bind fun x T => (truth x T).bind fun r T => match r with
    | true => .ok (.va (.bl true)) T
    | false => E b σ T
  | .not a, σ, T => (E a σ T).bind fun x T => (truth x T).bind fun r T => .ok (.va (.bl (!r))) T
  | .tup es, σ, T => (Es es σ T).bind fun ss T => (settleAll ss T).bind fun vs T => mkTup vs T
  | .lst es, σ, T => (Es es σ T).bind fun ss T => if ss.length ≤ lim then .ok (.tr (.lst T.next false (ss.map Sv.slot))) (T.adv 1) else .bad
  | .dct ks es, σ, T => (Es es σ T).bind fun ss T => match dctSlots ks ss with
    | some cs => if (cs.map (·.1)).Nodup ∧ cs.all (fun p => !p.1.isT && !p.1.isF) ∧ cs.length ≤ 15 then .ok (.tr (.nd T.next false none cs)) (T.adv 1) else .bad
    | none => .bad
  | .fld a f, σ, T => (E a σ T).bind fun x T => match x with
    | .va (.ref ρ) => match T.at ρ with
      | some (.nd _ _ (some _) cs) => match getK cs (.f f) with
        | some t => .ok (.va (slotV ρ (.f f) t)) T
        | none => .bad
      | _ => .bad
    | _ => .bad
  | .ix a i, σ, T => (E a σ T).bind fun x T => (E i σ T).bind fun y T => opIx x y T
  | .slc a lo hi, σ, T => (E a σ T).bind fun x T => (Es lo σ T).bind fun l T => (Es hi σ T).bind fun h T => match optI l, optI h with
    | some l, some h => opSlc x l h T
    | _, _ => .bad
  | .call f es, σ, T => (Es es σ T).bind fun ss T => (settleAll ss T).bind fun vs T => Φ f vs T
  | .meth m o es, σ, T => (E o σ T).bind fun x T => match recv Ev m x T with
    | some (ρ, f) => (Es es σ T).bind fun ss T => (settleAll ss T).bind fun vs T => Φ f (.ref ρ :: vs) T
    | none => .bad
  | .make c es, σ, T => (Es es σ T).bind fun ss T => (settleAll ss T).bind fun vs T => mkInst Ev Φ c vs T
  | .bf b es, σ, T => (Es es σ T).bind fun ss T => opBf Ev.hash b ss T
  | .bm b o es, σ, T => (E o σ T).bind fun x T => (Es es σ T).bind fun ss T => opBm Ev.hash b x ss T
  | .isi a ts, σ, T => (E a σ T).bind fun x T => match isTys T Ev.sub x ts with
    | some r => .ok (.va (.bl r)) T
    | none => .bad
  | .lc elt g ws k its cond, σ, T => (Es its σ T).bind fun ss T => match walkOf k ss T with
    | none => .bad
    | some w => (compS w (fun v T => match bindG g v (wipeG σ ws) with
        | none => .bad
        | some σ => (calm (E cond σ T)).bind fun c T => (truth c T).bind fun c T => match c with
          | true => (calm (E elt σ T)).bind fun s T => .ok (some s) T
          | false => .ok none T) T).bind fun ts T => .ok (.tr (.lst T.next false ts)) (T.adv 1)
termination_by structural e => e
def Es : List IE → Sg → Tw → Res (List Sv)
  | [], _, T => .ok [] T
  | e :: es, σ, T => (E e σ T).bind fun s T => (Es es σ T).bind fun ss T => .ok (s :: ss) T
termination_by structural e => e
end

/-! ### statements -/
def SRes.then_ (r : SRes) (f : Sg → Tw → SRes) : SRes := match r with
  | .nx σ T => f σ T
  | r => r
/-- an expression within a statement -/
def inS {α : Type} (r : Res α) (σ : Sg) (f : α → Tw → SRes) : SRes := match r with
  | .ok a T => f a T
  | .ex c T => .ex c σ T
  | .bad => .bad
def storeF (o : Sv) (f : Nat) (s : Sv) (T : Tw) : Option Tw := match o with
  | .va (.ref ρ) => match T.at ρ with
    | some (.nd id false (some c) cs) => if cs.length < 1000 then some (T.put ρ (.nd id false (some c) (setK cs (.f f) s.slot))) else none
    | _ => none
  | _ => none
def storeI (o i s : Sv) (T : Tw) : Option Tw := match o, i with
  | .va (.ref ρ), .va i => match T.at ρ with
    | some (.lst id false ts) => match i with
      | .int j => match ixAt ts.length j with
        | some n => some (T.put ρ (.lst id false (ts.set n s.slot)))
        | none => none
      | _ => none
    | some (.nd id false none cs) => match i.key with
      | some k => if cs.length < lim ∧ kindOk false cs k then some (T.put ρ (.nd id false none (setK cs k s.slot))) else none
      | none => none
    | _ => none
  | _, _ => none
def optS {α : Type} (o : Option α) (f : α → SRes) : SRes := match o with
  | some a => f a
  | none => .bad
mutual
def X : IS → Sg → Tw → SRes
  | .asg i e, σ, T => inS (E Ev Φ e σ T) σ fun s T => inS (settle s T) σ fun v T => .nx (σ.set i (some v)) T
  | .setF o f e, σ, T => inS (E Ev Φ e σ T) σ fun s T => inS (E Ev Φ o σ T) σ fun x T => optS (storeF x f s T) fun T => .nx σ T
  | .setI o i e, σ, T => inS (E Ev Φ e σ T) σ fun s T => inS (E Ev Φ o σ T) σ fun x T => inS (E Ev Φ i σ T) σ fun y T => optS (storeI x y s T) fun T => .nx σ T
  | .unp is e, σ, T => inS (E Ev Φ e σ T) σ fun s T => match s with
    | .va v => optS (bindG (.many is) v σ) fun σ => .nx σ T
    | _ => .bad
  | .ex e, σ, T => inS (E Ev Φ e σ T) σ fun _ T => .nx σ T
  | .ret e, σ, T => inS (E Ev Φ e σ T) σ fun s T => .rt s T
  | .retN, σ, T => .rt (.va .non) T
  | .ite c a b, σ, T => inS (E Ev Φ c σ T) σ fun s T => inS (truth s T) σ fun r T => match r with
    | true => Xs a σ T
    | false => Xs b σ T
  | .whl c b, σ, T => loopW (fun σ T => (E Ev Φ c σ T).bind fun s T => truth s T) (fun σ T => Xs b σ T) gas σ T
  | .for_ g k its b, σ, T => inS (Es Ev Φ its σ T) σ fun ss T => match walkOf k ss T with
    | none => .bad
    | some w => loopS w (fun v σ T => match bindG g v σ with
      | none => .bad
      | some σ => Xs b σ T) σ T
  | .raise c, σ, T => .ex c σ T
  | .try_ b c i h, σ, T => match Xs b σ T with
    | .ex d σ T => if Ev.sub d c then match i with
        | some i => match Xs h (σ.set i (some (.exc d))) T with
          | .nx σ T => .nx (σ.set i none) T
          | .rt s T => .rt s T
          | _ => .bad
        | none => match Xs h σ T with
          | .nx σ T => .nx σ T
          | .rt s T => .rt s T
          | _ => .bad
      else .ex d σ T
    | r => r
  | .pass, σ, T => .nx σ T
  | .brk, σ, T => .bk σ T
termination_by structural e => e
def Xs : List IS → Sg → Tw → SRes
  | [], σ, T => .nx σ T
  | s :: ss, σ, T => (X s σ T).then_ fun σ T => Xs ss σ T
termination_by structural e => e
end
end

/-! ### defs -/
structure Def where
  np : Nat
  ns : Nat
  keep : Bool
  body : List IS
/-! no reference to a root from n on -/
mutual
def Va.low (n : Nat) : Va → Bool
  | .ref r => decide (r.root < n)
  | .tup xs => lowAll n xs
  | _ => true
def lowAll (n : Nat) : List Va → Bool
  | [] => true
  | x :: xs => x.low n && lowAll n xs
end
def leave (keep : Bool) (n : Nat) (s : Sv) (T : Tw) : Res Sv := match s with
  | .tr t => .ok (.tr t) (if keep then T else T.take n)
  | .va v => if keep then .ok (.va v) T else match v with
    | .ref ρ => if ρ.root < n then .ok (.va v) (T.take n) else if ρ.path = [] then match T.root ρ.root with
        | some t => if t.free = true ∧ t.id = ρ.id then .ok (.tr t) (T.take n) else .bad
        | none => .bad
      else .bad
    | v => if v.low n then .ok (.va v) (T.take n) else .ok (.va v) T
def runDef (Ev : Env) (Φ : Ph) (d : Def) (vs : List Va) (T : Tw) : Res Sv :=
  if vs.length = d.np then
    match Xs Ev Φ d.body (vs.map some ++ List.replicate (d.ns - d.np) none) T with
    | .nx _ T' => leave d.keep T.roots.length (.va .non) T'
    | .rt s T' => leave d.keep T.roots.length s T'
    | .ex c _ T' => .ex c (T'.take T.roots.length)
    | _ => .bad
  else .bad
def Phi (Ev : Env) (P : Nat → Option Def) : Nat → Ph
  | 0 => fun _ _ _ => .bad
  | n + 1 => fun f vs T => match P f with
    | some d => runDef Ev (Phi Ev P n) d vs T
    | none => .bad
end AM
/-! Laws of the world of trees. -/
namespace AM
open PySem (Str)

/-! ### lists of pairs -/
section
variable {β : Type}
theorem getK_setK (cs : List (Ky × β)) (k j : Ky) (v : β) : getK (setK cs k v) j = if k = j then some v else getK cs j := by
  induction cs with
  | nil => simp only [setK, getK]
  | cons p r ih =>
    obtain ⟨k', v'⟩ := p
    unfold setK
    by_cases h : k' = k
    · subst h; simp only [if_pos, getK]
      by_cases h2 : k' = j <;> simp [h2]
    · simp only [if_neg h, getK, ih]
      by_cases h2 : k' = j
      · subst h2; simp [Ne.symm h]
      · simp [h2]
theorem getK_setK_self (cs : List (Ky × β)) (k : Ky) (v : β) : getK (setK cs k v) k = some v := by rw [getK_setK, if_pos rfl]
theorem setK_setK (cs : List (Ky × β)) (k : Ky) (v w : β) : setK (setK cs k v) k w = setK cs k w := by
  induction cs with
  | nil => simp [setK]
  | cons p r ih =>
    obtain ⟨k', v'⟩ := p
    unfold setK
    by_cases h : k' = k
    · subst h; simp [setK]
    · simp [h, setK, ih]
theorem setK_getK {cs : List (Ky × β)} {k : Ky} {v : β} (h : getK cs k = some v) : setK cs k v = cs := by
  induction cs with
  | nil => simp [getK] at h
  | cons p r ih =>
    obtain ⟨k', v'⟩ := p
    unfold getK at h; unfold setK
    by_cases e : k' = k
    · subst e; simp at h; subst h; simp
    · simp [e] at h; simp [e, ih h]
theorem getK_map {α : Type} (f : α → β) (cs : List (Ky × α)) (k : Ky) : getK (cs.map fun p => (p.1, f p.2)) k = (getK cs k).map f := by
  induction cs with
  | nil => rfl
  | cons p r ih =>
    obtain ⟨k', v'⟩ := p
    simp only [List.map_cons, getK, ih]; split <;> rfl
theorem setK_map {α : Type} (f : α → β) (cs : List (Ky × α)) (k : Ky) (v : α) : setK (cs.map fun p => (p.1, f p.2)) k (f v) = (setK cs k v).map fun p => (p.1, f p.2) := by
  induction cs with
  | nil => rfl
  | cons p r ih =>
    obtain ⟨k', v'⟩ := p
    simp only [List.map_cons, setK, ih]; split <;> simp
theorem delK_map {α : Type} (f : α → β) (cs : List (Ky × α)) (k : Ky) : delK (cs.map fun p => (p.1, f p.2)) k = (delK cs k).map fun p => (p.1, f p.2) := by
  unfold delK; rw [List.filter_map]; rfl
theorem length_setK (cs : List (Ky × β)) (k : Ky) (v : β) : (setK cs k v).length = if hasK cs k then cs.length else cs.length + 1 := by
  unfold hasK
  induction cs with
  | nil => rfl
  | cons p r ih =>
    obtain ⟨k', v'⟩ := p
    unfold setK getK
    by_cases e : k' = k
    · simp [e]
    · simp only [if_neg e, List.length_cons, ih]; split <;> rfl
theorem length_setK_le (cs : List (Ky × β)) (k : Ky) (v : β) : (setK cs k v).length ≤ cs.length + 1 := by
  rw [length_setK]; split <;> omega
end

/-! ### trees -/
theorem child_setChild {t : Tr} {k : Ky} {c d : Tr} (h : t.child k = some d) : (t.setChild k c).child k = some c := by
  cases t with
  | lf v => cases k <;> simp [Tr.child] at h
  | lst i l xs =>
    cases k with
    | i n =>
      unfold Tr.child at h; unfold Tr.setChild
      by_cases hn : 0 ≤ n
      · simp only [if_pos hn] at h ⊢
        unfold Tr.child; simp only [if_pos hn]
        have := (List.getElem?_eq_some_iff.mp h).1
        rw [List.getElem?_set_self this]
      · simp [hn] at h
    | _ => simp [Tr.child] at h
  | nd i l hd cs => unfold Tr.setChild Tr.child; exact getK_setK_self _ _ _
theorem setChild_setChild (t : Tr) (k : Ky) (c d : Tr) : (t.setChild k c).setChild k d = t.setChild k d := by
  cases t with
  | lf v => cases k <;> rfl
  | lst i l xs =>
    cases k with
    | i n =>
      unfold Tr.setChild
      by_cases hn : 0 ≤ n <;> simp [hn]
    | _ => rfl
  | nd i l hd cs => simp [Tr.setChild, setK_setK]
theorem setChild_child {t : Tr} {k : Ky} {c : Tr} (h : t.child k = some c) : t.setChild k c = t := by
  cases t with
  | lf v => cases k <;> rfl
  | lst i l xs =>
    cases k with
    | i n =>
      unfold Tr.child at h; unfold Tr.setChild
      by_cases hn : 0 ≤ n
      · simp only [if_pos hn] at h ⊢
        obtain ⟨h1, h2⟩ := List.getElem?_eq_some_iff.mp h
        rw [← h2, List.set_getElem_self]
      · simp [hn]
    | _ => rfl
  | nd i l hd cs => simp only [Tr.setChild]; rw [setK_getK (by simpa [Tr.child] using h)]
theorem sub_snoc (p : List Ky) (k : Ky) (t : Tr) : Tr.sub (p ++ [k]) t = (Tr.sub p t).bind fun u => u.child k := by
  induction p generalizing t with
  | nil => simp [Tr.sub]
  | cons j p ih =>
    simp only [List.cons_append, Tr.sub]
    cases t.child j <;> simp [ih]
theorem sub_put {p : List Ky} {n t u : Tr} (h : Tr.sub p t = some u) : Tr.sub p (Tr.put p n t) = some n := by
  induction p generalizing t with
  | nil => rfl
  | cons j p ih =>
    unfold Tr.sub at h; unfold Tr.put
    cases e : t.child j with
    | none => simp [e] at h
    | some c =>
      simp [e] at h
      simp only
      unfold Tr.sub
      rw [child_setChild e]
      exact ih h
theorem put_put {p : List Ky} {n m t u : Tr} (h : Tr.sub p t = some u) : Tr.put p m (Tr.put p n t) = Tr.put p m t := by
  induction p generalizing t with
  | nil => rfl
  | cons j p ih =>
    unfold Tr.sub at h
    cases e : t.child j with
    | none => simp [e] at h
    | some c =>
      simp [e] at h
      have e1 : ∀ x, Tr.put (j :: p) x t = t.setChild j (Tr.put p x c) := fun x => by simp [Tr.put, e]
      rw [e1, e1]
      conv => lhs; unfold Tr.put
      simp only [child_setChild e, setChild_setChild, ih h]
theorem put_self {p : List Ky} {t u : Tr} (h : Tr.sub p t = some u) : Tr.put p u t = t := by
  induction p generalizing t with
  | nil => simp [Tr.sub] at h; exact h.symm
  | cons j p ih =>
    unfold Tr.sub at h; unfold Tr.put
    cases e : t.child j with
    | none => simp [e]
    | some c =>
      simp [e] at h
      simp only [ih h, setChild_child e]
theorem put_snoc {p : List Ky} {k : Ky} {n t u c : Tr} (h : Tr.sub p t = some u) (hc : u.child k = some c) : Tr.put (p ++ [k]) n t = Tr.put p (u.setChild k n) t := by
  induction p generalizing t with
  | nil => simp [Tr.sub] at h; subst h; simp [Tr.put, hc]
  | cons j p ih =>
    unfold Tr.sub at h
    cases e : t.child j with
    | none => simp [e] at h
    | some d =>
      simp [e] at h
      simp only [List.cons_append]
      unfold Tr.put
      simp only [e, ih h]

/-! ### the world -/
@[simp] theorem root_adv (T : Tw) (k r : Nat) : (T.adv k).root r = T.root r := rfl
@[simp] theorem at_adv (T : Tw) (k : Nat) (ρ : Rf) : (T.adv k).at ρ = T.at ρ := rfl
@[simp] theorem adv_adv (T : Tw) (j k : Nat) : (T.adv j).adv k = T.adv (j + k) := by simp [Tw.adv, Nat.add_assoc]
@[simp] theorem adv_zero (T : Tw) : T.adv 0 = T := rfl
@[simp] theorem next_adv (T : Tw) (k : Nat) : (T.adv k).next = T.next + k := rfl
@[simp] theorem roots_adv (T : Tw) (k : Nat) : (T.adv k).roots = T.roots := rfl
@[simp] theorem put_adv (T : Tw) (k : Nat) (ρ : Rf) (n : Tr) : (T.adv k).put ρ n = (T.put ρ n).adv k := by
  unfold Tw.put; simp only [root_adv]; split <;> rfl
@[simp] theorem take_adv (T : Tw) (k n : Nat) : (T.adv k).take n = (T.take n).adv k := rfl
@[simp] theorem new_adv (T : Tw) (k : Nat) (t : Tr) : (T.adv k).new t = (T.new t).adv k := rfl
@[simp] theorem next_put (T : Tw) (ρ : Rf) (n : Tr) : (T.put ρ n).next = T.next := by unfold Tw.put; split <;> rfl
@[simp] theorem next_new (T : Tw) (t : Tr) : (T.new t).next = T.next := rfl
@[simp] theorem next_take (T : Tw) (n : Nat) : (T.take n).next = T.next := rfl
@[simp] theorem len_put (T : Tw) (ρ : Rf) (n : Tr) : (T.put ρ n).roots.length = T.roots.length := by unfold Tw.put; split <;> simp
@[simp] theorem len_new (T : Tw) (t : Tr) : (T.new t).roots.length = T.roots.length + 1 := by simp [Tw.new]
theorem at_some {T : Tw} {ρ : Rf} {t : Tr} : T.at ρ = some t ↔ ∃ r, T.root ρ.root = some r ∧ Tr.sub ρ.path r = some t ∧ t.isNode = true ∧ t.id = ρ.id := by
  unfold Tw.at
  cases e : T.root ρ.root with
  | none => simp
  | some r =>
    cases e2 : Tr.sub ρ.path r with
    | none => simp [e2]
    | some u =>
      simp only [Option.bind_some, e2, Option.some.injEq, exists_eq_left']
      constructor
      · intro h; split at h
        · cases h; exact ⟨rfl, by assumption⟩
        · cases h
      · rintro ⟨rfl, h⟩; rw [if_pos h]
theorem at_put_same {T : Tw} {ρ : Rf} {t n : Tr} (h : T.at ρ = some t) (hn : n.isNode = true) (hi : n.id = ρ.id) : (T.put ρ n).at ρ = some n := by
  obtain ⟨r, h1, h2, h3, h4⟩ := at_some.mp h
  refine at_some.mpr ⟨Tr.put ρ.path n r, ?_, sub_put h2, hn, hi⟩
  unfold Tw.put; rw [h1]
  unfold Tw.root at h1 ⊢
  have hl : ρ.root < T.roots.length := by
    cases e : T.roots[ρ.root]? with
    | none => simp [e] at h1
    | some x => exact (List.getElem?_eq_some_iff.mp e).1
  simp [List.getElem?_set_self hl]
theorem put_put_same {T : Tw} {ρ : Rf} {t n m : Tr} (h : T.at ρ = some t) : (T.put ρ n).put ρ m = T.put ρ m := by
  obtain ⟨r, h1, h2, h3, h4⟩ := at_some.mp h
  unfold Tw.put; rw [h1]
  unfold Tw.root at h1 ⊢
  have hl : ρ.root < T.roots.length := by
    cases e : T.roots[ρ.root]? with
    | none => simp [e] at h1
    | some x => exact (List.getElem?_eq_some_iff.mp e).1
  simp [List.getElem?_set_self hl, put_put h2]
theorem put_at_self {T : Tw} {ρ : Rf} {t : Tr} (h : T.at ρ = some t) : T.put ρ t = T := by
  obtain ⟨r, h1, h2, h3, h4⟩ := at_some.mp h
  unfold Tw.put; rw [h1]
  simp only [put_self h2]
  unfold Tw.root at h1
  cases e : T.roots[ρ.root]? with
  | none => simp [e] at h1
  | some x =>
    simp [e] at h1; subst h1
    obtain ⟨hl, he⟩ := List.getElem?_eq_some_iff.mp e
    have : T.roots.set ρ.root (some r) = T.roots := by rw [← he, List.set_getElem_self]
    rw [this]
theorem at_kid {T : Tw} {ρ : Rf} {t c : Tr} {k : Ky} {i : Nat} (h : T.at ρ = some t) (hc : t.child k = some c) (hn : c.isNode = true) (hi : c.id = i) : T.at (ρ.kid k i) = some c := by
  obtain ⟨r, h1, h2, h3, h4⟩ := at_some.mp h
  refine at_some.mpr ⟨r, h1, ?_, hn, hi⟩
  show Tr.sub (ρ.path ++ [k]) r = _
  rw [sub_snoc, h2]; exact hc
theorem put_kid {T : Tw} {ρ : Rf} {t c n : Tr} {k : Ky} {i : Nat} (h : T.at ρ = some t) (hc : t.child k = some c) : T.put (ρ.kid k i) n = T.put ρ (t.setChild k n) := by
  obtain ⟨r, h1, h2, h3, h4⟩ := at_some.mp h
  unfold Tw.put
  show (match T.root ρ.root with | some t => _ | none => T) = _
  rw [h1]
  show ({ T with roots := T.roots.set ρ.root (some (Tr.put (ρ.path ++ [k]) n r)) } : Tw) = _
  rw [put_snoc h2 hc]
/-- the roots below n are as they were, and nothing else is there -/
theorem take_put (T : Tw) (ρ : Rf) (n : Tr) (m : Nat) (h : ρ.root < m) : (T.put ρ n).take m = (T.take m).put ρ n := by
  unfold Tw.put Tw.take Tw.root
  simp only [List.getElem?_take, if_pos h]
  split <;> simp_all [List.take_set]
@[simp] theorem take_len (T : Tw) : T.take T.roots.length = T := by simp [Tw.take]
@[simp] theorem take_new (T : Tw) (t : Tr) : (T.new t).take T.roots.length = T := by simp [Tw.take, Tw.new]
theorem at_lt {T : Tw} {ρ : Rf} {t : Tr} (h : T.at ρ = some t) : ρ.root < T.roots.length := by
  obtain ⟨r, h1, _⟩ := at_some.mp h
  unfold Tw.root at h1
  cases e : T.roots[ρ.root]? with
  | none => simp [e] at h1
  | some x => exact (List.getElem?_eq_some_iff.mp e).1
@[simp] theorem bind_ok {α β : Type} (a : α) (T : Tw) (f : α → Tw → Res β) : (Res.ok a T).bind f = f a T := rfl
@[simp] theorem bind_ex {α β : Type} (c : Nat) (T : Tw) (f : α → Tw → Res β) : (Res.ex c T).bind f = .ex c T := rfl
@[simp] theorem bind_bad {α β : Type} (f : α → Tw → Res β) : (Res.bad).bind f = .bad := rfl
@[simp] theorem inS_ok {α : Type} (a : α) (T : Tw) (σ : Sg) (f : α → Tw → SRes) : inS (.ok a T) σ f = f a T := rfl
@[simp] theorem inS_ex {α : Type} (c : Nat) (T : Tw) (σ : Sg) (f : α → Tw → SRes) : inS (.ex c T) σ f = .ex c σ T := rfl
@[simp] theorem settle_va (a : Va) (T : Tw) : settle (.va a) T = .ok a T := rfl
@[simp] theorem settle_tr (t : Tr) (T : Tw) : settle (.tr t) T = .ok (T.newRef t) (T.new t) := rfl
end AM
/-! The evaluator step by step. -/
namespace AM
open PySem (Str)
section
variable {Ev : Env} {Φ : Ph} {σ : Sg} {T T1 T2 T3 : Tw} {a b c i o : IE} {es : List IE} {x y z s : Sv} {v : Va} {vs : List Va} {ss : List Sv}
theorem ev_v {n : Nat} (h : σ.get n = some v) : E Ev Φ (.v n) σ T = .ok (.va v) T := by simp [E, h]
theorem ev_cst {c : Va} : E Ev Φ (.cst c) σ T = .ok (.va c) T := by simp [E]
theorem ev_bin {op : BOp} (h1 : E Ev Φ a σ T = .ok x T1) (h2 : E Ev Φ b σ T1 = .ok y T2) (h3 : opBin op x y T2 = .ok s T3) : E Ev Φ (.bin op a b) σ T = .ok s T3 := by simp [E, h1, h2, h3]
theorem ev_neg {n : Int} (h1 : E Ev Φ a σ T = .ok (.va (.int n)) T1) : E Ev Φ (.neg a) σ T = .ok (.va (.int (-n))) T1 := by simp [E, h1, opNeg, okV]
theorem ev_cmp {op : COp} {r : Bool} (h1 : E Ev Φ a σ T = .ok x T1) (h2 : E Ev Φ b σ T1 = .ok y T2) (h3 : opCmp op x y T2 = .ok r T2) : E Ev Φ (.cmp op a b) σ T = .ok (.va (.bl r)) T2 := by simp [E, h1, h2, h3]
theorem ev_not {r : Bool} (h1 : E Ev Φ a σ T = .ok (.va (.bl r)) T1) : E Ev Φ (.not a) σ T = .ok (.va (.bl (!r))) T1 := by simp [E, h1, truth]
theorem ev_and_t (h1 : E Ev Φ a σ T = .ok (.va (.bl true)) T1) (h2 : E Ev Φ b σ T1 = .ok s T2) : E Ev Φ (.and a b) σ T = .ok s T2 := by simp [E, h1, h2, truth]
theorem ev_and_f (h1 : E Ev Φ a σ T = .ok (.va (.bl false)) T1) : E Ev Φ (.and a b) σ T = .ok (.va (.bl false)) T1 := by simp [E, h1, truth]
theorem ev_or_f (h1 : E Ev Φ a σ T = .ok (.va (.bl false)) T1) (h2 : E Ev Φ b σ T1 = .ok s T2) : E Ev Φ (.or a b) σ T = .ok s T2 := by simp [E, h1, h2, truth]
theorem ev_or_t (h1 : E Ev Φ a σ T = .ok (.va (.bl true)) T1) : E Ev Φ (.or a b) σ T = .ok (.va (.bl true)) T1 := by simp [E, h1, truth]
/-- both sides are asked, whatever comes: where the right one changes nothing -/
theorem ev_and {r q : Bool} (h1 : E Ev Φ a σ T = .ok (.va (.bl r)) T1) (h2 : r = true → E Ev Φ b σ T1 = .ok (.va (.bl q)) T1) : E Ev Φ (.and a b) σ T = .ok (.va (.bl (r && q))) T1 := by
  cases r
  · exact ev_and_f h1
  · exact ev_and_t h1 (h2 rfl)
theorem ev_or {r q : Bool} (h1 : E Ev Φ a σ T = .ok (.va (.bl r)) T1) (h2 : r = false → E Ev Φ b σ T1 = .ok (.va (.bl q)) T1) : E Ev Φ (.or a b) σ T = .ok (.va (.bl (r || q))) T1 := by
  cases r
  · exact ev_or_f h1 (h2 rfl)
  · exact ev_or_t h1
theorem es_nil : Es Ev Φ [] σ T = .ok [] T := by simp [Es]
theorem es_cons (h1 : E Ev Φ a σ T = .ok s T1) (h2 : Es Ev Φ es σ T1 = .ok ss T2) : Es Ev Φ (a :: es) σ T = .ok (s :: ss) T2 := by simp [Es, h1, h2]
theorem sa_nil : settleAll [] T = .ok [] T := rfl
theorem sa_va (h : settleAll ss T = .ok vs T1) : settleAll (.va v :: ss) T = .ok (v :: vs) T1 := by simp [settleAll, h]
theorem sa_tr {t : Tr} (h : settleAll ss (T.new t) = .ok vs T1) : settleAll (.tr t :: ss) T = .ok (T.newRef t :: vs) T1 := by simp [settleAll, h]
theorem ev_tup (h1 : Es Ev Φ es σ T = .ok ss T1) (h2 : settleAll ss T1 = .ok vs T2) (h3 : vs.length ≤ lim) : E Ev Φ (.tup es) σ T = .ok (.va (.tup vs)) T2 := by simp [E, h1, h2, mkTup, h3]
theorem ev_lst (h1 : Es Ev Φ es σ T = .ok ss T1) (h3 : ss.length ≤ lim) : E Ev Φ (.lst es) σ T = .ok (.tr (.lst T1.next false (ss.map Sv.slot))) (T1.adv 1) := by simp [E, h1, h3]
theorem ev_dct {ks : List Ky} {cs : List (Ky × Tr)} (h1 : Es Ev Φ es σ T = .ok ss T1) (h3 : dctSlots ks ss = some cs) (h4 : (cs.map (·.1)).Nodup ∧ cs.all (fun p => !p.1.isT && !p.1.isF) ∧ cs.length ≤ 15) : E Ev Φ (.dct ks es) σ T = .ok (.tr (.nd T1.next false none cs)) (T1.adv 1) := by simp only [E, h1, bind_ok, h3]; rw [if_pos h4]
theorem ev_fld {ρ : Rf} {f n cl : Nat} {lk : Bool} {cs : List (Ky × Tr)} {t : Tr} (h1 : E Ev Φ a σ T = .ok (.va (.ref ρ)) T1) (h2 : T1.at ρ = some (.nd n lk (some cl) cs)) (h3 : getK cs (.f f) = some t) :
    E Ev Φ (.fld a f) σ T = .ok (.va (slotV ρ (.f f) t)) T1 := by simp [E, h1, h2, h3]
theorem ev_ix (h1 : E Ev Φ a σ T = .ok x T1) (h2 : E Ev Φ i σ T1 = .ok y T2) (h3 : opIx x y T2 = .ok s T3) : E Ev Φ (.ix a i) σ T = .ok s T3 := by simp [E, h1, h2, h3]
theorem ev_bf {f : Bf} (h1 : Es Ev Φ es σ T = .ok ss T1) (h2 : opBf Ev.hash f ss T1 = .ok s T2) : E Ev Φ (.bf f es) σ T = .ok s T2 := by simp [E, h1, h2]
theorem ev_bm {m : Bm} (h1 : E Ev Φ o σ T = .ok x T1) (h2 : Es Ev Φ es σ T1 = .ok ss T2) (h3 : opBm Ev.hash m x ss T2 = .ok s T3) : E Ev Φ (.bm m o es) σ T = .ok s T3 := by simp [E, h1, h2, h3]
theorem ev_call {f : Nat} (h1 : Es Ev Φ es σ T = .ok ss T1) (h2 : settleAll ss T1 = .ok vs T2) (h3 : Φ f vs T2 = .ok s T3) : E Ev Φ (.call f es) σ T = .ok s T3 := by simp [E, h1, h2, h3]
theorem ev_meth {ρ : Rf} {m n cl f : Nat} {lk : Bool} {cs : List (Ky × Tr)} (h0 : E Ev Φ o σ T = .ok (.va (.ref ρ)) T1) (h1 : T1.at ρ = some (.nd n lk (some cl) cs)) (h2 : Es Ev Φ es σ T1 = .ok ss T2) (h3 : settleAll ss T2 = .ok vs T3)
    (h4 : Ev.meth cl m = some f) {T4 : Tw} (h5 : Φ f (.ref ρ :: vs) T3 = .ok s T4) : E Ev Φ (.meth m o es) σ T = .ok s T4 := by simp [E, h0, h1, h2, h3, recv, h4, h5]
/-! statements -/
variable {st : List IS} {r : SRes}
theorem xs_nil : Xs Ev Φ [] σ T = .nx σ T := by simp [Xs]
theorem xs_asg {n : Nat} {e : IE} (h1 : E Ev Φ e σ T = .ok (.va v) T1) (h2 : Xs Ev Φ st (σ.set n (some v)) T1 = r) : Xs Ev Φ (.asg n e :: st) σ T = r := by simp [Xs, X, h1, SRes.then_, h2]
theorem xs_asgT {n : Nat} {e : IE} {t : Tr} (h1 : E Ev Φ e σ T = .ok (.tr t) T1) (h2 : Xs Ev Φ st (σ.set n (some (T1.newRef t))) (T1.new t) = r) : Xs Ev Φ (.asg n e :: st) σ T = r := by simp [Xs, X, h1, SRes.then_, h2]
theorem xs_setF {f : Nat} {e : IE} {ρ : Rf} {id cl : Nat} {cs : List (Ky × Tr)} (h1 : E Ev Φ e σ T = .ok s T1) (h2 : E Ev Φ o σ T1 = .ok (.va (.ref ρ)) T2) (h3 : T2.at ρ = some (.nd id false (some cl) cs)) (h4 : cs.length < 1000)
    (h5 : Xs Ev Φ st σ (T2.put ρ (.nd id false (some cl) (setK cs (.f f) s.slot))) = r) : Xs Ev Φ (.setF o f e :: st) σ T = r := by simp [Xs, X, h1, h2, storeF, h3, h4, optS, SRes.then_, h5]
theorem xs_setI {e : IE} {T' : Tw} (h1 : E Ev Φ e σ T = .ok s T1) (h2 : E Ev Φ o σ T1 = .ok x T2) (h3 : E Ev Φ i σ T2 = .ok y T3) (h4 : storeI x y s T3 = some T')
    (h5 : Xs Ev Φ st σ T' = r) : Xs Ev Φ (.setI o i e :: st) σ T = r := by simp [Xs, X, h1, h2, h3, h4, optS, SRes.then_, h5]
theorem xs_ex {e : IE} (h1 : E Ev Φ e σ T = .ok s T1) (h2 : Xs Ev Φ st σ T1 = r) : Xs Ev Φ (.ex e :: st) σ T = r := by simp [Xs, X, h1, SRes.then_, h2]
theorem xs_ret {e : IE} (h1 : E Ev Φ e σ T = .ok s T1) : Xs Ev Φ (.ret e :: st) σ T = .rt s T1 := by simp [Xs, X, h1, SRes.then_]
theorem xs_ite {e : IE} {p q : List IS} {b : Bool} (h1 : E Ev Φ e σ T = .ok (.va (.bl b)) T1) (h2 : (match b with | true => Xs Ev Φ p σ T1 | false => Xs Ev Φ q σ T1).then_ (fun σ T => Xs Ev Φ st σ T) = r) : Xs Ev Φ (.ite e p q :: st) σ T = r := by
  rw [← h2]
  cases b <;> simp [Xs, X, h1, truth] <;> rfl
theorem xs_iteT {e : IE} {p q : List IS} (h1 : E Ev Φ e σ T = .ok (.va (.bl true)) T1) {r' : SRes} (h2 : Xs Ev Φ p σ T1 = r') (h3 : r'.then_ (fun σ T => Xs Ev Φ st σ T) = r) : Xs Ev Φ (.ite e p q :: st) σ T = r := by
  refine xs_ite h1 ?_; rw [h2]; exact h3
theorem xs_iteF {e : IE} {p q : List IS} (h1 : E Ev Φ e σ T = .ok (.va (.bl false)) T1) {r' : SRes} (h2 : Xs Ev Φ q σ T1 = r') (h3 : r'.then_ (fun σ T => Xs Ev Φ st σ T) = r) : Xs Ev Φ (.ite e p q :: st) σ T = r := by
  refine xs_ite h1 ?_; rw [h2]; exact h3
end

end AM
/-! What the machine's values, trees and worlds are in the abstract heap. -/
namespace AM
open PySem L2

/-! ### trees, seen flat -/
def Tr.stub : Tr → Tr
  | .lf v => .lf v
  | .lst i _ _ => .lst i false []
  | .nd i _ _ _ => .lst i false []
def Tr.shal : Tr → Tr
  | .lf v => .lf v
  | .lst i l xs => .lst i l (xs.map Tr.stub)
  | .nd i l h cs => .nd i l h (cs.map fun p => (p.1, p.2.stub))
mutual
def Tr.shs : Tr → List Tr
  | .lf _ => []
  | .lst i l xs => .lst i l (xs.map Tr.stub) :: shsL xs
  | .nd i l h cs => .nd i l h (cs.map fun p => (p.1, p.2.stub)) :: shsK cs
def shsL : List Tr → List Tr
  | [] => []
  | x :: xs => x.shs ++ shsL xs
def shsK : List (Ky × Tr) → List Tr
  | [] => []
  | (_, x) :: xs => x.shs ++ shsK xs
end
def shsR : List (Option Tr) → List Tr
  | [] => []
  | none :: r => shsR r
  | some t :: r => t.shs ++ shsR r
def Tw.shs (T : Tw) : List Tr := shsR T.roots
/-- how often a mark stands -/
def cnt (i : Nat) (l : List Tr) : Nat := (l.filter fun t => decide (t.id = i)).length
@[simp] theorem cnt_nil (i : Nat) : cnt i [] = 0 := rfl
@[simp] theorem cnt_app (i : Nat) (a b : List Tr) : cnt i (a ++ b) = cnt i a + cnt i b := by simp [cnt]
@[simp] theorem cnt_cons (i : Nat) (a : Tr) (b : List Tr) : cnt i (a :: b) = (if a.id = i then 1 else 0) + cnt i b := by
  unfold cnt; by_cases h : a.id = i <;> simp [List.filter_cons, h]; omega
theorem cnt_pos {i : Nat} {l : List Tr} {t : Tr} (h : t ∈ l) (e : t.id = i) : 0 < cnt i l := by
  unfold cnt; exact List.length_pos_of_mem (List.mem_filter.mpr ⟨h, by simp [e]⟩)
theorem of_cnt_pos {i : Nat} {l : List Tr} (h : 0 < cnt i l) : ∃ t ∈ l, t.id = i := by
  unfold cnt at h
  obtain ⟨t, ht⟩ := List.exists_mem_of_length_pos h
  obtain ⟨h1, h2⟩ := List.mem_filter.mp ht
  exact ⟨t, h1, by simpa using h2⟩
@[simp] theorem shsL_append (xs ys : List Tr) : shsL (xs ++ ys) = shsL xs ++ shsL ys := by
  induction xs with
  | nil => rfl
  | cons x xs ih => simp [shsL, ih]
@[simp] theorem shsK_append (xs ys : List (Ky × Tr)) : shsK (xs ++ ys) = shsK xs ++ shsK ys := by
  induction xs with
  | nil => rfl
  | cons x xs ih => obtain ⟨k, x⟩ := x; simp [shsK, ih]
@[simp] theorem shsR_append (xs ys : List (Option Tr)) : shsR (xs ++ ys) = shsR xs ++ shsR ys := by
  induction xs with
  | nil => rfl
  | cons x xs ih => cases x <;> simp [shsR, ih]
theorem shs_lf (v : Va) : (Tr.lf v).shs = [] := by simp [Tr.shs]
theorem stub_id {t : Tr} : t.stub.id = t.id := by cases t <;> rfl
theorem stub_eq {t t' : Tr} (h : t.isNode = true) (h' : t'.isNode = true) (e : t'.id = t.id) : t'.stub = t.stub := by
  cases t <;> cases t' <;> simp_all [Tr.isNode, Tr.stub, Tr.id]
theorem shal_id {t : Tr} : t.shal.id = t.id := by cases t <;> rfl
theorem shs_node {t : Tr} (h : t.isNode = true) : ∃ k, t.shs = t.shal :: k := by
  cases t with
  | lf v => cases h
  | lst i l xs => exact ⟨shsL xs, by simp [Tr.shs, Tr.shal]⟩
  | nd i l h cs => exact ⟨shsK cs, by simp [Tr.shs, Tr.shal]⟩
theorem shsL_set {xs : List Tr} {n : Nat} {c d : Tr} (h : xs[n]? = some d) : ∃ A B, shsL xs = A ++ d.shs ++ B ∧ shsL (xs.set n c) = A ++ c.shs ++ B := by
  induction xs generalizing n with
  | nil => simp at h
  | cons x xs ih =>
    cases n with
    | zero => simp at h; subst h; exact ⟨[], shsL xs, by simp [shsL], by simp [shsL]⟩
    | succ n =>
      simp at h
      obtain ⟨A, B, h1, h2⟩ := ih h
      exact ⟨x.shs ++ A, B, by simp [shsL, h1], by simp [shsL, h2]⟩
theorem shsK_set {cs : List (Ky × Tr)} {k : Ky} {c d : Tr} (h : getK cs k = some d) : ∃ A B, shsK cs = A ++ d.shs ++ B ∧ shsK (setK cs k c) = A ++ c.shs ++ B := by
  induction cs with
  | nil => simp [getK] at h
  | cons p cs ih =>
    obtain ⟨k', x⟩ := p
    unfold getK at h; unfold setK
    by_cases e : k' = k
    · simp [e] at h; subst h; exact ⟨[], shsK cs, by simp [shsK], by simp [shsK, e]⟩
    · simp [e] at h
      obtain ⟨A, B, h1, h2⟩ := ih h
      exact ⟨x.shs ++ A, B, by simp [shsK, h1], by simp [shsK, e, h2]⟩
theorem map_stub_set {xs : List Tr} {n : Nat} {c d : Tr} (h : xs[n]? = some d) (e : c.stub = d.stub) : (xs.set n c).map Tr.stub = xs.map Tr.stub := by
  rw [List.map_set, e]
  apply List.ext_getElem?; intro m
  by_cases hm : n = m
  · subst hm; rw [List.getElem?_set_self (by simpa using (List.getElem?_eq_some_iff.mp h).1)]; simp [h]
  · rw [List.getElem?_set_ne hm]
theorem map_stub_setK {cs : List (Ky × Tr)} {k : Ky} {c d : Tr} (h : getK cs k = some d) (e : c.stub = d.stub) : (setK cs k c).map (fun p => (p.1, p.2.stub)) = cs.map fun p => (p.1, p.2.stub) := by
  rw [← setK_map, e, setK_getK]
  rw [getK_map, h]; rfl
theorem shs_setChild {t : Tr} {k : Ky} {c d : Tr} (h : t.child k = some d) (hd : d.isNode = true) (hc : c.isNode = true) (e : c.id = d.id) : ∃ A B, t.shs = A ++ d.shs ++ B ∧ (t.setChild k c).shs = A ++ c.shs ++ B := by
  have es := stub_eq hd hc e
  cases t with
  | lf v => cases k <;> simp [Tr.child] at h
  | lst i l xs =>
    cases k with
    | i n =>
      unfold Tr.child at h; unfold Tr.setChild
      by_cases hn : 0 ≤ n
      · simp only [if_pos hn] at h ⊢
        obtain ⟨A, B, h1, h2⟩ := shsL_set (c := c) h
        exact ⟨_ :: A, B, by simp [Tr.shs, h1]; rfl, by simp [Tr.shs, h2, map_stub_set h es]⟩
      · simp [hn] at h
    | _ => simp [Tr.child] at h
  | nd i l hh cs =>
    obtain ⟨A, B, h1, h2⟩ := shsK_set (c := c) (show getK cs k = some d from h)
    exact ⟨_ :: A, B, by simp [Tr.shs, h1]; rfl, by simp [Tr.setChild, Tr.shs, h2, map_stub_setK h es]⟩
theorem put_node {p : List Ky} {t u n : Tr} (h : Tr.sub p t = some u) (hu : u.isNode = true) (hn : n.isNode = true) (e : n.id = u.id) : (Tr.put p n t).isNode = t.isNode ∧ (Tr.put p n t).id = t.id := by
  cases p with
  | nil => simp [Tr.sub] at h; subst h; simp [Tr.put, hu, hn, e]
  | cons k p =>
    unfold Tr.sub at h; unfold Tr.put
    cases e2 : t.child k with
    | none => simp [e2] at h
    | some c =>
      simp only
      cases t with
      | lf v => cases k <;> simp [Tr.child] at e2
      | lst i l xs => cases k <;> simp [Tr.child] at e2; rename_i m; simp [Tr.setChild, e2.1, Tr.isNode, Tr.id]
      | nd i l hh cs => exact ⟨rfl, rfl⟩
theorem sub_isNode {p : List Ky} {t u : Tr} (h : Tr.sub p t = some u) (hu : u.isNode = true) : t.isNode = true := by
  cases p with
  | nil => simp [Tr.sub] at h; subst h; exact hu
  | cons k p =>
    unfold Tr.sub at h
    cases t with
    | lf v => cases k <;> simp [Tr.child] at h
    | lst _ _ _ => rfl
    | nd _ _ _ _ => rfl
theorem shs_put {p : List Ky} {t u n : Tr} (h : Tr.sub p t = some u) (hu : u.isNode = true) (hn : n.isNode = true) (e : n.id = u.id) : ∃ A B, t.shs = A ++ u.shs ++ B ∧ (Tr.put p n t).shs = A ++ n.shs ++ B := by
  induction p generalizing t with
  | nil => simp [Tr.sub] at h; subst h; exact ⟨[], [], by simp, by simp [Tr.put]⟩
  | cons k p ih =>
    unfold Tr.sub at h
    cases e2 : t.child k with
    | none => simp [e2] at h
    | some c =>
      simp [e2] at h
      obtain ⟨A, B, h1, h2⟩ := ih h
      obtain ⟨q1, q2⟩ := put_node h hu hn e
      have hc := sub_isNode h hu
      obtain ⟨A', B', h3, h4⟩ := shs_setChild (c := Tr.put p n c) e2 hc (by rw [q1]; exact hc) q2
      refine ⟨A' ++ A, B ++ B', by simp [h3, h1], ?_⟩
      unfold Tr.put; simp [e2, h4, h2]
theorem shsR_set {xs : List (Option Tr)} {n : Nat} {c d : Tr} (h : xs[n]? = some (some d)) : ∃ A B, shsR xs = A ++ d.shs ++ B ∧ shsR (xs.set n (some c)) = A ++ c.shs ++ B := by
  induction xs generalizing n with
  | nil => simp at h
  | cons x xs ih =>
    cases n with
    | zero => simp at h; subst h; exact ⟨[], shsR xs, by simp [shsR], by simp [shsR]⟩
    | succ n =>
      simp at h
      obtain ⟨A, B, h1, h2⟩ := ih h
      cases x with
      | none => exact ⟨A, B, by simp [shsR, h1], by simp [shsR, h2]⟩
      | some x => exact ⟨x.shs ++ A, B, by simp [shsR, h1], by simp [shsR, h2]⟩
theorem Tw.shs_put {T : Tw} {ρ : Rf} {t n : Tr} (h : T.at ρ = some t) (hn : n.isNode = true) (e : n.id = ρ.id) : ∃ A B, T.shs = A ++ t.shs ++ B ∧ (T.put ρ n).shs = A ++ n.shs ++ B := by
  obtain ⟨r, h1, h2, h3, h4⟩ := at_some.mp h
  have h1' : T.roots[ρ.root]? = some (some r) := by
    unfold Tw.root at h1
    cases e : T.roots[ρ.root]? with
    | none => simp [e] at h1
    | some x => simp [e] at h1; rw [h1]
  obtain ⟨A, B, q1, q2⟩ := AM.shs_put h2 h3 hn (e.trans h4.symm)
  obtain ⟨A', B', q3, q4⟩ := shsR_set (c := Tr.put ρ.path n r) h1'
  refine ⟨A' ++ A, B ++ B', by simp [Tw.shs, q3, q1], ?_⟩
  unfold Tw.put Tw.shs; rw [h1]; simp [q4, q2]
end AM
namespace AM
open PySem L2

/-- where classes stand, names of attributes -/
structure Pl where
  cls : Nat → Addr
  exc : Nat → Addr
  fld : Nat → Str
abbrev Ka := Nat → Option Addr
/-- an error's object -/
def excPhi (C a : Addr) : Heap → Prop := fun h => ∃ oe, h.get? a = some oe ∧ Zc (.ref C) none oe ∧ ∃ vs, oe.data = .fields vs
mutual
def RV (pl : Pl) (κ : Ka) (H : Hp) : Va → V → Prop
  | .non, x => x = .non
  | .bl b, x => x = .bl b
  | .int i, x => x = .int i
  | .str s, x => x = .str s
  | .tup vs, x => ∃ p xs, x = .ref p ∧ H p = some (.tup xs) ∧ RVs pl κ H vs xs
  | .ref ρ, x => ∃ a, κ ρ.id = some a ∧ x = .ref a
  | .exc c, x => ∃ a, x = .ref a ∧ H a = some (.ext (excPhi (pl.exc c) a))
def RVs (pl : Pl) (κ : Ka) (H : Hp) : List Va → List V → Prop
  | [], xs => xs = []
  | v :: vs, xs => ∃ x r, xs = x :: r ∧ RV pl κ H v x ∧ RVs pl κ H vs r
end
section
variable {pl : Pl} {κ κ' : Ka} {H H' : Hp}
def isVal : HO → Prop
  | .tup _ => True
  | .ext _ => True
  | _ => False
/-- what values lean on -/
structure Up (κ : Ka) (H : Hp) (κ' : Ka) (H' : Hp) : Prop where
  ka : ∀ i a, κ i = some a → κ' i = some a
  val : ∀ b o, H b = some o → isVal o → H' b = some o
theorem Up.refl : Up κ H κ H := ⟨fun _ _ h => h, fun _ _ h _ => h⟩
theorem Up.trans {κ1 κ2 : Ka} {H1 H2 : Hp} (a : Up κ H κ1 H1) (b : Up κ1 H1 κ2 H2) : Up κ H κ2 H2 :=
  ⟨fun i x h => b.ka i x (a.ka i x h), fun c o h v => b.val c o (a.val c o h v) v⟩
mutual
theorem RV.mono (u : Up κ H κ' H') : ∀ {v : Va} {x : V}, RV pl κ H v x → RV pl κ' H' v x
  | .non, _, h => by simpa only [RV] using h
  | .bl _, _, h => by simpa only [RV] using h
  | .int _, _, h => by simpa only [RV] using h
  | .str _, _, h => by simpa only [RV] using h
  | .tup vs, _, h => by
    simp only [RV] at h ⊢
    obtain ⟨p, xs, e, hp, r⟩ := h
    exact ⟨p, xs, e, u.val p _ hp trivial, RVs.mono u r⟩
  | .ref ρ, _, h => by
    simp only [RV] at h ⊢
    obtain ⟨a, e, q⟩ := h
    exact ⟨a, u.ka _ _ e, q⟩
  | .exc c, _, h => by
    simp only [RV] at h ⊢
    obtain ⟨a, e, q⟩ := h
    exact ⟨a, e, u.val _ _ q trivial⟩
theorem RVs.mono (u : Up κ H κ' H') : ∀ {vs : List Va} {xs : List V}, RVs pl κ H vs xs → RVs pl κ' H' vs xs
  | [], _, h => by simpa only [RVs] using h
  | v :: vs, _, h => by
    simp only [RVs] at h ⊢
    obtain ⟨x, r, e, h1, h2⟩ := h
    exact ⟨x, r, e, RV.mono u h1, RVs.mono u h2⟩
end
theorem RVs.paired : ∀ {vs : List Va} {xs : List V}, RVs pl κ H vs xs ↔ Paired (RV pl κ H) vs xs
  | [], xs => by
    simp only [RVs]
    constructor
    · rintro rfl; exact .nil
    · intro h; cases h; rfl
  | v :: vs, xs => by
    simp only [RVs]
    constructor
    · rintro ⟨x, r, rfl, h1, h2⟩; exact .cons h1 (RVs.paired.mp h2)
    · intro h; cases h with | cons h1 h2 => exact ⟨_, _, rfl, h1, RVs.paired.mpr h2⟩

/-- a slot -/
def Sl (pl : Pl) (κ : Ka) (H : Hp) (t : Tr) (x : V) : Prop := match t with
  | .lf v => RV pl κ H v x
  | .lst i _ _ => ∃ a, κ i = some a ∧ x = .ref a
  | .nd i _ _ _ => ∃ a, κ i = some a ∧ x = .ref a
theorem Sl.mono (u : Up κ H κ' H') {t : Tr} {x : V} (h : Sl pl κ H t x) : Sl pl κ' H' t x := by
  cases t with
  | lf v => exact RV.mono u h
  | lst i l xs => obtain ⟨a, e, q⟩ := h; exact ⟨a, u.ka _ _ e, q⟩
  | nd i l hd cs => obtain ⟨a, e, q⟩ := h; exact ⟨a, u.ka _ _ e, q⟩
theorem Sl.stub {t : Tr} {x : V} : Sl pl κ H t.stub x ↔ Sl pl κ H t x := by cases t <;> exact Iff.rfl
theorem Sl.node {t : Tr} {x : V} (h : t.isNode = true) : Sl pl κ H t x ↔ ∃ a, κ t.id = some a ∧ x = .ref a := by
  cases t with
  | lf v => cases h
  | lst _ _ _ => exact Iff.rfl
  | nd _ _ _ _ => exact Iff.rfl
def KyK : Ky → Key → Prop
  | .i n, k => k = Sum.inl n
  | .s x, k => k = Sum.inr x
  | _, _ => False
def KyT : Ky → List Key → Prop
  | .t xs, k => k = xs
  | _, _ => False
def KyF (pl : Pl) : Ky → Str → Prop
  | .f n, k => k = pl.fld n
  | _, _ => False
abbrev PdK (pl : Pl) (κ : Ka) (H : Hp) : List (Ky × Tr) → List (Key × V) → Prop := Paired fun c p => KyK c.1 p.1 ∧ Sl pl κ H c.2 p.2
abbrev PdT (pl : Pl) (κ : Ka) (H : Hp) : List (Ky × Tr) → List (List Key × V) → Prop := Paired fun c p => KyT c.1 p.1 ∧ Sl pl κ H c.2 p.2
abbrev PdF (pl : Pl) (κ : Ka) (H : Hp) : List (Ky × Tr) → List (Str × V) → Prop := Paired fun c p => KyF pl c.1 p.1 ∧ Sl pl κ H c.2 p.2
/-- a list that is only read: locked, or the module's own -/
def SqF (K : PySem.W.Frag) (H : Hp) (a : Addr) (xs : List V) : Prop :=
  (∃ o, H a = some (.frz o (.lst xs))) ∨
    ∃ (o : Obj) (its : Array Value) (n : Nat), K.lookup a = some o ∧ o.cls = .type "list" ∧ o.dict = none ∧ o.data = .seq its n ∧ its.size ≤ sizeLine ∧ Vals xs its.toList
theorem SqF.sq {K : PySem.W.Frag} {H : Hp} {a : Addr} {xs : List V} (h : SqF K H a xs) : SqL K H a xs := h.elim (fun h => .inl (.inr h)) .inr
/-- what a node is, at the address a -/
def Nd (K : PySem.W.Frag) (pl : Pl) (κ : Ka) (H : Hp) (a : Addr) : Tr → Prop
  | .lf _ => False
  | .lst _ false xs => ∃ vs, H a = some (.lst vs) ∧ Paired (Sl pl κ H) xs vs
  | .lst _ true xs => ∃ vs, SqF K H a vs ∧ Paired (Sl pl κ H) xs vs
  | .nd _ false none cs => (cs.map (·.1)).Nodup ∧ ((∃ kvs, H a = some (.dK kvs) ∧ PdK pl κ H cs kvs) ∨ (∃ kvs, H a = some (.dT kvs) ∧ PdT pl κ H cs kvs))
  | .nd _ true none cs => (cs.map (·.1)).Nodup ∧ ∃ o, (∃ kvs, H a = some (.frz o (.dK kvs)) ∧ PdK pl κ H cs kvs) ∨ (∃ kvs, H a = some (.frz o (.dT kvs)) ∧ PdT pl κ H cs kvs)
  | .nd _ lk (some c) cs => lk = false ∧ ∃ dx fs, H a = some (.ins (pl.cls c) dx fs) ∧ PdF pl κ H cs fs
def NdAt (K : PySem.W.Frag) (pl : Pl) (κ : Ka) (H : Hp) (t : Tr) : Prop := ∃ a, κ t.id = some a ∧ Nd K pl κ H a t
theorem Paired.maps {α γ β : Type} {F : α → β → Prop} {G : γ → β → Prop} (g : γ → α) (f : ∀ a b, F (g a) b ↔ G a b) {l₁ : List γ} {l₂ : List β} : Paired F (l₁.map g) l₂ ↔ Paired G l₁ l₂ := by
  induction l₁ generalizing l₂ with
  | nil => constructor <;> (intro h; cases h; exact .nil)
  | cons a l ih =>
    constructor
    · intro h; cases h with | cons h1 h2 => exact .cons ((f _ _).mp h1) (ih.mp h2)
    · intro h; cases h with | cons h1 h2 => exact .cons ((f _ _).mpr h1) (ih.mpr h2)
theorem Nd.shal {K : PySem.W.Frag} {a : Addr} {t : Tr} : Nd K pl κ H a t.shal ↔ Nd K pl κ H a t := by
  have e1 : ∀ {xs vs}, Paired (Sl pl κ H) (xs.map Tr.stub) vs ↔ Paired (Sl pl κ H) xs vs := Paired.maps _ fun _ _ => Sl.stub
  have e2 : ∀ {cs : List (Ky × Tr)} {kvs}, PdK pl κ H (cs.map fun p => (p.1, p.2.stub)) kvs ↔ PdK pl κ H cs kvs := Paired.maps _ fun _ _ => by simp only [Sl.stub]
  have e3 : ∀ {cs : List (Ky × Tr)} {kvs}, PdT pl κ H (cs.map fun p => (p.1, p.2.stub)) kvs ↔ PdT pl κ H cs kvs := Paired.maps _ fun _ _ => by simp only [Sl.stub]
  have e4 : ∀ {cs : List (Ky × Tr)} {kvs}, PdF pl κ H (cs.map fun p => (p.1, p.2.stub)) kvs ↔ PdF pl κ H cs kvs := Paired.maps _ fun _ _ => by simp only [Sl.stub]
  cases t with
  | lf v => exact Iff.rfl
  | lst i l xs => cases l <;> simp only [Tr.shal, Nd, e1]
  | nd i l h cs =>
    have e0 : (cs.map fun p => (p.1, p.2.stub)).map (·.1) = cs.map (·.1) := by rw [List.map_map]; rfl
    cases h <;> cases l <;> simp only [Tr.shal, Nd, e2, e3, e4, e0]
theorem NdAt.shal {K : PySem.W.Frag} {t : Tr} : NdAt K pl κ H t.shal ↔ NdAt K pl κ H t := by unfold NdAt; simp only [shal_id, Nd.shal]
/-- a node stays a node where its own address is kept -/
theorem Nd.mono {K : PySem.W.Frag} {a : Addr} {t : Tr} (u : Up κ H κ' H') (k : t.free = true → ∀ o, H a = some o → H' a = some o) (kf : ∀ o w, H a = some (.frz o w) → H' a = some (.frz o w)) (h : Nd K pl κ H a t) : Nd K pl κ' H' a t := by
  have m : ∀ {t x}, Sl pl κ H t x → Sl pl κ' H' t x := fun h => h.mono u
  cases t with
  | lf v => exact h
  | lst i l xs =>
    cases l with
    | false => obtain ⟨vs, e, p⟩ := h; exact ⟨vs, k rfl _ e, Paired.mapP p fun _ _ => m⟩
    | true =>
      obtain ⟨vs, e, p⟩ := h
      refine ⟨vs, ?_, Paired.mapP p fun _ _ => m⟩
      rcases e with ⟨o, e⟩ | e
      · exact .inl ⟨o, kf _ _ e⟩
      · exact .inr e
  | nd i l hd cs =>
    cases hd with
    | none =>
      cases l with
      | false =>
        obtain ⟨nd, h⟩ := h
        refine ⟨nd, ?_⟩
        rcases h with ⟨kvs, e, p⟩ | ⟨kvs, e, p⟩
        · exact .inl ⟨kvs, k rfl _ e, Paired.mapP p fun _ _ q => ⟨q.1, m q.2⟩⟩
        · exact .inr ⟨kvs, k rfl _ e, Paired.mapP p fun _ _ q => ⟨q.1, m q.2⟩⟩
      | true =>
        obtain ⟨nd, o, h⟩ := h
        refine ⟨nd, o, ?_⟩
        rcases h with ⟨kvs, e, p⟩ | ⟨kvs, e, p⟩
        · exact .inl ⟨kvs, kf _ _ e, Paired.mapP p fun _ _ q => ⟨q.1, m q.2⟩⟩
        · exact .inr ⟨kvs, kf _ _ e, Paired.mapP p fun _ _ q => ⟨q.1, m q.2⟩⟩
    | some c =>
      cases l <;> (obtain ⟨hl, dx, fs, e, p⟩ := h)
      · exact ⟨hl, dx, fs, k rfl _ e, Paired.mapP p fun _ _ q => ⟨q.1, m q.2⟩⟩
      · cases hl
/-- no value stands at an unlocked node's address -/
theorem Nd.notVal {K : PySem.W.Frag} {a : Addr} {t : Tr} (h : Nd K pl κ H a t) (hf : t.free = true) : ∃ o, H a = some o ∧ ¬ isVal o ∧ Mut (some o) := by
  cases t with
  | lf v => cases hf
  | lst i l xs => cases l <;> simp [Tr.free] at hf; obtain ⟨vs, e, p⟩ := h; exact ⟨_, e, id, trivial⟩
  | nd i l hd cs =>
    cases l <;> simp [Tr.free] at hf
    cases hd with
    | none => rcases h with ⟨_, ⟨kvs, e, p⟩ | ⟨kvs, e, p⟩⟩ <;> exact ⟨_, e, id, trivial⟩
    | some c => obtain ⟨hl, dx, fs, e, p⟩ := h; exact ⟨_, e, id, trivial⟩
end
end AM
namespace AM
open PySem L2

def Base (T : Tw) : Prop := ∃ t, T.root 0 = some t ∧ t.isNode = true ∧ t.id = 0
theorem Base.put {T : Tw} (b : Base T) {ρ : Rf} {t n : Tr} (h : T.at ρ = some t) (hn : n.isNode = true) (e : n.id = ρ.id) : Base (T.put ρ n) := by
  obtain ⟨u, h1, h2, h3⟩ := b
  obtain ⟨r0, g1, g2, g3, g4⟩ := at_some.mp h
  unfold Tw.put
  rw [g1]
  by_cases z : ρ.root = 0
  · rw [z, h1] at g1; cases g1
    obtain ⟨q1, q2⟩ := put_node g2 g3 hn (e.trans g4.symm)
    refine ⟨Tr.put ρ.path n u, ?_, q1.trans h2, q2.trans h3⟩
    have hl : 0 < T.roots.length := by
      unfold Tw.root at h1
      cases q : T.roots with
      | nil => rw [q] at h1; cases h1
      | cons a r => simp
    unfold Tw.root; simp [z, hl]
  · refine ⟨u, ?_, h2, h3⟩
    unfold Tw.root at h1 ⊢
    simpa [List.getElem?_set_ne (by omega : ρ.root ≠ 0)] using h1
theorem Base.new {T : Tw} (b : Base T) {t : Tr} : Base (T.new t) := by
  obtain ⟨u, h1, h2, h3⟩ := b
  refine ⟨u, ?_, h2, h3⟩
  unfold Tw.root at h1 ⊢
  unfold Tw.new
  cases q : T.roots with
  | nil => rw [q] at h1; cases h1
  | cons a r => rw [q] at h1; simpa using h1
theorem Base.take {T : Tw} (b : Base T) {m : Nat} (hm : 0 < m) : Base (T.take m) := by
  obtain ⟨u, h1, h2, h3⟩ := b
  refine ⟨u, ?_, h2, h3⟩
  unfold Tw.root at h1 ⊢
  unfold Tw.take
  simp only [List.getElem?_take, if_pos hm]
  exact h1
theorem Base.len {T : Tw} (b : Base T) : 0 < T.roots.length := by
  obtain ⟨u, h1, h2, h3⟩ := b
  unfold Tw.root at h1
  cases q : T.roots with
  | nil => rw [q] at h1; cases h1
  | cons a r => simp
/-- the world of trees in the abstract heap -/
structure RT (K : PySem.W.Frag) (pl : Pl) (κ : Ka) (H : Hp) (T : Tw) : Prop where
  nd : ∀ t ∈ T.shs, NdAt K pl κ H t
  one : ∀ i, cnt i T.shs ≤ 1
  lt : ∀ i a, κ i = some a → i < T.next
  inj : ∀ i j a, i ≠ 0 → j ≠ 0 → κ i = some a → κ j = some a → i = j
  dom : ∀ i a, i ≠ 0 → κ i = some a → ∃ o, H a = some o
  pos : 0 < T.next
  zero : ∀ t ∈ T.shs, t.id = 0 → t.free = false
  base : Base T
/-- from one world to a later one -/
structure Ext (κ : Ka) (H : Hp) (T : Tw) (κ' : Ka) (H' : Hp) (T' : Tw) : Prop where
  up : Up κ H κ' H'
  keep : ∀ b o, H b = some o → (∀ i, 0 < cnt i T.shs → i ≠ 0 → κ i ≠ some b) → H' b = some o
  dom : ∀ b o, H b = some o → ∃ o', H' b = some o'
  new : ∀ i b, κ i = none → κ' i = some b → H b = none
  ids : ∀ i, 0 < cnt i T'.shs → 0 < cnt i T.shs ∨ κ i = none
/-- trees that hang nowhere -/
structure Det (K : PySem.W.Frag) (pl : Pl) (κ : Ka) (H : Hp) (T : Tw) (D : List Tr) : Prop where
  nd : ∀ t ∈ D, NdAt K pl κ H t
  one : ∀ i, cnt i D + cnt i T.shs ≤ 1
  free : ∀ t ∈ D, t.id ≠ 0
/-- they are new, or come from where one began -/
def Nw (κ : Ka) (T : Tw) (D : List Tr) : Prop := ∀ i, 0 < cnt i D → 0 < cnt i T.shs ∨ κ i = none
section
variable {K : PySem.W.Frag} {pl : Pl} {κ κ1 κ2 κ' : Ka} {H H1 H2 H' : Hp} {T T1 T2 T' : Tw} {D D' : List Tr}
theorem NdAt.id_lt (r : RT K pl κ H T) {t : Tr} (h : NdAt K pl κ H t) : t.id < T.next := by obtain ⟨a, e, _⟩ := h; exact r.lt _ _ e
theorem RT.mapped (r : RT K pl κ H T) {i : Nat} (h : 0 < cnt i T.shs) : ∃ a, κ i = some a := by
  obtain ⟨t, ht, rfl⟩ := of_cnt_pos h
  obtain ⟨a, e, _⟩ := r.nd t ht
  exact ⟨a, e⟩
theorem Ext.refl : Ext κ H T κ H T := ⟨Up.refl, fun _ _ h _ => h, fun _ o h => ⟨o, h⟩, fun _ _ h h' => (by rw [h] at h'; cases h'), fun _ h => .inl h⟩
theorem Ext.trans (r : RT K pl κ H T) (a : Ext κ H T κ1 H1 T1) (b : Ext κ1 H1 T1 κ2 H2 T2) : Ext κ H T κ2 H2 T2 where
  up := a.up.trans b.up
  keep := fun c o h k => b.keep c o (a.keep c o h k) fun i hi h0 e => by
    cases e2 : κ i with
    | none =>
      have := a.new i c e2 e
      rw [h] at this; cases this
    | some x =>
      have q := a.up.ka i x e2
      rw [e] at q; cases q
      rcases a.ids i hi with z | z
      · exact k i z h0 e2
      · rw [e2] at z; cases z
  dom := fun c o h => by
    obtain ⟨o', h'⟩ := a.dom c o h
    exact b.dom c o' h'
  new := fun i c h h' => by
    cases e : κ1 i with
    | none =>
      have q := b.new i c e h'
      cases e2 : H c with
      | none => rfl
      | some o =>
        obtain ⟨o', z⟩ := a.dom c o e2
        rw [q] at z; cases z
    | some x =>
      have q := b.up.ka i x e
      rw [h'] at q; cases q
      exact a.new i c h e
  ids := fun i h => by
    rcases b.ids i h with z | z
    · exact a.ids i z
    · right
      cases e : κ i with
      | none => rfl
      | some x => rw [a.up.ka i x e] at z; cases z
theorem Nw.mono (e : Ext κ H T κ1 H1 T1) (h : Nw κ1 T1 D) : Nw κ T D := fun i hi => by
  rcases h i hi with z | z
  · exact e.ids i z
  · right
    cases q : κ i with
    | none => rfl
    | some x => rw [e.up.ka i x q] at z; cases z
theorem Det.nil : Det K pl κ H T [] ↔ ∀ i, cnt i T.shs ≤ 1 := ⟨fun h i => by simpa using h.one i, fun h => ⟨fun _ z => absurd z (by simp), fun i => by simpa using h i, fun _ z => absurd z (by simp)⟩⟩
theorem RT.det0 (r : RT K pl κ H T) : Det K pl κ H T [] := Det.nil.mpr r.one
/-- trees that hang nowhere are left alone -/
theorem Det.mono (r : RT K pl κ H T) (r1 : RT K pl κ1 H1 T1) (d : Det K pl κ H T D) (e : Ext κ H T κ1 H1 T1) : Det K pl κ1 H1 T1 D where
  nd := fun t ht => by
    obtain ⟨a, ka, q⟩ := d.nd t ht
    have h0 := d.free t ht
    have kp : ∀ o, H a = some o → H1 a = some o := fun o ho => e.keep a o ho fun i hi h0' ki => by
      have := r.inj i t.id a h0' h0 ki ka
      subst this
      have q := d.one t.id
      have := cnt_pos ht rfl
      omega
    exact ⟨a, e.up.ka _ _ ka, q.mono e.up (fun _ => kp) fun o w => kp _⟩
  one := fun i => by
    have q := d.one i
    by_cases hD : 0 < cnt i D
    · obtain ⟨t, ht, rfl⟩ := of_cnt_pos hD
      obtain ⟨a, ka, _⟩ := d.nd t ht
      have : ¬ 0 < cnt t.id T1.shs := fun z => by
        rcases e.ids _ z with z | z
        · omega
        · rw [ka] at z; cases z
      omega
    · have := r1.one i
      omega
  free := d.free
/-- two lots of such trees, the second one made later -/
theorem Det.app (d : Det K pl κ H T D) (d' : Det K pl κ H T D') (n : ∀ i, 0 < cnt i D → cnt i D' = 0) : Det K pl κ H T (D ++ D') where
  nd := fun t ht => (List.mem_append.mp ht).elim (d.nd t) (d'.nd t)
  one := fun i => by
    have q1 := d.one i; have q2 := d'.one i
    simp only [cnt_app]
    by_cases h : 0 < cnt i D
    · have := n i h; omega
    · omega
  free := fun t ht => (List.mem_append.mp ht).elim (d.free t) (d'.free t)
theorem Det.apart (d : Det K pl κ H T D) (n : Nw κ T D') : ∀ i, 0 < cnt i D → cnt i D' = 0 := fun i h => by
  have q := d.one i
  by_cases hD : 0 < cnt i D'
  · obtain ⟨t, ht, rfl⟩ := of_cnt_pos h
    obtain ⟨a, ka, _⟩ := d.nd t ht
    rcases n _ hD with z | z
    · omega
    · rw [ka] at z; cases z
  · omega
theorem Det.left (d : Det K pl κ H T (D ++ D')) : Det K pl κ H T D := ⟨fun t h => d.nd t (List.mem_append_left _ h), fun i => by have := d.one i; simp at this; omega, fun t h => d.free t (List.mem_append_left _ h)⟩
theorem Det.right (d : Det K pl κ H T (D ++ D')) : Det K pl κ H T D' := ⟨fun t h => d.nd t (List.mem_append_right _ h), fun i => by have := d.one i; simp at this; omega, fun t h => d.free t (List.mem_append_right _ h)⟩

def kids (t : Tr) : List Tr := t.shs.tail
theorem shs_kids {t : Tr} (h : t.isNode = true) : t.shs = t.shal :: kids t := by
  obtain ⟨k, e⟩ := shs_node h
  unfold kids; rw [e]; rfl
theorem free_shal {t : Tr} : t.shal.free = t.free := by cases t <;> rfl
theorem isNode_free {t : Tr} (h : t.free = true) : t.isNode = true := by cases t <;> first | rfl | cases h
/-- THE WRITE: the node at ρ becomes n, its object another one; what n owns was owned before, or hung nowhere -/
theorem RT.write (r : RT K pl κ H T) {ρ : Rf} {t n : Tr} {a : Addr} {ho : HO} (h : T.at ρ = some t) (hf : t.free = true) (nf : n.free = true) (ni : n.id = t.id) (ka : κ t.id = some a) (d : Det K pl κ H T D)
    (sub : ∀ s ∈ kids n, s ∈ kids t ∨ s ∈ D) (c : ∀ i, cnt i (kids n) ≤ cnt i (kids t) + cnt i D) (hv : ¬ isVal ho) (new : Nd K pl κ (upd H a ho) a n) :
    RT K pl κ (upd H a ho) (T.put ρ n) ∧ Ext κ H T κ (upd H a ho) T ∧ ∀ i, 0 < cnt i (T.put ρ n).shs → 0 < cnt i T.shs ∨ 0 < cnt i D := by
  obtain ⟨r0, h1, h2, h3, h4⟩ := at_some.mp h
  have hn := isNode_free nf
  obtain ⟨A, B, e1, e2⟩ := Tw.shs_put (n := n) h hn (ni.trans h4)
  rw [shs_kids h3] at e1
  rw [shs_kids hn] at e2
  have tm : t.shal ∈ T.shs := by rw [e1]; simp
  have t0 : t.id ≠ 0 := fun z => by
    have := r.zero _ tm (by rw [shal_id]; exact z)
    rw [free_shal, hf] at this; cases this
  have np : 0 < cnt t.id T.shs := cnt_pos tm shal_id
  obtain ⟨a', ka', na⟩ := r.nd _ tm
  rw [shal_id, ka] at ka'; cases ka'
  rw [Nd.shal] at na
  obtain ⟨o, hao, onv, omu⟩ := na.notVal hf
  have up : Up κ H κ (upd H a ho) := ⟨fun _ _ h => h, fun b u hb hu => by
    rw [upd_ne]; exact hb
    rintro rfl
    rw [hao] at hb; cases hb; exact onv hu⟩
  have cT : ∀ i, cnt i T.shs = cnt i A + ((if t.id = i then 1 else 0) + cnt i (kids t)) + cnt i B := fun i => by rw [e1]; simp [shal_id]; omega
  have cN : ∀ i, cnt i (T.put ρ n).shs = cnt i A + ((if t.id = i then 1 else 0) + cnt i (kids n)) + cnt i B := fun i => by rw [e2]; simp [shal_id, ni]; omega
  -- another node, at another address
  have other : ∀ s, NdAt K pl κ H s → (s.free = true → s.id ≠ 0) → s.id ≠ t.id → NdAt K pl κ (upd H a ho) s := fun s ⟨b, kb, q⟩ s0 hs => by
    refine ⟨b, kb, q.mono up (fun sf u hb => ?_) fun u w hb => ?_⟩
    · rw [upd_ne]; exact hb
      rintro rfl
      exact hs (r.inj _ _ _ (s0 sf) t0 kb ka)
    · rw [upd_ne]; exact hb
      rintro rfl
      rw [hao] at hb; cases hb; exact omu
  refine ⟨⟨fun s hs => ?_, fun i => ?_, fun i b hb => by rw [next_put]; exact r.lt i b hb, r.inj, fun i b h0 hb => ?_, by rw [next_put]; exact r.pos, fun s hs hs0 => ?_, r.base.put h (isNode_free nf) (ni.trans h4)⟩, ⟨up, fun b u hb hk => ?_, fun b u hb => ?_, fun i b hi hi' => (by rw [hi] at hi'; cases hi'), fun i hi => .inl hi⟩, fun i hi => ?_⟩
  · rw [e2] at hs
    have old : ∀ s, s ∈ A ∨ s ∈ kids t ∨ s ∈ B → NdAt K pl κ (upd H a ho) s := fun s hs => by
      have hm : s ∈ T.shs := by rw [e1]; simp; rcases hs with z | z | z <;> simp [z]
      refine other s (r.nd s hm) (fun sf z => by have := r.zero s hm z; rw [sf] at this; cases this) fun z => ?_
      have q := r.one t.id
      rw [cT] at q
      rcases hs with y | y | y <;> (have := cnt_pos y z; simp at q; omega)
    simp at hs
    rcases hs with z | z | z | z
    · exact old s (.inl z)
    · subst z
      exact ⟨a, by rw [shal_id, ni]; exact ka, Nd.shal.mpr new⟩
    · rcases sub s z with y | y
      · exact old s (.inr (.inl y))
      · refine other s (d.nd s y) (fun _ => d.free s y) fun z' => ?_
        have := d.one t.id
        have := cnt_pos y z'
        omega
    · exact old s (.inr (.inr z))
  · have q := r.one i; have q2 := d.one i; have q3 := c i
    rw [cN]; rw [cT] at q q2; omega
  · obtain ⟨u, hu⟩ := r.dom i b h0 hb
    by_cases e : b = a
    · subst e; exact ⟨ho, upd_same⟩
    · exact ⟨u, by rw [upd_ne e]; exact hu⟩
  · rw [e2] at hs
    have old : ∀ s, s ∈ A ∨ s ∈ kids t ∨ s ∈ B → s.id = 0 → s.free = false := fun s hs z => r.zero s (by rw [e1]; simp; rcases hs with z | z | z <;> simp [z]) z
    simp at hs
    rcases hs with z | z | z | z
    · exact old s (.inl z) hs0
    · subst z; rw [shal_id, ni] at hs0; exact absurd hs0 t0
    · rcases sub s z with y | y
      · exact old s (.inr (.inl y)) hs0
      · exact absurd hs0 (d.free s y)
    · exact old s (.inr (.inr z)) hs0
  · rw [upd_ne]; exact hb
    rintro rfl
    exact hk t.id np t0 ka
  · by_cases e : b = a
    · subst e; exact ⟨ho, upd_same⟩
    · exact ⟨u, by rw [upd_ne e]; exact hb⟩
  · rw [cN] at hi; rw [cT]
    have q3 := c i
    omega
/-- A NEW NODE that hangs nowhere; what it owns hung nowhere -/
def kup (κ : Ka) (i : Nat) (p : Addr) : Ka := fun j => if j = i then some p else κ j
theorem RT.alloc (r : RT K pl κ H T) {n : Tr} {p : Addr} {ho : HO} (hp : H p = none) (nf : n.free = true) (ni : n.id = T.next) (d : Det K pl κ H T D) (sub : ∀ s ∈ kids n, s ∈ D) (c : ∀ i, cnt i (kids n) ≤ cnt i D)
    (new : Nd K pl (kup κ T.next p) (upd H p ho) p n) :
    RT K pl (kup κ T.next p) (upd H p ho) (T.adv 1) ∧ Ext κ H T (kup κ T.next p) (upd H p ho) (T.adv 1) ∧ Det K pl (kup κ T.next p) (upd H p ho) (T.adv 1) n.shs ∧ ∀ i, 0 < cnt i n.shs → κ i = none ∨ 0 < cnt i D := by
  have hn := isNode_free nf
  have kn : κ T.next = none := by
    cases e : κ T.next with
    | none => rfl
    | some a => exact absurd (r.lt _ _ e) (by omega)
  have up : Up κ H (kup κ T.next p) (upd H p ho) := ⟨fun i a h => (by unfold kup; rw [if_neg]; exact h; rintro rfl; rw [kn] at h; cases h), fun b o h _ => by rw [upd_ne (ne_of_none h hp)]; exact h⟩
  have kp : ∀ b o, H b = some o → upd H p ho b = some o := fun b o h => by rw [upd_ne (ne_of_none h hp)]; exact h
  have st : ∀ s, NdAt K pl κ H s → NdAt K pl (kup κ T.next p) (upd H p ho) s := fun s ⟨b, kb, q⟩ => ⟨b, up.ka _ _ kb, q.mono up (fun _ => kp b) fun _ _ => kp b _⟩
  have sh : (T.adv 1).shs = T.shs := rfl
  have dn : ∀ i, 0 < cnt i T.shs ∨ 0 < cnt i D → i ≠ T.next := fun i h e => by
    subst e
    have : ∃ a, κ T.next = some a := by
      rcases h with h | h
      · exact r.mapped h
      · obtain ⟨t, ht, z⟩ := of_cnt_pos h
        obtain ⟨a, ka, _⟩ := d.nd t ht
        exact ⟨a, z ▸ ka⟩
    obtain ⟨a, ka⟩ := this
    rw [kn] at ka; cases ka
  refine ⟨⟨fun t ht => st t (r.nd t ht), r.one, fun i a h => ?_, fun i j a hi hj h1 h2 => ?_, fun i a hi h => ?_, by rw [next_adv]; omega, r.zero, r.base⟩, ⟨up, fun b o h _ => kp b o h, fun b o h => ⟨o, kp b o h⟩, fun i b h h' => ?_, fun i h => .inl h⟩, ⟨fun s hs => ?_, fun i => ?_, fun s hs => ?_⟩, fun i hi => ?_⟩
  · unfold kup at h; rw [next_adv]
    split at h
    · omega
    · have := r.lt i a h; omega
  · unfold kup at h1 h2
    split at h1 <;> split at h2
    · omega
    · cases h1
      obtain ⟨o, ho⟩ := r.dom j _ hj h2
      rw [hp] at ho; cases ho
    · cases h2
      obtain ⟨o, ho⟩ := r.dom i _ hi h1
      rw [hp] at ho; cases ho
    · exact r.inj i j a hi hj h1 h2
  · unfold kup at h
    split at h
    · cases h; exact ⟨ho, upd_same⟩
    · obtain ⟨o, ho⟩ := r.dom i a hi h
      exact ⟨o, kp _ _ ho⟩
  · unfold kup at h'
    split at h'
    · cases h'; exact hp
    · rw [h] at h'; cases h'
  · rw [shs_kids hn] at hs
    rcases List.mem_cons.mp hs with z | z
    · subst z; exact ⟨p, by rw [shal_id, ni]; unfold kup; rw [if_pos rfl], Nd.shal.mpr new⟩
    · exact st s (d.nd s (sub s z))
  · rw [shs_kids hn, sh]
    simp only [cnt_cons, shal_id, ni]
    have q := d.one i; have q2 := c i
    by_cases e : T.next = i
    · have := dn i
      have h1 : cnt i T.shs = 0 := by
        cases z : cnt i T.shs with
        | zero => rfl
        | succ m => exact absurd e.symm (dn i (.inl (by omega)))
      have h2 : cnt i D = 0 := by
        cases z : cnt i D with
        | zero => rfl
        | succ m => exact absurd e.symm (dn i (.inr (by omega)))
      simp [e]; omega
    · simp [e]; omega
  · rw [shs_kids hn] at hs
    rcases List.mem_cons.mp hs with z | z
    · subst z; exact by rw [shal_id, ni]; have := r.pos; omega
    · exact d.free s (sub s z)
  · rw [shs_kids hn] at hi
    simp only [cnt_cons, shal_id, ni] at hi
    by_cases e : T.next = i
    · subst e; exact .inl kn
    · have := c i
      simp [e] at hi
      exact .inr (by omega)
/-- a tree that hung nowhere becomes a root -/
theorem RT.attach (r : RT K pl κ H T) {t : Tr} (d : Det K pl κ H T t.shs) (n : Nw κ T t.shs) : RT K pl κ H (T.new t) ∧ Ext κ H T κ H (T.new t) := by
  have e : (T.new t).shs = T.shs ++ t.shs := by simp [Tw.shs, Tw.new, shsR]
  refine ⟨⟨fun s hs => ?_, fun i => ?_, r.lt, r.inj, r.dom, r.pos, fun s hs h0 => ?_, Base.new r.base⟩, ⟨Up.refl, fun _ _ h _ => h, fun _ o h => ⟨o, h⟩, fun _ _ h h' => (by rw [h] at h'; cases h'), fun i h => ?_⟩⟩
  · rw [e] at hs
    exact (List.mem_append.mp hs).elim (r.nd s) (d.nd s)
  · rw [e]; have := d.one i; simp; omega
  · rw [e] at hs
    rcases List.mem_append.mp hs with z | z
    · exact r.zero s z h0
    · exact absurd h0 (d.free s z)
  · rw [e] at h; simp at h
    rcases (show 0 < cnt i T.shs ∨ 0 < cnt i t.shs by omega) with z | z
    · exact .inl z
    · exact n i z
theorem shsR_take (l : List (Option Tr)) (m : Nat) : ∃ B, shsR l = shsR (l.take m) ++ B := ⟨shsR (l.drop m), by rw [← shsR_append, List.take_append_drop]⟩
theorem take_shs (T : Tw) (m : Nat) : ∃ B, T.shs = (T.take m).shs ++ B := shsR_take _ _
/-- roots are dropped -/
theorem RT.cut (r : RT K pl κ H T) (m : Nat) (hm : 0 < m) : RT K pl κ H (T.take m) ∧ Ext κ H T κ H (T.take m) := by
  obtain ⟨B, e⟩ := take_shs T m
  have sub : ∀ s ∈ (T.take m).shs, s ∈ T.shs := fun s hs => by rw [e]; exact List.mem_append_left _ hs
  have le : ∀ i, cnt i (T.take m).shs ≤ cnt i T.shs := fun i => by rw [e]; simp
  exact ⟨⟨fun s hs => r.nd s (sub s hs), fun i => Nat.le_trans (le i) (r.one i), r.lt, r.inj, r.dom, r.pos, fun s hs => r.zero s (sub s hs), Base.take r.base hm⟩,
    ⟨Up.refl, fun _ _ h _ => h, fun _ o h => ⟨o, h⟩, fun _ _ h h' => (by rw [h] at h'; cases h'), fun i h => .inl (Nat.lt_of_lt_of_le h (le i))⟩⟩
/-- a root is dropped, its tree is kept at hand -/
theorem RT.cutTree (r : RT K pl κ H T) {m i : Nat} {t : Tr} (hm : 0 < m) (hi : m ≤ i) (ht : T.root i = some t) : Det K pl κ H (T.take m) t.shs ∧ ∀ j, 0 < cnt j t.shs → 0 < cnt j T.shs := by
  have e0 : T.roots[i]? = some (some t) := by
    unfold Tw.root at ht
    cases q : T.roots[i]? with
    | none => rw [q] at ht; cases ht
    | some o => rw [q] at ht; simp at ht; rw [ht]
  have e1 : T.roots = T.roots.take i ++ (some t :: T.roots.drop (i + 1)) := by
    have hl : i < T.roots.length := by
      rcases Nat.lt_or_ge i T.roots.length with h | h
      · exact h
      · rw [List.getElem?_eq_none h] at e0; cases e0
    have h2 := List.getElem?_eq_getElem hl
    rw [e0] at h2
    have h3 : T.roots[i] = some t := (Option.some.inj h2).symm
    calc T.roots = T.roots.take i ++ T.roots.drop i := (List.take_append_drop _ _).symm
      _ = _ := by rw [List.drop_eq_getElem_cons hl, h3]
  obtain ⟨B, hB⟩ : ∃ B, shsR (T.roots.take i) = (T.take m).shs ++ B := by
    refine ⟨shsR ((T.roots.take i).drop m), ?_⟩
    unfold Tw.shs Tw.take
    rw [← shsR_append]
    congr 1
    calc T.roots.take i = (T.roots.take i).take m ++ (T.roots.take i).drop m := (List.take_append_drop _ _).symm
      _ = _ := by rw [List.take_take, Nat.min_eq_left hi]
  have e : T.shs = ((T.take m).shs ++ B) ++ (t.shs ++ shsR (T.roots.drop (i + 1))) := by
    refine (congrArg shsR e1).trans ?_
    rw [shsR_append, hB]
    rfl
  have c : ∀ j, cnt j T.shs = cnt j (T.take m).shs + cnt j B + (cnt j t.shs + cnt j (shsR (T.roots.drop (i + 1)))) := fun j => by rw [e]; simp; omega
  refine ⟨⟨fun s hs => r.nd s (by rw [e]; simp [hs]), fun j => by have := r.one j; rw [c] at this; omega, fun s hs h0 => ?_⟩, fun j hj => by rw [c]; omega⟩
  obtain ⟨u, b1, b2, b3⟩ := Base.take r.base hm
  have hu : 0 < cnt 0 (T.take m).shs := by
    refine cnt_pos (t := u.shal) ?_ (by rw [shal_id]; exact b3)
    obtain ⟨k, hk⟩ := shs_node b2
    unfold Tw.root at b1
    show u.shal ∈ shsR (T.take m).roots
    cases q : (T.take m).roots with
    | nil => rw [q] at b1; cases b1
    | cons a l => rw [q] at b1; simp at b1; subst b1; simp [shsR, hk]
  have := r.one 0
  rw [c] at this
  have := cnt_pos hs h0
  omega
end
end AM
namespace AM
open PySem L2

def Sv.shs : Sv → List Tr
  | .va _ => [] | .tr t => t.shs
/-- what an expression gives -/
def RS (pl : Pl) (κ : Ka) (H : Hp) (s : Sv) (x : V) : Prop := match s with
  | .va v => RV pl κ H v x
  | .tr t => t.free = true ∧ Sl pl κ H t x
def shsS : List Sv → List Tr
  | [] => []
  | s :: r => s.shs ++ shsS r
def RSs (pl : Pl) (κ : Ka) (H : Hp) : List Sv → List V → Prop := Paired (RS pl κ H)
section
variable {K : PySem.W.Frag} {pl : Pl} {κ κ1 κ2 κ' κ0 : Ka} {H H1 H2 H' H0 : Hp} {T T1 T2 T' T0 : Tw} {D D' : List Tr} {W : WX} {σ : St}
theorem RS.mono (u : Up κ H κ' H') {s : Sv} {x : V} (h : RS pl κ H s x) : RS pl κ' H' s x := by
  cases s with
  | va v => exact RV.mono u h
  | tr t => exact ⟨h.1, h.2.mono u⟩
theorem RS.slot {s : Sv} {x : V} (h : RS pl κ H s x) : Sl pl κ H s.slot x := by
  cases s with
  | va v => exact h
  | tr t => exact h.2
theorem slot_shs (s : Sv) : s.slot.shs = s.shs := by cases s <;> simp [Sv.slot, Sv.shs, shs_lf]

/-- what is wanted, by what the machine does: ok: of every heap that fits; an error: of the wish -/
def Run {α β : Type} (K : PySem.W.Frag) (pl : Pl) (W : WX) (sh : α → List Tr) (rel : Ka → Hp → α → β → Prop) (r : Res α) (κ : Ka) (H : Hp) (T : Tw) (σ : St) (Q : β → Hp → Prop) : Prop := match r with
  | .ok a T' => ∀ y H' κ', Ext κ H T κ' H' T' → RT K pl κ' H' T' → Det K pl κ' H' T' (sh a) → Nw κ T (sh a) → rel κ' H' a y → Q y H'
  | .ex c T' => ∀ H' κ', Ext κ H T κ' H' T' → RT K pl κ' H' T' → W (.ref (pl.exc c)) none σ H'
  | .bad => False
abbrev RunS (K : PySem.W.Frag) (pl : Pl) (W : WX) := Run (α := Sv) (β := V) K pl W Sv.shs (RS pl)
abbrev RunL (K : PySem.W.Frag) (pl : Pl) (W : WX) := Run (α := List Sv) (β := List V) K pl W shsS (RSs pl)
abbrev RunB (K : PySem.W.Frag) (pl : Pl) (W : WX) := Run (α := Bool) (β := Bool) K pl W (fun _ => []) (fun _ _ a b => a = b)
section
variable {α β γ δ : Type} {sh : α → List Tr} {rel : Ka → Hp → α → β → Prop} {sh' : γ → List Tr} {rel' : Ka → Hp → γ → δ → Prop}
theorem Run.imp {r : Res α} {Q Q' : β → Hp → Prop} (h : Run K pl W sh rel r κ H T σ Q) (f : ∀ y H', Q y H' → Q' y H') : Run K pl W sh rel r κ H T σ Q' := by
  cases r with
  | ok a T' => exact fun y H' κ' e r d n q => f _ _ (h y H' κ' e r d n q)
  | ex c T' => exact h
  | bad => exact h
/-- step by step -/
theorem Run.bind {r : Res α} {f : α → Tw → Res γ} {Q : δ → Hp → Prop} (r0 : RT K pl κ H T) (e : Ext κ H T κ1 H1 T1) (h : Run K pl W sh' rel' (r.bind f) κ H T σ Q) :
    Run K pl W sh rel r κ1 H1 T1 σ fun y H2 => ∃ κ2 a T2, Ext κ1 H1 T1 κ2 H2 T2 ∧ RT K pl κ2 H2 T2 ∧ Det K pl κ2 H2 T2 (sh a) ∧ Nw κ1 T1 (sh a) ∧ rel κ2 H2 a y ∧ Run K pl W sh' rel' (f a T2) κ H T σ Q := by
  cases r with
  | ok a T' => exact fun y H' κ' e' r' d n q => ⟨κ', a, T', e', r', d, n, q, h⟩
  | ex c T' => exact fun H' κ' e' r' => h H' κ' (e.trans r0 e') r'
  | bad => exact h
theorem Run.later {r : Res α} {Q : β → Hp → Prop} (r0 : RT K pl κ H T) (e : Ext κ H T κ1 H1 T1) (h : Run K pl W sh rel r κ H T σ Q) : Run K pl W sh rel r κ1 H1 T1 σ Q := by
  cases r with
  | ok a T' => exact fun y H' κ' e' r' d n q => h y H' κ' (e.trans r0 e') r' d (n.mono e) q
  | ex c T' => exact fun H' κ' e' r' => h H' κ' (e.trans r0 e') r'
  | bad => exact h
end
/-- THE POINT: where one began, where one is, and the trees at hand -/
structure Pt (K : PySem.W.Frag) (pl : Pl) (κ0 : Ka) (H0 : Hp) (T0 : Tw) (κ : Ka) (H : Hp) (T : Tw) (D : List Tr) : Prop where
  r0 : RT K pl κ0 H0 T0
  e : Ext κ0 H0 T0 κ H T
  r : RT K pl κ H T
  d : Det K pl κ H T D
  n : Nw κ0 T0 D
theorem Pt.start (r : RT K pl κ H T) : Pt K pl κ H T κ H T [] := ⟨r, Ext.refl, r, r.det0, fun _ h => absurd h (by simp)⟩
/-- one more expression was evaluated -/
theorem Pt.step (p : Pt K pl κ0 H0 T0 κ H T D) (e : Ext κ H T κ1 H1 T1) (r : RT K pl κ1 H1 T1) (d : Det K pl κ1 H1 T1 D') (n : Nw κ T D') : Pt K pl κ0 H0 T0 κ1 H1 T1 (D ++ D') :=
  ⟨p.r0, p.e.trans p.r0 e, r, (p.d.mono p.r r e).app d fun i hi => by
    have q := p.d.one i
    by_cases hD : 0 < cnt i D'
    · obtain ⟨t, ht, rfl⟩ := of_cnt_pos hi
      obtain ⟨a, ka, _⟩ := p.d.nd t ht
      rcases n _ hD with z | z
      · omega
      · rw [ka] at z; cases z
    · omega, fun i hi => by
      simp at hi
      rcases (show 0 < cnt i D ∨ 0 < cnt i D' by omega) with z | z
      · exact p.n i z
      · exact (Nw.mono p.e n) i z⟩
theorem Pt.drop (p : Pt K pl κ0 H0 T0 κ H T D) : Pt K pl κ0 H0 T0 κ H T [] := ⟨p.r0, p.e, p.r, p.r.det0, fun _ h => absurd h (by simp)⟩
/-- F1: a value, nothing changed -/
theorem Pt.val (p : Pt K pl κ0 H0 T0 κ H T D) {v : Va} {y : V} {Q : VK} (h : RunS K pl W (okV v T) κ0 H0 T0 σ Q) (q : RV pl κ H v y) : Q y H :=
  h y H κ p.e p.r p.r.det0 (fun _ h => absurd h (by simp [Sv.shs])) q
theorem Pt.bool (p : Pt K pl κ0 H0 T0 κ H T D) {b : Bool} {Q : Bool → Hp → Prop} (h : RunB K pl W (.ok b T) κ0 H0 T0 σ Q) : Q b H :=
  h b H κ p.e p.r p.r.det0 (fun _ h => absurd h (by simp)) rfl
/-- an object that no tree speaks of is laid -/
theorem RT.fresh (r : RT K pl κ H T) {p : Addr} {o : HO} (hp : H p = none) : RT K pl κ (upd H p o) T ∧ Ext κ H T κ (upd H p o) T := by
  have kp : ∀ b o', H b = some o' → upd H p o b = some o' := fun b o' h => by rw [upd_ne (ne_of_none h hp)]; exact h
  have up : Up κ H κ (upd H p o) := ⟨fun _ _ h => h, fun b o' h _ => kp b o' h⟩
  refine ⟨⟨fun t ht => ?_, r.one, r.lt, r.inj, fun i a hi h => ?_, r.pos, r.zero, r.base⟩, ⟨up, fun b o' h _ => kp b o' h, fun b o' h => ⟨o', kp b o' h⟩, fun _ _ h h' => (by rw [h] at h'; cases h'), fun _ h => .inl h⟩⟩
  · obtain ⟨a, ka, q⟩ := r.nd t ht
    exact ⟨a, ka, q.mono up (fun _ => kp a) fun _ _ => kp a _⟩
  · obtain ⟨o', h'⟩ := r.dom i a hi h
    exact ⟨o', kp _ _ h'⟩
theorem Pt.fresh (p : Pt K pl κ0 H0 T0 κ H T D) {a : Addr} {o : HO} (ha : H a = none) : Pt K pl κ0 H0 T0 κ (upd H a o) T D := by
  obtain ⟨r, e⟩ := p.r.fresh (o := o) ha
  exact ⟨p.r0, p.e.trans p.r0 e, r, p.d.mono p.r r e, p.n⟩
/-- F3: a new tuple -/
theorem Pt.tup (p : Pt K pl κ0 H0 T0 κ H T D) {vs : List Va} {xs : List V} {a : Addr} {Q : VK} (h : RunS K pl W (okV (.tup vs) T) κ0 H0 T0 σ Q) (ha : H a = none) (q : Paired (RV pl κ H) vs xs) : Q (.ref a) (upd H a (.tup xs)) := by
  have p' := p.fresh (o := .tup xs) ha
  refine p'.val h ?_
  simp only [RV]
  exact ⟨a, xs, rfl, upd_same, RVs.paired.mpr (Paired.mapP q fun _ _ z => z.mono (p.r.fresh (o := .tup xs) ha).2.up)⟩
/-- F2: a new node that owns trees at hand -/
theorem Pt.node (p : Pt K pl κ0 H0 T0 κ H T D) {n : Tr} {a : Addr} {ho : HO} {Q : VK} (h : RunS K pl W (.ok (.tr n) (T.adv 1)) κ0 H0 T0 σ Q) (ha : H a = none) (nf : n.free = true) (ni : n.id = T.next)
    (sub : ∀ s ∈ kids n, s ∈ D) (c : ∀ i, cnt i (kids n) ≤ cnt i D) (new : ∀ κ' H', Up κ H κ' H' → H' a = some ho → Nd K pl κ' H' a n) : Q (.ref a) (upd H a ho) := by
  have kn : κ T.next = none := by
    cases e : κ T.next with
    | none => rfl
    | some a => exact absurd (p.r.lt _ _ e) (by omega)
  have up : Up κ H (kup κ T.next a) (upd H a ho) := ⟨fun i b hb => (by unfold kup; rw [if_neg]; exact hb; rintro rfl; rw [kn] at hb; cases hb), fun b o hb _ => by rw [upd_ne (ne_of_none hb ha)]; exact hb⟩
  obtain ⟨r, e, d, nw⟩ := p.r.alloc ha nf ni p.d sub c (new _ _ up upd_same)
  refine h _ _ _ (p.e.trans p.r0 e) r d (fun i hi => ?_) ⟨nf, (Sl.node (isNode_free nf)).mpr ⟨a, by rw [ni]; unfold kup; rw [if_pos rfl], rfl⟩⟩
  rcases nw i hi with z | z
  · right
    cases q : κ0 i with
    | none => rfl
    | some x => rw [p.e.up.ka i x q] at z; cases z
  · exact p.n i z
/-- F4: a node written; the answer is a value, or a tree that the node owned -/
theorem Pt.write (p : Pt K pl κ0 H0 T0 κ H T D) {ρ : Rf} {t n : Tr} {a : Addr} {ho : HO} {s : Sv} {y : V} {Q : VK} (h : RunS K pl W (.ok s (T.put ρ n)) κ0 H0 T0 σ Q) (hat : T.at ρ = some t) (hf : t.free = true) (nf : n.free = true) (ni : n.id = t.id)
    (ka : κ t.id = some a) (sub : ∀ x ∈ kids n, x ∈ kids t ∨ x ∈ D) (c : ∀ i, cnt i (kids n) ≤ cnt i (kids t) + cnt i D) (hv : ¬ isVal ho) (new : ∀ H', Up κ H κ H' → H' a = some ho → Nd K pl κ H' a n) (v : ∃ x, s = .va x) (q : RS pl κ H s y) : Q y (upd H a ho) := by
  obtain ⟨x, rfl⟩ := v
  have tm : t.shal ∈ T.shs := by
    obtain ⟨r0, h1, h2, h3, h4⟩ := at_some.mp hat
    obtain ⟨A, B, e1, _⟩ := Tw.shs_put (n := n) hat (isNode_free nf) (ni.trans h4)
    rw [e1, shs_kids h3]; simp
  obtain ⟨a', ka', na⟩ := p.r.nd _ tm
  rw [shal_id, ka] at ka'; cases ka'
  rw [Nd.shal] at na
  obtain ⟨o, hao, onv, omu⟩ := na.notVal hf
  have up : Up κ H κ (upd H a ho) := ⟨fun _ _ h => h, fun b u hb hu => by
    rw [upd_ne]; exact hb
    rintro rfl
    rw [hao] at hb; cases hb; exact onv hu⟩
  obtain ⟨r, e, i⟩ := p.r.write hat hf nf ni ka p.d sub c hv (new _ up upd_same)
  refine h y _ κ ?_ r r.det0 (fun _ h => absurd h (by simp [Sv.shs])) (RS.mono up q)
  have e2 := p.e.trans p.r0 e
  refine ⟨e2.up, e2.keep, e2.dom, e2.new, fun j hj => ?_⟩
  rcases i j hj with z | z
  · exact e2.ids j z
  · exact p.n j z
end
end AM
/-! From the text to IR. -/
namespace AM
open PySem (Str Expr Stmt Scope NameKind Comprehension)

structure Cxt where
  fns : List (Str × Nat)
  mths : List (Str × Nat)
  flds : List (Str × Nat)
  clss : List (Str × Nat)
  excs : List (Str × Nat)
  blts : List Str
def visB (sc : Scope) (x : Str) : Bool := match sc.names.lookup x with
  | some .local => true | some .cell => true | some .free => true | _ => false
def locB (sc : Scope) (x : Str) : Bool := match sc.names.lookup x with
  | some .local => true | some .cell => true | _ => false
def globB (sc : Scope) (x : Str) : Bool := match sc.names.lookup x with
  | some .globalImplicit => true | _ => false
def slotOf : List Str → Str → Option Nat
  | [], _ => none
  | y :: r, x => if y = x then some 0 else (slotOf r x).map (· + 1)
def lookS (l : List (Str × Nat)) (x : Str) : Option Nat := match l with
  | [] => none
  | (y, n) :: r => if y = x then some n else lookS r x
def memS (l : List Str) (x : Str) : Bool := match l with
  | [] => false
  | y :: r => decide (y = x) || memS r x
def bopOf : PySem.Operator → Option BOp
  | .Add => some .add | .Sub => some .sub | .Mult => some .mul | .FloorDiv => some .fdiv | .Mod => some .mod | .Pow => some .pow | _ => none
def copOf : PySem.CmpOp → Option COp
  | .Eq => some .eq | .NotEq => some .ne | .Lt => some .lt | .LtE => some .le | .Gt => some .gt | .GtE => some .ge | _ => none
def copI : PySem.CmpOp → Option COp
  | .Lt => some .lt | .LtE => some .le | .Gt => some .gt | .GtE => some .ge | _ => none
def bfOf (x : Str) : Option Bf :=
  if x = "len" then some .len else if x = "int" then some .int else if x = "max" then some .max else if x = "min" then some .min else none
def bmOf (x : Str) : Option Bm := none
def dbg (x : Str) : Bool := decide (x = "__debug__") || decide (x = "__classdict__") || decide (x = "__name__")
def tyOf (C : Cxt) (sc : Scope) : Expr → Option Ty
  | .Name x _ => if globB sc x then
      (match lookS C.excs x with
      | some c => if dbg x then none else some (.cls c)
      | none => if memS C.blts x then
          (if x = "int" then some .int else if x = "bool" then some .bool else if x = "list" then some .list else if x = "tuple" then some .tuple else if x = "str" then some .str else if x = "ValueError" then some .valueError else none) else none)
    else none
  | _ => none
def optM {α β : Type} (f : α → Option β) : List α → Option (List β)
  | [] => some []
  | x :: xs => match f x with
    | some y => match optM f xs with
      | some ys => some (y :: ys)
      | none => none
    | none => none
def nmOf (N : List Str) (sc : Scope) : Expr → Option Nat
  | .Name x _ => if locB sc x then slotOf N x else none
  | _ => none
def tgOf (N : List Str) (sc : Scope) : Expr → Option Tg
  | .Name x _ => if locB sc x then (slotOf N x).map .one else none
  | .Tuple es _ _ => (optM (nmOf N sc) es).map .many
  | _ => none
/-- what an attribute may be asked of -/
def okBase : Expr → Bool
  | .Name _ _ => true | .Attribute _ _ _ => true | .Subscript _ _ _ => true
  | .Call (.Attribute _ _ _) _ _ _ => true
  | .Call (.Name _ _) (_ :: _) _ _ => true
  | _ => false
def keyC : Option Expr → Option Ky
  | some (.Constant (.str s) _ _) => some (.s s)
  | _ => none
/-- what a loop walks: the kind, and the terms that are evaluated -/
def itOf (C : Cxt) (sc : Scope) (f : Expr → Option IE) (it : Expr) : Option (Ik × List IE) := match it with
  | .Call (.Name x _) [a] [] _ => if globB sc x && memS C.blts x && decide (x = "range") then (match f a with | some i => some (Ik.rng1, [i]) | none => none) else none
  | .Call (.Name x _) [a, b] [] _ => if globB sc x && memS C.blts x && decide (x = "range") then (match f a, f b with | some i, some j => some (Ik.rng2, [i, j]) | _, _ => none) else none
  | _ => none
def nsl : Expr → Bool
  | .Slice _ _ _ _ => false | .Starred _ _ => false | _ => true
def cE (C : Cxt) (N : List Str) : Nat → Scope → Expr → Option IE
  | 0, _, _ => none
  | k + 1, sc, e => match e with
    | .Name x _ => if visB sc x && !dbg x then (slotOf N x).map .v else none
    | .Constant .none _ _ => some (.cst .non)
    | .Constant (.bool b) _ _ => some (.cst (.bl b))
    | .Constant (.int i) _ _ => some (.cst (.int i))
    | .Constant (.str s) _ _ => some (.cst (.str s))
    | .BinOp a op b _ => match bopOf op, cE C N k sc a, cE C N k sc b with
      | some o, some i, some j => some (.bin o i j)
      | _, _, _ => none
    | .UnaryOp .USub a _ => (cE C N k sc a).map .neg
    | .UnaryOp .Not a _ => (cE C N k sc a).map .not
    | .BoolOp _ [a] _ => cE C N k sc a
    | .BoolOp .And (a :: b :: r) p => match cE C N k sc a, cE C N k sc (.BoolOp .And (b :: r) p) with
      | some i, some j => some (.and i j)
      | _, _ => none
    | .BoolOp .Or (a :: b :: r) p => match cE C N k sc a, cE C N k sc (.BoolOp .Or (b :: r) p) with
      | some i, some j => some (.or i j)
      | _, _ => none
    | .Compare a [.Is] [.Constant .none _ _] _ => (cE C N k sc a).map fun i => .cmp .isn i (.cst .non)
    | .Compare a [.IsNot] [.Constant .none _ _] _ => (cE C N k sc a).map fun i => .cmp .notn i (.cst .non)
    | .Compare a [op] [b] _ => match copOf op, cE C N k sc a, cE C N k sc b with
      | some o, some i, some j => some (.cmp o i j)
      | _, _, _ => none
    | .Compare a [op, oq] [b, c] _ => match copI op, copI oq, cE C N k sc a, cE C N k sc b, cE C N k sc c with
      | some o, some p, some i, some j, some l => some (.chain o p i j l)
      | _, _, _, _, _ => none
    | .Tuple es _ _ => (optM (cE C N k sc) es).map .tup
    | .List es _ => (optM (cE C N k sc) es).map .lst
    | .Attribute o f _ => if okBase o then (match lookS C.flds f, cE C N k sc o with
        | some n, some i => some (.fld i n)
        | _, _ => none) else none
    | .Subscript a i _ => if nsl i then (match cE C N k sc a, cE C N k sc i with
        | some x, some y => some (.ix x y)
        | _, _ => none) else none
    | .Call (.Name x _) args [] _ => if globB sc x && !dbg x then (match lookS C.fns x with
        | some f => (optM (cE C N k sc) args).map (.call f)
        | none => match lookS C.clss x with
          | some c => (optM (cE C N k sc) args).map (.make c)
          | none => if memS C.blts x then (if x = "isinstance" then (match args with
              | [a, .Tuple ts _ _] => match cE C N k sc a, optM (tyOf C sc) ts with
                | some i, some ts => if ts.isEmpty || decide (50 < ts.length) then none else some (.isi i ts)
                | _, _ => none
              | [a, t] => match cE C N k sc a, tyOf C sc t with
                | some i, some t => some (.isi i [t])
                | _, _ => none
              | _ => none)
            else match bfOf x with
              | some b => if args.isEmpty then none else (optM (cE C N k sc) args).map (.bf b)
              | none => none) else none) else none
    | .Call (.Attribute o m apos) args [] pos => if okBase o && (apos.endLine == pos.line) && decide (args.length < 30) then (match lookS C.mths m with
        | some c => match cE C N k sc o, optM (cE C N k sc) args with
          | some i, some is => some (.meth c i is)
          | _, _ => none
        | none => none) else none
    | _ => none
end AM
namespace AM
open PySem L2

/-- the program and where its things stand -/
structure Link where
  C : Cxt
  pl : Pl
  Ev : Env
  P : Nat → Option Def
/-- locals -/
def RL (pl : Pl) (κ : Ka) (H : Hp) (σa : Sg) (σ : St) : Prop := σa.length = σ.length ∧ ∀ (i : Nat) (v : Va), σa[i]? = some (some v) → ∃ x, σ[i]? = some (some x) ∧ RV pl κ H v x
theorem RL.mono {pl : Pl} {κ κ' : Ka} {H H' : Hp} {σa : Sg} {σ : St} (u : Up κ H κ' H') (h : RL pl κ H σa σ) : RL pl κ' H' σa σ :=
  ⟨h.1, fun i v e => let ⟨x, e', r⟩ := h.2 i v e; ⟨x, e', r.mono u⟩⟩
theorem RL.set {pl : Pl} {κ : Ka} {H : Hp} {σa : Sg} {σ : St} (h : RL pl κ H σa σ) {n : Nat} {v : Va} {x : V} (r : RV pl κ H v x) : RL pl κ H (σa.set n (some v)) (σ.set n (some x)) := by
  refine ⟨by simp [h.1], fun i w e => ?_⟩
  by_cases hi : n = i
  · subst hi
    by_cases hl : n < σa.length
    · rw [List.getElem?_set_self hl] at e
      cases e
      exact ⟨x, List.getElem?_set_self (by rw [← h.1]; exact hl), r⟩
    · rw [List.getElem?_eq_none (by simpa using hl)] at e; cases e
  · rw [List.getElem?_set_ne hi] at e
    obtain ⟨y, e', r'⟩ := h.2 i w e
    exact ⟨y, by rw [List.getElem?_set_ne hi]; exact e', r'⟩
theorem RL.unset {pl : Pl} {κ : Ka} {H : Hp} {σa : Sg} {σ : St} (h : RL pl κ H σa σ) (n : Nat) : RL pl κ H (σa.set n none) (σ.set n none) := by
  refine ⟨by simp [h.1], fun i w e => ?_⟩
  by_cases hi : n = i
  · subst hi
    by_cases hl : n < σa.length
    · rw [List.getElem?_set_self hl] at e; cases e
    · rw [List.getElem?_eq_none (by simpa using hl)] at e; cases e
  · rw [List.getElem?_set_ne hi] at e
    obtain ⟨y, e', r'⟩ := h.2 i w e
    exact ⟨y, by rw [List.getElem?_set_ne hi]; exact e', r'⟩
theorem RL.get {pl : Pl} {κ : Ka} {H : Hp} {σa : Sg} {σ : St} (h : RL pl κ H σa σ) {n : Nat} {v : Va} (e : σa.get n = some v) : ∃ x, σ[n]? = some (some x) ∧ RV pl κ H v x := by
  refine h.2 n v ?_
  unfold Sg.get at e
  cases q : σa[n]? with
  | none => rw [q] at e; cases e
  | some o => rw [q] at e; simp at e; rw [e]

/-- the readings: of an expression, of a test, of arguments -/
def tE (K : PySem.W.Frag) (pl : Pl) (W : WX) (m : Sg → Tw → Res Sv) : TE := fun σ H Q => ∃ κ σa T, RT K pl κ H T ∧ RL pl κ H σa σ ∧ RunS K pl W (m σa T) κ H T σ Q
def tT (K : PySem.W.Frag) (pl : Pl) (W : WX) (m : Sg → Tw → Res Bool) : TT := fun σ H Q => ∃ κ σa T, RT K pl κ H T ∧ RL pl κ H σa σ ∧ RunB K pl W (m σa T) κ H T σ Q
def tA (K : PySem.W.Frag) (pl : Pl) (W : WX) (m : Sg → Tw → Res (List Sv)) : TA := fun σ H Q => ∃ κ σa T, RT K pl κ H T ∧ RL pl κ H σa σ ∧ RunL K pl W (m σa T) κ H T σ Q
section
variable {X : Cx} {e : Expr}
theorem peI {t t' : TE} (h : PE X e t) (f : ∀ σ H Q, t' σ H Q → t σ H Q) : PE X e t' := ⟨fun pins s σ H Q I q => h.run pins s σ H Q I (f σ H Q q)⟩
theorem ptI {t t' : TT} (h : PT X e t) (f : ∀ σ H Q, t' σ H Q → t σ H Q) : PT X e t' := ⟨fun pins s σ H Q I q => h.run pins s σ H Q I (f σ H Q q)⟩
theorem paI {es : List Expr} {t t' : TA} (h : PA X es t) (f : ∀ σ H Q, t' σ H Q → t σ H Q) : PA X es t' := ⟨fun pos pins s σ H Q I q => h.run pos pins s σ H Q I (f σ H Q q)⟩
/-- one of two readings -/
theorem peOr {t t' : TE} (h : PE X e t) (h' : PE X e t') : PE X e (fun σ H Q => t σ H Q ∨ t' σ H Q) := ⟨fun pins s σ H Q I q => q.elim (h.run pins s σ H Q I) (h'.run pins s σ H Q I)⟩
end

/-- a def's promise: what the machine does -/
def spOf (K : PySem.W.Frag) (L : Link) (n code : Nat) : Sp := fun vs H Q E => ∃ κ T as, RT K L.pl κ H T ∧ Paired (RV L.pl κ H) as vs ∧ (∃ d, L.P code = some d ∧ as.length = d.np) ∧
  RunS K L.pl (fun cls d _ H => E cls d H) (Phi L.Ev L.P n code as T) κ H T [] Q
/-- a def of the program, called -/
structure FnA (P : Program) (w : World) (K : PySem.W.Frag) (mg : Str → Option Value) (base : Heap) (L : Link) (n : Nat) (code : Nat) (f : Addr) : Prop where
  ok : ∃ (fd : FuncData) (ps : List Str), Binds K fd ps [] ∧ FnOk P w K mg base (CX P w) (2 * n + 1) f fd ps (spOf K L n code)
def tyV (pl : Pl) : Ty → Value
  | .int => .type "int" | .bool => .type "bool" | .list => .type "list" | .tuple => .type "tuple" | .str => .type "str" | .valueError => .type "ValueError" | .cls d => .ref (pl.exc d)
def okTy (L : Link) (t : Ty) : Prop := ∀ d, t = .cls d → ∃ x, lookS L.C.excs x = some d
/-- what isinstance asks of an error's class -/
structure ExcK (K : PySem.W.Frag) (L : Link) (c : Nat) : Prop where
  hg : PySem.W.findIn K (.ref (L.pl.exc c)) "__getattribute__" = some (some (.builtin "BaseException.__getattribute__"))
  hk : PySem.W.findIn K (.ref (L.pl.exc c)) "__getattr__" = some none
  hs : PySem.W.subIn K (.ref (L.pl.exc c)) (.type "BaseException") = some true
  hd : PySem.W.hasDictIn K (L.pl.exc c) = true
  ha : PySem.W.findIn K (.ref (L.pl.exc c)) "__class__" = some (some (.builtin "object.__class__"))
  hn : PySem.W.specialIn K (.builtin "object.__class__") "__get__" = some (some (.builtin "getset_descriptor.__get__"))
  ht : PySem.W.takesIn K (.builtin "object.__class__") = some true
  hm : PySem.W.mroIn K (L.pl.exc c) (.type "object") = some true
  ty : ∀ t, okTy L t → PySem.W.kitOne K (.ref (L.pl.exc c)) (tyV L.pl t) = some (excTy L.Ev.sub c t)
/-- the facts of the top -/
structure Lks (P : Program) (w : World) (K : PySem.W.Frag) (mg : Str → Option Value) (base : Heap) (L : Link) (n : Nat) : Prop where
  fn : ∀ x c, lookS L.C.fns x = some c → ∃ f, mg x = some (.ref f) ∧ PySem.W.keepIn K (.ref f) = true ∧ FnA P w K mg base L n c f
  meth : ∀ m c k code, lookS L.C.mths m = some k → L.Ev.meth c k = some code → ∃ f, Meth K (L.pl.cls c) m f ∧ FnA P w K mg base L n code f
  nomf : ∀ m k i, lookS L.C.mths m = some k → L.pl.fld i ≠ m
  cls : ∀ c f code, L.Ev.meth c f = some code → Cls K (L.pl.cls c)
  fld : ∀ f i, lookS L.C.flds f = some i → L.pl.fld i = f
  inj : ∀ i j f, lookS L.C.flds f = some i → L.pl.fld j = f → j = i
  noat : ∀ f i c, lookS L.C.flds f = some i → Cls K (L.pl.cls c) ∧ NoAttr K (L.pl.cls c) f
  make : ∀ x c code, lookS L.C.clss x = some c → L.Ev.init c = some code → ∃ f, mg x = some (.ref (L.pl.cls c)) ∧ Mk K (L.pl.cls c) f ∧ FnA P w K mg base L n code f
  exc : ∀ c, L.Ev.sub c c = true → ExcK K L c
  exn : ∀ x d, lookS L.C.excs x = some d → mg x = some (.ref (L.pl.exc d)) ∧ ∀ b, b = "int" ∨ b = "bool" ∨ b = "list" ∨ b = "tuple" ∨ b = "str" ∨ b = "NoneType" → PySem.W.kitOne K (.type b) (.ref (L.pl.exc d)) = some false
  ini : ∀ x c, lookS L.C.clss x = some c → (L.Ev.init c).isSome = true
  blt : ∀ x, memS L.C.blts x = true → mg x = none
/-- where one stands -/
structure Good (X : Cx) (L : Link) (n : Nat) (W : WX) : Prop where
  nd : X.N.Nodup
  calm : X.calm = true
  room : Room (2 * n + 2) X.A
  lk : Lks X.prog X.w X.K X.mg X.base L n
  tk : Takes X W
  hp : PassesOwn (model X.prog X.w) X.A X.env X.xe
  fn : ∀ x, L2.Loc X.env.scope x → X.fn x = true ∨ X.env.scope.names.lookup x = some .local

theorem slotOf_get : ∀ {N : List Str} {x : Str} {i : Nat}, slotOf N x = some i → N[i]? = some x
  | [], _, _, h => by simp [slotOf] at h
  | y :: r, x, i, h => by
    unfold slotOf at h
    split at h
    · cases h; rename_i e; simp [e]
    · cases q : slotOf r x with
      | none => rw [q] at h; cases h
      | some j => rw [q] at h; simp at h; subst h; simpa using slotOf_get q
theorem vis_of {sc : Scope} {x : Str} (h : visB sc x = true) : Vis sc x := by
  unfold visB at h; unfold Vis
  split at h <;> first | (rename_i e; simp [e]) | cases h
theorem loc_of {sc : Scope} {x : Str} (h : locB sc x = true) : L2.Loc sc x := by
  unfold locB at h; unfold L2.Loc
  split at h <;> first | (rename_i e; simp [e]) | cases h
theorem gl_of {X : Cx} {x : Str} (h : globB X.env.scope x = true) : Gl X x := by
  unfold globB at h
  show X.env.scope.names.lookup x = _
  split at h <;> first | assumption | cases h
theorem dbg_of {x : Str} (h : dbg x = false) : (x == ("__debug__" : Str)) = false ∧ (x == ("__classdict__" : Str)) = false ∧ x ≠ "__name__" := by
  unfold dbg at h
  simp only [Bool.or_eq_false_iff, decide_eq_false_iff_not] at h
  exact ⟨beq_eq_false_iff_ne.mpr h.1.1, beq_eq_false_iff_ne.mpr h.1.2, h.2⟩

/-- what the compiler takes is no star, and no slice -/
theorem cE_form {C : Cxt} {N : List Str} {k : Nat} {sc : Scope} {e : Expr} {i : IE} (h : cE C N k sc e = some i) : ∀ es env, starEach (e :: es) env = (false, eval e env) :: starEach es env := by
  cases k with
  | zero => cases h
  | succ k => cases e <;> first | (intro es env; rfl) | (simp [cE] at h)
theorem plain_of (es : List Expr) (env : PySem.Env) (pos : Pos) (h : ∀ e ∈ es, ∀ r, starEach (e :: r) env = (false, eval e env) :: starEach r env) : (backTo pos (starEach es env)).any (·.1) = false := by
  have hs : ∀ es : List Expr, (∀ e ∈ es, ∀ r, starEach (e :: r) env = (false, eval e env) :: starEach r env) → (starEach es env).any (·.1) = false := by
    intro es
    induction es with
    | nil => intro _; rfl
    | cons e r ih =>
      intro h
      rw [h e List.mem_cons_self r, List.any_cons, ih fun e he => h e (List.mem_cons_of_mem _ he)]
      rfl
  have hb : ∀ l : List (Bool × Sem Value), (backTo pos l).any (·.1) = l.any (·.1) := by
    intro l
    unfold backTo
    induction l with
    | nil => rfl
    | cons p r ih => simp_all [List.any_map]
  rw [hb]; exact hs es h
theorem cA_form {C : Cxt} {N : List Str} {k : Nat} {sc : Scope} : ∀ {es : List Expr} {is : List IE}, optM (cE C N k sc) es = some is → ∀ e ∈ es, ∀ env r, starEach (e :: r) env = (false, eval e env) :: starEach r env
  | [], _, _, e, he, _, _ => by cases he
  | e :: es, is, h, e', he, env, r => by
    unfold optM at h
    cases q : cE C N k sc e with
    | none => rw [q] at h; cases h
    | some i =>
      rw [q] at h
      cases q2 : optM (cE C N k sc) es with
      | none => rw [q2] at h; cases h
      | some is' =>
        rcases List.mem_cons.mp he with z | z
        · subst z; exact cE_form q r env
        · exact cA_form q2 e' z env r
end AM
namespace AM
open PySem L2
theorem lim_eq : lim = sizeLine := by rw [sizeLine_eq]
section
variable {X : Cx} {L : Link} {n : Nat} {W : WX}
/-- an operator's reading: what the machine does with two values -/
def rB (K : PySem.W.Frag) (pl : Pl) (W : WX) (f : Sv → Sv → Tw → Res Sv) : R2 := fun x y H Q => ∃ κ0 H0 T0 κ T a b σ, Pt K pl κ0 H0 T0 κ H T (a.shs ++ b.shs) ∧ RS pl κ H a x ∧ RS pl κ H b y ∧ RunS K pl W (f a b T) κ0 H0 T0 σ Q
theorem tE.bin {K : PySem.W.Frag} {pl : Pl} {ma mb : Sg → Tw → Res Sv} {f : Sv → Sv → Tw → Res Sv} {σ : St} {H : Hp} {Q : VK} (h : tE K pl W (fun σ T => (ma σ T).bind fun x T => (mb σ T).bind fun y T => f x y T) σ H Q) :
    tE K pl W ma σ H fun x H1 => tE K pl W mb σ H1 fun y H2 => rB K pl W f x y H2 Q := by
  obtain ⟨κ, σa, T, r, l, h⟩ := h
  refine ⟨κ, σa, T, r, l, (Run.bind r Ext.refl h).imp ?_⟩
  rintro x H1 ⟨κ1, a, T1, e1, r1, d1, n1, q1, h1⟩
  refine ⟨κ1, σa, T1, r1, l.mono e1.up, (Run.bind r e1 h1).imp ?_⟩
  rintro y H2 ⟨κ2, b, T2, e2, r2, d2, n2, q2, h2⟩
  exact ⟨κ, H, T, κ2, T2, a, b, σ, (((Pt.start r).step e1 r1 d1 n1)).step e2 r2 d2 n2, q1.mono e2.up, q2, h2⟩
/-- where a node is: its object -/
theorem node_at {K : PySem.W.Frag} {pl : Pl} {κ : Ka} {H : Hp} {T : Tw} (r : RT K pl κ H T) {ρ : Rf} {t : Tr} (h : T.at ρ = some t) : ∃ a, κ ρ.id = some a ∧ Nd K pl κ H a t := by
  obtain ⟨r0, h1, h2, h3, h4⟩ := at_some.mp h
  obtain ⟨A, B, e1, _⟩ := Tw.shs_put (n := t) h h3 h4
  have tm : t.shal ∈ T.shs := by rw [e1, shs_kids h3]; simp
  obtain ⟨a, ka, q⟩ := r.nd _ tm
  rw [shal_id, h4] at ka
  exact ⟨a, ka, Nd.shal.mp q⟩
theorem leaves_paired {pl : Pl} {κ : Ka} {H : Hp} : ∀ {ts : List Tr} {xs : List Va} {vs : List V}, leaves ts = some xs → Paired (Sl pl κ H) ts vs → Paired (RV pl κ H) xs vs
  | [], _, _, h, p => by simp [leaves] at h; subst h; cases p; exact .nil
  | .lf v :: ts, xs, vs, h, p => by
    unfold leaves at h
    cases q : leaves ts with
    | none => rw [q] at h; cases h
    | some ys =>
      rw [q] at h; simp at h; subst h
      cases p with | cons p1 p2 => exact .cons p1 (leaves_paired q p2)
  | .lst _ _ _ :: _, _, _, h, _ => by simp [leaves] at h
  | .nd _ _ _ _ :: _, _, _, h, _ => by simp [leaves] at h
theorem leaves_lfs : ∀ {ts : List Tr} {xs : List Va}, leaves ts = some xs → ts = lfs xs
  | [], _, h => by simp [leaves] at h; subst h; rfl
  | .lf v :: ts, xs, h => by
    unfold leaves at h
    cases q : leaves ts with
    | none => rw [q] at h; cases h
    | some ys => rw [q] at h; simp at h; subst h; simp [lfs, leaves_lfs q]
  | .lst _ _ _ :: _, _, h => by simp [leaves] at h
  | .nd _ _ _ _ :: _, _, h => by simp [leaves] at h
theorem paired_lfs {pl : Pl} {κ : Ka} {H : Hp} {xs : List Va} {vs : List V} : Paired (Sl pl κ H) (lfs xs) vs ↔ Paired (RV pl κ H) xs vs := by
  unfold lfs; exact Paired.maps _ fun _ _ => Iff.rfl
theorem kids_lfs (i : Nat) (l : Bool) (xs : List Va) : kids (.lst i l (lfs xs)) = [] := by
  unfold kids; simp only [Tr.shs, List.tail_cons]
  induction xs with
  | nil => rfl
  | cons x xs ih => simp only [lfs, List.map_cons, shsL, shs_lf, List.nil_append]; exact ih
/-- a list at hand, as it stands: hanging nowhere, or in the world -/
theorem list_at {K : PySem.W.Frag} {pl : Pl} {κ : Ka} {H : Hp} {T : Tw} (r : RT K pl κ H T) {s : Sv} (d : ∀ t, s = .tr t → ∀ u ∈ t.shs, NdAt K pl κ H u) {x : V} {ts : List Tr} (h : listOf T s = some ts) (q : RS pl κ H s x) :
    ∃ a vs, x = .ref a ∧ SqL K H a vs ∧ Paired (Sl pl κ H) ts vs := by
  unfold listOf at h
  have fin : ∀ {a : Addr} {i l xs}, Nd K pl κ H a (.lst i l xs) → ∃ vs, SqL K H a vs ∧ Paired (Sl pl κ H) xs vs := fun {a i l xs} nd => by
    cases l with
    | false => obtain ⟨vs, e, p⟩ := nd; exact ⟨vs, SqL.of e, p⟩
    | true => obtain ⟨vs, e, p⟩ := nd; exact ⟨vs, e.sq, p⟩
  split at h
  · cases h
    rename_i i l
    obtain ⟨qf, a, ka, rfl⟩ := q
    obtain ⟨a', ka', nd⟩ := d _ rfl (Tr.shal (.lst i l ts)) (by simp [Tr.shs, Tr.shal])
    rw [shal_id] at ka'
    rw [show (Tr.lst i l ts).id = i from rfl, ka] at ka'; cases ka'
    obtain ⟨vs, h1, h2⟩ := fin (Nd.shal.mp nd)
    exact ⟨a, vs, rfl, h1, h2⟩
  · rename_i ρ
    split at h
    · cases h
      rename_i i l xs e
      simp only [RS, RV] at q
      obtain ⟨a, ka, rfl⟩ := q
      obtain ⟨a', ka', nd⟩ := node_at r e
      rw [ka] at ka'; cases ka'
      obtain ⟨vs, h1, h2⟩ := fin nd
      exact ⟨a, vs, rfl, h1, h2⟩
    · cases h
  · cases h
theorem Pt.hangs {K : PySem.W.Frag} {pl : Pl} {κ0 κ : Ka} {H0 H : Hp} {T0 T : Tw} {D : List Tr} (p : Pt K pl κ0 H0 T0 κ H T D) {s : Sv} (hs : ∀ u ∈ s.shs, u ∈ D) : ∀ t, s = .tr t → ∀ u ∈ t.shs, NdAt K pl κ H u := by
  rintro t rfl u hu
  exact p.d.nd u (hs u hu)
/-- a new list of values -/
theorem Pt.mkList {K : PySem.W.Frag} {pl : Pl} {κ0 κ : Ka} {H0 H : Hp} {T0 T : Tw} {D : List Tr} {σ : St} (p : Pt K pl κ0 H0 T0 κ H T D) {xs : List Va} {vs : List V} {a : Addr} {Q : VK} (h : RunS K pl W (mkList xs T) κ0 H0 T0 σ Q) (ha : H a = none) (q : Paired (RV pl κ H) xs vs) : Q (.ref a) (upd H a (.lst vs)) :=
  p.node h ha rfl rfl (by rw [kids_lfs]; simp) (by intro i; rw [kids_lfs]; simp) fun κ' H' u e => ⟨vs, e, paired_lfs.mpr (Paired.mapP q fun _ _ z => z.mono u)⟩
theorem free_at {K : PySem.W.Frag} {pl : Pl} {κ : Ka} {H : Hp} {T : Tw} (r : RT K pl κ H T) {s : Sv} (d : ∀ t, s = .tr t → ∀ u ∈ t.shs, NdAt K pl κ H u) {x : V} {ts : List Tr} (h : freeOf T s = some ts) (q : RS pl κ H s x) :
    ∃ a vs, x = .ref a ∧ H a = some (.lst vs) ∧ Paired (Sl pl κ H) ts vs := by
  unfold freeOf at h
  split at h
  · cases h
    rename_i i
    obtain ⟨qf, a, ka, rfl⟩ := q
    obtain ⟨a', ka', nd⟩ := d _ rfl (Tr.shal (.lst i false ts)) (by simp [Tr.shs, Tr.shal])
    rw [shal_id] at ka'
    rw [show (Tr.lst i false ts).id = i from rfl, ka] at ka'; cases ka'
    obtain ⟨vs, h1, h2⟩ := Nd.shal.mp nd
    exact ⟨a, vs, rfl, h1, h2⟩
  · rename_i ρ
    split at h
    · cases h
      rename_i i xs e
      simp only [RS, RV] at q
      obtain ⟨a, ka, rfl⟩ := q
      obtain ⟨a', ka', nd⟩ := node_at r e
      rw [ka] at ka'; cases ka'
      obtain ⟨vs, h1, h2⟩ := nd
      exact ⟨a, vs, rfl, h1, h2⟩
    · cases h
  · cases h
theorem freeVa_at {K : PySem.W.Frag} {pl : Pl} {κ : Ka} {H : Hp} {T : Tw} (r : RT K pl κ H T) {s : Sv} (d : ∀ t, s = .tr t → ∀ u ∈ t.shs, NdAt K pl κ H u) {x : V} {xs : List Va} (h : freeVa T s = some xs) (q : RS pl κ H s x) :
    ∃ a vs, x = .ref a ∧ H a = some (.lst vs) ∧ Paired (RV pl κ H) xs vs := by
  unfold freeVa at h
  cases e : freeOf T s with
  | none => rw [e] at h; cases h
  | some ts =>
    rw [e] at h
    obtain ⟨a, vs, h1, h2, h3⟩ := free_at r d e q
    exact ⟨a, vs, h1, h2, leaves_paired h h3⟩
theorem listVa_at {K : PySem.W.Frag} {pl : Pl} {κ : Ka} {H : Hp} {T : Tw} (r : RT K pl κ H T) {s : Sv} (d : ∀ t, s = .tr t → ∀ u ∈ t.shs, NdAt K pl κ H u) {x : V} {xs : List Va} (h : listVa T s = some xs) (q : RS pl κ H s x) :
    ∃ a vs, x = .ref a ∧ SqL K H a vs ∧ Paired (RV pl κ H) xs vs := by
  unfold listVa at h
  cases e : listOf T s with
  | none => rw [e] at h; cases h
  | some ts =>
    rw [e] at h
    obtain ⟨a, vs, h1, h2, h3⟩ := list_at r d e q
    exact ⟨a, vs, h1, h2, leaves_paired h h3⟩
theorem Paired.app {α β : Type} {F : α → β → Prop} {a b : List α} {c d : List β} (h : Paired F a c) (h' : Paired F b d) : Paired F (a ++ b) (c ++ d) := by
  induction h with
  | nil => exact h'
  | cons q _ ih => exact .cons q ih
theorem Paired.len {α β : Type} {F : α → β → Prop} {a : List α} {b : List β} (h : Paired F a b) : a.length = b.length := PySem.Paired.length h
theorem rB_add (X : Cx) (pl : Pl) (W : WX) : OpR X (binaryOp .Add) (rB X.K pl W (opBin .add)) := by
  rintro pins s σ' H x y v u Q I rx ry ⟨κ0, H0, T0, κ, T, a, b, σ, p, qa, qb, h⟩
  have lists : (match freeVa T a, freeVa T b with | some xs, some ys => RunS X.K pl W (if xs.length + ys.length ≤ lim then mkList (xs ++ ys) T else .bad) κ0 H0 T0 σ Q | _, _ => False) → wpAny (model X.prog X.w) X.A (binaryOp .Add v u) (EP X pins σ' Q) X.xe s := by
    intro h
    cases e1 : freeVa T a with
    | none => rw [e1] at h; exact h.elim
    | some xs =>
      cases e2 : freeVa T b with
      | none => rw [e1, e2] at h; exact h.elim
      | some ys =>
        rw [e1, e2] at h
        simp only at h
        split at h
        · rename_i hl
          obtain ⟨l, vs, rfl, hl1, q1⟩ := freeVa_at p.r (p.hangs fun u hu => List.mem_append_left _ hu) e1 qa
          obtain ⟨l', ws, rfl, hl2, q2⟩ := freeVa_at p.r (p.hangs fun u hu => List.mem_append_right _ hu) e2 qb
          exact op_cat pins s σ' H _ _ v u Q I rx ry ⟨l, l', vs, ws, rfl, rfl, hl1, hl2, by rw [← Paired.len q1, ← Paired.len q2, ← lim_eq]; exact hl, fun q hq => p.mkList h hq (Paired.app q1 q2)⟩
        · exact h.elim
  have other : (opBin .add a b T = match freeVa T a, freeVa T b with | some xs, some ys => (if xs.length + ys.length ≤ lim then mkList (xs ++ ys) T else .bad) | _, _ => .bad) → wpAny (model X.prog X.w) X.A (binaryOp .Add v u) (EP X pins σ' Q) X.xe s := fun e => by
    rw [e] at h
    refine lists ?_
    cases e1 : freeVa T a with
    | none => rw [e1] at h; exact h
    | some xs =>
      cases e2 : freeVa T b with
      | none => rw [e1, e2] at h; exact h
      | some ys => rw [e1, e2] at h; exact h
  cases a with
  | tr t => exact other (by cases b <;> rfl)
  | va a =>
    cases a with
    | int i =>
      cases b with
      | tr t => exact other rfl
      | va b =>
        cases b with
        | int j =>
          have qa : x = .int i := qa
          have qb : y = .int j := qb
          subst qa qb
          exact op_add pins s σ' H _ _ v u Q I rx ry ⟨i, j, rfl, rfl, p.val h rfl⟩
        | _ => exact other rfl
    | str i =>
      cases b with
      | tr t => exact other rfl
      | va b =>
        cases b with
        | str j =>
          have qa : x = .str i := qa
          have qb : y = .str j := qb
          subst qa qb
          unfold opBin at h
          simp only at h
          split at h
          · rename_i hl
            exact op_add_str pins s σ' H _ _ v u Q I rx ry ⟨i, j, rfl, rfl, by rw [← lim_eq]; exact hl, p.val h rfl⟩
          · exact h.elim
        | _ => exact other rfl
    | tup xs =>
      cases b with
      | tr t => exact other rfl
      | va b =>
        cases b with
        | tup ys =>
          simp only [RS, RV] at qa qb
          obtain ⟨t, vs, rfl, ht, qa⟩ := qa
          obtain ⟨t', ws, rfl, ht', qb⟩ := qb
          rw [RVs.paired] at qa qb
          unfold opBin at h
          simp only at h
          split at h
          · rename_i hl
            refine op_catA pins s σ' H _ _ v u Q I rx ry ⟨t, t', vs, ws, rfl, rfl, SqT.of ht, SqT.of ht', by rw [← Paired.len qa, ← Paired.len qb, ← lim_eq]; exact hl, fun e => ?_, fun _ e => ?_, fun _ _ q hq => ?_⟩
            · subst e; cases qa
              refine p.val h ?_
              simp only [RV, List.nil_append]
              exact ⟨t', ws, rfl, ht', RVs.paired.mpr qb⟩
            · subst e; cases qb
              refine p.val h ?_
              simp only [RV, List.append_nil]
              exact ⟨t, vs, rfl, ht, RVs.paired.mpr qa⟩
            · exact p.tup h hq (Paired.app qa qb)
          · exact h.elim
        | _ => exact other rfl
    | _ => exact other rfl
/-- two ints -/
theorem rB_int {op : Operator} {o : BOp} {C : Int → Int → Prop} {g : Int → Int → Int} {pl : Pl} {W : WX} (ho : OpR X (binaryOp op) (rI C fun i j => .int (g i j)))
    (hf : ∀ a b T, (∃ i j, a = Sv.va (.int i) ∧ b = Sv.va (.int j) ∧ ((C i j ∧ opBin o a b T = okV (.int (g i j)) T) ∨ opBin o a b T = .bad)) ∨ opBin o a b T = .bad) : OpR X (binaryOp op) (rB X.K pl W (opBin o)) := by
  rintro pins s σ' H x y v u Q I rx ry ⟨κ0, H0, T0, κ, T, a, b, σ, p, qa, qb, h⟩
  rcases hf a b T with ⟨i, j, rfl, rfl, ⟨c, e⟩ | e⟩ | e
  · have qa : x = .int i := qa
    have qb : y = .int j := qb
    subst qa qb
    rw [e] at h
    exact ho pins s σ' H _ _ v u Q I rx ry ⟨i, j, rfl, rfl, c, p.val h rfl⟩
  · rw [e] at h; exact h.elim
  · rw [e] at h; exact h.elim
theorem rB_sub {pl : Pl} {W : WX} : OpR X (binaryOp .Sub) (rB X.K pl W (opBin .sub)) := by
  refine rB_int (C := fun _ _ => True) (g := fun i j => i - j) (fun pins s σ H x y v u Q I rx ry ⟨i, j, h1, h2, _, q⟩ => op_sub pins s σ H x y v u Q I rx ry ⟨i, j, h1, h2, q⟩) fun a b T => ?_
  unfold opBin
  split <;> first | exact .inl ⟨_, _, rfl, rfl, .inl ⟨trivial, rfl⟩⟩ | (exfalso; simp_all; done) | exact .inr rfl
theorem rB_bop {op : Operator} {o : BOp} {pl : Pl} {W : WX} (h : bopOf op = some o) : OpR X (binaryOp op) (rB X.K pl W (opBin o)) := by
  cases op <;> simp [bopOf] at h <;> subst h
  · exact rB_add X pl W
  · exact rB_sub
  · refine rB_int op_mul fun a b T => ?_
    cases a with
    | tr _ => exact .inr rfl
    | va a =>
      cases a <;> first | exact .inr rfl | skip
      cases b with
      | tr _ => exact .inr rfl
      | va b =>
        cases b <;> first | exact .inr rfl | skip
        refine .inl ⟨_, _, rfl, rfl, ?_⟩
        unfold opBin; simp only
        split
        · rename_i hc; exact .inl ⟨hc, rfl⟩
        · exact .inr rfl
  · refine rB_int op_mod fun a b T => ?_
    cases a with
    | tr _ => exact .inr rfl
    | va a =>
      cases a <;> first | exact .inr rfl | skip
      cases b with
      | tr _ => exact .inr rfl
      | va b =>
        cases b <;> first | exact .inr rfl | skip
        refine .inl ⟨_, _, rfl, rfl, ?_⟩
        unfold opBin; simp only
        split
        · rename_i hc; exact .inl ⟨hc, rfl⟩
        · exact .inr rfl
  · refine rB_int op_pow fun a b T => ?_
    cases a with
    | tr _ => exact .inr rfl
    | va a =>
      cases a <;> first | exact .inr rfl | skip
      cases b with
      | tr _ => exact .inr rfl
      | va b =>
        cases b <;> first | exact .inr rfl | skip
        refine .inl ⟨_, _, rfl, rfl, ?_⟩
        unfold opBin; simp only
        split
        · rename_i hc; exact .inl ⟨hc, rfl⟩
        · exact .inr rfl
  · refine rB_int op_fdiv fun a b T => ?_
    cases a with
    | tr _ => exact .inr rfl
    | va a =>
      cases a <;> first | exact .inr rfl | skip
      cases b with
      | tr _ => exact .inr rfl
      | va b =>
        cases b <;> first | exact .inr rfl | skip
        refine .inl ⟨_, _, rfl, rfl, ?_⟩
        unfold opBin; simp only
        split
        · rename_i hc; exact .inl ⟨hc, rfl⟩
        · exact .inr rfl
end
end AM
namespace AM
open PySem L2
/-! ### data -/
mutual
theorem dEq_eqv : ∀ d e : PyData, dEq d e = PyData.eqv d e
  | .none, e => by cases e <;> simp [dEq, PyData.eqv]
  | .bool _, e => by cases e <;> simp [dEq, PyData.eqv]
  | .int _, e => by cases e <;> simp [dEq, PyData.eqv]
  | .str _, e => by cases e <;> simp [dEq, PyData.eqv]
  | .list xs, e => by cases e <;> simp [dEq, PyData.eqv, dEqs_eqv xs]
  | .tuple xs, e => by cases e <;> simp [dEq, PyData.eqv, dEqs_eqv xs]
  | .dict _, e => by cases e <;> simp [dEq, PyData.eqv]
theorem dEqs_eqv : ∀ xs ys : List PyData, dEqs xs ys = PyData.eqvAll xs ys
  | [], ys => by cases ys <;> simp [dEqs, PyData.eqvAll]
  | x :: xs, ys => by cases ys <;> simp [dEqs, PyData.eqvAll, dEq_eqv x, dEqs_eqv xs]
end
section
variable {K : PySem.W.Frag} {pl : Pl} {κ : Ka} {H : Hp} {T : Tw}
theorem data_ok (r : RT K pl κ H T) : ∀ (n : Nat), (∀ (v : Va) (d : PyData) (x : V), dVa T n v = some d → RV pl κ H v x → Dp K H x d ∧ d.canLay0 = true ∧ d.depth ≤ n) ∧
    (∀ (vs : List Va) (ds : List PyData) (xs : List V), dVas T n vs = some ds → Paired (RV pl κ H) vs xs → DpAll K H xs ds ∧ PyData.canLayAll0 ds = true ∧ PyData.depthAll ds ≤ n) := by
  intro n
  induction n with
  | zero =>
    have h1 : ∀ (v : Va) (d : PyData) (x : V), dVa T 0 v = some d → RV pl κ H v x → Dp K H x d ∧ d.canLay0 = true ∧ d.depth ≤ 0 := by
      intro v d x h q
      cases v with
      | non => simp [dVa] at h; subst h; simp only [RV] at q; subst q; exact ⟨.non, rfl, Nat.le_refl _⟩
      | bl b => simp [dVa] at h; subst h; simp only [RV] at q; subst q; exact ⟨.bl b, rfl, Nat.le_refl _⟩
      | int b => simp [dVa] at h; subst h; simp only [RV] at q; subst q; exact ⟨.int b, rfl, Nat.le_refl _⟩
      | str b =>
        unfold dVa at h
        split at h
        · cases h; simp only [RV] at q; subst q; rename_i hb; exact ⟨.str b, by simpa [PyData.canLay0, PyData.strOk] using hb, Nat.le_refl _⟩
        · cases h
      | tup _ => simp [dVa] at h
      | ref _ => simp [dVa] at h
      | exc _ => simp [dVa] at h
    refine ⟨h1, fun vs => ?_⟩
    induction vs with
    | nil => intro ds xs h p; simp [dVas] at h; subst h; cases p; exact ⟨.nil, rfl, Nat.zero_le _⟩
    | cons v vs ih =>
      intro ds xs h p
      cases p with
      | cons q p =>
        unfold dVas at h
        split at h
        · rename_i d e
          split at h
          · rename_i ds' e'
            cases h
            obtain ⟨a1, a2, a3⟩ := h1 _ _ _ e q
            obtain ⟨b1, b2, b3⟩ := ih _ _ e' p
            exact ⟨.cons a1 b1, by simp [PyData.canLayAll0, a2, b2], by simp only [PyData.depthAll]; omega⟩
          · cases h
        · cases h
  | succ n ihn =>
    obtain ⟨_, ihs⟩ := ihn
    have h1 : ∀ (v : Va) (d : PyData) (x : V), dVa T (n + 1) v = some d → RV pl κ H v x → Dp K H x d ∧ d.canLay0 = true ∧ d.depth ≤ n + 1 := by
      intro v d x h q
      cases v with
      | non => simp [dVa] at h; subst h; simp only [RV] at q; subst q; exact ⟨.non, rfl, Nat.zero_le _⟩
      | bl b => simp [dVa] at h; subst h; simp only [RV] at q; subst q; exact ⟨.bl b, rfl, Nat.zero_le _⟩
      | int b => simp [dVa] at h; subst h; simp only [RV] at q; subst q; exact ⟨.int b, rfl, Nat.zero_le _⟩
      | str b =>
        unfold dVa at h
        split at h
        · cases h; simp only [RV] at q; subst q; rename_i hb; exact ⟨.str b, by simpa [PyData.canLay0, PyData.strOk] using hb, Nat.zero_le _⟩
        · cases h
      | tup vs =>
        simp only [RV] at q
        obtain ⟨p, xs, rfl, hp, q⟩ := q
        unfold dVa at h
        cases e : dVas T n vs with
        | none => rw [e] at h; cases h
        | some ds =>
          rw [e] at h; cases h
          obtain ⟨b1, b2, b3⟩ := ihs _ _ _ e (RVs.paired.mp q)
          exact ⟨.tup (SqT.of hp) b1, by simpa [PyData.canLay0] using b2, by simp only [PyData.depth]; omega⟩
      | ref ρ =>
        simp only [RV] at q
        obtain ⟨a, ka, rfl⟩ := q
        unfold dVa at h
        split at h
        · rename_i i l ts e
          split at h
          · rename_i xs el
            cases e2 : dVas T n xs with
            | none => rw [e2] at h; cases h
            | some ds =>
              rw [e2] at h; cases h
              obtain ⟨a', vs, ha, hl, hp⟩ := list_at r (s := .va (.ref ρ)) (fun _ z => by cases z) (ts := ts) (x := .ref a) (by simp [listOf, e]) (by simp only [RS, RV]; exact ⟨a, ka, rfl⟩)
              cases ha
              obtain ⟨b1, b2, b3⟩ := ihs _ _ _ e2 (leaves_paired el hp)
              exact ⟨.lst hl b1, by simpa [PyData.canLay0] using b2, by simp only [PyData.depth]; omega⟩
          · cases h
        · cases h
      | exc _ => simp [dVa] at h
    refine ⟨h1, fun vs => ?_⟩
    induction vs with
    | nil => intro ds xs h p; simp [dVas] at h; subst h; cases p; exact ⟨.nil, rfl, Nat.zero_le _⟩
    | cons v vs ih =>
      intro ds xs h p
      cases p with
      | cons q p =>
        unfold dVas at h
        split at h
        · rename_i d e
          split at h
          · rename_i ds' e'
            cases h
            obtain ⟨a1, a2, a3⟩ := h1 _ _ _ e q
            obtain ⟨b1, b2, b3⟩ := ih _ _ e' p
            exact ⟨.cons a1 b1, by simp [PyData.canLayAll0, a2, b2], by simp only [PyData.depthAll]; omega⟩
          · cases h
        · cases h
theorem shaped_of {d : PyData} {n : Nat} (h1 : d.canLay0 = true) (h2 : d.depth ≤ n) (h3 : n ≤ 64) : SeqAt.shaped d = true := by
  unfold SeqAt.shaped; simp [h1]; omega
theorem dSv_ok (r : RT K pl κ H T) {s : Sv} (d : ∀ t, s = .tr t → ∀ u ∈ t.shs, NdAt K pl κ H u) {x : V} {n : Nat} {e : PyData} (hn : n ≤ 60) (h : dSv T n s = some e) (q : RS pl κ H s x) : Dp K H x e ∧ SeqAt.shaped e = true := by
  cases s with
  | va v =>
    obtain ⟨h1, h2, h3⟩ := (data_ok r n).1 v e x h q
    exact ⟨h1, shaped_of h2 h3 (by omega)⟩
  | tr t =>
    unfold dSv at h
    split at h
    · rename_i z; cases z
    · rename_i i l ts z
      cases z
      split at h
      · rename_i xs el
        cases e2 : dVas T (n - 1) xs with
        | none => rw [e2] at h; cases h
        | some ds =>
          rw [e2] at h; cases h
          obtain ⟨a, vs, rfl, hl, hp⟩ := list_at r (s := .tr (.lst i l ts)) d (ts := ts) rfl q
          obtain ⟨b1, b2, b3⟩ := (data_ok r (n - 1)).2 _ _ _ e2 (leaves_paired el hp)
          exact ⟨.lst hl b1, shaped_of (n := n + 1) (by simpa [PyData.canLay0] using b2) (by simp only [PyData.depth]; omega) (by omega)⟩
      · cases h
    · cases h
end
section
variable {X : Cx} {pl : Pl} {W : WX}
def rC (K : PySem.W.Frag) (pl : Pl) (W : WX) (f : Sv → Sv → Tw → Res Bool) : R2 := fun x y H Q => ∃ κ0 H0 T0 κ T a b σ, Pt K pl κ0 H0 T0 κ H T (a.shs ++ b.shs) ∧ RS pl κ H a x ∧ RS pl κ H b y ∧ RunB K pl W (f a b T) κ0 H0 T0 σ fun r H' => Q (.bl r) H'
theorem eq_ok {pins : List (Addr × Obj)} {s : Shared} {σ' : St} {H : Hp} {x y : V} {v u : Value} {Q : VK} {a b : Sv} {κ0 κ : Ka} {H0 : Hp} {T0 T : Tw} {r : Bool} (hu : X.A.units + 64 < cLine) (I : Inv X pins σ' H s) (rx : RelV x v) (ry : RelV y u)
    (p : Pt X.K pl κ0 H0 T0 κ H T (a.shs ++ b.shs)) (qa : RS pl κ H a x) (qb : RS pl κ H b y) (h : eqSv T a b = some r) :
    (Q (.bl r) H → wpAny (model X.prog X.w) X.A (compareOp .Eq v u) (EP X pins σ' Q) X.xe s) ∧ (Q (.bl (!r)) H → wpAny (model X.prog X.w) X.A (compareOp .NotEq v u) (EP X pins σ' Q) X.xe s) := by
  have gen : ∀ d e, dSv T 60 a = some d → dSv T 60 b = some e → r = dEq d e → (Q (.bl r) H → wpAny (model X.prog X.w) X.A (compareOp .Eq v u) (EP X pins σ' Q) X.xe s) ∧ (Q (.bl (!r)) H → wpAny (model X.prog X.w) X.A (compareOp .NotEq v u) (EP X pins σ' Q) X.xe s) := fun d e h1 h2 h3 => by
    obtain ⟨a1, a2⟩ := dSv_ok p.r (p.hangs fun u hu => List.mem_append_left _ hu) (Nat.le_refl _) h1 qa
    obtain ⟨b1, b2⟩ := dSv_ok p.r (p.hangs fun u hu => List.mem_append_right _ hu) (Nat.le_refl _) h2 qb
    rw [dEq_eqv] at h3
    exact ⟨fun q => op_eqD hu pins s σ' H x y v u Q I rx ry ⟨d, e, a1, b1, a2, b2, h3 ▸ q⟩, fun q => op_neD hu pins s σ' H x y v u Q I rx ry ⟨d, e, a1, b1, a2, b2, h3 ▸ q⟩⟩
  unfold eqSv at h
  split at h
  · cases h
    have qa : x = _ := qa
    have qb : y = _ := qb
    subst qa qb
    have e : ∀ i j : Int, decide (V.int i = V.int j) = decide (i = j) := fun i j => by simp
    exact ⟨fun q => op_eq pins s σ' H _ _ v u Q I rx ry ⟨rfl, by rw [e]; exact q⟩, fun q => op_ne pins s σ' H _ _ v u Q I rx ry ⟨rfl, by rw [e]; exact q⟩⟩
  · cases h
    have qa : x = _ := qa
    have qb : y = _ := qb
    subst qa qb
    have e : ∀ i j : Str, decide (V.str i = V.str j) = decide (i = j) := fun i j => by simp
    exact ⟨fun q => op_eq pins s σ' H _ _ v u Q I rx ry ⟨rfl, by rw [e]; exact q⟩, fun q => op_ne pins s σ' H _ _ v u Q I rx ry ⟨rfl, by rw [e]; exact q⟩⟩
  · split at h
    · rename_i d e h1 h2
      cases h
      exact gen d e h1 h2 rfl
    · cases h
theorem rC_eq (hu : X.A.units + 64 < cLine) : OpR X (compareOp .Eq) (rC X.K pl W (opCmp .eq)) := by
  rintro pins s σ' H x y v u Q I rx ry ⟨κ0, H0, T0, κ, T, a, b, σ, p, qa, qb, h⟩
  unfold opCmp at h
  simp only at h
  cases e : eqSv T a b with
  | none => rw [e] at h; exact h.elim
  | some r => rw [e] at h; exact (eq_ok hu I rx ry p qa qb e).1 (p.bool h)
theorem rC_ne (hu : X.A.units + 64 < cLine) : OpR X (compareOp .NotEq) (rC X.K pl W (opCmp .ne)) := by
  rintro pins s σ' H x y v u Q I rx ry ⟨κ0, H0, T0, κ, T, a, b, σ, p, qa, qb, h⟩
  unfold opCmp at h
  simp only at h
  cases e : eqSv T a b with
  | none => rw [e] at h; exact h.elim
  | some r => rw [e] at h; exact (eq_ok hu I rx ry p qa qb e).2 (p.bool h)
theorem rC_int {op : CmpOp} {o : COp} (h : copI op = some o) : OpR X (compareOp op) (rC X.K pl W (opCmp o)) := by
  rintro pins s σ' H x y v u Q I rx ry ⟨κ0, H0, T0, κ, T, a, b, σ, p, qa, qb, hr⟩
  have two : (∀ i j, a = .va (.int i) → b = .va (.int j) → wpAny (model X.prog X.w) X.A (compareOp op v u) (EP X pins σ' Q) X.xe s) → wpAny (model X.prog X.w) X.A (compareOp op v u) (EP X pins σ' Q) X.xe s := fun f => by
    cases a with
    | tr _ => cases op <;> simp [copI] at h <;> subst h <;> exact hr.elim
    | va a =>
      cases a <;> first | (cases op <;> simp [copI] at h <;> subst h <;> exact hr.elim; done) | skip
      cases b with
      | tr _ => cases op <;> simp [copI] at h <;> subst h <;> exact hr.elim
      | va b =>
        cases b <;> first | (cases op <;> simp [copI] at h <;> subst h <;> exact hr.elim; done) | skip
        exact f _ _ rfl rfl
  refine two ?_
  rintro i j rfl rfl
  have qa : x = _ := qa
  have qb : y = _ := qb
  subst qa qb
  cases op <;> simp [copI] at h <;> subst h
  · exact op_lt pins s σ' H _ _ v u Q I rx ry ⟨i, j, rfl, rfl, p.bool hr⟩
  · exact op_le pins s σ' H _ _ v u Q I rx ry ⟨i, j, rfl, rfl, p.bool hr⟩
  · exact op_gt pins s σ' H _ _ v u Q I rx ry ⟨i, j, rfl, rfl, p.bool hr⟩
  · exact op_ge pins s σ' H _ _ v u Q I rx ry ⟨i, j, rfl, rfl, p.bool hr⟩
end
end AM
namespace AM
open PySem L2
section
variable {X : Cx} {pl : Pl} {W : WX}
/-- a built-in function's reading -/
def rF (K : PySem.W.Frag) (pl : Pl) (W : WX) (f : List Sv → Tw → Res Sv) : List V → Hp → VK → Prop := fun xs H Q => ∃ κ0 H0 T0 κ T ss σ, Pt K pl κ0 H0 T0 κ H T (shsS ss) ∧ RSs pl κ H ss xs ∧ RunS K pl W (f ss T) κ0 H0 T0 σ Q
theorem shsS_mem {s : Sv} {ss : List Sv} (h : s ∈ ss) : ∀ u ∈ s.shs, u ∈ shsS ss := by
  induction ss with
  | nil => cases h
  | cons a r ih =>
    intro u hu
    unfold shsS
    rcases List.mem_cons.mp h with e | e
    · subst e; exact List.mem_append_left _ hu
    · exact List.mem_append_right _ (ih e u hu)
theorem rss_one {κ : Ka} {H : Hp} {s : Sv} {xs : List V} (h : RSs pl κ H [s] xs) : ∃ x, xs = [x] ∧ RS pl κ H s x := by
  cases h with | cons h1 h2 => cases h2; exact ⟨_, rfl, h1⟩
theorem rss_two {κ : Ka} {H : Hp} {s t : Sv} {xs : List V} (h : RSs pl κ H [s, t] xs) : ∃ x y, xs = [x, y] ∧ RS pl κ H s x ∧ RS pl κ H t y := by
  cases h with | cons h1 h2 => obtain ⟨y, rfl, h3⟩ := rss_one h2; exact ⟨_, _, rfl, h1, h3⟩
/-- the object of a dict at a place -/
theorem dict_at {K : PySem.W.Frag} {κ : Ka} {H : Hp} {T : Tw} (r : RT K pl κ H T) {ρ : Rf} {id : Nat} {lk : Bool} {cs : List (Ky × Tr)} (h : T.at ρ = some (.nd id lk none cs)) {x : V} (q : RS pl κ H (.va (.ref ρ)) x) :
    ∃ a, x = .ref a ∧ κ ρ.id = some a ∧ ((∃ kvs, Rd H a (.dK kvs) ∧ PdK pl κ H cs kvs) ∨ ∃ kvs, Rd H a (.dT kvs) ∧ PdT pl κ H cs kvs) := by
  simp only [RS, RV] at q
  obtain ⟨a, ka, rfl⟩ := q
  obtain ⟨a', ka', nd⟩ := node_at r h
  rw [ka] at ka'; cases ka'
  refine ⟨a, rfl, ka, ?_⟩
  cases lk with
  | false => exact nd.2.imp (fun ⟨kvs, e, p⟩ => ⟨kvs, .inl e, p⟩) fun ⟨kvs, e, p⟩ => ⟨kvs, .inl e, p⟩
  | true => obtain ⟨_, o, nd⟩ := nd; exact nd.imp (fun ⟨kvs, e, p⟩ => ⟨kvs, .inr ⟨o, e⟩, p⟩) fun ⟨kvs, e, p⟩ => ⟨kvs, .inr ⟨o, e⟩, p⟩
theorem d_lenR {pins : List (Addr × Obj)} {σ' : St} {H : Hp} {s : Shared} {a : Addr} {kvs : List (Key × V)} {Q : VK} (I : Inv X pins σ' H s) (e : Rd H a (.dK kvs)) (q : Q (.int kvs.length) H) : wpAny (model X.prog X.w) X.A (call (.builtin "len") [.ref a]) (EP X pins σ' Q) X.xe s :=
  d_len I e fun t s' I' => ⟨.int kvs.length, H, I', ⟨t, rfl⟩, q⟩
theorem d_lenT {pins : List (Addr × Obj)} {σ' : St} {H : Hp} {s : Shared} {a : Addr} {kvs : List (List Key × V)} {Q : VK} (I : Inv X pins σ' H s) (e : Rd H a (.dT kvs)) (q : Q (.int kvs.length) H) : wpAny (model X.prog X.w) X.A (call (.builtin "len") [.ref a]) (EP X pins σ' Q) X.xe s := by
  obtain ⟨z, hd, xs, rel, dd⟩ := dt_rd I.hok e
  have hl : kvs.length = xs.length := Paired.len rel
  have h63 := line63
  refine call_len_dictH hd dd (by omega) ?_
  rw [← hl]
  exact ⟨.int kvs.length, H, I.tok _, ⟨_, rfl⟩, q⟩
theorem rF_len (hash : Ky → Int) : CallR X (.builtin "len") (rF X.K pl W (opBf hash .len)) := by
  rintro pins s σ' H xs us Q I r ⟨κ0, H0, T0, κ, T, ss, σ, p, q, h⟩
  have one : (∃ a, ss = [a]) ∨ opBf hash .len ss T = .bad := by
    match ss with
    | [] => exact .inr rfl
    | [a] => exact .inl ⟨a, rfl⟩
    | _ :: _ :: _ => exact .inr rfl
  rcases one with ⟨a, rfl⟩ | e
  · obtain ⟨x, rfl, qa⟩ := rss_one q
    have gen : (match dictOf T a with | some cs => RunS X.K pl W (okV (.int cs.length) T) κ0 H0 T0 σ Q | none => match listOf T a with | some ts => RunS X.K pl W (okV (.int ts.length) T) κ0 H0 T0 σ Q | none => False) → wpAny (model X.prog X.w) X.A (call (.builtin "len") us) (EP X pins σ' Q) X.xe s := by
      intro h
      cases e : dictOf T a with
      | some cs =>
        rw [e] at h
        unfold dictOf at e
        split at e
        · rename_i ρ
          split at e
          · cases e
            rename_i id lk e
            obtain ⟨a', rfl, ka, hd⟩ := dict_at p.r e qa
            rcases hd with ⟨kvs, hr, pk⟩ | ⟨kvs, hr, pk⟩
            · obtain ⟨u, rfl, ru⟩ := vals1 r
              cases ru
              exact d_lenR I hr (by rw [← Paired.len pk]; exact p.val h rfl)
            · obtain ⟨u, rfl, ru⟩ := vals1 r
              cases ru
              exact d_lenT I hr (by rw [← Paired.len pk]; exact p.val h rfl)
          · cases e
        · cases e
      | none =>
        rw [e] at h
        simp only at h
        cases e2 : listOf T a with
        | none => rw [e2] at h; exact h.elim
        | some ts =>
          rw [e2] at h
          obtain ⟨l, vs, rfl, hl, hp⟩ := list_at p.r (p.hangs fun u hu => by simpa [shsS] using hu) e2 qa
          exact call_len pins s σ' H _ us Q I r ⟨.ref l, ts.length, rfl, .inl ⟨vs, hl, Paired.len hp⟩, p.val h rfl⟩
    have other : (opBf hash .len [a] T = match dictOf T a with | some cs => okV (.int cs.length) T | none => match listOf T a with | some ts => okV (.int ts.length) T | none => .bad) → wpAny (model X.prog X.w) X.A (call (.builtin "len") us) (EP X pins σ' Q) X.xe s := fun e => by
      rw [e] at h
      refine gen ?_
      cases e1 : dictOf T a with
      | some cs => rw [e1] at h; exact h
      | none =>
        rw [e1] at h
        cases e2 : listOf T a with
        | some ts => rw [e2] at h; exact h
        | none => rw [e2] at h; exact h
    cases a with
    | tr t => exact other rfl
    | va v =>
      cases v with
      | tup vs =>
        simp only [RS, RV] at qa
        obtain ⟨t, ws, rfl, ht, qa⟩ := qa
        exact call_len pins s σ' H _ us Q I r ⟨.ref t, vs.length, rfl, .inr ⟨ws, SqT.of ht, Paired.len (RVs.paired.mp qa)⟩, p.val h rfl⟩
      | str z =>
        have qa : x = _ := qa
        subst qa
        unfold opBf at h
        simp only at h
        split at h
        · rename_i hl
          exact call_len pins s σ' H _ us Q I r ⟨.str z, z.length, rfl, ⟨by rw [← lim_eq]; exact hl, rfl⟩, p.val h rfl⟩
        · exact h.elim
      | _ => exact other rfl
  · rw [e] at h; exact h.elim
theorem two_ints {f : List Sv → Tw → Res Sv} {g : Int → Int → Int} {id : String} (hc : CallR X (.builtin id) fun xs H Q => ∃ i j, xs = [.int i, .int j] ∧ Q (.int (g i j)) H)
    (hf : ∀ ss T, (∃ i j, ss = [.va (.int i), .va (.int j)] ∧ f ss T = okV (.int (g i j)) T) ∨ f ss T = .bad) : CallR X (.builtin id) (rF X.K pl W f) := by
  rintro pins s σ' H xs us Q I r ⟨κ0, H0, T0, κ, T, ss, σ, p, q, h⟩
  rcases hf ss T with ⟨i, j, rfl, e⟩ | e
  · rw [e] at h
    obtain ⟨x, y, rfl, qa, qb⟩ := rss_two q
    have qa : x = _ := qa
    have qb : y = _ := qb
    subst qa qb
    exact hc pins s σ' H _ us Q I r ⟨i, j, rfl, p.val h rfl⟩
  · rw [e] at h; exact h.elim
theorem form2 {f : Bf} {hash : Ky → Int} {g : Int → Int → Int} (h1 : ∀ i j T, opBf hash f [.va (.int i), .va (.int j)] T = okV (.int (g i j)) T) (h0 : ∀ ss T, (¬ ∃ i j, ss = [.va (.int i), .va (.int j)]) → opBf hash f ss T = .bad) :
    ∀ ss T, (∃ i j, ss = [.va (.int i), .va (.int j)] ∧ opBf hash f ss T = okV (.int (g i j)) T) ∨ opBf hash f ss T = .bad := fun ss T => by
  by_cases e : ∃ i j, ss = [.va (.int i), .va (.int j)]
  · obtain ⟨i, j, rfl⟩ := e
    exact .inl ⟨i, j, rfl, h1 i j T⟩
  · exact .inr (h0 ss T e)
theorem rF_max (hash : Ky → Int) (hc : X.calm = true) : CallR X (.builtin "max") (rF X.K pl W (opBf hash .max)) := by
  refine two_ints (call_max2 hc) (form2 (fun _ _ _ => rfl) fun ss T hn => ?_)
  unfold opBf
  split <;> first | rfl | (exfalso; simp_all; done) | (exfalso; exact hn ⟨_, _, rfl⟩)
theorem rF_min (hash : Ky → Int) (hc : X.calm = true) : CallR X (.builtin "min") (rF X.K pl W (opBf hash .min)) := by
  refine two_ints (call_min2 hc) (form2 (fun _ _ _ => rfl) fun ss T hn => ?_)
  unfold opBf
  split <;> first | rfl | (exfalso; simp_all; done) | (exfalso; exact hn ⟨_, _, rfl⟩)
theorem rF_int (hash : Ky → Int) : CallR X (.type "int") (rF X.K pl W (opBf hash .int)) := by
  rintro pins s σ' H xs us Q I r ⟨κ0, H0, T0, κ, T, ss, σ, p, q, h⟩
  have two : (∃ i, ss = [.va (.int i)]) ∨ (∃ b, ss = [.va (.bl b)]) ∨ opBf hash .int ss T = .bad := by
    unfold opBf
    split <;> first | exact .inr (.inr rfl) | (rename_i h1 h2; exact .inl ⟨_, rfl⟩) | (exact .inl ⟨_, rfl⟩) | (exact .inr (.inl ⟨_, rfl⟩)) | (exfalso; simp_all; done)
  rcases two with ⟨i, rfl⟩ | ⟨b, rfl⟩ | e
  · obtain ⟨x, rfl, qa⟩ := rss_one q
    have qa : x = _ := qa
    subst qa
    exact call_int1 pins s σ' H _ us Q I r (.inl ⟨i, rfl, p.val h rfl⟩)
  · obtain ⟨x, rfl, qa⟩ := rss_one q
    have qa : x = _ := qa
    subst qa
    exact call_int1 pins s σ' H _ us Q I r (.inr ⟨b, rfl, p.val h rfl⟩)
  · rw [e] at h; exact h.elim
end
end AM
namespace AM
open PySem L2
/-! ### dicts -/
theorem KyK.iff {k k' : Ky} {a b : Key} (h : KyK k a) (h' : KyK k' b) : k = k' ↔ a = b := by
  cases k <;> cases k' <;> simp [KyK] at h h' <;> subst h h' <;> simp
theorem KyT.iff {k k' : Ky} {a b : List Key} (h : KyT k a) (h' : KyT k' b) : k = k' ↔ a = b := by
  cases k <;> cases k' <;> simp [KyT] at h h' <;> subst h h' <;> simp
section
variable {pl : Pl} {κ : Ka} {H : Hp} {μ : Type} [DecidableEq μ] {R : Ky → μ → Prop}
abbrev Pd (pl : Pl) (κ : Ka) (H : Hp) (R : Ky → μ → Prop) : List (Ky × Tr) → List (μ × V) → Prop := Paired fun c p => R c.1 p.1 ∧ Sl pl κ H c.2 p.2
theorem Pd.get (inj : ∀ k k' a b, R k a → R k' b → (k = k' ↔ a = b)) {k : Ky} {a : μ} (hk : R k a) : ∀ {cs : List (Ky × Tr)} {kvs : List (μ × V)}, Pd pl κ H R cs kvs →
    (∀ t, getK cs k = some t → ∃ v, valV kvs a = some v ∧ Sl pl κ H t v) ∧ (getK cs k = none → valV kvs a = none)
  | _, _, .nil => ⟨fun t h => by simp [getK] at h, fun _ => rfl⟩
  | (k', t') :: cs, (b, v) :: kvs, .cons ⟨q1, q2⟩ p => by
    have ih := Pd.get inj hk p
    have e := inj k' k b a q1 hk
    unfold getK
    by_cases h : k' = k
    · have hb := e.mp h
      simp only [if_pos h]
      exact ⟨fun t ht => by cases ht; exact ⟨v, valV_pos hb, q2⟩, fun z => by cases z⟩
    · have hb : ¬ b = a := fun z => h (e.mpr z)
      simp only [if_neg h]
      rw [valV_neg hb]
      exact ih
theorem Pd.mem (inj : ∀ k k' a b, R k a → R k' b → (k = k' ↔ a = b)) {k : Ky} {a : μ} (hk : R k a) {cs : List (Ky × Tr)} {kvs : List (μ × V)} (p : Pd pl κ H R cs kvs) : (valV kvs a).isSome = hasK cs k := by
  obtain ⟨h1, h2⟩ := Pd.get inj hk p
  unfold hasK
  cases e : getK cs k with
  | none => rw [h2 e]; rfl
  | some t => obtain ⟨v, hv, _⟩ := h1 t e; rw [hv]; rfl
theorem Pd.keys (inj : ∀ k k' a b, R k a → R k' b → (k = k' ↔ a = b)) : ∀ {cs : List (Ky × Tr)} {kvs : List (μ × V)}, Pd pl κ H R cs kvs → (cs.map (·.1)).Nodup → ∀ {k : Ky} {a : μ}, R k a → k ∉ cs.map (·.1) → ∀ p ∈ kvs, p.1 ≠ a
  | _, _, .nil, _, _, _, _, _, _, hp => by cases hp
  | (k', t') :: cs, (b, v) :: kvs, .cons ⟨q1, q2⟩ p, nd, k, a, hk, hn, q, hq => by
    simp at nd hn
    rcases List.mem_cons.mp hq with e | e
    · subst e; exact fun z => hn.1 ((inj k' k b a q1 hk).mpr z).symm
    · exact Pd.keys inj p nd.2 hk (by simpa using hn.2) q e
theorem putK_cons_pos {kvs : List (μ × V)} {b a : μ} {v y : V} (e : b = a) (h : ∀ p ∈ kvs, p.1 ≠ a) : putK ((b, v) :: kvs) a y = (b, y) :: kvs := by
  subst e
  unfold putK
  simp only [List.any_cons, decide_true, Bool.true_or, if_true, List.map_cons]
  congr 1
  conv => rhs; rw [← List.map_id kvs]
  exact List.map_congr_left fun p hp => by simp [h p hp]
theorem putK_cons_neg {kvs : List (μ × V)} {b a : μ} {v y : V} (e : ¬ b = a) : putK ((b, v) :: kvs) a y = (b, v) :: putK kvs a y := by
  unfold putK
  simp only [List.any_cons, e, decide_false, Bool.false_or, List.map_cons, if_false]
  split <;> rfl
theorem Pd.put (inj : ∀ k k' a b, R k a → R k' b → (k = k' ↔ a = b)) {k : Ky} {a : μ} (hk : R k a) {t : Tr} {y : V} (hy : Sl pl κ H t y) : ∀ {cs : List (Ky × Tr)} {kvs : List (μ × V)}, (cs.map (·.1)).Nodup → Pd pl κ H R cs kvs → Pd pl κ H R (setK cs k t) (putK kvs a y)
  | _, _, _, .nil => .cons ⟨hk, hy⟩ .nil
  | (k', t') :: cs, (b, v) :: kvs, nd, .cons ⟨q1, q2⟩ p => by
    have e := inj k' k b a q1 hk
    unfold setK
    simp only [List.map_cons, List.nodup_cons] at nd
    by_cases h : k' = k
    · rw [if_pos h, putK_cons_pos (e.mp h) (Pd.keys inj p nd.2 hk (h ▸ nd.1))]
      exact .cons ⟨q1, hy⟩ p
    · rw [if_neg h, putK_cons_neg fun z => h (e.mpr z)]
      exact .cons ⟨q1, q2⟩ (Pd.put inj hk hy nd.2 p)
theorem Pd.drop (inj : ∀ k k' a b, R k a → R k' b → (k = k' ↔ a = b)) {k : Ky} {a : μ} (hk : R k a) : ∀ {cs : List (Ky × Tr)} {kvs : List (μ × V)}, Pd pl κ H R cs kvs → Pd pl κ H R (delK cs k) (dropK kvs a)
  | _, _, .nil => .nil
  | (k', t') :: cs, (b, v) :: kvs, .cons ⟨q1, q2⟩ p => by
    have e := inj k' k b a q1 hk
    have ih := Pd.drop inj hk p
    unfold delK dropK at ih ⊢
    by_cases h : k' = k
    · have := e.mp h; simpa [List.filter_cons, h, this] using ih
    · have : ¬ b = a := fun z => h (e.mpr z)
      simp only [List.filter_cons, ne_eq, h, this, not_false_eq_true, decide_true, if_true]
      exact .cons ⟨q1, q2⟩ ih
end
theorem nodup_setK {cs : List (Ky × Tr)} {k : Ky} {t : Tr} (h : (cs.map (·.1)).Nodup) : ((setK cs k t).map (·.1)).Nodup := by
  have key : ∀ cs : List (Ky × Tr), (setK cs k t).map (·.1) = if hasK cs k then cs.map (·.1) else cs.map (·.1) ++ [k] := by
    intro cs
    unfold hasK
    induction cs with
    | nil => rfl
    | cons p r ih =>
      obtain ⟨k', v⟩ := p
      unfold setK getK
      by_cases e : k' = k
      · simp [e]
      · simp only [if_neg e, List.map_cons, ih]
        split <;> simp
  rw [key]
  split
  · exact h
  · rename_i hn
    have : k ∉ cs.map (·.1) := by
      clear key h
      unfold hasK at hn
      induction cs with
      | nil => simp
      | cons p r ih =>
        obtain ⟨k', v⟩ := p
        unfold getK at hn
        by_cases e : k' = k
        · simp [e] at hn
        · simp only [if_neg e] at hn
          simp only [List.map_cons, List.mem_cons, not_or]
          exact ⟨fun z => e z.symm, ih hn⟩
    rw [List.nodup_append]
    exact ⟨h, by simp, fun a ha b hb => by simp at hb; subst hb; rintro rfl; exact this ha⟩
theorem nodup_delK {cs : List (Ky × Tr)} {k : Ky} (h : (cs.map (·.1)).Nodup) : ((delK cs k).map (·.1)).Nodup := by
  unfold delK
  exact List.Sublist.nodup (List.Sublist.map _ List.filter_sublist) h
/-- a value as a key -/
theorem keyItems_ok {pl : Pl} {κ : Ka} {H : Hp} : ∀ {xs : List Va} {ks : List (Sum Int Str)} {vs : List V}, keyItems xs = some ks → Paired (RV pl κ H) xs vs → vs = ks.map kV
  | [], _, _, h, p => by simp [keyItems] at h; subst h; cases p; rfl
  | .int i :: xs, ks, vs, h, p => by
    unfold keyItems at h
    cases e : keyItems xs with
    | none => rw [e] at h; cases h
    | some r =>
      rw [e] at h; simp at h; subst h
      cases p with
      | cons q p =>
        simp only [RV] at q; subst q
        rw [keyItems_ok e p]; rfl
  | .str i :: xs, ks, vs, h, p => by
    unfold keyItems at h
    cases e : keyItems xs with
    | none => rw [e] at h; cases h
    | some r =>
      rw [e] at h; simp at h; subst h
      cases p with
      | cons q p =>
        simp only [RV] at q; subst q
        rw [keyItems_ok e p]; rfl
  | .non :: _, _, _, h, _ => by simp [keyItems] at h
  | .bl _ :: _, _, _, h, _ => by simp [keyItems] at h
  | .tup _ :: _, _, _, h, _ => by simp [keyItems] at h
  | .ref _ :: _, _, _, h, _ => by simp [keyItems] at h
  | .exc _ :: _, _, _, h, _ => by simp [keyItems] at h
theorem key_ok {pl : Pl} {κ : Ka} {H : Hp} {v : Va} {k : Ky} {y : V} (h : v.key = some k) (q : RV pl κ H v y) :
    k.isF = false ∧ ((k.isT = false ∧ ∃ a, KyK k a ∧ y = kV a) ∨ (k.isT = true ∧ ∃ a b, KyT k a ∧ y = .ref b ∧ H b = some (.tup (a.map kV)))) := by
  cases v with
  | int i => simp [Va.key] at h; subst h; simp only [RV] at q; subst q; exact ⟨rfl, .inl ⟨rfl, _, rfl, rfl⟩⟩
  | str i => simp [Va.key] at h; subst h; simp only [RV] at q; subst q; exact ⟨rfl, .inl ⟨rfl, _, rfl, rfl⟩⟩
  | tup xs =>
    simp only [Va.key] at h
    cases e : keyItems xs with
    | none => rw [e] at h; cases h
    | some r =>
      rw [e] at h; simp at h; subst h
      simp only [RV] at q
      obtain ⟨p, vs, rfl, hp, q⟩ := q
      exact ⟨rfl, .inr ⟨rfl, r, p, rfl, rfl, by rw [hp, keyItems_ok e (RVs.paired.mp q)]⟩⟩
  | _ => simp [Va.key] at h
theorem injK : ∀ k k' (a b : Key), KyK k a → KyK k' b → (k = k' ↔ a = b) := fun _ _ _ _ => KyK.iff
theorem injT : ∀ k k' (a b : List Key), KyT k a → KyT k' b → (k = k' ↔ a = b) := fun _ _ _ _ => KyT.iff
theorem kyK_T {k : Ky} {a : Key} (h : KyK k a) : k.isT = false := by cases k <;> simp [KyK, Ky.isT] at *
theorem kyT_T {k : Ky} {a : List Key} (h : KyT k a) : k.isT = true := by cases k <;> simp [KyT, Ky.isT] at *
section
variable {X : Cx} {pins : List (Addr × Obj)} {σ : St} {H : Hp} {s : Shared} {a : Addr}
/-- an empty dict may be of either kind -/
theorem _root_.L2.Inv.asT (I : Inv X pins σ H s) (e : H a = some (.dK [])) : Inv X pins σ (upd H a (.dT [])) s := by
  obtain ⟨z, y, vs, rel, o, es, ep, h1, h2, h3, h4, h5, h6⟩ := (show ObjOk X.prog X.w H s.heap a (.dK []) from I.hok a _ e)
  have hvs : vs = [] := by cases rel; rfl
  subst hvs
  have hes : es = #[] := by
    have : es.toList = [] := by
      cases q : es.toList with
      | nil => rfl
      | cons x r => rw [q] at h5; cases h5
    exact Array.toList_eq_nil_iff.mp this
  have := I.write (x := a) (e := a) (h' := s.heap) (t' := s.toks) (o := .dT []) (by rw [e]; trivial) (.inl rfl) (fun _ _ _ h => h) ⟨o, h1⟩ ⟨Nat.zero_le _, y, [], .nil, o, es, ep, h1, h2, h3, by rw [hes]; rfl, List.nodup_nil⟩
  exact this
theorem _root_.L2.Inv.asK (I : Inv X pins σ H s) (e : H a = some (.dT [])) : Inv X pins σ (upd H a (.dK [])) s := by
  obtain ⟨z, y, xs, rel, o, es, ep, h1, h2, h3, h4, h5⟩ := (show ObjOk X.prog X.w H s.heap a (.dT []) from I.hok a _ e)
  cases rel
  have hes : es = #[] := Array.toList_eq_nil_iff.mp h4
  subst hes
  have := I.write (x := a) (e := a) (h' := s.heap) (t' := s.toks) (o := .dK []) (by rw [e]; trivial) (.inl rfl) (fun _ _ _ h => h) ⟨o, h1⟩ ⟨Nat.zero_le _, y, [], .nil, o, #[], ep, h1, h2, h3, fun i hi => by simp at hi, by constructor, by simp⟩
  exact this
end
end AM
namespace AM
open PySem L2
def RdL (lk : Bool) (H : Hp) (a : Addr) (o : HO) : Prop := match lk with
  | false => H a = some o
  | true => ∃ ob, H a = some (.frz ob o)
theorem RdL.rd {lk : Bool} {H : Hp} {a : Addr} {o : HO} (h : RdL lk H a o) : Rd H a o := by
  cases lk with
  | false => exact .inl h
  | true => exact .inr h
def DictIs (lk : Bool) (pl : Pl) (κ : Ka) (H : Hp) (a : Addr) (cs : List (Ky × Tr)) (k : Ky) : Prop :=
  (k.isT = false ∧ ∃ kvs, RdL lk H a (.dK kvs) ∧ PdK pl κ H cs kvs) ∨ (k.isT = true ∧ ∃ kvs, RdL lk H a (.dT kvs) ∧ PdT pl κ H cs kvs)
section
variable {X : Cx} {pins : List (Addr × Obj)} {σ' : St} {s : Shared} {pl : Pl} {κ0 κ : Ka} {H0 H : Hp} {T0 T : Tw} {D : List Tr}
theorem getK_mem {β : Type} {cs : List (Ky × β)} {k : Ky} {t : β} (h : getK cs k = some t) : (k, t) ∈ cs := by
  induction cs with
  | nil => simp [getK] at h
  | cons c r ih =>
    obtain ⟨k', t'⟩ := c
    unfold getK at h
    by_cases z : k' = k
    · simp [z] at h; subst h; subst z; exact List.mem_cons_self
    · simp [z] at h; exact List.mem_cons_of_mem _ (ih h)
theorem pdK_kind {cs : List (Ky × Tr)} {kvs : List (Key × V)} (p : PdK pl κ H cs kvs) : ∀ q ∈ cs, q.1.isT = false := by
  induction p with
  | nil => intro q h; cases h
  | cons h _ ih =>
    intro q hq
    rcases List.mem_cons.mp hq with e | e
    · subst e; exact kyK_T h.1
    · exact ih q e
theorem pdT_kind {cs : List (Ky × Tr)} {kvs : List (List Key × V)} (p : PdT pl κ H cs kvs) : ∀ q ∈ cs, q.1.isT = true := by
  induction p with
  | nil => intro q h; cases h
  | cons h _ ih =>
    intro q hq
    rcases List.mem_cons.mp hq with e | e
    · subst e; exact kyT_T h.1
    · exact ih q e
theorem Pt.dictAs (p : Pt X.K pl κ0 H0 T0 κ H T D) (I : Inv X pins σ' H s) {ρ : Rf} {id : Nat} {lk : Bool} {cs : List (Ky × Tr)} {a : Addr} {k : Ky} (hat : T.at ρ = some (.nd id lk none cs)) (ka : κ ρ.id = some a) (hk : kindOk lk cs k = true) :
    ∃ H', Inv X pins σ' H' s ∧ Pt X.K pl κ0 H0 T0 κ H' T D ∧ Up κ H κ H' ∧ (cs.map (·.1)).Nodup ∧ DictIs lk pl κ H' a cs k := by
  obtain ⟨a', ka', nd⟩ := node_at p.r hat
  rw [ka] at ka'; cases ka'
  have hid : id = ρ.id := by obtain ⟨_, _, _, _, h⟩ := at_some.mp hat; exact h
  unfold kindOk at hk
  simp only [Bool.and_eq_true, List.all_eq_true, beq_iff_eq, Bool.or_eq_true, Bool.not_eq_true'] at hk
  obtain ⟨⟨hF, hall⟩, hl⟩ := hk
  -- retyped
  have re : ∀ (ho : HO), lk = false → cs = [] → (ho = .dK [] ∨ ho = .dT []) → Inv X pins σ' (upd H a ho) s → ∃ H', Inv X pins σ' H' s ∧ Pt X.K pl κ0 H0 T0 κ H' T D ∧ Up κ H κ H' ∧ H' a = some ho := by
    intro ho hlk hcs hho I'
    subst hlk hcs
    have new : Nd X.K pl κ (upd H a ho) a (.nd id false none []) := ⟨List.nodup_nil, by
      rcases hho with z | z
      · subst z; exact .inl ⟨[], upd_same, .nil⟩
      · subst z; exact .inr ⟨[], upd_same, .nil⟩⟩
    obtain ⟨r1, e1, _⟩ := p.r.write (n := .nd id false none []) hat rfl rfl rfl (by rw [show (Tr.nd id false none []).id = id from rfl, hid]; exact ka) p.r.det0 (fun s hs => .inl hs) (fun i => Nat.le_add_right _ _) (by rcases hho with z | z <;> subst z <;> exact fun h => h) new
    rw [put_at_self hat] at r1
    exact ⟨upd H a ho, I', ⟨p.r0, p.e.trans p.r0 e1, r1, p.d.mono p.r r1 e1, p.n⟩, e1.up, upd_same⟩
  cases lk with
  | false =>
    obtain ⟨nn, h⟩ := nd
    cases hkT : k.isT with
    | false =>
      rcases h with ⟨kvs, e, q⟩ | ⟨kvs, e, q⟩
      · exact ⟨H, I, p, Up.refl, nn, .inl ⟨hkT, kvs, e, q⟩⟩
      · cases q with
        | nil =>
          obtain ⟨H', I', p', u', e'⟩ := re (.dK []) rfl rfl (.inl rfl) (I.asK e)
          exact ⟨H', I', p', u', nn, .inl ⟨hkT, [], e', .nil⟩⟩
        | cons q1 q2 =>
          have h1 := hall _ List.mem_cons_self
          have h2 := kyT_T q1.1
          rw [h2, hkT] at h1; cases h1
    | true =>
      rcases h with ⟨kvs, e, q⟩ | ⟨kvs, e, q⟩
      · cases q with
        | nil =>
          obtain ⟨H', I', p', u', e'⟩ := re (.dT []) rfl rfl (.inr rfl) (I.asT e)
          exact ⟨H', I', p', u', nn, .inr ⟨hkT, [], e', .nil⟩⟩
        | cons q1 q2 =>
          have h1 := hall _ List.mem_cons_self
          have h2 := kyK_T q1.1
          rw [h2, hkT] at h1; cases h1
      · exact ⟨H, I, p, Up.refl, nn, .inr ⟨hkT, kvs, e, q⟩⟩
  | true =>
    obtain ⟨nn, o, h⟩ := nd
    refine ⟨H, I, p, Up.refl, nn, ?_⟩
    rcases h with ⟨kvs, e, q⟩ | ⟨kvs, e, q⟩
    · refine .inl ⟨?_, kvs, ⟨o, e⟩, q⟩
      cases cs with
      | nil => simp at hl
      | cons c cs => rw [← hall _ List.mem_cons_self]; exact pdK_kind q _ List.mem_cons_self
    · refine .inr ⟨?_, kvs, ⟨o, e⟩, q⟩
      cases cs with
      | nil => simp at hl
      | cons c cs => rw [← hall _ List.mem_cons_self]; exact pdT_kind q _ List.mem_cons_self
/-- what is asked of a dict by a key -/
theorem dget_of {lk : Bool} {a : Addr} {cs : List (Ky × Tr)} {k : Ky} {v : Va} {y : V} (hd : DictIs lk pl κ H a cs k) (hk : v.key = some k) (q : RV pl κ H v y) :
    ∃ o, DGet H a y o ∧ o.isSome = hasK cs k ∧ (∀ t, getK cs k = some t → ∃ x, o = some x ∧ Sl pl κ H t x) ∧ (getK cs k = none → o = none) := by
  obtain ⟨_, hq⟩ := key_ok hk q
  rcases hd with ⟨hT, kvs, e, p⟩ | ⟨hT, kvs, e, p⟩
  · rcases hq with ⟨_, b, h1, rfl⟩ | ⟨z, _⟩
    · refine ⟨valV kvs b, .inl ⟨kvs, b, e.rd, rfl, rfl⟩, Pd.mem injK h1 p, ?_⟩
      exact Pd.get injK h1 p
    · rw [hT] at z; cases z
  · rcases hq with ⟨z, _⟩ | ⟨_, b, c, h1, rfl, h3⟩
    · rw [hT] at z; cases z
    · refine ⟨valV kvs b, .inr ⟨kvs, b, c, e.rd, rfl, h3, rfl⟩, Pd.mem injT h1 p, ?_⟩
      exact Pd.get injT h1 p
/-- a slot's value, out of its reference -/
theorem slotV_ok {ρ : Rf} {k : Ky} {t : Tr} {x : V} (h : Sl pl κ H t x) : RV pl κ H (slotV ρ k t) x := by
  cases t with
  | lf v => exact h
  | lst i l xs => simp only [slotV, RV]; exact h
  | nd i l hd cs => simp only [slotV, RV]; exact h
end
section
variable {X : Cx} {pl : Pl} {W : WX}
/-- two values, with what is known of them -/
def rBP (K : PySem.W.Frag) (pl : Pl) (W : WX) (P : Sv → Sv → Tw → Prop) (f : Sv → Sv → Tw → Res Sv) : R2 := fun x y H Q => ∃ κ0 H0 T0 κ T a b σ, P a b T ∧ Pt K pl κ0 H0 T0 κ H T (a.shs ++ b.shs) ∧ RS pl κ H a x ∧ RS pl κ H b y ∧ RunS K pl W (f a b T) κ0 H0 T0 σ Q
theorem tE.binP {K : PySem.W.Frag} {P : Sv → Sv → Tw → Prop} {ma mb : Sg → Tw → Res Sv} {f : Sv → Sv → Tw → Res Sv} {σ : St} {H : Hp} {Q : VK} {κ : Ka} {σa : Sg} {T : Tw} (r : RT K pl κ H T) (l : RL pl κ H σa σ)
    (h : RunS K pl W ((ma σa T).bind fun x T => (mb σa T).bind fun y T => f x y T) κ H T σ Q) (hP : ∀ a T1 b T2, ma σa T = .ok a T1 → mb σa T1 = .ok b T2 → P a b T2) :
    tE K pl W ma σ H fun x H1 => tE K pl W mb σ H1 fun y H2 => rBP K pl W P f x y H2 Q := by
  refine ⟨κ, σa, T, r, l, ?_⟩
  cases e1 : ma σa T with
  | ex c T' => rw [e1] at h; exact h
  | bad => rw [e1] at h; exact h
  | ok a T1 =>
    rw [e1] at h
    intro x H1 κ1 x1 r1 d1 n1 q1
    refine ⟨κ1, σa, T1, r1, l.mono x1.up, ?_⟩
    have h : RunS K pl W ((mb σa T1).bind fun y T => f a y T) κ H T σ Q := h
    cases e2 : mb σa T1 with
    | ex c T' => rw [e2] at h; exact Run.later (r := .ex c T') r x1 h
    | bad => rw [e2] at h; exact h.elim
    | ok b T2 =>
      rw [e2] at h
      intro y H2 κ2 x2 r2 d2 n2 q2
      exact ⟨κ, H, T, κ2, T2, a, b, σ, hP a T1 b T2 e1 e2, ((Pt.start r).step x1 r1 d1 n1).step x2 r2 d2 n2, q1.mono x2.up, q2, h⟩
/-- is it a dict's place -/
def isDict (a : Sv) (T : Tw) : Prop := ∃ ρ id lk cs, a = .va (.ref ρ) ∧ T.at ρ = some (.nd id lk none cs)
theorem ixAt_ixN (n : Nat) (i : Int) : ixAt n i = ixN n i := by
  unfold ixAt ixN
  by_cases h : 0 ≤ i
  · simp only [if_pos h]
    by_cases h2 : i.toNat < n
    · rw [if_pos h2, if_pos (by omega)]
    · rw [if_neg h2, if_neg (by omega)]
  · simp only [if_neg h]
    by_cases h2 : (-i).toNat ≤ n
    · rw [if_pos h2, if_pos (by omega)]; congr 1; omega
    · rw [if_neg h2, if_neg (by omega)]
theorem atI_of {α : Type} {xs : List α} {i : Int} {n : Nat} {v : α} (h : ixAt xs.length i = some n) (h2 : xs[n]? = some v) : atI xs i = some v := by
  unfold atI; rw [← ixAt_ixN, h]; exact h2
theorem Paired.get' {α β : Type} {F : α → β → Prop} {l₁ : List α} {l₂ : List β} (h : Paired F l₁ l₂) : ∀ {i : Nat} {a : α}, l₁[i]? = some a → ∃ b, l₂[i]? = some b ∧ F a b := paired_get h
/-- xs[i], t[i] -/
theorem rB_ix : ∀ (x y : V) (H : Hp) (Q : VK), rBP X.K pl W (fun a _ T => ¬ isDict a T) opIx x y H Q → rIxL X.K x y H Q ∨ rIxT X.K x y H Q := by
  rintro x y H Q ⟨κ0, H0, T0, κ, T, a, b, σ, hn, p, qa, qb, h⟩
  cases b with
  | tr _ => exact h.elim
  | va i =>
    unfold opIx at h
    simp only at h
    split at h
    · rename_i id lk ts
      split at h
      · rename_i j
        cases e : ixAt ts.length j with
        | none => rw [e] at h; exact h.elim
        | some n =>
          rw [e] at h; simp only at h
          have qb : y = _ := qb
          subst qb
          obtain ⟨l, vs, rfl, hl, hp⟩ := list_at p.r (p.hangs fun u hu => List.mem_append_left _ hu) (s := .tr (.lst id lk ts)) rfl qa
          split at h
          · rename_i v e2
            obtain ⟨w, hw, q⟩ := Paired.get' hp e2
            exact .inl ⟨l, vs, j, w, rfl, rfl, hl, atI_of (by rw [← Paired.len hp]; exact e) hw, p.val h q⟩
          · exact h.elim
      · exact h.elim
    · rename_i xs
      split at h
      · rename_i j
        cases e : ixAt xs.length j with
        | none => rw [e] at h; exact h.elim
        | some n =>
          rw [e] at h; simp only at h
          have qb : y = _ := qb
          subst qb
          simp only [RS, RV] at qa
          obtain ⟨t, vs, rfl, ht, qa⟩ := qa
          have hp := RVs.paired.mp qa
          split at h
          · rename_i v e2
            obtain ⟨w, hw, q⟩ := Paired.get' hp e2
            exact .inr ⟨t, vs, j, w, rfl, rfl, SqT.of ht, atI_of (by rw [← Paired.len hp]; exact e) hw, p.val h q⟩
          · exact h.elim
      · exact h.elim
    · rename_i ρ
      split at h
      · rename_i id lk ts e0
        split at h
        · rename_i j
          cases e : ixAt ts.length j with
          | none => rw [e] at h; exact h.elim
          | some n =>
            rw [e] at h; simp only at h
            have qb : y = _ := qb
            subst qb
            obtain ⟨l, vs, rfl, hl, hp⟩ := list_at p.r (s := .va (.ref ρ)) (ts := ts) (fun _ z => by cases z) (by simp [listOf, e0]) qa
            split at h
            · rename_i t e2
              obtain ⟨w, hw, q⟩ := Paired.get' hp e2
              exact .inl ⟨l, vs, j, w, rfl, rfl, hl, atI_of (by rw [← Paired.len hp]; exact e) hw, p.val h (slotV_ok q)⟩
            · exact h.elim
        · exact h.elim
      · rename_i id lk cs e0
        exact absurd ⟨ρ, id, lk, cs, rfl, e0⟩ hn
      · exact h.elim
    · exact h.elim
/-- d[k] -/
theorem rB_dget : ∀ (x y : V) (H : Hp) (Q : VK), rBP X.K pl W (fun a _ T => isDict a T) opIx x y H Q → ∃ a v, x = .ref a ∧ DGet H a y (some v) ∧ Q v H := by
  rintro x y H Q ⟨κ0, H0, T0, κ, T, a, b, σ, hn, p, qa, qb, h⟩
  obtain ⟨ρ, id, lk, cs, rfl, e0⟩ := hn
  cases b with
  | tr _ => exact h.elim
  | va i =>
    unfold opIx at h
    simp only [e0] at h
    cases e : i.key with
    | none => rw [e] at h; exact h.elim
    | some k =>
      rw [e] at h; simp only at h
      cases e2 : getK cs k with
      | none => rw [e2] at h; exact h.elim
      | some t =>
        rw [e2] at h; simp only at h
        obtain ⟨a', rfl, ka, hd⟩ := dict_at p.r e0 qa
        have km : ∃ q ∈ cs, q.1 = k := ⟨_, getK_mem e2, rfl⟩
        obtain ⟨_, hq⟩ := key_ok e qb
        obtain ⟨q, hqm, hqe⟩ := km
        rcases hd with ⟨kvs, hr, pk⟩ | ⟨kvs, hr, pk⟩
        · rcases hq with ⟨_, b, h1, rfl⟩ | ⟨z, _⟩
          · obtain ⟨w, hw, hs⟩ := (Pd.get injK h1 pk).1 t e2
            exact ⟨a', w, rfl, .inl ⟨kvs, b, hr, rfl, hw.symm⟩, p.val h (slotV_ok hs)⟩
          · have := pdK_kind pk q hqm; rw [hqe, z] at this; cases this
        · rcases hq with ⟨z, _⟩ | ⟨_, b, c, h1, rfl, h3⟩
          · have := pdT_kind pk q hqm; rw [hqe, z] at this; cases this
          · obtain ⟨w, hw, hs⟩ := (Pd.get injT h1 pk).1 t e2
            exact ⟨a', w, rfl, .inr ⟨kvs, b, c, hr, rfl, h3, hw.symm⟩, p.val h (slotV_ok hs)⟩
end
end AM
namespace AM
open PySem L2
section
variable {X : Cx} {L : Link} {n : Nat} {W : WX}
/-! ### small rules over the readings -/
variable {K : PySem.W.Frag} {pl : Pl}
theorem tE.var {i : Nat} {σ : St} {H : Hp} {Q : VK} (h : tE K pl W (fun σ T => match σ.get i with | some v => .ok (.va v) T | none => .bad) σ H Q) : tVar i σ H Q := by
  obtain ⟨κ, σa, T, r, l, h⟩ := h
  dsimp only at h
  cases e : σa.get i with
  | none => rw [e] at h; exact h.elim
  | some v =>
    rw [e] at h
    obtain ⟨x, hx, q⟩ := l.get e
    exact ⟨x, hx, (Pt.start r).val h q⟩
theorem tE.cst {c : Va} {x : V} {σ : St} {H : Hp} {Q : VK} (hc : ∀ κ H, RV pl κ H c x) (h : tE K pl W (fun _ T => .ok (.va c) T) σ H Q) : tC x σ H Q := by
  obtain ⟨κ, σa, T, r, l, h⟩ := h
  exact (Pt.start r).val h (hc _ _)
/-- one operand, a function of its value -/
theorem tE.un {β : Type} {f : Sv → Tw → Res Sv} {m : Sg → Tw → Res Sv} {σ : St} {H : Hp} {Q : VK} (h : tE K pl W (fun σ T => (m σ T).bind fun x T => f x T) σ H Q) :
    tE K pl W m σ H fun x H1 => ∃ κ0 H0 T0 κ T a, Pt K pl κ0 H0 T0 κ H1 T a.shs ∧ RS pl κ H1 a x ∧ RunS K pl W (f a T) κ0 H0 T0 σ Q := by
  obtain ⟨κ, σa, T, r, l, h⟩ := h
  refine ⟨κ, σa, T, r, l, (Run.bind r Ext.refl h).imp ?_⟩
  rintro x H1 ⟨κ1, a, T1, e1, r1, d1, n1, q1, h1⟩
  exact ⟨κ, H, T, κ1, T1, a, by simpa using (Pt.start r).step e1 r1 d1 n1, q1, h1⟩
/-- a comparison: two operands, a truth -/
theorem tE.cmp {ma mb : Sg → Tw → Res Sv} {f : Sv → Sv → Tw → Res Bool} {σ : St} {H : Hp} {Q : VK} (h : tE K pl W (fun σ T => (ma σ T).bind fun x T => (mb σ T).bind fun y T => (f x y T).bind fun r T => .ok (.va (.bl r)) T) σ H Q) :
    tE K pl W ma σ H fun x H1 => tE K pl W mb σ H1 fun y H2 => rC K pl W f x y H2 Q := by
  obtain ⟨κ, σa, T, r, l, h⟩ := h
  refine ⟨κ, σa, T, r, l, (Run.bind r Ext.refl h).imp ?_⟩
  rintro x H1 ⟨κ1, a, T1, e1, r1, d1, n1, q1, h1⟩
  refine ⟨κ1, σa, T1, r1, l.mono e1.up, (Run.bind r e1 h1).imp ?_⟩
  rintro y H2 ⟨κ2, b, T2, e2, r2, d2, n2, q2, h2⟩
  refine ⟨κ, H, T, κ2, T2, a, b, σ, (((Pt.start r).step e1 r1 d1 n1)).step e2 r2 d2 n2, q1.mono e2.up, q2, ?_⟩
  cases e3 : f a b T2 with
  | ok c T3 => rw [e3] at h2; exact fun y' H' κ' x' r' d' n' q' => h2 _ _ _ x' r' r'.det0 (fun _ h => absurd h (by simp [Sv.shs])) (by simp only [RS, RV]; exact congrArg V.bl q'.symm)
  | ex c T3 => rw [e3] at h2; exact h2
  | bad => rw [e3] at h2; exact h2
/-- .. as a test -/
theorem tT.cmp {ma mb : Sg → Tw → Res Sv} {f : Sv → Sv → Tw → Res Bool} {σ : St} {H : Hp} {Q : Bool → Hp → Prop} (h : tT K pl W (fun σ T => ((ma σ T).bind fun x T => (mb σ T).bind fun y T => (f x y T).bind fun r T => .ok (.va (.bl r)) T).bind fun s T => truth s T) σ H Q) :
    tTest (tOp (rC K pl W f) (tE K pl W ma) (tE K pl W mb)) σ H Q := by
  refine tE.cmp ?_
  obtain ⟨κ, σa, T, r, l, h⟩ := h
  refine ⟨κ, σa, T, r, l, ?_⟩
  dsimp only at h ⊢
  cases e1 : ma σa T with
  | ex c T1 => rw [e1] at h; exact h
  | bad => rw [e1] at h; exact h
  | ok a T1 =>
    rw [e1] at h
    simp only [bind_ok] at h ⊢
    cases e2 : mb σa T1 with
    | ex c T1 => rw [e2] at h; exact h
    | bad => rw [e2] at h; exact h
    | ok b T2 =>
      rw [e2] at h
      simp only [bind_ok] at h ⊢
      cases e3 : f a b T2 with
      | ex c T1 => rw [e3] at h; exact h
      | bad => rw [e3] at h; exact h
      | ok c T3 =>
        rw [e3] at h
        simp only [bind_ok, truth] at h ⊢
        exact fun y H' κ' x r' d n q => ⟨c, q, h c H' κ' x r' r'.det0 (fun _ h => absurd h (by simp)) rfl⟩
/-- a truth as a test -/
theorem tT.val {m : Sg → Tw → Res Sv} {σ : St} {H : Hp} {Q : Bool → Hp → Prop} (h : tT K pl W (fun σ T => (m σ T).bind fun s T => truth s T) σ H Q) : tB (tE K pl W m) σ H Q := by
  obtain ⟨κ, σa, T, r, l, h⟩ := h
  refine ⟨κ, σa, T, r, l, ?_⟩
  dsimp only at h ⊢
  cases e1 : m σa T with
  | ex c T1 => rw [e1] at h; exact h
  | bad => rw [e1] at h; exact h
  | ok s T1 =>
    rw [e1] at h
    simp only [bind_ok] at h
    have tr : (∃ b, s = .va (.bl b)) ∨ truth s T1 = .bad := by
      cases s with
      | tr t => exact .inr rfl
      | va v => cases v <;> first | exact .inr rfl | exact .inl ⟨_, rfl⟩
    rcases tr with ⟨b, rfl⟩ | e
    · exact fun y H' κ' x r' d n q => ⟨b, q, h b H' κ' x r' r'.det0 (fun _ h => absurd h (by simp)) rfl⟩
    · rw [e] at h; exact h.elim
/-- arguments -/
theorem tA.nil {σ : St} {H : Hp} {Q : List V → Hp → Prop} (h : tA K pl W (fun _ T => .ok [] T) σ H Q) : tNil σ H Q := by
  obtain ⟨κ, σa, T, r, l, h⟩ := h
  exact h [] H κ Ext.refl r r.det0 (fun _ h => absurd h (by simp [shsS])) .nil
theorem tA.cons {m : Sg → Tw → Res Sv} {ms : Sg → Tw → Res (List Sv)} {σ : St} {H : Hp} {Q : List V → Hp → Prop} (h : tA K pl W (fun σ T => (m σ T).bind fun s T => (ms σ T).bind fun ss T => .ok (s :: ss) T) σ H Q) : tCons (tE K pl W m) (tA K pl W ms) σ H Q := by
  obtain ⟨κ, σa, T, r, l, h⟩ := h
  refine ⟨κ, σa, T, r, l, (Run.bind r Ext.refl h).imp ?_⟩
  rintro x H1 ⟨κ1, a, T1, e1, r1, d1, n1, q1, h1⟩
  refine ⟨κ1, σa, T1, r1, l.mono e1.up, (Run.bind r e1 h1).imp ?_⟩
  rintro xs H2 ⟨κ2, b, T2, e2, r2, d2, n2, q2, h2⟩
  have p := (((Pt.start r).step e1 r1 d1 n1)).step e2 r2 d2 n2
  exact h2 (x :: xs) H2 κ2 p.e p.r (by simpa [shsS] using p.d) (by simpa [shsS] using p.n) (.cons (q1.mono e2.up) q2)
/-- arguments, then a function of them -/
theorem tA.then {ms : Sg → Tw → Res (List Sv)} {f : List Sv → Tw → Res Sv} {σ : St} {H : Hp} {Q : VK} (h : tE K pl W (fun σ T => (ms σ T).bind fun ss T => f ss T) σ H Q) :
    tA K pl W ms σ H fun xs H1 => rF K pl W f xs H1 Q := by
  obtain ⟨κ, σa, T, r, l, h⟩ := h
  refine ⟨κ, σa, T, r, l, (Run.bind r Ext.refl h).imp ?_⟩
  rintro xs H1 ⟨κ1, a, T1, e1, r1, d1, n1, q1, h1⟩
  exact ⟨κ, H, T, κ1, T1, a, σ, by simpa using (Pt.start r).step e1 r1 d1 n1, q1, h1⟩
/-- trees at hand are hung up as roots -/
theorem Pt.settle {κ0 κ : Ka} {H0 H : Hp} {T0 T : Tw} {D : List Tr} {s : Sv} {x : V} {v : Va} {T' : Tw} (p : Pt K pl κ0 H0 T0 κ H T (s.shs ++ D)) (q : RS pl κ H s x) (h : settle s T = .ok v T') : Pt K pl κ0 H0 T0 κ H T' D ∧ RV pl κ H v x := by
  cases s with
  | va a => cases h; exact ⟨by simpa [Sv.shs] using p, q⟩
  | tr t =>
    cases h
    have dt : Det K pl κ H T t.shs := p.d.left
    have nt : Nw κ0 T0 t.shs := fun i hi => p.n i (by simp [Sv.shs]; omega)
    have e : (T.new t).shs = T.shs ++ t.shs := by simp [Tw.shs, Tw.new, shsR]
    have r1 : RT K pl κ H (T.new t) := by
      refine ⟨fun s hs => ?_, fun i => ?_, p.r.lt, p.r.inj, p.r.dom, p.r.pos, fun s hs h0 => ?_, Base.new p.r.base⟩
      · rw [e] at hs; exact (List.mem_append.mp hs).elim (p.r.nd s) (dt.nd s)
      · rw [e]; have := dt.one i; simp; omega
      · rw [e] at hs
        rcases List.mem_append.mp hs with z | z
        · exact p.r.zero s z h0
        · exact absurd h0 (dt.free s z)
    refine ⟨⟨p.r0, ⟨p.e.up, p.e.keep, p.e.dom, p.e.new, fun i hi => ?_⟩, r1, ⟨fun u hu => p.d.nd u (List.mem_append_right _ hu), fun i => ?_, fun u hu => p.d.free u (List.mem_append_right _ hu)⟩, fun i hi => p.n i (by simp; omega)⟩, ?_⟩
    · rw [e] at hi; simp at hi
      rcases (show 0 < cnt i T.shs ∨ 0 < cnt i t.shs by omega) with z | z
      · exact p.e.ids i z
      · exact nt i z
    · rw [e]; have := p.d.one i; simp [Sv.shs] at this ⊢; omega
    · simp only [RV, Tw.newRef]
      exact (Sl.node (isNode_free q.1)).mp q.2
theorem Pt.settleAll {κ0 κ : Ka} {H0 H : Hp} {T0 : Tw} : ∀ {ss : List Sv} {xs : List V} {vs : List Va} {T' : Tw} {T : Tw}, Pt K pl κ0 H0 T0 κ H T (shsS ss) → RSs pl κ H ss xs → settleAll ss T = .ok vs T' → Pt K pl κ0 H0 T0 κ H T' [] ∧ Paired (RV pl κ H) vs xs
  | [], _, _, _, T, p, q, h => by cases h; cases q; exact ⟨p, .nil⟩
  | s :: ss, _, vs, T', T, p, .cons q qs, h => by
    unfold AM.settleAll at h
    cases e : AM.settle s T with
    | ok v T1 =>
      rw [e] at h; simp only [bind_ok] at h
      obtain ⟨p1, qv⟩ := Pt.settle (D := shsS ss) p q e
      cases e2 : AM.settleAll ss T1 with
      | ok vs' T2 =>
        rw [e2] at h; simp only [bind_ok] at h; cases h
        obtain ⟨p2, qvs⟩ := Pt.settleAll p1 qs e2
        exact ⟨p2, .cons qv qvs⟩
      | ex c T2 => rw [e2] at h; cases h
      | bad => rw [e2] at h; cases h
    | ex c T1 => rw [e] at h; cases h
    | bad => rw [e] at h; cases h
theorem settleAll_ok (ss : List Sv) (T : Tw) : ∃ vs T', AM.settleAll ss T = .ok vs T' := by
  induction ss generalizing T with
  | nil => exact ⟨[], T, rfl⟩
  | cons s ss ih =>
    cases s with
    | va v => obtain ⟨vs, T', e⟩ := ih T; exact ⟨v :: vs, T', by simp [AM.settleAll, e]⟩
    | tr t => obtain ⟨vs, T', e⟩ := ih (T.new t); exact ⟨T.newRef t :: vs, T', by simp [AM.settleAll, e]⟩
end
end AM
namespace AM
open PySem L2
section
variable {X : Cx} {L : Link} {n : Nat} {W : WX}
theorem Phi_np {Ev : AM.Env} {P : Nat → Option Def} {n code : Nat} {vs : List Va} {T : Tw} (h : Phi Ev P n code vs T ≠ .bad) : ∃ d, P code = some d ∧ vs.length = d.np := by
  cases n with
  | zero => exact absurd rfl h
  | succ n =>
    unfold Phi at h
    cases e : P code with
    | none => rw [e] at h; exact absurd rfl h
    | some d =>
      rw [e] at h
      refine ⟨d, rfl, ?_⟩
      unfold runDef at h
      simp only at h
      split at h
      · assumption
      · exact absurd rfl h
/-- from the machine to a def's promise -/
theorem spOf_of {K : PySem.W.Frag} {κ0 κ : Ka} {H0 H : Hp} {T0 T : Tw} {code : Nat} {vs : List Va} {xs : List V} {σ : St} {Q : VK} (p : Pt K L.pl κ0 H0 T0 κ H T []) (q : Paired (RV L.pl κ H) vs xs)
    (h : RunS K L.pl W (Phi L.Ev L.P n code vs T) κ0 H0 T0 σ Q) : spOf K L n code xs H Q (WE W σ) := by
  have hb : Phi L.Ev L.P n code vs T ≠ .bad := fun e => by rw [e] at h; exact h
  refine ⟨κ, T, vs, p.r, q, Phi_np hb, ?_⟩
  have h' := Run.later p.r0 p.e h
  cases e : Phi L.Ev L.P n code vs T with
  | ok s T' => rw [e] at h'; exact h'
  | ex c T' => rw [e] at h'; exact h'
  | bad => exact absurd e hb
/-- what a call's arguments are, then the call -/
theorem rF_call {K : PySem.W.Frag} {code : Nat} {xs : List V} {H : Hp} {Q : VK} {σ : St} (h : ∃ κ0 H0 T0 κ T ss, Pt K L.pl κ0 H0 T0 κ H T (shsS ss) ∧ RSs L.pl κ H ss xs ∧ RunS K L.pl W ((settleAll ss T).bind fun vs T => Phi L.Ev L.P n code vs T) κ0 H0 T0 σ Q) :
    spOf K L n code xs H Q (WE W σ) := by
  obtain ⟨κ0, H0, T0, κ, T, ss, p, q, h⟩ := h
  obtain ⟨vs, T', e⟩ := settleAll_ok ss T
  rw [e] at h
  obtain ⟨p', q'⟩ := Pt.settleAll p q e
  exact spOf_of p' q' h
theorem tA.call {K : PySem.W.Frag} {ms : Sg → Tw → Res (List Sv)} {f : List Sv → Tw → Res Sv} {σ : St} {H : Hp} {Q : VK} (h : tE K L.pl W (fun σ T => (ms σ T).bind fun ss T => f ss T) σ H Q) :
    tA K L.pl W ms σ H fun xs H1 => ∃ κ0 H0 T0 κ T ss, Pt K L.pl κ0 H0 T0 κ H1 T (shsS ss) ∧ RSs L.pl κ H1 ss xs ∧ RunS K L.pl W (f ss T) κ0 H0 T0 σ Q := by
  obtain ⟨κ, σa, T, r, l, h⟩ := h
  refine ⟨κ, σa, T, r, l, (Run.bind r Ext.refl h).imp ?_⟩
  rintro xs H1 ⟨κ1, a, T1, e1, r1, d1, n1, q1, h1⟩
  exact ⟨κ, H, T, κ1, T1, a, by simpa using (Pt.start r).step e1 r1 d1 n1, q1, h1⟩
variable (G : Good X L n W)
include G
theorem Good.hu : X.A.units + 64 < cLine := G.room.units
omit G in
/-- no arguments -/
theorem tA.call0 {K : PySem.W.Frag} {f : List Sv → Tw → Res Sv} {σ : St} {H : Hp} {Q : VK} (h : tE K L.pl W (fun σ T => (Res.ok [] T).bind fun ss T => f ss T) σ H Q) :
    ∃ κ0 H0 T0 κ T ss, Pt K L.pl κ0 H0 T0 κ H T (shsS ss) ∧ RSs L.pl κ H ss [] ∧ RunS K L.pl W (f ss T) κ0 H0 T0 σ Q := by
  obtain ⟨κ, σa, T, r, l, h⟩ := h
  exact ⟨κ, H, T, κ, T, [], Pt.start r, .nil, h⟩
/-- f(..), f an own def -/
theorem s_call0 {x : Str} {c : Nat} {p pos : Pos} (hg : Gl X x) (hx : dbg x = false) (hc : lookS L.C.fns x = some c) :
    PE X (.Call (.Name x p) [] [] pos) (tE X.K L.pl W fun σ T => (Res.ok [] T).bind fun ss T => (settleAll ss T).bind fun vs T => Phi L.Ev L.P n c vs T) := by
  obtain ⟨f, hm, hk, ⟨fd, ps, hb, F⟩⟩ := G.lk.fn x c hc
  obtain ⟨hd, _, _⟩ := dbg_of hx
  refine ⟨fun pins s σ H Q I h => wpAny_Call_Name_kw (ld_glob I hg hm (PySem.W.callWith_K0 I.kIn hk ?_) hd)⟩
  exact run_fnS (us := []) F (G.room.mono (by omega)) hb (passAt G.tk σ) I .nil (rF_call (tA.call0 (f := fun ss T => (settleAll ss T).bind fun vs T => Phi L.Ev L.P n c vs T) h))
theorem s_call {x : Str} {c : Nat} {e : Expr} {es : List Expr} {ms : Sg → Tw → Res (List Sv)} {p pos : Pos} (hg : Gl X x) (hx : dbg x = false) (hc : lookS L.C.fns x = some c) (ha : PA X (e :: es) (tA X.K L.pl W ms)) (hf : ∀ e' ∈ e :: es, ∀ env r, starEach (e' :: r) env = (false, eval e' env) :: starEach r env) :
    PE X (.Call (.Name x p) (e :: es) [] pos) (tE X.K L.pl W fun σ T => (ms σ T).bind fun ss T => (settleAll ss T).bind fun vs T => Phi L.Ev L.P n c vs T) := by
  obtain ⟨f, hm, hk, ⟨fd, ps, hb, F⟩⟩ := G.lk.fn x c hc
  obtain ⟨hd, _, _⟩ := dbg_of hx
  refine ⟨fun pins s σ H Q I h => wpAny_Call_Name_kw (ld_glob I hg hm ?_ hd)⟩
  have hrd := tA.call (f := fun ss T => (settleAll ss T).bind fun vs T => Phi L.Ev L.P n c vs T) h
  refine PySem.W.callWith_K I.ok.mod.kin hk (thn (ha.run pos pins s σ H _ I hrd) ?_) (hf e List.mem_cons_self _ _) (plain_of es X.env pos fun e' he => hf e' (List.mem_cons_of_mem _ he) X.env)
  rintro us s1 ⟨vs, H1, I1, rr, q⟩
  exact ⟨I1.kIn, run_fnS F (G.room.mono (by omega)) hb (passAt G.tk σ) I1 rr (rF_call q)⟩
/-! ### methods -/
omit G in
theorem meth_form {o : Expr} (h : okBase o = true) (m : Str) (apos pos : Pos) (args : List Expr) (env : PySem.Env) (hp : (apos.endLine == pos.line) = true) (hn : methodCallForm args.length (backTo pos (starEach args env)) [] = true) : ∃ pl, eval (.Call (.Attribute o m apos) args [] pos) env = (do
      let ov ← eval o env
      standAt apos.atName
      let (f, first) ← holding [ov] (getMethod ov m pl)
      callWith pos f first (backTo pos (starEach args env)) (backToKw pos (keywordEach [] env))) := by
  refine ⟨(do return (← importBound o env).getD true), ?_⟩
  have hw : ∀ w : Sem Value, attributeBase o m env w = w := by
    intro w
    cases o with
    | Name _ _ => rfl
    | Attribute _ _ _ => rfl
    | Subscript _ _ _ => rfl
    | Call fn as kws ps =>
      cases fn with
      | Attribute _ _ _ => rfl
      | Name _ _ =>
        cases as with
        | nil => exact absurd h (by simp [okBase])
        | cons _ _ => rfl
      | _ => exact absurd h (by simp [okBase])
    | _ => exact absurd h (by simp [okBase])
  have e1 : eval (.Call (.Attribute o m apos) args [] pos) env = (do
      let ov ← attributeBase o m env (eval o env)
      standAt apos.atName
      methodCall o m apos pos env ov args.length (backTo pos (starEach args env)) []) := by
    simp only [eval]; rfl
  rw [e1, hw]
  unfold methodCall
  rw [hn]
  unfold calleeOf methodCallPos
  rw [hp]
  rfl
omit G in
theorem pdF_none {κ : Ka} {H : Hp} {m : Str} (hm : ∀ i, L.pl.fld i ≠ m) {cs : List (Ky × Tr)} {fs : List (Str × V)} (p : PdF L.pl κ H cs fs) : fs.lookup m = none := by
  induction p with
  | nil => rfl
  | @cons c f l l' h _ ih =>
    obtain ⟨f1, f2⟩ := f
    obtain ⟨c1, c2⟩ := c
    have hne : (m == f1) = false := by
      obtain ⟨h1, _⟩ := h
      cases c1 <;> simp [KyF] at h1
      subst h1
      exact beq_eq_false_iff_ne.mpr fun z => hm _ z.symm
    rw [List.lookup_cons, hne]; exact ih
/-- o.m(..): the receiver first -/
theorem s_meth {o : Expr} {m : Str} {k : Nat} {args : List Expr} {mo : Sg → Tw → Res Sv} {ms : Sg → Tw → Res (List Sv)} {apos pos : Pos} (hb : okBase o = true) (hp : (apos.endLine == pos.line) = true) (hn : args.length < 30) (hm : lookS L.C.mths m = some k) (ho : PE X o (tE X.K L.pl W mo))
    (ha : (args = [] ∧ ms = fun _ T => .ok [] T) ∨ (args ≠ [] ∧ PA X args (tA X.K L.pl W ms))) (hf : ∀ e' ∈ args, ∀ env r, starEach (e' :: r) env = (false, eval e' env) :: starEach r env) :
    PE X (.Call (.Attribute o m apos) args [] pos) (tE X.K L.pl W fun σ T => (mo σ T).bind fun x T => match recv L.Ev k x T with
      | some (ρ, f) => (ms σ T).bind fun ss T => (settleAll ss T).bind fun vs T => Phi L.Ev L.P n f (.ref ρ :: vs) T
      | none => .bad) := by
  obtain ⟨pl, ht⟩ := meth_form hb m apos pos args X.env hp (by
    have := plain_of args X.env pos fun e he => hf e he X.env
    unfold methodCallForm
    simp only [List.any_eq_false, List.all_eq_true, Bool.and_eq_true, decide_eq_true_eq] at this ⊢
    refine ⟨⟨fun x hx => by simpa using this x hx, fun x hx => by cases hx⟩, by simpa using hn⟩)
  refine ⟨fun pins s σ H Q I h => ?_⟩
  obtain ⟨κ, σa, T, r, l, h⟩ := h
  dsimp only at h
  refine PySem.W.methodCall_KW (pl := pl) (thn (ho.run pins s σ H _ I ⟨κ, σa, T, r, l, Run.bind (sh := Sv.shs) (rel := RS L.pl) r Ext.refl h⟩) ?_) ht
  rintro u s1 ⟨x, H1, I1, rx, κ1, a, T1, e1, r1, d1, n1, q1, h1⟩
  cases e : recv L.Ev k a T1 with
  | none => rw [e] at h1; exact h1.elim
  | some ρf =>
    obtain ⟨ρ, code⟩ := ρf
    rw [e] at h1
    unfold recv at e
    split at e
    · rename_i ρ'
      split at e
      · rename_i id lk c cs hat
        cases hme : L.Ev.meth c k with
        | none => rw [hme] at e; cases e
        | some code' =>
          rw [hme] at e; cases e
          have q1' := q1
          simp only [RS, RV] at q1
          obtain ⟨a', ka, rfl⟩ := q1
          obtain ⟨a'', ka', nd⟩ := node_at r1 hat
          rw [ka] at ka'; cases ka'
          have nd' : lk = false ∧ ∃ dx fs, H1 a' = some (.ins (L.pl.cls c) dx fs) ∧ PdF L.pl κ1 H1 cs fs := by cases lk <;> exact nd
          obtain ⟨_, dx, fs, hins, pf⟩ := nd'
          obtain rfl : u = Value.ref a' := rx
          obtain ⟨f, M, ⟨fd, ps, hbd, F⟩⟩ := G.lk.meth m c k code hm hme
          refine getmeth_ok I1 hins (G.lk.cls c k code hme) M (pdF_none (fun i => G.lk.nomf m k i hm) pf) ?_
          have p1 : Pt X.K L.pl κ H T κ1 H1 T1 [] := (Pt.start r).step e1 r1 r1.det0 (fun _ h => absurd h (by simp))
          -- the arguments, then the call
          have fin : ∀ {κ2 : Ka} {H2 : Hp} {T2 : Tw} {ss : List Sv} {xs : List V} {us : List Value} {s2 : Shared}, Inv X pins σ H2 s2 → Ext κ1 H1 T1 κ2 H2 T2 → Pt X.K L.pl κ H T κ2 H2 T2 (shsS ss) → RSs L.pl κ2 H2 ss xs → Vals xs us →
              RunS X.K L.pl W ((settleAll ss T2).bind fun vs T => Phi L.Ev L.P n code (.ref ρ :: vs) T) κ H T σ Q → wpAny (model X.prog X.w) X.A (call (.ref f) (.ref a' :: us)) (EP X pins σ Q) X.xe s2 := by
            intro κ2 H2 T2 ss xs us s2 I2 e2 p2 q2 rv h2
            obtain ⟨vs, T', es⟩ := settleAll_ok ss T2
            rw [es] at h2
            obtain ⟨p3, q3⟩ := Pt.settleAll p2 q2 es
            exact run_fnS F (G.room.mono (by omega)) hbd (passAt G.tk σ) I2 (.cons (show RelV (.ref a') (Value.ref a') from rfl) rv) (spOf_of p3 (.cons (RV.mono e2.up q1') q3) h2)
          rcases ha with ⟨rfl, rfl⟩ | ⟨hne, ha⟩
          · exact PySem.W.callWith_K0 (first := [.ref a']) I1.kIn M.kp (fin (ss := []) I1 Ext.refl p1 .nil .nil h1)
          · cases args with
            | nil => exact absurd rfl hne
            | cons e0 es =>
              refine PySem.W.callWith_K (first := [.ref a']) I.ok.mod.kin M.kp (thn (ha.run pos pins s1 σ H1 _ I1 ⟨κ1, σa, T1, r1, l.mono e1.up, Run.bind (sh := shsS) (rel := RSs L.pl) r e1 h1⟩) ?_) (hf e0 List.mem_cons_self _ _) (plain_of es X.env pos fun e' he => hf e' (List.mem_cons_of_mem _ he) X.env)
              rintro us s2 ⟨xs, H2, I2, rv, κ2, ss, T2, e2, r2, d2, n2, q2, h2⟩
              exact ⟨I2.kIn, fin I2 e2 (by simpa using p1.step e2 r2 d2 n2) q2 rv h2⟩
      · cases e
    · cases e
end
end AM
namespace AM
open PySem L2
section
variable {X : Cx} {L : Link} {n : Nat} {W : WX} {K : PySem.W.Frag} {pl : Pl}
/-- a new node, at hand -/
theorem Pt.alloc {κ0 κ : Ka} {H0 H : Hp} {T0 T : Tw} {D : List Tr} (p : Pt K pl κ0 H0 T0 κ H T D) {n : Tr} {a : Addr} {ho : HO} (ha : H a = none) (nf : n.free = true) (ni : n.id = T.next)
    (sub : ∀ s ∈ kids n, s ∈ D) (c : ∀ i, cnt i (kids n) ≤ cnt i D) (new : ∀ κ' H', Up κ H κ' H' → H' a = some ho → Nd K pl κ' H' a n) :
    Pt K pl κ0 H0 T0 (kup κ T.next a) (upd H a ho) (T.adv 1) n.shs ∧ Up κ H (kup κ T.next a) (upd H a ho) ∧ Sl pl (kup κ T.next a) (upd H a ho) n (.ref a) := by
  have kn : κ T.next = none := by
    cases e : κ T.next with
    | none => rfl
    | some a => exact absurd (p.r.lt _ _ e) (by omega)
  have up : Up κ H (kup κ T.next a) (upd H a ho) := ⟨fun i b hb => (by unfold kup; rw [if_neg]; exact hb; rintro rfl; rw [kn] at hb; cases hb), fun b o hb _ => by rw [upd_ne (ne_of_none hb ha)]; exact hb⟩
  obtain ⟨r, e, d, nw⟩ := p.r.alloc ha nf ni p.d sub c (new _ _ up upd_same)
  refine ⟨⟨p.r0, p.e.trans p.r0 e, r, d, fun i hi => ?_⟩, up, (Sl.node (isNode_free nf)).mpr ⟨a, by rw [ni]; unfold kup; rw [if_pos rfl], rfl⟩⟩
  rcases nw i hi with z | z
  · right
    cases q : κ0 i with
    | none => rfl
    | some x => rw [p.e.up.ka i x q] at z; cases z
  · exact p.n i z
variable (G : Good X L n W)
include G
/-- an object of an own class is made -/
theorem make_at {c : Nat} {cls : Str} {vs : List Va} {xs : List V} {us : List Value} {κ0 κ : Ka} {H0 H : Hp} {T0 T : Tw} {σ : St} {Q : VK} {pins : List (Addr × Obj)} {s : Shared} (hc : lookS L.C.clss cls = some c)
    (I : Inv X pins σ H s) (p : Pt X.K L.pl κ0 H0 T0 κ H T []) (q : Paired (RV L.pl κ H) vs xs) (rv : Vals xs us) (h : RunS X.K L.pl W (mkInst L.Ev (Phi L.Ev L.P n) c vs T) κ0 H0 T0 σ Q) :
    wpAny (model X.prog X.w) X.A (call (.ref (L.pl.cls c)) us) (EP X pins σ Q) X.xe s := by
  unfold mkInst at h
  cases hi : L.Ev.init c with
  | none => rw [hi] at h; exact h.elim
  | some code =>
    rw [hi] at h
    dsimp only at h
    obtain ⟨f, hm, M, ⟨fd, ps, hb, F⟩⟩ := G.lk.make cls c code hc hi
    refine run_make (E := fun _ _ _ => False) (ds := []) (dvs := []) M F (G.room.mono (by omega)) hb .nil (fun _ _ _ _ _ _ _ hx => by obtain ⟨_, _, _, _, _, _, _, _, _, _, _, _, hx⟩ := hx; exact hx.elim) I rv fun x dx hx hdx hne => ?_
    have p1 : Pt X.K L.pl κ0 H0 T0 κ (upd H dx (.own x)) T [] := p.fresh hdx
    have hx1 : upd H dx (.own x) x = none := by rw [upd_ne hne.symm]; exact hx
    have u1 : Up κ H κ (upd H dx (.own x)) := (p.r.fresh hdx).2.up
    obtain ⟨p2, u2, s2⟩ := p1.alloc (n := .nd T.next false (some c) []) (ho := .ins (L.pl.cls c) dx []) hx1 rfl rfl (by intro s hs; simp [kids, Tr.shs, shsK] at hs) (by intro i; simp [kids, Tr.shs, shsK]) fun κ' H' _ e => ⟨rfl, dx, [], e, .nil⟩
    obtain ⟨p3, r3⟩ := Pt.settle (D := []) (s := .tr (.nd T.next false (some c) [])) (by simpa [Sv.shs] using p2) ⟨rfl, s2⟩ rfl
    rw [new_adv] at p3
    have r3 : RV L.pl _ _ (T.newRef (.nd T.next false (some c) [])) (V.ref x) := r3
    refine ⟨_, _, T.newRef (.nd T.next false (some c) []) :: vs, p3.r, .cons r3 (by rw [List.append_nil]; exact Paired.mapP q fun _ _ z => (z.mono u1).mono u2), ?_, ?_⟩
    · refine Phi_np (Ev := L.Ev) (n := n) (T := (T.new (.nd T.next false (some c) [])).adv 1) fun e => ?_
      rw [e] at h; exact h
    · cases e : Phi L.Ev L.P n code (T.newRef (.nd T.next false (some c) []) :: vs) ((T.new (.nd T.next false (some c) [])).adv 1) with
      | bad => rw [e] at h; exact h.elim
      | ex d T' => rw [e] at h; exact h.elim
      | ok sv T' =>
        rw [e] at h
        intro y H' κ' e' r' d' n' q'
        dsimp only [calm, bind_ok] at h
        split at h
        · rename_i t' ht
          split at h
          · rename_i hf
            obtain ⟨hf, hid⟩ := hf
            have hl := Base.len p.r.base
            refine ⟨q', ?_⟩
            obtain ⟨rc, ec⟩ := r'.cut T.roots.length hl
            obtain ⟨dt, ct⟩ := r'.cutTree hl (Nat.le_refl _) ht
            have e4 := p3.e.trans p3.r0 e'
            refine h (.ref x) H' κ' (e4.trans p.r0 ec) rc dt (fun i hi => e4.ids i (ct i hi)) ⟨hf, (Sl.node (isNode_free hf)).mpr ⟨x, ?_, rfl⟩⟩
            rw [hid]
            refine e'.up.ka _ _ ?_
            unfold kup; rw [if_pos rfl]
          · exact h.elim
        · exact h.elim
theorem s_make0 {x : Str} {c : Nat} {p pos : Pos} (hg : Gl X x) (hx : dbg x = false) (hc : lookS L.C.clss x = some c) (hi : (L.Ev.init c).isSome = true) :
    PE X (.Call (.Name x p) [] [] pos) (tE X.K L.pl W fun σ T => (Res.ok [] T).bind fun ss T => (settleAll ss T).bind fun vs T => mkInst L.Ev (Phi L.Ev L.P n) c vs T) := by
  cases hi' : L.Ev.init c with
  | none => rw [hi'] at hi; cases hi
  | some code =>
  obtain ⟨f, hm, M, _⟩ := G.lk.make x c code hc hi'
  obtain ⟨hd, _, _⟩ := dbg_of hx
  refine ⟨fun pins s σ H Q I h => wpAny_Call_Name_kw (ld_glob I hg hm (PySem.W.callWith_K0 I.kIn M.kp ?_) hd)⟩
  obtain ⟨κ, σa, T, r, l, h⟩ := h
  exact make_at G (vs := []) hc I (Pt.start r) .nil .nil h
theorem s_make {x : Str} {c : Nat} {e : Expr} {es : List Expr} {ms : Sg → Tw → Res (List Sv)} {p pos : Pos} (hg : Gl X x) (hx : dbg x = false) (hc : lookS L.C.clss x = some c) (hi : (L.Ev.init c).isSome = true) (ha : PA X (e :: es) (tA X.K L.pl W ms)) (hf : ∀ e' ∈ e :: es, ∀ env r, starEach (e' :: r) env = (false, eval e' env) :: starEach r env) :
    PE X (.Call (.Name x p) (e :: es) [] pos) (tE X.K L.pl W fun σ T => (ms σ T).bind fun ss T => (settleAll ss T).bind fun vs T => mkInst L.Ev (Phi L.Ev L.P n) c vs T) := by
  cases hi' : L.Ev.init c with
  | none => rw [hi'] at hi; cases hi
  | some code =>
  obtain ⟨f, hm, M, _⟩ := G.lk.make x c code hc hi'
  obtain ⟨hd, _, _⟩ := dbg_of hx
  refine ⟨fun pins s σ H Q I h => wpAny_Call_Name_kw (ld_glob I hg hm ?_ hd)⟩
  have hrd := tA.call (f := fun ss T => (settleAll ss T).bind fun vs T => mkInst L.Ev (Phi L.Ev L.P n) c vs T) h
  refine PySem.W.callWith_K I.ok.mod.kin M.kp (thn (ha.run pos pins s σ H _ I hrd) ?_) (hf e List.mem_cons_self _ _) (plain_of es X.env pos fun e' he => hf e' (List.mem_cons_of_mem _ he) X.env)
  rintro us s1 ⟨vs, H1, I1, rr, κ0, H0, T0, κ, T, ss, p, q, h⟩
  obtain ⟨as, T', es⟩ := settleAll_ok ss T
  rw [es] at h
  obtain ⟨p2, q2⟩ := Pt.settleAll p q es
  exact ⟨I1.kIn, make_at G hc I1 p2 q2 rr h⟩
/-! ### attributes -/
theorem s_fld {o : Expr} {f : Str} {k : Nat} {mo : Sg → Tw → Res Sv} {pos : Pos} (hb : okBase o = true) (hk : lookS L.C.flds f = some k) (ho : PE X o (tE X.K L.pl W mo)) :
    PE X (.Attribute o f pos) (tE X.K L.pl W fun σ T => (mo σ T).bind fun x T => match x with
      | .va (.ref ρ) => match T.at ρ with
        | some (.nd _ _ (some c) cs) => match getK cs (.f k) with
          | some t => .ok (.va (slotV ρ (.f k) t)) T
          | none => .bad
        | _ => .bad
      | _ => .bad) := by
  have ab : attributeBase o f X.env (eval o X.env) = eval o X.env := by
    cases o with
    | Name _ _ => rfl
    | Attribute _ _ _ => rfl
    | Subscript _ _ _ => rfl
    | Call fn as kws ps =>
      cases fn with
      | Attribute _ _ _ => rfl
      | Name _ _ => cases as with
        | nil => exact absurd hb (by simp [okBase])
        | cons _ _ => rfl
      | _ => exact absurd hb (by simp [okBase])
    | _ => exact absurd hb (by simp [okBase])
  refine peI (pe_fld ho ab) fun σ H Q h => ?_
  obtain ⟨κ, σa, T, r, l, h⟩ := h
  dsimp only at h
  refine ⟨κ, σa, T, r, l, (Run.bind (sh := Sv.shs) (rel := RS L.pl) r Ext.refl h).imp ?_⟩
  rintro x H1 ⟨κ1, a, T1, e1, r1, d1, n1, q1, h1⟩
  have p := (Pt.start r).step e1 r1 d1 n1
  split at h1
  · rename_i ρ
    split at h1
    · rename_i id lk c cs hat
      cases e : getK cs (.f k) with
      | none => rw [e] at h1; exact h1.elim
      | some t =>
        rw [e] at h1; dsimp only at h1
        simp only [RS, RV] at q1
        obtain ⟨a', ka, rfl⟩ := q1
        obtain ⟨a'', ka', nd⟩ := node_at r1 hat
        rw [ka] at ka'; cases ka'
        have nd' : lk = false ∧ ∃ dx fs, H1 a' = some (.ins (L.pl.cls c) dx fs) ∧ PdF L.pl κ1 H1 cs fs := by cases lk <;> exact nd
        obtain ⟨_, dx, fs, hins, pf⟩ := nd'
        obtain ⟨hcl, hna⟩ := G.lk.noat f k c hk
        have look : ∀ {cs : List (Ky × Tr)} {fs : List (Str × V)}, PdF L.pl κ1 H1 cs fs → getK cs (.f k) = some t → ∃ v, fs.lookup f = some v ∧ Sl L.pl κ1 H1 t v := by
          intro cs fs pf
          induction pf with
          | nil => intro z; simp [getK] at z
          | @cons c' g l l' hh _ ih =>
            intro z
            obtain ⟨c1, c2⟩ := c'
            obtain ⟨g1, g2⟩ := g
            obtain ⟨z1, z2⟩ := hh
            unfold getK at z
            by_cases hk1 : c1 = .f k
            · subst hk1
              simp only [KyF] at z1
              subst z1
              simp at z; subst z
              refine ⟨g2, ?_, z2⟩
              rw [List.lookup_cons, show (f == L.pl.fld k) = true from by rw [G.lk.fld f k hk]; simp]
            · rw [if_neg hk1] at z
              obtain ⟨v, hv, hs⟩ := ih z
              refine ⟨v, ?_, hs⟩
              have : (f == g1) = false := by
                refine beq_eq_false_iff_ne.mpr fun e => hk1 ?_
                cases c1 with
                | f j =>
                  simp only [KyF] at z1
                  have := G.lk.inj k j f hk (by rw [← z1]; exact e.symm)
                  rw [this]
                | _ => simp [KyF] at z1
              rw [List.lookup_cons, this]; exact hv
        obtain ⟨v, hv, hs⟩ := look pf e
        exact ⟨a', L.pl.cls c, dx, fs, v, rfl, hins, hcl, hna, hv, p.val h1 (slotV_ok hs)⟩
    · exact h1.elim
  · exact h1.elim
end
end AM
namespace AM
open PySem L2
section
variable {X : Cx} {L : Link} {n : Nat} {W : WX}
theorem kitOneB {K : PySem.W.Frag} {a b : String} {r : Bool} (h : kitB a b = some r) : PySem.W.kitOne K (.type a) (.type b) = some r := kit_ty h
theorem isTy_list {T : Tw} {sub : Nat → Nat → Bool} {s : Sv} {ts : List Tr} (h : listOf T s = some ts) (t : Ty) : isTy T sub s t = some (match t with | .list => true | _ => false) := by
  cases s with
  | tr u => unfold isTy; simp only; rw [h]; cases t <;> rfl
  | va v => cases v <;> first | (simp [listOf] at h; done) | (unfold isTy; simp only; rw [h]; cases t <;> rfl)
theorem is_vals {pl : Pl} : ∀ {cs : List V} {ts : List Ty} {its : List Value}, Paired (fun c t => ∀ u, RelV c u → u = tyV pl t) cs ts → Vals cs its → its = ts.map (tyV pl)
  | _, _, _, .nil, .nil => rfl
  | _, _, _, .cons q p, .cons w1 w2 => by rw [List.map_cons, q _ w1, is_vals p w2]
variable (G : Good X L n W)
include G
/-- the type of a value, as isinstance asks for it -/
theorem kit_at {κ : Ka} {H : Hp} {T : Tw} {σ : St} {pins : List (Addr × Obj)} {s : Shared} {a : Sv} {x : V} {u : Value} {t0 : Ty} {b0 : Bool} (r : RT X.K L.pl κ H T) (d : ∀ t, a = .tr t → ∀ u ∈ t.shs, NdAt X.K L.pl κ H u) (I : Inv X pins σ H s) (q : RS L.pl κ H a x) (rx : RelV x u) (h0 : isTy T L.Ev.sub a t0 = some b0) :
    ∃ tv P, PySem.W.KitX X.K u tv P ∧ P s.heap ∧ u ≠ .builtin "__main__.__loader__#opaque" ∧ ∀ t b, okTy L t → isTy T L.Ev.sub a t = some b → PySem.W.kitOne X.K tv (tyV L.pl t) = some b := by
  have base : ∀ {x tn}, TyX X.K H x (.type tn) → RelV x u → tn = "int" ∨ tn = "bool" ∨ tn = "list" ∨ tn = "tuple" ∨ tn = "str" ∨ tn = "NoneType" → (∀ t b, isTy T L.Ev.sub a t = some b → (∀ d, t ≠ .cls d) → PySem.W.kitOne X.K (.type tn) (tyV L.pl t) = some b) → (∀ d b, isTy T L.Ev.sub a (.cls d) = some b → b = false) →
      ∃ tv P, PySem.W.KitX X.K u tv P ∧ P s.heap ∧ u ≠ .builtin "__main__.__loader__#opaque" ∧ ∀ t b, okTy L t → isTy T L.Ev.sub a t = some b → PySem.W.kitOne X.K tv (tyV L.pl t) = some b := by
    intro x tn ty rx ht h1 h2
    obtain ⟨P, Z, p, hx⟩ := kit_of I rx ty
    refine ⟨_, P, Z, p, hx, fun t b ok h => ?_⟩
    by_cases hc : ∃ d, t = .cls d
    · obtain ⟨d, rfl⟩ := hc
      obtain ⟨y, hy⟩ := ok d rfl
      rw [h2 d b h]
      exact (G.lk.exn y d hy).2 tn ht
    · exact h1 t b h fun d e => hc ⟨d, e⟩
  have lists : ∀ {ts : List Tr}, listOf T a = some ts → ∃ tv P, PySem.W.KitX X.K u tv P ∧ P s.heap ∧ u ≠ .builtin "__main__.__loader__#opaque" ∧ ∀ t b, okTy L t → isTy T L.Ev.sub a t = some b → PySem.W.kitOne X.K tv (tyV L.pl t) = some b := by
    intro ts hl
    obtain ⟨l, vs, rfl, hs, _⟩ := list_at r d hl q
    have ty : TyX X.K H (.ref l) (.type "list") := by
      rcases hs with (h | ⟨o, h⟩) | ⟨o, its, m, h1, h2, _⟩
      · exact .base (.lst h)
      · exact .base (.frz h)
      · exact .kList h1 h2
    refine base ty rx (by simp) (fun t b h hc => ?_) fun d b h => ?_
    · rw [isTy_list hl] at h; cases h
      cases t <;> first | exact kitOneB rfl | exact absurd rfl (hc _)
    · rw [isTy_list hl] at h; cases h; rfl
  cases a with
  | tr t =>
    cases e : listOf T (.tr t) with
    | some ts => exact lists e
    | none => unfold isTy at h0; simp only at h0; rw [e] at h0; cases h0
  | va v =>
    cases v with
    | non =>
      have q : x = _ := q
      subst q
      exact base (.base .non) rx (by simp) (fun t b h hc => by simp only [isTy] at h; cases h; cases t <;> first | exact kitOneB rfl | exact absurd rfl (hc _)) fun d b h => by simp only [isTy] at h; cases h; rfl
    | bl y =>
      have q : x = _ := q
      subst q
      exact base (.base (.bl y)) rx (by simp) (fun t b h hc => by cases t <;> simp only [isTy] at h <;> cases h <;> first | exact kitOneB rfl | exact absurd rfl (hc _)) fun d b h => by simp only [isTy] at h; cases h; rfl
    | int y =>
      have q : x = _ := q
      subst q
      exact base (.base (.int y)) rx (by simp) (fun t b h hc => by cases t <;> simp only [isTy] at h <;> cases h <;> first | exact kitOneB rfl | exact absurd rfl (hc _)) fun d b h => by simp only [isTy] at h; cases h; rfl
    | str y =>
      have q : x = _ := q
      subst q
      exact base (.base (.str y)) rx (by simp) (fun t b h hc => by cases t <;> simp only [isTy] at h <;> cases h <;> first | exact kitOneB rfl | exact absurd rfl (hc _)) fun d b h => by simp only [isTy] at h; cases h; rfl
    | tup vs =>
      simp only [RS, RV] at q
      obtain ⟨p, xs, rfl, hp, _⟩ := q
      exact base (.base (.tup hp)) rx (by simp) (fun t b h hc => by cases t <;> simp only [isTy] at h <;> cases h <;> first | exact kitOneB rfl | exact absurd rfl (hc _)) fun d b h => by simp only [isTy] at h; cases h; rfl
    | ref ρ =>
      cases e : listOf T (.va (.ref ρ)) with
      | some ts => exact lists e
      | none => unfold isTy at h0; simp only at h0; rw [e] at h0; cases h0
    | exc c =>
      simp only [RS, RV] at q
      obtain ⟨ad, rfl, hp⟩ := q
      have hcc : L.Ev.sub c c = true := by
        unfold isTy at h0; simp only at h0
        split at h0
        · assumption
        · cases h0
      have E := G.lk.exc c hcc
      obtain ⟨oe, hg, ⟨z1, z2⟩, vs, hv⟩ := (show ObjOk X.prog X.w H s.heap ad (.ext (excPhi (L.pl.exc c) ad)) from I.hok ad _ hp).1
      have J : PySem.W.InstAt s.heap ad oe (L.pl.exc c) none := by
        obtain ⟨oc, od, oda, osl⟩ := oe
        dsimp only at z1 z2 hv
        subst z1 z2 hv
        exact ⟨hg, rfl, rfl, trivial⟩
      cases (show u = Value.ref ad from rx)
      refine ⟨_, _, PySem.W.handS_kitx_exc E.hg E.hk E.hs E.hd E.ha E.hn E.ht E.hm, J, (fun z => nomatch z), fun t b ok h => ?_⟩
      unfold isTy at h; simp only at h
      rw [if_pos hcc] at h; cases h
      exact E.ty t ok
/-- isinstance(x, t), isinstance(x, (t, ..)): what the type argument is -/
def rIs (X : Cx) (L : Link) (W : WX) (ts : List Ty) : List V → Hp → VK → Prop := fun xs H Q => ∃ κ0 H0 T0 κ T a σ x c, xs = [x, c] ∧ ts ≠ [] ∧ (∀ t ∈ ts, okTy L t) ∧ ((∃ t, ts = [t] ∧ ∀ u, RelV c u → u = tyV L.pl t) ∨ ∃ tp cs, c = .ref tp ∧ H tp = some (.tup cs) ∧ Paired (fun c t => ∀ u, RelV c u → u = tyV L.pl t) cs ts) ∧
  Pt X.K L.pl κ0 H0 T0 κ H T a.shs ∧ RS L.pl κ H a x ∧ RunS X.K L.pl W (match isTys T L.Ev.sub a ts with | some r => .ok (.va (.bl r)) T | none => .bad) κ0 H0 T0 σ Q
theorem call_is {ts : List Ty} : CallR X (.builtin "isinstance") (rIs X L W ts) := by
  rintro pins s σ' H xs us Q I rr ⟨κ0, H0, T0, κ, T, a, σ, x, c, rfl, hne, oks, hc, p, qa, h⟩
  obtain ⟨u1, u2, rfl, r1, r2⟩ := vals2 rr
  cases e : isTys T L.Ev.sub a ts with
  | none => rw [e] at h; exact h.elim
  | some b =>
    rw [e] at h
    have hQ : Q (.bl b) H := p.val (v := .bl b) h rfl
    have hang := p.hangs (s := a) fun u hu => hu
    rcases hc with ⟨t, rfl, hu⟩ | ⟨tp, cs, rfl, hT, hp⟩
    · have e1 : isTy T L.Ev.sub a t = some b := by
        unfold isTys at e
        cases e1 : isTy T L.Ev.sub a t with
        | none => rw [e1] at e; cases e
        | some b1 => rw [e1] at e; cases b1 <;> simpa [isTys] using e
      obtain ⟨tv, P, Z, hP, hx, kk⟩ := kit_at G p.r hang I qa r1 e1
      rw [hu u2 r2]
      exact PySem.W.kia_one Z I.kIn hP (kk t b (oks t List.mem_cons_self) e1) hx fun tk => ⟨.bl b, H, I.tok tk, rfl, hQ⟩
    · cases (show u2 = Value.ref tp from r2)
      obtain ⟨_, its, rv, o, h1, h2, m, h3⟩ := (show ObjOk X.prog X.w H s.heap tp (.tup cs) from I.hok tp _ hT)
      obtain ⟨oc, od, dt, sl⟩ := o
      simp only at h2 h3
      subst h2 h3
      have ev : its = ts.map (tyV L.pl) := is_vals hp rv
      subst ev
      cases ts with
      | nil =>
        exact absurd rfl hne
      | cons t0 ts =>
        obtain ⟨b0, e0⟩ : ∃ b0, isTy T L.Ev.sub a t0 = some b0 := by
          unfold isTys at e
          cases e1 : isTy T L.Ev.sub a t0 with
          | none => rw [e1] at e; cases e
          | some b1 => exact ⟨b1, rfl⟩
        obtain ⟨tv, P, Z, hP, hx, kk⟩ := kit_at G p.r hang I qa r1 e0
        have all : ∀ {ts : List Ty} {b : Bool}, (∀ t ∈ ts, okTy L t) → isTys T L.Ev.sub a ts = some b → PySem.W.kitAny X.K tv (ts.map (tyV L.pl)) = some b := by
          intro ts
          induction ts with
          | nil => intro b _ h; unfold isTys at h; cases h; rfl
          | cons t ts ih =>
            intro b ok h
            unfold isTys at h
            cases e1 : isTy T L.Ev.sub a t with
            | none => rw [e1] at h; cases h
            | some b1 =>
              rw [e1] at h
              have k1 := kk t b1 (ok t List.mem_cons_self) e1
              cases b1 with
              | true => cases h; exact kitAny_cons k1 (fun z => nomatch z) fun _ => rfl
              | false => exact kitAny_cons k1 (fun _ => ih (fun t ht => ok t (List.mem_cons_of_mem _ ht)) h) fun z => nomatch z
        exact PySem.W.kia_tup Z I.kIn hP h1 (all oks e) hx fun tk => ⟨.bl b, H, I.tok tk, rfl, hQ⟩
end
end AM
namespace AM
open PySem L2
theorem isNon_dec {pl : Pl} {κ : Ka} {H : Hp} {a : Sv} {x : V} (q : RS pl κ H a x) : decide (x = .non) = isNon a := by
  cases a with
  | tr t => obtain ⟨hf, hs⟩ := q; obtain ⟨a, _, rfl⟩ := (Sl.node (isNode_free hf)).mp hs; simp [isNon]
  | va v =>
    cases v with
    | non => have q : x = _ := q; subst q; simp [isNon]
    | bl _ => have q : x = _ := q; subst q; simp [isNon]
    | int _ => have q : x = _ := q; subst q; simp [isNon]
    | str _ => have q : x = _ := q; subst q; simp [isNon]
    | tup _ => simp only [RS, RV] at q; obtain ⟨_, _, rfl, _⟩ := q; simp [isNon]
    | ref _ => simp only [RS, RV] at q; obtain ⟨_, _, rfl⟩ := q; simp [isNon]
    | exc _ => simp only [RS, RV] at q; obtain ⟨_, rfl, _⟩ := q; simp [isNon]
section
variable {X : Cx} {L : Link} {n : Nat} {W : WX} {K : PySem.W.Frag} {pl : Pl}
theorem truth_cases (s : Sv) (T : Tw) : (∃ b, s = .va (.bl b)) ∨ truth s T = .bad := by
  cases s with
  | tr t => exact .inr rfl
  | va v => cases v <;> first | exact .inr rfl | exact .inl ⟨_, rfl⟩
/-- one operand whose truth is asked -/
theorem tE.tru {β : Type} {ma : Sg → Tw → Res Sv} {sh : β → List Tr} {γ : Type} {rel : Ka → Hp → β → γ → Prop} {f : Bool → Tw → Res β} {σ : St} {H : Hp} {Q : γ → Hp → Prop} {κ : Ka} {σa : Sg} {T : Tw} (r : RT K pl κ H T) (l : RL pl κ H σa σ)
    (h : Run K pl W sh rel ((ma σa T).bind fun x T => (truth x T).bind fun c T => f c T) κ H T σ Q) :
    tE K pl W ma σ H fun x H1 => ∃ c, x = .bl c ∧ ∃ κ1 T1, Ext κ H T κ1 H1 T1 ∧ RT K pl κ1 H1 T1 ∧ RL pl κ1 H1 σa σ ∧ Run K pl W sh rel (f c T1) κ H T σ Q := by
  refine ⟨κ, σa, T, r, l, (Run.bind (sh := Sv.shs) (rel := RS pl) r Ext.refl h).imp ?_⟩
  rintro x H1 ⟨κ1, a, T1, e1, r1, d1, n1, q1, h1⟩
  rcases truth_cases a T1 with ⟨b, rfl⟩ | e
  · exact ⟨b, q1, κ1, T1, e1, r1, l.mono e1.up, h1⟩
  · rw [e] at h1; exact h1.elim
theorem Run.va {κ0 κ : Ka} {H0 H : Hp} {T0 T : Tw} {σ : St} {Q : VK} {v : Va} {x : V} (r0 : RT K pl κ0 H0 T0) (e : Ext κ0 H0 T0 κ H T) (r : RT K pl κ H T) (h : RunS K pl W (.ok (.va v) T) κ0 H0 T0 σ Q) (q : RV pl κ H v x) : Q x H :=
  h x H κ e r r.det0 (fun _ z => absurd z (by simp [Sv.shs])) q
theorem tE.notV {ma : Sg → Tw → Res Sv} {σ : St} {H : Hp} {Q : VK} (h : tE K pl W (fun σ T => (ma σ T).bind fun x T => (truth x T).bind fun r T => .ok (.va (.bl (!r))) T) σ H Q) : tNotV (tE K pl W ma) σ H Q := by
  obtain ⟨κ, σa, T, r, l, h⟩ := h
  obtain ⟨κ, σa, T, r', l', h⟩ := tE.tru r l h
  refine ⟨κ, σa, T, r', l', h.imp ?_⟩
  rintro x H1 ⟨c, rfl, κ1, T1, e1, r1, l1, h1⟩
  exact ⟨c, rfl, Run.va r e1 r1 h1 rfl⟩
theorem tE.andV {ma mb : Sg → Tw → Res Sv} {σ : St} {H : Hp} {Q : VK} (h : tE K pl W (fun σ T => (ma σ T).bind fun x T => (truth x T).bind fun r T => match r with | true => mb σ T | false => .ok (.va (.bl false)) T) σ H Q) : tAndV (tE K pl W ma) (tE K pl W mb) σ H Q := by
  obtain ⟨κ, σa, T, r, l, h⟩ := h
  obtain ⟨κ', σa', T', r', l', h⟩ := tE.tru r l h
  refine ⟨κ', σa', T', r', l', h.imp ?_⟩
  rintro x H1 ⟨c, rfl, κ1, T1, e1, r1, l1, h1⟩
  refine ⟨c, rfl, ?_⟩
  cases c with
  | true => exact ⟨κ1, σa, T1, r1, l1, Run.later r e1 h1⟩
  | false => exact Run.va r e1 r1 h1 rfl
theorem tE.orV {ma mb : Sg → Tw → Res Sv} {σ : St} {H : Hp} {Q : VK} (h : tE K pl W (fun σ T => (ma σ T).bind fun x T => (truth x T).bind fun r T => match r with | true => .ok (.va (.bl true)) T | false => mb σ T) σ H Q) : tOrV (tE K pl W ma) (tE K pl W mb) σ H Q := by
  obtain ⟨κ, σa, T, r, l, h⟩ := h
  obtain ⟨κ', σa', T', r', l', h⟩ := tE.tru r l h
  refine ⟨κ', σa', T', r', l', h.imp ?_⟩
  rintro x H1 ⟨c, rfl, κ1, T1, e1, r1, l1, h1⟩
  refine ⟨c, rfl, ?_⟩
  cases c with
  | true => exact Run.va r e1 r1 h1 rfl
  | false => exact ⟨κ1, σa, T1, r1, l1, Run.later r e1 h1⟩
/-! .. as tests -/
def tr1 (m : Sg → Tw → Res Sv) : Sg → Tw → Res Bool := fun σ T => (m σ T).bind fun s T => truth s T
theorem tT.tru {ma : Sg → Tw → Res Sv} {f : Bool → Tw → Res Bool} {σ : St} {H : Hp} {Q : Bool → Hp → Prop} {κ : Ka} {σa : Sg} {T : Tw} (r : RT K pl κ H T) (l : RL pl κ H σa σ)
    (h : RunB K pl W ((ma σa T).bind fun x T => (truth x T).bind fun c T => f c T) κ H T σ Q) :
    tT K pl W (tr1 ma) σ H fun c H1 => ∃ κ1 T1, Ext κ H T κ1 H1 T1 ∧ RT K pl κ1 H1 T1 ∧ RL pl κ1 H1 σa σ ∧ RunB K pl W (f c T1) κ H T σ Q := by
  refine ⟨κ, σa, T, r, l, ?_⟩
  unfold tr1
  cases e1 : ma σa T with
  | ex c T1 => rw [e1] at h; exact h
  | bad => rw [e1] at h; exact h
  | ok s T1 =>
    rw [e1] at h
    simp only [bind_ok] at h ⊢
    rcases truth_cases s T1 with ⟨b, rfl⟩ | e
    · simp only [truth, bind_ok] at h ⊢
      rintro y H' κ' e' r' d n rfl
      exact ⟨κ', T1, e', r', l.mono e'.up, h⟩
    · rw [e] at h; exact h.elim
theorem Run.bo {κ0 κ : Ka} {H0 H : Hp} {T0 T : Tw} {σ : St} {Q : Bool → Hp → Prop} {c : Bool} (e : Ext κ0 H0 T0 κ H T) (r : RT K pl κ H T) (h : RunB K pl W (.ok c T) κ0 H0 T0 σ Q) : Q c H :=
  h c H κ e r r.det0 (fun _ z => absurd z (by simp)) rfl
theorem bind_assoc {α β γ : Type} (r : Res α) (f : α → Tw → Res β) (g : β → Tw → Res γ) : (r.bind f).bind g = r.bind fun a T => (f a T).bind g := by cases r <;> rfl
theorem tT.not {ma : Sg → Tw → Res Sv} {σ : St} {H : Hp} {Q : Bool → Hp → Prop} (h : tT K pl W (tr1 fun σ T => (ma σ T).bind fun x T => (truth x T).bind fun r T => .ok (.va (.bl (!r))) T) σ H Q) : tNot (tT K pl W (tr1 ma)) σ H Q := by
  obtain ⟨κ, σa, T, r, l, h⟩ := h
  unfold tr1 at h
  simp only [bind_assoc, bind_ok, truth] at h
  obtain ⟨κ', σa', T', r', l', h⟩ := tT.tru (ma := ma) (f := fun c T => .ok (!c) T) r l h
  refine ⟨κ', σa', T', r', l', h.imp ?_⟩
  rintro c H1 ⟨κ1, T1, e1, r1, l1, h1⟩
  exact Run.bo e1 r1 h1
theorem tT.and {ma mb : Sg → Tw → Res Sv} {σ : St} {H : Hp} {Q : Bool → Hp → Prop} (h : tT K pl W (tr1 fun σ T => (ma σ T).bind fun x T => (truth x T).bind fun r T => match r with | true => mb σ T | false => .ok (.va (.bl false)) T) σ H Q) : tAnd (tT K pl W (tr1 ma)) (tT K pl W (tr1 mb)) σ H Q := by
  obtain ⟨κ, σa, T, r, l, h⟩ := h
  unfold tr1 at h
  simp only [bind_assoc] at h
  obtain ⟨κ', σa', T', r', l', h⟩ := tT.tru (ma := ma) (f := fun c T => (match c with | true => mb σa T | false => Res.ok (Sv.va (.bl false)) T).bind fun s T => truth s T) r l h
  refine ⟨κ', σa', T', r', l', h.imp ?_⟩
  rintro c H1 ⟨κ1, T1, e1, r1, l1, h1⟩
  cases c with
  | true => exact ⟨κ1, σa, T1, r1, l1, Run.later r e1 h1⟩
  | false => exact Run.bo e1 r1 h1
theorem tT.or {ma mb : Sg → Tw → Res Sv} {σ : St} {H : Hp} {Q : Bool → Hp → Prop} (h : tT K pl W (tr1 fun σ T => (ma σ T).bind fun x T => (truth x T).bind fun r T => match r with | true => .ok (.va (.bl true)) T | false => mb σ T) σ H Q) : tOr (tT K pl W (tr1 ma)) (tT K pl W (tr1 mb)) σ H Q := by
  obtain ⟨κ, σa, T, r, l, h⟩ := h
  unfold tr1 at h
  simp only [bind_assoc] at h
  obtain ⟨κ', σa', T', r', l', h⟩ := tT.tru (ma := ma) (f := fun c T => (match c with | true => Res.ok (Sv.va (.bl true)) T | false => mb σa T).bind fun s T => truth s T) r l h
  refine ⟨κ', σa', T', r', l', h.imp ?_⟩
  rintro c H1 ⟨κ1, T1, e1, r1, l1, h1⟩
  cases c with
  | true => exact Run.bo e1 r1 h1
  | false => exact ⟨κ1, σa, T1, r1, l1, Run.later r e1 h1⟩
/-- a value, read as a test -/
theorem tT.valT {m : Sg → Tw → Res Sv} {σ : St} {H : Hp} {Q : Bool → Hp → Prop} (h : tT K pl W (tr1 m) σ H Q) : tB (tE K pl W m) σ H Q := tT.val h
/-! ### displays -/
theorem tE.tup {ms : Sg → Tw → Res (List Sv)} {σ : St} {H : Hp} {Q : VK} (h : tE K pl W (fun σ T => (ms σ T).bind fun ss T => (settleAll ss T).bind fun vs T => mkTup vs T) σ H Q) : tTup (tA K pl W ms) σ H Q := by
  obtain ⟨κ, σa, T, r, l, h⟩ := tA.call (L := ⟨⟨[], [], [], [], [], []⟩, pl, ⟨fun _ _ => none, fun _ => none, fun _ _ => false, fun _ => 0⟩, fun _ => none⟩) (f := fun ss T => (settleAll ss T).bind fun vs T => mkTup vs T) h
  refine ⟨κ, σa, T, r, l, h.imp ?_⟩
  rintro xs H1 ⟨κ0, H0, T0, κ, T, ss, p, q, h⟩
  obtain ⟨vs, T', e⟩ := settleAll_ok ss T
  rw [e] at h; simp only [bind_ok] at h
  obtain ⟨p', q'⟩ := Pt.settleAll p q e
  unfold mkTup at h
  split at h
  · rename_i hl
    refine ⟨by rw [← Paired.len q', ← lim_eq]; exact hl, fun a ha => p'.tup h ha q'⟩
  · exact h.elim
theorem shsL_slots : ∀ ss : List Sv, shsL (ss.map Sv.slot) = shsS ss
  | [] => rfl
  | s :: ss => by simp only [List.map_cons, shsL, shsS, slot_shs, shsL_slots ss]
theorem tE.lst {ms : Sg → Tw → Res (List Sv)} {σ : St} {H : Hp} {Q : VK} (h : tE K pl W (fun σ T => (ms σ T).bind fun ss T => if ss.length ≤ lim then .ok (.tr (.lst T.next false (ss.map Sv.slot))) (T.adv 1) else .bad) σ H Q) : tLst (tA K pl W ms) σ H Q := by
  obtain ⟨κ, σa, T, r, l, h⟩ := tA.call (L := ⟨⟨[], [], [], [], [], []⟩, pl, ⟨fun _ _ => none, fun _ => none, fun _ _ => false, fun _ => 0⟩, fun _ => none⟩) (f := fun ss T => if ss.length ≤ lim then .ok (.tr (.lst T.next false (ss.map Sv.slot))) (T.adv 1) else .bad) h
  refine ⟨κ, σa, T, r, l, h.imp ?_⟩
  rintro xs H1 ⟨κ0, H0, T0, κ, T, ss, p, q, h⟩
  split at h
  · rename_i hl
    refine ⟨by rw [← Paired.len q, ← lim_eq]; exact hl, fun a ha => ?_⟩
    refine p.node h ha rfl rfl ?_ ?_ fun κ' H' u e => ⟨xs, e, ?_⟩
    · intro s hs; simpa [kids, Tr.shs, shsL_slots] using hs
    · intro i; simp [kids, Tr.shs, shsL_slots]
    · exact Paired.maps (F := Sl pl κ' H') Sv.slot (fun _ _ => Iff.rfl) |>.mpr (Paired.mapP q fun _ _ z => (z.mono u).slot)
  · exact h.elim
/-! ### chains -/
theorem tE.chain {ma mb mc : Sg → Tw → Res Sv} {f g : Sv → Sv → Tw → Res Bool} {σ : St} {H : Hp} {Q : VK} (hf : ∀ a b T r T', f a b T = .ok r T' → T' = T ∧ (∃ i, b = .va (.int i))) (hx : ∀ a b T c T', f a b T ≠ .ex c T')
    (h : tE K pl W (fun σ T => (ma σ T).bind fun x T => (mb σ T).bind fun y T => (f x y T).bind fun r T => match r with
    | true => (mc σ T).bind fun z T => (g y z T).bind fun r T => .ok (.va (.bl r)) T
    | false => .ok (.va (.bl false)) T) σ H Q) : tChain (rC K pl W f) (rC K pl W g) (tE K pl W ma) (tE K pl W mb) (tE K pl W mc) σ H Q := by
  obtain ⟨κ, σa, T, r, l, h⟩ := h
  refine ⟨κ, σa, T, r, l, (Run.bind r Ext.refl h).imp ?_⟩
  rintro x H1 ⟨κ1, a, T1, e1, r1, d1, n1, q1, h1⟩
  refine ⟨κ1, σa, T1, r1, l.mono e1.up, (Run.bind r e1 h1).imp ?_⟩
  rintro y H2 ⟨κ2, b, T2, e2, r2, d2, n2, q2, h2⟩
  refine ⟨κ, H, T, κ2, T2, a, b, σ, (((Pt.start r).step e1 r1 d1 n1)).step e2 r2 d2 n2, q1.mono e2.up, q2, ?_⟩
  cases e3 : f a b T2 with
  | bad => rw [e3] at h2; exact h2
  | ex c T3 => exact absurd e3 (hx _ _ _ _ _)
  | ok c T3 =>
    obtain ⟨rfl, v, rfl⟩ := hf _ _ _ _ _ e3
    rw [e3] at h2
    rintro y' H' κ' e' r' d' n' rfl
    refine ⟨c, rfl, ?_⟩
    cases c with
    | false => exact Run.va r e' r' h2 rfl
    | true =>
      refine ⟨κ', σa, T3, r', l.mono e'.up, ?_⟩
      have h3 : RunS K pl W ((mc σa T3).bind fun z T => (g (.va (.int v)) z T).bind fun r T => .ok (.va (.bl r)) T) κ H T σ Q := h2
      refine (Run.bind r e' h3).imp ?_
      rintro z H4 ⟨κ4, w, T4, e4, r4, d4, n4, q4, h4⟩
      refine ⟨κ, H, T, κ4, T4, .va (.int v), w, σ, ?_, ?_, q4, ?_⟩
      · have p : Pt K pl κ H T κ' H' T3 [] := ⟨r, e', r', r'.det0, fun _ z => absurd z (by simp)⟩
        simpa [Sv.shs] using p.step e4 r4 d4 n4
      · exact q2
      · cases e5 : g (.va (.int v)) w T4 with
        | ok c T5 => rw [e5] at h4; exact fun y' H' κ' x' r' d' n' q' => h4 _ _ _ x' r' r'.det0 (fun _ h => absurd h (by simp [Sv.shs])) (by simp only [RS, RV]; exact congrArg V.bl q'.symm)
        | ex c T5 => rw [e5] at h4; exact h4
        | bad => rw [e5] at h4; exact h4
end
end AM
namespace AM
open PySem L2
section
variable {Ev : AM.Env} {Φ : Ph}
theorem E_v (i : Nat) : E Ev Φ (.v i) = fun σ T => match σ.get i with | some v => .ok (.va v) T | none => .bad := by funext σ T; simp only [E] <;> rfl
theorem E_cst (c : Va) : E Ev Φ (.cst c) = fun _ T => .ok (.va c) T := by funext σ T; simp only [E]
theorem E_bin (o : BOp) (a b : IE) : E Ev Φ (.bin o a b) = fun σ T => (E Ev Φ a σ T).bind fun x T => (E Ev Φ b σ T).bind fun y T => opBin o x y T := by funext σ T; simp only [E]
theorem E_neg (a : IE) : E Ev Φ (.neg a) = fun σ T => (E Ev Φ a σ T).bind fun x T => opNeg x T := by funext σ T; simp only [E]
theorem E_cmp (o : COp) (a b : IE) : E Ev Φ (.cmp o a b) = fun σ T => (E Ev Φ a σ T).bind fun x T => (E Ev Φ b σ T).bind fun y T => (opCmp o x y T).bind fun r T => .ok (.va (.bl r)) T := by funext σ T; simp only [E]
theorem E_chain (o p : COp) (a b c : IE) : E Ev Φ (.chain o p a b c) = fun σ T => (E Ev Φ a σ T).bind fun x T => (E Ev Φ b σ T).bind fun y T => (opCmp o x y T).bind fun r T => match r with
    | true => (E Ev Φ c σ T).bind fun z T => (opCmp p y z T).bind fun r T => .ok (.va (.bl r)) T
    | false => .ok (.va (.bl false)) T := by funext σ T; simp only [E] <;> rfl
theorem E_and (a b : IE) : E Ev Φ (.and a b) = fun σ T => (E Ev Φ a σ T).bind fun x T => (truth x T).bind fun r T => match r with
    | true => E Ev Φ b σ T
    | false => .ok (.va (.bl false)) T := by funext σ T; simp only [E] <;> rfl
theorem E_or (a b : IE) : E Ev Φ (.or a b) = fun σ T => (E Ev Φ a σ T).bind fun x T => (truth x T).bind fun r T => match r with
    | true => .ok (.va (.bl true)) T
    | false => E Ev Φ b σ T := by funext σ T; simp only [E] <;> rfl
theorem E_not (a : IE) : E Ev Φ (.not a) = fun σ T => (E Ev Φ a σ T).bind fun x T => (truth x T).bind fun r T => .ok (.va (.bl (!r))) T := by funext σ T; simp only [E]
theorem E_tup (es : List IE) : E Ev Φ (.tup es) = fun σ T => (Es Ev Φ es σ T).bind fun ss T => (settleAll ss T).bind fun vs T => mkTup vs T := by funext σ T; simp only [E]
theorem E_lst (es : List IE) : E Ev Φ (.lst es) = fun σ T => (Es Ev Φ es σ T).bind fun ss T => if ss.length ≤ lim then .ok (.tr (.lst T.next false (ss.map Sv.slot))) (T.adv 1) else .bad := by funext σ T; simp only [E]
theorem E_fld (a : IE) (f : Nat) : E Ev Φ (.fld a f) = fun σ T => (E Ev Φ a σ T).bind fun x T => match x with
    | .va (.ref ρ) => match T.at ρ with
      | some (.nd _ _ (some _) cs) => match getK cs (.f f) with
        | some t => .ok (.va (slotV ρ (.f f) t)) T
        | none => .bad
      | _ => .bad
    | _ => .bad := by funext σ T; simp only [E] <;> rfl
theorem E_ix (a i : IE) : E Ev Φ (.ix a i) = fun σ T => (E Ev Φ a σ T).bind fun x T => (E Ev Φ i σ T).bind fun y T => opIx x y T := by funext σ T; simp only [E]
theorem E_call (f : Nat) (es : List IE) : E Ev Φ (.call f es) = fun σ T => (Es Ev Φ es σ T).bind fun ss T => (settleAll ss T).bind fun vs T => Φ f vs T := by funext σ T; simp only [E]
theorem E_meth (m : Nat) (o : IE) (es : List IE) : E Ev Φ (.meth m o es) = fun σ T => (E Ev Φ o σ T).bind fun x T => match recv Ev m x T with
    | some (ρ, f) => (Es Ev Φ es σ T).bind fun ss T => (settleAll ss T).bind fun vs T => Φ f (.ref ρ :: vs) T
    | none => .bad := by funext σ T; simp only [E] <;> rfl
theorem E_make (c : Nat) (es : List IE) : E Ev Φ (.make c es) = fun σ T => (Es Ev Φ es σ T).bind fun ss T => (settleAll ss T).bind fun vs T => mkInst Ev Φ c vs T := by funext σ T; simp only [E]
theorem E_bf (b : Bf) (es : List IE) : E Ev Φ (.bf b es) = fun σ T => (Es Ev Φ es σ T).bind fun ss T => opBf Ev.hash b ss T := by funext σ T; simp only [E]
theorem E_isi (a : IE) (ts : List Ty) : E Ev Φ (.isi a ts) = fun σ T => (E Ev Φ a σ T).bind fun x T => match isTys T Ev.sub x ts with
    | some r => .ok (.va (.bl r)) T
    | none => .bad := by funext σ T; simp only [E] <;> rfl
theorem Es_nil : Es Ev Φ [] = fun _ T => .ok [] T := by funext σ T; simp only [Es]
theorem Es_cons (e : IE) (es : List IE) : Es Ev Φ (e :: es) = fun σ T => (E Ev Φ e σ T).bind fun s T => (Es Ev Φ es σ T).bind fun ss T => .ok (s :: ss) T := by funext σ T; simp only [Es]
end
section
variable {X : Cx} {L : Link} {n : Nat} {W : WX}
/-- what is to be shown of an expression -/
structure Ok (X : Cx) (L : Link) (n : Nat) (W : WX) (e : Expr) (i : IE) : Prop where
  pe : PE X e (tE X.K L.pl W (E L.Ev (Phi L.Ev L.P n) i))
  pt : PT X e (tT X.K L.pl W (tr1 (E L.Ev (Phi L.Ev L.P n) i)))
  pw : ∀ op es p, e = .BoolOp op es p → PW X e (tT X.K L.pl W (tr1 (E L.Ev (Phi L.Ev L.P n) i)))
def plainE : Expr → Bool
  | .UnaryOp .Not _ _ => false | .BoolOp _ _ _ => false | .IfExp _ _ _ _ => false | .Compare _ _ _ _ => false | _ => true
theorem Ok.plain {e : Expr} {i : IE} (h : PE X e (tE X.K L.pl W (E L.Ev (Phi L.Ev L.P n) i))) (hp : plainE e = true) : Ok X L n W e i := by
  refine ⟨h, ⟨fun pins s σ H Q I q => (pt_val h ?_).run pins s σ H Q I (tT.valT q)⟩, fun op es p e' => by subst e'; cases hp⟩
  cases e with
  | UnaryOp op _ _ => cases op <;> first | (intro _; rfl) | cases hp
  | BoolOp _ _ _ => cases hp
  | IfExp _ _ _ _ => cases hp
  | Compare _ _ _ _ => cases hp
  | _ => intro _; rfl
theorem Ok.args {C : Cxt} {N : List Str} {k : Nat} (h : ∀ e i, cE C N k X.env.scope e = some i → Ok X L n W e i) : ∀ {es : List Expr} {is : List IE}, optM (cE C N k X.env.scope) es = some is → PA X es (tA X.K L.pl W (Es L.Ev (Phi L.Ev L.P n) is))
  | [], is, e => by
    unfold optM at e; cases e
    rw [Es_nil]
    exact paI pa_nil fun σ H Q q => tA.nil q
  | e :: es, is, z => by
    unfold optM at z
    cases q : cE C N k X.env.scope e with
    | none => rw [q] at z; cases z
    | some i =>
      rw [q] at z
      cases q2 : optM (cE C N k X.env.scope) es with
      | none => rw [q2] at z; cases z
      | some is' =>
        rw [q2] at z; cases z
        rw [Es_cons]
        exact paI (pa_cons (h e i q).pe (Ok.args h q2) (cE_form q es X.env)) fun σ H Q q => tA.cons q
theorem optM_len {α β : Type} {f : α → Option β} : ∀ {l : List α} {r : List β}, optM f l = some r → l.length = r.length
  | [], r, h => by unfold optM at h; cases h; rfl
  | x :: l, r, h => by
    unfold optM at h
    cases q : f x with
    | none => rw [q] at h; cases h
    | some y =>
      rw [q] at h
      cases q2 : optM f l with
      | none => rw [q2] at h; cases h
      | some ys => rw [q2] at h; cases h; simp [optM_len q2]
theorem nsl_form {i : Expr} (h : nsl i = true) : ∀ ov iv, subscripted i false ov iv = operate [ov, iv] (getItem ov iv) := by
  cases i <;> first | (intro _ _; rfl) | cases h
theorem copOf_nin {op : CmpOp} {o : COp} (h : copOf op = some o) : op ≠ .In ∧ op ≠ .NotIn := by cases op <;> simp [copOf] at h <;> exact ⟨by simp, by simp⟩
theorem copI_pure {op : CmpOp} {o : COp} (h : copI op = some o) : (∀ a b T r T', opCmp o a b T = .ok r T' → T' = T ∧ ∃ i, b = .va (.int i)) ∧ (∀ a b T c T', opCmp o a b T ≠ .ex c T') := by
  cases op <;> simp [copI] at h <;> subst h <;> refine ⟨fun a b T r T' e => ?_, fun a b T c T' e => ?_⟩ <;> unfold opCmp at e <;> simp only at e <;> split at e <;> cases e <;> exact ⟨rfl, _, rfl⟩
variable (G : Good X L n W)
include G
theorem rC_cop {op : CmpOp} {o : COp} (h : copOf op = some o) : OpR X (compareOp op) (rC X.K L.pl W (opCmp o)) := by
  cases op <;> simp [copOf] at h <;> subst h
  · exact rC_eq G.hu
  · exact rC_ne G.hu
  · exact rC_int rfl
  · exact rC_int rfl
  · exact rC_int rfl
  · exact rC_int rfl
end
end AM
namespace AM
open PySem L2
section
variable {X : Cx} {L : Link} {n : Nat} {W : WX}
variable (G : Good X L n W)
include G
/-- the name of a type -/
theorem ty_ok {e : Expr} {t : Ty} (h : tyOf L.C X.env.scope e = some t) : ∃ c, PE X e (tC c) ∧ (∀ u, RelV c u → u = tyV L.pl t) ∧ okTy L t ∧ ∀ es env, starEach (e :: es) env = (false, eval e env) :: starEach es env := by
  unfold tyOf at h
  split at h
  · rename_i x p
    split at h
    · rename_i hg
      split at h
      · rename_i c hc
        split at h
        · cases h
        · rename_i hd
          cases h
          obtain ⟨hm, _⟩ := G.lk.exn x c hc
          exact ⟨.ref (L.pl.exc c), pe_glob (gl_of hg) hm rfl (dbg_of (by simpa using hd)).1, fun u r => r, fun d e => by cases e; exact ⟨x, hc⟩, fun _ _ => rfl⟩
      · split at h
        · rename_i hb
          have hm := G.lk.blt x hb
          have no : ∀ {t : Ty}, (∀ d, t ≠ .cls d) → okTy L t := fun h d e => absurd e (h d)
          split at h
          · rename_i e; subst e; cases h; exact ⟨.ty "int", pe_bltn (gl_of hg) hm rfl rfl, fun u r => r, no (fun _ z => nomatch z), fun _ _ => rfl⟩
          · split at h
            · rename_i e; subst e; cases h; exact ⟨.ty "bool", pe_bltn (gl_of hg) hm rfl rfl, fun u r => r, no (fun _ z => nomatch z), fun _ _ => rfl⟩
            · split at h
              · rename_i e; subst e; cases h; exact ⟨.ty "list", pe_bltn (gl_of hg) hm rfl rfl, fun u r => r, no (fun _ z => nomatch z), fun _ _ => rfl⟩
              · split at h
                · rename_i e; subst e; cases h; exact ⟨.ty "tuple", pe_bltn (gl_of hg) hm rfl rfl, fun u r => r, no (fun _ z => nomatch z), fun _ _ => rfl⟩
                · split at h
                  · rename_i e; subst e; cases h; exact ⟨.ty "str", pe_bltn (gl_of hg) hm rfl rfl, fun u r => r, no (fun _ z => nomatch z), fun _ _ => rfl⟩
                  · split at h
                    · rename_i e; subst e; cases h; exact ⟨.ty "ValueError", pe_bltn (gl_of hg) hm rfl rfl, fun u r => r, no (fun _ z => nomatch z), fun _ _ => rfl⟩
                    · cases h
        · cases h
    · cases h
  · cases h
theorem tys_ok : ∀ {es : List Expr} {ts : List Ty}, optM (tyOf L.C X.env.scope) es = some ts → ∃ cs, PA X es (fun _ H Q => Q cs H) ∧ Paired (fun c t => ∀ u, RelV c u → u = tyV L.pl t) cs ts ∧ ∀ t ∈ ts, okTy L t
  | [], ts, h => by unfold optM at h; cases h; exact ⟨[], pa_nil, .nil, fun _ z => nomatch z⟩
  | e :: es, ts, h => by
    unfold optM at h
    cases q : tyOf L.C X.env.scope e with
    | none => rw [q] at h; cases h
    | some t =>
      rw [q] at h
      cases q2 : optM (tyOf L.C X.env.scope) es with
      | none => rw [q2] at h; cases h
      | some ts' =>
        rw [q2] at h; cases h
        obtain ⟨c, h1, h2, h3, h4⟩ := ty_ok G q
        obtain ⟨cs, g1, g2, g3⟩ := tys_ok q2
        exact ⟨c :: cs, pa_cons h1 g1 (h4 es X.env), .cons h2 g2, fun u hu => (List.mem_cons.mp hu).elim (fun z => z ▸ h3) (g3 u)⟩
theorem s_isi {a t : Expr} {x : Str} {p pos : Pos} {ma : Sg → Tw → Res Sv} {ts : List Ty} (hg : Gl X x) (hm : X.mg x = none) (hx : x = "isinstance") (ha : PE X a (tE X.K L.pl W ma)) (hs : ∀ es env, starEach (a :: es) env = (false, eval a env) :: starEach es env)
    (ht : (∃ c t', ts = [t'] ∧ PE X t (tC c) ∧ (∀ u, RelV c u → u = tyV L.pl t') ∧ okTy L t' ∧ ∀ es env, starEach (t :: es) env = (false, eval t env) :: starEach es env) ∨ ∃ es c p, t = .Tuple es c p ∧ ts ≠ [] ∧ ts.length ≤ 50 ∧ optM (tyOf L.C X.env.scope) es = some ts) :
    PE X (.Call (.Name x p) [a, t] [] pos) (tE X.K L.pl W fun σ T => (ma σ T).bind fun x T => match isTys T L.Ev.sub x ts with
      | some r => .ok (.va (.bl r)) T
      | none => .bad) := by
  subst hx
  rcases ht with ⟨c, t', rfl, pt, hc, ok, st⟩ | ⟨es, c, p', rfl, hne, hl, ho⟩
  · refine peI (pe_callB (call_is G (ts := [t'])) hg hm rfl (pa_cons ha (pa_cons pt pa_nil (st [] X.env)) (hs _ X.env)) (he := by rw [hs]) (hpl := by rw [st]; rfl)) fun σ H Q h => ?_
    obtain ⟨κ, σa, T, r, l, h⟩ := tE.un (β := Unit) h
    refine ⟨κ, σa, T, r, l, h.imp ?_⟩
    rintro y H1 ⟨κ0, H0, T0, κ, T, b, p, q, h⟩
    exact ⟨κ0, H0, T0, κ, T, b, σ, y, c, rfl, by simp, fun u hu => by rw [List.mem_singleton.mp hu]; exact ok, .inl ⟨t', rfl, hc⟩, p, q, h⟩
  · obtain ⟨cs, g1, g2, g3⟩ := tys_ok G ho
    refine peI (pe_callB (call_is G (ts := ts)) hg hm rfl (pa_cons ha (pa_cons (pe_tup g1) pa_nil) (hs _ X.env)) (he := by rw [hs])) fun σ H Q h => ?_
    obtain ⟨κ, σa, T, r, l, h⟩ := tE.un (β := Unit) h
    refine ⟨κ, σa, T, r, l, h.imp ?_⟩
    rintro y H1 ⟨κ0, H0, T0, κ, T, b, p, q, h⟩
    refine ⟨?_, fun tp htp => ?_⟩
    · rw [Paired.len g2, sizeLine_eq]; omega
    · refine ⟨κ0, H0, T0, κ, T, b, σ, y, .ref tp, rfl, hne, g3, .inr ⟨tp, cs, rfl, upd_same, g2⟩, p.fresh htp, q.mono (p.r.fresh htp).2.up, h⟩
/-- a built-in function -/
theorem s_bf {x : Str} {b : Bf} {e : Expr} {es : List Expr} {ms : Sg → Tw → Res (List Sv)} {p pos : Pos} (hg : Gl X x) (hm : X.mg x = none) (hd : dbg x = false) (hb : bfOf x = some b) (ha : PA X (e :: es) (tA X.K L.pl W ms)) (hf : ∀ e' ∈ e :: es, ∀ env r, starEach (e' :: r) env = (false, eval e' env) :: starEach r env) :
    PE X (.Call (.Name x p) (e :: es) [] pos) (tE X.K L.pl W fun σ T => (ms σ T).bind fun ss T => opBf L.Ev.hash b ss T) := by
  have he := hf e List.mem_cons_self X.env es
  have hpl := plain_of es X.env pos fun e' he => hf e' (List.mem_cons_of_mem _ he) X.env
  unfold bfOf at hb
  split at hb
  · rename_i hx; subst hx; cases hb
    exact peI (pe_callB (rF_len (pl := L.pl) (W := W) L.Ev.hash) hg hm rfl ha (he := he) (hpl := hpl)) fun σ H Q h => tA.then h
  · split at hb
    · rename_i hx; subst hx; cases hb
      exact peI (pe_callTy (rF_int (pl := L.pl) (W := W) L.Ev.hash) hg hm rfl ha (he := he) (hpl := hpl)) fun σ H Q h => tA.then h
    · split at hb
      · rename_i hx; subst hx; cases hb
        exact peI (pe_callB (rF_max (pl := L.pl) (W := W) L.Ev.hash G.calm) hg hm rfl ha (he := he) (hpl := hpl)) fun σ H Q h => tA.then h
      · split at hb
        · rename_i hx; subst hx; cases hb
          exact peI (pe_callB (rF_min (pl := L.pl) (W := W) L.Ev.hash G.calm) hg hm rfl ha (he := he) (hpl := hpl)) fun σ H Q h => tA.then h
        · cases hb
/-- what the compiler takes runs as the machine does -/
theorem cE_ok : ∀ (k : Nat) (e : Expr) (i : IE), cE L.C X.N k X.env.scope e = some i → Ok X L n W e i
  | 0, e, i, h => by cases h
  | k + 1, e, i, h => by
    have ih := cE_ok k
    unfold cE at h
    split at h
    · -- a name
      rename_i x p
      split at h
      · rename_i hc
        simp only [Bool.and_eq_true, Bool.not_eq_true'] at hc
        cases q : slotOf X.N x with
        | none => rw [q] at h; cases h
        | some j =>
          rw [q] at h; cases h
          refine Ok.plain ?_ rfl
          rw [E_v]
          exact peI (pe_var (slotOf_get q) (vis_of hc.1) (dbg_of hc.2).1 (dbg_of hc.2).2.1) fun σ H Q h => tE.var h
      · cases h
    · cases h; exact Ok.plain (by rw [E_cst]; exact peI pe_non fun σ H Q h => tE.cst (c := .non) (fun _ _ => by simp only [RV]) h) rfl
    · cases h; exact Ok.plain (by rw [E_cst]; exact peI pe_bl fun σ H Q h => tE.cst (c := .bl _) (fun _ _ => by simp only [RV]) h) rfl
    · cases h; exact Ok.plain (by rw [E_cst]; exact peI pe_int fun σ H Q h => tE.cst (c := .int _) (fun _ _ => by simp only [RV]) h) rfl
    · cases h; exact Ok.plain (by rw [E_cst]; exact peI pe_str fun σ H Q h => tE.cst (c := .str _) (fun _ _ => by simp only [RV]) h) rfl
    · -- a op b
      split at h
      · rename_i o i j ho hi hj
        cases h
        exact Ok.plain (by rw [E_bin]; exact peI (pe_op (rB_bop ho) (ih _ _ hi).pe (ih _ _ hj).pe) fun σ H Q h => tE.bin h) rfl
      · cases h
    · -- -a
      rename_i a p
      cases q : cE L.C X.N k X.env.scope a with
      | none => rw [q] at h; cases h
      | some j =>
        rw [q] at h; cases h
        refine Ok.plain (by
          rw [E_neg]
          refine peI (pe_un un_neg (ih _ _ q).pe) fun σ H Q h => ?_
          obtain ⟨κ, σa, T, r, l, h⟩ := tE.un (β := Unit) h
          refine ⟨κ, σa, T, r, l, h.imp ?_⟩
          rintro y H1 ⟨κ0, H0, T0, κ, T, b, p, q, h⟩
          cases b with
          | tr t => exact h.elim
          | va b =>
            cases b <;> first | exact h.elim | skip
            have q : y = _ := q
            exact ⟨_, q, p.val h rfl⟩) rfl
    · -- not a
      rename_i a p
      cases q : cE L.C X.N k X.env.scope a with
      | none => rw [q] at h; cases h
      | some j =>
        rw [q] at h; cases h
        refine ⟨?_, ?_, fun op es p e => by cases e⟩
        · rw [E_not]; exact peI (pe_not (ih _ _ q).pe) fun σ H Q h => tE.notV h
        · rw [E_not]; exact ptI (pt_not (ih _ _ q).pt) fun σ H Q h => tT.not h
    · -- one
      rename_i op a p
      have o := ih _ _ h
      have w : PW X (.BoolOp op [a] p) (tT X.K L.pl W (tr1 (E L.Ev (Phi L.Ev L.P n) i))) := by
        cases op with
        | And => exact pw_and1 o.pt
        | Or => exact pw_or1 o.pt
      exact ⟨pe_one o.pe, w.pt, fun op' es' p' e => by cases e; exact w⟩
    · -- and
      split at h
      · rename_i i j hi hj
        cases h
        have oa := ih _ _ hi
        have ob := ih _ _ hj
        have w := pw_and oa.pt (ob.pw _ _ _ rfl)
        refine ⟨?_, ?_, fun op es p e => ?_⟩
        · rw [E_and]; exact peI (pe_and oa.pe ob.pe) fun σ H Q h => tE.andV h
        · rw [E_and]; exact ptI w.pt fun σ H Q h => tT.and h
        · cases e; rw [E_and]; exact ⟨fun wh pins s σ H Q I h => w.run wh pins s σ H Q I (tT.and h)⟩
      · cases h
    · -- or
      split at h
      · rename_i i j hi hj
        cases h
        have oa := ih _ _ hi
        have ob := ih _ _ hj
        have w := pw_or oa.pt (ob.pw _ _ _ rfl)
        refine ⟨?_, ?_, fun op es p e => ?_⟩
        · rw [E_or]; exact peI (pe_or oa.pe ob.pe) fun σ H Q h => tE.orV h
        · rw [E_or]; exact ptI w.pt fun σ H Q h => tT.or h
        · cases e; rw [E_or]; exact ⟨fun wh pins s σ H Q I h => w.run wh pins s σ H Q I (tT.or h)⟩
      · cases h
    · -- is None
      rename_i a p1 p2 p3
      cases q : cE L.C X.N k X.env.scope a with
      | none => rw [q] at h; cases h
      | some j =>
        rw [q] at h; cases h
        have rd : ∀ σ H Q, tE X.K L.pl W (E L.Ev (Phi L.Ev L.P n) (.cmp .isn j (.cst .non))) σ H Q → tIsN (tE X.K L.pl W (E L.Ev (Phi L.Ev L.P n) j)) σ H Q := fun σ H Q h => by
          rw [E_cmp, E_cst] at h
          obtain ⟨κ, σa, T, r, l, h⟩ := tE.un (β := Unit) (f := fun x T => .ok (.va (.bl (isNon x))) T) h
          refine ⟨κ, σa, T, r, l, h.imp ?_⟩
          rintro y H1 ⟨κ0, H0, T0, κ, T, b, p, q, h⟩
          rw [isNon_dec q]
          exact p.val h rfl
        exact ⟨peI (pe_cmp (pc_isN (ih _ _ q).pe)) rd, ⟨fun pins s σ H Q I h => (pt_cmp (pc_isN (ih _ _ q).pe)).run pins s σ H Q I (rd σ H _ (tT.valT h))⟩, fun op es p e => by cases e⟩
    · -- is not None
      rename_i a p1 p2 p3
      cases q : cE L.C X.N k X.env.scope a with
      | none => rw [q] at h; cases h
      | some j =>
        rw [q] at h; cases h
        have rd : ∀ σ H Q, tE X.K L.pl W (E L.Ev (Phi L.Ev L.P n) (.cmp .notn j (.cst .non))) σ H Q → tNotN (tE X.K L.pl W (E L.Ev (Phi L.Ev L.P n) j)) σ H Q := fun σ H Q h => by
          rw [E_cmp, E_cst] at h
          obtain ⟨κ, σa, T, r, l, h⟩ := tE.un (β := Unit) (f := fun x T => .ok (.va (.bl (!isNon x))) T) h
          refine ⟨κ, σa, T, r, l, h.imp ?_⟩
          rintro y H1 ⟨κ0, H0, T0, κ, T, b, p, q, h⟩
          rw [isNon_dec q]
          exact p.val h rfl
        exact ⟨peI (pe_cmp (pc_notN (ih _ _ q).pe)) rd, ⟨fun pins s σ H Q I h => (pt_cmp (pc_notN (ih _ _ q).pe)).run pins s σ H Q I (rd σ H _ (tT.valT h))⟩, fun op es p e => by cases e⟩
    · -- a op b, compared
      split at h
      · rename_i o i j ho hi hj
        cases h
        obtain ⟨n1, n2⟩ := copOf_nin ho
        have oa := ih _ _ hi
        have ob := ih _ _ hj
        refine ⟨?_, ?_, fun op es p e => by cases e⟩
        · rw [E_cmp]; exact peI (pe_cmpR (rC_cop G ho) oa.pe ob.pe (nobehind _ n1 n2)) fun σ H Q h => tE.cmp h
        · rw [E_cmp]; exact ptI (pt_cmpR (rC_cop G ho) oa.pe ob.pe (nobehind _ n1 n2)) fun σ H Q h => tT.cmp h
      · cases h
    · -- a op b op c
      split at h
      · rename_i o p i j l ho hp hi hj hl
        cases h
        have oa := ih _ _ hi
        have ob := ih _ _ hj
        have oc := ih _ _ hl
        have hm : ∀ (op oq : CmpOp) (b c : Expr), copI oq ≠ none → lastMarks [op, oq] [b, c] = false := by
          intro op oq b c h
          show behindInMarks oq c = false
          exact nobehind c (by rintro rfl; exact h rfl) (by rintro rfl; exact h rfl)
        obtain ⟨c1, c2⟩ := copI_pure ho
        have rd : ∀ σ H Q, tE X.K L.pl W (E L.Ev (Phi L.Ev L.P n) (.chain o p i j l)) σ H Q → tChain (rC X.K L.pl W (opCmp o)) (rC X.K L.pl W (opCmp p)) (tE X.K L.pl W (E L.Ev (Phi L.Ev L.P n) i)) (tE X.K L.pl W (E L.Ev (Phi L.Ev L.P n) j)) (tE X.K L.pl W (E L.Ev (Phi L.Ev L.P n) l)) σ H Q := fun σ H Q h => by
          rw [E_chain] at h
          exact tE.chain c1 c2 h
        refine ⟨peI (pe_chain (rC_int ho) (rC_int hp) oa.pe ob.pe oc.pe (hm _ _ _ _ (by rw [hp]; simp))) rd, ⟨fun pins s σ H Q I h => (pt_chain (rC_int ho) (rC_int hp) oa.pe ob.pe oc.pe (hm _ _ _ _ (by rw [hp]; simp))).run pins s σ H Q I (rd σ H _ (tT.valT h))⟩, fun op es p e => by cases e⟩
      · cases h
    · -- a tuple
      rename_i es c p
      cases q : optM (cE L.C X.N k X.env.scope) es with
      | none => rw [q] at h; cases h
      | some is =>
        rw [q] at h; cases h
        exact Ok.plain (by rw [E_tup]; exact peI (pe_tup (Ok.args ih q)) fun σ H Q h => tE.tup h) rfl
    · -- a list
      rename_i es p
      cases q : optM (cE L.C X.N k X.env.scope) es with
      | none => rw [q] at h; cases h
      | some is =>
        rw [q] at h; cases h
        exact Ok.plain (by rw [E_lst]; exact peI (pe_lst (Ok.args ih q)) fun σ H Q h => tE.lst h) rfl
    · -- an attribute
      split at h
      · rename_i hb
        split at h
        · rename_i m i hm hi
          cases h
          exact Ok.plain (by rw [E_fld]; exact s_fld G hb hm (ih _ _ hi).pe) rfl
        · cases h
      · cases h
    · -- a subscript
      split at h
      · rename_i hn
        split at h
        · rename_i x y hx hy
          cases h
          refine Ok.plain ?_ rfl
          rw [E_ix]
          have ns := nsl_form hn
          refine peI (peOr (pe_ix (IxR.or ix_list ix_tup) (ih _ _ hx).pe (ih _ _ hy).pe ns) (pe_dget (by have := G.hu; omega) (ih _ _ hx).pe (ih _ _ hy).pe ns)) fun σ H Q h => ?_
          obtain ⟨κ, σa, T, r, l, h⟩ := h
          by_cases hP : ∃ a T1 b T2, E L.Ev (Phi L.Ev L.P n) x σa T = .ok a T1 ∧ E L.Ev (Phi L.Ev L.P n) y σa T1 = .ok b T2 ∧ isDict a T2
          · right
            obtain ⟨a0, T1, b0, T2, z1, z2, z3⟩ := hP
            obtain ⟨κ, σa, T, r, l, h⟩ := tE.binP (P := fun a _ T => isDict a T) r l h fun a T1' b T2' w1 w2 => by
              rw [z1] at w1; cases w1; rw [z2] at w2; cases w2; exact z3
            refine ⟨κ, σa, T, r, l, h.imp ?_⟩
            rintro x1 H1 ⟨κ, σa, T, r, l, h⟩
            refine ⟨κ, σa, T, r, l, h.imp ?_⟩
            intro y1 H2 h
            exact rB_dget _ _ _ _ h
          · left
            obtain ⟨κ, σa, T, r, l, h⟩ := tE.binP (P := fun a _ T => ¬ isDict a T) r l h fun a T1' b T2' w1 w2 w3 => hP ⟨a, T1', b, T2', w1, w2, w3⟩
            refine ⟨κ, σa, T, r, l, h.imp ?_⟩
            rintro x1 H1 ⟨κ, σa, T, r, l, h⟩
            refine ⟨κ, σa, T, r, l, h.imp ?_⟩
            intro y1 H2 h
            exact rB_ix _ _ _ _ h
        · cases h
      · cases h
    · -- a call
      split at h
      · rename_i x p args ps hgd
        simp only [Bool.and_eq_true, Bool.not_eq_true'] at hgd
        obtain ⟨hg, hd⟩ := hgd
        have hg := gl_of hg
        split at h
        · rename_i f hf
          cases q : optM (cE L.C X.N k X.env.scope) args with
          | none => rw [q] at h; cases h
          | some is =>
            rw [q] at h; cases h
            refine Ok.plain ?_ rfl
            rw [E_call]
            cases args with
            | nil => unfold optM at q; cases q; rw [Es_nil]; exact s_call0 G hg hd hf
            | cons e es => exact s_call G hg hd hf (Ok.args ih q) (cA_form q)
        · split at h
          · rename_i c hc
            cases q : optM (cE L.C X.N k X.env.scope) args with
            | none => rw [q] at h; cases h
            | some is =>
              rw [q] at h; cases h
              refine Ok.plain ?_ rfl
              rw [E_make]
              cases args with
              | nil => unfold optM at q; cases q; rw [Es_nil]; exact s_make0 G hg hd hc (G.lk.ini x c hc)
              | cons e es => exact s_make G hg hd hc (G.lk.ini x c hc) (Ok.args ih q) (cA_form q)
          · split at h
            · rename_i hb
              have hm := G.lk.blt x hb
              split at h
              · rename_i hx
                split at h
                · rename_i a ts c p2
                  split at h
                  · rename_i i ts' hi ht
                    split at h
                    · cases h
                    · rename_i hne
                      cases h
                      simp only [Bool.or_eq_true, List.isEmpty_iff, decide_eq_true_eq, not_or, Nat.not_lt] at hne
                      refine Ok.plain ?_ rfl
                      rw [E_isi]
                      exact s_isi G hg hm hx (ih _ _ hi).pe (fun es env => cE_form hi es env) (.inr ⟨_, _, _, rfl, hne.1, hne.2, ht⟩)
                  · cases h
                · rename_i a t hnt
                  split at h
                  · rename_i i ts' hi ht
                    cases h
                    refine Ok.plain ?_ rfl
                    rw [E_isi]
                    obtain ⟨c, h1, h2, h3, h4⟩ := ty_ok G ht
                    exact s_isi G hg hm hx (ih _ _ hi).pe (fun es env => cE_form hi es env) (.inl ⟨c, _, rfl, h1, h2, h3, h4⟩)
                  · cases h
                · cases h
              · split at h
                · rename_i b hb2
                  split at h
                  · cases h
                  · rename_i hne
                    cases q : optM (cE L.C X.N k X.env.scope) args with
                    | none => rw [q] at h; cases h
                    | some is =>
                      rw [q] at h; cases h
                      refine Ok.plain ?_ rfl
                      rw [E_bf]
                      cases args with
                      | nil => exact absurd rfl hne
                      | cons e es => exact s_bf G hg hm hd hb2 (Ok.args ih q) (cA_form q)
                · cases h
            · cases h
      · cases h
    · -- a method
      split at h
      · rename_i o m apos args pos hc
        simp only [Bool.and_eq_true, decide_eq_true_eq] at hc
        split at h
        · rename_i c hm
          split at h
          · rename_i i is hi his
            cases h
            refine Ok.plain ?_ rfl
            rw [E_meth]
            refine s_meth G hc.1.1 hc.1.2 hc.2 hm (ih _ _ hi).pe ?_ (cA_form his)
            cases args with
            | nil => unfold optM at his; cases his; exact .inl ⟨rfl, Es_nil⟩
            | cons e es => exact .inr ⟨by simp, Ok.args ih his⟩
          · cases h
        · cases h
      · cases h
    · cases h
end
end AM
namespace AM
open PySem L2
section
variable {X : Cx} {L : Link} {n : Nat} {W : WX} {K : PySem.W.Frag} {pl : Pl}
/-- what a statement's end must give -/
def RunX (K : PySem.W.Frag) (pl : Pl) (W : WX) (r : SRes) (κ : Ka) (H : Hp) (T : Tw) (D : Ends) : Prop := match r with
  | .nx σ' T' => ∀ σ2 H' κ', Ext κ H T κ' H' T' → RT K pl κ' H' T' → RL pl κ' H' σ' σ2 → D.nx σ2 H'
  | .bk σ' T' => ∀ σ2 H' κ', Ext κ H T κ' H' T' → RT K pl κ' H' T' → RL pl κ' H' σ' σ2 → D.bk σ2 H'
  | .ct σ' T' => ∀ σ2 H' κ', Ext κ H T κ' H' T' → RT K pl κ' H' T' → RL pl κ' H' σ' σ2 → D.ct σ2 H'
  | .rt s T' => ∀ y H' κ', Ext κ H T κ' H' T' → RT K pl κ' H' T' → Det K pl κ' H' T' s.shs → Nw κ T s.shs → RS pl κ' H' s y → D.rt y H'
  | .ex c σ' T' => ∀ σ2 H' κ', Ext κ H T κ' H' T' → RT K pl κ' H' T' → RL pl κ' H' σ' σ2 → W (.ref (pl.exc c)) none σ2 H'
  | .bad => False
def tS (K : PySem.W.Frag) (pl : Pl) (W : WX) (m : Sg → Tw → SRes) : TS := fun D σ H => ∃ κ σa T, RT K pl κ H T ∧ RL pl κ H σa σ ∧ RunX K pl W (m σa T) κ H T D
variable {κ κ1 κ2 κ0 : Ka} {H H1 H0 : Hp} {T T1 T0 : Tw} {σ : St} {σa : Sg} {D : Ends}
theorem RunX.later {r : SRes} (r0 : RT K pl κ H T) (e : Ext κ H T κ1 H1 T1) (h : RunX K pl W r κ H T D) : RunX K pl W r κ1 H1 T1 D := by
  cases r with
  | nx σ' T' => exact fun σ2 H' κ' e' r' l => h σ2 H' κ' (e.trans r0 e') r' l
  | bk σ' T' => exact fun σ2 H' κ' e' r' l => h σ2 H' κ' (e.trans r0 e') r' l
  | ct σ' T' => exact fun σ2 H' κ' e' r' l => h σ2 H' κ' (e.trans r0 e') r' l
  | ex c σ' T' => exact fun σ2 H' κ' e' r' l => h σ2 H' κ' (e.trans r0 e') r' l
  | rt s T' => exact fun y H' κ' e' r' d n q => h y H' κ' (e.trans r0 e') r' d (n.mono e) q
  | bad => exact h
/-- an expression within a statement -/
theorem RunX.inS {α β : Type} {sh : α → List Tr} {rel : Ka → Hp → α → β → Prop} {r : Res α} {f : α → Tw → SRes} (r0 : RT K pl κ H T) (e : Ext κ H T κ1 H1 T1) (l : RL pl κ1 H1 σa σ) (h : RunX K pl W (AM.inS r σa f) κ H T D) :
    Run K pl W sh rel r κ1 H1 T1 σ fun y H2 => ∃ κ2 a T2, Ext κ1 H1 T1 κ2 H2 T2 ∧ RT K pl κ2 H2 T2 ∧ Det K pl κ2 H2 T2 (sh a) ∧ Nw κ1 T1 (sh a) ∧ rel κ2 H2 a y ∧ RL pl κ2 H2 σa σ ∧ RunX K pl W (f a T2) κ H T D := by
  cases r with
  | ok a T' => exact fun y H' κ' e' r' d n q => ⟨κ', a, T', e', r', d, n, q, l.mono e'.up, h⟩
  | ex c T' => exact fun H' κ' e' r' => h σ H' κ' (e.trans r0 e') r' (l.mono e'.up)
  | bad => exact h
/-- one operand, then a statement's end -/
theorem tS.one {m : Sg → Tw → Res Sv} {f : Sg → Sv → Tw → SRes} (h : tS K pl W (fun σ T => AM.inS (m σ T) σ fun s T => f σ s T) D σ H) :
    tE K pl W m σ H fun y H1 => ∃ κ0 H0 T0 κ σa T a, Pt K pl κ0 H0 T0 κ H1 T a.shs ∧ RL pl κ H1 σa σ ∧ RS pl κ H1 a y ∧ RunX K pl W (f σa a T) κ0 H0 T0 D := by
  obtain ⟨κ, σa, T, r, l, h⟩ := h
  refine ⟨κ, σa, T, r, l, (RunX.inS (sh := Sv.shs) (rel := RS pl) r Ext.refl l h).imp ?_⟩
  rintro y H1 ⟨κ1, a, T1, e1, r1, d1, n1, q1, l1, h1⟩
  exact ⟨κ, H, T, κ1, σa, T1, a, by simpa using (Pt.start r).step e1 r1 d1 n1, l1, q1, h1⟩
/-- where the machine goes on -/
theorem Pt.next (p : Pt K pl κ0 H0 T0 κ H T []) (l : RL pl κ H σa σ) (h : RunX K pl W (.nx σa T) κ0 H0 T0 D) : D.nx σ H := h σ H κ p.e p.r l
theorem tS.next (h : tS K pl W (fun σ T => .nx σ T) D σ H) : D.nx σ H := by
  obtain ⟨κ, σa, T, r, l, h⟩ := h
  exact h σ H κ Ext.refl r l
theorem tS.seq {m m' : Sg → Tw → SRes} (h : tS K pl W (fun σ T => (m σ T).then_ fun σ T => m' σ T) D σ H) : tSeq (tS K pl W m) (tS K pl W m') D σ H := by
  obtain ⟨κ, σa, T, r, l, h⟩ := h
  refine ⟨κ, σa, T, r, l, ?_⟩
  dsimp only at h
  cases e : m σa T with
  | nx σ' T' =>
    rw [e] at h
    intro σ2 H' κ' e' r' l'
    exact ⟨κ', σ', T', r', l', RunX.later r e' h⟩
  | bk σ' T' => rw [e] at h; exact h
  | ct σ' T' => rw [e] at h; exact h
  | ex c σ' T' => rw [e] at h; exact h
  | rt s T' => rw [e] at h; exact h
  | bad => rw [e] at h; exact h
theorem tS.ite {m : Sg → Tw → Res Sv} {ma mb : Sg → Tw → SRes} (h : tS K pl W (fun σ T => AM.inS (m σ T) σ fun s T => AM.inS (truth s T) σ fun r T => match r with | true => ma σ T | false => mb σ T) D σ H) :
    tIfS (tT K pl W (tr1 m)) (tS K pl W ma) (tS K pl W mb) D σ H := by
  obtain ⟨κ, σa, T, r, l, h⟩ := h
  refine ⟨κ, σa, T, r, l, ?_⟩
  unfold tr1
  dsimp only at h
  cases e1 : m σa T with
  | ex c T1 => rw [e1] at h; exact fun H' κ' e' r' => h σ H' κ' e' r' (l.mono e'.up)
  | bad => rw [e1] at h; exact h
  | ok s T1 =>
    rw [e1] at h
    simp only [bind_ok, inS_ok] at h ⊢
    rcases truth_cases s T1 with ⟨b, rfl⟩ | e
    · simp only [truth, inS_ok] at h ⊢
      rintro y H' κ' e' r' d n rfl
      cases b with
      | true => rw [if_pos rfl]; exact ⟨κ', σa, T1, r', l.mono e'.up, RunX.later r e' h⟩
      | false => rw [if_neg (by simp)]; exact ⟨κ', σa, T1, r', l.mono e'.up, RunX.later r e' h⟩
    · rw [e] at h; exact h.elim
theorem tS.asg {m : Sg → Tw → Res Sv} {i : Nat} (h : tS K pl W (fun σ T => AM.inS (m σ T) σ fun s T => AM.inS (settle s T) σ fun v T => .nx (σ.set i (some v)) T) D σ H) : tAsg (tE K pl W m) (gName i) D σ H := by
  obtain ⟨κ, σa, T, r, l, h⟩ := tS.one (f := fun σ s T => AM.inS (settle s T) σ fun v T => .nx (σ.set i (some v)) T) h
  refine ⟨κ, σa, T, r, l, h.imp ?_⟩
  rintro y H1 ⟨κ0, H0, T0, κ, σa, T, a, p, l, q, h⟩
  obtain ⟨v, T', e⟩ : ∃ v T', settle a T = .ok v T' := by cases a with | va v => exact ⟨v, T, rfl⟩ | tr t => exact ⟨_, _, rfl⟩
  rw [e] at h
  obtain ⟨p', q'⟩ := Pt.settle (D := []) (by simpa using p) q e
  exact p'.next (l.set q') h
theorem tS.drop {m : Sg → Tw → Res Sv} (h : tS K pl W (fun σ T => AM.inS (m σ T) σ fun _ T => .nx σ T) D σ H) : tDrop (tE K pl W m) D σ H := by
  obtain ⟨κ, σa, T, r, l, h⟩ := tS.one (f := fun σ _ T => .nx σ T) h
  refine ⟨κ, σa, T, r, l, h.imp ?_⟩
  rintro y H1 ⟨κ0, H0, T0, κ, σa, T, a, p, l, q, h⟩
  exact p.drop.next l h
theorem tS.ret {m : Sg → Tw → Res Sv} (h : tS K pl W (fun σ T => AM.inS (m σ T) σ fun s T => .rt s T) D σ H) : tRet (tE K pl W m) D σ H := by
  obtain ⟨κ, σa, T, r, l, h⟩ := tS.one (f := fun σ s T => .rt s T) h
  refine ⟨κ, σa, T, r, l, h.imp ?_⟩
  rintro y H1 ⟨κ0, H0, T0, κ, σa, T, a, p, l, q, h⟩
  exact h y H1 κ p.e p.r p.d p.n q
theorem tS.retN (h : tS K pl W (fun σ T => .rt (.va .non) T) D σ H) : tRetN D σ H := by
  obtain ⟨κ, σa, T, r, l, h⟩ := h
  exact h _ H κ Ext.refl r r.det0 (fun _ z => absurd z (by simp [Sv.shs])) (by simp only [RS, RV])
theorem tS.brk (h : tS K pl W (fun σ T => .bk σ T) D σ H) : tBreak D σ H := by
  obtain ⟨κ, σa, T, r, l, h⟩ := h
  exact h σ H κ Ext.refl r l
/-! ### loops -/
/-- where the next turn stands -/
def At (K : PySem.W.Frag) (pl : Pl) (W : WX) (F : Sg → Tw → SRes) (κ0 : Ka) (H0 : Hp) (T0 : Tw) (D : Ends) : St → Hp → Prop := fun σ H => ∃ κ σa T, Ext κ0 H0 T0 κ H T ∧ RT K pl κ H T ∧ RL pl κ H σa σ ∧ RunX K pl W (F σa T) κ0 H0 T0 D
def turn (r : SRes) (F : Sg → Tw → SRes) : SRes := match r with
  | .nx σ T => F σ T
  | .ct σ T => F σ T
  | .bk σ T => .nx σ T
  | r => r
theorem RunX.turn {r : SRes} {F : Sg → Tw → SRes} (h : RunX K pl W (turn r F) κ0 H0 T0 D) : RunX K pl W r κ0 H0 T0 { D with nx := At K pl W F κ0 H0 T0 D, ct := At K pl W F κ0 H0 T0 D, bk := D.nx } := by
  cases r with
  | nx σ' T' => exact fun σ2 H' κ' e' r' l => ⟨κ', σ', T', e', r', l, h⟩
  | ct σ' T' => exact fun σ2 H' κ' e' r' l => ⟨κ', σ', T', e', r', l, h⟩
  | bk σ' T' => exact h
  | ex c σ' T' => exact h
  | rt s T' => exact h
  | bad => exact h
theorem loopV_cons (f : Va → Sg → Tw → SRes) (v : Va) (vs : List Va) (σ : Sg) (T : Tw) : loopV f (v :: vs) σ T = turn (f v σ T) fun σ T => loopV f vs σ T := by
  show (match f v σ T with | .nx σ T => loopV f vs σ T | .ct σ T => loopV f vs σ T | .bk σ T => .nx σ T | r => r) = _
  unfold turn; cases f v σ T <;> rfl
theorem loopW_step (c : Sg → Tw → Res Bool) (f : Sg → Tw → SRes) (n : Nat) (σ : Sg) (T : Tw) : loopW c f (n + 1) σ T = match c σ T with
    | .ok true T => turn (f σ T) fun σ T => loopW c f n σ T
    | .ok false T => .nx σ T
    | .ex e T => .ex e σ T
    | .bad => .bad := by
  show (match c σ T with
    | .ok true T => (match f σ T with | .nx σ T => loopW c f n σ T | .ct σ T => loopW c f n σ T | .bk σ T => .nx σ T | r => r)
    | .ok false T => .nx σ T
    | .ex e T => .ex e σ T
    | .bad => .bad) = _
  cases c σ T with
  | ok b T => cases b with
    | true => unfold turn; cases f σ T <;> rfl
    | false => rfl
  | ex _ _ => rfl
  | bad => rfl
theorem tS.whl {mc : Sg → Tw → Res Sv} {f : Sg → Tw → SRes} (h : tS K pl W (fun σ T => loopW (tr1 mc) f gas σ T) D σ H) : tWhile (tT K pl W (tr1 mc)) (tS K pl W f) D σ H := by
  obtain ⟨κ0, σa0, T0, r0, l0, h⟩ := h
  refine ⟨fun m => At K pl W (loopW (tr1 mc) f m) κ0 H T0 D, ⟨gas, κ0, σa0, T0, Ext.refl, r0, l0, h⟩, ?_⟩
  rintro m σ H1 ⟨κ, σa, T, e, r, l, h⟩
  cases m with
  | zero => exact h.elim
  | succ m =>
    rw [loopW_step] at h
    refine ⟨κ, σa, T, r, l, ?_⟩
    cases ec : tr1 mc σa T with
    | bad => rw [ec] at h; exact h
    | ex c T1 => rw [ec] at h; exact fun H' κ' e' r' => h σ H' κ' (e.trans r0 e') r' (l.mono e'.up)
    | ok b T1 =>
      rw [ec] at h
      rintro b' H2 κ2 e2 r2 _ _ rfl
      cases b with
      | true =>
        rw [if_pos rfl]
        refine ⟨At K pl W (loopW (tr1 mc) f m) κ0 H T0 D, fun σ' H' w => ⟨m, Nat.lt_succ_self _, w⟩, κ2, σa, T1, r2, l.mono e2.up, RunX.later r0 (e.trans r0 e2) (RunX.turn h)⟩
      | false =>
        rw [if_neg (by simp)]
        exact h σ H2 κ2 (e.trans r0 e2) r2 (l.mono e2.up)
/-- an item goes to its name -/
theorem bindG_one {i : Nat} {v : Va} {σ1 : Sg} : bindG (.one i) v σ1 = some (σ1.set i (some v)) := rfl
/-- the target of a loop, or of an unpacking -/
def tgG (K : PySem.W.Frag) : Tg → TG
  | .one i => gName i
  | .many is => gTup K is.length (is.foldr (fun i t => gCons (gName i) t) gNil)
theorem gAll {κ : Ka} {H : Hp} : ∀ {is : List Nat} {vs : List Va} {xs : List V} {σa : Sg} {σ : St} {Q : St → Hp → Prop}, vs.length = is.length → Paired (RV pl κ H) vs xs → RL pl κ H σa σ →
    (∀ σ', RL pl κ H ((is.zip vs).foldl (fun σ p => σ.set p.1 (some p.2)) σa) σ' → Q σ' H) → (is.foldr (fun i t => gCons (gName i) t) gNil) xs σ H Q
  | [], [], _, _, _, _, _, .nil, l, h => ⟨rfl, h _ l⟩
  | i :: is, v :: vs, x :: xs, σa, σ, Q, hl, .cons q p, l, h => ⟨x, xs, rfl, gAll (by simpa using hl) p (l.set q) h⟩
theorem tgG_ok {g : Tg} {v : Va} {σa σb : Sg} {σ : St} {x : V} {κ : Ka} {H : Hp} {Q : St → Hp → Prop} (h : bindG g v σa = some σb) (q : RV pl κ H v x) (l : RL pl κ H σa σ) (hQ : ∀ σ', RL pl κ H σb σ' → Q σ' H) : tgG K g x σ H Q := by
  cases g with
  | one i => cases h; exact hQ _ (l.set q)
  | many is =>
    unfold bindG at h
    dsimp only at h
    cases v with
    | tup vs =>
      dsimp only at h
      split at h
      · rename_i hl
        cases h
        simp only [RV] at q
        obtain ⟨p, xs, rfl, hp, qs⟩ := q
        have qs := RVs.paired.mp qs
        exact ⟨p, xs, rfl, SqT.of hp, by rw [← Paired.len qs]; exact hl, gAll hl qs l hQ⟩
      · cases h
    | _ => cases h
def bodyF (g : Tg) (f : Sg → Tw → SRes) : Va → Sg → Tw → SRes := fun v σ T => match bindG g v σ with
  | none => .bad
  | some σ => f σ T
/-- over given values -/
theorem for_vals {g : Tg} {f : Sg → Tw → SRes} {J : It} {vs : List Va} {Rv : Nat → Hp → V → Prop} (r0 : RT K pl κ0 H0 T0)
    (hstop : ∀ i κ H T, Ext κ0 H0 T0 κ H T → RT K pl κ H T → vs.length ≤ i → J.stop i H) (hgo : ∀ i κ H T, Ext κ0 H0 T0 κ H T → RT K pl κ H T → i < vs.length → J.go i H)
    (hyld : ∀ i κ H T x H' v, Ext κ0 H0 T0 κ H T → RT K pl κ H T → J.yld i H x H' → vs[i]? = some v → ∃ κ', Ext κ H T κ' H' T ∧ RT K pl κ' H' T ∧ RV pl κ' H' v x)
    (l : RL pl κ0 H0 σa σ) (h : RunX K pl W (loopV (bodyF g f) vs σa T0) κ0 H0 T0 D) :
    ∃ Wi : Nat → Nat → St → Hp → Prop, (∃ m, Wi 0 m σ H0) ∧ ∀ i m σ H, Wi i m σ H →
      (J.stop i H ∧ D.nx σ H) ∨ (J.go i H ∧ ∃ N : St → Hp → Prop, (∀ σ' H', N σ' H' → ∃ m', m' < m ∧ Wi (i + 1) m' σ' H') ∧ ∀ x H', J.yld i H x H' → tgG K g x σ H' fun σ2 H2 => tS K pl W f { D with nx := N, ct := N, bk := D.nx } σ2 H2) := by
  refine ⟨fun i m σ H => m = vs.length - i ∧ At K pl W (loopV (bodyF g f) (vs.drop i)) κ0 H0 T0 D σ H, ⟨vs.length, rfl, κ0, σa, T0, Ext.refl, r0, l, h⟩, ?_⟩
  rintro i m σ H ⟨rfl, κ, σa, T, e, r, l, h⟩
  rcases Nat.lt_or_ge i vs.length with hi | hi
  · right
    refine ⟨hgo i κ H T e r hi, At K pl W (loopV (bodyF g f) (vs.drop (i + 1))) κ0 H0 T0 D, fun σ' H' w => ⟨vs.length - (i + 1), by omega, rfl, w⟩, fun x H' hy => ?_⟩
    obtain ⟨v, hv⟩ : ∃ v, vs[i]? = some v := ⟨vs[i], List.getElem?_eq_getElem hi⟩
    obtain ⟨κ', e', r', q⟩ := hyld i κ H T x H' v e r hy hv
    rw [List.drop_eq_getElem_cons hi, loopV_cons] at h
    have hv' : vs[i] = v := by rw [List.getElem?_eq_getElem hi] at hv; exact Option.some.inj hv
    rw [hv'] at h
    have h := RunX.turn h
    cases eb : bindG g v σa with
    | none => unfold bodyF at h; rw [eb] at h; exact h.elim
    | some σb =>
      unfold bodyF at h; rw [eb] at h
      exact tgG_ok eb q (l.mono e'.up) fun σ' l' => ⟨κ', σb, T, r', l', RunX.later r0 (e.trans r0 e') h⟩
  · left
    rw [List.drop_eq_nil_of_le hi] at h
    exact ⟨hstop i κ H T e r hi, h σ H κ e r l⟩
end
end AM
namespace AM
open PySem L2
/-! ### statements, from the text to IR -/
def isDoc : Stmt → Bool
  | .Expr (.Constant (.str _) _ _) _ => true | _ => false
def cS (C : Cxt) (N : List Str) : Nat → Scope → Stmt → Option IS
  | 0, _, _ => none
  | k + 1, sc, s => match s with
    | .Pass _ => some .pass
    | .Break _ => some .brk
    | .Expr (.Constant (.str _) _ _) _ => some .pass
    | .Expr e _ => (cE C N k sc e).map .ex
    | .Return none _ => some .retN
    | .Return (some e) _ => (cE C N k sc e).map .ret
    | .If c a b _ => match cE C N k sc c, optM (cS C N k sc) a, optM (cS C N k sc) b with
      | some c, some a, some b => some (.ite c a b)
      | _, _, _ => none
    | .While c b [] _ => match cE C N k sc c, optM (cS C N k sc) b with
      | some c, some b => some (.whl c b)
      | _, _ => none
    | .For tg it b [] _ => match tgOf N sc tg, itOf C sc (cE C N k sc) it, optM (cS C N k sc) b with
      | some g, some (w, its), some b => some (.for_ g w its b)
      | _, _, _ => none
    | .Assign [.Name x _] e _ => if locB sc x then (match slotOf N x, cE C N k sc e with
        | some i, some j => some (.asg i j)
        | _, _ => none) else none
    | _ => none
section
variable {Ev : AM.Env} {Φ : Ph}
theorem X_asg (i : Nat) (e : IE) : AM.X Ev Φ (.asg i e) = fun σ T => inS (E Ev Φ e σ T) σ fun s T => inS (settle s T) σ fun v T => .nx (σ.set i (some v)) T := by funext σ T; simp only [AM.X]
theorem X_ex (e : IE) : AM.X Ev Φ (.ex e) = fun σ T => inS (E Ev Φ e σ T) σ fun _ T => .nx σ T := by funext σ T; simp only [AM.X]
theorem X_ret (e : IE) : AM.X Ev Φ (.ret e) = fun σ T => inS (E Ev Φ e σ T) σ fun s T => .rt s T := by funext σ T; simp only [AM.X]
theorem X_retN : AM.X Ev Φ .retN = fun σ T => .rt (.va .non) T := by funext σ T; simp only [AM.X]
theorem X_pass : AM.X Ev Φ .pass = fun σ T => .nx σ T := by funext σ T; simp only [AM.X]
theorem X_brk : AM.X Ev Φ .brk = fun σ T => .bk σ T := by funext σ T; simp only [AM.X]
theorem X_ite (c : IE) (a b : List IS) : AM.X Ev Φ (.ite c a b) = fun σ T => inS (E Ev Φ c σ T) σ fun s T => inS (truth s T) σ fun r T => match r with
    | true => Xs Ev Φ a σ T
    | false => Xs Ev Φ b σ T := by funext σ T; simp only [AM.X] <;> rfl
theorem X_whl (c : IE) (b : List IS) : AM.X Ev Φ (.whl c b) = fun σ T => loopW (tr1 (E Ev Φ c)) (Xs Ev Φ b) gas σ T := by funext σ T; simp only [AM.X] <;> rfl
theorem X_for (g : Tg) (k : Ik) (its : List IE) (b : List IS) : AM.X Ev Φ (.for_ g k its b) = fun σ T => inS (Es Ev Φ its σ T) σ fun ss T => match walkOf k ss T with
    | none => .bad
    | some w => loopS w (bodyF g (Xs Ev Φ b)) σ T := by funext σ T; simp only [AM.X] <;> rfl
theorem Xs_nil : Xs Ev Φ [] = fun σ T => .nx σ T := by funext σ T; simp only [Xs]
theorem Xs_cons (s : IS) (ss : List IS) : Xs Ev Φ (s :: ss) = fun σ T => (AM.X Ev Φ s σ T).then_ fun σ T => Xs Ev Φ ss σ T := by funext σ T; simp only [Xs]
end
section
variable {X : Cx} {L : Link} {n : Nat} {W : WX}
theorem cE_noLc {C : Cxt} {N : List Str} {k : Nat} {sc : Scope} {e : Expr} {i : IE} (h : cE C N k sc e = some i) : (∀ t line env, swapsWith e t line env = pure false) ∧ ∀ env x, foldedSetIterable e env x = pure x := by
  cases k with
  | zero => cases h
  | succ k => cases e <;> first | exact ⟨fun _ _ _ => rfl, fun _ _ => rfl⟩ | (simp [cE] at h)
theorem slotOf_lt {N : List Str} {x : Str} {i : Nat} (h : slotOf N x = some i) : i < N.length := (List.getElem?_eq_some_iff.mp (slotOf_get h)).1
variable (G : Good X L n W)
include G
theorem fn_loc {x : Str} (h : locB X.env.scope x = true) : X.fn x = true ∨ X.env.scope.names.lookup x = some .local := G.fn x (loc_of h)
theorem pg_names : ∀ {es : List Expr} {is : List Nat}, optM (nmOf X.N X.env.scope) es = some is →
    PGs X es (is.foldr (fun i t => gCons (gName i) t) gNil) ∧ (assignEach es X.env).length = is.length ∧ (assignEach es X.env).findIdx? (·.1) = none
  | [], is, h => by unfold optM at h; cases h; exact ⟨pgs_nil, rfl, rfl⟩
  | e :: es, is, h => by
    unfold optM at h
    cases e with
    | Name x p =>
      split at h
      · rename_i j hj
        simp only [nmOf] at hj
        split at h
        · rename_i js hjs
          cases h
          split at hj
          · rename_i hl
            obtain ⟨h1, h2, h3⟩ := pg_names hjs
            refine ⟨pgs_cons (pg_name G.nd (slotOf_get hj) (loc_of hl) (fn_loc G hl)) h1, by show (assignEach es X.env).length + 1 = _; rw [h2]; rfl, ?_⟩
            show ((false, assign (.Name x p) X.env) :: assignEach es X.env).findIdx? (·.1) = none
            rw [List.findIdx?_cons]
            simp [h3]
          · cases hj
        · cases h
      · cases h
    | _ => simp [nmOf] at h
theorem pg_tg {e : Expr} {g : Tg} (h : tgOf X.N X.env.scope e = some g) : PG X e (tgG X.K g) := by
  unfold tgOf at h
  split at h
  · split at h
    · rename_i x p hl
      cases q : slotOf X.N x with
      | none => rw [q] at h; cases h
      | some i => rw [q] at h; cases h; exact pg_name G.nd (slotOf_get q) (loc_of hl) (fn_loc G hl)
    · cases h
  · rename_i es c p
    cases q : optM (nmOf X.N X.env.scope) es with
    | none => rw [q] at h; cases h
    | some is =>
      rw [q] at h; cases h
      obtain ⟨h1, h2, h3⟩ := pg_names G q
      exact pg_tup G.calm h1 h2 h3
  · cases h
omit G in
theorem range2_get {a b : Int} {i : Nat} {v : Va} (h : (range2 a b)[i]? = some v) : v = .int (a + i) := by
  unfold range2 at h
  rw [List.getElem?_map] at h
  cases e : (List.range (b - a).toNat)[i]? with
  | none => rw [e] at h; cases h
  | some m =>
    rw [e] at h
    rw [List.getElem?_eq_some_iff] at e
    obtain ⟨_, e⟩ := e
    simp at e; subst e
    exact (Option.some.inj h).symm
omit G in
theorem range2_len (a b : Int) : (range2 a b).length = (b - a).toNat := by simp [range2]
omit G in
/-- a loop over a range -/
theorem for_range {g : Tg} {f : Sg → Tw → SRes} {a b : Int} {κ0 κ1 : Ka} {H0 H1 : Hp} {T0 T1 : Tw} {σa : Sg} {σ : St} {D : Ends} {K : PySem.W.Frag} {pl : Pl} (r0 : RT K pl κ0 H0 T0) (e1 : Ext κ0 H0 T0 κ1 H1 T1) (r1 : RT K pl κ1 H1 T1) (l : RL pl κ1 H1 σa σ) (h : RunX K pl W (loopV (bodyF g f) (range2 a b) σa T1) κ0 H0 T0 D) :
    ∃ Wi : Nat → Nat → St → Hp → Prop, (∃ m, Wi 0 m σ H1) ∧ ∀ i m σ H, Wi i m σ H →
      ((Itr a (b - a).toNat).stop i H ∧ D.nx σ H) ∨ ((Itr a (b - a).toNat).go i H ∧ ∃ N : St → Hp → Prop, (∀ σ' H', N σ' H' → ∃ m', m' < m ∧ Wi (i + 1) m' σ' H') ∧ ∀ x H', (Itr a (b - a).toNat).yld i H x H' → tgG K g x σ H' fun σ2 H2 => tS K pl W f { D with nx := N, ct := N, bk := D.nx } σ2 H2) := by
  refine for_vals (Rv := fun _ _ _ => True) r1 (fun i _ _ _ _ _ hi => by rw [range2_len] at hi; exact hi) (fun i _ _ _ _ _ hi => by rw [range2_len] at hi; exact hi) (fun i κ H T x H' v e r hy hv => ?_) l (RunX.later r0 e1 h)
  obtain ⟨rfl, rfl⟩ := hy
  exact ⟨κ, Ext.refl, r, by rw [range2_get hv]; simp only [RV]⟩
/-- the statements, each as the machine runs it -/
theorem cSs_ok {C : Cxt} {k : Nat} (ih : ∀ s i, cS L.C X.N k X.env.scope s = some i → PS X s (tS X.K L.pl W (AM.X L.Ev (Phi L.Ev L.P n) i))) : ∀ {ss : List Stmt} {is : List IS}, optM (cS L.C X.N k X.env.scope) ss = some is → PSs X ss (tS X.K L.pl W (Xs L.Ev (Phi L.Ev L.P n) is))
  | [], is, h => by
    unfold optM at h; cases h
    rw [Xs_nil]
    exact ⟨fun pins s σ H D I h => pss_nil.run pins s σ H D I (tS.next h)⟩
  | s :: ss, is, h => by
    unfold optM at h
    cases q : cS L.C X.N k X.env.scope s with
    | none => rw [q] at h; cases h
    | some i =>
      rw [q] at h
      cases q2 : optM (cS L.C X.N k X.env.scope) ss with
      | none => rw [q2] at h; cases h
      | some is' =>
        rw [q2] at h; cases h
        rw [Xs_cons]
        exact ⟨fun pins s' σ H D I h => (pss_cons (ih s i q) (cSs_ok (C := C) ih q2)).run pins s' σ H D I (tS.seq h)⟩
omit G in
theorem psI {st : Stmt} {t t' : TS} (h : PS X st t) (f : ∀ D σ H, t' D σ H → t D σ H) : PS X st t' := ⟨fun pins s σ H D I q => h.run pins s σ H D I (f D σ H q)⟩
omit G in
theorem walk_rng1 {ss : List Sv} {T : Tw} : (∃ j, ss = [.va (.int j)] ∧ okR j ∧ walkOf .rng1 ss T = some (.vals (range2 0 j))) ∨ walkOf .rng1 ss T = none := by
  cases ss with
  | nil => exact .inr rfl
  | cons a r =>
    cases a with
    | tr t => exact .inr (by cases r <;> rfl)
    | va v =>
      cases v with
      | int j =>
        cases r with
        | nil =>
          by_cases hj : okR j
          · exact .inl ⟨j, rfl, hj, if_pos hj⟩
          · exact .inr (if_neg hj)
        | cons _ _ => exact .inr rfl
      | _ => exact .inr (by cases r <;> rfl)
omit G in
theorem walk_rng2 {ss : List Sv} {T : Tw} : (∃ i j, ss = [.va (.int i), .va (.int j)] ∧ okR i ∧ okR j ∧ walkOf .rng2 ss T = some (.vals (range2 i j))) ∨ walkOf .rng2 ss T = none := by
  cases ss with
  | nil => exact .inr rfl
  | cons a r =>
    cases r with
    | nil => exact .inr (by cases a with | tr t => rfl | va v => cases v <;> rfl)
    | cons b r =>
      cases a with
      | tr t => exact .inr rfl
      | va v =>
        cases v with
        | int i =>
          cases b with
          | tr t => exact .inr rfl
          | va w =>
            cases w with
            | int j =>
              cases r with
              | nil =>
                by_cases hj : okR i ∧ okR j
                · exact .inl ⟨i, j, rfl, hj.1, hj.2, if_pos hj⟩
                · exact .inr (if_neg hj)
              | cons _ _ => exact .inr rfl
            | _ => exact .inr rfl
        | _ => exact .inr rfl
end
end AM
namespace AM
open PySem L2
section
variable {X : Cx} {L : Link} {n : Nat} {W : WX}
theorem tI_rng1 {ms : Sg → Tw → Res (List Sv)} {g : Tg} {f : Sg → Tw → SRes} {D : Ends} {σ : St} {H : Hp} {K : PySem.W.Frag} {pl : Pl} (h : tS K pl W (fun σ T => inS (ms σ T) σ fun ss T => match walkOf .rng1 ss T with
    | none => .bad
    | some w => loopS w (bodyF g f) σ T) D σ H) : tFor (iRng1 (tA K pl W ms)) (tgG K g) (tS K pl W f) D σ H := by
  obtain ⟨κ, σa, T, r, l, h⟩ := h
  refine ⟨κ, σa, T, r, l, (RunX.inS (sh := shsS) (rel := RSs pl) r Ext.refl l h).imp ?_⟩
  rintro y H1 ⟨κ1, ss, T1, e1, r1, d1, n1, q1, l1, h1⟩
  rcases walk_rng1 (ss := ss) (T := T1) with ⟨j, rfl, hj, e⟩ | e
  · rw [e] at h1
    obtain ⟨x, rfl, qx⟩ := rss_one q1
    have qx : x = _ := qx
    subst qx
    refine ⟨j, rfl, hj.1, hj.2, ?_⟩
    have := for_range r e1 r1 l1 h1
    rw [show (j - 0).toNat = j.toNat by omega] at this
    exact this
  · rw [e] at h1; exact h1.elim
theorem tI_rng2 {ms : Sg → Tw → Res (List Sv)} {g : Tg} {f : Sg → Tw → SRes} {D : Ends} {σ : St} {H : Hp} {K : PySem.W.Frag} {pl : Pl} (h : tS K pl W (fun σ T => inS (ms σ T) σ fun ss T => match walkOf .rng2 ss T with
    | none => .bad
    | some w => loopS w (bodyF g f) σ T) D σ H) : tFor (iRng2 (tA K pl W ms)) (tgG K g) (tS K pl W f) D σ H := by
  obtain ⟨κ, σa, T, r, l, h⟩ := h
  refine ⟨κ, σa, T, r, l, (RunX.inS (sh := shsS) (rel := RSs pl) r Ext.refl l h).imp ?_⟩
  rintro y H1 ⟨κ1, ss, T1, e1, r1, d1, n1, q1, l1, h1⟩
  rcases walk_rng2 (ss := ss) (T := T1) with ⟨i, j, rfl, hi, hj, e⟩ | e
  · rw [e] at h1
    cases q1 with
    | cons qx q1 =>
      cases q1 with
      | cons qy q1 =>
        cases q1
        rename_i x y
        have qx : x = _ := qx
        have qy : y = _ := qy
        subst qx qy
        exact ⟨i, j, rfl, ⟨hi.1, hi.2, hj.1, hj.2⟩, for_range r e1 r1 l1 h1⟩
  · rw [e] at h1; exact h1.elim
variable (G : Good X L n W)
include G
theorem cS_ok : ∀ (k : Nat) (s : Stmt) (i : IS), cS L.C X.N k X.env.scope s = some i → PS X s (tS X.K L.pl W (AM.X L.Ev (Phi L.Ev L.P n) i))
  | 0, s, i, h => by cases h
  | k + 1, s, i, h => by
    have ih := cS_ok k
    have ie := cE_ok G k
    unfold cS at h
    split at h
    · cases h; rw [X_pass]; exact psI ps_pass fun D σ H h => tS.next h
    · cases h; rw [X_brk]; exact psI ps_break fun D σ H h => tS.brk h
    · cases h; rw [X_pass]; exact psI ps_doc fun D σ H h => tS.next h
    · rename_i e p hn
      cases q : cE L.C X.N k X.env.scope e with
      | none => rw [q] at h; cases h
      | some j =>
        rw [q] at h; cases h
        rw [X_ex]
        exact psI (ps_expr (ie _ _ q).pe ((cE_noLc q).1 _ _ _)) fun D σ H h => tS.drop h
    · cases h; rw [X_retN]; exact psI ps_retN fun D σ H h => tS.retN h
    · rename_i e p
      cases q : cE L.C X.N k X.env.scope e with
      | none => rw [q] at h; cases h
      | some j =>
        rw [q] at h; cases h
        rw [X_ret]
        exact psI (ps_ret (ie _ _ q).pe) fun D σ H h => tS.ret h
    · split at h
      · rename_i c a b hc ha hb
        cases h
        rw [X_ite]
        exact psI (ps_if (ie _ _ hc).pt (cSs_ok G (C := L.C) ih ha) (cSs_ok G (C := L.C) ih hb)) fun D σ H h => tS.ite h
      · cases h
    · split at h
      · rename_i c b hc hb
        cases h
        rw [X_whl]
        exact psI (ps_while G.hp (ie _ _ hc).pt (cSs_ok G (C := L.C) ih hb)) fun D σ H h => tS.whl h
      · cases h
    · split at h
      · rename_i g w its b hg hi hb
        cases h
        rw [X_for]
        have hb := cSs_ok G (C := L.C) ih hb
        have hg := pg_tg G hg
        unfold itOf at hi
        split at hi
        · split at hi
          · rename_i x p a p2 hc
            simp only [Bool.and_eq_true, decide_eq_true_eq] at hc
            obtain ⟨⟨h1, h2⟩, rfl⟩ := hc
            split at hi
            · rename_i i' ha
              cases hi
              have pa : PA X [a] (tA X.K L.pl W (Es L.Ev (Phi L.Ev L.P n) [i'])) := Ok.args (C := L.C) (N := X.N) (k := k) ie (by unfold optM; rw [ha]; rfl)
              exact psI (ps_for G.hp G.calm (pi_range1 (gl_of h1) (G.lk.blt _ h2) pa (by rw [cE_form ha]; rfl)) hg hb (fun _ => rfl)) fun D σ H h => tI_rng1 h
            · cases hi
          · cases hi
        · split at hi
          · rename_i x p a b p2 hc
            simp only [Bool.and_eq_true, decide_eq_true_eq] at hc
            obtain ⟨⟨h1, h2⟩, rfl⟩ := hc
            split at hi
            · rename_i i' j' ha hb'
              cases hi
              have pa : PA X [a, b] (tA X.K L.pl W (Es L.Ev (Phi L.Ev L.P n) [i', j'])) := Ok.args (C := L.C) (N := X.N) (k := k) ie (by unfold optM; rw [ha]; unfold optM; rw [hb']; rfl)
              exact psI (ps_for G.hp G.calm (pi_range2 (gl_of h1) (G.lk.blt _ h2) pa (by rw [cE_form ha, cE_form hb']; rfl) (by rw [cE_form hb']; rfl)) hg hb (fun _ => rfl)) fun D σ H h => tI_rng2 h
            · cases hi
          · cases hi
        · cases hi
      · cases h
    · split at h
      · rename_i x p e p2 hl
        split at h
        · rename_i i' j hi hj
          cases h
          rw [X_asg]
          exact psI (ps_set G.nd (slotOf_get hi) (loc_of hl) (ie _ _ hj).pe ((cE_noLc hj).1 _ _ _) (fn_loc G hl)) fun D σ H h => tS.asg h
        · cases h
      · cases h
    · cases h
end
/-! ### defs -/
theorem leave_ok {K : PySem.W.Frag} {pl : Pl} {W : WX} {keep : Bool} {κ κ' : Ka} {H H' : Hp} {T T' : Tw} {s : Sv} {y : V} {σ : St} {Q : VK} (r0 : RT K pl κ H T) (e : Ext κ H T κ' H' T') (r : RT K pl κ' H' T') (d : Det K pl κ' H' T' s.shs) (n : Nw κ T s.shs) (q : RS pl κ' H' s y)
    (h : RunS K pl W (leave keep T.roots.length s T') κ H T σ Q) : Q y H' := by
  have hl := Base.len r0.base
  obtain ⟨rc, ec⟩ := r.cut T.roots.length hl
  have e2 := e.trans r0 ec
  cases s with
  | tr t =>
    unfold leave at h
    dsimp only at h
    cases keep with
    | true => exact h y H' κ' e r d n q
    | false => exact h y H' κ' e2 rc (d.mono r rc ec) n q
  | va v =>
    have d0 : ∀ {T}, RT K pl κ' H' T → Det K pl κ' H' T (Sv.va v).shs := fun r => r.det0
    have n0 : Nw κ T (Sv.va v).shs := fun _ z => absurd z (by simp [Sv.shs])
    unfold leave at h
    dsimp only at h
    split at h
    · exact h y H' κ' e r (d0 r) n0 q
    · split at h
      · rename_i ρ
        split at h
        · exact h y H' κ' e2 rc (d0 rc) n0 q
        · rename_i hge
          split at h
          · split at h
            · rename_i t ht
              split at h
              · rename_i hf
                obtain ⟨hf, hid⟩ := hf
                obtain ⟨dt, ct⟩ := r.cutTree hl (Nat.not_lt.mp hge) ht
                simp only [RS, RV] at q
                obtain ⟨a, ka, rfl⟩ := q
                exact h (.ref a) H' κ' e2 rc dt (fun i hi => e.ids i (ct i hi)) ⟨hf, (Sl.node (isNode_free hf)).mpr ⟨a, by rw [hid]; exact ka, rfl⟩⟩
              · exact h.elim
            · exact h.elim
          · exact h.elim
      · split at h
        · exact h y H' κ' e2 rc (d0 rc) n0 q
        · exact h y H' κ' e r (d0 r) n0 q
/-- what is known of a def of the text -/
structure DefU (K : PySem.W.Frag) (L : Link) (code : Nat) (f : Addr) (fd : FuncData) (ps : List Str) : Prop where
  ok : ∃ (x qual : Str) (st : Stmt) (N : List Str) (d : Def) (k : Nat), Fun K x qual st f fd ∧ FnScope N ps (defScope st) ∧ Binds K fd ps [] ∧ L.P code = some d ∧ d.np = ps.length ∧ d.ns = N.length ∧ optM (cS L.C N k (defScope st)) (defBody st) = some d.body
def DefT (K : PySem.W.Frag) (L : Link) (code : Nat) (f : Addr) : Prop := ∃ fd ps, DefU K L code f fd ps
/-- the facts of the top, the defs by their text -/
structure Top (K : PySem.W.Frag) (mg : Str → Option Value) (L : Link) : Prop where
  fn : ∀ x c, lookS L.C.fns x = some c → ∃ f, mg x = some (.ref f) ∧ PySem.W.keepIn K (.ref f) = true ∧ DefT K L c f
  meth : ∀ m c k code, lookS L.C.mths m = some k → L.Ev.meth c k = some code → ∃ f, Meth K (L.pl.cls c) m f ∧ DefT K L code f
  nomf : ∀ m k i, lookS L.C.mths m = some k → L.pl.fld i ≠ m
  cls : ∀ c f code, L.Ev.meth c f = some code → Cls K (L.pl.cls c)
  fld : ∀ f i, lookS L.C.flds f = some i → L.pl.fld i = f
  inj : ∀ i j f, lookS L.C.flds f = some i → L.pl.fld j = f → j = i
  noat : ∀ f i c, lookS L.C.flds f = some i → Cls K (L.pl.cls c) ∧ NoAttr K (L.pl.cls c) f
  make : ∀ x c code, lookS L.C.clss x = some c → L.Ev.init c = some code → ∃ f, mg x = some (.ref (L.pl.cls c)) ∧ Mk K (L.pl.cls c) f ∧ DefT K L code f
  exc : ∀ c, L.Ev.sub c c = true → ExcK K L c
  exn : ∀ x d, lookS L.C.excs x = some d → mg x = some (.ref (L.pl.exc d)) ∧ ∀ b, b = "int" ∨ b = "bool" ∨ b = "list" ∨ b = "tuple" ∨ b = "str" ∨ b = "NoneType" → PySem.W.kitOne K (.type b) (.ref (L.pl.exc d)) = some false
  ini : ∀ x c, lookS L.C.clss x = some c → (L.Ev.init c).isSome = true
  blt : ∀ x, memS L.C.blts x = true → mg x = none
theorem len_start {vs : List V} {as : List Va} {N : List Str} {pl : Pl} {κ : Ka} {H : Hp} {np ns : Nat} (p : Paired (RV pl κ H) as vs) (h1 : as.length = np) (h3 : ns = N.length) :
    RL pl κ H (as.map some ++ List.replicate (ns - np) none) (L2.start N vs) := by
  have hl := Paired.len p
  refine ⟨by simp [L2.start, ← hl, h1, h3], fun i v e => ?_⟩
  have hi : i < as.length := by
    rcases Nat.lt_or_ge i as.length with z | z
    · exact z
    · rw [List.getElem?_append_right (by simpa using z), List.getElem?_replicate] at e
      split at e <;> cases e
  rw [List.getElem?_append_left (by simpa using hi), List.getElem?_map] at e
  cases e2 : as[i]? with
  | none => rw [e2] at e; cases e
  | some w =>
    rw [e2] at e; cases e
    obtain ⟨b, hb, q⟩ := Paired.get' p e2
    refine ⟨b, ?_, q⟩
    unfold L2.start
    rw [List.getElem?_append_left (by rw [List.length_map, ← hl]; exact hi), List.getElem?_map, hb]
    rfl
theorem lks {P : Program} {w : World} {K : PySem.W.Frag} {mg : Str → Option Value} {base : Heap} {L : Link} (t : Top K mg L) : ∀ n, (∀ code f fd ps, DefU K L code f fd ps → FnOk P w K mg base (L2.CX P w) (2 * n + 1) f fd ps (spOf K L n code)) ∧ Lks P w K mg base L n := by
  have fin : ∀ n, (∀ code f fd ps, DefU K L code f fd ps → FnOk P w K mg base (L2.CX P w) (2 * n + 1) f fd ps (spOf K L n code)) → Lks P w K mg base L n := fun n h' => have h : ∀ code f, DefT K L code f → FnA P w K mg base L n code f := fun code f ⟨fd, ps, q⟩ => ⟨fd, ps, (by obtain ⟨_, _, _, _, _, _, _, _, B, _⟩ := q; exact B), h' code f fd ps q⟩
    ⟨fun x c e => let ⟨f, h1, h2, h3⟩ := t.fn x c e; ⟨f, h1, h2, h _ _ h3⟩, fun m c k code e1 e2 => let ⟨f, h1, h2⟩ := t.meth m c k code e1 e2; ⟨f, h1, h _ _ h2⟩, t.nomf, t.cls, t.fld, t.inj, t.noat,
      fun x c code e1 e2 => let ⟨f, h1, h2, h3⟩ := t.make x c code e1 e2; ⟨f, h1, h2, h _ _ h3⟩, t.exc, t.exn, t.ini, t.blt⟩
  intro n
  induction n with
  | zero =>
    have h0 : ∀ code f fd ps, DefU K L code f fd ps → FnOk P w K mg base (L2.CX P w) (2 * 0 + 1) f fd ps (spOf K L 0 code) := by
      rintro code f fd ps ⟨x, qual, st, N, d, k, F, S, B, hP, hnp, hns, hb⟩
      have no : ∀ {vs H Q E}, ¬ spOf K L 0 code vs H Q E := fun {vs H Q E} ⟨_, _, _, _, _, _, h⟩ => h
      exact F.okX (N := N) S (fun vs H Q E h => (no h).elim) fun cdv A outer s H vs Q E hr h => (no h).elim
    exact ⟨h0, fin 0 h0⟩
  | succ n ih =>
    have h1 : ∀ code f fd ps, DefU K L code f fd ps → FnOk P w K mg base (L2.CX P w) (2 * (n + 1) + 1) f fd ps (spOf K L (n + 1) code) := by
      rintro code f fd ps ⟨x, qual, st, N, d, k, F, S, B, hP, hnp, hns, hb⟩
      refine F.okX (N := N) S (fun vs H Q E h => ?_) fun cdv A outer s H vs Q E hr h => ?_
      · obtain ⟨κ, T, as, r, p, ⟨d', hd', hl⟩, _⟩ := h
        rw [hP] at hd'; cases hd'
        rw [← Paired.len p, hl, hnp]
      · obtain ⟨κ, T, as, r, p, ⟨d', hd', hl⟩, h⟩ := h
        rw [hP] at hd'; cases hd'
        have G : Good (cxOf (L2.CX P w) P w K mg base N qual (defScope st) f cdv A outer s H E) L n (fun cls d _ H => E cls d H) :=
          ⟨S.nd, rfl, hr, ih.2, takes_of rfl rfl rfl rfl, passes_of rfl, fun _ _ => .inl rfl⟩
        refine ⟨_, cSs_ok G (C := L.C) (k := k) (cS_ok G k) hb, κ, as.map some ++ List.replicate (d.ns - d.np) none, T, r, len_start p hl hns, ?_⟩
        unfold Phi at h
        rw [hP] at h
        dsimp only at h
        unfold runDef at h
        rw [if_pos hl] at h
        cases e : Xs L.Ev (Phi L.Ev L.P n) d.body (as.map some ++ List.replicate (d.ns - d.np) none) T with
        | nx σ' T' =>
          rw [e] at h
          intro σ2 H' κ' e' r' l'
          exact leave_ok (s := .va .non) r e' r' r'.det0 (fun _ z => absurd z (by simp [Sv.shs])) (by simp only [RS, RV]) h
        | rt sv T' =>
          rw [e] at h
          intro y H' κ' e' r' d' n' q'
          exact leave_ok r e' r' d' n' q' h
        | ex c σ' T' =>
          rw [e] at h
          intro σ2 H' κ' e' r' l'
          obtain ⟨rc, ec⟩ := r'.cut T.roots.length (Base.len r.base)
          exact h H' κ' (e'.trans r ec) rc
        | bk σ' T' => rw [e] at h; exact h.elim
        | ct σ' T' => rw [e] at h; exact h.elim
        | bad => rw [e] at h; exact h.elim
    exact ⟨h1, fin (n + 1) h1⟩
end AM
namespace AM
open PySem (Str)
/-! ### what the laws share -/
def rho0 : Rf := ⟨0, [], 0⟩
def lst0 (ns : List Int) : Tr := .lst 0 true (ns.map fun n => .lf (.int n))
def d_cell : Def := ⟨2, 3, false, [.ite (.cmp .lt (.v 1) (.bf .len [.v 0])) [.ret (.ix (.v 0) (.v 1))] [], .asg 2 (.bin .add (.bin .mul (.v 1)
  (.cst (.int 7919))) (.cst (.int 5))), .ite (.cmp .gt (.bf .len [.v 0]) (.cst (.int 0))) [.asg 2 (.bin .mod (.bin .add (.bin .mul (.ix (.v 0) (.bin
  .mod (.bin .mul (.v 1) (.cst (.int 7))) (.bf .len [.v 0]))) (.cst (.int 48271))) (.bin .mul (.v 1) (.cst (.int 7919)))) (.cst (.int 2147483647)))]
  [], .ret (.bin .mod (.bin .mul (.v 2) (.v 2)) (.cst (.int 2147483629)))]⟩
def cellm (ns : List Int) (k : Nat) : Int := if 0 < ns.length then (ns.getD (k * 7 % ns.length) 0 * 48271 + k * 7919) % 2147483647 else k * 7919 + 5
def cellv (ns : List Int) (k : Nat) : Int := if k < ns.length then ns.getD k 0 else cellm ns k * cellm ns k % 2147483629
theorem len_script {T : Tw} {ns : List Int} {h : Ky → Int} (ht : T.at rho0 = some (lst0 ns)) : opBf h .len [.va (.ref rho0)] T = .ok (.va (.int ns.length)) T := by
  simp [opBf, dictOf, listOf, ht, lst0, okV]
theorem ix_script {T : Tw} {ns : List Int} {k : Nat} (ht : T.at rho0 = some (lst0 ns)) (hk : k < ns.length) : opIx (.va (.ref rho0)) (.va (.int k)) T = .ok (.va (.int (ns.getD k 0))) T := by
  have : ixAt ns.length (k : Int) = some k := by unfold ixAt; rw [if_pos (by omega), if_pos (by omega)]; simp
  simp [opIx, ht, lst0, this, okV, hk, slotV]
theorem leave_int {keep : Bool} {n : Nat} {i : Int} {T : Tw} : leave keep n (.va (.int i)) T = .ok (.va (.int i)) (if keep then T else T.take n) := by
  cases keep <;> simp [leave, Va.low]
theorem leave_bl {keep : Bool} {n : Nat} {i : Bool} {T : Tw} : leave keep n (.va (.bl i)) T = .ok (.va (.bl i)) (if keep then T else T.take n) := by
  cases keep <;> simp [leave, Va.low]
theorem run_rt {Ev : Env} {P : Nat → Option Def} {d : Def} {f n : Nat} {vs : List Va} {T T' : Tw} {s : Sv} (hP : P f = some d) (hl : vs.length = d.np) (h : Xs Ev (Phi Ev P n) d.body (vs.map some ++ List.replicate (d.ns - d.np) none) T = .rt s T') :
    Phi Ev P (n + 1) f vs T = leave d.keep T.roots.length s T' := by
  show (match P f with | some d => runDef Ev (Phi Ev P n) d vs T | none => .bad) = _
  rw [hP]
  show runDef _ _ _ _ _ = _
  unfold runDef
  rw [if_pos hl, h]
section
variable {Ev : Env} {Φ : Ph} {σ : Sg} {T T1 T2 T3 : Tw} {a b c i o : IE} {es : List IE} {x y z s : Sv} {v : Va}
theorem ei_add {i j : Int} (h1 : E Ev Φ a σ T = .ok (.va (.int i)) T1) (h2 : E Ev Φ b σ T1 = .ok (.va (.int j)) T2) : E Ev Φ (.bin .add a b) σ T = .ok (.va (.int (i + j))) T2 := ev_bin h1 h2 rfl
theorem ei_sub {i j : Int} (h1 : E Ev Φ a σ T = .ok (.va (.int i)) T1) (h2 : E Ev Φ b σ T1 = .ok (.va (.int j)) T2) : E Ev Φ (.bin .sub a b) σ T = .ok (.va (.int (i - j))) T2 := ev_bin h1 h2 rfl
theorem ei_mul {i j : Int} (h1 : E Ev Φ a σ T = .ok (.va (.int i)) T1) (h2 : E Ev Φ b σ T1 = .ok (.va (.int j)) T2) (h : (-(2 ^ 64) < i ∧ i < 2 ^ 64) ∨ (-(2 ^ 64) < j ∧ j < 2 ^ 64)) : E Ev Φ (.bin .mul a b) σ T = .ok (.va (.int (i * j))) T2 := ev_bin h1 h2 (by unfold opBin; exact if_pos h)
theorem ei_fdiv {i j : Int} (h1 : E Ev Φ a σ T = .ok (.va (.int i)) T1) (h2 : E Ev Φ b σ T1 = .ok (.va (.int j)) T2) (h : 0 < j ∧ j < 1073741824) : E Ev Φ (.bin .fdiv a b) σ T = .ok (.va (.int (i / j))) T2 := ev_bin h1 h2 (by unfold opBin; exact if_pos h)
theorem ei_mod {i j : Int} (h1 : E Ev Φ a σ T = .ok (.va (.int i)) T1) (h2 : E Ev Φ b σ T1 = .ok (.va (.int j)) T2) (h : 0 < j) : E Ev Φ (.bin .mod a b) σ T = .ok (.va (.int (i % j))) T2 := ev_bin h1 h2 (by unfold opBin; exact if_pos h)
theorem ei_pow {i j : Int} (h1 : E Ev Φ a σ T = .ok (.va (.int i)) T1) (h2 : E Ev Φ b σ T1 = .ok (.va (.int j)) T2) (h : 0 ≤ j ∧ j ≤ 1000000 ∧ i.natAbs < 2 ^ 64) : E Ev Φ (.bin .pow a b) σ T = .ok (.va (.int (i ^ j.toNat))) T2 := ev_bin h1 h2 (by unfold opBin; exact if_pos h)
theorem ei_lt {i j : Int} (h1 : E Ev Φ a σ T = .ok (.va (.int i)) T1) (h2 : E Ev Φ b σ T1 = .ok (.va (.int j)) T2) : E Ev Φ (.cmp .lt a b) σ T = .ok (.va (.bl (decide (i < j)))) T2 := ev_cmp h1 h2 rfl
theorem ei_le {i j : Int} (h1 : E Ev Φ a σ T = .ok (.va (.int i)) T1) (h2 : E Ev Φ b σ T1 = .ok (.va (.int j)) T2) : E Ev Φ (.cmp .le a b) σ T = .ok (.va (.bl (decide (i ≤ j)))) T2 := ev_cmp h1 h2 rfl
theorem ei_gt {i j : Int} (h1 : E Ev Φ a σ T = .ok (.va (.int i)) T1) (h2 : E Ev Φ b σ T1 = .ok (.va (.int j)) T2) : E Ev Φ (.cmp .gt a b) σ T = .ok (.va (.bl (decide (j < i)))) T2 := ev_cmp h1 h2 rfl
theorem ei_ge {i j : Int} (h1 : E Ev Φ a σ T = .ok (.va (.int i)) T1) (h2 : E Ev Φ b σ T1 = .ok (.va (.int j)) T2) : E Ev Φ (.cmp .ge a b) σ T = .ok (.va (.bl (decide (j ≤ i)))) T2 := ev_cmp h1 h2 rfl
theorem ei_eq {r : Bool} (h1 : E Ev Φ a σ T = .ok x T1) (h2 : E Ev Φ b σ T1 = .ok y T2) (h3 : eqSv T2 x y = some r) : E Ev Φ (.cmp .eq a b) σ T = .ok (.va (.bl r)) T2 := ev_cmp h1 h2 (by unfold opCmp; simp only [h3])
theorem ei_ne {r : Bool} (h1 : E Ev Φ a σ T = .ok x T1) (h2 : E Ev Φ b σ T1 = .ok y T2) (h3 : eqSv T2 x y = some r) : E Ev Φ (.cmp .ne a b) σ T = .ok (.va (.bl (!r))) T2 := ev_cmp h1 h2 (by unfold opCmp; simp only [h3])
theorem ei_isi {ts : List Ty} {r : Bool} (h1 : E Ev Φ a σ T = .ok x T1) (h2 : isTys T1 Ev.sub x ts = some r) : E Ev Φ (.isi a ts) σ T = .ok (.va (.bl r)) T1 := by rw [E_isi]; simp [h1, h2]
theorem ei_call {f : Nat} {ss : List Sv} {vs : List Va} (h1 : Es Ev Φ es σ T = .ok ss T1) (h2 : settleAll ss T1 = .ok vs T2) (h3 : Φ f vs T2 = .ok s T3) : E Ev Φ (.call f es) σ T = .ok s T3 := ev_call h1 h2 h3
theorem xf0 {e : IE} {p st : List IS} {r : SRes} (h1 : E Ev Φ e σ T = .ok (.va (.bl false)) T1) (h2 : Xs Ev Φ st σ T1 = r) : Xs Ev Φ (.ite e p [] :: st) σ T = r := xs_iteF h1 xs_nil h2
theorem xt0 {e : IE} {p q st : List IS} {r : SRes} {σ2 : Sg} (h1 : E Ev Φ e σ T = .ok (.va (.bl true)) T1) (h2 : Xs Ev Φ p σ T1 = .nx σ2 T2) (h3 : Xs Ev Φ st σ2 T2 = r) : Xs Ev Φ (.ite e p q :: st) σ T = r := xs_iteT h1 h2 h3
theorem xe0 {e : IE} {p q st : List IS} {r : SRes} {σ2 : Sg} (h1 : E Ev Φ e σ T = .ok (.va (.bl false)) T1) (h2 : Xs Ev Φ q σ T1 = .nx σ2 T2) (h3 : Xs Ev Φ st σ2 T2 = r) : Xs Ev Φ (.ite e p q :: st) σ T = r := xs_iteF h1 h2 h3
theorem xtr {e : IE} {p q st : List IS} (h1 : E Ev Φ e σ T = .ok (.va (.bl true)) T1) (h2 : Xs Ev Φ p σ T1 = .rt s T2) : Xs Ev Φ (.ite e p q :: st) σ T = .rt s T2 := xs_iteT h1 h2 rfl
theorem bl_of {e : IE} {b c : Bool} (h : b = c) (h1 : E Ev Φ e σ T = .ok (.va (.bl b)) T1) : E Ev Φ e σ T = .ok (.va (.bl c)) T1 := h ▸ h1
theorem eq_int (T : Tw) (i j : Int) : eqSv T (.va (.int i)) (.va (.int j)) = some (decide (i = j)) := by
  by_cases h : i = j <;> simp [eqSv, dSv, dVa, dEq, h, Va.int.injEq]
end
theorem cell_ok {Ev : Env} {P : Nat → Option Def} {ns : List Int} {T : Tw} {m k : Nat} (hP : P 200 = some d_cell) (ht : T.at rho0 = some (lst0 ns)) (hk : k < 1000000) : Phi Ev P (m + 1) 200 [.ref rho0, .int k] T = .ok (.va (.int (cellv ns k))) T := by
  have L : ∀ σ : Sg, σ.get 0 = some (.ref rho0) → E Ev (Phi Ev P m) (.bf .len [.v 0]) σ T = .ok (.va (.int ns.length)) T := fun σ hσ => ev_bf (es_cons (ev_v hσ) es_nil) (len_script ht)
  have fin : ∀ v : Int, Xs Ev (Phi Ev P m) d_cell.body [some (.ref rho0), some (.int k), none] T = .rt (.va (.int v)) T → Phi Ev P (m + 1) 200 [.ref rho0, .int k] T = .ok (.va (.int v)) T := fun v h => by
    rw [run_rt hP rfl h, leave_int]; simp [d_cell]
  unfold cellv
  by_cases h1 : k < ns.length
  · rw [if_pos h1]
    refine fin _ ?_
    exact xtr (T1 := T) (bl_of (decide_eq_true (by omega)) (ei_lt (ev_v rfl) (L _ rfl))) (xs_ret (ev_ix (ev_v rfl) (ev_v rfl) (ix_script ht h1)))
  · rw [if_neg h1]
    refine fin _ ?_
    refine xf0 (T1 := T) (bl_of (decide_eq_false (by omega)) (ei_lt (ev_v rfl) (L _ rfl))) ?_
    refine xs_asg (ei_add (ei_mul (ev_v rfl) ev_cst (.inr (by omega))) ev_cst) ?_
    unfold cellm
    by_cases h2 : 0 < ns.length
    · rw [if_pos h2]
      have hm : k * 7 % ns.length < ns.length := Nat.mod_lt _ h2
      have hc : ((k : Int) * 7 % (ns.length : Int)) = ((k * 7 % ns.length : Nat) : Int) := by push_cast; rfl
      refine xt0 (T1 := T) (bl_of (decide_eq_true (by omega)) (ei_gt (L _ rfl) ev_cst))
        (xs_asg (ei_mod (ei_add (ei_mul (ev_ix (ev_v rfl) (ei_mod (ei_mul (ev_v rfl) ev_cst (.inr (by omega))) (L _ rfl) (by omega)) (by rw [hc]; exact ix_script ht hm)) ev_cst (.inr (by omega))) (ei_mul (ev_v rfl) ev_cst (.inr (by omega)))) ev_cst (by omega)) xs_nil) ?_
      refine xs_ret (ei_mod (ei_mul (ev_v rfl) (ev_v rfl) (.inl ?_)) ev_cst (by omega))
      have h3 := Int.emod_nonneg (ns.getD (k * 7 % ns.length) 0 * 48271 + k * 7919) (show (2147483647 : Int) ≠ 0 by omega)
      have h4 := Int.emod_lt_of_pos (ns.getD (k * 7 % ns.length) 0 * 48271 + k * 7919) (show (0 : Int) < 2147483647 by omega)
      omega
    · rw [if_neg h2]
      refine xf0 (T1 := T) (bl_of (decide_eq_false (by omega)) (ei_gt (L _ rfl) ev_cst)) ?_
      exact xs_ret (ei_mod (ei_mul (ev_v rfl) (ev_v rfl) (.inl (by omega))) ev_cst (by omega))
theorem eq_pair (T : Tw) (a b c d : Int) : eqSv T (.va (.tup [.int a, .int b])) (.va (.tup [.int c, .int d])) = some (decide (a = c) && decide (b = d)) := by
  simp [eqSv, dSv, dVa, dVas, dEq, dEqs] <;> rfl
end AM
namespace AM
open PySem L2
/-- the law's promise -/
def spLaw (n : Nat) (K : PySem.W.Frag) : Sp := fun vs H Q _ => ∃ (a : Addr) (ns : List Int), vs = [.ref a] ∧ SqL K H a (ns.map V.int) ∧ Only H ∧ ns.length ≤ n ∧ ∀ H', Q (.bl true) H'
theorem script_at {K : PySem.W.Frag} {pl : Pl} {H : Hp} {a : Addr} {ns : List Int} (o : Only H) (h : SqL K H a (ns.map V.int)) : ∃ κ, RT K pl κ H ⟨[some (lst0 ns)], 1⟩ ∧ RV pl κ H (.ref rho0) (.ref a) := by
  have f : SqF K H a (ns.map V.int) := by
    rcases h with (h | ⟨ob, h⟩) | h
    · rcases o a with z | ⟨ob, xs, z⟩
      · rw [h] at z; cases z
      · rw [h] at z; cases z
    · exact .inl ⟨ob, h⟩
    · exact .inr h
  have hs : (⟨[some (lst0 ns)], 1⟩ : Tw).shs = [(lst0 ns).shal] := by
    have e : ∀ l : List Int, shsL (l.map fun n => Tr.lf (.int n)) = [] := fun l => by induction l with | nil => rfl | cons x l ih => simp [shsL, shs_lf, ih]
    simp [Tw.shs, shsR, lst0, Tr.shs, e, Tr.shal]
  have pr : Paired (Sl pl (fun i => if i = 0 then some a else none) H) (ns.map fun n => Tr.lf (.int n)) (ns.map V.int) := by
    clear h f hs
    induction ns with
    | nil => exact .nil
    | cons x l ih => exact .cons (by simp [Sl, RV]) ih
  refine ⟨fun i => if i = 0 then some a else none, ⟨fun t ht => ?_, fun i => ?_, fun i b hb => ?_, fun i j b hi hj h1 h2 => ?_, fun i b hi hb => ?_, Nat.one_pos, fun t ht _ => ?_, ⟨lst0 ns, rfl, rfl, rfl⟩⟩, ?_⟩
  · rw [hs] at ht
    rw [List.mem_singleton.mp ht]
    exact NdAt.shal.mpr ⟨a, rfl, _, f, pr⟩
  · rw [hs]; exact List.length_filter_le _ _
  · split at hb
    · rename_i z; subst z; exact Nat.one_pos
    · cases hb
  · rw [if_neg hi] at h1; cases h1
  · rw [if_neg hi] at hb; cases hb
  · rw [hs] at ht
    rw [List.mem_singleton.mp ht]
    rw [free_shal]; rfl
  · simp only [RV]; exact ⟨a, rfl, rfl⟩
theorem law_sp {K : PySem.W.Frag} {L : Link} {n m code : Nat} {d : Def} (hd : L.P code = some d) (hn : d.np = 1) (law : ∀ ns : List Int, ns.length ≤ m → ∃ T', Phi L.Ev L.P n code [.ref rho0] ⟨[some (lst0 ns)], 1⟩ = .ok (.va (.bl true)) T') :
    ∀ vs H Q E, spLaw m K vs H Q E → spOf K L n code vs H Q E := by
  rintro vs H Q E ⟨a, ns, rfl, h, o, hl, q⟩
  obtain ⟨κ, r, v⟩ := script_at (pl := L.pl) o h
  obtain ⟨T', e⟩ := law ns hl
  refine ⟨κ, _, [.ref rho0], r, .cons v .nil, ⟨d, hd, by rw [hn]; rfl⟩, ?_⟩
  rw [e]
  intro y H' κ' _ _ _ _ z
  have z : y = _ := z
  subst z
  exact q H'
theorem FnOk.less {P : Program} {w : World} {K : PySem.W.Frag} {mg : Str → Option Value} {base : Heap} {CX : CXT} {k : Nat} {f : Addr} {fd : FuncData} {ps : List Str} {sp sp' : Sp} (F : FnOk P w K mg base CX k f fd ps sp) (h : ∀ vs H Q E, sp' vs H Q E → sp vs H Q E) : FnOk P w K mg base CX k f fd ps sp' :=
  ⟨fun vs H Q E z => F.len vs H Q E (h _ _ _ _ z), fun A outer s H args us vs Q E hr e0 hb r z => F.run A outer s H args us vs Q E hr e0 hb r (h _ _ _ _ z)⟩
theorem law_walk {l : PySem.W.OpenLaw} {n k : Nat} {q : Program} {loose : List Str} {XP : (Str → Option Value) → Heap → Prop} {YP : World → Heap → Prop} {d : DefRec} {K : Params → PySem.W.Frag} {x : Str}
    (hn : l.most = some n) (hn2 : n ≤ sizeLine) (hdf : d.params.defaults = []) (hr : Room k callerA) (hY : ∀ (w : World) (h : Heap), YP w h → (K w.params).In h)
    (F : ∀ (w : World) (mg : Str → Option Value) (fa : Addr) (h : Heap), (K w.params).In h → h.Ns mainGlobals mg → mg d.name = some (.ref fa) →
      ∃ fd : FuncData, (∀ (s : Shared) (u : Value), BindsTo s fd ⟨[u], []⟩ [(x, u)]) ∧
        ∀ base : Heap, (K w.params).In base → base.Ns mainGlobals mg → FnOk l.prog w (K w.params) mg base (L2.CX l.prog w) k fa fd [x] (spLaw n (K w.params))) :
    PySem.W.WalkO q loose XP YP l.row.toRowW d [] (fun f vs => PySem.call f vs) :=
  L2.walk_of (n := n) (k := k) (x := x) (CX := fun w => L2.CX l.prog w) (sp := fun w => spLaw n (K w.params)) hn hn2 hdf hr hY F (fun _ _ a ns hl ho hS => ⟨a, ns, rfl, hS, ho, hl, fun _ => rfl⟩) fun _ _ _ _ _ z => by
    obtain ⟨_, _, _, _, _, _, _, _, _, _, _, _, z⟩ := z
    exact z
end AM
namespace K11
open PySem L2 AM
abbrev pw := PySem.Challenge.pw_farhold_k11_parted
def top (i : Nat) : Stmt := pw.main.body.getD i (.Pass ⟨0, 0, 0, 0⟩)
def cx : Cxt := ⟨[("parted", 0), ("_law_cell", 200), ("_law_whole", 201)], [], [], [], [], ["len", "max", "isinstance", "range", "int", "bool", "tuple"]⟩
def d_parted : Def := ⟨1, 1, false, [.ite (.cmp .eq (.v 0) (.cst (.int 1))) [.ret (.tup [.cst (.int 0), .cst (.int 1)])] [], .ret (.tup [.bin .sub (.v
  0) (.bin .fdiv (.v 0) (.cst (.int 2))), .bin .fdiv (.v 0) (.cst (.int 2))])]⟩
def d__law_cell : Def := ⟨2, 3, false, [.ite (.cmp .lt (.v 1) (.bf .len [.v 0])) [.ret (.ix (.v 0) (.v 1))] [], .asg 2 (.bin .add (.bin .mul (.v 1)
  (.cst (.int 7919))) (.cst (.int 5))), .ite (.cmp .gt (.bf .len [.v 0]) (.cst (.int 0))) [.asg 2 (.bin .mod (.bin .add (.bin .mul (.ix (.v 0) (.bin
  .mod (.bin .mul (.v 1) (.cst (.int 7))) (.bf .len [.v 0]))) (.cst (.int 48271))) (.bin .mul (.v 1) (.cst (.int 7919)))) (.cst (.int 2147483647)))]
  [], .ret (.bin .mod (.bin .mul (.v 2) (.v 2)) (.cst (.int 2147483629)))]⟩
def d__law_whole : Def := ⟨1, 1, false, [.ret (.and (.isi (.v 0) [.int]) (.not (.isi (.v 0) [.bool])))]⟩
def d_law : Def := ⟨1, 4, false, [.asg 1 (.bin .add (.cst (.int 1)) (.bin .mod (.call 200 [.v 0, .cst (.int 1)]) (.bin .pow (.cst (.int 10)) (.cst
  (.int 59))))), .ite (.cmp .eq (.bin .mod (.call 200 [.v 0, .cst (.int 0)]) (.cst (.int 2))) (.cst (.int 1))) [.asg 1 (.bin .add (.cst (.int 1))
  (.bin .mod (.call 200 [.v 0, .cst (.int 1)]) (.cst (.int 9))))] [], .for_ (.one 2) .rng1 [.cst (.int 10)] [.ite (.cmp .gt (.v 1) (.cst (.int 0)))
  [.asg 3 (.call 0 [.v 1]), .ite (.or (.not (.isi (.v 3) [.tuple])) (.or (.cmp .ne (.bf .len [.v 3]) (.cst (.int 2))) (.or (.not (.call 201 [.ix (.v
  3) (.cst (.int 0))])) (.not (.call 201 [.ix (.v 3) (.cst (.int 1))]))))) [.ret (.cst (.bl false))] [], .ite (.or (.cmp .ne (.bin .add (.ix (.v 3)
  (.cst (.int 0))) (.ix (.v 3) (.cst (.int 1)))) (.v 1)) (.cmp .ne (.ix (.v 3) (.cst (.int 1))) (.bf .max [.cst (.int 1), .bin .fdiv (.bin .sub (.v 1)
  (.bin .mod (.v 1) (.cst (.int 2)))) (.cst (.int 2))]))) [.ret (.cst (.bl false))] [], .asg 1 (.ix (.v 3) (.cst (.int 0)))] []], .ret (.and (.cmp .eq
  (.call 0 [.cst (.int 1)]) (.tup [.cst (.int 0), .cst (.int 1)])) (.cmp .eq (.call 0 [.cst (.int 3)]) (.tup [.cst (.int 2), .cst (.int 1)])))]⟩
theorem c_parted : optM (cS cx ["weight"] 40 (defScope (top 1))) (defBody (top 1)) = some d_parted.body := by rfl
theorem c_cell : optM (cS cx ["_law_script", "_law_k", "_law_number"] 40 (defScope (top 3))) (defBody (top 3)) = some d__law_cell.body := by rfl
theorem c_whole : optM (cS cx ["_law_found"] 40 (defScope (top 4))) (defBody (top 4)) = some d__law_whole.body := by rfl
theorem c_law : optM (cS cx ["_law_script", "_law_weight", "_law_k", "_law_found"] 40 (defScope (top 5))) (defBody (top 5)) = some d_law.body := by rfl
/-! ### the plain law -/
def P : Nat → Option Def
  | 0 => some d_parted | 200 => some d__law_cell | 201 => some d__law_whole | 202 => some d_law | _ => none
def Ev : AM.Env := ⟨fun _ _ => none, fun _ => none, fun _ _ => false, fun _ => 0⟩
def pa (w : Int) : Int × Int := if w = 1 then (0, 1) else (w - w / 2, w / 2)
theorem leave_tup2 {n : Nat} {i j : Int} {T : Tw} : leave false n (.va (.tup [.int i, .int j])) T = .ok (.va (.tup [.int i, .int j])) (T.take n) := by simp [leave, Va.low, lowAll]
theorem parted_ok {T : Tw} {m : Nat} {w : Int} : Phi Ev P (m + 1) 0 [.int w] T = .ok (.va (.tup [.int (pa w).1, .int (pa w).2])) T := by
  have fin : ∀ i j : Int, Xs Ev (Phi Ev P m) d_parted.body [some (.int w)] T = .rt (.va (.tup [.int i, .int j])) T → Phi Ev P (m + 1) 0 [.int w] T = .ok (.va (.tup [.int i, .int j])) T := fun i j h => by
    rw [run_rt (d := d_parted) rfl rfl h]
    exact leave_tup2.trans (by rw [take_len])
  refine fin _ _ ?_
  unfold pa
  by_cases h : w = 1
  · rw [if_pos h]
    exact xtr (bl_of (decide_eq_true h) (ei_eq (ev_v rfl) ev_cst (eq_int _ _ _))) (xs_ret (ev_tup (es_cons ev_cst (es_cons ev_cst es_nil)) rfl (by decide)))
  · rw [if_neg h]
    exact xf0 (bl_of (decide_eq_false h) (ei_eq (ev_v rfl) ev_cst (eq_int _ _ _))) (xs_ret (ev_tup (es_cons (ei_sub (ev_v rfl) (ei_fdiv (ev_v rfl) ev_cst (by omega))) (es_cons (ei_fdiv (ev_v rfl) ev_cst (by omega)) es_nil)) rfl (show 2 ≤ lim by decide)))
theorem whole_ok {T : Tw} {m : Nat} {w : Int} : Phi Ev P (m + 1) 201 [.int w] T = .ok (.va (.bl true)) T := by
  rw [run_rt (d := d__law_whole) (T' := T) (s := .va (.bl true)) rfl rfl (xs_ret (ev_and_t (ei_isi (ev_v rfl) rfl) (ev_not (r := false) (ei_isi (ev_v rfl) rfl)))), leave_bl]
  exact congrArg _ (take_len T)
def body : List IS := [.ite (.cmp .gt (.v 1) (.cst (.int 0)))
  [.asg 3 (.call 0 [.v 1]), .ite (.or (.not (.isi (.v 3) [.tuple])) (.or (.cmp .ne (.bf .len [.v 3]) (.cst (.int 2))) (.or (.not (.call 201 [.ix (.v
  3) (.cst (.int 0))])) (.not (.call 201 [.ix (.v 3) (.cst (.int 1))]))))) [.ret (.cst (.bl false))] [], .ite (.or (.cmp .ne (.bin .add (.ix (.v 3)
  (.cst (.int 0))) (.ix (.v 3) (.cst (.int 1)))) (.v 1)) (.cmp .ne (.ix (.v 3) (.cst (.int 1))) (.bf .max [.cst (.int 1), .bin .fdiv (.bin .sub (.v 1)
  (.bin .mod (.v 1) (.cst (.int 2)))) (.cst (.int 2))]))) [.ret (.cst (.bl false))] [], .asg 1 (.ix (.v 3) (.cst (.int 0)))] []]
theorem turn_ok {T : Tw} {m : Nat} {w : Int} (hw : 0 ≤ w) (r o2 o3 : Option Va) : ∃ w' o3', 0 ≤ w' ∧ Xs Ev (Phi Ev P (m + 1)) body [r, some (.int w), o2, o3] T = .nx [r, some (.int w'), o2, o3'] T := by
  by_cases h : 0 < w
  · have e1 : (pa w).1 + (pa w).2 = w := by unfold pa; split <;> simp; omega
    have e2 : (pa w).2 = if (w - w % 2) / 2 > 1 then (w - w % 2) / 2 else 1 := by unfold pa; split <;> split <;> simp <;> omega
    have e3 : 0 ≤ (pa w).1 := by unfold pa; split <;> simp; omega
    refine ⟨(pa w).1, some (.tup [.int (pa w).1, .int (pa w).2]), e3, ?_⟩
    have i0 : ∀ Φ, E Ev Φ (.ix (.v 3) (.cst (.int 0))) [r, some (.int w), o2, some (.tup [.int (pa w).1, .int (pa w).2])] T = .ok (.va (.int (pa w).1)) T := fun Φ => ev_ix (ev_v rfl) ev_cst rfl
    have i1 : ∀ Φ, E Ev Φ (.ix (.v 3) (.cst (.int 1))) [r, some (.int w), o2, some (.tup [.int (pa w).1, .int (pa w).2])] T = .ok (.va (.int (pa w).2)) T := fun Φ => ev_ix (ev_v rfl) ev_cst rfl
    refine xt0 (bl_of (decide_eq_true h) (ei_gt (ev_v rfl) ev_cst)) (xs_asg (ev_call (es_cons (ev_v rfl) es_nil) rfl parted_ok) ?_) xs_nil
    refine xf0 (ev_or_f (ev_not (r := true) (ei_isi (ev_v rfl) rfl)) (ev_or_f (ei_ne (r := true) (ev_bf (es_cons (ev_v rfl) es_nil) rfl) ev_cst rfl)
      (ev_or_f (ev_not (r := true) (ev_call (es_cons (i0 _) es_nil) rfl whole_ok)) (ev_not (r := true) (ev_call (es_cons (i1 _) es_nil) rfl whole_ok))))) ?_
    refine xf0 (ev_or_f (bl_of ?_ (ei_ne (ei_add (i0 _) (i1 _)) (ev_v rfl) (eq_int _ _ _))) (bl_of ?_ (ei_ne (i1 _) (ev_bf (es_cons ev_cst (es_cons (ei_fdiv (ei_sub (ev_v rfl) (ei_mod (ev_v rfl) ev_cst (by omega))) ev_cst (by omega)) es_nil)) rfl) (eq_int _ _ _)))) ?_
    · rw [decide_eq_true e1]; rfl
    · rw [decide_eq_true e2]; rfl
    · exact xs_asg (i0 _) xs_nil
  · exact ⟨w, o3, hw, xf0 (bl_of (decide_eq_false h) (ei_gt (ev_v rfl) ev_cst)) xs_nil⟩
theorem loop_ok {T : Tw} {m : Nat} {r : Option Va} : ∀ (vs : List Va) {w : Int} (hw : 0 ≤ w) (o2 o3 : Option Va), ∃ w' o2' o3', 0 ≤ w' ∧ loopV (bodyF (.one 2) (Xs Ev (Phi Ev P (m + 1)) body)) vs [r, some (.int w), o2, o3] T = .nx [r, some (.int w'), o2', o3'] T
  | [], w, hw, o2, o3 => ⟨w, o2, o3, hw, rfl⟩
  | v :: vs, w, hw, o2, o3 => by
    obtain ⟨w1, o31, h1, e1⟩ := turn_ok (T := T) (m := m) hw r (some v) o3
    obtain ⟨w2, o22, o32, h2, e2⟩ := loop_ok (T := T) (m := m) (r := r) vs h1 (some v) o31
    refine ⟨w2, o22, o32, h2, ?_⟩
    rw [loopV_cons]
    show turn (Xs Ev (Phi Ev P (m + 1)) body [r, some (.int w), some v, o3] T) _ = _
    rw [e1]
    exact e2
theorem law_ok (ns : List Int) (m : Nat) : Phi Ev P (m + 2) 202 [.ref rho0] ⟨[some (lst0 ns)], 1⟩ = .ok (.va (.bl true)) ⟨[some (lst0 ns)], 1⟩ := by
  have ht : (⟨[some (lst0 ns)], 1⟩ : Tw).at rho0 = some (lst0 ns) := rfl
  generalize (⟨[some (lst0 ns)], 1⟩ : Tw) = T at ht ⊢
  have c0 := cell_ok (Ev := Ev) (P := P) (m := m) (k := 0) rfl ht (by omega)
  have c1 := cell_ok (Ev := Ev) (P := P) (m := m) (k := 1) rfl ht (by omega)
  have cE : ∀ (σ : Sg) (j : Int) (k : Nat), j = k → σ.get 0 = some (.ref rho0) → Phi Ev P (m + 1) 200 [.ref rho0, .int k] T = .ok (.va (.int (cellv ns k))) T → E Ev (Phi Ev P (m + 1)) (.call 200 [.v 0, .cst (.int j)]) σ T = .ok (.va (.int (cellv ns k))) T := fun σ j k hj h e => by
    subst hj; exact ev_call (es_cons (ev_v h) (es_cons ev_cst es_nil)) rfl e
  have main : Xs Ev (Phi Ev P (m + 1)) d_law.body [some (.ref rho0), none, none, none] T = .rt (.va (.bl true)) T := by
    have tail : ∀ w : Int, 0 ≤ w → ∀ st, st = d_law.body.drop 2 → Xs Ev (Phi Ev P (m + 1)) st [some (.ref rho0), some (.int w), none, none] T = .rt (.va (.bl true)) T := by
      rintro w hw st rfl
      obtain ⟨w', o2, o3, h', e⟩ := loop_ok (T := T) (m := m) (r := some (.ref rho0)) (range2 0 10) hw none none
      show Xs Ev _ (.for_ (.one 2) .rng1 [.cst (.int 10)] body :: _) _ _ = _
      rw [Xs_cons, X_for]
      dsimp only
      rw [es_cons ev_cst es_nil, inS_ok]
      show (loopV (bodyF (.one 2) (Xs Ev (Phi Ev P (m + 1)) body)) (range2 0 10) _ T).then_ _ = _
      rw [e]
      exact xs_ret (ev_and_t (ei_eq (ev_call (es_cons ev_cst es_nil) rfl parted_ok) (ev_tup (es_cons ev_cst (es_cons ev_cst es_nil)) rfl (by decide)) (by rw [show pa 1 = (0, 1) from by decide]; exact eq_pair T 0 1 0 1)) (ei_eq (ev_call (es_cons ev_cst es_nil) rfl parted_ok) (ev_tup (es_cons ev_cst (es_cons ev_cst es_nil)) rfl (by decide)) (by rw [show pa 3 = (2, 1) from by decide]; exact eq_pair T 2 1 2 1)))
    refine xs_asg (ei_add ev_cst (ei_mod (cE _ 1 1 rfl rfl c1) (ei_pow ev_cst ev_cst (by omega)) (by decide))) ?_
    have p1 := Int.emod_nonneg (cellv ns 1) (show (10 : Int) ^ (59 : Int).toNat ≠ 0 by decide)
    by_cases h : cellv ns 0 % 2 = 1
    · refine xt0 (bl_of (decide_eq_true h) (ei_eq (ei_mod (cE _ 0 0 rfl rfl c0) ev_cst (by omega)) ev_cst (eq_int _ _ _))) (xs_asg (ei_add ev_cst (ei_mod (cE _ 1 1 rfl rfl c1) ev_cst (by omega))) xs_nil) ?_
      exact tail _ (by omega) _ rfl
    · refine xf0 (bl_of (decide_eq_false h) (ei_eq (ei_mod (cE _ 0 0 rfl rfl c0) ev_cst (by omega)) ev_cst (eq_int _ _ _))) ?_
      exact tail _ (by omega) _ rfl
  rw [run_rt (d := d_law) rfl rfl main, leave_bl]
  exact congrArg _ (take_len T)
def pl : Pl := ⟨fun _ => 0, fun _ => 0, fun _ => ""⟩
def L : Link := ⟨cx, pl, Ev, P⟩
theorem all_mk {w : World} {K : PySem.W.Frag} {h : Heap} {mg : Str → Option Value} {fa f1 f2 f3 f4 : Addr} (X : K.In h) (G : h.Ns mainGlobals mg) (hfa : mg "law" = some (.ref fa))
    {od1 an1 od2 an2 od3 an3 od4 an4 : Option Addr} {sl1 sl2 sl3 sl4 : Array (Option Value)} {oc1 kV1 dc1 pm1 cd1 ct1 oc2 kV2 dc2 pm2 cd2 ct2 oc3 kV3 dc3 pm3 cd3 ct3 oc4 kV4 dc4 pm4 cd4 ct4 : Value}
    (a1 : PySem.W.nsIn K mainGlobals "parted" = some (some (.ref f1))) (l1 : K.lookup f1 = some ⟨oc1, od1, .func (PySem.W.fnOf "parted" "parted" (defArgs (top 1)) (defBody (top 1)) (defScope (top 1)) .none kV1 dc1 pm1 an1 cd1 ct1), sl1⟩) (c1 : PySem.W.codeIn K cd1 "parted" = true) (k1 : PySem.W.keepIn K (.ref f1) = true)
    (a2 : PySem.W.nsIn K mainGlobals "_law_cell" = some (some (.ref f2))) (l2 : K.lookup f2 = some ⟨oc2, od2, .func (PySem.W.fnOf "_law_cell" "_law_cell" (defArgs (top 3)) (defBody (top 3)) (defScope (top 3)) .none kV2 dc2 pm2 an2 cd2 ct2), sl2⟩) (c2 : PySem.W.codeIn K cd2 "_law_cell" = true) (k2 : PySem.W.keepIn K (.ref f2) = true)
    (a3 : PySem.W.nsIn K mainGlobals "_law_whole" = some (some (.ref f3))) (l3 : K.lookup f3 = some ⟨oc3, od3, .func (PySem.W.fnOf "_law_whole" "_law_whole" (defArgs (top 4)) (defBody (top 4)) (defScope (top 4)) .none kV3 dc3 pm3 an3 cd3 ct3), sl3⟩) (c3 : PySem.W.codeIn K cd3 "_law_whole" = true) (k3 : PySem.W.keepIn K (.ref f3) = true)
    (a4 : PySem.W.nsIn K mainGlobals "law" = some (some (.ref f4))) (l4 : K.lookup f4 = some ⟨oc4, od4, .func (PySem.W.fnOf "law" "law" (defArgs (top 5)) (defBody (top 5)) (defScope (top 5)) .none kV4 dc4 pm4 an4 cd4 ct4), sl4⟩) (c4 : PySem.W.codeIn K cd4 "law" = true) (k4 : PySem.W.keepIn K (.ref f4) = true)
    (z1 : PySem.W.nsIn K mainGlobals "len" = some none) (z2 : PySem.W.nsIn K mainGlobals "max" = some none) (z3 : PySem.W.nsIn K mainGlobals "isinstance" = some none) (z4 : PySem.W.nsIn K mainGlobals "range" = some none)
    (z5 : PySem.W.nsIn K mainGlobals "int" = some none) (z6 : PySem.W.nsIn K mainGlobals "bool" = some none) (z7 : PySem.W.nsIn K mainGlobals "tuple" = some none) :
    ∃ fd : FuncData, (∀ (s : Shared) (v : Value), BindsTo s fd ⟨[v], []⟩ [("_law_script", v)]) ∧ ∀ base : Heap, K.In base → base.Ns mainGlobals mg → FnOk pw w K mg base (L2.CX pw w) 7 fa fd ["_law_script"] (spLaw 63 K) := by
  have e := hfa.symm.trans (PySem.W.mg_of X G a4)
  cases e
  have F1 := fun_mk (st := top 1) l1 c1 k1
  have F2 := fun_mk (st := top 3) l2 c2 k2
  have F3 := fun_mk (st := top 4) l3 c3 k3
  have F4 := fun_mk (st := top 5) l4 c4 k4
  have U1 : DefU K L 0 f1 _ ["weight"] := ⟨_, _, _, ["weight"], d_parted, 40, F1, ⟨rfl, rfl, rfl, by decide +kernel, rfl, by decide +kernel, by decide +kernel⟩, F1.binds fun _ _ _ _ _ _ us hl => match us, hl with | [_], _ => rfl, rfl, rfl, rfl, c_parted⟩
  have U2 : DefU K L 200 f2 _ ["_law_script", "_law_k"] := ⟨_, _, _, ["_law_script", "_law_k", "_law_number"], d__law_cell, 40, F2, ⟨rfl, rfl, rfl, by decide +kernel, rfl, by decide +kernel, by decide +kernel⟩, F2.binds fun _ _ _ _ _ _ us hl => match us, hl with | [_, _], _ => rfl, rfl, rfl, rfl, c_cell⟩
  have U3 : DefU K L 201 f3 _ ["_law_found"] := ⟨_, _, _, ["_law_found"], d__law_whole, 40, F3, ⟨rfl, rfl, rfl, by decide +kernel, rfl, by decide +kernel, by decide +kernel⟩, F3.binds fun _ _ _ _ _ _ us hl => match us, hl with | [_], _ => rfl, rfl, rfl, rfl, c_whole⟩
  have U4 : DefU K L 202 fa _ ["_law_script"] := ⟨_, _, _, ["_law_script", "_law_weight", "_law_k", "_law_found"], d_law, 40, F4, ⟨rfl, rfl, rfl, by decide +kernel, rfl, by decide +kernel, by decide +kernel⟩, F4.binds fun _ _ _ _ _ _ us hl => match us, hl with | [_], _ => rfl, rfl, rfl, rfl, c_law⟩
  have T : Top K mg L := by
    refine ⟨fun x c hc => ?_, fun m c k code hc => by simp [L, cx, lookS] at hc, fun m k i hc => by simp [L, cx, lookS] at hc, fun c f code hc => by simp [L, Ev] at hc, fun f i hc => by simp [L, cx, lookS] at hc, fun i j f hc => by simp [L, cx, lookS] at hc,
      fun f i c hc => by simp [L, cx, lookS] at hc, fun x c code hc => by simp [L, cx, lookS] at hc, fun c hc => by simp [L, Ev] at hc, fun x d hc => by simp [L, cx, lookS] at hc, fun x c hc => by simp [L, cx, lookS] at hc, fun x hx => ?_⟩
    · simp only [L, cx, lookS] at hc
      split at hc
      · rename_i z; subst z; cases hc; exact ⟨f1, PySem.W.mg_of X G a1, k1, _, _, U1⟩
      · split at hc
        · rename_i z; subst z; cases hc; exact ⟨f2, PySem.W.mg_of X G a2, k2, _, _, U2⟩
        · split at hc
          · rename_i z; subst z; cases hc; exact ⟨f3, PySem.W.mg_of X G a3, k3, _, _, U3⟩
          · cases hc
    · simp only [L, cx, memS, Bool.or_eq_true, decide_eq_true_eq] at hx
      rcases hx with z | z | z | z | z | z | z | z
      · subst z; exact PySem.W.mg_none_of X G z1
      · subst z; exact PySem.W.mg_none_of X G z2
      · subst z; exact PySem.W.mg_none_of X G z3
      · subst z; exact PySem.W.mg_none_of X G z4
      · subst z; exact PySem.W.mg_none_of X G z5
      · subst z; exact PySem.W.mg_none_of X G z6
      · subst z; exact PySem.W.mg_none_of X G z7
      · cases z
  refine ⟨PySem.W.fnOf "law" "law" (defArgs (top 5)) (defBody (top 5)) (defScope (top 5)) .none kV4 dc4 pm4 an4 cd4 ct4, fun s v => .of_eq rfl, fun base _ _ => ?_⟩
  exact FnOk.less ((lks (P := pw) (w := w) (base := base) T 3).1 202 fa _ _ U4) (law_sp (d := d_law) rfl rfl fun ns _ => ⟨_, law_ok ns 1⟩)
end K11
open PySem PySem.W PyProof.Rows
set_option maxRecDepth 100000 in
set_option maxHeartbeats 0 in
theorem PySem.Challenge.cw_farhold_k11_parted_holds : PySem.Challenge.rw_farhold_k11_parted.Holds := by
  w_on; o_law; k_head; (case hw => w_witness2)
  k_fill
  refine AM.law_walk (l := PySem.Challenge.rw_farhold_k11_parted) (n := 63) (k := 7) (x := "_law_script") rfl (by decide) rfl ⟨rfl, by decide, by decide⟩ (fun w h Y => PySem.W.kIn_of Y) ?F
  case F =>
    intro w mg fa h KX G hmg
    refine' K11.all_mk KX G hmg ?a1 ?l1 ?c1 ?k1 ?a2 ?l2 ?c2 ?k2 ?a3 ?l3 ?c3 ?k3 ?a4 ?l4 ?c4 ?k4 ?z1 ?z2 ?z3 ?z4 ?z5 ?z6 ?z7
    (case a1 => k_is); (case l1 => k_is); (case c1 => k_is); (case k1 => k_is)
    (case a2 => k_is); (case l2 => k_is); (case c2 => k_is); (case k2 => k_is)
    (case a3 => k_is); (case l3 => k_is); (case c3 => k_is); (case k3 => k_is)
    (case a4 => k_is); (case l4 => k_is); (case c4 => k_is); (case k4 => k_is)
    (case z1 => k_is); (case z2 => k_is); (case z3 => k_is); (case z4 => k_is); (case z5 => k_is); (case z6 => k_is); (case z7 => k_is)
