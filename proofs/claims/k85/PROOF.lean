import PyProof.Rows.All
import Wide.All
import OpenK.AllK
import Wide.FinOn
import PyProof.ReprReads
import PyProof.StrLawsRepr
import HandS.ForMost
import HandS.WordsExc
import HandS.Defaults
import HandS.Wide
import HandS.Gcd
import HandS.TupAny
import HandS.TupMul
import HandS.IsInst
import HandS.Style
import HandS.Deep
import HandS.More
import HandS.Comp
import HandS.Iter
import HandS.Walk
import HandS.Rev
import HandS.Zip
import PyProof.EnumIter
import PyProof.EnumMake
import HandS.Conv
import HandS.Dict
import HandS.Ends
import HandS.HeadHook2
import KE.KStateDown
import HandS.Head0
import HandS.Head1
import HandS.Head2
import HandS.HeadEnd
import HandS.HeadHook1
import HandS.HeadHook4
import PyProof.StrLawsIn
import PySem.Challenge.RW_umpirehall_k85_scripts_of_long_lines
set_option linter.all false
set_option Elab.async false
set_option maxRecDepth 100000
set_option maxHeartbeats 4000000
/-! Ev1: values, stores, a small language and its evaluator (no model in sight). -/
namespace Ev

/-- a value: texts by their code points, tuples by value, lists and dicts by their place in the store; frl: a list that is only read -/
inductive D where
  | non | bl (b : Bool) | int (i : Int) | str (s : List Nat) | tup (xs : List D) | ref (k : Nat) | frl (xs : List D) | exc (c : Nat) (d : D)
  deriving Inhabited

mutual
def D.beq : D → D → Bool
  | .non, .non => true
  | .bl a, .bl b => a == b
  | .int a, .int b => decide (a = b)
  | .str a, .str b => decide (a = b)
  | .tup a, .tup b => D.beqs a b
  | .ref a, .ref b => decide (a = b)
  | .frl a, .frl b => D.beqs a b
  | .exc a x, .exc b y => decide (a = b) && D.beq x y
  | _, _ => false
def D.beqs : List D → List D → Bool
  | [], [] => true
  | x :: xs, y :: ys => D.beq x y && D.beqs xs ys
  | _, _ => false
end
mutual
theorem D.beq_eq : ∀ a b : D, D.beq a b = true → a = b
  | .non, b, h => by cases b <;> simp_all [D.beq]
  | .bl a, b, h => by cases b <;> simp_all [D.beq]
  | .int a, b, h => by cases b <;> simp_all [D.beq]
  | .str a, b, h => by cases b <;> simp_all [D.beq]
  | .ref a, b, h => by cases b <;> simp_all [D.beq]
  | .tup a, b, h => by
    cases b with
    | tup b => rw [D.beqs_eq a b (by simpa [D.beq] using h)]
    | _ => simp [D.beq] at h
  | .frl a, b, h => by
    cases b with
    | frl b => rw [D.beqs_eq a b (by simpa [D.beq] using h)]
    | _ => simp [D.beq] at h
  | .exc a x, b, h => by
    cases b with
    | exc b y =>
      simp only [D.beq, Bool.and_eq_true, decide_eq_true_eq] at h
      rw [h.1, D.beq_eq x y h.2]
    | _ => simp [D.beq] at h
theorem D.beqs_eq : ∀ a b : List D, D.beqs a b = true → a = b
  | [], b, h => by cases b <;> simp_all [D.beqs]
  | x :: xs, b, h => by
    cases b with
    | nil => simp [D.beqs] at h
    | cons y ys =>
      simp only [D.beqs, Bool.and_eq_true] at h
      rw [D.beq_eq x y h.1, D.beqs_eq xs ys h.2]
end
mutual
theorem D.beq_refl : ∀ a : D, D.beq a a = true
  | .non => by simp [D.beq]
  | .bl a => by simp [D.beq]
  | .int a => by simp [D.beq]
  | .str a => by simp [D.beq]
  | .ref a => by simp [D.beq]
  | .tup a => by simp [D.beq, D.beqs_refl a]
  | .frl a => by simp [D.beq, D.beqs_refl a]
  | .exc a x => by simp [D.beq, D.beq_refl x]
theorem D.beqs_refl : ∀ a : List D, D.beqs a a = true
  | [] => by simp [D.beqs]
  | x :: xs => by simp [D.beqs, D.beq_refl x, D.beqs_refl xs]
end
instance : DecidableEq D := fun a b => if h : D.beq a b = true then isTrue (D.beq_eq a b h) else isFalse fun e => h (e ▸ D.beq_refl a)

/-- what stands in the store -/
inductive Ob where
  | lst (xs : List D) | dic (kvs : List (D × D))
  deriving DecidableEq
abbrev Sto := List Ob
abbrev Env := List (Option D)
/-- an error: its class (by number), what it bears -/
structure Er where
  cls : Nat
  arg : D
  deriving DecidableEq
inductive Res where
  | ok (d : D) (S : Sto) | ex (x : Er) (S : Sto) | st
inductive ResL where
  | ok (ds : List D) (S : Sto) | ex (x : Er) (S : Sto) | st
def Res.bind : Res → (D → Sto → Res) → Res
  | .ok d S, f => f d S
  | .ex x S, _ => .ex x S
  | .st, _ => .st
def Res.bindL : Res → (D → Sto → ResL) → ResL
  | .ok d S, f => f d S
  | .ex x S, _ => .ex x S
  | .st, _ => .st
def ResL.bind : ResL → (List D → Sto → Res) → Res
  | .ok d S, f => f d S
  | .ex x S, _ => .ex x S
  | .st, _ => .st
def ResL.bindL : ResL → (List D → Sto → ResL) → ResL
  | .ok d S, f => f d S
  | .ex x S, _ => .ex x S
  | .st, _ => .st

/-! ### refs -/
mutual
/-- every ref in it is less than n -/
def D.und (n : Nat) : D → Bool
  | .tup xs => D.unds n xs
  | .frl xs => D.unds n xs
  | .ref k => decide (k < n)
  | .exc _ d => D.und n d
  | _ => true
def D.unds (n : Nat) : List D → Bool
  | [] => true
  | x :: xs => D.und n x && D.unds n xs
end
abbrev D.pure (d : D) : Bool := d.und 0
def Ob.els : Ob → List D
  | .lst xs => xs
  | .dic kvs => kvs.map (·.1) ++ kvs.map (·.2)
/-- behind a call that began with n things: what was made since then is forgotten, where nothing that stays speaks of it -/
def trim (n : Nat) (d : D) (S : Sto) : Res :=
  if d.und n = true then .ok d (S.take n) else
  match d with
  | .ref k => (match S[k]? with
    | some o => if n ≤ k ∧ D.unds n o.els = true then .ok (.ref n) (S.take n ++ [o]) else .ok d S
    | none => .st)
  | _ => .ok d S
/-- behind an expression that began with the store S: the same, where the things of S stand as they stood -/
def tidy (S : Sto) (d : D) (S1 : Sto) : Res := if S1.take S.length = S then trim S.length d S1 else .ok d S1

/-! ### == -/
mutual
/-- == of values without refs -/
def deq : D → D → Bool
  | .non, .non => true
  | .bl a, .bl b => a == b
  | .bl a, .int j => decide ((if a then 1 else 0) = j)
  | .int i, .bl b => decide (i = (if b then 1 else 0))
  | .int i, .int j => decide (i = j)
  | .str x, .str y => decide (x = y)
  | .tup xs, .tup ys => deqs xs ys
  | .frl xs, .frl ys => deqs xs ys
  | _, _ => false
def deqs : List D → List D → Bool
  | [], [] => true
  | x :: xs, y :: ys => deq x y && deqs xs ys
  | _, _ => false
end
mutual
def D.dep : D → Nat
  | .tup xs => D.deps xs + 1
  | .frl xs => D.deps xs + 1
  | .exc _ _ => 100
  | _ => 0
def D.deps : List D → Nat
  | [] => 0
  | x :: xs => max (D.dep x) (D.deps xs)
end
mutual
/-- the lists of the store put in, one ref deep -/
def sub1 (S : Sto) : D → D
  | .tup xs => .tup (sub1s S xs)
  | .frl xs => .frl (sub1s S xs)
  | .ref k => (match S[k]? with
    | some (.lst xs) => .frl xs
    | _ => .ref k)
  | d => d
def sub1s (S : Sto) : List D → List D
  | [] => []
  | x :: xs => sub1 S x :: sub1s S xs
end
/-- the lists of the store put in -/
def rsv (S : Sto) (d : D) : D := sub1 S (sub1 S (sub1 S d))
mutual
/-- signs within the range -/
def D.sok : D → Bool
  | .str s => s.all fun c => decide (c < 1114112)
  | .tup xs => D.soks xs
  | .frl xs => D.soks xs
  | _ => true
def D.soks : List D → Bool
  | [] => true
  | x :: xs => D.sok x && D.soks xs
end
def D.flat : D → Bool
  | .non => true
  | .bl _ => true
  | .int _ => true
  | .str _ => true
  | _ => false
def datOk (d : D) : Bool := d.pure && decide (d.dep ≤ 60) && d.sok
def dEq (S : Sto) (a b : D) : Option Bool := if (a.flat && b.flat) = true then some (deq a b) else if (datOk (rsv S a) && datOk (rsv S b)) = true then some (deq (rsv S a) (rsv S b)) else none

/-! ### operators by values -/
inductive Bop where
  | add | sub | mul | fdiv | mod | pow
  deriving DecidableEq
inductive Cop where
  | eq | ne | lt | le | gt | ge | isin | notin
  deriving DecidableEq
/-- is None, is True, is False -/
inductive Isk where
  | isN | notN | isT | notT | isF | notF
  deriving DecidableEq
def mulOk (i j : Int) : Bool := decide (i.natAbs < 18446744073709551616) || decide (j.natAbs < 18446744073709551616) || decide (i.natAbs.log2 + j.natAbs.log2 < 1000000)
def divOk (j : Int) : Bool := decide (j ≠ 0) && decide (j.natAbs.log2 < 9000)
abbrev line : Nat := 16777216
/-- a new thing -/
def alloc (o : Ob) (S : Sto) : Res := .ok (.ref S.length) (S ++ [o])
def dRep {α : Type} (xs : List α) (n : Nat) : List α := (List.replicate n xs).flatten
def binop : Bop → D → D → Sto → Res
  | .add, .int i, .int j, S => .ok (.int (i + j)) S
  | .add, .str x, .str y, S => if x.length + y.length ≤ line then .ok (.str (x ++ y)) S else .st
  | .add, .tup x, .tup y, S => if x.length + y.length ≤ line then .ok (.tup (x ++ y)) S else .st
  | .add, .ref j, .ref k, S => (match S[j]?, S[k]? with
    | some (.lst x), some (.lst y) => if x.length + y.length ≤ line then alloc (.lst (x ++ y)) S else .st
    | _, _ => .st)
  | .sub, .int i, .int j, S => .ok (.int (i - j)) S
  | .mul, .int i, .int j, S => if mulOk i j = true then .ok (.int (i * j)) S else .st
  | .mul, .ref j, .int n, S => (match S[j]? with
    | some (.lst x) => if n < 9223372036854775808 ∧ -9223372036854775808 ≤ n ∧ x.length * n.toNat ≤ line then alloc (.lst (dRep x n.toNat)) S else .st
    | _ => .st)
  | .mul, .str x, .int n, S => if x.length * n.toNat ≤ line ∧ -9223372036854775808 ≤ n ∧ n < 9223372036854775808 then .ok (.str (dRep x n.toNat)) S else .st
  | .mul, .tup x, .int n, S => if x ≠ [] ∧ 2 ≤ n ∧ n ≤ 1000 ∧ x.length ≤ 1000 then .ok (.tup (dRep x n.toNat)) S else .st
  | .fdiv, .int i, .int j, S => if divOk j = true then .ok (.int (i.fdiv j)) S else .st
  | .mod, .int i, .int j, S => if j ≠ 0 then .ok (.int (i.fmod j)) S else .st
  | .pow, .int i, .int j, S => if 0 ≤ j ∧ j ≤ 1000000 ∧ i.natAbs < 18446744073709551616 then .ok (.int (i ^ j.toNat)) S else .st
  | _, _, _, _ => .st
/-- one text in another -/
def isSub : List Nat → List Nat → Bool
  | [c], y => decide (c ∈ y)
  | x, y => !(PySem.Builtin.Str.occurrences ⟨y.toArray⟩ ⟨x.toArray⟩ 0 y.length 1).isEmpty
/-- the pairs of a dict: a key's value -/
def look : List (D × D) → D → Option D
  | [], _ => none
  | (k, v) :: r, d => if deq k d = true then some v else look r d
def put : List (D × D) → D → D → List (D × D)
  | [], d, x => [(d, x)]
  | (k, v) :: r, d, x => if deq k d = true then (k, x) :: r else (k, v) :: put r d x
def del : List (D × D) → D → List (D × D)
  | [], _ => []
  | (k, v) :: r, d => if deq k d = true then r else (k, v) :: del r d
mutual
/-- what may be a key: depth 7 at most -/
def keyOk : D → Bool
  | .non => true
  | .bl _ => true
  | .int _ => true
  | .str _ => true
  | .tup xs => keysOk xs && decide (D.deps xs ≤ 6)
  | _ => false
def keysOk : List D → Bool
  | [] => true
  | x :: xs => keyOk x && keysOk xs
end
/-- x among ys -/
def dMem (S : Sto) (x : D) (ys : List D) : Option Bool := if (x.flat && ys.all D.flat) = true then some (ys.any fun y => deq y x) else if (datOk (rsv S x) && datOk (rsv S (.frl ys))) = true then some ((sub1s S (sub1s S (sub1s S ys))).any fun y => deq y (rsv S x)) else none
def dIn (S : Sto) : D → D → Option Bool
  | .str x, .str y => some (isSub x y)
  | x, .tup ys => dMem S x ys
  | x, .ref k => (match S[k]? with
    | some (.lst ys) => dMem S x ys
    | some (.dic kvs) => if keyOk x = true then some (look kvs x).isSome else none
    | none => none)
  | _, _ => none
/-- lexicographic less of code points -/
def lexLt : List Nat → List Nat → Bool
  | [], [] => false
  | [], _ :: _ => true
  | _ :: _, [] => false
  | a :: x, b :: y => if a = b then lexLt x y else decide (a < b)
def cmpop : Cop → D → D → Sto → Res
  | .eq, x, y, S => (match dEq S x y with
    | some b => .ok (.bl b) S
    | none => .st)
  | .ne, x, y, S => (match dEq S x y with
    | some b => .ok (.bl (!b)) S
    | none => .st)
  | .lt, .int i, .int j, S => .ok (.bl (decide (i < j))) S
  | .le, .int i, .int j, S => .ok (.bl (decide (i ≤ j))) S
  | .gt, .int i, .int j, S => .ok (.bl (decide (j < i))) S
  | .ge, .int i, .int j, S => .ok (.bl (decide (j ≤ i))) S
  | .lt, .str i, .str j, S => .ok (.bl (lexLt i j)) S
  | .isin, x, y, S => (match dIn S x y with
    | some b => .ok (.bl b) S
    | none => .st)
  | .notin, x, y, S => (match dIn S x y with
    | some b => .ok (.bl (!b)) S
    | none => .st)
  | _, _, _, _ => .st
def isop : Isk → D → Option Bool
  | .isN, .non => some true
  | .isN, _ => some false
  | .notN, .non => some false
  | .notN, _ => some true
  | .isT, .bl b => some b
  | .notT, .bl b => some (!b)
  | .isF, .bl b => some (!b)
  | .notF, .bl b => some b
  | _, _ => none
/-! ### places -/
/-- the place that an index means -/
def pyIx (n : Nat) (i : Int) : Option Nat := if 0 ≤ i then (if i < n then some i.toNat else none) else if -(n : Int) ≤ i then some (i + n).toNat else none
def pyAt {α : Type} (xs : List α) (i : Int) : Option α := (pyIx xs.length i).bind fun j => xs[j]?
def idxop : D → D → Sto → Res
  | .tup xs, .int i, S => (match pyAt xs i with
    | some d => .ok d S
    | none => .st)
  | .str xs, .int i, S => if xs.length ≤ line then (match pyAt xs i with
    | some d => .ok (.str [d]) S
    | none => .st) else .st
  | .ref k, y, S => (match S[k]?, y with
    | some (.lst xs), .int i => (match pyAt xs i with
      | some d => .ok d S
      | none => .st)
    | some (.dic kvs), x => if keyOk x = true then (match look kvs x with
      | some d => .ok d S
      | none => .st) else .st
    | _, _ => .st)
  | _, _, _ => .st
/-- a slice's bound as a place among n (d where it is left out) -/
def cutIx (n d : Nat) : Option Int → Nat
  | none => d
  | some v => if v < 0 then (v + (n : Int)).toNat else min v.toNat n
def cut {α : Type} (xs : List α) (lo hi : Option Int) : List α := (xs.drop (cutIx xs.length 0 lo)).take (cutIx xs.length xs.length hi - cutIx xs.length 0 lo)
def sliop : D → Option Int → Option Int → Sto → Res
  | .tup xs, lo, hi, S => .ok (.tup (cut xs lo hi)) S
  | .str xs, lo, hi, S => if xs.length ≤ line then .ok (.str (cut xs lo hi)) S else .st
  | .frl xs, lo, hi, S => alloc (.lst (cut xs lo hi)) S
  | .ref k, lo, hi, S => (match S[k]? with
    | some (.lst xs) => alloc (.lst (cut xs lo hi)) S
    | _ => .st)
  | _, _, _, _ => .st
def revop : D → Sto → Res
  | .tup xs, S => .ok (.tup xs.reverse) S
  | .ref k, S => (match S[k]? with
    | some (.lst xs) => alloc (.lst xs.reverse) S
    | _ => .st)
  | _, _ => .st
/-- a written dict of texts: the last of a key's pairs -/
def cdv : List (List Nat × List Nat) → List Nat → Option (List Nat)
  | [], _ => none
  | (k, v) :: r, s => (match cdv r s with
    | some w => some w
    | none => if k = s then some v else none)
def cdxop (kvs : List (List Nat × List Nat)) : D → Sto → Res
  | .str s, S => (match cdv kvs s with
    | some w => .ok (.str w) S
    | none => .st)
  | _, _ => .st
/-- o[i] = v -/
def setop (n0 : Nat) : D → D → D → Sto → Option Sto
  | .ref k, y, v, S => if k < n0 ∧ v.pure = false then none else (match S[k]?, y with
    | some (.lst xs), .int i => (match pyIx xs.length i with
      | some j => some (S.set k (.lst (xs.set j v)))
      | none => none)
    | some (.dic kvs), x => if keyOk x = true ∧ kvs.length < line then some (S.set k (.dic (put kvs x v))) else none
    | _, _ => none)
  | _, _, _, _ => none

/-! ### built-ins and methods -/
inductive Ty where
  | int | str | tup | lst | bool | dict
  deriving DecidableEq
def isT (S : Sto) : Ty → D → Option Bool
  | .int, .int _ => some true
  | .int, .bl _ => some true
  | .bool, .bl _ => some true
  | .str, .str _ => some true
  | .tup, .tup _ => some true
  | .lst, .frl _ => some true
  | .lst, .ref k => (match S[k]? with
    | some (.lst _) => some true
    | some (.dic _) => some false
    | none => none)
  | .dict, .ref k => (match S[k]? with
    | some (.lst _) => some false
    | some (.dic _) => some true
    | none => none)
  | _, _ => some false
inductive Blt where
  | int | str | len | tuple | list | isi (t : Ty) | repr | min | max | sum | any | all | abs | gcd | sorted | dict
  deriving DecidableEq
inductive Mt where
  | append | pop | popAt | extend | insert | get | get2 | setdefault | count | index | startswith | join | split | items | upper
  deriving DecidableEq
def codes (s : String) : List Nat := s.toList.map Char.toNat
/-- the signs of a number -/
def digs (i : Int) : List Nat := codes (toString i)
def intLst : List D → Option (List Int)
  | [] => some []
  | .int i :: r => (intLst r).map (i :: ·)
  | _ :: _ => none
def blLst : List D → Option (List Bool)
  | [] => some []
  | .bl i :: r => (blLst r).map (i :: ·)
  | _ :: _ => none
def strLst : List D → Option (List (List Nat))
  | [] => some []
  | .str i :: r => (strLst r).map (i :: ·)
  | _ :: _ => none
def joinS (sep : List Nat) : List (List Nat) → List Nat
  | [] => []
  | [x] => x
  | x :: r => x ++ sep ++ joinS sep r
/-- what a value's items are, where it has some -/
def seqOf (S : Sto) : D → Option (List D)
  | .tup xs => some xs
  | .ref k => (match S[k]? with
    | some (.lst xs) => some xs
    | _ => none)
  | _ => none
def maxI : Int → List Int → Int
  | m, [] => m
  | m, x :: r => maxI (if x > m then x else m) r
def minI : Int → List Int → Int
  | m, [] => m
  | m, x :: r => minI (if x < m then x else m) r
mutual
/-- the library's own datum of a value without refs -/
def toPy : D → PySem.PyData
  | .non => .none
  | .bl b => .bool b
  | .int i => .int i
  | .str s => .str ⟨s.toArray⟩
  | .tup xs => .tuple (toPys xs)
  | .frl xs => .list (toPys xs)
  | .ref _ => .none
  | .exc _ _ => .none
def toPys : List D → List PySem.PyData
  | [] => []
  | x :: xs => toPy x :: toPys xs
end
mutual
/-- a bound of the length of a value's text -/
def D.wid : D → Nat
  | .int _ => 2000
  | .str s => 10 * s.length + 2
  | .tup xs => D.wids xs + 3
  | .frl xs => D.wids xs + 3
  | _ => 5
def D.wids : List D → Nat
  | [] => 0
  | x :: xs => D.wid x + 2 + D.wids xs
end
mutual
/-- ints below 2 ^ 1900 -/
def D.shw : D → Bool
  | .int i => decide (i.natAbs.log2 < 1900)
  | .tup xs => D.shws xs
  | .frl xs => D.shws xs
  | _ => true
def D.shws : List D → Bool
  | [] => true
  | x :: xs => D.shw x && D.shws xs
end
def repOk (d : D) : Bool := datOk d && d.shw && decide (d.wid ≤ line)
/-- the text of repr -/
def shown (d : D) : List Nat := (toPy d).shown.cps.toList

def bltop : Blt → List D → Sto → Res
  | .int, [.int i], S => .ok (.int i) S
  | .int, [.bl b], S => .ok (.int (if b then 1 else 0)) S
  | .str, [.int i], S => if i.natAbs.log2 < 1900 then .ok (.str (digs i)) S else .st
  | .len, [.tup xs], S => .ok (.int xs.length) S
  | .len, [.str xs], S => if xs.length ≤ line then .ok (.int xs.length) S else .st
  | .len, [.ref k], S => (match S[k]? with
    | some (.lst xs) => .ok (.int xs.length) S
    | some (.dic kvs) => .ok (.int kvs.length) S
    | none => .st)
  | .tuple, [.tup xs], S => .ok (.tup xs) S
  | .tuple, [.ref k], S => (match S[k]? with
    | some (.lst xs) => .ok (.tup xs) S
    | _ => .st)
  | .list, [.tup xs], S => alloc (.lst xs) S
  | .list, [.ref k], S => (match S[k]? with
    | some (.lst xs) => alloc (.lst xs) S
    | some (.dic kvs) => alloc (.lst (kvs.map (·.1))) S
    | none => .st)
  | .isi t, [x], S => (match isT S t x with
    | some b => .ok (.bl b) S
    | none => .st)
  | .repr, [x], S => if repOk (rsv S x) = true then .ok (.str (shown (rsv S x))) S else .st
  | .min, [.int i, .int j], S => .ok (.int (if j < i then j else i)) S
  | .max, [.int i, .int j], S => .ok (.int (if j > i then j else i)) S
  | .min, [.ref k], S => (match (seqOf S (.ref k)).bind intLst with
    | some (i :: r) => .ok (.int (minI i r)) S
    | _ => .st)
  | .max, [.ref k], S => (match (seqOf S (.ref k)).bind intLst with
    | some (i :: r) => .ok (.int (maxI i r)) S
    | _ => .st)
  | .sum, [.ref k], S => (match (seqOf S (.ref k)).bind intLst with
    | some r => .ok (.int r.sum) S
    | _ => .st)
  | .any, [.ref k], S => (match (seqOf S (.ref k)).bind blLst with
    | some r => .ok (.bl (r.any id)) S
    | _ => .st)
  | .all, [.ref k], S => (match (seqOf S (.ref k)).bind blLst with
    | some r => .ok (.bl (r.all id)) S
    | _ => .st)
  | .abs, [.int i], S => .ok (.int (if i < 0 then -i else i)) S
  | .gcd, [.int i, .int j], S => .ok (.int ((Nat.gcd i.natAbs j.natAbs : Nat) : Int)) S
  | _, _, _ => .st
/-- a method of a list or a dict that is written; n0: things below it are older than the call -/
def mthop (n0 : Nat) : Mt → D → List D → Sto → Res
  | .append, .ref k, [v], S => (match S[k]? with
    | some (.lst xs) => if (k < n0 ∧ v.pure = false) ∨ line ≤ xs.length then .st else .ok .non (S.set k (.lst (xs ++ [v])))
    | _ => .st)
  | .pop, .ref k, [], S => (match S[k]? with
    | some (.lst xs) => (match xs.getLast? with
      | some d => .ok d (S.set k (.lst xs.dropLast))
      | none => .st)
    | _ => .st)
  | .extend, .ref k, [.ref j], S => (match S[k]?, S[j]? with
    | some (.lst xs), some (.lst ys) => if (k < n0 ∧ D.unds 0 ys = false) ∨ line < xs.length + ys.length then .st else .ok .non (S.set k (.lst (xs ++ ys)))
    | _, _ => .st)
  | .get, .ref k, [x], S => (match S[k]? with
    | some (.dic kvs) => if keyOk x = true then .ok ((look kvs x).getD .non) S else .st
    | _ => .st)
  | .get2, .ref k, [x, y], S => (match S[k]? with
    | some (.dic kvs) => if keyOk x = true then .ok ((look kvs x).getD y) S else .st
    | _ => .st)
  | .join, .str sep, [x], S => (match (seqOf S x).bind strLst with
    | some ts => if (ts.map List.length).sum + ts.length * sep.length ≤ line then .ok (.str (joinS sep ts)) S else .st
    | none => .st)
  | _, _, _, _ => .st

/-- the receiver of a method, ahead of its arguments -/
def mtOk (S : Sto) : Mt → D → Bool
  | .append, .ref k => (match S[k]? with
    | some (.lst _) => true
    | _ => false)
  | .pop, .ref k => (match S[k]? with
    | some (.lst _) => true
    | _ => false)
  | .extend, .ref k => (match S[k]? with
    | some (.lst _) => true
    | _ => false)
  | .get, .ref k => (match S[k]? with
    | some (.dic _) => true
    | _ => false)
  | .get2, .ref k => (match S[k]? with
    | some (.dic _) => true
    | _ => false)
  | .join, .str _ => true
  | _, _ => false

/-! ### the language -/
mutual
inductive E where
  | var (i : Nat) | glo (g : Nat) | cst (d : D)
  | tup (es : Es) | lst (es : Es) | dic (es : Es)
  | bin (o : Bop) (a b : E) | neg (a : E) | not (a : E) | and (es : Es) | or (es : Es)
  | cmp (o : Cop) (a b : E) | isc (o : Isk) (a : E) | chn (o p : Cop) (a b c : E)
  | ite (c a b : E)
  | idx (a i : E) | sli (a lo hi : E) | rev (a : E) | lrg (a : E) | cdx (kvs : List (List Nat × List Nat)) (i : E)
  | call (f : Nat) (args : Es)
  | blt (b : Blt) (args : Es)
  | mth (m : Mt) (o : E) (args : Es)
  /-- [e for tg in it if c]: own the names of its own, one: a single target -/
  | lc (own : List Nat) (one : Bool) (tg : List Nat) (it : It) (c e : E)
  | dc (own : List Nat) (one : Bool) (tg : List Nat) (it : It) (c k v : E)
  | tdy (e : E)
inductive Es where
  | nil | cons (e : E) (es : Es)
inductive It where
  | seq (e : E) | fsh (e : E) | rng1 (a : E) | rng2 (a b : E) | rng3 (a b c : E) | enm (e : E) | zip (a b : E) | zip3 (a b c : E) | rvd (e : E) | itm (e : E)
end
mutual
inductive St where
  | asg (i : Nat) (e : E) | asgs (is : List Nat) (e : E) | sub (o i e : E)
  | exp (e : E) | ret (e : E) | retN
  | ite (c : E) (a b : Ss)
  | for_ (one : Bool) (tg : List Nat) (it : It) (ks : List Nat) (body : Ss)
  | whl (c : E) (ks : List Nat) (body : Ss)
  | brk | cnt | pss | nev
  | rai (c : Nat) (e : Option E)
  | try_ (body : Ss) (cls : List Nat) (as : Option Nat) (h : Ss)
inductive Ss where
  | nil | cons (s : St) (r : Ss)
end
inductive Fl where
  | nx (ρ : Env) (S : Sto) | rt (d : D) (S : Sto) | bk (ρ : Env) (S : Sto) | ct (ρ : Env) (S : Sto) | ex (x : Er) (ρ : Env) (S : Sto) | st
inductive ResI where
  | ok (xs : List D) (w : List (Nat × Ob)) (S : Sto) | ex (x : Er) (S : Sto) | st
structure Cf where
  cl : Nat → List D → Sto → Res
  gl : List D
  n0 : Nat
  W : Nat
def wOk (S : Sto) (w : List (Nat × Ob)) : Bool := w.all fun p => decide (S[p.1]? = some p.2)
def kill : List Nat → Env → Env
  | [], ρ => ρ
  | i :: r, ρ => (kill r ρ).set i none
def binds : List Nat → List D → Env → Option Env
  | [], [], ρ => some ρ
  | i :: is, d :: ds, ρ => binds is ds (ρ.set i (some d))
  | _, _, _ => none
def bindTg (one : Bool) (tg : List Nat) (d : D) (ρ : Env) : Option Env :=
  if one then (match tg with
    | [i] => some (ρ.set i (some d))
    | _ => none) else match d with
    | .tup ds => binds tg ds ρ
    | _ => none
/-- the items of a comprehension, one after another -/
def lcL (w : List (Nat × Ob)) (bd : D → Option Env) (c e : Env → Sto → Res) : List D → Sto → ResL
  | [], S => if wOk S w = true then .ok [] S else .st
  | x :: xs, S => if wOk S w = true then (match bd x with
    | none => .st
    | some ρ => (c ρ S).bindL fun b S1 => (match b with
      | .bl true => (e ρ S1).bindL fun d S2 => (match lcL w bd c e xs S2 with
        | .ok ds S3 => .ok (d :: ds) S3
        | r => r)
      | .bl false => lcL w bd c e xs S1
      | _ => .st)) else .st
/-- a dict's: the pairs are put one by one -/
def dcL (w : List (Nat × Ob)) (bd : D → Option Env) (c k v : Env → Sto → Res) : List D → List (D × D) → Sto → (Option (List (D × D) × Sto))
  | [], acc, S => if wOk S w = true then some (acc, S) else none
  | x :: xs, acc, S => if wOk S w = true then (match bd x with
    | none => none
    | some ρ => (match c ρ S with
      | .ok (.bl true) S1 => (match k ρ S1 with
        | .ok dk S2 => (match v ρ S2 with
          | .ok dv S3 => if keyOk dk = true then dcL w bd c k v xs (put acc dk dv) S3 else none
          | _ => none)
        | _ => none)
      | .ok (.bl false) S1 => dcL w bd c k v xs acc S1
      | _ => none)) else none
/-- no error leaves a comprehension here -/
def ResL.nox : ResL → (List D → Sto → Res) → Res
  | .ok d S, f => f d S
  | _, _ => .st
def rngL (lo : Int) : Nat → List D
  | 0 => []
  | n + 1 => .int lo :: rngL (lo + 1) n
def rngS (lo c : Int) : Nat → List D
  | 0 => []
  | n + 1 => .int lo :: rngS (lo + c) c n
/-- list(range(n)) -/
def lrgop : D → Sto → Res
  | .int n, S => if -4611686018427387904 ≤ n ∧ n ≤ 16777216 then alloc (.lst (rngL 0 n.toNat)) S else .st
  | _, _ => .st
/-- how many turns range(i, j, c) has -/
def rngN (i j c : Int) : Nat := if 0 < c then ((j - i + c - 1) / c).toNat else if c < 0 then ((i - j + -c - 1) / -c).toNat else 0
def enmL (i : Int) : List D → List D
  | [] => []
  | x :: xs => .tup [.int i, x] :: enmL (i + 1) xs
def zipL : List D → List D → List D
  | x :: xs, y :: ys => .tup [x, y] :: zipL xs ys
  | _, _ => []
def zip3L : List D → List D → List D → List D
  | x :: xs, y :: ys, z :: zs => .tup [x, y, z] :: zip3L xs ys zs
  | _, _, _ => []
/-- what is walked, of a value: its items, what must stay -/
def walkOf : D → Sto → Option (List D × List (Nat × Ob))
  | .tup xs, _ => some (xs, [])
  | .str s, _ => some (s.map fun c => .str [c], [])
  | .ref k, S => (match S[k]? with
    | some (.lst xs) => some (xs, [(k, .lst xs)])
    | _ => none)
  | _, _ => none
/-- .. of a list or a tuple alone -/
def seqWalk : D → Sto → Option (List D × List (Nat × Ob))
  | .tup xs, _ => some (xs, [])
  | .ref k, S => (match S[k]? with
    | some (.lst xs) => some (xs, [(k, .lst xs)])
    | _ => none)
  | _, _ => none
def D.isTup : D → Bool
  | .tup _ => true
  | _ => false
def Res.walk (g : D → Sto → Option (List D × List (Nat × Ob))) : Res → (D → List D → List (Nat × Ob) → Sto → ResI) → ResI
  | .ok d S, f => (match g d S with
    | some (xs, w) => f d xs w S
    | none => .st)
  | .ex x S, _ => .ex x S
  | .st, _ => .st
def Res.rng : Res → (Int → Sto → ResI) → ResI
  | .ok (.int i) S, f => if -4611686018427387904 ≤ i ∧ i < 4611686018427387904 then f i S else .st
  | .ex x S, _ => .ex x S
  | _, _ => .st
/-- a list that was just made: walked without a place in the store -/
def freshOf (S : Sto) : Res → ResI
  | .ok (.ref k) S1 => (match S1[k]? with
    | some (.lst xs) => if S.length ≤ k ∧ S1.take S.length = S ∧ D.unds S.length xs = true then .ok xs [] S else .ok xs [(k, .lst xs)] S1
    | _ => .st)
  | .ok (.tup xs) S1 => .ok xs [] S1
  | .ex x S1 => .ex x S1
  | _ => .st

/-- a slice's bound: left out, or an int -/
def bnd (b : Bool) (d : D) : Option (Option Int) := if b = true then some none else (match d with
  | .int i => some (some i)
  | _ => none)
def sliK : Option (Option Int) → Option (Option Int) → D → Sto → Res
  | some l, some h, x, S => sliop x l h S
  | _, _, _, _ => .st
def E.isNon : E → Bool
  | .cst .non => true
  | _ => false
def E.isYes : E → Bool
  | .cst (.bl true) => true
  | _ => false
def lcK (own : List Nat) (one : Bool) (tg : List Nat) (ρ : Env) (c e : Env → Sto → Res) : ResI → Res
  | .ok xs w S1 => if xs.length ≤ line then (lcL w (fun d => bindTg one tg d (kill own ρ)) c e xs S1).nox fun ds S2 => alloc (.lst ds) S2 else .st
  | .ex x S1 => .ex x S1
  | .st => .st
def dcK (own : List Nat) (one : Bool) (tg : List Nat) (ρ : Env) (c k v : Env → Sto → Res) : ResI → Res
  | .ok xs w S1 => if xs.length ≤ line then (match dcL w (fun d => bindTg one tg d (kill own ρ)) c k v xs [] S1 with
      | some (kvs, S2) => alloc (.dic kvs) S2
      | none => .st) else .st
  | .ex x S1 => .ex x S1
  | .st => .st

mutual
def evE (C : Cf) : E → Env → Sto → Res
  | .var i, ρ, S => (match ρ[i]? with
    | some (some d) => .ok d S
    | _ => .st)
  | .glo g, _, S => (match C.gl[g]? with
    | some d => .ok d S
    | none => .st)
  | .cst d, _, S => .ok d S
  | .tup es, ρ, S => (evEs C es ρ S).bind fun ds S1 => if ds.length ≤ line then .ok (.tup ds) S1 else .st
  | .lst es, ρ, S => (evEs C es ρ S).bind fun ds S1 => if ds.length ≤ line then alloc (.lst ds) S1 else .st
  | .dic es, ρ, S => (evEs C es ρ S).bind fun ds S1 => (match ds with
    | [] => alloc (.dic []) S1
    | _ => .st)
  | .bin o a b, ρ, S => (evE C a ρ S).bind fun x S1 => (evE C b ρ S1).bind fun y S2 => binop o x y S2
  | .neg a, ρ, S => (evE C a ρ S).bind fun x S1 => (match x with
    | .int i => .ok (.int (-i)) S1
    | _ => .st)
  | .not a, ρ, S => (evE C a ρ S).bind fun x S1 => (match x with
    | .bl b => .ok (.bl (!b)) S1
    | _ => .st)
  | .and es, ρ, S => evAnd C es ρ S
  | .or es, ρ, S => evOr C es ρ S
  | .cmp o a b, ρ, S => (evE C a ρ S).bind fun x S1 => (evE C b ρ S1).bind fun y S2 => cmpop o x y S2
  | .isc o a, ρ, S => (evE C a ρ S).bind fun x S1 => (match isop o x with
    | some b => .ok (.bl b) S1
    | none => .st)
  | .chn o p a b c, ρ, S => (evE C a ρ S).bind fun x S1 => (evE C b ρ S1).bind fun y S2 => (cmpop o x y S2).bind fun z S3 => (match z with
    | .bl true => (evE C c ρ S3).bind fun u S4 => cmpop p y u S4
    | .bl false => .ok (.bl false) S3
    | _ => .st)
  | .ite c a b, ρ, S => (evE C c ρ S).bind fun x S1 => (match x with
    | .bl true => evE C a ρ S1
    | .bl false => evE C b ρ S1
    | _ => .st)
  | .idx a i, ρ, S => (evE C a ρ S).bind fun x S1 => (evE C i ρ S1).bind fun y S2 => idxop x y S2
  | .sli a lo hi, ρ, S => (evE C a ρ S).bind fun x S1 => (evE C lo ρ S1).bind fun l S2 => (evE C hi ρ S2).bind fun h S3 => sliK (bnd lo.isNon l) (bnd hi.isNon h) x S3
  | .rev a, ρ, S => (evE C a ρ S).bind fun x S1 => revop x S1
  | .lrg a, ρ, S => (evE C a ρ S).bind fun x S1 => lrgop x S1
  | .cdx kvs i, ρ, S => (evE C i ρ S).bind fun x S1 => cdxop kvs x S1
  | .call f es, ρ, S => (evEs C es ρ S).bind fun ds S1 => C.cl f ds S1
  | .blt b es, ρ, S => (evEs C es ρ S).bind fun ds S1 => bltop b ds S1
  | .mth m o es, ρ, S => (evE C o ρ S).bind fun x S1 => if mtOk S1 m x = true then (evEs C es ρ S1).bind fun ds S2 => mthop C.n0 m x ds S2 else .st
  | .lc own one tg it c e, ρ, S => lcK own one tg ρ (fun ρ S => evE C c ρ S) (fun ρ S => evE C e ρ S) (evIt C it ρ S)
  | .dc own one tg it c k v, ρ, S => dcK own one tg ρ (fun ρ S => evE C c ρ S) (fun ρ S => evE C k ρ S) (fun ρ S => evE C v ρ S) (evIt C it ρ S)
  | .tdy e, ρ, S => (evE C e ρ S).bind fun d S1 => tidy S d S1
def evEs (C : Cf) : Es → Env → Sto → ResL
  | .nil, _, S => .ok [] S
  | .cons e es, ρ, S => (evE C e ρ S).bindL fun d S1 => (evEs C es ρ S1).bindL fun ds S2 => .ok (d :: ds) S2
def evAnd (C : Cf) : Es → Env → Sto → Res
  | .nil, _, _ => .st
  | .cons e es, ρ, S => (evE C e ρ S).bind fun d S1 => (match es with
    | .nil => .ok d S1
    | .cons _ _ => (match d with
      | .bl true => evAnd C es ρ S1
      | .bl false => .ok (.bl false) S1
      | _ => .st))
def evOr (C : Cf) : Es → Env → Sto → Res
  | .nil, _, _ => .st
  | .cons e es, ρ, S => (evE C e ρ S).bind fun d S1 => (match es with
    | .nil => .ok d S1
    | .cons _ _ => (match d with
      | .bl false => evOr C es ρ S1
      | .bl true => .ok (.bl true) S1
      | _ => .st))
def evIt (C : Cf) : It → Env → Sto → ResI
  | .seq e, ρ, S => (evE C e ρ S).walk walkOf fun _ xs w S1 => .ok xs w S1
  | .fsh e, ρ, S => freshOf S (evE C e ρ S)
  | .rng1 a, ρ, S => (evE C a ρ S).rng fun i S1 => .ok (rngL 0 i.toNat) [] S1
  | .rng2 a b, ρ, S => (evE C a ρ S).rng fun i S1 => (evE C b ρ S1).rng fun j S2 => .ok (rngL i (j - i).toNat) [] S2
  | .rng3 a b c, ρ, S => (evE C a ρ S).rng fun i S1 => (evE C b ρ S1).rng fun j S2 => (evE C c ρ S2).rng fun k S3 => if k ≠ 0 ∧ k.natAbs < 1073741824 then .ok (rngS i k (rngN i j k)) [] S3 else .st
  | .enm e, ρ, S => (evE C e ρ S).walk seqWalk fun _ xs w S1 => .ok (enmL 0 xs) w S1
  | .zip a b, ρ, S => (evE C a ρ S).walk seqWalk fun d xs w S1 => (evE C b ρ S1).walk seqWalk fun e ys u S2 => if d.isTup = e.isTup ∧ wOk S2 w = true then .ok (zipL xs ys) (w ++ u) S2 else .st
  | .zip3 _ _ _, _, _ => .st
  | .rvd e, ρ, S => (evE C e ρ S).walk seqWalk fun _ xs w S1 => .ok xs.reverse w S1
  | .itm _, _, _ => .st
end
def Res.thn : Res → Env → (D → Sto → Fl) → Fl
  | .ok d S, _, f => f d S
  | .ex x S, ρ, _ => .ex x ρ S
  | .st, _, _ => .st
def forL (w : List (Nat × Ob)) (bd : D → Env → Option Env) (ks : List Nat) (body : Env → Sto → Fl) : List D → Env → Sto → Fl
  | [], ρ, S => if wOk S w = true then .nx (kill ks ρ) S else .st
  | x :: xs, ρ, S => if wOk S w = true then (match bd x (kill ks ρ) with
    | none => .st
    | some ρ1 => (match body ρ1 S with
      | .nx ρ2 S2 => forL w bd ks body xs ρ2 S2
      | .ct ρ2 S2 => forL w bd ks body xs ρ2 S2
      | .bk ρ2 S2 => .nx (kill ks ρ2) S2
      | r => r)) else .st
def whlL (c : Env → Sto → Res) (ks : List Nat) (body : Env → Sto → Fl) : Nat → Env → Sto → Fl
  | 0, _, _ => .st
  | n + 1, ρ, S => (c (kill ks ρ) S).thn (kill ks ρ) fun b S1 => (match b with
    | .bl true => (match body (kill ks ρ) S1 with
      | .nx ρ2 S2 => whlL c ks body n ρ2 S2
      | .ct ρ2 S2 => whlL c ks body n ρ2 S2
      | .bk ρ2 S2 => .nx (kill ks ρ2) S2
      | r => r)
    | .bl false => .nx (kill ks ρ) S1
    | _ => .st)
mutual
def evS (C : Cf) : St → Env → Sto → Fl
  | .asg i e, ρ, S => (evE C e ρ S).thn ρ fun d S1 => .nx (ρ.set i (some d)) S1
  | .asgs is e, ρ, S => (evE C e ρ S).thn ρ fun d S1 => (match bindTg false is d ρ with
    | some ρ1 => .nx ρ1 S1
    | none => .st)
  | .sub o i e, ρ, S => (evE C e ρ S).thn ρ fun v S1 => (evE C o ρ S1).thn ρ fun x S2 => (evE C i ρ S2).thn ρ fun y S3 => (match setop C.n0 x y v S3 with
    | some S4 => .nx ρ S4
    | none => .st)
  | .exp e, ρ, S => (evE C e ρ S).thn ρ fun _ S1 => .nx ρ S1
  | .ret e, ρ, S => (evE C e ρ S).thn ρ fun d S1 => .rt d S1
  | .retN, _, S => .rt .non S
  | .ite c a b, ρ, S => (evE C c ρ S).thn ρ fun d S1 => (match d with
    | .bl true => evSs C a ρ S1
    | .bl false => evSs C b ρ S1
    | _ => .st)
  | .for_ one tg it ks body, ρ, S => (match evIt C it ρ S with
    | .ok xs w S1 => forL w (fun d ρ => bindTg one tg d ρ) ks (fun ρ S => evSs C body ρ S) xs ρ S1
    | .ex x S1 => .ex x ρ S1
    | .st => .st)
  | .whl c ks body, ρ, S => whlL (fun ρ S => evE C c ρ S) ks (fun ρ S => evSs C body ρ S) C.W ρ S
  | .brk, ρ, S => .bk ρ S
  | .cnt, ρ, S => .ct ρ S
  | .pss, ρ, S => .nx ρ S
  | .nev, _, _ => .st
  | .rai c none, ρ, S => .ex ⟨c, .non⟩ ρ S
  | .rai c (some e), ρ, S => (evE C e ρ S).thn ρ fun d S1 => .ex ⟨c, d⟩ ρ S1
  | .try_ body cls as h, ρ, S => (match evSs C body ρ S with
    | .ex x ρ1 S1 => if cls.contains x.cls = true then (match as with
        | none => evSs C h ρ1 S1
        | some i => (match evSs C h (ρ1.set i (some (.exc x.cls x.arg))) S1 with
          | .nx ρ2 S2 => .nx (ρ2.set i none) S2
          | .bk ρ2 S2 => .bk (ρ2.set i none) S2
          | .ct ρ2 S2 => .ct (ρ2.set i none) S2
          | r => r)) else .ex x ρ1 S1
    | r => r)
def evSs (C : Cf) : Ss → Env → Sto → Fl
  | .nil, ρ, S => .nx ρ S
  | .cons s r, ρ, S => (match evS C s ρ S with
    | .nx ρ1 S1 => evSs C r ρ1 S1
    | q => q)
end
structure Fn where
  ar : Nat
  sl : Nat
  body : Ss
def callN (p : List Fn) (gl : List D) (W : Nat) : Nat → Nat → List D → Sto → Res
  | 0, _, _, _ => .st
  | n + 1, f, args, S => (match p[f]? with
    | none => .st
    | some fn => if args.length = fn.ar then (match evSs ⟨callN p gl W n, gl, S.length, W⟩ fn.body (args.map some ++ List.replicate (fn.sl - fn.ar) none) S with
      | .nx _ S1 => trim S.length .non S1
      | .rt d S1 => trim S.length d S1
      | .ex x _ S1 => if x.arg.und S.length = true then .ex x (S1.take S.length) else .st
      | _ => .st) else .st)
end Ev

set_option Elab.async false
set_option linter.all false
set_option autoImplicit false
set_option maxRecDepth 100000
set_option maxHeartbeats 4000000
/-! Ev2: what the evaluator's values and stores are in the model: the relation. -/
namespace Ev
open PySem PySem.Spec PyProof.Rows L2

abbrev Mp := Nat → Addr
/-- a list that nobody writes -/
def FzL (K : PySem.W.Frag) (H : Hp) (a : Addr) (xs : List V) : Prop :=
  (∃ o, H a = some (.frz o (.lst xs))) ∨ ∀ H', SqL K H' a xs
theorem FzL.sq {K : PySem.W.Frag} {H : Hp} {a : Addr} {xs : List V} (h : FzL K H a xs) : SqL K H a xs := by
  rcases h with ⟨o, h⟩ | h
  · exact .inl (.inr ⟨o, h⟩)
  · exact h H

mutual
def RD (K : PySem.W.Frag) (H : Hp) (M : Mp) : D → V → Prop
  | .non, v => v = .non
  | .bl b, v => v = .bl b
  | .int i, v => v = .int i
  | .str s, v => v = .str ⟨s.toArray⟩
  | .tup ds, v => ∃ a vs, v = .ref a ∧ SqT K H a vs ∧ RDs K H M ds vs
  | .ref k, v => v = .ref (M k)
  | .frl ds, v => ∃ a vs, v = .ref a ∧ FzL K H a vs ∧ RDs K H M ds vs
  | .exc _ _, _ => False
def RDs (K : PySem.W.Frag) (H : Hp) (M : Mp) : List D → List V → Prop
  | [], vs => vs = []
  | d :: ds, vs => ∃ v r, vs = v :: r ∧ RD K H M d v ∧ RDs K H M ds r
end

/-- a thing of the store at its address -/
def ObR (K : PySem.W.Frag) (H : Hp) (M : Mp) (k : Nat) : Ob → Prop
  | .lst ds => ∃ vs, H (M k) = some (.lst vs) ∧ RDs K H M ds vs
  | .dic _ => False

structure RelS (K : PySem.W.Frag) (H : Hp) (M : Mp) (S : Sto) : Prop where
  ob : ∀ (k : Nat) (o : Ob), S[k]? = some o → ObR K H M k o
  und : ∀ (k : Nat) (o : Ob), S[k]? = some o → D.unds S.length o.els = true
  inj : ∀ (j k : Nat), j < S.length → k < S.length → M j = M k → j = k

/-- the slots -/
structure REnv (K : PySem.W.Frag) (H : Hp) (M : Mp) (n : Nat) (ρ : Env) (σ : L2.St) : Prop where
  len : σ.length = ρ.length
  val : ∀ (i : Nat) (d : D), ρ[i]? = some (some d) → d.und n = true ∧ ∃ v, σ[i]? = some (some v) ∧ RD K H M d v

/-- from one state to a later one; below n0 only values without refs are written -/
structure Step (n0 : Nat) (H : Hp) (M : Mp) (S : Sto) (H' : Hp) (M' : Mp) (S' : Sto) : Prop where
  le : S.length ≤ S'.length
  agree : ∀ k : Nat, k < S.length → M' k = M k
  fresh : ∀ k : Nat, S.length ≤ k → k < S'.length → H (M' k) = none
  frame : ∀ b o, H b = some o → (∀ k : Nat, k < S.length → M k ≠ b) → H' b = some o
  keep : ∀ (i : Nat), i < n0 → ∀ o' : Ob, S'[i]? = some o' → ∃ o : Ob, S[i]? = some o ∧ ∀ d ∈ o'.els, d.pure = true ∨ d ∈ o.els

section
variable {K : PySem.W.Frag} {H H1 H2 : Hp} {M M1 M2 : Mp} {S S1 S2 : Sto} {n0 : Nat}
theorem RelS.isObj (R : RelS K H M S) {k : Nat} (h : k < S.length) : ∃ o, H (M k) = some o ∧ (∀ xs, o ≠ .tup xs) ∧ ∀ q u, o ≠ .frz q u := by
  have e : S[k]? = some S[k] := List.getElem?_eq_getElem h
  have q := R.ob k _ e
  cases h2 : S[k] with
  | lst ds =>
    rw [h2] at q
    obtain ⟨vs, h3, _⟩ := q
    exact ⟨_, h3, (fun _ z => by cases z), fun _ _ z => by cases z⟩
  | dic kvs =>
    rw [h2] at q
    exact False.elim q
theorem Step.refl : Step n0 H M S H M S := ⟨Nat.le_refl _, fun _ _ => rfl, fun k h1 h2 => absurd h1 (by omega), fun _ _ h _ => h, fun i _ o h => ⟨o, h, fun _ hd => .inr hd⟩⟩
theorem Step.trans (R1 : RelS K H1 M1 S1) (a : Step n0 H M S H1 M1 S1) (b : Step n0 H1 M1 S1 H2 M2 S2) : Step n0 H M S H2 M2 S2 := by
  refine ⟨Nat.le_trans a.le b.le, fun k h => (b.agree k (Nat.lt_of_lt_of_le h a.le)).trans (a.agree k h), fun k h1 h2 => ?_, fun c o h hn => ?_, fun i hi o' h => ?_⟩
  · by_cases hk : k < S1.length
    · rw [b.agree k hk]
      exact a.fresh k h1 hk
    · have q := b.fresh k (by omega) h2
      cases e : H (M2 k) with
      | none => rfl
      | some o =>
        by_cases hr : ∀ j, j < S.length → M j ≠ M2 k
        · rw [a.frame _ _ e hr] at q
          cases q
        · have hr2 : ∃ j, j < S.length ∧ M j = M2 k := by
            by_cases z : ∃ j, j < S.length ∧ M j = M2 k
            · exact z
            · exact absurd (fun j hj e => z ⟨j, hj, e⟩) hr
          obtain ⟨j, hj, ej⟩ := hr2
          obtain ⟨o2, h3, _⟩ := R1.isObj (Nat.lt_of_lt_of_le hj a.le)
          rw [a.agree j hj, ej, q] at h3
          cases h3
  · refine b.frame c o (a.frame c o h hn) fun k hk => ?_
    by_cases hk2 : k < S.length
    · rw [a.agree k hk2]
      exact hn k hk2
    · intro e
      rw [← e, a.fresh k (by omega) hk] at h
      cases h
  · obtain ⟨o1, h1, q1⟩ := b.keep i hi o' h
    obtain ⟨o, h2, q2⟩ := a.keep i hi o1 h1
    exact ⟨o, h2, fun d hd => (q1 d hd).elim .inl fun z => q2 d z⟩

theorem unds_mem {n : Nat} : ∀ {ds : List D}, D.unds n ds = true → ∀ d ∈ ds, d.und n = true
  | [], _, d, hd => by cases hd
  | x :: xs, h, d, hd => by
    simp only [D.unds, Bool.and_eq_true] at h
    rcases List.mem_cons.mp hd with rfl | hd
    · exact h.1
    · exact unds_mem h.2 d hd
theorem unds_of {n : Nat} : ∀ {ds : List D}, (∀ d ∈ ds, d.und n = true) → D.unds n ds = true
  | [], _ => by simp [D.unds]
  | x :: xs, h => by
    simp only [D.unds, Bool.and_eq_true]
    exact ⟨h x List.mem_cons_self, unds_of fun d hd => h d (List.mem_cons_of_mem _ hd)⟩
mutual
theorem und_mono {n m : Nat} (h : n ≤ m) : ∀ d : D, d.und n = true → d.und m = true
  | .non, _ => by simp [D.und]
  | .bl _, _ => by simp [D.und]
  | .int _, _ => by simp [D.und]
  | .str _, _ => by simp [D.und]
  | .ref k, q => by
    simp only [D.und, decide_eq_true_eq] at q ⊢
    omega
  | .tup xs, q => by
    simp only [D.und] at q ⊢
    exact unds_mono h xs q
  | .frl xs, q => by
    simp only [D.und] at q ⊢
    exact unds_mono h xs q
  | .exc _ d, q => by
    simp only [D.und] at q ⊢
    exact und_mono h d q
theorem unds_mono {n m : Nat} (h : n ≤ m) : ∀ ds : List D, D.unds n ds = true → D.unds m ds = true
  | [], _ => by simp [D.unds]
  | x :: xs, q => by
    simp only [D.unds, Bool.and_eq_true] at q ⊢
    exact ⟨und_mono h x q.1, unds_mono h xs q.2⟩
end
theorem pure_und {d : D} {n : Nat} (h : d.pure = true) : d.und n = true := und_mono (Nat.zero_le _) d h

theorem Step.tup (R : RelS K H M S) (s : Step n0 H M S H1 M1 S1) {a : Addr} {vs : List V} (h : SqT K H a vs) : SqT K H1 a vs := by
  have nr : ∀ o, H a = some o → ((∃ xs, o = .tup xs) ∨ ∃ q u, o = .frz q u) → ∀ k, k < S.length → M k ≠ a := by
    intro o ho hd k hk e
    obtain ⟨o2, h1, h2, h3⟩ := R.isObj hk
    rw [e, ho] at h1
    cases h1
    rcases hd with ⟨xs, rfl⟩ | ⟨q, u, rfl⟩
    · exact h2 _ rfl
    · exact h3 _ _ rfl
  rcases h with (h | ⟨o, h⟩) | h
  · exact .inl (.inl (s.frame _ _ h (nr _ h (.inl ⟨_, rfl⟩))))
  · exact .inl (.inr ⟨o, s.frame _ _ h (nr _ h (.inr ⟨_, _, rfl⟩))⟩)
  · exact .inr h

theorem Step.fz (R : RelS K H M S) (s : Step n0 H M S H1 M1 S1) {a : Addr} {vs : List V} (h : FzL K H a vs) : FzL K H1 a vs := by
  rcases h with ⟨o, h⟩ | h
  · refine .inl ⟨o, s.frame _ _ h fun k hk e => ?_⟩
    obtain ⟨o2, h1, _, h3⟩ := R.isObj hk
    rw [e, h] at h1
    cases h1
    exact h3 _ _ rfl
  · exact .inr h
mutual
theorem RD.step (R : RelS K H M S) (s : Step n0 H M S H1 M1 S1) : ∀ (d : D) (v : V), d.und S.length = true → RD K H M d v → RD K H1 M1 d v
  | .non, v, _, h => by simpa [RD] using h
  | .bl _, v, _, h => by simpa [RD] using h
  | .int _, v, _, h => by simpa [RD] using h
  | .str _, v, _, h => by simpa [RD] using h
  | .exc _ _, v, _, h => by simp [RD] at h
  | .ref k, v, hu, h => by
    simp only [D.und, decide_eq_true_eq] at hu
    simp only [RD] at h ⊢
    rw [h, s.agree k hu]
  | .tup ds, v, hu, h => by
    simp only [D.und] at hu
    simp only [RD] at h ⊢
    obtain ⟨a, vs, e, hs, h⟩ := h
    exact ⟨a, vs, e, s.tup R hs, RDs.step R s ds vs hu h⟩
  | .frl ds, v, hu, h => by
    simp only [D.und] at hu
    simp only [RD] at h ⊢
    obtain ⟨a, vs, e, hs, h⟩ := h
    exact ⟨a, vs, e, s.fz R hs, RDs.step R s ds vs hu h⟩
theorem RDs.step (R : RelS K H M S) (s : Step n0 H M S H1 M1 S1) : ∀ (ds : List D) (vs : List V), D.unds S.length ds = true → RDs K H M ds vs → RDs K H1 M1 ds vs
  | [], vs, _, h => by simpa [RDs] using h
  | d :: ds, vs, hu, h => by
    simp only [D.unds, Bool.and_eq_true] at hu
    simp only [RDs] at h ⊢
    obtain ⟨v, r, e, h1, h2⟩ := h
    exact ⟨v, r, e, RD.step R s d v hu.1 h1, RDs.step R s ds r hu.2 h2⟩
end
theorem REnv.step {ρ : Env} {σ : L2.St} (R : RelS K H M S) (s : Step n0 H M S H1 M1 S1) (e : REnv K H M S.length ρ σ) : REnv K H1 M1 S1.length ρ σ :=
  ⟨e.len, fun i d h => by
    obtain ⟨h1, v, h2, h3⟩ := e.val i d h
    exact ⟨und_mono s.le d h1, v, h2, RD.step R s d v h1 h3⟩⟩

/-- what is wanted behind a value d at the store S' -/
def Post (K : PySem.W.Frag) (n0 : Nat) (H : Hp) (M : Mp) (S : Sto) (d : D) (S' : Sto) (Q : VK) : Prop :=
  ∀ v H' M', Step n0 H M S H' M' S' → RelS K H' M' S' → d.und S'.length = true → RD K H' M' d v → Q v H'
theorem Post.same {d : D} {v : V} {Q : VK} (h : Post K n0 H M S d S Q) (R : RelS K H M S) (hu : d.und S.length = true) (hd : RD K H M d v) : Q v H := h v H M .refl R hu hd

/-- something new that is no thing of the store -/
theorem Step.new (R : RelS K H M S) {p : Addr} {o : HO} (hp : H p = none) : Step n0 H M S (upd H p o) M S :=
  ⟨Nat.le_refl _, fun _ _ => rfl, fun k h1 h2 => absurd h1 (by omega), fun b u h _ => by rw [upd_ne (ne_of_none h hp)]; exact h, fun i _ o' h => ⟨o', h, fun _ hd => .inr hd⟩⟩
theorem ObR.step (R : RelS K H M S) (s : Step n0 H M S H1 M1 S1) {k : Nat} {o : Ob} (hk : S[k]? = some o) (h : H1 (M k) = H (M k)) : ObR K H1 M1 k o := by
  have hl : k < S.length := (List.getElem?_eq_some_iff.mp hk).1
  have q := R.ob k o hk
  have u := R.und k o hk
  cases o with
  | lst ds =>
    obtain ⟨vs, h1, h2⟩ := q
    exact ⟨vs, by rw [s.agree k hl, h]; exact h1, RDs.step R s ds vs u h2⟩
  | dic kvs => exact False.elim q
theorem RelS.tracked (R : RelS K H M S) {k : Nat} (h : k < S.length) {p : Addr} (hp : H p = none) : M k ≠ p := fun e => by
  obtain ⟨o, h1, _⟩ := R.isObj h
  rw [e, hp] at h1
  cases h1
theorem RelS.new (R : RelS K H M S) {p : Addr} {o : HO} (hp : H p = none) : RelS K (upd H p o) M S :=
  ⟨fun k u h => ObR.step R (Step.new (n0 := 0) R hp) h (upd_ne (R.tracked (List.getElem?_eq_some_iff.mp h).1 hp)), R.und, R.inj⟩
theorem Post.tup {ds : List D} {vs : List V} {Q : VK} (h : Post K n0 H M S (.tup ds) S Q) (R : RelS K H M S) (hu : D.unds S.length ds = true) (hd : RDs K H M ds vs) {p : Addr} (hp : H p = none) : Q (.ref p) (upd H p (.tup vs)) := by
  have s : Step n0 H M S (upd H p (.tup vs)) M S := Step.new R hp
  refine h _ _ M s (R.new hp) (by simpa [D.und] using hu) ?_
  simp only [RD]
  exact ⟨p, vs, rfl, .inl (.inl upd_same), RDs.step R s ds vs hu hd⟩

/-- a new thing of the store -/
def ext (M : Mp) (n : Nat) (p : Addr) : Mp := fun k => if k = n then p else M k
theorem ext_at {M : Mp} {n : Nat} {p : Addr} : ext M n p n = p := by simp [ext]
theorem ext_ne {M : Mp} {n k : Nat} {p : Addr} (h : k ≠ n) : ext M n p k = M k := by simp [ext, h]
theorem Step.add (R : RelS K H M S) {p : Addr} {o : HO} {u : Ob} (hp : H p = none) (hn : n0 ≤ S.length) : Step n0 H M S (upd H p o) (ext M S.length p) (S ++ [u]) :=
  ⟨by simp, fun k h => ext_ne (by omega), fun k h1 h2 => by
    have e : k = S.length := by
      simp at h2
      omega
    rw [e, ext_at]
    exact hp, fun b q h _ => by rw [upd_ne (ne_of_none h hp)]; exact h, fun i hi o' h => ⟨o', by rw [List.getElem?_append_left (by omega)] at h; exact h, fun _ hd => .inr hd⟩⟩
theorem Post.lst {ds : List D} {vs : List V} {Q : VK} (h : Post K n0 H M S (.ref S.length) (S ++ [.lst ds]) Q) (R : RelS K H M S) (hn : n0 ≤ S.length) (hu : D.unds S.length ds = true) (hd : RDs K H M ds vs) {p : Addr} (hp : H p = none) : Q (.ref p) (upd H p (.lst vs)) := by
  have s : Step n0 H M S (upd H p (.lst vs)) (ext M S.length p) (S ++ [.lst ds]) := Step.add R hp hn
  refine h _ _ _ s ⟨fun k o hk => ?_, fun k o hk => ?_, fun j k hj hk e => ?_⟩ (by simp [D.und]) ?_
  · by_cases hl : k < S.length
    · rw [List.getElem?_append_left hl] at hk
      exact ObR.step R s hk (upd_ne (R.tracked hl hp))
    · have hk2 : k < (S ++ [Ob.lst ds]).length := (List.getElem?_eq_some_iff.mp hk).1
      have e : k = S.length := by
        simp at hk2
        omega
      subst e
      simp at hk
      subst hk
      exact ⟨vs, by rw [ext_at]; exact upd_same, RDs.step R s ds vs hu hd⟩
  · by_cases hl : k < S.length
    · rw [List.getElem?_append_left hl] at hk
      exact unds_mono s.le _ (R.und k o hk)
    · have hk2 : k < (S ++ [Ob.lst ds]).length := (List.getElem?_eq_some_iff.mp hk).1
      have e : k = S.length := by
        simp at hk2
        omega
      subst e
      simp at hk
      subst hk
      exact unds_mono s.le _ hu
  · simp at hj hk
    by_cases h1 : j = S.length
    · by_cases h2 : k = S.length
      · omega
      · rw [h1, ext_at, ext_ne h2] at e
        exact absurd e.symm (R.tracked (by omega) hp)
    · by_cases h2 : k = S.length
      · rw [h2, ext_at, ext_ne h1] at e
        exact absurd e (R.tracked (by omega) hp)
      · rw [ext_ne h1, ext_ne h2] at e
        exact R.inj j k (by omega) (by omega) e
  · simp only [RD]
    rw [ext_at]

/-- a list of the store is written -/
theorem Step.put (R : RelS K H M S) {k : Nat} {o : HO} {u v : Ob} (hk : S[k]? = some v) (hs : k < n0 → ∀ d ∈ u.els, d.pure = true ∨ d ∈ v.els) : Step n0 H M S (upd H (M k) o) M (S.set k u) :=
  ⟨by simp, fun _ _ => rfl, fun j h1 h2 => absurd h1 (by simp at h2; omega), fun b q h hb => by rw [upd_ne (Ne.symm (hb k (List.getElem?_eq_some_iff.mp hk).1))]; exact h, fun i hi o' h => by
    by_cases e : i = k
    · subst e
      have hl := (List.getElem?_eq_some_iff.mp hk).1
      rw [List.getElem?_set_self hl] at h
      cases h
      exact ⟨v, hk, hs hi⟩
    · rw [List.getElem?_set_ne (Ne.symm e)] at h
      exact ⟨o', h, fun _ hd => .inr hd⟩⟩
theorem RelS.put (R : RelS K H M S) {k : Nat} {ds ds0 : List D} {vs : List V} (hk : S[k]? = some (.lst ds0)) (hu : D.unds S.length ds = true) (hd : RDs K H M ds vs) : RelS K (upd H (M k) (.lst vs)) M (S.set k (.lst ds)) := by
  have hl : k < S.length := (List.getElem?_eq_some_iff.mp hk).1
  have s : Step 0 H M S (upd H (M k) (.lst vs)) M (S.set k (.lst ds)) := Step.put R hk fun z => absurd z (by omega)
  refine ⟨fun j o hj => ?_, fun j o hj => ?_, fun i j hi hj e => R.inj i j (by simpa using hi) (by simpa using hj) e⟩
  · by_cases e : j = k
    · subst e
      rw [List.getElem?_set_self hl] at hj
      cases hj
      exact ⟨vs, upd_same, RDs.step R s ds vs hu hd⟩
    · rw [List.getElem?_set_ne (Ne.symm e)] at hj
      exact ObR.step R s hj (upd_ne fun q => e (R.inj j k (List.getElem?_eq_some_iff.mp hj).1 hl q))
  · rw [List.length_set]
    by_cases e : j = k
    · subst e
      rw [List.getElem?_set_self hl] at hj
      cases hj
      exact hu
    · rw [List.getElem?_set_ne (Ne.symm e)] at hj
      exact R.und j o hj
theorem Post.put {k : Nat} {ds ds0 : List D} {vs : List V} {d : D} {v : V} {Q : VK} (h : Post K n0 H M S d (S.set k (.lst ds)) Q) (R : RelS K H M S) (hk : S[k]? = some (.lst ds0)) (hs : k < n0 → ∀ d ∈ ds, d.pure = true ∨ d ∈ ds0)
    (hu : D.unds S.length ds = true) (hd : RDs K H M ds vs) (hv : RD K H M d v) (hdu : d.und S.length = true) : Q v (upd H (M k) (.lst vs)) := by
  have s : Step n0 H M S (upd H (M k) (.lst vs)) M (S.set k (.lst ds)) := Step.put R hk hs
  exact h v _ M s (R.put hk hu hd) (by simpa using hdu) (RD.step R s d v hdu hv)

/-! ### lists of values -/
theorem RDs.len : ∀ {ds : List D} {vs : List V}, RDs K H M ds vs → vs.length = ds.length
  | [], vs, h => by
    simp only [RDs] at h
    rw [h]; rfl
  | d :: ds, vs, h => by
    simp only [RDs] at h
    obtain ⟨v, r, e, _, h2⟩ := h
    rw [e, List.length_cons, List.length_cons, RDs.len h2]
theorem RDs.get : ∀ {ds : List D} {vs : List V} {i : Nat} {d : D}, RDs K H M ds vs → ds[i]? = some d → ∃ v, vs[i]? = some v ∧ RD K H M d v
  | [], vs, i, d, h, e => by simp at e
  | x :: ds, vs, 0, d, h, e => by
    simp only [RDs] at h
    obtain ⟨v, r, ev, h1, h2⟩ := h
    simp at e
    subst e ev
    exact ⟨v, by simp, h1⟩
  | x :: ds, vs, i + 1, d, h, e => by
    simp only [RDs] at h
    obtain ⟨v, r, ev, h1, h2⟩ := h
    obtain ⟨w, h3, h4⟩ := RDs.get h2 (by simpa using e)
    exact ⟨w, by rw [ev]; simpa using h3, h4⟩
theorem RDs.app : ∀ {ds es : List D} {vs ws : List V}, RDs K H M ds vs → RDs K H M es ws → RDs K H M (ds ++ es) (vs ++ ws)
  | [], es, vs, ws, h, g => by
    simp only [RDs] at h
    rw [h]
    exact g
  | d :: ds, es, vs, ws, h, g => by
    simp only [RDs] at h
    obtain ⟨v, r, e, h1, h2⟩ := h
    subst e
    simp only [List.cons_append, RDs]
    exact ⟨v, r ++ ws, rfl, h1, RDs.app h2 g⟩
theorem RDs.take : ∀ {ds : List D} {vs : List V} (n : Nat), RDs K H M ds vs → RDs K H M (ds.take n) (vs.take n)
  | ds, vs, 0, _ => by simp [RDs]
  | [], vs, n + 1, h => by
    simp only [RDs] at h
    rw [h]
    simp [RDs]
  | d :: ds, vs, n + 1, h => by
    simp only [RDs] at h
    obtain ⟨v, r, e, h1, h2⟩ := h
    subst e
    simp only [List.take_succ_cons, RDs]
    exact ⟨v, _, rfl, h1, RDs.take n h2⟩
theorem RDs.drop : ∀ {ds : List D} {vs : List V} (n : Nat), RDs K H M ds vs → RDs K H M (ds.drop n) (vs.drop n)
  | ds, vs, 0, h => by simpa using h
  | [], vs, n + 1, h => by
    simp only [RDs] at h
    rw [h]
    simp [RDs]
  | d :: ds, vs, n + 1, h => by
    simp only [RDs] at h
    obtain ⟨v, r, e, h1, h2⟩ := h
    subst e
    simp only [List.drop_succ_cons]
    exact RDs.drop n h2
theorem RDs.set : ∀ {ds : List D} {vs : List V} (n : Nat) {d : D} {v : V}, RDs K H M ds vs → RD K H M d v → RDs K H M (ds.set n d) (vs.set n v)
  | [], vs, n, d, v, h, _ => by
    simp only [RDs] at h
    rw [h]
    simp [RDs]
  | x :: ds, vs, 0, d, v, h, g => by
    simp only [RDs] at h
    obtain ⟨w, r, e, h1, h2⟩ := h
    subst e
    simp only [List.set_cons_zero, RDs]
    exact ⟨v, r, rfl, g, h2⟩
  | x :: ds, vs, n + 1, d, v, h, g => by
    simp only [RDs] at h
    obtain ⟨w, r, e, h1, h2⟩ := h
    subst e
    simp only [List.set_cons_succ, RDs]
    exact ⟨w, _, rfl, h1, RDs.set n h2 g⟩
theorem RDs.rev : ∀ {ds : List D} {vs : List V}, RDs K H M ds vs → RDs K H M ds.reverse vs.reverse
  | [], vs, h => by
    simp only [RDs] at h
    rw [h]
    simp [RDs]
  | d :: ds, vs, h => by
    simp only [RDs] at h
    obtain ⟨v, r, e, h1, h2⟩ := h
    subst e
    rw [List.reverse_cons, List.reverse_cons]
    refine RDs.app (RDs.rev h2) ?_
    simp only [RDs]
    exact ⟨v, [], rfl, h1, rfl⟩
theorem RDs.one {d : D} {v : V} (h : RD K H M d v) : RDs K H M [d] [v] := by
  simp only [RDs]
  exact ⟨v, [], rfl, h, rfl⟩
theorem RDs.rep {ds : List D} {vs : List V} (h : RDs K H M ds vs) : ∀ n : Nat, RDs K H M (dRep ds n) (dRep vs n)
  | 0 => by simp [dRep, RDs]
  | n + 1 => by
    unfold dRep
    rw [List.replicate_succ, List.replicate_succ, List.flatten_cons, List.flatten_cons]
    exact RDs.app h (RDs.rep h n)
theorem unds_app {n : Nat} {ds es : List D} (h : D.unds n ds = true) (g : D.unds n es = true) : D.unds n (ds ++ es) = true := unds_of fun d hd => (List.mem_append.mp hd).elim (unds_mem h d) (unds_mem g d)
theorem unds_sub {n : Nat} {ds es : List D} (h : D.unds n ds = true) (g : ∀ d ∈ es, d ∈ ds) : D.unds n es = true := unds_of fun d hd => unds_mem h d (g d hd)
theorem cut_eq (xs : List V) (lo hi : Option Int) : L2.cutV xs lo hi = cut xs lo hi := by
  have e : ∀ (n d : Nat) (o : Option Int), HT.sIx n d o = cutIx n d o := fun n d o => by
    cases o with
    | none => rfl
    | some v => rfl
  unfold L2.cutV cut
  rw [e, e]
theorem RDs.cut {ds : List D} {vs : List V} (h : RDs K H M ds vs) (lo hi : Option Int) : RDs K H M (Ev.cut ds lo hi) (Ev.cut vs lo hi) := by
  unfold Ev.cut
  rw [h.len]
  exact (h.drop _).take _
theorem mem_cut {α : Type} {xs : List α} {lo hi : Option Int} {x : α} (h : x ∈ Ev.cut xs lo hi) : x ∈ xs := List.mem_of_mem_drop (List.mem_of_mem_take h)
theorem pyAt_eq {α : Type} (xs : List α) (i : Int) : L2.atI xs i = pyAt xs i := rfl
end
end Ev

set_option Elab.async false
set_option linter.all false
set_option autoImplicit false
set_option maxRecDepth 100000
set_option maxHeartbeats 4000000
/-! Ev3: the evaluator's operators keep to the model. -/
namespace Ev
open PySem PySem.Spec PyProof.Rows L2

theorem mem_dRep {α : Type} {xs : List α} {n : Nat} {x : α} (h : x ∈ dRep xs n) : x ∈ xs := by
  unfold dRep at h
  obtain ⟨l, hl, hd⟩ := List.mem_flatten.mp h
  rw [List.eq_of_mem_replicate hl] at hd
  exact hd
/-- an operator by the evaluator's values -/
def rB (K : PySem.W.Frag) (f : D → D → Sto → Res) : R2 := fun x' y' H Q => ∃ x y S M n0 d S', n0 ≤ S.length ∧ RelS K H M S ∧ x.und S.length = true ∧ y.und S.length = true ∧ RD K H M x x' ∧ RD K H M y y' ∧ f x y S = .ok d S' ∧ Post K n0 H M S d S' Q
/-- a built-in -/
def rC (K : PySem.W.Frag) (f : List D → Sto → Res) : List V → Hp → VK → Prop := fun vs H Q => ∃ ds S M n0 d S', n0 ≤ S.length ∧ RelS K H M S ∧ D.unds S.length ds = true ∧ RDs K H M ds vs ∧ f ds S = .ok d S' ∧ Post K n0 H M S d S' Q
section
variable {X : Cx}
theorem sl_eq : sizeLine = line := sizeLine_eq
theorem floordiv_any : OpR X (binaryOp .FloorDiv) (rI (fun _ j => j ≠ 0 ∧ j.natAbs.log2 < 9000) fun i j => .int (i.fdiv j)) := opI fun _ _ _ _ _ _ _ hc q => floordiv_int hc.1 q (.inl (PyProof.noPylong_of_log2 hc.2))
theorem mulOk_ok {i j : Int} (h : mulOk i j = true) : IntMulOk i j := by
  simp only [mulOk, Bool.or_eq_true, decide_eq_true_eq] at h
  rcases h with (h | h) | h
  · exact CMul.ok (.inl ⟨by omega, by omega⟩)
  · exact CMul.ok (.inr ⟨by omega, by omega⟩)
  · exact CMulW.ok h
theorem op_mulD : OpR X (binaryOp .Mult) (rI (fun i j => mulOk i j = true) fun i j => .int (i * j)) := opI fun _ _ _ _ _ _ _ hc q => mul_int q (mulOk_ok hc)

def bopOf : Bop → Operator
  | .add => .Add | .sub => .Sub | .mul => .Mult | .fdiv => .FloorDiv | .mod => .Mod | .pow => .Pow

theorem st_ne {d : D} {S : Sto} {p : Prop} [Decidable p] {r : Res} (h : (if p then r else Res.st) = .ok d S) : p ∧ r = .ok d S := by
  by_cases q : p
  · rw [if_pos q] at h
    exact ⟨q, h⟩
  · rw [if_neg q] at h
    cases h
theorem ok_inj {d d' : D} {S S' : Sto} (h : Res.ok d S = .ok d' S') : d = d' ∧ S = S' := by
  cases h
  exact ⟨rfl, rfl⟩

theorem foldl_cps (l : List Nat) : ∀ (n : Nat) (acc : List Nat), (List.replicate n l.toArray).foldl (· ++ ·) acc.toArray = (acc ++ dRep l n).toArray
  | 0, acc => by simp [dRep]
  | n + 1, acc => by
    rw [List.replicate_succ, List.foldl_cons]
    have e : acc.toArray ++ l.toArray = (acc ++ l).toArray := by simp
    rw [e, foldl_cps l n (acc ++ l)]
    unfold dRep
    rw [List.replicate_succ, List.flatten_cons, List.append_assoc]
theorem txt_mul (l : List Nat) (n : Int) : Txt.mul ⟨l.toArray⟩ n = ⟨(dRep l n.toNat).toArray⟩ := by
  unfold Txt.mul
  by_cases h : n < 1
  · rw [if_pos h]
    have e : n.toNat = 0 := by omega
    rw [e]
    rfl
  · rw [if_neg h]
    by_cases h2 : (n == 1 || (⟨l.toArray⟩ : Str).length == 0) = true
    · rw [if_pos h2]
      rw [Bool.or_eq_true, beq_iff_eq, beq_iff_eq] at h2
      rcases h2 with h2 | h2
      · subst h2
        show _ = (⟨(dRep l 1).toArray⟩ : Str)
        simp [dRep]
      · have e : l = [] := List.eq_nil_of_length_eq_zero (by simpa [Str.length] using h2)
        subst e
        unfold dRep
        simp
    · rw [if_neg h2]
      have := foldl_cps l n.toNat []
      rw [List.nil_append] at this
      exact congrArg Str.mk this
theorem mulStr_ok {l : List Nat} {n : Int} (h : l.length * n.toNat ≤ line ∧ -9223372036854775808 ≤ n ∧ n < 9223372036854775808) : MulOk ⟨l.toArray⟩ n := by
  obtain ⟨h1, h2, h3⟩ := h
  have hline : line = 16777216 := rfl
  have hs : (⟨l.toArray⟩ : Str).length = l.length := by simp [Str.length]
  refine ⟨?_, fun h4 _ => ?_, fun _ _ => ?_⟩
  · rw [decide_eq_false (by omega), decide_eq_false (by omega)]
    rfl
  · rw [hs]
    have a : (l.length : Int) * n ≤ 16777216 := by
      have e : ((l.length * n.toNat : Nat) : Int) = (l.length : Int) * n := by
        rw [Int.natCast_mul, Int.toNat_of_nonneg (by omega)]
      omega
    have : ¬ ((l.length : Int) > (2 ^ 63 - 1) / n) := by
      intro q
      have q2 := Int.ediv_lt_of_lt_mul (a := 2 ^ 63 - 1) (b := (l.length : Int)) (c := n) (by omega)
      have q3 : (2 ^ 63 - 1 : Int) / n < l.length := q
      have q4 := Int.lt_mul_of_ediv_lt (by omega : (0 : Int) < n) q3
      omega
    exact this
  · rw [hs]
    show decide (l.length * n.toNat > sizeLine) = false
    rw [sl_eq]
    exact decide_eq_false (by omega)
theorem op_D (o : Bop) : OpR X (binaryOp (bopOf o)) (rB X.K (binop o)) := by
  intro pins s σ H x' y' v u Q I rx ry ⟨x, y, S, M, n0, d, S', hn, R, ux, uy, hx, hy, e, P⟩
  unfold binop at e
  split at e
  · -- int + int
    simp only [RD] at hx hy
    subst hx hy
    obtain ⟨rfl, rfl⟩ := ok_inj e
    exact op_add pins s σ H _ _ v u Q I rx ry ⟨_, _, rfl, rfl, P.same R (by simp [D.und]) (by simp [RD])⟩
  · -- str + str
    obtain ⟨hz, e⟩ := st_ne e
    obtain ⟨rfl, rfl⟩ := ok_inj e
    simp only [RD] at hx hy
    subst hx hy
    rename_i a b
    refine op_add_str pins s σ H _ _ v u Q I rx ry ⟨_, _, rfl, rfl, ?_, P.same R (by simp [D.und]) ?_⟩
    · rw [sl_eq]
      simpa [Str.length] using hz
    · simp only [RD]
      show V.str (Str.append _ _) = _
      simp [Str.append]
  · -- tuple + tuple
    obtain ⟨hz, e⟩ := st_ne e
    obtain ⟨rfl, rfl⟩ := ok_inj e
    simp only [RD] at hx hy
    simp only [D.und] at ux uy
    obtain ⟨a, vs, rfl, h1, h2⟩ := hx
    obtain ⟨b, ws, rfl, h3, h4⟩ := hy
    have l1 := h2.len
    have l2 := h4.len
    refine op_catA pins s σ H _ _ v u Q I rx ry ⟨a, b, vs, ws, rfl, rfl, h1, h3, by rw [sl_eq, l1, l2]; exact hz, fun q => ?_, fun _ q => ?_, fun _ _ p hp => ?_⟩
    · subst q
      refine P.same R (by simpa [D.und] using unds_app ux uy) ?_
      simp only [RD]
      have := h2.app h4
      rw [List.nil_append] at this
      exact ⟨b, ws, rfl, h3, this⟩
    · subst q
      refine P.same R (by simpa [D.und] using unds_app ux uy) ?_
      simp only [RD]
      have := h2.app h4
      rw [List.append_nil] at this
      exact ⟨a, vs, rfl, h1, this⟩
    · exact P.tup R (unds_app ux uy) (h2.app h4) hp
  · -- list + list
    simp only [RD] at hx hy
    split at e
    · rename_i j k xs ys hj hk
      obtain ⟨hz, e⟩ := st_ne e
      obtain ⟨rfl, rfl⟩ := ok_inj e
      subst hx hy
      obtain ⟨vs, h1, h2⟩ := R.ob _ _ hj
      obtain ⟨ws, h3, h4⟩ := R.ob _ _ hk
      have l1 := h2.len
      have l2 := h4.len
      exact op_cat pins s σ H _ _ v u Q I rx ry ⟨_, _, vs, ws, rfl, rfl, h1, h3, by rw [sl_eq, l1, l2]; exact hz, fun p hp => P.lst R hn (unds_app (R.und _ _ hj) (R.und _ _ hk)) (h2.app h4) hp⟩
    · cases e
  · simp only [RD] at hx hy
    subst hx hy
    obtain ⟨rfl, rfl⟩ := ok_inj e
    exact op_sub pins s σ H _ _ v u Q I rx ry ⟨_, _, rfl, rfl, P.same R (by simp [D.und]) (by simp [RD])⟩
  · obtain ⟨hz, e⟩ := st_ne e
    simp only [RD] at hx hy
    subst hx hy
    obtain ⟨rfl, rfl⟩ := ok_inj e
    exact op_mulD pins s σ H _ _ v u Q I rx ry ⟨_, _, rfl, rfl, hz, P.same R (by simp [D.und]) (by simp [RD])⟩
  · -- list * int
    simp only [RD] at hx hy
    split at e
    · rename_i k n xs hk
      obtain ⟨⟨z1, z2, z3⟩, e⟩ := st_ne e
      obtain ⟨rfl, rfl⟩ := ok_inj e
      subst hx hy
      obtain ⟨vs, h1, h2⟩ := R.ob _ _ hk
      have l1 := h2.len
      refine op_rep pins s σ H _ _ v u Q I rx ry ⟨_, _, vs, rfl, rfl, h1, by omega, by omega, by rw [sl_eq, l1]; exact z3, fun p hp => ?_⟩
      exact P.lst R hn (unds_sub (R.und _ _ hk) fun d hd => mem_dRep hd) (h2.rep _) hp
    · cases e
  · -- str * int
    obtain ⟨hz, e⟩ := st_ne e
    obtain ⟨rfl, rfl⟩ := ok_inj e
    simp only [RD] at hx hy
    subst hx hy
    rename_i l n _
    obtain ⟨t, rfl⟩ := rx
    obtain ⟨t', rfl⟩ := ry
    refine PySem.SB.mul (mulStr_ok hz) fun t2 k => ⟨.str (Txt.mul ⟨l.toArray⟩ n), H, I.tok _, ⟨_, rfl⟩, P.same R (by simp [D.und]) ?_⟩
    simp only [RD]
    rw [txt_mul]
  · -- tuple * int
    obtain ⟨⟨z1, z2, z3, z4⟩, e⟩ := st_ne e
    obtain ⟨rfl, rfl⟩ := ok_inj e
    simp only [RD] at hx hy
    simp only [D.und] at ux
    subst hy
    obtain ⟨a, vs, rfl, h1, h2⟩ := hx
    rename_i xs n
    have l1 := h2.len
    refine op_repT pins s σ H _ _ v u Q I rx ry ⟨_, _, vs, rfl, rfl, h1, fun q => z1 (by subst q; exact List.eq_nil_of_length_eq_zero (by rw [← l1]; rfl)), z2, z3, by omega, fun p hp => ?_⟩
    exact P.tup R (unds_sub ux fun d hd => mem_dRep hd) (h2.rep _) hp
  · obtain ⟨hz, e⟩ := st_ne e
    simp only [divOk, Bool.and_eq_true, decide_eq_true_eq] at hz
    simp only [RD] at hx hy
    subst hx hy
    obtain ⟨rfl, rfl⟩ := ok_inj e
    exact floordiv_any pins s σ H _ _ v u Q I rx ry ⟨_, _, rfl, rfl, hz, P.same R (by simp [D.und]) (by simp [RD])⟩
  · obtain ⟨hz, e⟩ := st_ne e
    simp only [RD] at hx hy
    subst hx hy
    obtain ⟨rfl, rfl⟩ := ok_inj e
    exact op_modN pins s σ H _ _ v u Q I rx ry ⟨_, _, rfl, rfl, hz, P.same R (by simp [D.und]) (by simp [RD])⟩
  · obtain ⟨hz, e⟩ := st_ne e
    simp only [RD] at hx hy
    subst hx hy
    obtain ⟨rfl, rfl⟩ := ok_inj e
    exact op_pow pins s σ H _ _ v u Q I rx ry ⟨_, _, rfl, rfl, ⟨hz.1, hz.2.1, hz.2.2⟩, P.same R (by simp [D.und]) (by simp [RD])⟩
  · cases e
end
end Ev

set_option Elab.async false
set_option linter.all false
set_option autoImplicit false
set_option maxRecDepth 100000
set_option maxHeartbeats 4000000
/-! Ev4: comparisons, places, built-ins. -/
namespace Ev
open PySem PySem.Spec PyProof.Rows L2

/-! ### values read as data -/
mutual
def DpD (K : PySem.W.Frag) (H : Hp) (M : Mp) : D → V → Prop
  | .non, v => v = .non
  | .bl b, v => v = .bl b
  | .int i, v => v = .int i
  | .str s, v => v = .str ⟨s.toArray⟩
  | .tup ds, v => ∃ a vs, v = .ref a ∧ SqT K H a vs ∧ DpDs K H M ds vs
  | .ref k, v => v = .ref (M k)
  | .frl ds, v => ∃ a vs, v = .ref a ∧ SqL K H a vs ∧ DpDs K H M ds vs
  | .exc _ _, _ => True
def DpDs (K : PySem.W.Frag) (H : Hp) (M : Mp) : List D → List V → Prop
  | [], vs => vs = []
  | d :: ds, vs => ∃ v r, vs = v :: r ∧ DpD K H M d v ∧ DpDs K H M ds r
end
section
variable {K : PySem.W.Frag} {H : Hp} {M : Mp} {S : Sto}
mutual
theorem RD.dp : ∀ (d : D) (v : V), RD K H M d v → DpD K H M d v
  | .non, v, h => by simpa [RD, DpD] using h
  | .bl _, v, h => by simpa [RD, DpD] using h
  | .int _, v, h => by simpa [RD, DpD] using h
  | .str _, v, h => by simpa [RD, DpD] using h
  | .ref _, v, h => by simpa [RD, DpD] using h
  | .exc _ _, v, h => by simp [DpD]
  | .tup ds, v, h => by
    simp only [RD, DpD] at h ⊢
    obtain ⟨a, vs, e, h1, h2⟩ := h
    exact ⟨a, vs, e, h1, RDs.dp ds vs h2⟩
  | .frl ds, v, h => by
    simp only [RD, DpD] at h ⊢
    obtain ⟨a, vs, e, h1, h2⟩ := h
    exact ⟨a, vs, e, h1.sq, RDs.dp ds vs h2⟩
theorem RDs.dp : ∀ (ds : List D) (vs : List V), RDs K H M ds vs → DpDs K H M ds vs
  | [], vs, h => by simpa [RDs, DpDs] using h
  | d :: ds, vs, h => by
    simp only [RDs, DpDs] at h ⊢
    obtain ⟨v, r, e, h1, h2⟩ := h
    exact ⟨v, r, e, RD.dp d v h1, RDs.dp ds r h2⟩
end
mutual
theorem DpD.sub (R : RelS K H M S) : ∀ (d : D) (v : V), DpD K H M d v → DpD K H M (sub1 S d) v
  | .non, v, h => by simpa [sub1] using h
  | .bl _, v, h => by simpa [sub1] using h
  | .int _, v, h => by simpa [sub1] using h
  | .str _, v, h => by simpa [sub1] using h
  | .exc _ _, v, h => by simpa [sub1] using h
  | .ref k, v, h => by
    simp only [sub1]
    split
    · rename_i xs e
      obtain ⟨vs, h1, h2⟩ := R.ob k _ e
      simp only [DpD] at h ⊢
      exact ⟨_, vs, h, SqL.of h1, RDs.dp _ _ h2⟩
    · exact h
  | .tup ds, v, h => by
    simp only [sub1, DpD] at h ⊢
    obtain ⟨a, vs, e, h1, h2⟩ := h
    exact ⟨a, vs, e, h1, DpDs.sub R ds vs h2⟩
  | .frl ds, v, h => by
    simp only [sub1, DpD] at h ⊢
    obtain ⟨a, vs, e, h1, h2⟩ := h
    exact ⟨a, vs, e, h1, DpDs.sub R ds vs h2⟩
theorem DpDs.sub (R : RelS K H M S) : ∀ (ds : List D) (vs : List V), DpDs K H M ds vs → DpDs K H M (sub1s S ds) vs
  | [], vs, h => by simpa [sub1s] using h
  | d :: ds, vs, h => by
    simp only [sub1s, DpDs] at h ⊢
    obtain ⟨v, r, e, h1, h2⟩ := h
    exact ⟨v, r, e, DpD.sub R d v h1, DpDs.sub R ds r h2⟩
end
theorem RD.rsv (R : RelS K H M S) {d : D} {v : V} (h : RD K H M d v) : DpD K H M (rsv S d) v := DpD.sub R _ _ (DpD.sub R _ _ (DpD.sub R _ _ (RD.dp d v h)))
mutual
theorem DpD.py : ∀ (d : D) (v : V), d.pure = true → d.dep ≤ 60 → DpD K H M d v → Dp K H v (toPy d)
  | .non, v, _, _, h => by
    simp only [DpD] at h
    subst h
    simp only [toPy]
    exact .non
  | .bl _, v, _, _, h => by
    simp only [DpD] at h
    subst h
    simp only [toPy]
    exact .bl _
  | .int _, v, _, _, h => by
    simp only [DpD] at h
    subst h
    simp only [toPy]
    exact .int _
  | .str _, v, _, _, h => by
    simp only [DpD] at h
    subst h
    simp only [toPy]
    exact .str _
  | .ref _, v, p, _, h => by simp [D.und] at p
  | .exc _ _, v, _, p, h => by simp [D.dep] at p
  | .tup ds, v, p, q, h => by
    simp only [DpD] at h
    simp only [D.pure, D.und] at p
    simp only [D.dep] at q
    obtain ⟨a, vs, rfl, h1, h2⟩ := h
    simp only [toPy]
    exact .tup h1 (DpDs.py ds vs p (by omega) h2)
  | .frl ds, v, p, q, h => by
    simp only [DpD] at h
    simp only [D.pure, D.und] at p
    simp only [D.dep] at q
    obtain ⟨a, vs, rfl, h1, h2⟩ := h
    simp only [toPy]
    exact .lst h1 (DpDs.py ds vs p (by omega) h2)
theorem DpDs.py : ∀ (ds : List D) (vs : List V), D.unds 0 ds = true → D.deps ds ≤ 60 → DpDs K H M ds vs → DpAll K H vs (toPys ds)
  | [], vs, _, _, h => by
    simp only [DpDs] at h
    subst h
    simp only [toPys]
    exact .nil
  | d :: ds, vs, p, q, h => by
    simp only [DpDs] at h
    simp only [D.unds, Bool.and_eq_true] at p
    simp only [D.deps] at q
    obtain ⟨v, r, rfl, h1, h2⟩ := h
    simp only [toPys]
    exact .cons (DpD.py d v p.1 (by omega) h1) (DpDs.py ds r p.2 (by omega) h2)
end
end
mutual
theorem toPy_lay : ∀ d : D, d.sok = true → (toPy d).canLay0 = true
  | .non, _ => by simp [toPy, PyData.canLay0]
  | .bl _, _ => by simp [toPy, PyData.canLay0]
  | .int _, _ => by simp [toPy, PyData.canLay0]
  | .ref _, _ => by simp [toPy, PyData.canLay0]
  | .exc _ _, _ => by simp [toPy, PyData.canLay0]
  | .str s, h => by
    simp only [D.sok, List.all_eq_true, decide_eq_true_eq] at h
    simp only [toPy, PyData.canLay0, PyData.strOk]
    simpa using h
  | .tup xs, h => by
    simp only [D.sok] at h
    simp only [toPy, PyData.canLay0]
    exact toPys_lay xs h
  | .frl xs, h => by
    simp only [D.sok] at h
    simp only [toPy, PyData.canLay0]
    exact toPys_lay xs h
theorem toPys_lay : ∀ ds : List D, D.soks ds = true → PyData.canLayAll0 (toPys ds) = true
  | [], _ => by simp [toPys, PyData.canLayAll0]
  | d :: ds, h => by
    simp only [D.soks, Bool.and_eq_true] at h
    simp only [toPys, PyData.canLayAll0, Bool.and_eq_true]
    exact ⟨toPy_lay d h.1, toPys_lay ds h.2⟩
end
mutual
theorem toPy_dep : ∀ d : D, (toPy d).depth ≤ d.dep
  | .non => by simp [toPy, PyData.depth]
  | .bl _ => by simp [toPy, PyData.depth]
  | .int _ => by simp [toPy, PyData.depth]
  | .ref _ => by simp [toPy, PyData.depth]
  | .exc _ _ => by simp [toPy, PyData.depth]
  | .str s => by simp [toPy, PyData.depth]
  | .tup xs => by
    have h := toPys_dep xs
    simp only [toPy, PyData.depth, D.dep]
    omega
  | .frl xs => by
    have h := toPys_dep xs
    simp only [toPy, PyData.depth, D.dep]
    omega
theorem toPys_dep : ∀ ds : List D, PyData.depthAll (toPys ds) ≤ D.deps ds
  | [] => by simp [toPys, PyData.depthAll]
  | d :: ds => by
    have h := toPy_dep d
    have g := toPys_dep ds
    simp only [toPys, PyData.depthAll, D.deps]
    omega
end
theorem shaped_of {d : D} (h : datOk d = true) : SeqAt.shaped (toPy d) = true := by
  simp only [datOk, Bool.and_eq_true, decide_eq_true_eq] at h
  have := toPy_dep d
  unfold SeqAt.shaped
  rw [Bool.and_eq_true]
  exact ⟨toPy_lay d h.2, decide_eq_true (by omega)⟩
theorem datOk_pure {d : D} (h : datOk d = true) : d.pure = true := by
  simp only [datOk, Bool.and_eq_true, decide_eq_true_eq] at h
  exact h.1.1
theorem datOk_dep {d : D} (h : datOk d = true) : d.dep ≤ 60 := by
  simp only [datOk, Bool.and_eq_true, decide_eq_true_eq] at h
  exact h.1.2
theorem arr_eq {a b : List Nat} : (({ cps := a.toArray } : Str) == { cps := b.toArray }) = decide (a = b) := by
  by_cases h : a = b
  · subst h
    simp
  · rw [decide_eq_false h, beq_eq_false_iff_ne]
    intro e
    injection e with e
    exact h (by simpa using congrArg Array.toList e)
mutual
theorem eqv_toPy : ∀ a b : D, a.pure = true → b.pure = true → a.dep ≤ 60 → b.dep ≤ 60 → PyData.eqv (toPy a) (toPy b) = deq a b
  | .ref _, _, p, _, _, _ => by simp [D.und] at p
  | .exc _ _, _, _, _, p, _ => by simp [D.dep] at p
  | .non, b, _, p, _, q => by
    cases b <;> simp_all [toPy, PyData.eqv, deq, D.und, D.dep]
  | .bl x, b, _, p, _, q => by
    cases b <;> simp_all [toPy, PyData.eqv, deq, D.und, D.dep]
    all_goals rw [Bool.beq_eq_decide_eq]
  | .int x, b, _, p, _, q => by
    cases b <;> simp_all [toPy, PyData.eqv, deq, D.und, D.dep]
    all_goals rw [Bool.beq_eq_decide_eq]
  | .str x, b, _, p, _, q => by
    cases b with
    | str y =>
      simp only [toPy, PyData.eqv, deq]
      exact arr_eq
    | _ => simp_all [toPy, PyData.eqv, deq, D.und, D.dep]
  | .tup xs, b, p, p2, q, q2 => by
    cases b with
    | tup ys =>
      simp only [D.pure, D.und, D.dep] at p p2 q q2
      simp only [toPy, PyData.eqv, deq]
      exact eqv_toPys xs ys p p2 (by omega) (by omega)
    | _ => simp_all [toPy, PyData.eqv, deq, D.und, D.dep]
  | .frl xs, b, p, p2, q, q2 => by
    cases b with
    | frl ys =>
      simp only [D.pure, D.und, D.dep] at p p2 q q2
      simp only [toPy, PyData.eqv, deq]
      exact eqv_toPys xs ys p p2 (by omega) (by omega)
    | _ => simp_all [toPy, PyData.eqv, deq, D.und, D.dep]
theorem eqv_toPys : ∀ a b : List D, D.unds 0 a = true → D.unds 0 b = true → D.deps a ≤ 60 → D.deps b ≤ 60 → PyData.eqvAll (toPys a) (toPys b) = deqs a b
  | [], b, _, _, _, _ => by cases b <;> simp [toPys, PyData.eqvAll, deqs]
  | x :: xs, b, p, p2, q, q2 => by
    cases b with
    | nil => simp [toPys, PyData.eqvAll, deqs]
    | cons y ys =>
      simp only [D.unds, Bool.and_eq_true] at p p2
      simp only [D.deps] at q q2
      simp only [toPys, PyData.eqvAll, deqs]
      rw [eqv_toPy x y p.1 p2.1 (by omega) (by omega), eqv_toPys xs ys p.2 p2.2 (by omega) (by omega)]
end

section
variable {X : Cx}
def copOf : Cop → CmpOp
  | .eq => .Eq | .ne => .NotEq | .lt => .Lt | .le => .LtE | .gt => .Gt | .ge => .GtE | .isin => .In | .notin => .NotIn
theorem flat_eq {K : PySem.W.Frag} {H : Hp} {M : Mp} {x y : D} {x' y' : V} (fx : x.flat = true) (fy : y.flat = true) (hx : RD K H M x x') (hy : RD K H M y y') :
    (scal x' y' = true ∧ decide (x' = y') = deq x y) ∨ (Dp K H x' (toPy x) ∧ Dp K H y' (toPy y) ∧ SeqAt.shaped (toPy x) = true ∧ SeqAt.shaped (toPy y) = true ∧ PyData.eqv (toPy x) (toPy y) = deq x y) := by
  cases x with
  | non =>
    cases y <;> simp only [RD] at hx hy <;> first | (subst hx hy; exact .inl ⟨rfl, by simp [deq]⟩) | exact absurd (show false = true from fy) Bool.false_ne_true
  | str s =>
    cases y <;> simp only [RD] at hx hy <;> first | (subst hx hy; exact .inl ⟨rfl, by simp [deq]⟩) | exact absurd (show false = true from fy) Bool.false_ne_true
  | bl b =>
    cases y with
    | int i =>
      simp only [RD] at hx hy
      subst hx hy
      exact .inr ⟨by simp only [toPy]; exact .bl _, by simp only [toPy]; exact .int _, by cases b <;> rfl, rfl, eqv_toPy _ _ rfl rfl (by simp [D.dep]) (by simp [D.dep])⟩
    | _ => simp only [RD] at hx hy <;> first | (subst hx hy; exact .inl ⟨rfl, by simp [deq, Bool.beq_eq_decide_eq]⟩) | exact absurd (show false = true from fy) Bool.false_ne_true
  | int i =>
    cases y with
    | bl b =>
      simp only [RD] at hx hy
      subst hx hy
      exact .inr ⟨by simp only [toPy]; exact .int _, by simp only [toPy]; exact .bl _, rfl, by cases b <;> rfl, eqv_toPy _ _ rfl rfl (by simp [D.dep]) (by simp [D.dep])⟩
    | _ => simp only [RD] at hx hy <;> first | (subst hx hy; exact .inl ⟨rfl, by simp [deq]⟩) | exact absurd (show false = true from fy) Bool.false_ne_true
  | _ => exact absurd (show false = true from fx) Bool.false_ne_true
theorem dEq_dp {K : PySem.W.Frag} {H : Hp} {M : Mp} {S : Sto} {x y : D} {x' y' : V} {b : Bool} (R : RelS K H M S) (hx : RD K H M x x') (hy : RD K H M y y') (e : dEq S x y = some b) :
    (scal x' y' = true ∧ decide (x' = y') = b) ∨ (∃ d e, Dp K H x' d ∧ Dp K H y' e ∧ SeqAt.shaped d = true ∧ SeqAt.shaped e = true ∧ PyData.eqv d e = b) := by
  unfold dEq at e
  split at e
  · rename_i hf
    rw [Bool.and_eq_true] at hf
    have e2 := Option.some.inj e
    rcases flat_eq hf.1 hf.2 hx hy with ⟨h1, h2⟩ | ⟨h1, h2, h3, h4, h5⟩
    · exact .inl ⟨h1, h2.trans e2⟩
    · exact .inr ⟨_, _, h1, h2, h3, h4, h5.trans e2⟩
  · split at e
    · rename_i hf
      rw [Bool.and_eq_true] at hf
      have e2 := Option.some.inj e
      exact .inr ⟨_, _, DpD.py _ _ (datOk_pure hf.1) (datOk_dep hf.1) (hx.rsv R), DpD.py _ _ (datOk_pure hf.2) (datOk_dep hf.2) (hy.rsv R), shaped_of hf.1, shaped_of hf.2,
        (eqv_toPy _ _ (datOk_pure hf.1) (datOk_pure hf.2) (datOk_dep hf.1) (datOk_dep hf.2)).trans e2⟩
    · cases e
theorem lexLt_eq : ∀ a b : List Nat, lexLt a b = decide (a < b)
  | [], [] => by simp [lexLt]
  | [], _ :: _ => by simp [lexLt]
  | _ :: _, [] => by simp [lexLt]
  | a :: x, b :: y => by
    unfold lexLt
    by_cases h : a = b
    · rw [if_pos h, lexLt_eq x y]
      subst h
      simp [List.cons_lt_cons_iff]
    · rw [if_neg h]
      simp [List.cons_lt_cons_iff, h]
theorem flatV_of {K : PySem.W.Frag} {H : Hp} {M : Mp} {x : D} {x' : V} (f : x.flat = true) (h : RD K H M x x') : flatV x' = true := by
  cases x <;> simp only [RD] at h <;> first | (subst h; rfl) | exact absurd (show false = true from f) Bool.false_ne_true
theorem eqV_of {K : PySem.W.Frag} {H : Hp} {M : Mp} {x y : D} {x' y' : V} (fx : x.flat = true) (fy : y.flat = true) (hx : RD K H M x x') (hy : RD K H M y y') : eqV x' y' = deq x y := by
  cases x <;> cases y <;> simp only [RD] at hx hy <;> first
    | exact absurd (show false = true from fx) Bool.false_ne_true
    | exact absurd (show false = true from fy) Bool.false_ne_true
    | (subst hx hy; simp [eqV, deq]; done)
    | (subst hx hy; simp only [eqV, deq, Bool.beq_eq_decide_eq]; done)
    | (subst hx hy; simp only [eqV, deq]; exact arr_eq)
    | (subst hx hy; simp only [eqV, deq]; rw [Bool.eq_iff_iff]; simp)
theorem inV_of {K : PySem.W.Frag} {H : Hp} {M : Mp} {x : D} {x' : V} (fx : x.flat = true) (hx : RD K H M x x') : ∀ {ys : List D} {vs : List V}, ys.all D.flat = true → RDs K H M ys vs → vs.all flatV = true ∧ inV x' vs = ys.any fun y => deq y x
  | [], vs, _, h => by
    simp only [RDs] at h
    subst h
    exact ⟨rfl, rfl⟩
  | y :: ys, vs, f, h => by
    simp only [RDs] at h
    obtain ⟨v, r, rfl, h1, h2⟩ := h
    rw [List.all_cons, Bool.and_eq_true] at f
    obtain ⟨q1, q2⟩ := inV_of fx hx f.2 h2
    refine ⟨by rw [List.all_cons, flatV_of f.1 h1, q1]; rfl, ?_⟩
    unfold inV at q2 ⊢
    rw [List.any_cons, List.any_cons, q2, eqV_of f.1 fx h1 hx]
def rInT (K : PySem.W.Frag) (neg : Bool) : R2 := fun x y H Q => ∃ d ds, Dp K H x d ∧ Dp K H y (.tuple ds) ∧ SeqAt.shaped d = true ∧ SeqAt.shaped (.tuple ds) = true ∧ Q (.bl (if neg then !ds.any fun z => PyData.eqv z d else ds.any fun z => PyData.eqv z d)) H
theorem room_t {A : Around} {d : PyData} {ds : List PyData} (sd : SeqAt.shaped d = true) (hu : A.units + 66 < cLine) : A.units + 1 + min (PyData.depthAll ds) d.depth < cLine := by
  have h1 := SeqAt.depth_of_shaped sd
  have h2 : min (PyData.depthAll ds) d.depth ≤ d.depth := Nat.min_le_right _ _
  omega
theorem op_inTD (hu : X.A.units + 66 < cLine) : OpR X (compareOp .In) (rInT X.K false) := by
  intro pins s σ H x y v u Q I rx ry h
  obtain ⟨d, ds, hd, he, sd, se, q⟩ := h
  obtain ⟨as, r1⟩ := Dp.reads I d x v hd rx
  obtain ⟨bs, r2⟩ := Dp.reads I (.tuple ds) y u he ry
  exact SeqAt.in_tuple_reads r2 r1 (SeqAt.canLay_of_shaped se) (SeqAt.canLay_of_shaped sd) (room_t sd hu) ⟨.bl _, H, I, rfl, q⟩
theorem op_notInTD (hu : X.A.units + 66 < cLine) : OpR X (compareOp .NotIn) (rInT X.K true) := by
  intro pins s σ H x y v u Q I rx ry h
  obtain ⟨d, ds, hd, he, sd, se, q⟩ := h
  obtain ⟨as, r1⟩ := Dp.reads I d x v hd rx
  obtain ⟨bs, r2⟩ := Dp.reads I (.tuple ds) y u he ry
  exact SeqAt.notIn_tuple_reads r2 r1 (SeqAt.canLay_of_shaped se) (SeqAt.canLay_of_shaped sd) (room_t sd hu) ⟨.bl _, H, I, rfl, q⟩
theorem any_py {d : D} (hd : d.pure = true) (hd2 : d.dep ≤ 60) : ∀ {ys : List D}, D.unds 0 ys = true → D.deps ys ≤ 60 → ((toPys ys).any fun z => PyData.eqv z (toPy d)) = ys.any fun y => deq y d
  | [], _, _ => by simp [toPys]
  | y :: ys, p, q => by
    simp only [D.unds, Bool.and_eq_true] at p
    simp only [D.deps] at q
    simp only [toPys, List.any_cons]
    rw [eqv_toPy y d p.1 hd (by omega) hd2, any_py hd hd2 p.2 (by omega)]
/-- x among the items of a list or a tuple -/
theorem mem_D {pins : List (Addr × Obj)} {s : Shared} {σ : L2.St} {H : Hp} {x y : D} {x' y' : V} {v u : Value} {Q : VK} {S : Sto} {M : Mp} {ys : List D} {b : Bool} (hu : X.A.units + 66 < cLine) (neg : Bool) (I : L2.Inv X pins σ H s) (rx : RelV x' v) (ry : RelV y' u)
    (R : RelS X.K H M S) (hx : RD X.K H M x x') (hy : (∃ a vs, y' = .ref a ∧ SqT X.K H a vs ∧ RDs X.K H M ys vs) ∨ ∃ a vs, y' = .ref a ∧ SqL X.K H a vs ∧ RDs X.K H M ys vs)
    (e : dMem S x ys = some b) (q : Q (.bl (if neg then !b else b)) H) : wpAny (model X.prog X.w) X.A (compareOp (if neg then .NotIn else .In) v u) (EP X pins σ Q) X.xe s := by
  unfold dMem at e
  split at e
  · rename_i hf
    rw [Bool.and_eq_true] at hf
    have e2 := Option.some.inj e
    have hz : ∃ a vs, y' = .ref a ∧ (SqL X.K H a vs ∨ SqT X.K H a vs) ∧ RDs X.K H M ys vs := by
      rcases hy with ⟨a, vs, h1, h2, h3⟩ | ⟨a, vs, h1, h2, h3⟩
      · exact ⟨a, vs, h1, .inr h2, h3⟩
      · exact ⟨a, vs, h1, .inl h2, h3⟩
    obtain ⟨a, vs, h1, h2, h3⟩ := hz
    obtain ⟨g1, g2⟩ := inV_of hf.1 hx hf.2 h3
    cases neg with
    | false => exact op_in_seq pins s σ H _ _ v u Q I rx ry ⟨a, vs, h1, h2, flatV_of hf.1 hx, g1, by rw [g2, e2]; exact q⟩
    | true => exact op_notIn_seq pins s σ H _ _ v u Q I rx ry ⟨a, vs, h1, h2, flatV_of hf.1 hx, g1, by rw [g2, e2]; exact q⟩
  · split at e
    · rename_i hf
      rw [Bool.and_eq_true] at hf
      have e2 := Option.some.inj e
      have dx := DpD.py _ _ (datOk_pure hf.1) (datOk_dep hf.1) (hx.rsv R)
      have p2 := datOk_pure hf.2
      have d2 := datOk_dep hf.2
      have s2 := hf.2
      simp only [rsv, sub1, D.pure, D.und] at p2
      simp only [rsv, sub1, D.dep] at d2
      have ea := any_py (datOk_pure hf.1) (datOk_dep hf.1) p2 (by omega)
      rw [e2] at ea
      rcases hy with ⟨a, vs, h1, h2, h3⟩ | ⟨a, vs, h1, h2, h3⟩
      · have dy : Dp X.K H y' (.tuple (toPys (sub1s S (sub1s S (sub1s S ys))))) := by
          rw [h1]
          exact .tup h2 (DpDs.py _ _ p2 (by omega) (DpDs.sub R _ _ (DpDs.sub R _ _ (DpDs.sub R _ _ (RDs.dp _ _ h3)))))
        have sh : SeqAt.shaped (.tuple (toPys (sub1s S (sub1s S (sub1s S ys))))) = true := by
          have := shaped_of hf.2
          simp only [rsv, sub1, toPy] at this
          unfold SeqAt.shaped at this ⊢
          simpa [PyData.canLay0, PyData.depth] using this
        cases neg with
        | false => exact op_inTD hu pins s σ H _ _ v u Q I rx ry ⟨_, _, dx, dy, shaped_of hf.1, sh, by rw [ea]; exact q⟩
        | true => exact op_notInTD hu pins s σ H _ _ v u Q I rx ry ⟨_, _, dx, dy, shaped_of hf.1, sh, by rw [ea]; exact q⟩
      · have dy : Dp X.K H y' (.list (toPys (sub1s S (sub1s S (sub1s S ys))))) := by
          rw [h1]
          exact .lst h2 (DpDs.py _ _ p2 (by omega) (DpDs.sub R _ _ (DpDs.sub R _ _ (DpDs.sub R _ _ (RDs.dp _ _ h3)))))
        have sh : SeqAt.shaped (.list (toPys (sub1s S (sub1s S (sub1s S ys))))) = true := by
          have := shaped_of hf.2
          simpa only [rsv, sub1, toPy] using this
        cases neg with
        | false => exact op_inD (by omega) pins s σ H _ _ v u Q I rx ry ⟨_, _, dx, dy, shaped_of hf.1, sh, by rw [ea]; exact q⟩
        | true => exact op_notInD (by omega) pins s σ H _ _ v u Q I rx ry ⟨_, _, dx, dy, shaped_of hf.1, sh, by rw [ea]; exact q⟩
    · cases e
theorem sub_D {pins : List (Addr × Obj)} {s : Shared} {σ : L2.St} {H : Hp} {a b : List Nat} {v u : Value} {Q : VK} (neg : Bool) (I : L2.Inv X pins σ H s) (rx : RelV (.str ⟨a.toArray⟩) v) (ry : RelV (.str ⟨b.toArray⟩) u)
    (q : Q (.bl (if neg then !isSub a b else isSub a b)) H) : wpAny (model X.prog X.w) X.A (compareOp (if neg then .NotIn else .In) v u) (EP X pins σ Q) X.xe s := by
  have e0 : Str.length ⟨b.toArray⟩ = b.length := by simp [Str.length]
  have many : isSub a b = (!(Builtin.Str.occurrences ⟨b.toArray⟩ ⟨a.toArray⟩ 0 b.length 1).isEmpty) → wpAny (model X.prog X.w) X.A (compareOp (if neg then .NotIn else .In) v u) (EP X pins σ Q) X.xe s := fun e => by
    rw [e] at q
    cases neg with
    | false => exact op_in_str pins s σ H _ _ v u Q I rx ry ⟨_, _, rfl, rfl, by rw [e0]; exact q⟩
    | true => exact L2.op_notin_str pins s σ H _ _ v u Q I rx ry ⟨_, _, rfl, rfl, by rw [e0]; exact q⟩
  match a with
  | [] => exact many rfl
  | [c] =>
    cases neg with
    | false => exact op_in_sign pins s σ H _ _ v u Q I rx ry ⟨c, _, rfl, rfl, by simpa [isSub] using q⟩
    | true => exact op_notIn_sign pins s σ H _ _ v u Q I rx ry ⟨c, _, rfl, rfl, by simpa [isSub] using q⟩
  | _ :: _ :: _ => exact many rfl
theorem in_D {pins : List (Addr × Obj)} {s : Shared} {σ : L2.St} {H : Hp} {x y : D} {x' y' : V} {v u : Value} {Q : VK} {S : Sto} {M : Mp} {b : Bool} (hu : X.A.units + 66 < cLine) (neg : Bool) (I : L2.Inv X pins σ H s) (rx : RelV x' v) (ry : RelV y' u)
    (R : RelS X.K H M S) (hx : RD X.K H M x x') (hy : RD X.K H M y y') (e : dIn S x y = some b) (q : Q (.bl (if neg then !b else b)) H) : wpAny (model X.prog X.w) X.A (compareOp (if neg then .NotIn else .In) v u) (EP X pins σ Q) X.xe s := by
  unfold dIn at e
  split at e
  · simp only [RD] at hx hy
    subst hx hy
    rw [← Option.some.inj e] at q
    exact sub_D neg I rx ry q
  · simp only [RD] at hy
    exact mem_D (y := .non) hu neg I rx ry R hx (.inl hy) e q
  · simp only [RD] at hy
    split at e
    · rename_i ys hk
      obtain ⟨vs, h1, h2⟩ := R.ob _ _ hk
      exact mem_D (y := .non) hu neg I rx ry R hx (.inr ⟨_, vs, hy, SqL.of h1, h2⟩) e q
    · rename_i kvs hk
      exact False.elim (R.ob _ _ hk)
    · cases e
  · cases e

theorem op_cmpD (o : Cop) (hu : X.A.units + 66 < cLine) : OpR X (compareOp (copOf o)) (rB X.K (cmpop o)) := by
  intro pins s σ H x' y' v u Q I rx ry ⟨x, y, S, M, n0, d, S', hn, R, ux, uy, hx, hy, e, P⟩
  unfold cmpop at e
  split at e
  · split at e
    · rename_i b hb
      obtain ⟨rfl, rfl⟩ := ok_inj e
      have q : Q (.bl b) H := P.same R (by simp [D.und]) (by simp [RD])
      rcases dEq_dp R hx hy hb with ⟨h1, h2⟩ | ⟨d, e, h1, h2, h3, h4, h5⟩
      · exact op_eq pins s σ H _ _ v u Q I rx ry ⟨h1, by rw [h2]; exact q⟩
      · exact op_eqD (by omega) pins s σ H _ _ v u Q I rx ry ⟨d, e, h1, h2, h3, h4, by rw [h5]; exact q⟩
    · cases e
  · split at e
    · rename_i b hb
      obtain ⟨rfl, rfl⟩ := ok_inj e
      have q : Q (.bl (!b)) H := P.same R (by simp [D.und]) (by simp [RD])
      rcases dEq_dp R hx hy hb with ⟨h1, h2⟩ | ⟨d, e, h1, h2, h3, h4, h5⟩
      · exact op_ne pins s σ H _ _ v u Q I rx ry ⟨h1, by rw [h2]; exact q⟩
      · exact op_neD (by omega) pins s σ H _ _ v u Q I rx ry ⟨d, e, h1, h2, h3, h4, by rw [h5]; exact q⟩
    · cases e
  · simp only [RD] at hx hy
    subst hx hy
    obtain ⟨rfl, rfl⟩ := ok_inj e
    exact op_lt pins s σ H _ _ v u Q I rx ry ⟨_, _, rfl, rfl, P.same R (by simp [D.und]) (by simp [RD])⟩
  · simp only [RD] at hx hy
    subst hx hy
    obtain ⟨rfl, rfl⟩ := ok_inj e
    exact op_le pins s σ H _ _ v u Q I rx ry ⟨_, _, rfl, rfl, P.same R (by simp [D.und]) (by simp [RD])⟩
  · simp only [RD] at hx hy
    subst hx hy
    obtain ⟨rfl, rfl⟩ := ok_inj e
    exact op_gt pins s σ H _ _ v u Q I rx ry ⟨_, _, rfl, rfl, P.same R (by simp [D.und]) (by simp [RD])⟩
  · simp only [RD] at hx hy
    subst hx hy
    obtain ⟨rfl, rfl⟩ := ok_inj e
    exact op_ge pins s σ H _ _ v u Q I rx ry ⟨_, _, rfl, rfl, P.same R (by simp [D.und]) (by simp [RD])⟩
  · simp only [RD] at hx hy
    subst hx hy
    obtain ⟨rfl, rfl⟩ := ok_inj e
    refine op_lt_str pins s σ H _ _ v u Q I rx ry ⟨_, _, rfl, rfl, P.same R (by simp [D.und]) ?_⟩
    simp only [RD]
    rw [lexLt_eq]
  · split at e
    · rename_i b hb
      obtain ⟨rfl, rfl⟩ := ok_inj e
      exact in_D hu false I rx ry R hx hy hb (P.same R (by simp [D.und]) (by simp [RD]))
    · cases e
  · split at e
    · rename_i b hb
      obtain ⟨rfl, rfl⟩ := ok_inj e
      exact in_D hu true I rx ry R hx hy hb (P.same R (by simp [D.und]) (by simp [RD]))
    · cases e
  · cases e

/-! ### places -/
theorem RDs.at {K : PySem.W.Frag} {H : Hp} {M : Mp} {ds : List D} {vs : List V} {i : Int} {d : D} (h : RDs K H M ds vs) (e : pyAt ds i = some d) : ∃ v, L2.atI vs i = some v ∧ RD K H M d v := by
  unfold pyAt at e
  obtain ⟨j, h1, h2⟩ := Option.bind_eq_some_iff.mp e
  obtain ⟨v, h3, h4⟩ := h.get h2
  refine ⟨v, ?_, h4⟩
  show (pyIx vs.length i).bind (fun j => vs[j]?) = some v
  rw [h.len, h1]
  exact h3
theorem pyAt_mem {α : Type} {xs : List α} {i : Int} {x : α} (h : pyAt xs i = some x) : x ∈ xs := by
  unfold pyAt at h
  obtain ⟨j, _, h2⟩ := Option.bind_eq_some_iff.mp h
  exact List.mem_of_getElem? h2
theorem ix_D : IxR X (rB X.K idxop) := by
  intro value slice pins s σ H x' y' v u Q I rx ry ⟨x, y, S, M, n0, d, S', hn, R, ux, uy, hx, hy, e, P⟩ hs
  unfold idxop at e
  split at e
  · simp only [RD] at hx hy
    simp only [D.und] at ux
    split at e
    · rename_i he
      obtain ⟨rfl, rfl⟩ := ok_inj e
      obtain ⟨a, vs, rfl, h1, h2⟩ := hx
      subst hy
      obtain ⟨w, h3, h4⟩ := h2.at he
      exact ix_tup value slice pins s σ H _ _ v u Q I rx ry ⟨a, vs, _, w, rfl, rfl, h1, h3, P.same R (unds_mem ux _ (pyAt_mem he)) h4⟩ hs
    · cases e
  · obtain ⟨hz, e⟩ := st_ne e
    simp only [RD] at hx hy
    subst hx hy
    split at e
    · rename_i c he
      obtain ⟨rfl, rfl⟩ := ok_inj e
      exact ix_str value slice pins s σ H _ _ v u Q I rx ry ⟨_, _, c, rfl, rfl, by rw [sl_eq]; simpa [Str.length] using hz, by simpa using (show L2.atI _ _ = some c from he), P.same R (by simp [D.und]) (by simp [RD])⟩ hs
    · cases e
  · simp only [RD] at hx
    split at e
    · rename_i xs i hk
      split at e
      · rename_i he
        obtain ⟨rfl, rfl⟩ := ok_inj e
        simp only [RD] at hy
        subst hx hy
        obtain ⟨vs, h1, h2⟩ := R.ob _ _ hk
        obtain ⟨w, h3, h4⟩ := h2.at he
        exact ix_list value slice pins s σ H _ _ v u Q I rx ry ⟨_, vs, _, w, rfl, rfl, SqL.of h1, h3, P.same R (unds_mem (R.und _ _ hk) _ (pyAt_mem he)) h4⟩ hs
      · cases e
    · rename_i hk
      exact False.elim (R.ob _ _ hk)
    · cases e
  · cases e
theorem cutS_eq (xs : List Nat) (lo hi : Option Int) : L2.cutS ⟨xs.toArray⟩ lo hi = ⟨(cut xs lo hi).toArray⟩ := by
  unfold L2.cutS
  have e3 : Str.length ⟨xs.toArray⟩ = xs.length := by simp [Str.length]
  rw [e3]
  have e : ∀ (n d : Nat) (o : Option Int), HT.sIx n d o = cutIx n d o := fun n d o => by
    cases o with
    | none => rfl
    | some v => rfl
  rw [e, e]
  rfl
/-- a[lo:hi] -/
def rSD (K : PySem.W.Frag) : V → Option Int → Option Int → Hp → VK → Prop := fun x' lo hi H Q => ∃ x S M n0 d S', n0 ≤ S.length ∧ RelS K H M S ∧ x.und S.length = true ∧ RD K H M x x' ∧ sliop x lo hi S = .ok d S' ∧ Post K n0 H M S d S' Q
theorem sl_D : SlR X (rSD X.K) := by
  intro pins s σ H x' v vl vu lo hi sl Q I rx hs pl pu ⟨x, S, M, n0, d, S', hn, R, ux, hx, e, P⟩
  unfold sliop at e
  split at e
  · obtain ⟨rfl, rfl⟩ := ok_inj e
    simp only [RD] at hx
    simp only [D.und] at ux
    obtain ⟨a, vs, rfl, h1, h2⟩ := hx
    have hc : ∀ ws : List V, ws = cut vs lo hi → RDs X.K H M (cut _ lo hi) ws := fun ws e => by rw [e]; exact h2.cut lo hi
    refine sl_tupA pins s σ H _ v vl vu lo hi sl Q I rx hs pl pu ⟨a, vs, rfl, h1, fun q => ?_, fun _ p hp => ?_⟩
    · refine P.same R (by simpa [D.und] using unds_sub ux fun d hd => mem_cut hd) ?_
      simp only [RD]
      refine ⟨a, vs, rfl, h1, hc vs ?_⟩
      rw [← cut_eq]
      unfold L2.cutV
      rw [q.1, q.2]
      simp
    · rw [cut_eq]
      exact P.tup R (unds_sub ux fun d hd => mem_cut hd) (h2.cut lo hi) hp
  · obtain ⟨hz, e⟩ := st_ne e
    obtain ⟨rfl, rfl⟩ := ok_inj e
    simp only [RD] at hx
    subst hx
    refine sl_str pins s σ H _ v vl vu lo hi sl Q I rx hs pl pu ⟨_, rfl, by rw [sl_eq]; simpa [Str.length] using hz, P.same R (by simp [D.und]) ?_⟩
    simp only [RD]
    rw [cutS_eq]
  · obtain ⟨rfl, rfl⟩ := ok_inj e
    simp only [RD] at hx
    simp only [D.und] at ux
    obtain ⟨a, vs, rfl, h1, h2⟩ := hx
    refine sl_list pins s σ H _ v vl vu lo hi sl Q I rx hs pl pu ⟨a, vs, rfl, h1.sq, fun p hp => ?_⟩
    rw [cut_eq]
    exact P.lst R hn (unds_sub ux fun d hd => mem_cut hd) (h2.cut lo hi) hp
  · simp only [RD] at hx
    split at e
    · rename_i xs hk
      obtain ⟨rfl, rfl⟩ := ok_inj e
      subst hx
      obtain ⟨vs, h1, h2⟩ := R.ob _ _ hk
      refine sl_list pins s σ H _ v vl vu lo hi sl Q I rx hs pl pu ⟨_, vs, rfl, SqL.of h1, fun p hp => ?_⟩
      rw [cut_eq]
      exact P.lst R hn (unds_sub (R.und _ _ hk) fun d hd => mem_cut hd) (h2.cut lo hi) hp
    · cases e
  · cases e
/-- what is wanted behind a store -/
def PostS (K : PySem.W.Frag) (n0 : Nat) (H : Hp) (M : Mp) (S S' : Sto) (Q : Hp → Prop) : Prop := ∀ H' M', Step n0 H M S H' M' S' → RelS K H' M' S' → Q H'
def rSet (K : PySem.W.Frag) : TSet := fun o' i' v' H Q => ∃ x y z S M n0 S', n0 ≤ S.length ∧ RelS K H M S ∧ x.und S.length = true ∧ y.und S.length = true ∧ z.und S.length = true ∧ RD K H M x o' ∧ RD K H M y i' ∧ RD K H M z v' ∧ setop n0 x y z S = some S' ∧ PostS K n0 H M S S' Q
theorem set_D : PSet X (rSet X.K) := by
  intro pins s σ H o' i' v' ov iv u Q I ro ri rv ⟨x, y, z, S, M, n0, S', hn, R, ux, uy, uz, hx, hy, hz, e, P⟩
  unfold setop at e
  split at e
  · split at e
    · cases e
    · rename_i hw
      split at e
      · rename_i xs i hk
        split at e
        · rename_i j hj
          have e2 := Option.some.inj e
          subst e2
          simp only [RD] at hx hy
          subst hx hy
          obtain ⟨vs, h1, h2⟩ := R.ob _ _ hk
          refine set_list pins s σ H _ _ v' ov iv u Q I ro ri rv ⟨_, vs, _, j, rfl, rfl, h1, by rw [h2.len]; exact hj, ?_⟩
          have hu : D.unds S.length (xs.set j z) = true := unds_of fun d hd => (List.mem_or_eq_of_mem_set hd).elim (unds_mem (R.und _ _ hk) d) fun e => e ▸ uz
          refine P _ M (Step.put R hk fun h d hd => ?_) (R.put hk hu (h2.set j hz))
          rcases List.mem_or_eq_of_mem_set hd with q | q
          · exact .inr q
          · subst q
            refine .inl ?_
            cases e3 : D.pure d with
            | true => rfl
            | false => exact absurd ⟨h, e3⟩ hw
        · cases e
      · rename_i hk
        exact False.elim (R.ob _ _ hk)
      · cases e
  · cases e
end
end Ev

set_option Elab.async false
set_option linter.all false
set_option autoImplicit false
set_option maxRecDepth 100000
set_option maxHeartbeats 4000000
/-! Ev5: built-ins and methods. -/
namespace Ev
open PySem PySem.Spec PyProof.Rows L2

/-! ### how long a text of repr is -/
theorem len_ofString (s : String) : (Str.ofString s).length = s.length := PySem.ofString_length s
theorem textFrom_le : ∀ (ts : List Str) (k : Nat) (acc : Str), (textFrom k acc ts).length ≤ acc.length + (ts.map fun t => t.length + 2).sum
  | [], _, acc => by simp [textFrom]
  | t :: ts, k, acc => by
    have ih := textFrom_le ts (k + 1) (acc ++ (if k > 0 then ", " else "" : String) ++ t)
    have e : (((if k > 0 then ", " else "" : String) : Str)).length ≤ 2 := by
      split <;> decide
    unfold textFrom
    rw [strLen_append, strLen_append] at ih
    simp only [List.map_cons, List.sum_cons]
    omega
theorem listText_le (ts : List Str) : (listText ts).length ≤ (ts.map fun t => t.length + 2).sum + 3 := by
  unfold listText
  rw [strLen_append]
  have h := textFrom_le ts 0 ("[" : String)
  have e1 : ((("[" : String) : Str)).length = 1 := rfl
  have e2 : ((("]" : String) : Str)).length = 1 := rfl
  rw [e1] at h
  rw [e2]
  omega
theorem tupleText_le (ts : List Str) : (tupleText ts).length ≤ (ts.map fun t => t.length + 2).sum + 3 := by
  unfold tupleText
  rw [strLen_append, strLen_append]
  have e1 : ((("(" : String) : Str)).length = 1 := rfl
  have e3 : (((if ts.length == 1 then ",)" else ")" : String) : Str)).length ≤ 2 := by split <;> decide
  rw [e1]
  by_cases h : ts = []
  · subst h
    have e4 : (Str.join ((", " : String) : Str) []).length = 0 := rfl
    simp only [List.map_nil, List.sum_nil]
    omega
  · have := join_length_add ts h
    unfold piled at this
    omega
mutual
theorem shown_le : ∀ d : D, d.sok = true → d.shw = true → (toPy d).shown.length ≤ d.wid
  | .non, _, _ => by
    simp only [toPy, PyData.shown, D.wid]
    decide
  | .bl b, _, _ => by
    simp only [toPy, PyData.shown, D.wid]
    cases b <;> decide
  | .ref _, _, _ => by
    simp only [toPy, PyData.shown, D.wid]
    decide
  | .exc _ _, _, _ => by
    simp only [toPy, PyData.shown, D.wid]
    decide
  | .int i, _, h => by
    simp only [D.shw, decide_eq_true_eq] at h
    simp only [toPy, PyData.shown, D.wid]
    have := int_text_length_le (a := i) (k := 1900) (by decide) h
    rw [len_ofString]
    omega
  | .str s, h, _ => by
    simp only [D.sok, List.all_eq_true, decide_eq_true_eq] at h
    simp only [toPy, PyData.shown, D.wid]
    have := StrLaws.reprText_len ⟨s.toArray⟩ fun c hc => by
      have := h c (by simpa using hc)
      omega
    have e : Str.length ⟨s.toArray⟩ = s.length := by simp [Str.length]
    omega
  | .tup xs, h, g => by
    simp only [D.sok] at h
    simp only [D.shw] at g
    simp only [toPy, PyData.shown, D.wid]
    have := shown_les xs h g
    have := tupleText_le (PyData.shownAll (toPys xs))
    omega
  | .frl xs, h, g => by
    simp only [D.sok] at h
    simp only [D.shw] at g
    simp only [toPy, PyData.shown, D.wid]
    have := shown_les xs h g
    have := listText_le (PyData.shownAll (toPys xs))
    omega
theorem shown_les : ∀ ds : List D, D.soks ds = true → D.shws ds = true → ((PyData.shownAll (toPys ds)).map fun t => t.length + 2).sum ≤ D.wids ds
  | [], _, _ => by simp [toPys, PyData.shownAll, D.wids]
  | d :: ds, h, g => by
    simp only [D.soks, Bool.and_eq_true] at h
    simp only [D.shws, Bool.and_eq_true] at g
    simp only [toPys, PyData.shownAll, D.wids, List.map_cons, List.sum_cons]
    have h1 := shown_le d h.1 g.1
    have h2 := shown_les ds h.2 g.2
    omega
end
mutual
theorem showable_of : ∀ d : D, d.shw = true → (toPy d).showable = true
  | .non, _ => by simp [toPy, PyData.showable]
  | .bl _, _ => by simp [toPy, PyData.showable]
  | .ref _, _ => by simp [toPy, PyData.showable]
  | .exc _ _, _ => by simp [toPy, PyData.showable]
  | .str _, _ => by simp [toPy, PyData.showable]
  | .int i, h => by
    simp only [D.shw, decide_eq_true_eq] at h
    simp only [toPy, PyData.showable, decide_eq_true_eq]
    omega
  | .tup xs, g => by
    simp only [D.shw] at g
    simp only [toPy, PyData.showable]
    exact showables_of xs g
  | .frl xs, g => by
    simp only [D.shw] at g
    simp only [toPy, PyData.showable]
    exact showables_of xs g
theorem showables_of : ∀ ds : List D, D.shws ds = true → PyData.showableAll (toPys ds) = true
  | [], _ => by simp [toPys, PyData.showableAll]
  | d :: ds, g => by
    simp only [D.shws, Bool.and_eq_true] at g
    simp only [toPys, PyData.showableAll, Bool.and_eq_true]
    exact ⟨showable_of d g.1, showables_of ds g.2⟩
end
theorem codes_eq (s : String) : (Str.ofString s) = ⟨(codes s).toArray⟩ := Str.ofString_eq_toList s

section
variable {X : Cx}
theorem call_repr (hg : X.A.guards = some []) (hu : X.A.units + 66 < cLine) : CallR X (.builtin "repr") (rC X.K (bltop .repr)) := by
  intro pins s σ H vs us Q I r ⟨ds, S, M, n0, d, S', hn, R, uz, hz, e, P⟩
  obtain ⟨x, rfl⟩ : ∃ x, ds = [x] := by
    rcases ds with _ | ⟨x, _ | ⟨y, t⟩⟩
    · simp [bltop] at e
    · exact ⟨x, rfl⟩
    · simp [bltop] at e
  simp only [bltop] at e
  obtain ⟨hr, e⟩ := st_ne e
  obtain ⟨rfl, rfl⟩ := ok_inj e
  simp only [RDs] at hz
  obtain ⟨v, w, rfl, hx, rfl⟩ := hz
  obtain ⟨u, rfl, ru⟩ := vals1 r
  simp only [repOk, Bool.and_eq_true, decide_eq_true_eq] at hr
  obtain ⟨⟨h1, h2⟩, h3⟩ := hr
  have h1' := h1
  simp only [datOk, Bool.and_eq_true, decide_eq_true_eq] at h1'
  have hl := shown_le _ h1'.2 h2
  have hsz : (toPy (rsv S x)).shown.length ≤ sizeLine := by
    rw [sl_eq]
    exact Nat.le_trans hl h3
  have dp := DpD.py _ _ (datOk_pure h1) (datOk_dep h1) (hx.rsv R)
  obtain ⟨as, rd⟩ := Dp.reads I _ v u dp ru
  have q : Q (.str (toPy (rsv S x)).shown) H := by
    have := P.same R (v := .str (toPy (rsv S x)).shown) (by simp [D.und]) (by simp [RD, shown])
    exact this
  have hd := toPy_dep (rsv S x)
  have sh := showable_of _ h2
  have nd : (toPy (rsv S x)).hasDict = false := PyData.hasDict_of_canLay _ (toPy_lay _ h1'.2)
  generalize toPy (rsv S x) = p at dp rd hsz q hd sh nd
  cases rd with
  | none => exact PySem.P.repr_of_none ⟨.str _, H, I.tok _, ⟨_, rfl⟩, by simpa [PyData.shown] using q⟩
  | bool b => exact PySem.P.repr_of_bool ⟨.str _, H, I.tok _, ⟨_, rfl⟩, by simpa [PyData.shown] using q⟩
  | int i t =>
    simp only [PyData.showable, decide_eq_true_eq] at sh
    exact PySem.P.repr_of_int sh ⟨.str _, H, I.tok _, ⟨_, rfl⟩, by simpa [PyData.shown] using q⟩
  | str y t =>
    simp only [PyData.shown] at hsz q
    exact PySem.P.repr_of_str ⟨.str _, H, I.tok _, ⟨_, rfl⟩, q⟩ hsz
  | list a b c d =>
    exact repr_of_reads' (h₀ := s.heap) (.list a b c d) sh (PyData.noDict_hsm nd) hg (by omega) (fun _ _ z => z) (fun h' u tk hk => ⟨.str _, H, I.kept hk, ⟨_, rfl⟩, q⟩) hsz
  | tuple a b c d =>
    exact repr_of_reads' (h₀ := s.heap) (.tuple a b c d) sh (PyData.noDict_hsm nd) hg (by omega) (fun _ _ z => z) (fun h' u tk hk => ⟨.str _, H, I.kept hk, ⟨_, rfl⟩, q⟩) hsz
  | dict a b c d e => cases nd

theorem int_lst {K : PySem.W.Frag} {H : Hp} {M : Mp} : ∀ {ds : List D} {vs : List V} {ns : List Int}, intLst ds = some ns → RDs K H M ds vs → vs = ns.map V.int
  | [], vs, ns, e, h => by
    simp only [intLst, Option.some.injEq] at e
    simp only [RDs] at h
    subst e h
    rfl
  | d :: ds, vs, ns, e, h => by
    simp only [RDs] at h
    obtain ⟨v, r, rfl, h1, h2⟩ := h
    cases d <;> simp only [intLst] at e <;> try cases e
    obtain ⟨ms, e1, e2⟩ := Option.map_eq_some_iff.mp e
    subst e2
    simp only [RD] at h1
    subst h1
    rw [int_lst e1 h2]
    rfl
theorem bl_lst {K : PySem.W.Frag} {H : Hp} {M : Mp} : ∀ {ds : List D} {vs : List V} {ns : List Bool}, blLst ds = some ns → RDs K H M ds vs → vs = ns.map V.bl
  | [], vs, ns, e, h => by
    simp only [blLst, Option.some.injEq] at e
    simp only [RDs] at h
    subst e h
    rfl
  | d :: ds, vs, ns, e, h => by
    simp only [RDs] at h
    obtain ⟨v, r, rfl, h1, h2⟩ := h
    cases d <;> simp only [blLst] at e <;> try cases e
    obtain ⟨ms, e1, e2⟩ := Option.map_eq_some_iff.mp e
    subst e2
    simp only [RD] at h1
    subst h1
    rw [bl_lst e1 h2]
    rfl
def strV (s : List Nat) : V := .str ⟨s.toArray⟩
theorem str_lst {K : PySem.W.Frag} {H : Hp} {M : Mp} : ∀ {ds : List D} {vs : List V} {ns : List (List Nat)}, strLst ds = some ns → RDs K H M ds vs → vs = (ns.map fun s => (⟨s.toArray⟩ : Str)).map V.str
  | [], vs, ns, e, h => by
    simp only [strLst, Option.some.injEq] at e
    simp only [RDs] at h
    subst e h
    rfl
  | d :: ds, vs, ns, e, h => by
    simp only [RDs] at h
    obtain ⟨v, r, rfl, h1, h2⟩ := h
    cases d <;> simp only [strLst] at e <;> try cases e
    obtain ⟨ms, e1, e2⟩ := Option.map_eq_some_iff.mp e
    subst e2
    simp only [RD] at h1
    subst h1
    rw [str_lst e1 h2]
    rfl
theorem maxI_of : ∀ (l : List Int) (i m : Int), m ∈ i :: l → (∀ y, y ∈ i :: l → y ≤ m) → maxI i l = m
  | [], i, m, h, _ => by
    have := List.mem_singleton.mp h
    simp [maxI, this]
  | x :: l, i, m, h, g => by
    unfold maxI
    refine maxI_of l _ m ?_ fun y hy => ?_
    · have hi := g i (by simp)
      have hx := g x (by simp)
      rcases List.mem_cons.mp h with e | h
      · by_cases q : x > i
        · omega
        · rw [if_neg q, e]
          exact List.mem_cons_self
      · rcases List.mem_cons.mp h with e | h
        · by_cases q : x > i
          · rw [if_pos q, e]
            exact List.mem_cons_self
          · have : i = m := by omega
            rw [if_neg q, this]
            exact List.mem_cons_self
        · exact List.mem_cons_of_mem _ h
    · rcases List.mem_cons.mp hy with e | hy
      · by_cases q : x > i
        · rw [e, if_pos q]
          exact g x (by simp)
        · rw [e, if_neg q]
          exact g i (by simp)
      · exact g y (List.mem_cons_of_mem _ (List.mem_cons_of_mem _ hy))
theorem minI_of : ∀ (l : List Int) (i m : Int), m ∈ i :: l → (∀ y, y ∈ i :: l → m ≤ y) → minI i l = m
  | [], i, m, h, _ => by
    have := List.mem_singleton.mp h
    simp [minI, this]
  | x :: l, i, m, h, g => by
    unfold minI
    refine minI_of l _ m ?_ fun y hy => ?_
    · have hi := g i (by simp)
      have hx := g x (by simp)
      rcases List.mem_cons.mp h with e | h
      · by_cases q : x < i
        · omega
        · rw [if_neg q, e]
          exact List.mem_cons_self
      · rcases List.mem_cons.mp h with e | h
        · by_cases q : x < i
          · rw [if_pos q, e]
            exact List.mem_cons_self
          · have : i = m := by omega
            rw [if_neg q, this]
            exact List.mem_cons_self
        · exact List.mem_cons_of_mem _ h
    · rcases List.mem_cons.mp hy with e | hy
      · by_cases q : x < i
        · rw [e, if_pos q]
          exact g x (by simp)
        · rw [e, if_neg q]
          exact g i (by simp)
      · exact g y (List.mem_cons_of_mem _ (List.mem_cons_of_mem _ hy))
/-- the list that a ref means -/
theorem seq_ref {K : PySem.W.Frag} {H : Hp} {M : Mp} {S : Sto} {k : Nat} {xs : List D} (R : RelS K H M S) (e : seqOf S (.ref k) = some xs) : S[k]? = some (.lst xs) := by
  simp only [seqOf] at e
  split at e
  · rename_i h
    rw [h, Option.some.inj e]
  · cases e

/-- the callee of a built-in -/
def bltV : Blt → Option Value
  | .int => some (.type "int") | .str => some (.type "str") | .tuple => some (.type "tuple") | .list => some (.type "list")
  | .len => some (.builtin "len") | .repr => some (.builtin "repr") | .min => some (.builtin "min") | .max => some (.builtin "max") | .sum => some (.builtin "sum")
  | .any => some (.builtin "any") | .all => some (.builtin "all") | .abs => some (.builtin "abs") | .gcd => some (.builtin "math.gcd")
  | _ => none
theorem RDs.one' {K : PySem.W.Frag} {H : Hp} {M : Mp} {d : D} {vs : List V} (h : RDs K H M [d] vs) : ∃ v, vs = [v] ∧ RD K H M d v := by
  simp only [RDs] at h
  obtain ⟨v, r, rfl, h1, rfl⟩ := h
  exact ⟨v, rfl, h1⟩
theorem RDs.two' {K : PySem.W.Frag} {H : Hp} {M : Mp} {d e : D} {vs : List V} (h : RDs K H M [d, e] vs) : ∃ v w, vs = [v, w] ∧ RD K H M d v ∧ RD K H M e w := by
  simp only [RDs] at h
  obtain ⟨v, r, rfl, h1, w, r2, rfl, h2, rfl⟩ := h
  exact ⟨v, w, rfl, h1, h2⟩
theorem unds_one {n : Nat} {d : D} (h : D.unds n [d] = true) : d.und n = true := by simpa [D.unds] using h
theorem call_D (b : Blt) (f : Value) (hf : bltV b = some f) (hc : X.calm = true) (hg : X.A.guards = some []) (hu : X.A.units + 66 < cLine) : CallR X f (rC X.K (bltop b)) := by
  by_cases hb : b = .repr
  · subst hb
    cases hf
    exact call_repr hg hu
  intro pins s σ H vs us Q I r ⟨ds, S, M, n0, d, S', hn, R, uz, hz, e, P⟩
  unfold bltop at e
  split at e
  · cases hf
    obtain ⟨rfl, rfl⟩ := ok_inj e
    obtain ⟨v, rfl, h1⟩ := hz.one'
    simp only [RD] at h1
    subst h1
    exact call_int1 pins s σ H _ us Q I r (.inl ⟨_, rfl, P.same R (by simp [D.und]) (by simp [RD])⟩)
  · cases hf
    obtain ⟨rfl, rfl⟩ := ok_inj e
    obtain ⟨v, rfl, h1⟩ := hz.one'
    simp only [RD] at h1
    subst h1
    exact call_int1 pins s σ H _ us Q I r (.inr ⟨_, rfl, P.same R (by simp [D.und]) (by simp [RD])⟩)
  · cases hf
    obtain ⟨hl, e⟩ := st_ne e
    obtain ⟨rfl, rfl⟩ := ok_inj e
    obtain ⟨v, rfl, h1⟩ := hz.one'
    simp only [RD] at h1
    subst h1
    exact call_str_int pins s σ H _ us Q I r ⟨_, rfl, by omega, P.same R (by simp [D.und]) (by simp only [RD, digs]; rw [codes_eq])⟩
  · cases hf
    obtain ⟨rfl, rfl⟩ := ok_inj e
    obtain ⟨v, rfl, h1⟩ := hz.one'
    simp only [RD] at h1
    obtain ⟨a, ws, rfl, h2, h3⟩ := h1
    exact call_len pins s σ H _ us Q I r ⟨_, _, rfl, .inr ⟨ws, h2, rfl⟩, P.same R (by simp [D.und]) (by simp only [RD]; rw [h3.len])⟩
  · cases hf
    obtain ⟨hl, e⟩ := st_ne e
    obtain ⟨rfl, rfl⟩ := ok_inj e
    obtain ⟨v, rfl, h1⟩ := hz.one'
    simp only [RD] at h1
    subst h1
    exact call_len pins s σ H _ us Q I r ⟨_, _, rfl, ⟨by rw [sl_eq]; simpa [Str.length] using hl, rfl⟩, P.same R (by simp [D.und]) (by simp [RD, Str.length])⟩
  · cases hf
    obtain ⟨v, rfl, h1⟩ := hz.one'
    simp only [RD] at h1
    split at e
    · rename_i xs hk
      obtain ⟨rfl, rfl⟩ := ok_inj e
      obtain ⟨ws, h2, h3⟩ := R.ob _ _ hk
      subst h1
      exact call_len pins s σ H _ us Q I r ⟨_, _, rfl, .inl ⟨ws, SqL.of h2, rfl⟩, P.same R (by simp [D.und]) (by simp only [RD]; rw [h3.len])⟩
    · rename_i hk
      exact False.elim (R.ob _ _ hk)
    · cases e
  · cases hf
    obtain ⟨rfl, rfl⟩ := ok_inj e
    obtain ⟨v, rfl, h1⟩ := hz.one'
    have h1' := h1
    simp only [RD] at h1
    obtain ⟨a, ws, rfl, h2, h3⟩ := h1
    exact call_tuple_of pins s σ H _ us Q I r ⟨a, ws, rfl, .inr ⟨h2, P.same R (unds_one uz) h1'⟩⟩
  · cases hf
    obtain ⟨v, rfl, h1⟩ := hz.one'
    simp only [RD] at h1
    split at e
    · rename_i xs hk
      obtain ⟨rfl, rfl⟩ := ok_inj e
      obtain ⟨ws, h2, h3⟩ := R.ob _ _ hk
      subst h1
      exact call_tuple_of pins s σ H _ us Q I r ⟨_, ws, rfl, .inl ⟨SqL.of h2, fun p hp => P.tup R (R.und _ _ hk) h3 hp⟩⟩
    · cases e
  · cases hf
    obtain ⟨rfl, rfl⟩ := ok_inj e
    obtain ⟨v, rfl, h1⟩ := hz.one'
    have h1' := unds_one uz
    simp only [D.und] at h1'
    simp only [RD] at h1
    obtain ⟨a, ws, rfl, h2, h3⟩ := h1
    exact call_list_of pins s σ H _ us Q I r ⟨a, ws, rfl, .inr h2, fun p hp => P.lst R hn h1' h3 hp⟩
  · cases hf
    obtain ⟨v, rfl, h1⟩ := hz.one'
    simp only [RD] at h1
    split at e
    · rename_i xs hk
      obtain ⟨rfl, rfl⟩ := ok_inj e
      obtain ⟨ws, h2, h3⟩ := R.ob _ _ hk
      subst h1
      exact call_list_of pins s σ H _ us Q I r ⟨_, ws, rfl, .inl (SqL.of h2), fun p hp => P.lst R hn (R.und _ _ hk) h3 hp⟩
    · rename_i hk
      exact False.elim (R.ob _ _ hk)
    · cases e
  · cases hf
  · exact absurd rfl hb
  · cases hf
    obtain ⟨rfl, rfl⟩ := ok_inj e
    obtain ⟨v, w, rfl, h1, h2⟩ := hz.two'
    simp only [RD] at h1 h2
    subst h1 h2
    exact call_min2 hc pins s σ H _ us Q I r ⟨_, _, rfl, P.same R (by simp [D.und]) (by simp [RD])⟩
  · cases hf
    obtain ⟨rfl, rfl⟩ := ok_inj e
    obtain ⟨v, w, rfl, h1, h2⟩ := hz.two'
    simp only [RD] at h1 h2
    subst h1 h2
    exact call_max2 hc pins s σ H _ us Q I r ⟨_, _, rfl, P.same R (by simp [D.und]) (by simp [RD])⟩
  · cases hf
    split at e
    · rename_i i t hi
      obtain ⟨rfl, rfl⟩ := ok_inj e
      obtain ⟨xs, h2, h3⟩ := Option.bind_eq_some_iff.mp hi
      obtain ⟨ws, h4, h5⟩ := R.ob _ _ (seq_ref R h2)
      obtain ⟨v, rfl, h1⟩ := hz.one'
      simp only [RD] at h1
      subst h1
      have e2 := int_lst h3 h5
      subst e2
      refine cr_min hc pins s σ H _ us Q I r ⟨_, i :: t, rfl, SqL.of h4, by simp, fun m hm hle => ?_⟩
      have := P.same R (v := .int (minI i t)) (by simp [D.und]) (by simp [RD])
      rwa [minI_of t i m hm hle] at this
    · cases e
  · cases hf
    split at e
    · rename_i i t hi
      obtain ⟨rfl, rfl⟩ := ok_inj e
      obtain ⟨xs, h2, h3⟩ := Option.bind_eq_some_iff.mp hi
      obtain ⟨ws, h4, h5⟩ := R.ob _ _ (seq_ref R h2)
      obtain ⟨v, rfl, h1⟩ := hz.one'
      simp only [RD] at h1
      subst h1
      have e2 := int_lst h3 h5
      subst e2
      refine cr_max hc pins s σ H _ us Q I r ⟨_, i :: t, rfl, SqL.of h4, by simp, fun m hm hle => ?_⟩
      have := P.same R (v := .int (maxI i t)) (by simp [D.und]) (by simp [RD])
      rwa [maxI_of t i m hm hle] at this
    · cases e
  · cases hf
    split at e
    · rename_i t hi
      obtain ⟨rfl, rfl⟩ := ok_inj e
      obtain ⟨xs, h2, h3⟩ := Option.bind_eq_some_iff.mp hi
      obtain ⟨ws, h4, h5⟩ := R.ob _ _ (seq_ref R h2)
      obtain ⟨v, rfl, h1⟩ := hz.one'
      simp only [RD] at h1
      subst h1
      have e2 := int_lst h3 h5
      subst e2
      exact cr_sum hc pins s σ H _ us Q I r ⟨_, t, rfl, SqL.of h4, P.same R (by simp [D.und]) (by simp [RD])⟩
    · cases e
  · cases hf
    split at e
    · rename_i t hi
      obtain ⟨rfl, rfl⟩ := ok_inj e
      obtain ⟨xs, h2, h3⟩ := Option.bind_eq_some_iff.mp hi
      obtain ⟨ws, h4, h5⟩ := R.ob _ _ (seq_ref R h2)
      obtain ⟨v, rfl, h1⟩ := hz.one'
      simp only [RD] at h1
      subst h1
      have e2 := bl_lst h3 h5
      subst e2
      exact cr_any hc pins s σ H _ us Q I r ⟨_, t, rfl, SqL.of h4, P.same R (by simp [D.und]) (by simp [RD])⟩
    · cases e
  · cases hf
    split at e
    · rename_i t hi
      obtain ⟨rfl, rfl⟩ := ok_inj e
      obtain ⟨xs, h2, h3⟩ := Option.bind_eq_some_iff.mp hi
      obtain ⟨ws, h4, h5⟩ := R.ob _ _ (seq_ref R h2)
      obtain ⟨v, rfl, h1⟩ := hz.one'
      simp only [RD] at h1
      subst h1
      have e2 := bl_lst h3 h5
      subst e2
      exact cr_all hc pins s σ H _ us Q I r ⟨_, t, rfl, SqL.of h4, P.same R (by simp [D.und]) (by simp [RD])⟩
    · cases e
  · cases hf
    obtain ⟨rfl, rfl⟩ := ok_inj e
    obtain ⟨v, rfl, h1⟩ := hz.one'
    simp only [RD] at h1
    subst h1
    exact call_abs pins s σ H _ us Q I r ⟨_, rfl, P.same R (by simp [D.und]) (by simp [RD])⟩
  · cases hf
    obtain ⟨rfl, rfl⟩ := ok_inj e
    obtain ⟨v, w, rfl, h1, h2⟩ := hz.two'
    simp only [RD] at h1 h2
    subst h1 h2
    exact cr_gcd pins s σ H _ us Q I r ⟨_, _, rfl, P.same R (by simp [D.und]) (by simp [RD])⟩
  · cases e

/-! ### methods -/
/-- a method of a built-in type -/
def rM (K : PySem.W.Frag) (m : Mt) : V → List V → Hp → VK → Prop := fun x' vs H Q => ∃ x ds S M n0 d S', n0 ≤ S.length ∧ RelS K H M S ∧ x.und S.length = true ∧ D.unds S.length ds = true ∧ RD K H M x x' ∧ RDs K H M ds vs ∧ mthop n0 m x ds S = .ok d S' ∧ Post K n0 H M S d S' Q
theorem last_of {α : Type} {xs : List α} {x : α} (h : xs.getLast? = some x) : xs[xs.length - 1]? = some x := by rw [← List.getLast?_eq_getElem?]; exact h
theorem RDs.last {K : PySem.W.Frag} {H : Hp} {M : Mp} {ds : List D} {vs : List V} {d : D} (h : RDs K H M ds vs) (e : ds.getLast? = some d) : ∃ v, vs[vs.length - 1]? = some v ∧ RD K H M d v := by
  rw [h.len]
  exact h.get (last_of e)
theorem RDs.dropLast {K : PySem.W.Frag} {H : Hp} {M : Mp} {ds : List D} {vs : List V} (h : RDs K H M ds vs) : RDs K H M ds.dropLast vs.dropLast := by
  rw [List.dropLast_eq_take, List.dropLast_eq_take, h.len]
  exact h.take _
theorem mt_appendD : MtR X "list.append" (rM X.K .append) := by
  intro pins s σ H x' vs v us Q I rx rs ⟨x, ds, S, M, n0, d, S', hn, R, ux, uz, hx, hz, e, P⟩
  unfold mthop at e
  split at e <;> first | contradiction | skip
  rename_i k w _
  split at e
  · rename_i xs hk
    split at e
    · cases e
    · rename_i hw
      obtain ⟨rfl, rfl⟩ := ok_inj e
      obtain ⟨v2, rfl, h1⟩ := hz.one'
      simp only [RD] at hx
      subst hx
      obtain ⟨ws, h2, h3⟩ := R.ob _ _ hk
      refine mt_append pins s σ H _ _ v us Q I rx rs ⟨_, ws, v2, rfl, rfl, h2, by rw [sl_eq, h3.len]; omega, ?_⟩
      refine P.put R hk (fun h d hd => ?_) (unds_app (R.und _ _ hk) uz) (h3.app (RDs.one h1)) (by simp [RD]) (by simp [D.und])
      rcases List.mem_append.mp hd with q | q
      · exact .inr q
      · rw [List.mem_singleton.mp q]
        refine .inl ?_
        cases e3 : D.pure w with
        | true => rfl
        | false => exact absurd (.inl ⟨h, e3⟩) hw
  · cases e
theorem mt_popD : MtR X "list.pop" (rM X.K .pop) := by
  intro pins s σ H x' vs v us Q I rx rs ⟨x, ds, S, M, n0, d, S', hn, R, ux, uz, hx, hz, e, P⟩
  unfold mthop at e
  split at e <;> first | contradiction | skip
  split at e
  · rename_i xs hk
    split at e
    · rename_i y hy
      obtain ⟨rfl, rfl⟩ := ok_inj e
      simp only [RDs] at hz
      subst hz
      simp only [RD] at hx
      subst hx
      obtain ⟨ws, h2, h3⟩ := R.ob _ _ hk
      obtain ⟨w, h4, h5⟩ := h3.last hy
      refine mt_pop pins s σ H _ _ v us Q I rx rs ⟨_, ws, w, rfl, rfl, h2, h4, ?_⟩
      exact P.put R hk (fun h d hd => .inr (List.dropLast_subset _ hd)) (unds_sub (R.und _ _ hk) fun d hd => List.dropLast_subset _ hd) h3.dropLast h5 (unds_mem (R.und _ _ hk) _ (List.mem_of_getElem? (last_of hy)))
    · cases e
  · cases e
theorem mt_extendD : MtR X "list.extend" (rM X.K .extend) := by
  intro pins s σ H x' vs v us Q I rx rs ⟨x, ds, S, M, n0, d, S', hn, R, ux, uz, hx, hz, e, P⟩
  unfold mthop at e
  split at e <;> first | contradiction | skip
  split at e
  · rename_i xs ys hk hj
    split at e
    · cases e
    · rename_i hw
      obtain ⟨rfl, rfl⟩ := ok_inj e
      obtain ⟨v2, rfl, h1⟩ := hz.one'
      simp only [RD] at hx h1
      subst hx h1
      obtain ⟨ws, h2, h3⟩ := R.ob _ _ hk
      obtain ⟨zs, h4, h5⟩ := R.ob _ _ hj
      refine mt_extend pins s σ H _ _ v us Q I rx rs ⟨_, _, ws, zs, rfl, rfl, h2, h4, by rw [sl_eq, h3.len, h5.len]; omega, ?_⟩
      refine P.put R hk (fun h d hd => ?_) (unds_app (R.und _ _ hk) (R.und _ _ hj)) (h3.app h5) (by simp [RD]) (by simp [D.und])
      rcases List.mem_append.mp hd with q | q
      · exact .inr q
      · refine .inl ?_
        cases e3 : D.unds 0 ys with
        | true => exact unds_mem e3 d q
        | false => exact absurd (.inl ⟨h, e3⟩) hw
  · cases e
theorem join_eq (sep : List Nat) (ts : List (List Nat)) : Txt.join ⟨sep.toArray⟩ (ts.map fun s => (⟨s.toArray⟩ : Str)) = ⟨(joinS sep ts).toArray⟩ := by
  rw [show Txt.join ⟨sep.toArray⟩ (ts.map fun s => (⟨s.toArray⟩ : Str)) = Str.join ⟨sep.toArray⟩ (ts.map fun s => (⟨s.toArray⟩ : Str)) from PySem.StrLaws.glued_eq_join _ _]
  induction ts with
  | nil => rfl
  | cons x r ih =>
    cases r with
    | nil => rfl
    | cons y r =>
      show Str.append (Str.append _ _) (Str.join ⟨sep.toArray⟩ ((y :: r).map fun s => (⟨s.toArray⟩ : Str))) = _
      rw [ih]
      simp [Str.append, joinS]
theorem mt_joinD : MtR X "str.join" (rM X.K .join) := by
  intro pins s σ H x' vs v us Q I rx rs ⟨x, ds, S, M, n0, d, S', hn, R, ux, uz, hx, hz, e, P⟩
  unfold mthop at e
  split at e <;> first | contradiction | skip
  rename_i sep w _
  split at e
  · rename_i ts ht
    obtain ⟨hl, e⟩ := st_ne e
    obtain ⟨rfl, rfl⟩ := ok_inj e
    obtain ⟨v2, rfl, h1⟩ := hz.one'
    simp only [RD] at hx
    subst hx
    obtain ⟨xs, h2, h3⟩ := Option.bind_eq_some_iff.mp ht
    have q : Q (.str (Txt.join ⟨sep.toArray⟩ (ts.map fun s => (⟨s.toArray⟩ : Str)))) H := by
      rw [join_eq]
      exact P.same R (by simp [D.und]) (by simp [RD])
    have hl2 : ((ts.map fun s => (⟨s.toArray⟩ : Str)).map (·.length)).sum + (ts.map fun s => (⟨s.toArray⟩ : Str)).length * Str.length ⟨sep.toArray⟩ ≤ 16777216 := by
      have e1 : (ts.map fun s => (⟨s.toArray⟩ : Str)).map (·.length) = ts.map List.length := by
        rw [List.map_map]
        exact List.map_congr_left fun s _ => by simp [Str.length]
      rw [e1, List.length_map]
      simpa [Str.length] using hl
    have hp : ∃ p, v2 = .ref p ∧ (SqL X.K H p ((ts.map fun s => (⟨s.toArray⟩ : Str)).map V.str) ∨ SqT X.K H p ((ts.map fun s => (⟨s.toArray⟩ : Str)).map V.str)) := by
      unfold seqOf at h2
      split at h2
      · have e2 := Option.some.inj h2
        subst e2
        simp only [RD] at h1
        obtain ⟨a, ws, rfl, h4, h5⟩ := h1
        rw [str_lst h3 h5] at h4
        exact ⟨a, rfl, .inr h4⟩
      · split at h2
        · rename_i k ys hk
          have e2 := Option.some.inj h2
          subst e2
          simp only [RD] at h1
          obtain ⟨ws, h4, h5⟩ := R.ob _ _ hk
          rw [str_lst h3 h5] at h4
          exact ⟨_, h1, .inl (SqL.of h4)⟩
        · cases h2
      · cases h2
    obtain ⟨p, rfl, hp⟩ := hp
    exact mt_join pins s σ H _ _ v us Q I rx rs ⟨_, p, _, rfl, rfl, hp, hl2, q⟩
  · cases e
end
end Ev

set_option Elab.async false
set_option linter.all false
set_option autoImplicit false
set_option maxRecDepth 100000
set_option maxHeartbeats 4000000
/-! Ev6: which text a term of the small language stands for. -/
namespace Ev
open PySem PySem.Spec PyProof.Rows L2

/-! ### looks at the text -/
def vBin : Expr → Option (Expr × Operator × Expr)
  | .BinOp a o b _ => some (a, o, b)
  | _ => none
def vUn : Expr → Option (UnaryOp × Expr)
  | .UnaryOp o a _ => some (o, a)
  | _ => none
def vBool : Expr → Option (BoolOp × List Expr)
  | .BoolOp o es _ => some (o, es)
  | _ => none
def vCmp : Expr → Option (Expr × List CmpOp × List Expr)
  | .Compare a os es _ => some (a, os, es)
  | _ => none
def vConst : Expr → Option Const
  | .Constant c _ _ => some c
  | _ => none
def vName : Expr → Option Str
  | .Name x _ => some x
  | _ => none
def vTup : Expr → Option (List Expr)
  | .Tuple es _ _ => some es
  | _ => none
def vLst : Expr → Option (List Expr)
  | .List es _ => some es
  | _ => none
def vDic : Expr → Option (List (Option Expr) × List Expr)
  | .Dict ks vs _ => some (ks, vs)
  | _ => none
def vIf : Expr → Option (Expr × Expr × Expr)
  | .IfExp c a b _ => some (c, a, b)
  | _ => none
def vSub : Expr → Option (Expr × Expr)
  | .Subscript a b _ => some (a, b)
  | _ => none
def vSli : Expr → Option (Option Expr × Option Expr × Option Expr)
  | .Slice a b c _ => some (a, b, c)
  | _ => none
def vCall : Expr → Option (Expr × List Expr)
  | .Call f es [] _ => some (f, es)
  | _ => none
def vAttr : Expr → Option (Expr × Str × Nat)
  | .Attribute o x p => some (o, x, p.endLine)
  | _ => none
def vLine : Expr → Nat
  | .Call _ _ _ p => p.line
  | _ => 0
def vLc : Expr → Option (Expr × Expr × Expr × List Expr × Scope)
  | .ListComp e [⟨t, i, c, a⟩] sc _ => if a = 0 then some (e, t, i, c, sc) else none
  | _ => none
section
variable {x : Expr}
theorem vBin_ok {a b o} (h : vBin x = some (a, o, b)) : ∃ p, x = .BinOp a o b p := by cases x <;> simp [vBin] at h; obtain ⟨rfl, rfl, rfl⟩ := h; exact ⟨_, rfl⟩
theorem vUn_ok {o a} (h : vUn x = some (o, a)) : ∃ p, x = .UnaryOp o a p := by cases x <;> simp [vUn] at h; obtain ⟨rfl, rfl⟩ := h; exact ⟨_, rfl⟩
theorem vBool_ok {o a} (h : vBool x = some (o, a)) : ∃ p, x = .BoolOp o a p := by cases x <;> simp [vBool] at h; obtain ⟨rfl, rfl⟩ := h; exact ⟨_, rfl⟩
theorem vCmp_ok {a o b} (h : vCmp x = some (a, o, b)) : ∃ p, x = .Compare a o b p := by cases x <;> simp [vCmp] at h; obtain ⟨rfl, rfl, rfl⟩ := h; exact ⟨_, rfl⟩
theorem vConst_ok {c} (h : vConst x = some c) : ∃ j p, x = .Constant c j p := by cases x <;> simp [vConst] at h; subst h; exact ⟨_, _, rfl⟩
theorem vName_ok {c} (h : vName x = some c) : ∃ p, x = .Name c p := by cases x <;> simp [vName] at h; subst h; exact ⟨_, rfl⟩
theorem vTup_ok {c} (h : vTup x = some c) : ∃ j p, x = .Tuple c j p := by cases x <;> simp [vTup] at h; subst h; exact ⟨_, _, rfl⟩
theorem vLst_ok {c} (h : vLst x = some c) : ∃ p, x = .List c p := by cases x <;> simp [vLst] at h; subst h; exact ⟨_, rfl⟩
theorem vDic_ok {a b} (h : vDic x = some (a, b)) : ∃ p, x = .Dict a b p := by cases x <;> simp [vDic] at h; obtain ⟨rfl, rfl⟩ := h; exact ⟨_, rfl⟩
theorem vIf_ok {a b c} (h : vIf x = some (a, b, c)) : ∃ p, x = .IfExp a b c p := by cases x <;> simp [vIf] at h; obtain ⟨rfl, rfl, rfl⟩ := h; exact ⟨_, rfl⟩
theorem vSub_ok {a b} (h : vSub x = some (a, b)) : ∃ p, x = .Subscript a b p := by cases x <;> simp [vSub] at h; obtain ⟨rfl, rfl⟩ := h; exact ⟨_, rfl⟩
theorem vSli_ok {a b c} (h : vSli x = some (a, b, c)) : ∃ p, x = .Slice a b c p := by cases x <;> simp [vSli] at h; obtain ⟨rfl, rfl, rfl⟩ := h; exact ⟨_, rfl⟩
theorem vCall_ok {f es} (h : vCall x = some (f, es)) : ∃ p, x = .Call f es [] p ∧ vLine x = p.line := by
  cases x with
  | Call g as ks p =>
    cases ks with
    | nil => simp [vCall] at h; obtain ⟨rfl, rfl⟩ := h; exact ⟨p, rfl, rfl⟩
    | cons _ _ => simp [vCall] at h
  | _ => simp [vCall] at h
theorem vAttr_ok {o y n} (h : vAttr x = some (o, y, n)) : ∃ p, x = .Attribute o y p ∧ p.endLine = n := by cases x <;> simp [vAttr] at h; obtain ⟨rfl, rfl, rfl⟩ := h; exact ⟨_, rfl, rfl⟩
theorem vLc_ok {e t i c sc} (h : vLc x = some (e, t, i, c, sc)) : ∃ p, x = .ListComp e [⟨t, i, c, 0⟩] sc p := by
  cases x with
  | ListComp e' gs sc' p =>
    match gs with
    | [] => simp [vLc] at h
    | _ :: _ :: _ => simp [vLc] at h
    | [⟨t', i', c', a⟩] =>
      simp only [vLc] at h
      split at h
      · rename_i ha
        subst ha
        simp at h
        obtain ⟨rfl, rfl, rfl, rfl, rfl⟩ := h
        exact ⟨p, rfl⟩
      · cases h
  | _ => simp [vLc] at h
end

/-! ### names -/
def visB (sc : Scope) (x : Str) : Bool := match sc.names.lookup x with
  | some .local => true
  | some .cell => true
  | some .free => true
  | _ => false
def locB (sc : Scope) (x : Str) : Bool := match sc.names.lookup x with
  | some .local => true
  | some .cell => true
  | _ => false
def plainB (x : Str) : Bool := !(x == ("__debug__" : Str)) && (!(x == ("__classdict__" : Str)) && !decide (x = ("__name__" : Str)))
def gloB (sc : Scope) (x : Str) : Bool := decide (sc.names.lookup x = some .globalImplicit) && plainB x
theorem visB_ok {sc : Scope} {x : Str} (h : visB sc x = true) : Vis sc x := by
  unfold visB at h
  split at h
  · exact .inl (by assumption)
  · exact .inr (.inl (by assumption))
  · exact .inr (.inr (by assumption))
  · cases h
theorem locB_ok {sc : Scope} {x : Str} (h : locB sc x = true) : Loc sc x := by
  unfold locB at h
  split at h
  · exact .inl (by assumption)
  · exact .inr (by assumption)
  · cases h

/-- what is common to all defs of a text: the defs' names, the constants' names -/
structure Tb where
  fs : List Str
  gs : List Str
  gcd : Bool
def bopB : Bop → Operator → Bool
  | .add, .Add => true | .sub, .Sub => true | .mul, .Mult => true | .fdiv, .FloorDiv => true | .mod, .Mod => true | .pow, .Pow => true
  | _, _ => false
def copB : Cop → CmpOp → Bool
  | .eq, .Eq => true | .ne, .NotEq => true | .lt, .Lt => true | .le, .LtE => true | .gt, .Gt => true | .ge, .GtE => true | .isin, .In => true | .notin, .NotIn => true
  | _, _ => false
theorem bopB_ok {o : Bop} {p : Operator} (h : bopB o p = true) : p = bopOf o := by cases o <;> cases p <;> first | rfl | cases h
theorem copB_ok {o : Cop} {p : CmpOp} (h : copB o p = true) : p = copOf o := by cases o <;> cases p <;> first | rfl | cases h
def cstB : D → Const → Bool
  | .non, .none => true
  | .bl a, .bool b => a == b
  | .int a, .int b => decide (a = b)
  | .str s, .str t => decide (t.cps.toList = s)
  | _, _ => false
def bltName : Blt → Option Str
  | .int => some "int" | .str => some "str" | .tuple => some "tuple" | .list => some "list" | .len => some "len" | .repr => some "repr" | .min => some "min" | .max => some "max"
  | .sum => some "sum" | .any => some "any" | .all => some "all" | .abs => some "abs"
  | _ => none
def tyName : Ty → Str
  | .int => "int" | .str => "str" | .tup => "tuple" | .lst => "list" | .bool => "bool" | .dict => "dict"
def mtName : Mt → Str
  | .append => "append" | .pop => "pop" | .popAt => "pop" | .extend => "extend" | .insert => "insert" | .get => "get" | .get2 => "get" | .setdefault => "setdefault"
  | .count => "count" | .index => "index" | .startswith => "startswith" | .join => "join" | .split => "split" | .items => "items" | .upper => "upper"
/-- the methods that are done, with as many arguments as they have -/
def mtDone : Mt → List Expr → Bool
  | .append, [_] => true
  | .extend, [_] => true
  | .join, [_] => true
  | .pop, [] => true
  | _, _ => false
/-- no call without arguments (super) -/
def recvB : Expr → Bool
  | .Call _ [] _ _ => false
  | _ => true
/-- a written dict of texts -/
def cdE : List (List Nat × List Nat) → List (Option Expr) → List Expr → Bool
  | [], [], [] => true
  | (k, v) :: kvs, some a :: ks, b :: vs => decide (vConst a = some (.str ⟨k.toArray⟩)) && decide (vConst b = some (.str ⟨v.toArray⟩)) && cdE kvs ks vs
  | _, _, _ => false
def cdB (kvs : List (List Nat × List Nat)) (ks : List (Option Expr)) (vs : List Expr) : Bool := cdE kvs ks vs && !kvs.isEmpty && decide (kvs.length ≤ 15)
def It.pairs : It → Bool
  | .enm _ => true | .zip _ _ => true | .zip3 _ _ _ => true | .itm _ => true
  | _ => false
def isB : Isk → CmpOp → Const → Bool
  | .isN, .Is, .none => true | .notN, .IsNot, .none => true
  | .isT, .Is, .bool true => true | .notT, .IsNot, .bool true => true
  | .isF, .Is, .bool false => true | .notF, .IsNot, .bool false => true
  | _, _, _ => false
def ownP (N : List Str) (own : List Nat) : List (Str × Nat) := own.filterMap fun i => (N[i]?).map fun x => (x, i)
/-- targets: names of the block -/
def mNames (N : List Str) (sc : Scope) : List Nat → List Expr → Bool
  | [], [] => true
  | i :: is, e :: es => (match vName e with
    | some x => decide (N[i]? = some x) && locB sc x
    | none => false) && mNames N sc is es
  | _, _ => false
def mTg (N : List Str) (sc : Scope) (one : Bool) (tg : List Nat) (e : Expr) : Bool :=
  if one then mNames N sc tg [e] && decide (tg.length = 1) else (match vTup e with
    | some es => mNames N sc tg es
    | none => false)
mutual
def mE (T : Tb) (N : List Str) : Scope → E → Expr → Bool
  | sc, .var i, x => (match vName x with
    | some y => decide (N[i]? = some y) && visB sc y && plainB y
    | none => false)
  | sc, .glo g, x => (match vName x with
    | some y => decide (T.gs[g]? = some y) && gloB sc y
    | none => false)
  | _, .cst d, x => (match vConst x with
    | some c => cstB d c
    | none => false)
  | sc, .tup es, x => (match vTup x with
    | some xs => mEs T N sc es xs
    | none => false)
  | sc, .lst es, x => (match vLst x with
    | some xs => mEs T N sc es xs
    | none => false)
  | sc, .dic es, x => false
  | sc, .bin o a b, x => (match vBin x with
    | some (l, p, r) => bopB o p && mE T N sc a l && mE T N sc b r
    | none => false)
  | sc, .neg a, x => (match vUn x with
    | some (p, y) => (match p with
      | .USub => mE T N sc a y
      | _ => false)
    | none => false)
  | sc, .not a, x => (match vUn x with
    | some (p, y) => (match p with
      | .Not => mE T N sc a y
      | _ => false)
    | none => false)
  | sc, .and es, x => (match vBool x with
    | some (p, ys) => (match p with
      | .And => !ys.isEmpty && mEs T N sc es ys
      | _ => false)
    | none => false)
  | sc, .or es, x => (match vBool x with
    | some (p, ys) => (match p with
      | .Or => !ys.isEmpty && mEs T N sc es ys
      | _ => false)
    | none => false)
  | sc, .cmp o a b, x => (match vCmp x with
    | some (l, os, rs) => (match os, rs with
      | [p], [r] => copB o p && mE T N sc a l && mE T N sc b r
      | _, _ => false)
    | none => false)
  | sc, .isc o a, x => (match vCmp x with
    | some (l, os, rs) => (match os, rs with
      | [p], [r] => (match vConst r with
        | some c => isB o p c && mE T N sc a l
        | none => false)
      | _, _ => false)
    | none => false)
  | sc, .chn o q a b c, x => (match vCmp x with
    | some (l, os, rs) => (match os, rs with
      | [p, p2], [r, r2] => copB o p && copB q p2 && mE T N sc a l && mE T N sc b r && mE T N sc c r2
      | _, _ => false)
    | none => false)
  | sc, .ite c a b, x => (match vIf x with
    | some (y, l, r) => mE T N sc c y && mE T N sc a l && mE T N sc b r
    | none => false)
  | sc, .idx a i, x => (match vSub x with
    | some (l, r) => mE T N sc a l && mE T N sc i r
    | none => false)
  | sc, .sli a lo hi, x => (match vSub x with
    | some (l, r) => mE T N sc a l && (match vSli r with
      | some (u, v, w) => (match w with
        | none => true
        | some _ => false) && (match u with
          | none => lo.isNon
          | some y => !lo.isNon && mE T N sc lo y) && (match v with
          | none => hi.isNon
          | some y => !hi.isNon && mE T N sc hi y)
      | none => false)
    | none => false)
  | sc, .rev a, x => (match vSub x with
    | some (l, r) => mE T N sc a l && (match vSli r with
      | some (none, none, some w) => (match vUn w with
        | some (p, y) => (match p with
          | .USub => decide (vConst y = some (.int 1))
          | _ => false)
        | none => false)
      | _ => false)
    | none => false)
  | sc, .lrg a, x => (match vCall x with
    | some (g, ys) => decide (vName g = some ("list" : Str)) && gloB sc "list" && (match ys with
      | [c] => (match vCall c with
        | some (g2, zs) => decide (vName g2 = some ("range" : Str)) && gloB sc "range" && (match zs with
          | [y] => mE T N sc a y
          | _ => false)
        | none => false)
      | _ => false)
    | none => false)
  | sc, .cdx kvs i, x => (match vSub x with
    | some (l, r) => (match vDic l with
      | some (ks, vs) => cdB kvs ks vs && mE T N sc i r
      | none => false)
    | none => false)
  | sc, .call f es, x => (match vCall x with
    | some (g, ys) => (match vName g with
      | some y => decide (T.fs[f]? = some y) && gloB sc y && mEs T N sc es ys
      | none => false)
    | none => false)
  | sc, .blt b es, x => (match vCall x with
    | some (g, ys) => (match vName g with
      | some y => gloB sc y && (match b with
        | .isi t => decide (y = ("isinstance" : Str)) && (match es, ys with
          | .cons e .nil, [z, z2] => mE T N sc e z && (match vName z2 with
            | some w => decide (w = tyName t) && gloB sc w
            | none => false)
          | _, _ => false)
        | .gcd => decide (y = ("gcd" : Str)) && T.gcd && !ys.isEmpty && mEs T N sc es ys
        | _ => decide (bltName b = some y) && !ys.isEmpty && mEs T N sc es ys)
      | none => false)
    | none => false)
  | sc, .mth m o es, x => (match vCall x with
    | some (g, ys) => (match vAttr g with
      | some (z, y, n) => mtDone m ys && recvB z && decide (y = mtName m) && decide (n = vLine x) && mE T N sc o z && mEs T N sc es ys && decide (ys.length < 5)
      | none => false)
    | none => false)
  | sc, .lc own one tg it c e, x => (match vLc x with
    | some (el, t, i, cs, s) => (!it.pairs || !one) && blkC N sc s (ownP N own) && mTg N s one tg t && mIt T N sc it i && (match cs with
      | [] => c.isYes
      | [y] => mE T N (relS s sc) c y
      | _ => false) && mE T N (relS s sc) e el && decide (own.length = (ownP N own).length) && tg.all (fun i => decide (i ∈ own))
    | none => false)
  | _, .dc _ _ _ _ _ _ _, _ => false
  | sc, .tdy e, x => mE T N sc e x
def mEs (T : Tb) (N : List Str) : Scope → Es → List Expr → Bool
  | _, .nil, [] => true
  | sc, .cons e es, x :: xs => mE T N sc e x && mEs T N sc es xs
  | _, _, _ => false
def mIt (T : Tb) (N : List Str) : Scope → It → Expr → Bool
  | sc, .seq e, x => mE T N sc e x
  | sc, .fsh e, x => mE T N sc e x
  | sc, .rng1 a, x => (match vCall x with
    | some (g, ys) => decide (vName g = some ("range" : Str)) && gloB sc "range" && (match ys with
      | [y] => mE T N sc a y
      | _ => false)
    | none => false)
  | sc, .rng2 a b, x => (match vCall x with
    | some (g, ys) => decide (vName g = some ("range" : Str)) && gloB sc "range" && (match ys with
      | [y, z] => mE T N sc a y && mE T N sc b z
      | _ => false)
    | none => false)
  | sc, .rng3 a b c, x => (match vCall x with
    | some (g, ys) => decide (vName g = some ("range" : Str)) && gloB sc "range" && (match ys with
      | [y, z, w] => mE T N sc a y && mE T N sc b z && mE T N sc c w
      | _ => false)
    | none => false)
  | sc, .enm e, x => (match vCall x with
    | some (g, ys) => decide (vName g = some ("enumerate" : Str)) && gloB sc "enumerate" && (match ys with
      | [y] => mE T N sc e y
      | _ => false)
    | none => false)
  | sc, .zip a b, x => (match vCall x with
    | some (g, ys) => decide (vName g = some ("zip" : Str)) && gloB sc "zip" && (match ys with
      | [y, z] => mE T N sc a y && mE T N sc b z
      | _ => false)
    | none => false)
  | sc, .rvd e, x => (match vCall x with
    | some (g, ys) => decide (vName g = some ("reversed" : Str)) && gloB sc "reversed" && (match ys with
      | [y] => mE T N sc e y
      | _ => false)
    | none => false)
  | _, .zip3 _ _ _, _ => false
  | _, .itm _, _ => false
end
end Ev

set_option Elab.async false
set_option linter.all false
set_option autoImplicit false
set_option maxRecDepth 100000
set_option maxHeartbeats 4000000
/-! Ev7: calls of defs; expressions. -/
namespace Ev
open PySem PySem.Spec PyProof.Rows L2

/-- a def keeps its promise wherever nothing is being shown (no repr is under way) -/
structure FnG (P : Program) (w : World) (K : PySem.W.Frag) (mg : Str → Option Value) (base : Heap) (CX : CXT) (k : Nat) (f : Addr) (fd : FuncData) (ps : List Str) (sp : Sp) : Prop where
  len : ∀ vs H Q E, sp vs H Q E → vs.length = ps.length
  go : ∀ (A : Around) (above : List PySem.Env) (s : Shared) (H : Hp) (args : Args) (us : List Value) (vs : List V) (Q : VK) (E : XK), Room k A → A.guards = some [] → Env0 P w K mg base A above s H → BindsTo s fd args (ps.zip us) →
    Vals vs us → sp vs H Q E → codeAny (model P w) A (.call (.ref f) args) (CR CX above P w H s Q E) s
section
variable {P : Program} {w : World} {K : PySem.W.Frag} {mg : Str → Option Value} {base : Heap} {CX : CXT}
theorem FnG.weak {j k : Nat} {f : Addr} {fd : FuncData} {ps : List Str} {sp : Sp} (F : FnG P w K mg base CX j f fd ps sp) (h : j ≤ k) : FnG P w K mg base CX k f fd ps sp :=
  ⟨F.len, fun A above s H args us vs Q E hr => F.go A above s H args us vs Q E (hr.mono h)⟩
theorem fnG_of {k : Nat} {f : Addr} {x qual : Str} {params : Arguments} {body : List Stmt} {scope : Scope} {fd : FuncData} {N ps : List Str} {sp : Sp} (F : FunD K x qual params body scope [] [] f fd) (S : FnScope N ps scope) (len : ∀ vs H Q E, sp vs H Q E → vs.length = ps.length)
    (walk : ∀ (cdv : Value) (A : Around) (above : List PySem.Env) (s : Shared) (H : Hp) (vs : List V) (Q : VK) (E : XK), Room k (A.deeper (envOfC qual scope s.heap.objs.size f cdv)) → A.guards = some [] → sp vs H Q E →
      ∃ t, PSs (cxOf CX P w K mg base N qual scope f cdv A above s H E) body t ∧ t { nx := fun _ H' => Q .non H', rt := Q } (start N vs) H) :
    FnG P w K mg base CX (k + 1) f fd ps sp := by
  obtain ⟨oc, od, dV, kV, doc, pm, an, cdv, ct, osl, rfl, lk, hcd, _, _⟩ := F.ex
  refine ⟨len, fun A above s H args us vs Q E hr hg e0 hb r hsp => ?_⟩
  have ln := len _ _ _ _ hsp
  have hK : K.In s.heap := e0.mod.kin.keeps fun b o e => (e0.bs b o e).1
  have hL : s.heap.NoLimit := e0.mod.nolimit.keeps fun b o e => (e0.bs b o e).1
  have kinds : ∀ y ∈ ps.zip us, scope.names.lookup y.1 = some .local ∨ (scope.names.lookup y.1 = some .cell ∧ ((cellsFrom (s.heap.objs.size + 1) scope.names []).lookup y.1).isSome = true) := by
    rintro ⟨n, v⟩ hy
    rcases S.par n (List.of_mem_zip hy).1 with q | q
    · exact .inl q
    · exact .inr ⟨q, PySem.W.cellsFrom_some _ _ _ (.inl q)⟩
  refine codeAny_call_function hr.depth (hK _ _ lk) rfl S.co S.gen rfl (PySem.W.codeRec_of hK hcd) (hb _ _ _ _ ?_)
  refine wpAny_newFunctionEnv_cells S.kind kinds fun env he s1 z => ?_
  subst he
  refine ⟨hL.keeps z.toInCall.keep, codeAny_func ?_⟩
  obtain ⟨t, ht, hq⟩ := walk cdv A above s H vs Q E (hr.deeper _) hg hsp
  have J0 : L2.Inv (cxOf CX P w K mg base N qual scope f cdv A above s H E) [] (start N vs) H s1 := inv_start S hr.hd e0 ln r z
  refine wpAny_mono (ht.run [] s1 (start N vs) H _ J0 hq) (fun fl s' hs => ?_) fun e s' hs => hs
  have fin : ∀ {σ' : L2.St} {H' : Hp} {v : V} {u : Value}, L2.Inv (cxOf CX P w K mg base N qual scope f cdv A above s H E) [] σ' H' s' → RelV v u → Q v H' → CE above P w H s Q u s' := by
    intro σ' H' v u J rv q
    exact ⟨v, H', J.os, J.bare, J.base, J.hok, rv, q⟩
  cases fl with
  | ret u =>
    obtain ⟨v, σ', H', J, rv, q⟩ := hs
    exact fin J rv q
  | next =>
    obtain ⟨σ', H', J, q⟩ := hs
    exact fin (v := .non) (u := Value.none) J rfl q
  | brk => exact False.elim hs.choose_spec.choose_spec.2
  | cont => exact False.elim hs.choose_spec.choose_spec.2
end
section
variable {X : Cx} {CX : CXT} {k : Nat} {f : Addr} {fd : FuncData} {ps : List Str} {sp : Sp} {E : XK}
theorem run_G {pins : List (Addr × Obj)} {σ : L2.St} {H : Hp} {s : Shared} {Q : VK} {us : List Value} {vs : List V} (F : FnG X.prog X.w X.K X.mg X.base CX k f fd ps sp) (hr : Room k X.A) (hg : X.A.guards = some []) (hb : Binds X.K fd ps []) (hx : Passes CX X E)
    (I : L2.Inv X pins σ H s) (r : Vals vs us) (h : sp vs H Q E) : wpAny (model X.prog X.w) X.A (call (.ref f) us) (EP X pins σ Q) X.xe s := by
  have ln : us.length = ps.length := by rw [← r.length]; exact F.len _ _ _ _ h
  have hb2 := hb s us I.kIn (by rw [List.append_nil]; exact ln)
  rw [List.append_nil] at hb2
  refine wpAny_call (codeAny_mono (F.go X.A X.stack s H ⟨us, []⟩ us vs Q E hr hg I.env0 hb2 r h) fun z s' hq => ?_)
  cases z with
  | error e => exact hx pins σ H s e s' I hq
  | ok fl =>
    cases fl with
    | ret u => exact I.after hq
    | _ => exact False.elim hq
variable {x : Str} {p pos : Pos} {e : Expr} {es : List Expr} {t : TA}
theorem pe_callG (F : FnG X.prog X.w X.K X.mg X.base CX k f fd ps sp) (hr : Room k X.A) (hg : X.A.guards = some []) (hgl : Gl X x) (hm : X.mg x = some (.ref f)) (hk : PySem.W.keepIn X.K (.ref f) = true) (hb : Binds X.K fd ps []) (hx : Passes CX X E)
    (ha : PA X (e :: es) t) (hdb : (x == ("__debug__" : Str)) = false) (he : starEach (e :: es) X.env = (false, eval e X.env) :: starEach es X.env) (hpl : (backTo pos (starEach es X.env)).any (·.1) = false) :
    PE X (.Call (.Name x p) (e :: es) [] pos) (fun σ H Q => t σ H fun vs H1 => sp vs H1 Q E) := by
  refine ⟨fun pins s σ H Q I h => ?_⟩
  refine wpAny_Call_Name_kw (ld_glob I hgl hm ?_ hdb)
  refine PySem.W.callWith_K (h₀ := X.base) I.ok.mod.kin hk (thn (ha.run pos pins s σ H _ I h) fun us s1 ⟨vs, H1, I1, r, q⟩ => ⟨I1.kIn, ?_⟩) he hpl
  exact run_G F hr hg hb hx I1 r q
theorem pe_callG0 (F : FnG X.prog X.w X.K X.mg X.base CX k f fd ps sp) (hr : Room k X.A) (hg : X.A.guards = some []) (hgl : Gl X x) (hm : X.mg x = some (.ref f)) (hk : PySem.W.keepIn X.K (.ref f) = true) (hb : Binds X.K fd ps []) (hx : Passes CX X E)
    (hdb : (x == ("__debug__" : Str)) = false) : PE X (.Call (.Name x p) [] [] pos) (fun σ H Q => sp [] H Q E) := by
  refine ⟨fun pins s σ H Q I h => ?_⟩
  refine wpAny_Call_Name_kw (ld_glob I hgl hm ?_ hdb)
  exact PySem.W.callWith_K0 I.kIn hk (run_G (us := []) F hr hg hb hx I .nil h)
end

/-! ### what stands around an expression -/
/-- a def by the evaluator's call: n its parameters -/
def spD (K : PySem.W.Frag) (n : Nat) (cl : List D → Sto → Res) : Sp := fun vs H Q _ => vs.length = n ∧ ∃ ds S M d S', RelS K H M S ∧ D.unds S.length ds = true ∧ RDs K H M ds vs ∧ cl ds S = .ok d S' ∧ Post K S.length H M S d S' Q
structure Gd (T : Tb) (N : List Str) (C : Cf) (sc : Scope) (X : Cx) : Prop where
  hN : X.N = N
  nd : N.Nodup
  hsc : X.env.scope = sc
  calm : X.calm = true
  grd : X.A.guards = some []
  units : X.A.units + 66 < cLine
  glo : ∀ (g : Nat) (y : Str) (d : D), T.gs[g]? = some y → C.gl[g]? = some d → ∃ u v, X.mg y = some u ∧ RelV v u ∧ (∀ H M, RD X.K H M d v) ∧ d.pure = true
  blt : ∀ y ∈ (["int", "str", "tuple", "list", "len", "repr", "min", "max", "sum", "any", "all", "abs", "isinstance", "range", "enumerate", "zip", "reversed", "bool", "dict", "sorted", "set"] : List Str), X.mg y = none
  gcd : T.gcd = true → X.mg ("gcd" : Str) = some (.builtin "math.gcd")
  fns : ∀ (f : Nat) (y : Str), T.fs[f]? = some y → ∃ (k : Nat) (a : Addr) (fd : FuncData) (ps : List Str), FnG X.prog X.w X.K X.mg X.base CX0 k a fd ps (spD X.K ps.length (C.cl f)) ∧ Room k X.A ∧ X.mg y = some (.ref a) ∧ PySem.W.keepIn X.K (.ref a) = true ∧ Binds X.K fd ps [] ∧ ∀ ds S d S', C.cl f ds S = .ok d S' → ds.length = ps.length
theorem Gd.blk {T : Tb} {N : List Str} {C : Cf} {sc : Scope} {X : Cx} (G : Gd T N C sc X) (s : Shared) (H : Hp) (scope : Scope) (cl : List (Str × Addr)) (c : Addr) (fp : List Addr) : Gd T N C (relS scope sc) (X.blk s H scope (compEnvC scope cl c X.env) fp) :=
  ⟨G.hN, G.nd, by rw [← G.hsc]; rfl, G.calm, G.grd, G.units, G.glo, G.blt, G.gcd, G.fns⟩

/-! ### readings -/
def tE (K : PySem.W.Frag) (C : Cf) (ev : Env → Sto → Res) : TE := fun σ H Q => ∃ ρ S M d S', C.n0 ≤ S.length ∧ REnv K H M S.length ρ σ ∧ RelS K H M S ∧ ev ρ S = .ok d S' ∧ Post K C.n0 H M S d S' Q
def tT (K : PySem.W.Frag) (C : Cf) (ev : Env → Sto → Res) : TT := fun σ H Q => ∃ ρ S M b S', C.n0 ≤ S.length ∧ REnv K H M S.length ρ σ ∧ RelS K H M S ∧ ev ρ S = .ok (.bl b) S' ∧ Post K C.n0 H M S (.bl b) S' fun v H1 => ∃ k, v = .bl k ∧ Q k H1
def tA (K : PySem.W.Frag) (C : Cf) (ev : Env → Sto → ResL) : TA := fun σ H Q => ∃ ρ S M ds S', C.n0 ≤ S.length ∧ REnv K H M S.length ρ σ ∧ RelS K H M S ∧ ev ρ S = .ok ds S' ∧
  ∀ vs H' M', Step C.n0 H M S H' M' S' → RelS K H' M' S' → D.unds S'.length ds = true → RDs K H' M' ds vs → Q vs H'
theorem _root_.L2.PE.imp {X : Cx} {e : Expr} {t t' : TE} (h : PE X e t) (m : ∀ σ H Q, t' σ H Q → t σ H Q) : PE X e t' := ⟨fun pins s σ H Q I q => h.run pins s σ H Q I (m σ H Q q)⟩
theorem _root_.L2.PT.imp {X : Cx} {e : Expr} {t t' : TT} (h : PT X e t) (m : ∀ σ H Q, t' σ H Q → t σ H Q) : PT X e t' := ⟨fun pins s σ H Q I q => h.run pins s σ H Q I (m σ H Q q)⟩
theorem _root_.L2.PA.imp {X : Cx} {e : List Expr} {t t' : TA} (h : PA X e t) (m : ∀ σ H Q, t' σ H Q → t σ H Q) : PA X e t' := ⟨fun pos pins s σ H Q I q => h.run pos pins s σ H Q I (m σ H Q q)⟩
theorem _root_.L2.PI.imp {X : Cx} {tg e : Expr} {t t' : TI} (h : PI X tg e t) (m : ∀ σ H Q, t' σ H Q → t σ H Q) : PI X tg e t' := ⟨fun pins s σ H Q I q => h.run pins s σ H Q I (m σ H Q q)⟩
section
variable {K : PySem.W.Frag} {H H1 H2 : Hp} {M M1 M2 : Mp} {S S1 S2 : Sto} {n0 : Nat}
theorem Step.low {n : Nat} (s : Step n H M S H1 M1 S1) (h : n0 ≤ n) : Step n0 H M S H1 M1 S1 := ⟨s.le, s.agree, s.fresh, s.frame, fun i hi => s.keep i (Nat.lt_of_lt_of_le hi h)⟩
/-- what is wanted behind a second step, seen from the first one -/
theorem Post.after {d : D} {S' : Sto} {Q : VK} (P : Post K n0 H M S d S' Q) (s : Step n0 H M S H1 M1 S1) (R1 : RelS K H1 M1 S1) : Post K n0 H1 M1 S1 d S' Q := fun v H' M' s2 R u h => P v H' M' (Step.trans R1 s s2) R u h
theorem Post.low {n : Nat} {d : D} {S' : Sto} {Q : VK} (P : Post K n0 H M S d S' Q) (h : n0 ≤ n) : Post K n H M S d S' Q := fun v H' M' s R u q => P v H' M' (s.low h) R u q
theorem bind_ok {r : Res} {f : D → Sto → Res} {d : D} {S : Sto} (h : r.bind f = .ok d S) : ∃ x S1, r = .ok x S1 ∧ f x S1 = .ok d S := by
  cases r with
  | ok x S1 => exact ⟨x, S1, rfl, h⟩
  | ex x S1 => cases h
  | st => cases h
theorem bindL_ok {r : ResL} {f : List D → Sto → Res} {d : D} {S : Sto} (h : r.bind f = .ok d S) : ∃ x S1, r = .ok x S1 ∧ f x S1 = .ok d S := by
  cases r with
  | ok x S1 => exact ⟨x, S1, rfl, h⟩
  | ex x S1 => cases h
  | st => cases h
theorem bindR_ok {r : Res} {f : D → Sto → ResL} {d : List D} {S : Sto} (h : r.bindL f = .ok d S) : ∃ x S1, r = .ok x S1 ∧ f x S1 = .ok d S := by
  cases r with
  | ok x S1 => exact ⟨x, S1, rfl, h⟩
  | ex x S1 => cases h
  | st => cases h
theorem bindLL_ok {r : ResL} {f : List D → Sto → ResL} {d : List D} {S : Sto} (h : r.bindL f = .ok d S) : ∃ x S1, r = .ok x S1 ∧ f x S1 = .ok d S := by
  cases r with
  | ok x S1 => exact ⟨x, S1, rfl, h⟩
  | ex x S1 => cases h
  | st => cases h
end
/-- one expression, then another -/
theorem two_E {K : PySem.W.Frag} {C : Cf} {ea eb : Env → Sto → Res} {f : D → D → Sto → Res} {σ : L2.St} {H : Hp} {Q : VK} {r : R2}
    (hr : ∀ x' y' H2 Q2, rB K f x' y' H2 Q2 → r x' y' H2 Q2)
    (h : tE K C (fun ρ S => (ea ρ S).bind fun x S1 => (eb ρ S1).bind fun y S2 => f x y S2) σ H Q) : tOp r (tE K C ea) (tE K C eb) σ H Q := by
  obtain ⟨ρ, S, M, d, S', hn, hρ, R, e, P⟩ := h
  obtain ⟨x, S1, e1, e⟩ := bind_ok e
  obtain ⟨y, S2, e2, e⟩ := bind_ok e
  refine ⟨ρ, S, M, x, S1, hn, hρ, R, e1, fun x' H1 M1 s1 R1 ux hx => ?_⟩
  refine ⟨ρ, S1, M1, y, S2, Nat.le_trans hn s1.le, hρ.step R s1, R1, e2, fun y' H2 M2 s2 R2 uy hy => ?_⟩
  exact hr _ _ _ _ ⟨x, y, S2, M2, C.n0, d, S', Nat.le_trans hn (Nat.le_trans s1.le s2.le), R2, und_mono s2.le x ux, uy, RD.step R1 s2 x x' ux hx, hy, e, P.after (Step.trans R1 s1 s2) R2⟩
/-- a test of a value that is a bool -/
theorem tT_of {K : PySem.W.Frag} {C : Cf} {ev : Env → Sto → Res} {σ : L2.St} {H : Hp} {Q : Bool → Hp → Prop} (h : tT K C ev σ H Q) : tE K C ev σ H fun v H1 => ∃ k, v = .bl k ∧ Q k H1 := by
  obtain ⟨ρ, S, M, b, S', hn, hρ, R, e, P⟩ := h
  exact ⟨ρ, S, M, _, S', hn, hρ, R, e, P⟩
/-- the kinds of text that no term stands for -/
def oddB : Expr → Bool
  | .Starred _ _ => true
  | .Slice _ _ _ _ => true
  | .Set _ _ _ => true
  | .SetComp _ _ _ _ => true
  | .DictComp _ _ _ _ _ => true
  | _ => false
section
variable {T : Tb} {N : List Str} {sc : Scope}
theorem odd_of : ∀ (e : E) (x : Expr), mE T N sc e x = true → oddB x = false := by
  intro e x h
  cases x with
  | Starred a b => cases e <;> simp [mE, vName, vConst, vTup, vLst, vDic, vBin, vUn, vBool, vCmp, vIf, vSub, vCall, vLc] at h; exact odd_of _ _ h
  | Slice a b c d => cases e <;> simp [mE, vName, vConst, vTup, vLst, vDic, vBin, vUn, vBool, vCmp, vIf, vSub, vCall, vLc] at h; exact odd_of _ _ h
  | SetComp a b c d => cases e <;> simp [mE, vName, vConst, vTup, vLst, vDic, vBin, vUn, vBool, vCmp, vIf, vSub, vCall, vLc] at h; exact odd_of _ _ h
  | DictComp a b c d f => cases e <;> simp [mE, vName, vConst, vTup, vLst, vDic, vBin, vUn, vBool, vCmp, vIf, vSub, vCall, vLc] at h; exact odd_of _ _ h
  | Set a b c => cases e <;> simp [mE, vName, vConst, vTup, vLst, vDic, vBin, vUn, vBool, vCmp, vIf, vSub, vCall, vLc] at h; exact odd_of _ _ h
  | _ => rfl
end
theorem star_cons {x : Expr} {es : List Expr} {env : PySem.Env} (h : oddB x = false) : starEach (x :: es) env = (false, eval x env) :: starEach es env := by
  cases x <;> first | rfl | cases h
theorem mark_of {x : Expr} {op : CmpOp} (h : oddB x = false) : behindInMarks op x = false := by
  cases x <;> first | rfl | cases h
theorem plainIx_of {x : Expr} (h : oddB x = false) : PlainIx x := by
  intro o i
  cases x <;> first | rfl | cases h
end Ev

set_option Elab.async false
set_option linter.all false
set_option maxRecDepth 100000
set_option maxHeartbeats 4000000
/-! Et: enumerate(a tuple). -/
namespace Et
open PySem PySem.Spec PyProof.Rows L2 RZ
section
variable {prog : Program} {w : World} {A : Around} {E : Value → Shared → Prop} {s : Shared}
theorem step_item {en ti tp : Addr} {k : Nat} {xs : Array Value} {v prev : Value} {Q : Value → Shared → Prop} (g0 : IsEnum s.heap en ti k prev) (gi : s.heap.IsTupleIter ti tp k) (gt : s.heap.IsTuple tp xs) (gv : xs[k]? = some v) (ne : en ≠ ti)
    (fin : ∀ m, IsEnumOut m en ti ((k : Int) + 1) v s.heap.objs.size → m.IsTupleIter ti tp (k + 1) → m.get? s.heap.objs.size = some { cls := .type "tuple", data := .seq #[.int k s.toks, v] } → m.objs.size = s.heap.objs.size + 1 →
      (∀ b o, b ≠ en → b ≠ ti → s.heap.get? b = some o → m.get? b = some o) → Q (.ref s.heap.objs.size) { s with heap := m, toks := s.toks + 1 }) :
    wpAny (model prog w) A (Builtin.«enumerate.__next__» ⟨[.ref en], []⟩) (fun f z => ∃ u, f = .done (.ret u) ∧ Q u z) E s := by
  obtain ⟨h0, gs, dd, n, oo⟩ := s
  show wpAny _ _ (field (.ref en) 2 >>= _) _ _ _
  refine wpAny_bind (wpAny_field g0 rfl (x := .ref ti) rfl (wpAny_bind (nextOf_tuple_item gi gt gv fun m1 gi1 sb1 => ?_)))
  replace sb1 : Heap.SameBut ti h0 m1 := sb1
  have a1 : IsEnum m1 en ti k prev := (sb1.2 en ne).trans g0
  show wpAny _ _ (field (.ref en) 3 >>= _) _ _ ⟨m1, gs, dd, n, oo⟩
  refine wpAny_bind (wpAny_field a1 rfl (x := rawInt k) rfl ?_)
  show wpAny _ _ (field (.ref en) 4 >>= _) _ _ ⟨m1, gs, dd, n, oo⟩
  refine wpAny_bind (wpAny_field a1 rfl (x := .none) rfl ?_)
  show wpAny _ _ (mkInt k >>= _) _ _ ⟨m1, gs, dd, n, oo⟩
  refine wpAny_bind (wpAny_mkInt ?_)
  show wpAny _ _ (setField (.ref en) 3 (rawInt ((k : Int) + 1)) >>= _) _ _ ⟨m1, gs, dd, n + 1, oo⟩
  refine wpAny_bind (wpAny_setField_rec a1 (by simp) fun m2 a2 sb2 => ?_)
  replace sb2 : Heap.SameBut en m1 m2 := sb2
  replace a2 : IsEnum m2 en ti ((k : Int) + 1) prev := a2
  show wpAny _ _ (setField (.ref en) 4 .none >>= _) _ _ ⟨m2, gs, dd, n + 1, oo⟩
  refine wpAny_bind (wpAny_setField_rec a2 (by simp) fun m3 a3 sb3 => ?_)
  replace sb3 : Heap.SameBut en m2 m3 := sb3
  replace a3 : IsEnum m3 en ti ((k : Int) + 1) prev := a3
  show wpAny _ _ (newTuple [.int k n, v] >>= _) _ _ ⟨m3, gs, dd, n + 1, oo⟩
  refine wpAny_bind (wpAny_newTuple ?_)
  have a4 : IsEnum (m3.push { cls := .type "tuple", data := .seq #[.int k n, v] }) en ti ((k : Int) + 1) prev := Heap.get?_push_of_some _ a3
  generalize hm : m3.push { cls := .type "tuple", data := .seq #[.int k n, v] } = m4 at a4
  have z3 : m3.objs.size = h0.objs.size := by rw [sb3.1, sb2.1, sb1.1]
  have lt : en < h0.objs.size := Heap.lt_size g0
  have t4 : m4.get? h0.objs.size = some { cls := .type "tuple", data := .seq #[.int k n, v] } := by rw [← hm, ← z3]; exact Heap.get?_push_size _ rfl
  have z4 : m4.objs.size = h0.objs.size + 1 := by rw [← hm, Heap.size_push, z3]
  have keep4 : ∀ b o, b ≠ en → b ≠ ti → h0.get? b = some o → m4.get? b = some o := fun b o b1 b2 hb => by
    rw [← hm]; exact Heap.get?_push_of_some _ (sb3.extBut b o b1 (sb2.extBut b o b1 (sb1.extBut b o b2 hb)))
  have gi4 : m4.IsTupleIter ti tp (k + 1) := by
    obtain ⟨o, q1, q2⟩ := gi1
    rw [← hm]
    exact ⟨o, Heap.get?_push_of_some _ (sb3.extBut _ _ (Ne.symm ne) (sb2.extBut _ _ (Ne.symm ne) q1)), q2⟩
  show wpAny _ _ (Builtin.SmallTypes.ownedTupleIsFree (.ref en) >>= _) _ _ ⟨m4, gs, dd, n + 1, oo⟩
  rw [z3]
  clear hm a3 sb3 a2 sb2 a1 sb1 gi1 z3 m3 m2 m1
  refine wpAny_bind ?_
  unfold Builtin.SmallTypes.ownedTupleIsFree
  refine wpAny_bind (wpAny_field a4 rfl (x := .none) rfl (wpAny_pure ?_))
  simp only [if_true]
  refine wpAny_bind (wpAny_rule (wpAny_bind (wpAny_field a4 rfl (x := prev) rfl (wpAny_bind (wpAny_setField_rec a4 (by simp) fun m5 a5 sb5 => ?_)))))
  replace sb5 : Heap.SameBut en m4 m5 := sb5
  replace a5 : IsEnum m5 en ti ((k : Int) + 1) v := a5
  show wpAny _ _ (Builtin.SmallTypes.ownedTupleHandOut (.ref en) (.ref h0.objs.size) >>= _) _ _ ⟨m5, gs, dd, n + 1, oo⟩
  refine wpAny_bind ?_
  unfold Builtin.SmallTypes.ownedTupleHandOut
  refine wpAny_bind (wpAny_setField_rec a5 (by simp) fun m6 a6 sb6 => ?_)
  replace sb6 : Heap.SameBut en m5 m6 := sb6
  replace a6 : IsEnumOut m6 en ti ((k : Int) + 1) v h0.objs.size := a6
  refine wpAny_setField_rec a6 (by simp) fun m7 a7 sb7 => ?_
  replace sb7 : Heap.SameBut en m6 m7 := sb7
  replace a7 : IsEnumOut m7 en ti ((k : Int) + 1) v h0.objs.size := a7
  refine wpAny_bind (wpAny_letGo (wpAny_pure ⟨_, rfl, fin m7 a7 ?_ ?_ ?_ fun b o b1 b2 hb => sb7.extBut b o b1 (sb6.extBut b o b1 (sb5.extBut b o b1 (keep4 b o b1 b2 hb)))⟩))
  · obtain ⟨o, q1, q2⟩ := gi4
    exact ⟨o, sb7.extBut _ _ (Ne.symm ne) (sb6.extBut _ _ (Ne.symm ne) (sb5.extBut _ _ (Ne.symm ne) q1)), q2⟩
  · exact sb7.extBut _ _ (Nat.ne_of_gt lt) (sb6.extBut _ _ (Nat.ne_of_gt lt) (sb5.extBut _ _ (Nat.ne_of_gt lt) t4))
  · rw [sb7.1, sb6.1, sb5.1, z4]
theorem next_item {en ti tp : Addr} {k : Nat} {xs : Array Value} {v prev : Value} {Q : Option Value → Shared → Prop} (g0 : IsEnum s.heap en ti k prev) (gi : s.heap.IsTupleIter ti tp k) (gt : s.heap.IsTuple tp xs) (gv : xs[k]? = some v) (ne : en ≠ ti)
    (fin : ∀ m, IsEnumOut m en ti ((k : Int) + 1) v s.heap.objs.size → m.IsTupleIter ti tp (k + 1) → m.get? s.heap.objs.size = some { cls := .type "tuple", data := .seq #[.int k s.toks, v] } → m.objs.size = s.heap.objs.size + 1 →
      (∀ b o, b ≠ en → b ≠ ti → s.heap.get? b = some o → m.get? b = some o) → Q (some (.ref s.heap.objs.size)) { s with heap := m, toks := s.toks + 1 }) :
    wpAny (model prog w) A (pyNext (.ref en)) Q E s := by
  have ty : s.TypeIs (.ref en) "enumerate" := ⟨_, g0, rfl⟩
  unfold pyNext
  refine wpAny_bind (wpAny_attempt (wpAny_callSpecial?_slot (name := Str.ofString "__next__") ty F.slot_enumerate_next ?_))
  exact wpAny_call_entry F.slot_enumerate_next ty F.entry_enumerate_next (step_item g0 gi gt gv ne fun m a b c d e => wpAny_pure (fin m a b c d e)) (F.args_enumerate_next_1 _)
theorem next_end {en ti tp : Addr} {k : Nat} {xs : Array Value} {prev : Value} {Q : Option Value → Shared → Prop} (hh : A.handled = none) (g0 : IsEnum s.heap en ti k prev) (gi : s.heap.IsTupleIter ti tp k) (gt : s.heap.IsTuple tp xs) (gv : xs[k]? = none)
    (fin : ∀ m, Heap.ExtBut ti s.heap m → Q none { s with heap := m }) : wpAny (model prog w) A (pyNext (.ref en)) Q E s := by
  have ty : s.TypeIs (.ref en) "enumerate" := ⟨_, g0, rfl⟩
  unfold pyNext
  refine wpAny_bind (wpAny_attempt (wpAny_callSpecial?_slot (name := Str.ofString "__next__") ty F.slot_enumerate_next (wpAny_call_entry F.slot_enumerate_next ty F.entry_enumerate_next ?_ (F.args_enumerate_next_1 _))))
  show wpAny _ _ (field (.ref en) 2 >>= _) _ _ _
  refine wpAny_bind (wpAny_field g0 rfl (x := .ref ti) rfl (wpAny_bind (nextOf_tuple_end hh gi gt gv fun m x q1 q2 => ?_)))
  obtain ⟨o, q3, q4⟩ := q2
  exact wpAny_bind (wpAny_isInstance (T := "StopIteration") (b := true) ⟨o, q3, q4⟩ isSubtype_stop (wpAny_pure (fin _ q1)))
theorem new_tup (tp : Addr) (xs : Array Value) (n : Nat) (dct : Option Addr) (sl : Array (Option Value)) :
    Meets (Builtin.«enumerate.__new__» ⟨[.type "enumerate", .ref tp], []⟩) (fun _ R s => s.heap.get? tp = some { cls := .type "tuple", dict := dct, data := .seq xs n, slots := sl } ∧
      R (.ok (.ret (.ref (s.heap.push { cls := .type "tuple_iterator", data := .fields #[.ref tp, .int 0 0] }).objs.size)))
        { s with heap := (s.heap.push { cls := .type "tuple_iterator", data := .fields #[.ref tp, .int 0 0] }).push { cls := .type "enumerate", data := .fields #[.none, .bool false, .ref s.heap.objs.size, rawInt 0, .none, .none] } }) :=
  .of_wp fun prog w A R s h => by
    obtain ⟨h0, gs, dd, tk, oo⟩ := s
    obtain ⟨hl, h⟩ := h
    have hsub := sub_enumerate
    have gt : Heap.IsTuple (Shared.heap ⟨h0, gs, dd, tk, oo⟩) tp xs := ⟨_, hl, rfl, n, rfl⟩
    wp_walk using AutoSeq1.wpAny_loadPart' hl
    refine wpAny_stack_any fun st => wpAny_pure ?_
    split
    · rename_i c _ _ _ _ _
      cases (c == Value.type "enumerate")
      · wp_walk using AutoSeq1.wpAny_loadPart' hl, wpAny_pyIter_tuple gt
        exact ⟨_, rfl, h⟩
      · wp_walk using AutoSeq1.wpAny_loadPart' hl, wpAny_pyIter_tuple gt
        exact ⟨_, rfl, h⟩
    · wp_walk using AutoSeq1.wpAny_loadPart' hl, wpAny_pyIter_tuple gt
      exact ⟨_, rfl, h⟩
theorem call_tup {tp : Addr} {xs : Array Value} {Q : Value → Shared → Prop} (gt : s.heap.IsTuple tp xs)
    (fin : ∀ m, IsEnum m (s.heap.objs.size + 1) s.heap.objs.size 0 .none → m.IsTupleIter s.heap.objs.size tp 0 → m.objs.size = s.heap.objs.size + 2 → (∀ b o, s.heap.get? b = some o → m.get? b = some o) → Q (.ref (s.heap.objs.size + 1)) { s with heap := m }) :
    wpAny (model prog w) A (call (.type "enumerate") [.ref tp]) Q E s := by
  obtain ⟨⟨c, dct, dt, sl⟩, hl, hc, n, hd⟩ := gt
  replace hc : c = .type "tuple" := hc
  replace hd : dt = .seq xs n := hd
  subst hc hd
  refine callType_new F.called_enumerate (by decide) (F.typeCall_enumerate_1 _) (F.newCall_enumerate_1 _) (fun obj => F.args_object_init_2 obj _) F.entry_enumerate_new (new_tup tp xs n dct sl) ⟨hl, ?_⟩
  have z : (s.heap.push { cls := .type "tuple_iterator", data := .fields #[.ref tp, .int 0 0] }).objs.size = s.heap.objs.size + 1 := Heap.size_push ..
  show _ ∧ _
  rw [z]
  have en : IsEnum ((s.heap.push { cls := .type "tuple_iterator", data := .fields #[.ref tp, .int 0 0] }).push { cls := .type "enumerate", data := .fields #[.none, .bool false, .ref s.heap.objs.size, rawInt 0, .none, .none] }) (s.heap.objs.size + 1) s.heap.objs.size 0 .none := by
    have q := Heap.get?_push_size (s.heap.push { cls := .type "tuple_iterator", data := .fields #[.ref tp, .int 0 0] }) (o := { cls := .type "enumerate", data := .fields #[.none, .bool false, .ref s.heap.objs.size, rawInt 0, .none, .none] }) rfl
    rw [z] at q
    exact q
  exact ⟨⟨_, en, rfl⟩, fin _ en ⟨_, Heap.get?_push_of_some _ (Heap.get?_push_size _ rfl), rfl, rfl⟩ (by rw [Heap.size_push, z]) fun b o x => Heap.get?_push_of_some _ (Heap.get?_push_of_some _ x)⟩
end
/-- the tuple at a, each item in a new pair -/
def IteT (K : PySem.W.Frag) (a : Addr) : It :=
  ⟨fun i H => ∃ (xs : List V) (x : V), SqT K H a xs ∧ xs[i]? = some x, fun i H v H' => ∃ T x, v = .ref T ∧ H T = none ∧ H' = upd H T (.tup [.int (i : Nat), x]) ∧ ∀ xs, SqT K H a xs → xs[i]? = some x, fun i H => ∃ xs : List V, SqT K H a xs ∧ xs.length ≤ i⟩
theorem turn {P : Program} {w : World} {K : PySem.W.Frag} {elts : List Expr} {kk : Nat} {tpos : Pos} (a en ti : Addr) :
    Turn P w K (.Tuple elts kk tpos) (IteT K a) [en, ti] en (fun i h => (∃ prev, IsEnum h en ti ((i : Nat) : Int) prev) ∧ h.IsTupleIter ti a i ∧ en ≠ ti) where
  mem := by simp
  obj := fun i h st b hb => by
    obtain ⟨⟨prev, g0⟩, ⟨o, q1, q2, q3⟩, _⟩ := st
    have e' : b = en ∨ b = ti := by simpa using hb
    rcases e' with rfl | rfl
    · exact ⟨_, g0, fun v q => nomatch q⟩
    · exact ⟨o, q1, fun v q => by rw [q3] at q; cases q⟩
  keep := fun i h h' st k => by
    obtain ⟨⟨prev, g0⟩, ⟨o, q1, q2⟩, ne⟩ := st
    exact ⟨⟨prev, k en (by simp) _ g0⟩, ⟨o, k ti (by simp) _ q1, q2⟩, ne⟩
  item := by
    intro X hP hw hK hc i pins s σ H E I hf st hg
    subst hP hw hK
    obtain ⟨⟨prev, g0⟩, gi, ne⟩ := st
    obtain ⟨xs, x, hq, hx⟩ := hg
    obtain ⟨its, rv, p, hz⟩ := I.tuple hq
    obtain ⟨u, hu, ru⟩ := rv.get hx
    have le : en < s.heap.objs.size := Heap.lt_size g0
    have li : ti < s.heap.objs.size := by obtain ⟨_, q, _⟩ := gi; exact Heap.lt_size q
    refine next_item g0 gi p (v := u) (by simpa using hu) ne fun m out gi' hT hsz hk => ?_
    refine ⟨_, rfl, wpAny_letOwnedTupleGo_enum (s := { s with heap := m, toks := s.toks + 1 }) out fun m2 g2 sb => ?_⟩
    have hT2 : m2.get? s.heap.objs.size = some { cls := .type "tuple", data := .seq #[.int i s.toks, u] } := (sb.2 _ (Nat.ne_of_gt le)).trans hT
    have new : ObjOk X.prog X.w (upd H s.heap.objs.size (.tup [.int (i : Nat), x])) m2 s.heap.objs.size (.tup [.int (i : Nat), x]) := ⟨by show 2 ≤ sizeLine; decide, [.int i s.toks, u], .cons ⟨_, rfl⟩ (.cons ru .nil), ⟨_, hT2, rfl, _, rfl⟩⟩
    have J : Inv X pins σ (upd H s.heap.objs.size (.tup [.int (i : Nat), x])) { s with heap := m2, toks := s.toks + 1 } :=
      I.turnedNew (ch := [en, ti]) (fun b ob hb q => (sb.2 b (fun z => hb (by simp [z]))).trans (hk b ob (fun z => hb (by simp [z])) (fun z => hb (by simp [z])) q)) hf (Nat.le_refl _) new
    refine ⟨.ref s.heap.objs.size, _, J, rfl, ⟨_, x, rfl, I.hok.fresh (Nat.le_refl _), rfl, fun ys hy => ?_⟩, ⟨⟨u, ?_⟩, ?_, ne⟩, fun b hb => ?_⟩
    · rw [I.tuple_inj hy hq]
      exact hx
    · have e1 : ((i + 1 : Nat) : Int) = (i : Int) + 1 := by omega
      rw [e1]
      exact g2
    · obtain ⟨o, q1, q2⟩ := gi'
      exact ⟨o, (sb.2 ti (Ne.symm ne)).trans q1, q2⟩
    · have hb' : b < s.heap.objs.size := by
        have e' : b = en ∨ b = ti := by simpa using hb
        rcases e' with rfl | rfl
        · exact le
        · exact li
      rw [upd_ne (Nat.ne_of_lt hb')]
      exact (hf b hb).1
  done := by
    intro X hP hw hK hc i pins s σ H E I hf st hg
    subst hP hw hK
    obtain ⟨⟨prev, g0⟩, gi, ne⟩ := st
    obtain ⟨xs, hq, hx⟩ := hg
    obtain ⟨its, rv, p, hz⟩ := I.tuple hq
    obtain ⟨f0, f1, f2, f3, f4, f5⟩ := hf ti (by simp)
    have hl := rv.length
    exact next_end (I.ok.hd hc) g0 gi p (by simp; omega) fun m eb => ⟨rfl, I.turned (t' := s.toks) (fun b o hb q => eb b o hb q) f0 f1 f3 f4 f5⟩
  self := fun A i s Q E st h => let ⟨⟨_, g0⟩, _⟩ := st; wpAny_pyIter_enum g0 h
/-- enumerate(x), x a list or a tuple -/
def iEnumA (K : PySem.W.Frag) (ta : TA) : TI := fun σ H R => ta σ H fun vs H1 => ∃ a xs, vs = [.ref a] ∧ ((SqL K H1 a xs ∧ R (Ite K a) H1) ∨ (SqT K H1 a xs ∧ R (IteT K a) H1))
theorem pi_enumA {X : Cx} {e : Expr} {ta : TA} {p pos tpos : Pos} {elts : List Expr} {kk : Nat} (hg : Gl X "enumerate") (hm : X.mg "enumerate" = none) (ha : PA X [e] ta) (hs : starEach [e] X.env = [(false, eval e X.env)] := by rfl) :
    PI X (.Tuple elts kk tpos) (.Call (.Name "enumerate" p) [e] [] pos) (iEnumA X.K ta) := by
  refine ⟨fun pins s σ H R I h => ?_⟩
  refine Call_ (ld_blt I hg hm boot_enumerate (PyProof.Rows.callWith_type1 (thn (ha.run pos pins s σ H _ I h) fun us z ⟨vs, H1, J, r1, q1⟩ => ?_) hs rfl))
  obtain ⟨a, xs, ex, q1⟩ := q1
  subst ex
  have fresh : ∀ b, b ∈ [z.heap.objs.size + 1, z.heap.objs.size] → FpOk X pins H1 b := fun b hb => by
    have hle : z.heap.objs.size ≤ b := by
      have e' : b = z.heap.objs.size + 1 ∨ b = z.heap.objs.size := by simpa using hb
      omega
    exact J.fpOk hle (J.hok.fresh hle)
  cases r1 with
  | cons r rr =>
    cases rr
    cases r
    rcases q1 with ⟨hq, q⟩ | ⟨hq, q⟩
    · obtain ⟨its, rv, pl, hz⟩ := J.list hq
      refine call_enumerate_list pl.isList fun m g0 gi hsz hk => wpAny_pyIter_enum g0 ?_
      have J2 : Inv X pins σ H1 { z with heap := m } := J.kept (t' := z.toks) hk
      exact ⟨z.heap.objs.size + 1, [z.heap.objs.size + 1, z.heap.objs.size], _, _, H1, rfl, J2, turn_enum a (z.heap.objs.size + 1) z.heap.objs.size, ⟨⟨.none, g0⟩, gi, Nat.succ_ne_self _⟩, fresh, q⟩
    · obtain ⟨its, rv, pl, hz⟩ := J.tuple hq
      refine call_tup pl fun m g0 gi hsz hk => wpAny_pyIter_enum g0 ?_
      have J2 : Inv X pins σ H1 { z with heap := m } := J.kept (t' := z.toks) hk
      exact ⟨z.heap.objs.size + 1, [z.heap.objs.size + 1, z.heap.objs.size], _, _, H1, rfl, J2, turn a (z.heap.objs.size + 1) z.heap.objs.size, ⟨⟨.none, g0⟩, gi, Nat.succ_ne_self _⟩, fresh, q⟩
end Et

set_option Elab.async false
set_option linter.all false
set_option autoImplicit false
set_option maxRecDepth 100000
set_option maxHeartbeats 4000000
/-! Ev8: forgetting what is not spoken of; walks. -/
namespace Ev
open PySem PySem.Spec PyProof.Rows L2 RT RZ

section
variable {K : PySem.W.Frag} {H H1 H2 : Hp} {M M1 M2 : Mp} {S S1 S2 : Sto} {n0 : Nat}
mutual
theorem RD.agree {n : Nat} (hM : ∀ k, k < n → M1 k = M k) : ∀ (d : D) (v : V), d.und n = true → RD K H M1 d v → RD K H M d v
  | .non, v, _, h => by simpa [RD] using h
  | .bl _, v, _, h => by simpa [RD] using h
  | .int _, v, _, h => by simpa [RD] using h
  | .str _, v, _, h => by simpa [RD] using h
  | .exc _ _, v, _, h => by simp [RD] at h
  | .ref k, v, hu, h => by
    simp only [D.und, decide_eq_true_eq] at hu
    simp only [RD] at h ⊢
    rw [h, hM k hu]
  | .tup ds, v, hu, h => by
    simp only [D.und] at hu
    simp only [RD] at h ⊢
    obtain ⟨a, vs, e, hs, h⟩ := h
    exact ⟨a, vs, e, hs, RDs.agree hM ds vs hu h⟩
  | .frl ds, v, hu, h => by
    simp only [D.und] at hu
    simp only [RD] at h ⊢
    obtain ⟨a, vs, e, hs, h⟩ := h
    exact ⟨a, vs, e, hs, RDs.agree hM ds vs hu h⟩
theorem RDs.agree {n : Nat} (hM : ∀ k, k < n → M1 k = M k) : ∀ (ds : List D) (vs : List V), D.unds n ds = true → RDs K H M1 ds vs → RDs K H M ds vs
  | [], vs, _, h => by simpa [RDs] using h
  | d :: ds, vs, hu, h => by
    simp only [D.unds, Bool.and_eq_true] at hu
    simp only [RDs] at h ⊢
    obtain ⟨v, r, e, h1, h2⟩ := h
    exact ⟨v, r, e, RD.agree hM d v hu.1 h1, RDs.agree hM ds r hu.2 h2⟩
end
theorem ObR.agree {n k : Nat} {o : Ob} (hM : ∀ k, k < n → M1 k = M k) (hk : k < n) (hu : D.unds n o.els = true) (h : ObR K H M1 k o) : ObR K H M k o := by
  cases o with
  | lst ds =>
    obtain ⟨vs, h1, h2⟩ := h
    exact ⟨vs, by rw [← hM k hk]; exact h1, RDs.agree hM ds vs hu h2⟩
  | dic kvs => exact False.elim h

/-- what was made behind the first things is forgotten -/
theorem cut_S (R : RelS K H M S) (s : Step n0 H M S H1 M1 S1) (R1 : RelS K H1 M1 S1) (hu : ∀ (i : Nat) (o : Ob), i < S.length → S1[i]? = some o → D.unds S.length o.els = true) : Step n0 H M S H1 M (S1.take S.length) ∧ RelS K H1 M (S1.take S.length) := by
  have hl : (S1.take S.length).length = S.length := by
    rw [List.length_take]
    have := s.le
    omega
  have hget : ∀ (i : Nat) (o : Ob), (S1.take S.length)[i]? = some o → i < S.length ∧ S1[i]? = some o := fun i o h => by
    rw [List.getElem?_take] at h
    split at h
    · exact ⟨by assumption, h⟩
    · cases h
  refine ⟨⟨by omega, fun _ _ => rfl, fun k h1 h2 => by omega, s.frame, fun i hi o' h => s.keep i hi o' (hget i o' h).2⟩, fun k o h => ?_, fun k o h => ?_, fun j k hj hk e => ?_⟩
  · obtain ⟨h1, h2⟩ := hget k o h
    exact ObR.agree s.agree h1 (hu k o h1 h2) (R1.ob k o h2)
  · obtain ⟨h1, h2⟩ := hget k o h
    rw [hl]
    exact hu k o h1 h2
  · have e1 := s.agree j (by omega)
    have e2 := s.agree k (by omega)
    have e3 := s.le
    exact R1.inj j k (by omega) (by omega) (by rw [e1, e2, e])
/-- a thing that stands already is taken into the store -/
theorem RelS.adopt (R : RelS K H M S) {p : Addr} {ds : List D} {vs : List V} (hp : H p = some (.lst vs)) (hd : RDs K H M ds vs) (hu : D.unds S.length ds = true) (hn : ∀ k, k < S.length → M k ≠ p) : RelS K H (ext M S.length p) (S ++ [.lst ds]) := by
  have hM : ∀ k, k < S.length → M k = ext M S.length p k := fun k hk => (ext_ne (by omega)).symm
  have last : ∀ (k : Nat) (o : Ob), ¬ k < S.length → (S ++ [Ob.lst ds])[k]? = some o → k = S.length ∧ o = .lst ds := fun k o h1 h2 => by
    have h3 := (List.getElem?_eq_some_iff.mp h2).1
    have e : k = S.length := by
      simp at h3
      omega
    subst e
    simp at h2
    exact ⟨rfl, h2.symm⟩
  refine ⟨fun k o h => ?_, fun k o h => ?_, fun j k hj hk e => ?_⟩
  · by_cases hl : k < S.length
    · rw [List.getElem?_append_left hl] at h
      exact ObR.agree hM hl (R.und k o h) (R.ob k o h)
    · obtain ⟨rfl, rfl⟩ := last k o hl h
      exact ⟨vs, by rw [ext_at]; exact hp, RDs.agree hM ds vs hu hd⟩
  · rw [List.length_append]
    by_cases hl : k < S.length
    · rw [List.getElem?_append_left hl] at h
      exact unds_mono (by omega) _ (R.und k o h)
    · obtain ⟨rfl, rfl⟩ := last k o hl h
      exact unds_mono (by omega) _ hu
  · simp at hj hk
    by_cases h1 : j = S.length
    · by_cases h2 : k = S.length
      · omega
      · rw [h1, ext_at, ext_ne h2] at e
        exact absurd e.symm (hn k (by omega))
    · by_cases h2 : k = S.length
      · rw [h2, ext_at, ext_ne h1] at e
        exact absurd e (hn j (by omega))
      · rw [ext_ne h1, ext_ne h2] at e
        exact R.inj j k (by omega) (by omega) e
theorem Step.adopt (s : Step n0 H M S H1 M S1) {p : Addr} {u : Ob} (hp : H p = none) (hl : S1.length = S.length) (hn : n0 ≤ S.length) : Step n0 H M S H1 (ext M S1.length p) (S1 ++ [u]) :=
  ⟨by simp; omega, fun k h => ext_ne (by omega), fun k h1 h2 => by
    have e : k = S1.length := by
      simp at h2
      omega
    rw [e, ext_at]
    exact hp, s.frame, fun i hi o' h => by
      rw [List.getElem?_append_left (by omega)] at h
      exact s.keep i hi o' h⟩
/-- trim: behind a step from S -/
theorem trim_ok {d d' : D} {S' : Sto} {Q : VK} {v : V} (R : RelS K H M S) (s : Step n0 H M S H1 M1 S1) (R1 : RelS K H1 M1 S1) (hn : n0 ≤ S.length) (hu : ∀ (i : Nat) (o : Ob), i < S.length → S1[i]? = some o → D.unds S.length o.els = true)
    (ud : d.und S1.length = true) (hd : RD K H1 M1 d v) (e : trim S.length d S1 = .ok d' S') (P : Post K n0 H M S d' S' Q) : Q v H1 := by
  obtain ⟨s2, R2⟩ := cut_S R s R1 hu
  have hl : (S1.take S.length).length = S.length := by
    rw [List.length_take]
    have := s.le
    omega
  unfold trim at e
  split at e
  · rename_i hd2
    obtain ⟨rfl, rfl⟩ := ok_inj e
    exact P v H1 M s2 R2 (by rw [hl]; exact hd2) (RD.agree s.agree d v hd2 hd)
  · split at e
    · rename_i k _
      split at e
      · rename_i o ho
        split at e
        · rename_i hc
          obtain ⟨rfl, rfl⟩ := ok_inj e
          have hob := R1.ob k o ho
          cases o with
          | dic kvs => exact False.elim hob
          | lst ds =>
            obtain ⟨vs, h1, h2⟩ := hob
            have hk1 : k < S1.length := (List.getElem?_eq_some_iff.mp ho).1
            have hne : ∀ j, j < (S1.take S.length).length → M j ≠ M1 k := fun j hj q => by
              rw [hl] at hj
              have := R1.inj j k (Nat.lt_of_lt_of_le hj s.le) hk1 ((s.agree j hj).trans q)
              omega
            have ad := RelS.adopt R2 h1 (RDs.agree s.agree ds vs hc.2 h2) (by rw [hl]; exact hc.2) hne
            have sd : Step n0 H M S H1 (ext M (S1.take S.length).length (M1 k)) (S1.take S.length ++ [.lst ds]) := Step.adopt s2 (s.fresh k hc.1 hk1) hl hn
            rw [hl] at ad sd
            simp only [RD] at hd
            exact P v H1 _ sd ad (by simp [D.und, hl]) (by simp only [RD]; rw [ext_at]; exact hd)
        · obtain ⟨rfl, rfl⟩ := ok_inj e
          exact P v H1 M1 s R1 ud hd
      · cases e
    · obtain ⟨rfl, rfl⟩ := ok_inj e
      exact P v H1 M1 s R1 ud hd
theorem same_und (R : RelS K H M S) (e : S1.take S.length = S) (i : Nat) (o : Ob) (hi : i < S.length) (h : S1[i]? = some o) : D.unds S.length o.els = true := by
  refine R.und i o ?_
  rw [← e, List.getElem?_take, if_pos hi]
  exact h
theorem tidy_ok {d d' : D} {S' : Sto} {Q : VK} {v : V} (R : RelS K H M S) (s : Step n0 H M S H1 M1 S1) (R1 : RelS K H1 M1 S1) (hn : n0 ≤ S.length)
    (ud : d.und S1.length = true) (hd : RD K H1 M1 d v) (e : tidy S d S1 = .ok d' S') (P : Post K n0 H M S d' S' Q) : Q v H1 := by
  unfold tidy at e
  split at e
  · rename_i hS
    exact trim_ok R s R1 hn (same_und R hS) ud hd e P
  · obtain ⟨rfl, rfl⟩ := ok_inj e
    exact P v H1 M1 s R1 ud hd

/-! ### walks -/
/-- the iterator J gives xs, as long as the things of w stand in the store -/
def ItD (K : PySem.W.Frag) (J : L2.It) (xs : List D) (w : List (Nat × Ob)) (H : Hp) (M : Mp) (S : Sto) : Prop :=
  ∃ (G : Hp → Prop) (Y : Nat → Hp → V → Hp → Prop), Walk J xs.length G Y ∧ ∀ (m : Nat) (H2 : Hp) (M2 : Mp) (S2 : Sto), Step m H M S H2 M2 S2 → RelS K H2 M2 S2 → wOk S2 w = true →
    G H2 ∧ ∀ (i : Nat) (x : V) (H3 : Hp), i < xs.length → Y i H2 x H3 → (∀ q, Step q H2 M2 S2 H3 M2 S2) ∧ RelS K H3 M2 S2 ∧ ∃ d, xs[i]? = some d ∧ RD K H3 M2 d x
def tI (K : PySem.W.Frag) (C : Cf) (ev : Env → Sto → ResI) : TI := fun σ H R => ∃ ρ S M xs w S', C.n0 ≤ S.length ∧ REnv K H M S.length ρ σ ∧ RelS K H M S ∧ ev ρ S = .ok xs w S' ∧
  ∀ J H' M', Step C.n0 H M S H' M' S' → RelS K H' M' S' → D.unds S'.length xs = true → ItD K J xs w H' M' S' → R J H'
theorem wOk_get {w : List (Nat × Ob)} {k : Nat} {o : Ob} (h : wOk S w = true) (hm : (k, o) ∈ w) : S[k]? = some o := by
  unfold wOk at h
  exact of_decide_eq_true (List.all_eq_true.mp h _ hm)
theorem RelS.fresh {p : Addr} {o : HO} (R : RelS K H M S) (hp : H p = none) : (∀ q, Step q H M S (upd H p o) M S) ∧ RelS K (upd H p o) M S := ⟨fun q => Step.new R hp, R.new hp⟩
/-- a list of the store that is walked -/
theorem itd_list (R : RelS K H M S) {k : Nat} {xs : List D} (hk : S[k]? = some (.lst xs)) : ItD K (Itl K (M k)) xs [(k, .lst xs)] H M S := by
  refine ⟨fun H => ∃ vs, vs.length = xs.length ∧ SqL K H (M k) vs, fun i H x H' => H' = H ∧ ∀ vs, SqL K H (M k) vs → vs[i]? = some x, ⟨fun i H hi ⟨vs, h1, h2⟩ => ?_, fun H ⟨vs, h1, h2⟩ => ?_, fun i H x H' hi _ y => y⟩, fun m H2 M2 S2 s R2 hw => ?_⟩
  · exact ⟨vs, vs[i]'(by omega), h2, by simp⟩
  · exact ⟨vs, h2, by omega⟩
  · have hl := (List.getElem?_eq_some_iff.mp hk).1
    obtain ⟨vs, h1, h2⟩ := R2.ob k _ (wOk_get hw (List.mem_singleton.mpr rfl))
    rw [s.agree k hl] at h1
    refine ⟨⟨vs, h2.len, SqL.of h1⟩, fun i x H3 hi ⟨e, y⟩ => ?_⟩
    subst e
    refine ⟨fun q => .refl, R2, ?_⟩
    obtain ⟨v, h3, h4⟩ := h2.get (List.getElem?_eq_getElem hi)
    have := (y vs (SqL.of h1)).symm.trans h3
    cases this
    exact ⟨_, List.getElem?_eq_getElem hi, h4⟩
/-- a list that no place of the store means -/
theorem itd_loose (R : RelS K H M S) {p : Addr} {xs : List D} {vs : List V} (hp : H p = some (.lst vs)) (hx : RDs K H M xs vs) (hu : D.unds S.length xs = true) (hn : ∀ k, k < S.length → M k ≠ p) : ItD K (Itl K p) xs [] H M S := by
  have hl := hx.len
  refine ⟨fun H => SqL K H p vs, fun i H x H' => H' = H ∧ vs[i]? = some x, ⟨fun i H hi h => ⟨vs, vs[i]'(by omega), h, by simp⟩, fun H h => ⟨vs, h, by omega⟩, fun i H x H' hi h y => ⟨y.1, y.2 vs h⟩⟩, fun m H2 M2 S2 s R2 _ => ?_⟩
  have h1 : H2 p = some (.lst vs) := s.frame p _ hp hn
  refine ⟨SqL.of h1, fun i x H3 hi ⟨e, y⟩ => ?_⟩
  subst e
  refine ⟨fun q => .refl, R2, ?_⟩
  obtain ⟨v, h3, h4⟩ := (RDs.step R s xs vs hu hx).get (List.getElem?_eq_getElem hi)
  cases y.symm.trans h3
  exact ⟨_, List.getElem?_eq_getElem hi, h4⟩
theorem itd_tup (R : RelS K H M S) {a : Addr} {xs : List D} {vs : List V} (ha : SqT K H a vs) (hx : RDs K H M xs vs) (hu : D.unds S.length xs = true) : ItD K (Itt K a) xs [] H M S := by
  have hl := hx.len
  refine ⟨fun H => SqT K H a vs, fun i H x H' => H' = H ∧ vs[i]? = some x, ⟨fun i H hi h => ⟨vs, vs[i]'(by omega), h, by simp⟩, fun H h => ⟨vs, h, by omega⟩, fun i H x H' hi h y => ⟨y.1, y.2 vs h⟩⟩, fun m H2 M2 S2 s R2 _ => ?_⟩
  refine ⟨s.tup R ha, fun i x H3 hi ⟨e, y⟩ => ?_⟩
  subst e
  refine ⟨fun q => .refl, R2, ?_⟩
  obtain ⟨v, h3, h4⟩ := (RDs.step R s xs vs hu hx).get (List.getElem?_eq_getElem hi)
  cases y.symm.trans h3
  exact ⟨_, List.getElem?_eq_getElem hi, h4⟩
theorem itd_str (R : RelS K H M S) (cs : List Nat) : ItD K (Its ⟨cs.toArray⟩) (cs.map fun c => .str [c]) [] H M S := by
  refine ⟨fun _ => True, fun i H x H' => H' = H ∧ ∃ c, cs[i]? = some c ∧ x = .str ⟨#[c]⟩, ⟨fun i H hi _ => ?_, fun H _ => ?_, fun i H x H' hi _ ⟨e, c, h1, h2⟩ => ⟨e, c, by simpa using h1, h2⟩⟩, fun m H2 M2 S2 s R2 _ => ⟨trivial, fun i x H3 hi ⟨e, c, h1, h2⟩ => ?_⟩⟩
  · show i < (cs.toArray).size
    simpa using hi
  · show (cs.toArray).size ≤ _
    simp
  · subst e h2
    exact ⟨fun q => .refl, R2, .str [c], by rw [List.getElem?_map, h1]; rfl, by simp [RD]⟩
theorem rngL_len (lo : Int) : ∀ n, (rngL lo n).length = n
  | 0 => rfl
  | n + 1 => by simp [rngL, rngL_len (lo + 1) n]
theorem rngL_get : ∀ (n : Nat) (lo : Int) (i : Nat), i < n → (rngL lo n)[i]? = some (.int (lo + i))
  | 0, _, _, h => by omega
  | n + 1, lo, 0, _ => by simp [rngL]
  | n + 1, lo, i + 1, h => by
    unfold rngL
    rw [List.getElem?_cons_succ, rngL_get n (lo + 1) i (by omega)]
    congr 2
    omega
theorem rngS_len (c : Int) : ∀ (n : Nat) (lo : Int), (rngS lo c n).length = n
  | 0, _ => rfl
  | n + 1, lo => by simp [rngS, rngS_len c n (lo + c)]
theorem rngS_get (c : Int) : ∀ (n : Nat) (lo : Int) (i : Nat), i < n → (rngS lo c n)[i]? = some (.int (lo + (i : Nat) * c))
  | 0, _, _, h => by omega
  | n + 1, lo, 0, _ => by simp [rngS]
  | n + 1, lo, i + 1, h => by
    unfold rngS
    rw [List.getElem?_cons_succ, rngS_get c n (lo + c) i (by omega)]
    congr 2
    rw [Int.natCast_add, Int.add_mul]
    omega
theorem rngL_und {n : Nat} : ∀ (k : Nat) (lo : Int), D.unds n (rngL lo k) = true
  | 0, _ => by simp [rngL, D.unds]
  | k + 1, lo => by simp [rngL, D.unds, D.und, rngL_und k (lo + 1)]
theorem rngS_und {n : Nat} (c : Int) : ∀ (k : Nat) (lo : Int), D.unds n (rngS lo c k) = true
  | 0, _ => by simp [rngS, D.unds]
  | k + 1, lo => by simp [rngS, D.unds, D.und, rngS_und c k (lo + c)]
theorem itd_rng (R : RelS K H M S) (lo : Int) (n : Nat) : ItD K (Itr lo n) (rngL lo n) [] H M S := by
  refine ⟨fun _ => True, fun i H x H' => H' = H ∧ x = .int (lo + i), ⟨fun i H hi _ => by rw [rngL_len] at hi; exact hi, fun H _ => by rw [rngL_len]; exact Nat.le_refl _, fun i H x H' hi _ y => y⟩, fun m H2 M2 S2 s R2 _ => ⟨trivial, fun i x H3 hi ⟨e, y⟩ => ?_⟩⟩
  subst e y
  rw [rngL_len] at hi
  exact ⟨fun q => .refl, R2, _, rngL_get n lo i hi, by simp [RD]⟩
theorem itd_rngS (R : RelS K H M S) (lo c : Int) (n : Nat) : ItD K (Itc lo c n) (rngS lo c n) [] H M S := by
  refine ⟨fun _ => True, fun i H x H' => H' = H ∧ x = .int (lo + (i : Nat) * c), ⟨fun i H hi _ => by rw [rngS_len] at hi; exact hi, fun H _ => by rw [rngS_len]; exact Nat.le_refl _, fun i H x H' hi _ y => y⟩, fun m H2 M2 S2 s R2 _ => ⟨trivial, fun i x H3 hi ⟨e, y⟩ => ?_⟩⟩
  subst e y
  rw [rngS_len] at hi
  exact ⟨fun q => .refl, R2, _, rngS_get c n lo i hi, by simp [RD]⟩
theorem itd_rev (R : RelS K H M S) {k : Nat} {xs : List D} (hk : S[k]? = some (.lst xs)) : ItD K (Itv K (M k) xs.length) xs.reverse [(k, .lst xs)] H M S := by
  refine ⟨fun H => ∃ vs, vs.length = xs.length ∧ SqL K H (M k) vs, fun i H x H' => H' = H ∧ ∀ vs, vs.length = xs.length → SqL K H (M k) vs → vs[xs.length - 1 - i]? = some x, ⟨fun i H hi ⟨vs, h1, h2⟩ => ?_, fun H ⟨vs, h1, h2⟩ => ?_, fun i H x H' hi ⟨vs, h1, h2⟩ y => ?_⟩, fun m H2 M2 S2 s R2 hw => ?_⟩
  · rw [List.length_reverse] at hi
    have w := walk_rev (K := K) (a := M k) (xs := vs)
    rw [h1] at w
    exact w.goes i H hi h2
  · have w := walk_rev (K := K) (a := M k) (xs := vs)
    rw [h1] at w
    rw [List.length_reverse]
    exact w.stops H h2
  · rw [List.length_reverse] at hi
    refine ⟨?_, fun ws h3 h4 => ?_⟩
    · have w := walk_rev (K := K) (a := M k) (xs := vs)
      rw [h1] at w
      exact (w.yields i H x H' hi h2 y).1
    · have w := walk_rev (K := K) (a := M k) (xs := ws)
      rw [h3] at w
      exact (w.yields i H x H' hi h4 y).2
  · have hl := (List.getElem?_eq_some_iff.mp hk).1
    obtain ⟨vs, h1, h2⟩ := R2.ob k _ (wOk_get hw (List.mem_singleton.mpr rfl))
    rw [s.agree k hl] at h1
    refine ⟨⟨vs, h2.len, SqL.of h1⟩, fun i x H3 hi ⟨e, y⟩ => ?_⟩
    subst e
    rw [List.length_reverse] at hi
    refine ⟨fun q => .refl, R2, ?_⟩
    have hj : xs.length - 1 - i < xs.length := by omega
    obtain ⟨v, h3, h4⟩ := h2.get (List.getElem?_eq_getElem hj)
    have := (y vs h2.len (SqL.of h1)).symm.trans h3
    cases this
    exact ⟨_, by rw [List.getElem?_reverse hi]; exact List.getElem?_eq_getElem hj, h4⟩
theorem enmL_len : ∀ (xs : List D) (i : Int), (enmL i xs).length = xs.length
  | [], _ => rfl
  | x :: xs, i => by simp [enmL, enmL_len xs (i + 1)]
theorem enmL_get : ∀ (xs : List D) (i : Int) (j : Nat) (d : D), xs[j]? = some d → (enmL i xs)[j]? = some (.tup [.int (i + j), d])
  | [], _, _, _, h => by simp at h
  | x :: xs, i, 0, d, h => by
    simp at h
    subst h
    simp [enmL]
  | x :: xs, i, j + 1, d, h => by
    unfold enmL
    rw [List.getElem?_cons_succ, enmL_get xs (i + 1) j d (by simpa using h)]
    congr 4
    omega
theorem enmL_und {n : Nat} : ∀ (xs : List D) (i : Int), D.unds n xs = true → D.unds n (enmL i xs) = true
  | [], _, _ => by simp [enmL, D.unds]
  | x :: xs, i, h => by
    simp only [D.unds, Bool.and_eq_true] at h
    simp [enmL, D.unds, D.und, h.1, enmL_und xs (i + 1) h.2]
/-- a new pair -/
theorem pair_RD (R : RelS K H M S) {T : Addr} (hT : H T = none) {x y : D} {v w : V} (ux : x.und S.length = true) (uy : y.und S.length = true) (hx : RD K H M x v) (hy : RD K H M y w) : (∀ q, Step q H M S (upd H T (.tup [v, w])) M S) ∧ RelS K (upd H T (.tup [v, w])) M S ∧ RD K (upd H T (.tup [v, w])) M (.tup [x, y]) (.ref T) := by
  have s : Step 0 H M S (upd H T (.tup [v, w])) M S := Step.new R hT
  refine ⟨fun q => Step.new R hT, R.new hT, ?_⟩
  simp only [RD, RDs]
  exact ⟨T, [v, w], rfl, .inl (.inl upd_same), v, [w], rfl, RD.step R s x v ux hx, w, [], rfl, RD.step R s y w uy hy, rfl⟩
theorem itd_enm (R : RelS K H M S) {k : Nat} {xs : List D} (hk : S[k]? = some (.lst xs)) : ItD K (Ite K (M k)) (enmL 0 xs) [(k, .lst xs)] H M S := by
  refine ⟨fun H => ∃ vs, vs.length = xs.length ∧ SqL K H (M k) vs, fun i H x H' => ∃ T, x = .ref T ∧ H T = none ∧ ∃ y, H' = upd H T (.tup [.int (i : Nat), y]) ∧ ∀ vs, vs.length = xs.length → SqL K H (M k) vs → vs[i]? = some y, ⟨fun i H hi ⟨vs, h1, h2⟩ => ?_, fun H ⟨vs, h1, h2⟩ => ?_, fun i H x H' hi ⟨vs, h1, h2⟩ y => ?_⟩, fun m H2 M2 S2 s R2 hw => ?_⟩
  · rw [enmL_len] at hi
    exact (walk_enum (K := K) (a := M k) (xs := vs)).goes i H (by omega) h2
  · rw [enmL_len, ← h1]
    exact (walk_enum (K := K) (a := M k) (xs := vs)).stops H h2
  · rw [enmL_len] at hi
    obtain ⟨T, a, b, e1, e2, e3, e4, e5⟩ := (walk_enum (K := K) (a := M k) (xs := vs)).yields i H x H' (by omega) h2 y
    cases e4
    refine ⟨T, e1, e2, b, e3, fun ws h3 h4 => ?_⟩
    obtain ⟨T', a', b', f1, f2, f3, f4, f5⟩ := (walk_enum (K := K) (a := M k) (xs := ws)).yields i H x H' (by omega) h4 y
    cases e1.symm.trans f1
    have : upd H T (.tup [.int (i : Nat), b]) T = upd H T (.tup [a', b']) T := by rw [← e3, ← f3]
    rw [upd_same, upd_same] at this
    injection this with this
    injection this with this
    injection this with _ this
    injection this with this _
    rw [this]
    exact f5
  · have hl := (List.getElem?_eq_some_iff.mp hk).1
    have hS2 := wOk_get hw (List.mem_singleton.mpr rfl)
    obtain ⟨vs, h1, h2⟩ := R2.ob k _ hS2
    rw [s.agree k hl] at h1
    refine ⟨⟨vs, h2.len, SqL.of h1⟩, fun i x H3 hi ⟨T, e1, e2, y, e3, e4⟩ => ?_⟩
    subst e1 e3
    rw [enmL_len] at hi
    have hxi := List.getElem?_eq_getElem hi
    obtain ⟨v, h3, h4⟩ := h2.get hxi
    cases (e4 vs h2.len (SqL.of h1)).symm.trans h3
    obtain ⟨q1, q2, q3⟩ := pair_RD R2 e2 (x := .int (i : Nat)) (y := xs[i]) (v := .int (i : Nat)) (by simp [D.und]) (unds_mem (R2.und _ _ hS2) _ (List.mem_of_getElem? hxi)) (by simp [RD]) h4
    refine ⟨q1, q2, _, enmL_get xs 0 i _ hxi, ?_⟩
    rw [Int.zero_add]
    exact q3
theorem itd_enmT (R : RelS K H M S) {a : Addr} {xs : List D} {vs : List V} (ha : SqT K H a vs) (hx : RDs K H M xs vs) (ux : D.unds S.length xs = true) : ItD K (Et.IteT K a) (enmL 0 xs) [] H M S := by
  have l1 := hx.len
  refine ⟨fun H => SqT K H a vs, fun i H x H' => ∃ T, x = .ref T ∧ H T = none ∧ ∃ y, H' = upd H T (.tup [.int (i : Nat), y]) ∧ vs[i]? = some y,
    ⟨fun i H hi h1 => ?_, fun H h1 => ?_, fun i H x H' hi h1 ⟨T, y, e1, e2, e3, e4⟩ => ⟨T, e1, e2, y, e3, e4 _ h1⟩⟩, fun m H2 M2 S2 s R2 hw => ?_⟩
  · rw [enmL_len] at hi
    exact ⟨vs, vs[i]'(by omega), h1, by simp⟩
  · refine ⟨vs, h1, ?_⟩
    rw [enmL_len]
    omega
  · refine ⟨s.tup R ha, fun i x H3 hi ⟨T, f1, f2, y, f3, f4⟩ => ?_⟩
    subst f1 f3
    rw [enmL_len] at hi
    have hxi : xs[i]? = some (xs[i]'(by omega)) := List.getElem?_eq_getElem (by omega)
    obtain ⟨v, h3, h4⟩ := hx.get hxi
    cases f4.symm.trans h3
    have ui := unds_mem ux _ (List.mem_of_getElem? hxi)
    obtain ⟨q1, q2, q3⟩ := pair_RD R2 f2 (x := .int (i : Nat)) (y := xs[i]) (v := .int (i : Nat)) (by simp [D.und]) (und_mono s.le _ ui) (by simp [RD]) (RD.step R s _ _ ui h4)
    refine ⟨q1, q2, _, enmL_get xs 0 i _ hxi, ?_⟩
    rw [Int.zero_add]
    exact q3
theorem zipL_len : ∀ (xs ys : List D), (zipL xs ys).length = min xs.length ys.length
  | [], _ => by simp [zipL]
  | _ :: _, [] => by simp [zipL]
  | x :: xs, y :: ys => by simp [zipL, zipL_len xs ys]
theorem zipL_get : ∀ (xs ys : List D) (j : Nat) (d e : D), xs[j]? = some d → ys[j]? = some e → (zipL xs ys)[j]? = some (.tup [d, e])
  | [], _, _, _, _, h, _ => by simp at h
  | _ :: _, [], _, _, _, _, h => by simp at h
  | x :: xs, y :: ys, 0, d, e, h, g => by
    simp at h g
    subst h g
    simp [zipL]
  | x :: xs, y :: ys, j + 1, d, e, h, g => by
    unfold zipL
    rw [List.getElem?_cons_succ]
    exact zipL_get xs ys j d e (by simpa using h) (by simpa using g)
theorem zipL_und {n : Nat} : ∀ (xs ys : List D), D.unds n xs = true → D.unds n ys = true → D.unds n (zipL xs ys) = true
  | [], _, _, _ => by simp [zipL, D.unds]
  | _ :: _, [], _, _ => by simp [zipL, D.unds]
  | x :: xs, y :: ys, h, g => by
    simp only [D.unds, Bool.and_eq_true] at h g
    simp [zipL, D.unds, D.und, h.1, g.1, zipL_und xs ys h.2 g.2]
theorem itd_zip (R : RelS K H M S) {j k : Nat} {xs ys : List D} (hj : S[j]? = some (.lst xs)) (hk : S[k]? = some (.lst ys)) : ItD K (Itz K (M j) (M k)) (zipL xs ys) [(j, .lst xs), (k, .lst ys)] H M S := by
  refine ⟨fun H => ∃ vs ws, vs.length = xs.length ∧ ws.length = ys.length ∧ SqL K H (M j) vs ∧ SqL K H (M k) ws, fun i H x H' => ∃ T, x = .ref T ∧ H T = none ∧ ∃ y z, H' = upd H T (.tup [y, z]) ∧ (∀ vs, SqL K H (M j) vs → vs[i]? = some y) ∧ ∀ ws, SqL K H (M k) ws → ws[i]? = some z,
    ⟨fun i H hi ⟨vs, ws, h1, h2, h3, h4⟩ => ?_, fun H ⟨vs, ws, h1, h2, h3, h4⟩ => ?_, fun i H x H' hi _ ⟨T, a, b, e1, e2, e3, e4, e5⟩ => ⟨T, e1, e2, a, b, e3, e4, e5⟩⟩, fun m H2 M2 S2 s R2 hw => ?_⟩
  · rw [zipL_len] at hi
    exact ⟨vs, ws, vs[i]'(by omega), ws[i]'(by omega), h3, h4, by simp, by simp⟩
  · refine ⟨vs, ws, h3, h4, ?_⟩
    rw [zipL_len]
    omega
  · have lj := (List.getElem?_eq_some_iff.mp hj).1
    have lk := (List.getElem?_eq_some_iff.mp hk).1
    have e1 := wOk_get hw (show (j, Ob.lst xs) ∈ _ from List.mem_cons_self)
    have e2 := wOk_get hw (show (k, Ob.lst ys) ∈ _ from List.mem_cons_of_mem _ (List.mem_singleton.mpr rfl))
    obtain ⟨vs, h1, h2⟩ := R2.ob j _ e1
    obtain ⟨ws, h3, h4⟩ := R2.ob k _ e2
    rw [s.agree j lj] at h1
    rw [s.agree k lk] at h3
    refine ⟨⟨vs, ws, h2.len, h4.len, SqL.of h1, SqL.of h3⟩, fun i x H3 hi ⟨T, f1, f2, y, z, f3, f4, f5⟩ => ?_⟩
    subst f1 f3
    rw [zipL_len] at hi
    have hxi : xs[i]? = some (xs[i]'(by omega)) := List.getElem?_eq_getElem (by omega)
    have hyi : ys[i]? = some (ys[i]'(by omega)) := List.getElem?_eq_getElem (by omega)
    obtain ⟨v, g1, g2⟩ := h2.get hxi
    obtain ⟨u, g3, g4⟩ := h4.get hyi
    cases (f4 vs (SqL.of h1)).symm.trans g1
    cases (f5 ws (SqL.of h3)).symm.trans g3
    obtain ⟨q1, q2, q3⟩ := pair_RD R2 f2 (unds_mem (R2.und _ _ e1) _ (List.mem_of_getElem? hxi)) (unds_mem (R2.und _ _ e2) _ (List.mem_of_getElem? hyi)) g2 g4
    exact ⟨q1, q2, _, zipL_get xs ys i _ _ hxi hyi, q3⟩
theorem itd_zipT (R : RelS K H M S) {a b : Addr} {xs ys : List D} {vs ws : List V} (ha : SqT K H a vs) (hx : RDs K H M xs vs) (hb : SqT K H b ws) (hy : RDs K H M ys ws) (ux : D.unds S.length xs = true) (uy : D.unds S.length ys = true) : ItD K (ItzT K a b) (zipL xs ys) [] H M S := by
  have l1 := hx.len
  have l2 := hy.len
  refine ⟨fun H => SqT K H a vs ∧ SqT K H b ws, fun i H x H' => ∃ T, x = .ref T ∧ H T = none ∧ ∃ y z, H' = upd H T (.tup [y, z]) ∧ vs[i]? = some y ∧ ws[i]? = some z,
    ⟨fun i H hi ⟨h1, h2⟩ => ?_, fun H ⟨h1, h2⟩ => ?_, fun i H x H' hi ⟨h1, h2⟩ ⟨T, p, q, e1, e2, e3, e4, e5⟩ => ⟨T, e1, e2, p, q, e3, e4 _ h1, e5 _ h2⟩⟩, fun m H2 M2 S2 s R2 hw => ?_⟩
  · rw [zipL_len] at hi
    exact ⟨vs, ws, vs[i]'(by omega), ws[i]'(by omega), h1, h2, by simp, by simp⟩
  · refine ⟨vs, ws, h1, h2, ?_⟩
    rw [zipL_len]
    omega
  · refine ⟨⟨s.tup R ha, s.tup R hb⟩, fun i x H3 hi ⟨T, f1, f2, y, z, f3, f4, f5⟩ => ?_⟩
    subst f1 f3
    rw [zipL_len] at hi
    have hxi : xs[i]? = some (xs[i]'(by omega)) := List.getElem?_eq_getElem (by omega)
    have hyi : ys[i]? = some (ys[i]'(by omega)) := List.getElem?_eq_getElem (by omega)
    obtain ⟨v, g1, g2⟩ := (RDs.step R s xs vs ux hx).get hxi
    obtain ⟨u, g3, g4⟩ := (RDs.step R s ys ws uy hy).get hyi
    cases f4.symm.trans g1
    cases f5.symm.trans g3
    obtain ⟨q1, q2, q3⟩ := pair_RD R2 f2 (und_mono s.le _ (unds_mem ux _ (List.mem_of_getElem? hxi))) (und_mono s.le _ (unds_mem uy _ (List.mem_of_getElem? hyi))) g2 g4
    exact ⟨q1, q2, _, zipL_get xs ys i _ _ hxi hyi, q3⟩
theorem itd_revT (R : RelS K H M S) {a : Addr} {xs : List D} {vs : List V} (ha : SqT K H a vs) (hx : RDs K H M xs vs) (hu : D.unds S.length xs = true) (hw : ∀ (K : PySem.W.Frag) (a : Addr) (vs : List V), Walk (ItvT K a vs.length) vs.length (fun H => SqT K H a vs) (fun i H x H' => H' = H ∧ vs[vs.length - 1 - i]? = some x)) : ItD K (ItvT K a vs.length) xs.reverse [] H M S := by
  have hl := hx.len
  refine ⟨fun H => SqT K H a vs, fun i H x H' => H' = H ∧ vs[vs.length - 1 - i]? = some x, by rw [List.length_reverse, ← hl]; exact hw K a vs, fun m H2 M2 S2 s R2 _ => ?_⟩
  refine ⟨s.tup R ha, fun i x H3 hi ⟨e, y⟩ => ?_⟩
  subst e
  rw [List.length_reverse] at hi
  refine ⟨fun q => .refl, R2, ?_⟩
  have hj : xs.length - 1 - i < xs.length := by omega
  obtain ⟨v, h3, h4⟩ := (RDs.step R s xs vs hu hx).get (List.getElem?_eq_getElem hj)
  rw [hl] at y
  cases y.symm.trans h3
  exact ⟨_, by rw [List.getElem?_reverse hi]; exact List.getElem?_eq_getElem hj, h4⟩
end
theorem walk_revT (K : PySem.W.Frag) (a : Addr) (vs : List V) : Walk (ItvT K a vs.length) vs.length (fun H => SqT K H a vs) (fun i H x H' => H' = H ∧ vs[vs.length - 1 - i]? = some x) :=
  ⟨fun i H hi h => ⟨hi, vs, vs[vs.length - 1 - i]'(by omega), h, by simp⟩, fun H h => Nat.le_refl _, fun i H x H' hi h y => ⟨y.1, y.2 vs h⟩⟩
end Ev

set_option Elab.async false
set_option linter.all false
set_option autoImplicit false
set_option maxRecDepth 100000
set_option maxHeartbeats 4000000
/-! Ev9: targets, comprehensions read by the evaluator. -/
namespace Ev
open PySem PySem.Spec PyProof.Rows L2 RT RZ

section
variable {K : PySem.W.Frag} {H H1 H2 : Hp} {M M1 M2 : Mp} {S S1 S2 : Sto} {n0 : Nat}
/-! ### slots forgotten -/
theorem kill_length : ∀ (is : List Nat) (ρ : Env), (kill is ρ).length = ρ.length
  | [], _ => rfl
  | i :: r, ρ => by
    unfold kill
    rw [List.length_set, kill_length r ρ]
theorem kill_some {ρ : Env} {j : Nat} {d : D} : ∀ {is : List Nat}, (kill is ρ)[j]? = some (some d) → ρ[j]? = some (some d) ∧ j ∉ is
  | [], h => ⟨h, by simp⟩
  | i :: r, h => by
    unfold kill at h
    by_cases e : j = i
    · subst e
      by_cases hl : j < (kill r ρ).length
      · rw [List.getElem?_set_self hl] at h
        cases h
      · rw [List.getElem?_eq_none (by rw [List.length_set]; omega)] at h
        cases h
    · rw [List.getElem?_set_ne (Ne.symm e)] at h
      obtain ⟨h1, h2⟩ := kill_some h
      exact ⟨h1, fun m => (List.mem_cons.mp m).elim e h2⟩
theorem REnv.wipe {n : Nat} {ρ : Env} {σ : L2.St} (e : REnv K H M n ρ σ) (is : List Nat) : REnv K H M n (kill is ρ) (L2.wipe σ is) :=
  ⟨by rw [L2.wipe_length, kill_length, e.len], fun i d h => by
    obtain ⟨h1, h2⟩ := kill_some h
    obtain ⟨u, v, h3, h4⟩ := e.val i d h1
    exact ⟨u, v, by rw [wipe_out h2]; exact h3, h4⟩⟩
/-- the slots of fewer names are known -/
theorem REnv.kill {n : Nat} {ρ : Env} {σ : L2.St} (e : REnv K H M n ρ σ) (is : List Nat) : REnv K H M n (kill is ρ) σ :=
  ⟨by rw [kill_length, e.len], fun i d h => e.val i d (kill_some h).1⟩
theorem REnv.set {n : Nat} {ρ : Env} {σ : L2.St} (e : REnv K H M n ρ σ) (i : Nat) {d : D} {v : V} (hu : d.und n = true) (hd : RD K H M d v) : REnv K H M n (ρ.set i (some d)) (σ.set i (some v)) :=
  ⟨by rw [List.length_set, List.length_set, e.len], fun j c h => by
    by_cases hj : j = i
    · subst hj
      by_cases hl : j < ρ.length
      · rw [List.getElem?_set_self hl] at h
        cases h
        exact ⟨hu, v, by rw [List.getElem?_set_self (by rw [e.len]; exact hl)], hd⟩
      · rw [List.getElem?_eq_none (by rw [List.length_set]; omega)] at h
        cases h
    · rw [List.getElem?_set_ne (Ne.symm hj)] at h
      obtain ⟨u, w, h1, h2⟩ := e.val j c h
      exact ⟨u, w, by rw [List.getElem?_set_ne (Ne.symm hj)]; exact h1, h2⟩⟩
theorem wipe_set {σ : L2.St} {i : Nat} {x : Option V} : ∀ {vs : List Nat}, i ∈ vs → L2.wipe (σ.set i x) vs = L2.wipe σ vs := by
  intro vs h
  apply List.ext_getElem?
  intro j
  have len : ∀ τ : L2.St, (L2.wipe τ vs).length = τ.length := fun τ => L2.wipe_length τ vs
  by_cases hj : j ∈ vs
  · have z : ∀ (τ : L2.St) (ws : List Nat), j ∈ ws → (L2.wipe τ ws)[j]? = if j < τ.length then some none else none := by
      intro τ ws
      induction ws with
      | nil => intro h; cases h
      | cons v ws ih =>
        intro h
        unfold L2.wipe
        by_cases e : v = j
        · subst e
          by_cases hl : v < τ.length
          · rw [List.getElem?_set_self (by rw [L2.wipe_length]; exact hl), if_pos hl]
          · rw [List.getElem?_eq_none (by rw [List.length_set, L2.wipe_length]; omega), if_neg hl]
        · rw [List.getElem?_set_ne e]
          exact ih ((List.mem_cons.mp h).elim (fun q => absurd q.symm e) id)
    rw [z _ vs hj, z _ vs hj, List.length_set]
  · rw [wipe_out hj, wipe_out hj, List.getElem?_set_ne]
    intro e
    exact hj (e ▸ h)
theorem wipe_wipe {σ : L2.St} : ∀ (vs ws : List Nat), (∀ i ∈ vs, i ∈ ws) → L2.wipe (L2.wipe σ vs) ws = L2.wipe σ ws
  | [], _, _ => rfl
  | v :: vs, ws, h => by
    show L2.wipe ((L2.wipe σ vs).set v none) ws = _
    rw [wipe_set (h v List.mem_cons_self), wipe_wipe vs ws fun i hi => h i (List.mem_cons_of_mem _ hi)]

/-! ### targets -/
def gsG : List Nat → TGs
  | [] => gNil
  | i :: is => gCons (gName i) (gsG is)
def tgG (K : PySem.W.Frag) (one : Bool) (tg : List Nat) : TG := if one then gName (tg.headD 0) else gTup K tg.length (gsG tg)
theorem gs_ok {n : Nat} : ∀ {is : List Nat} {ds : List D} {vs : List V} {ρ ρ1 : Env} {σ : L2.St} {own : List Nat} {Q : L2.St → Hp → Prop}, binds is ds ρ = some ρ1 → D.unds n ds = true → RDs K H M ds vs → REnv K H M n ρ σ → (∀ i ∈ is, i ∈ own) →
    (∀ σ1, REnv K H M n ρ1 σ1 → L2.wipe σ1 own = L2.wipe σ own → Q σ1 H) → gsG is vs σ H Q
  | [], [], vs, ρ, ρ1, σ, own, Q, e, _, h, hρ, _, q => by
    simp only [RDs] at h
    simp only [binds, Option.some.injEq] at e
    subst e
    exact ⟨h, q σ hρ rfl⟩
  | [], _ :: _, vs, ρ, ρ1, σ, own, Q, e, _, h, hρ, _, q => by simp [binds] at e
  | _ :: _, [], vs, ρ, ρ1, σ, own, Q, e, _, h, hρ, _, q => by simp [binds] at e
  | i :: is, d :: ds, vs, ρ, ρ1, σ, own, Q, e, u, h, hρ, ho, q => by
    simp only [RDs] at h
    obtain ⟨v, r, rfl, h1, h2⟩ := h
    simp only [D.unds, Bool.and_eq_true] at u
    simp only [binds] at e
    exact ⟨v, r, rfl, gs_ok e u.2 h2 (hρ.set i u.1 h1) (fun j hj => ho j (List.mem_cons_of_mem _ hj)) fun σ1 h3 h4 => q σ1 h3 (by rw [h4, wipe_set (ho i List.mem_cons_self)])⟩
theorem binds_len : ∀ {is : List Nat} {ds : List D} {ρ ρ1 : Env}, binds is ds ρ = some ρ1 → ds.length = is.length
  | [], [], _, _, _ => rfl
  | [], _ :: _, _, _, e => by simp [binds] at e
  | _ :: _, [], _, _, e => by simp [binds] at e
  | i :: is, d :: ds, _, _, e => by
    simp only [binds] at e
    rw [List.length_cons, List.length_cons, binds_len e]
theorem tg_ok {n : Nat} {one : Bool} {tg : List Nat} {d : D} {v : V} {ρ ρ1 : Env} {σ : L2.St} {own : List Nat} {Q : L2.St → Hp → Prop} (e : bindTg one tg d ρ = some ρ1) (u : d.und n = true) (h : RD K H M d v) (hρ : REnv K H M n ρ σ) (ho : ∀ i ∈ tg, i ∈ own)
    (q : ∀ σ1, REnv K H M n ρ1 σ1 → L2.wipe σ1 own = L2.wipe σ own → Q σ1 H) : tgG K one tg v σ H Q := by
  unfold bindTg at e
  unfold tgG
  cases one with
  | true =>
    simp only [if_true] at e ⊢
    split at e
    · rename_i i
      cases e
      exact q _ (hρ.set i u h) (wipe_set (ho i List.mem_cons_self))
    · cases e
  | false =>
    simp only [Bool.false_eq_true, if_false] at e ⊢
    split at e
    · rename_i ds
      simp only [D.und] at u
      simp only [RD] at h
      obtain ⟨a, vs, rfl, h1, h2⟩ := h
      exact ⟨a, vs, rfl, h1, by rw [h2.len]; exact binds_len e, gs_ok e u h2 hρ ho q⟩
    · cases e
/-- the names that a target may have: those of the block sc0, which X's scope holds too -/
theorem names_G {X : Cx} {N : List Str} {sc0 : Scope} (hN : X.N = N) (nd : N.Nodup) (hl : ∀ y, locB sc0 y = true → Loc X.env.scope y ∧ (X.fn y = true ∨ X.env.scope.names.lookup y = some .local)) :
    ∀ {is : List Nat} {es : List Expr}, mNames N sc0 is es = true → PGs X es (gsG is) ∧ (assignEach es X.env).length = is.length ∧ (assignEach es X.env).findIdx? (·.1) = none
  | [], [], _ => ⟨pgs_nil, rfl, rfl⟩
  | [], _ :: _, h => by simp [mNames] at h
  | _ :: _, [], h => by simp [mNames] at h
  | i :: is, e :: es, h => by
    simp only [mNames, Bool.and_eq_true] at h
    obtain ⟨h1, h2⟩ := h
    split at h1
    · rename_i x hx
      obtain ⟨p, rfl⟩ := vName_ok hx
      simp only [Bool.and_eq_true, decide_eq_true_eq] at h1
      obtain ⟨l1, l2⟩ := hl x h1.2
      obtain ⟨g1, g2, g3⟩ := names_G hN nd hl h2
      subst hN
      refine ⟨pgs_cons (pg_name nd h1.1 l1 l2) g1, ?_, ?_⟩
      · show ((false, assign (.Name x p) X.env) :: assignEach es X.env).length = _
        rw [List.length_cons, List.length_cons, g2]
      · show ((false, assign (.Name x p) X.env) :: assignEach es X.env).findIdx? (·.1) = none
        rw [List.findIdx?_cons, g3]
        rfl
    · cases h1
theorem tg_G {X : Cx} {N : List Str} {sc0 : Scope} {one : Bool} {tg : List Nat} {e : Expr} (hc : X.calm = true) (hN : X.N = N) (nd : N.Nodup) (hl : ∀ y, locB sc0 y = true → Loc X.env.scope y ∧ (X.fn y = true ∨ X.env.scope.names.lookup y = some .local))
    (h : mTg N sc0 one tg e = true) : PG X e (tgG X.K one tg) := by
  unfold mTg at h
  unfold tgG
  cases one with
  | true =>
    simp only [if_true, Bool.and_eq_true, decide_eq_true_eq] at h ⊢
    obtain ⟨h1, h2⟩ := h
    match tg, h2 with
    | [i], _ =>
      simp only [mNames, Bool.and_eq_true] at h1
      obtain ⟨h1, _⟩ := h1
      split at h1
      · rename_i x hx
        obtain ⟨p, rfl⟩ := vName_ok hx
        simp only [Bool.and_eq_true, decide_eq_true_eq] at h1
        obtain ⟨l1, l2⟩ := hl x h1.2
        subst hN
        exact pg_name nd h1.1 l1 l2
      · cases h1
  | false =>
    simp only [Bool.false_eq_true, if_false] at h ⊢
    split at h
    · rename_i es hx
      obtain ⟨j, p, rfl⟩ := vTup_ok hx
      obtain ⟨g1, g2, g3⟩ := names_G hN nd hl h
      exact pg_tup hc g1 g2 g3
    · cases h

/-! ### a list that is no thing of the store, written -/
theorem Step.un (s : Step n0 H M S H1 M1 S1) {p : Addr} {o : HO} (hp : H p = none) : Step n0 H M S (upd H1 p o) M1 S1 :=
  ⟨s.le, s.agree, s.fresh, fun b q h hb => by rw [upd_ne (ne_of_none h hp)]; exact s.frame b q h hb, s.keep⟩
mutual
theorem RD.over {p : Addr} {vs ws : List V} (hp : H p = some (.lst vs)) : ∀ (d : D) (v : V), RD K H M d v → RD K (upd H p (.lst ws)) M d v
  | .non, v, h => by simpa [RD] using h
  | .bl _, v, h => by simpa [RD] using h
  | .int _, v, h => by simpa [RD] using h
  | .str _, v, h => by simpa [RD] using h
  | .exc _ _, v, h => by simp [RD] at h
  | .ref k, v, h => by simpa [RD] using h
  | .tup ds, v, h => by
    simp only [RD] at h ⊢
    obtain ⟨a, xs, e, hs, h⟩ := h
    refine ⟨a, xs, e, ?_, RDs.over hp ds xs h⟩
    rcases hs with (hs | ⟨o, hs⟩) | hs
    · exact .inl (.inl (by rw [upd_ne (fun q => by rw [q, hp] at hs; cases hs)]; exact hs))
    · exact .inl (.inr ⟨o, by rw [upd_ne (fun q => by rw [q, hp] at hs; cases hs)]; exact hs⟩)
    · exact .inr hs
  | .frl ds, v, h => by
    simp only [RD] at h ⊢
    obtain ⟨a, xs, e, hs, h⟩ := h
    refine ⟨a, xs, e, ?_, RDs.over hp ds xs h⟩
    rcases hs with ⟨o, hs⟩ | hs
    · exact .inl ⟨o, by rw [upd_ne (fun q => by rw [q, hp] at hs; cases hs)]; exact hs⟩
    · exact .inr hs
theorem RDs.over {p : Addr} {vs ws : List V} (hp : H p = some (.lst vs)) : ∀ (ds : List D) (xs : List V), RDs K H M ds xs → RDs K (upd H p (.lst ws)) M ds xs
  | [], xs, h => by simpa [RDs] using h
  | d :: ds, xs, h => by
    simp only [RDs] at h ⊢
    obtain ⟨v, r, e, h1, h2⟩ := h
    exact ⟨v, r, e, RD.over hp d v h1, RDs.over hp ds r h2⟩
end
theorem RelS.over (R : RelS K H M S) {p : Addr} {vs ws : List V} (hp : H p = some (.lst vs)) (hn : ∀ k, k < S.length → M k ≠ p) : RelS K (upd H p (.lst ws)) M S := by
  refine ⟨fun k o h => ?_, R.und, R.inj⟩
  have q := R.ob k o h
  cases o with
  | lst ds =>
    obtain ⟨xs, h1, h2⟩ := q
    exact ⟨xs, by rw [upd_ne (hn k (List.getElem?_eq_some_iff.mp h).1)]; exact h1, RDs.over hp ds xs h2⟩
  | dic kvs => exact False.elim q
/-- what is free behind a step was free ahead of it -/
theorem Step.back (R : RelS K H M S) (R1 : RelS K H1 M1 S1) (s : Step n0 H M S H1 M1 S1) {p : Addr} (hp : H1 p = none) : H p = none := by
  cases e : H p with
  | none => rfl
  | some o =>
    by_cases hr : ∀ k, k < S.length → M k ≠ p
    · rw [s.frame p o e hr] at hp
      cases hp
    · have hr2 : ∃ k, k < S.length ∧ M k = p := by
        by_cases z : ∃ k, k < S.length ∧ M k = p
        · exact z
        · exact absurd (fun k hk q => z ⟨k, hk, q⟩) hr
      obtain ⟨k, hk, ek⟩ := hr2
      obtain ⟨o2, h3, _⟩ := R1.isObj (Nat.lt_of_lt_of_le hk s.le)
      rw [s.agree k hk, ek, hp] at h3
      cases h3
theorem Step.take (s : Step n0 H M S H1 M1 S1) {p : Addr} {u : Ob} (hp : H p = none) (hn : n0 ≤ S1.length) : Step n0 H M S H1 (ext M1 S1.length p) (S1 ++ [u]) :=
  ⟨by have := s.le; simp; omega, fun k h => by rw [ext_ne (by have := s.le; omega)]; exact s.agree k h, fun k h1 h2 => by
    by_cases e : k = S1.length
    · rw [e, ext_at]
      exact hp
    · rw [ext_ne e]
      simp at h2
      exact s.fresh k h1 (by omega), s.frame, fun i hi o' h => by
      rw [List.getElem?_append_left (by omega)] at h
      exact s.keep i hi o' h⟩
/-- a thing beside the store stays beside it -/
theorem Step.beside (R : RelS K H M S) (s : Step n0 H M S H1 M1 S1) {p : Addr} {o : HO} (hp : H p = some o) (hn : ∀ k, k < S.length → M k ≠ p) : H1 p = some o ∧ ∀ k, k < S1.length → M1 k ≠ p :=
  ⟨s.frame p o hp hn, fun k hk e => by
    by_cases hl : k < S.length
    · rw [s.agree k hl] at e
      exact hn k hl e
    · have := s.fresh k (by omega) hk
      rw [e, hp] at this
      cases this⟩

theorem lcL_ok_w {w : List (Nat × Ob)} {bd : D → Option Env} {c e : Env → Sto → Res} {xs ds : List D} {T T' : Sto} (h : lcL w bd c e xs T = .ok ds T') : wOk T w = true := by
  cases xs with
  | nil =>
    simp only [lcL] at h
    split at h
    · assumption
    · cases h
  | cons x xs =>
    simp only [lcL] at h
    split at h
    · assumption
    · cases h
theorem lcL_nil {w : List (Nat × Ob)} {bd : D → Option Env} {c e : Env → Sto → Res} {ds : List D} {T T' : Sto} (h : lcL w bd c e [] T = .ok ds T') : ds = [] ∧ T' = T := by
  simp only [lcL] at h
  split at h
  · cases h
    exact ⟨rfl, rfl⟩
  · cases h
theorem lcL_cons {w : List (Nat × Ob)} {bd : D → Option Env} {c e : Env → Sto → Res} {x : D} {xs ds : List D} {T T' : Sto} (h : lcL w bd c e (x :: xs) T = .ok ds T') :
    ∃ ρ b T1, bd x = some ρ ∧ c ρ T = .ok (.bl b) T1 ∧ ((b = true ∧ ∃ d T2 dr, e ρ T1 = .ok d T2 ∧ lcL w bd c e xs T2 = .ok dr T' ∧ ds = d :: dr) ∨ (b = false ∧ lcL w bd c e xs T1 = .ok ds T')) := by
  simp only [lcL] at h
  split at h
  · split at h
    · cases h
    · rename_i ρ hb
      obtain ⟨b, T1, h1, h⟩ := bindR_ok h
      split at h
      · obtain ⟨d, T2, h2, h⟩ := bindR_ok h
        split at h
        · rename_i dr T3 h3
          cases h
          exact ⟨ρ, true, T1, hb, h1, .inl ⟨rfl, d, T2, dr, h2, h3, rfl⟩⟩
        · rename_i q
          exact absurd h (q ds T')
      · exact ⟨ρ, false, T1, hb, h1, .inr ⟨rfl, h⟩⟩
      · cases h
  · cases h
end

/-- a comprehension -/
theorem lc_read {K : PySem.W.Frag} {C : Cf} {own tg : List Nat} {one : Bool} {it : It} {c e : E} {σ : L2.St} {H : Hp} {Q : VK} {tt : TT}
    (ho : ∀ i ∈ tg, i ∈ own) (ht : ∀ σ H Q, tT K C (evE C c) σ H Q → tt σ H Q)
    (h : tE K C (evE C (.lc own one tg it c e)) σ H Q) : tLc (tI K C (evIt C it)) (tgG K one tg) tt (tE K C (evE C e)) own σ H Q := by
  obtain ⟨ρ, S, M, d, S', hn, hρ, R, ev, P⟩ := h
  simp only [evE] at ev
  generalize hi : evIt C it ρ S = ri at ev
  cases ri with
  | st => cases ev
  | ex _ _ => cases ev
  | ok xs w S1 =>
  simp only [lcK] at ev
  obtain ⟨hlen, ev⟩ := st_ne ev
  generalize hL : lcL w (fun d => bindTg one tg d (kill own ρ)) (fun ρ S => evE C c ρ S) (fun ρ S => evE C e ρ S) xs S1 = rl at ev
  cases rl with
  | st => cases ev
  | ex _ _ => cases ev
  | ok ds S2 =>
  simp only [ResL.nox, alloc] at ev
  obtain ⟨rfl, rfl⟩ := ok_inj ev
  refine ⟨ρ, S, M, xs, w, S1, hn, hρ, R, hi, fun J H1 M1 s1 R1 uxs itd D hD => ?_⟩
  obtain ⟨G, Y, wk, hI⟩ := itd
  have hρ1 : REnv K H1 M1 S1.length ρ σ := hρ.step R s1
  refine lc_it wk (fun i H' => ∃ Si Mi acc accD rest, Step C.n0 H1 M1 S1 H' Mi Si ∧ RelS K H' Mi Si ∧ (∀ k, k < Si.length → Mi k ≠ D) ∧ H' D = some (.lst acc) ∧ RDs K H' Mi accD acc ∧ Ev.D.unds Si.length accD = true ∧ acc.length ≤ i ∧
    lcL w (fun d => bindTg one tg d (kill own ρ)) (fun ρ S => evE C c ρ S) (fun ρ S => evE C e ρ S) (xs.drop i) Si = .ok rest S2 ∧ ds = accD ++ rest) ?_ ?_ ?_ ?_
  · exact ⟨S1, M1, [], [], ds, Step.new R1 hD, R1.new hD, fun k hk => R1.tracked hk hD, upd_same, by simp [RDs], by simp [Ev.D.unds], Nat.le_refl _, by rw [List.drop_zero]; exact hL, rfl⟩
  · intro i H' hi' ⟨Si, Mi, acc, accD, rest, st, Ri, hu, hDi, hacc, uacc, hla, hl, hds⟩
    exact (hI C.n0 H' Mi Si st Ri (lcL_ok_w hl)).1
  · intro i x H' H'' hi' ⟨Si, Mi, acc, accD, rest, st, Ri, hu, hDi, hacc, uacc, hla, hl, hds⟩ y
    obtain ⟨_, hy⟩ := hI C.n0 H' Mi Si st Ri (lcL_ok_w hl)
    obtain ⟨sq, Rq, dx, hdx, hxd⟩ := hy i x H'' hi' y
    have hdrop : xs.drop i = dx :: xs.drop (i + 1) := by
      rw [List.drop_eq_getElem_cons hi']
      rw [List.getElem?_eq_getElem hi'] at hdx
      cases hdx
      rfl
    rw [hdrop] at hl
    obtain ⟨ρ2, b, T1, hb, hc1, hrest⟩ := lcL_cons hl
    have st2 : Step C.n0 H1 M1 S1 H'' Mi Si := Step.trans Ri st (sq C.n0)
    obtain ⟨hD2, hu2⟩ := Step.beside Ri (sq C.n0) hDi hu
    have udx : dx.und Si.length = true := und_mono st.le _ (unds_mem uxs dx (List.mem_of_getElem? hdx))
    have hn2 : C.n0 ≤ Si.length := Nat.le_trans hn (Nat.le_trans s1.le st.le)
    refine tg_ok hb udx hxd ((hρ1.step R1 st2).wipe own) ho fun σ2 hσ2 hw => ⟨by rw [hw, wipe_wipe own own fun _ h => h], ?_⟩
    have hacc2 := RDs.step Ri (sq C.n0) accD acc uacc hacc
    refine ht _ _ _ ⟨ρ2, Si, Mi, b, T1, hn2, hσ2, Rq, hc1, fun v H3 M3 s3 R3 u3 h3 => ⟨b, by simpa [RD] using h3, ?_⟩⟩
    have st3 := Step.trans Rq st2 s3
    obtain ⟨hD3, hu3⟩ := Step.beside Rq s3 hD2 hu2
    have hacc3 := RDs.step Rq s3 accD acc uacc hacc2
    have uacc3 := unds_mono s3.le accD uacc
    rcases hrest with ⟨rfl, dd, T2, dr, he, hl2, hds2⟩ | ⟨rfl, hl2⟩
    · show (if true = true then _ else _)
      rw [if_pos rfl]
      refine ⟨ρ2, T1, M3, dd, T2, Nat.le_trans hn2 s3.le, hσ2.step Rq s3, R3, he, fun y H4 M4 s4 R4 u4 h4 => ?_⟩
      obtain ⟨hD4, hu4⟩ := Step.beside R3 s4 hD3 hu3
      have hacc4 := RDs.step R3 s4 accD acc uacc3 hacc3
      have st4 := Step.trans R3 st3 s4
      refine ⟨acc, hD4, by rw [sl_eq]; omega, T2, M4, acc ++ [y], accD ++ [dd], dr, st4.un hD, R4.over hD4 hu4, hu4, upd_same, RDs.over hD4 _ _ (hacc4.app (RDs.one h4)), unds_app (unds_mono s4.le _ uacc3) (by simp [Ev.D.unds, u4]), by simp; omega, hl2, by rw [hds, hds2]; simp⟩
    · show (if false = true then _ else _)
      rw [if_neg (by decide)]
      exact ⟨T1, M3, acc, accD, rest, st3, R3, hu3, hD3, hacc3, uacc3, by omega, hl2, hds⟩
  · intro H' ⟨Si, Mi, acc, accD, rest, st, Ri, hu, hDi, hacc, uacc, hla, hl, hds⟩
    rw [List.drop_length] at hl
    obtain ⟨rfl, rfl⟩ := lcL_nil hl
    rw [List.append_nil] at hds
    subst hds
    have sA : Step C.n0 H M S H' Mi S2 := Step.trans R1 s1 st
    have hDH : H D = none := Step.back R R1 s1 hD
    refine P _ H' (ext Mi S2.length D) (sA.take hDH (Nat.le_trans hn sA.le)) (Ri.adopt hDi hacc uacc hu) (by simp [Ev.D.und]) ?_
    simp only [RD]
    rw [ext_at]
end Ev

set_option Elab.async false
set_option linter.all false
set_option autoImplicit false
set_option maxRecDepth 100000
set_option maxHeartbeats 4000000
/-! Ev10: expressions keep to the evaluator: what each kind needs. -/
namespace Ev
open PySem PySem.Spec PyProof.Rows L2 RT RZ

section
variable {T : Tb} {N : List Str} {sc : Scope} {C : Cf} {X : Cx}
theorem gl_of (G : Gd T N C sc X) {y : Str} (h : gloB sc y = true) : Gl X y ∧ (y == ("__debug__" : Str)) = false ∧ y ≠ ("__name__" : Str) := by
  unfold gloB plainB at h
  simp only [Bool.and_eq_true, decide_eq_true_eq, Bool.not_eq_true', decide_eq_false_iff_not] at h
  refine ⟨?_, h.2.1, h.2.2.2⟩
  show X.env.scope.names.lookup y = _
  rw [G.hsc]
  exact h.1
theorem star_map : ∀ (es : Es) (xs : List Expr), mEs T N sc es xs = true → ∀ env, starEach xs env = xs.map fun x => (false, eval x env)
  | .nil, [], _, env => rfl
  | .nil, _ :: _, h, env => by simp [mEs] at h
  | .cons _ _, [], h, env => by simp [mEs] at h
  | .cons e es, x :: xs, h, env => by
    simp only [mEs, Bool.and_eq_true] at h
    rw [star_cons (odd_of e x h.1), star_map es xs h.2 env]
    rfl
theorem plain_any (xs : List Expr) (env : PySem.Env) (pos : Pos) : (backTo pos (xs.map fun x => (false, eval x env))).any (·.1) = false := by
  induction xs with
  | nil => rfl
  | cons x xs ih =>
    show (false || (backTo pos (xs.map fun x => (false, eval x env))).any (·.1)) = false
    rw [ih]
    rfl
theorem plain_all (xs : List Expr) (env : PySem.Env) (pos : Pos) : (backTo pos (xs.map fun x => (false, eval x env))).all (fun x => !x.1) = true := by
  induction xs with
  | nil => rfl
  | cons x xs ih =>
    show (true && (backTo pos (xs.map fun x => (false, eval x env))).all (fun x => !x.1)) = true
    rw [ih]
    rfl
theorem folded_of {x : Expr} (h : oddB x = false) (env : PySem.Env) (v : Value) : foldedSetIterable x env v = pure v := by
  cases x <;> first | rfl | cases h
theorem it_odd : ∀ (i : It) (x : Expr), mIt T N sc i x = true → oddB x = false
  | .seq e, x, h => odd_of e x (by simpa [mIt] using h)
  | .fsh e, x, h => odd_of e x (by simpa [mIt] using h)
  | .rng1 _, x, h => by cases x <;> first | rfl | (simp [mIt, vCall] at h)
  | .rng2 _ _, x, h => by cases x <;> first | rfl | (simp [mIt, vCall] at h)
  | .rng3 _ _ _, x, h => by cases x <;> first | rfl | (simp [mIt, vCall] at h)
  | .enm _, x, h => by cases x <;> first | rfl | (simp [mIt, vCall] at h)
  | .zip _ _, x, h => by cases x <;> first | rfl | (simp [mIt, vCall] at h)
  | .rvd _, x, h => by cases x <;> first | rfl | (simp [mIt, vCall] at h)
  | .zip3 _ _ _, x, h => by simp [mIt] at h
  | .itm _, x, h => by simp [mIt] at h
theorem base_of {o : Expr} {y : Str} {env : PySem.Env} (h : recvB o = true) : attributeBase o y env (eval o env) = eval o env := by
  cases o with
  | Call f as ks p =>
    cases as with
    | nil => cases h
    | cons a as => cases f <;> rfl
  | _ => rfl

/-! ### kinds of expression -/
theorem s_var (G : Gd T N C sc X) {i : Nat} {y : Str} {p : Pos} (h1 : N[i]? = some y) (h2 : visB sc y = true) (h3 : plainB y = true) : PE X (.Name y p) (tE X.K C (evE C (.var i))) := by
  unfold plainB at h3
  simp only [Bool.and_eq_true, Bool.not_eq_true'] at h3
  have hN := G.hN
  subst hN
  refine (pe_var h1 (by rw [G.hsc]; exact visB_ok h2) h3.1 h3.2.1).imp fun σ H Q ⟨ρ, S, M, d, S', hn, hρ, R, e, P⟩ => ?_
  simp only [evE] at e
  split at e
  · rename_i d' hd
    obtain ⟨rfl, rfl⟩ := ok_inj e
    obtain ⟨u, v, h4, h5⟩ := hρ.val i d' hd
    exact ⟨v, h4, P.same R u h5⟩
  · cases e
theorem s_glo (G : Gd T N C sc X) {g : Nat} {y : Str} {p : Pos} (h1 : T.gs[g]? = some y) (h2 : gloB sc y = true) : PE X (.Name y p) (tE X.K C (evE C (.glo g))) := by
  refine ⟨fun pins s σ H Q I ⟨ρ, S, M, d, S', hn, hρ, R, e, P⟩ => ?_⟩
  simp only [evE] at e
  split at e
  · rename_i d' hd
    obtain ⟨rfl, rfl⟩ := ok_inj e
    obtain ⟨u, v, h3, h4, h5, h6⟩ := G.glo g y d' h1 hd
    obtain ⟨g1, g2, g3⟩ := gl_of G h2
    exact (pe_glob g1 h3 h4 g2).run pins s σ H Q I (P.same R (pure_und h6) (h5 H M))
  · cases e
theorem s_cst {d : D} {c : Const} {j : Nat} {p : Pos} (h : cstB d c = true) : PE X (.Constant c j p) (tE X.K C (evE C (.cst d))) := by
  refine ⟨fun pins s σ H Q I ⟨ρ, S, M, d', S', hn, hρ, R, e, P⟩ => ?_⟩
  simp only [evE] at e
  obtain ⟨rfl, rfl⟩ := ok_inj e
  unfold cstB at h
  split at h
  · exact pe_non.run pins s σ H Q I (P.same R (by simp [D.und]) (by simp [RD]))
  · have e1 := eq_of_beq h
    subst e1
    exact pe_bl.run pins s σ H Q I (P.same R (by simp [D.und]) (by simp [RD]))
  · have e1 := of_decide_eq_true h
    subst e1
    exact pe_int.run pins s σ H Q I (P.same R (by simp [D.und]) (by simp [RD]))
  · have e1 := of_decide_eq_true h
    subst e1
    exact pe_str.run pins s σ H Q I (P.same R (by simp [D.und]) (by simp [RD]))
  · cases h
theorem s_tup {es : Es} {xs : List Expr} {j : Nat} {p : Pos} (h : PA X xs (tA X.K C (evEs C es))) : PE X (.Tuple xs j p) (tE X.K C (evE C (.tup es))) := by
  refine (pe_tup h).imp fun σ H Q ⟨ρ, S, M, d, S', hn, hρ, R, e, P⟩ => ?_
  simp only [evE] at e
  obtain ⟨ds, S1, e1, e⟩ := bindL_ok e
  obtain ⟨hl, e⟩ := st_ne e
  obtain ⟨rfl, rfl⟩ := ok_inj e
  refine ⟨ρ, S, M, ds, S1, hn, hρ, R, e1, fun vs H1 M1 s1 R1 u1 h1 => ⟨by rw [h1.len, sl_eq]; exact hl, fun q hq => (P.after s1 R1).tup R1 u1 h1 hq⟩⟩
theorem s_lst {es : Es} {xs : List Expr} {p : Pos} (h : PA X xs (tA X.K C (evEs C es))) : PE X (.List xs p) (tE X.K C (evE C (.lst es))) := by
  refine (pe_lst h).imp fun σ H Q ⟨ρ, S, M, d, S', hn, hρ, R, e, P⟩ => ?_
  simp only [evE] at e
  obtain ⟨ds, S1, e1, e⟩ := bindL_ok e
  obtain ⟨hl, e⟩ := st_ne e
  unfold alloc at e
  obtain ⟨rfl, rfl⟩ := ok_inj e
  refine ⟨ρ, S, M, ds, S1, hn, hρ, R, e1, fun vs H1 M1 s1 R1 u1 h1 => ⟨by rw [h1.len, sl_eq]; exact hl, fun q hq => (P.after s1 R1).lst R1 (Nat.le_trans hn s1.le) u1 h1 hq⟩⟩
theorem s_bin {o : Bop} {a b : E} {l r : Expr} {p : Pos} (ha : PE X l (tE X.K C (evE C a))) (hb : PE X r (tE X.K C (evE C b))) : PE X (.BinOp l (bopOf o) r p) (tE X.K C (evE C (.bin o a b))) := by
  refine (pe_op (op_D o) ha hb).imp fun σ H Q h => two_E (fun _ _ _ _ q => q) (f := fun x y S2 => binop o x y S2) (by simpa only [evE] using h)
theorem s_neg {a : E} {l : Expr} {p : Pos} (ha : PE X l (tE X.K C (evE C a))) : PE X (.UnaryOp .USub l p) (tE X.K C (evE C (.neg a))) := by
  refine (pe_un un_neg ha).imp fun σ H Q ⟨ρ, S, M, d, S', hn, hρ, R, e, P⟩ => ?_
  simp only [evE] at e
  obtain ⟨x, S1, e1, e⟩ := bind_ok e
  refine ⟨ρ, S, M, x, S1, hn, hρ, R, e1, fun v H1 M1 s1 R1 u1 h1 => ?_⟩
  split at e
  · rename_i i
    obtain ⟨rfl, rfl⟩ := ok_inj e
    exact ⟨i, by simpa [RD] using h1, (P.after s1 R1).same R1 (by simp [D.und]) (by simp [RD])⟩
  · cases e
theorem s_not {a : E} {l : Expr} {p : Pos} (ha : PE X l (tE X.K C (evE C a))) (hb : PT X l (tT X.K C (evE C a))) : PE X (.UnaryOp .Not l p) (tE X.K C (evE C (.not a))) ∧ PT X (.UnaryOp .Not l p) (tT X.K C (evE C (.not a))) := by
  refine ⟨(pe_not ha).imp fun σ H Q ⟨ρ, S, M, d, S', hn, hρ, R, e, P⟩ => ?_, (pt_not hb).imp fun σ H Q ⟨ρ, S, M, d, S', hn, hρ, R, e, P⟩ => ?_⟩
  · simp only [evE] at e
    obtain ⟨x, S1, e1, e⟩ := bind_ok e
    refine ⟨ρ, S, M, x, S1, hn, hρ, R, e1, fun v H1 M1 s1 R1 u1 h1 => ?_⟩
    split at e
    · rename_i i
      obtain ⟨rfl, rfl⟩ := ok_inj e
      exact ⟨i, by simpa [RD] using h1, (P.after s1 R1).same R1 (by simp [D.und]) (by simp [RD])⟩
    · cases e
  · simp only [evE] at e
    obtain ⟨x, S1, e1, e⟩ := bind_ok e
    split at e
    · rename_i i
      obtain ⟨e2, rfl⟩ := ok_inj e
      cases e2
      refine ⟨ρ, S, M, i, S1, hn, hρ, R, e1, fun v H1 M1 s1 R1 u1 h1 => ⟨i, by simpa [RD] using h1, ?_⟩⟩
      obtain ⟨k, hk, q⟩ := (P.after s1 R1).same R1 (v := .bl !i) (by simp [D.und]) (by simp [RD])
      cases hk
      exact q
    · cases e
theorem tst_of {r : R2} {ta tb : TE} {σ : L2.St} {H : Hp} {Q : Bool → Hp → Prop} (h : tOp r ta tb σ H fun v H1 => ∃ k, v = .bl k ∧ Q k H1) : tTest (tOp r ta tb) σ H Q := h
theorem s_cmp {o : Cop} {a b : E} {l r : Expr} {p : Pos} (hu : X.A.units + 66 < cLine) (ha : PE X l (tE X.K C (evE C a))) (hb : PE X r (tE X.K C (evE C b))) (hr : oddB r = false) :
    PE X (.Compare l [copOf o] [r] p) (tE X.K C (evE C (.cmp o a b))) ∧ PT X (.Compare l [copOf o] [r] p) (tT X.K C (evE C (.cmp o a b))) := by
  have two : ∀ σ H Q, tE X.K C (evE C (.cmp o a b)) σ H Q → tOp (rB X.K (cmpop o)) (tE X.K C (evE C a)) (tE X.K C (evE C b)) σ H Q := fun σ H Q h => two_E (fun _ _ _ _ q => q) (f := fun x y S2 => cmpop o x y S2) (by simpa only [evE] using h)
  exact ⟨(pe_cmpR (op_cmpD o hu) ha hb (mark_of hr)).imp two, (pt_cmpR (op_cmpD o hu) ha hb (mark_of hr)).imp fun σ H Q h => two _ _ _ (tT_of h)⟩
/-- is None, is True, .. -/
def isV : Isk → V
  | .isN => .non | .notN => .non | .isT => .bl true | .notT => .bl true | .isF => .bl false | .notF => .bl false
def isO : Isk → CmpOp
  | .isN => .Is | .notN => .IsNot | .isT => .Is | .notT => .IsNot | .isF => .Is | .notF => .IsNot
def isC : Isk → Const
  | .isN => .none | .notN => .none | .isT => .bool true | .notT => .bool true | .isF => .bool false | .notF => .bool false
theorem isB_ok {o : Isk} {p : CmpOp} {c : Const} (h : isB o p c = true) : p = isO o ∧ c = isC o := by
  unfold isB at h
  split at h <;> first | exact ⟨rfl, rfl⟩ | cases h
def rIs (K : PySem.W.Frag) (o : Isk) : R2 := fun x' y' H Q => ∃ x M b, RD K H M x x' ∧ y' = isV o ∧ isop o x = some b ∧ Q (.bl b) H
theorem RD.rel_none {H : Hp} {M : Mp} {x : D} {x' : V} {v : Value} (h : RD X.K H M x x') (r : RelV x' v) : (v == Value.none) = (isop .isN x == some true) := by
  rw [r.none_iff]
  cases x <;> simp only [RD] at h
  case tup => obtain ⟨a, vs, rfl, _⟩ := h; rfl
  case frl => obtain ⟨a, vs, rfl, _⟩ := h; rfl
  all_goals subst h; rfl
theorem op_is (o : Isk) : OpR X (compareOp (isO o)) (rIs X.K o) := by
  intro pins s σ H x' y' v u Q I rx ry ⟨x, M, b, hx, ey, e, q⟩
  subst ey
  cases o with
  | isN =>
    cases (show u = Value.none from ry)
    refine is_none_gen ⟨.bl b, H, I, ?_, q⟩
    rw [hx.rel_none rx, e]
    cases b <;> rfl
  | notN =>
    cases (show u = Value.none from ry)
    refine isnot_none_gen ⟨.bl b, H, I, ?_, q⟩
    rw [hx.rel_none rx]
    cases x <;> simp [isop] at e <;> subst e <;> rfl
  | isT =>
    cases (show u = Value.bool true from ry)
    cases x <;> simp [isop] at e
    subst e
    simp only [RD] at hx
    subst hx
    cases rx
    refine is_bool ⟨_, H, I, ?_, q⟩
    first | (cases b <;> rfl) | (rename_i c; cases c <;> rfl)
  | notT =>
    cases (show u = Value.bool true from ry)
    cases x <;> simp [isop] at e
    subst e
    simp only [RD] at hx
    subst hx
    cases rx
    refine isnot_bool ⟨_, H, I, ?_, q⟩
    first | (cases b <;> rfl) | (rename_i c; cases c <;> rfl)
  | isF =>
    cases (show u = Value.bool false from ry)
    cases x <;> simp [isop] at e
    subst e
    simp only [RD] at hx
    subst hx
    cases rx
    refine is_bool ⟨_, H, I, ?_, q⟩
    first | (cases b <;> rfl) | (rename_i c; cases c <;> rfl)
  | notF =>
    cases (show u = Value.bool false from ry)
    cases x <;> simp [isop] at e
    subst e
    simp only [RD] at hx
    subst hx
    cases rx
    refine isnot_bool ⟨_, H, I, ?_, q⟩
    first | (cases b <;> rfl) | (rename_i c; cases c <;> rfl)
theorem pe_isC {o : Isk} {j : Nat} {p : Pos} : PE X (.Constant (isC o) j p) (tC (isV o)) := by cases o <;> first | exact pe_non | exact pe_bl
theorem s_isc {o : Isk} {a : E} {l : Expr} {j : Nat} {p p2 : Pos} (ha : PE X l (tE X.K C (evE C a))) :
    PE X (.Compare l [isO o] [.Constant (isC o) j p2] p) (tE X.K C (evE C (.isc o a))) ∧ PT X (.Compare l [isO o] [.Constant (isC o) j p2] p) (tT X.K C (evE C (.isc o a))) := by
  have two : ∀ σ H Q, tE X.K C (evE C (.isc o a)) σ H Q → tOp (rIs X.K o) (tE X.K C (evE C a)) (tC (isV o)) σ H Q := fun σ H Q ⟨ρ, S, M, d, S', hn, hρ, R, e, P⟩ => by
    simp only [evE] at e
    obtain ⟨x, S1, e1, e⟩ := bind_ok e
    refine ⟨ρ, S, M, x, S1, hn, hρ, R, e1, fun v H1 M1 s1 R1 u1 h1 => ?_⟩
    split at e
    · rename_i b hb
      obtain ⟨rfl, rfl⟩ := ok_inj e
      exact ⟨x, M1, b, h1, rfl, hb, (P.after s1 R1).same R1 (by simp [D.und]) (by simp [RD])⟩
    · cases e
  exact ⟨(pe_cmpR (op_is o) ha pe_isC (mark_of rfl)).imp two, (pt_cmpR (op_is o) ha pe_isC (mark_of rfl)).imp fun σ H Q h => two _ _ _ (tT_of h)⟩
theorem cmp_keep {o : Cop} {x y d : D} {S S' : Sto} (h : cmpop o x y S = .ok d S') : S' = S ∧ ∃ b, d = .bl b := by
  unfold cmpop at h
  split at h <;> first | (cases h; exact ⟨rfl, _, rfl⟩) | (split at h <;> first | (cases h; exact ⟨rfl, _, rfl⟩) | cases h) | cases h
theorem s_chn {o q : Cop} {a b c : E} {l r r2 : Expr} {p : Pos} (hu : X.A.units + 66 < cLine) (ha : PE X l (tE X.K C (evE C a))) (hb : PE X r (tE X.K C (evE C b))) (hc : PE X r2 (tE X.K C (evE C c))) (h1 : oddB r = false) (h2 : oddB r2 = false) :
    PE X (.Compare l [copOf o, copOf q] [r, r2] p) (tE X.K C (evE C (.chn o q a b c))) ∧ PT X (.Compare l [copOf o, copOf q] [r, r2] p) (tT X.K C (evE C (.chn o q a b c))) := by
  have hm : lastMarks [copOf o, copOf q] [r, r2] = false := mark_of h2
  have two : ∀ σ H Q, tE X.K C (evE C (.chn o q a b c)) σ H Q → tChain (rB X.K (cmpop o)) (rB X.K (cmpop q)) (tE X.K C (evE C a)) (tE X.K C (evE C b)) (tE X.K C (evE C c)) σ H Q := fun σ H Q ⟨ρ, S, M, d, S', hn, hρ, R, e, P⟩ => by
    simp only [evE] at e
    obtain ⟨x, S1, e1, e⟩ := bind_ok e
    obtain ⟨y, S2, e2, e⟩ := bind_ok e
    obtain ⟨z, S3, e3, e⟩ := bind_ok e
    obtain ⟨rfl, k, rfl⟩ := cmp_keep e3
    refine ⟨ρ, S, M, x, S1, hn, hρ, R, e1, fun x' H1 M1 s1 R1 ux hx => ?_⟩
    refine ⟨ρ, S1, M1, y, S3, Nat.le_trans hn s1.le, hρ.step R s1, R1, e2, fun y' H2 M2 s2 R2 uy hy => ?_⟩
    have sA := Step.trans R1 s1 s2
    have n2 := Nat.le_trans hn sA.le
    refine ⟨x, y, S3, M2, C.n0, .bl k, S3, n2, R2, und_mono s2.le x ux, uy, RD.step R1 s2 x x' ux hx, hy, e3, fun v H3 M3 s3 R3 u3 h3 => ⟨k, by simpa [RD] using h3, ?_⟩⟩
    have sB := Step.trans R2 sA s3
    cases k with
    | false =>
      obtain ⟨rfl, rfl⟩ := ok_inj e
      rw [if_neg (by decide)]
      exact (P.after sB R3).same R3 (by simp [D.und]) (by simp [RD])
    | true =>
      obtain ⟨u, S4, e4, e⟩ := bind_ok e
      rw [if_pos rfl]
      refine ⟨ρ, S3, M3, u, S4, n2, hρ.step R sB, R3, e4, fun w H4 M4 s4 R4 u4 h4 => ?_⟩
      exact ⟨y, u, S4, M4, C.n0, d, S', Nat.le_trans n2 s4.le, R4, und_mono s4.le y uy, u4, RD.step R3 s4 y y' uy (RD.step R2 s3 y y' uy hy), h4, e, P.after (Step.trans R3 sB s4) R4⟩
  exact ⟨(pe_chain (op_cmpD o hu) (op_cmpD q hu) ha hb hc hm).imp two, (pt_chain (op_cmpD o hu) (op_cmpD q hu) ha hb hc hm).imp fun σ H Q h => two _ _ _ (tT_of h)⟩
theorem s_ite {c a b : E} {y l r : Expr} {p : Pos} (hc : PT X y (tT X.K C (evE C c))) (ha : PE X l (tE X.K C (evE C a))) (hb : PE X r (tE X.K C (evE C b))) : PE X (.IfExp y l r p) (tE X.K C (evE C (.ite c a b))) := by
  refine (pe_ifExp hc ha hb).imp fun σ H Q ⟨ρ, S, M, d, S', hn, hρ, R, e, P⟩ => ?_
  simp only [evE] at e
  obtain ⟨x, S1, e1, e⟩ := bind_ok e
  split at e
  · refine ⟨ρ, S, M, true, S1, hn, hρ, R, e1, fun v H1 M1 s1 R1 u1 h1 => ⟨true, by simpa [RD] using h1, ?_⟩⟩
    show (if true = true then _ else _)
    rw [if_pos rfl]
    exact ⟨ρ, S1, M1, d, S', Nat.le_trans hn s1.le, hρ.step R s1, R1, e, P.after s1 R1⟩
  · refine ⟨ρ, S, M, false, S1, hn, hρ, R, e1, fun v H1 M1 s1 R1 u1 h1 => ⟨false, by simpa [RD] using h1, ?_⟩⟩
    show (if false = true then _ else _)
    rw [if_neg (by decide)]
    exact ⟨ρ, S1, M1, d, S', Nat.le_trans hn s1.le, hρ.step R s1, R1, e, P.after s1 R1⟩
  · cases e
theorem s_idx {a b : E} {l r : Expr} {p : Pos} (ha : PE X l (tE X.K C (evE C a))) (hb : PE X r (tE X.K C (evE C b))) (hr : oddB r = false) : PE X (.Subscript l r p) (tE X.K C (evE C (.idx a b))) :=
  (pe_ix ix_D ha hb (plainIx_of hr)).imp fun σ H Q h => two_E (fun _ _ _ _ q => q) (f := fun x y S2 => idxop x y S2) (by simpa only [evE] using h)
def tP (K : PySem.W.Frag) (C : Cf) (e : E) : TO := if e.isNon = true then tNoPart else tPart (tE K C (evE C e))
theorem non_of {e : E} (h : e.isNon = true) : e = .cst .non := by
  unfold E.isNon at h
  split at h
  · rfl
  · cases h
theorem yes_of {e : E} (h : e.isYes = true) : e = .cst (.bl true) := by
  unfold E.isYes at h
  split at h
  · rfl
  · cases h
theorem tP_of {e : E} {ρ : Env} {S S' : Sto} {M : Mp} {σ : L2.St} {H : Hp} {d : D} {o : Option Int} {Q : Option Int → Hp → Prop} (hn : C.n0 ≤ S.length) (hρ : REnv X.K H M S.length ρ σ) (R : RelS X.K H M S) (he : evE C e ρ S = .ok d S') (ho : bnd e.isNon d = some o)
    (q : ∀ H1 M1, Step C.n0 H M S H1 M1 S' → RelS X.K H1 M1 S' → Q o H1) : tP X.K C e σ H Q := by
  unfold tP
  unfold bnd at ho
  by_cases h : e.isNon = true
  · rw [if_pos h] at ho ⊢
    have e1 := non_of h
    subst e1
    simp only [evE] at he
    obtain ⟨rfl, rfl⟩ := ok_inj he
    cases ho
    exact q H M .refl R
  · rw [if_neg h] at ho ⊢
    split at ho
    · rename_i i
      cases ho
      exact ⟨ρ, S, M, _, S', hn, hρ, R, he, fun v H1 M1 s1 R1 u1 h1 => ⟨i, by simpa [RD] using h1, q H1 M1 s1 R1⟩⟩
    · cases ho
theorem s_sli {a lo hi : E} {l : Expr} {u v : Option Expr} {p p2 : Pos} (ha : PE X l (tE X.K C (evE C a))) (hl : PO X u (tP X.K C lo)) (hh : PO X v (tP X.K C hi)) : PE X (.Subscript l (.Slice u v none p2) p) (tE X.K C (evE C (.sli a lo hi))) := by
  refine (pe_slice sl_D ha hl hh).imp fun σ H Q ⟨ρ, S, M, d, S', hn, hρ, R, e, P⟩ => ?_
  simp only [evE] at e
  obtain ⟨x, S1, e1, e⟩ := bind_ok e
  obtain ⟨y, S2, e2, e⟩ := bind_ok e
  obtain ⟨z, S3, e3, e⟩ := bind_ok e
  generalize hol : bnd lo.isNon y = ol at e
  generalize hoh : bnd hi.isNon z = oh at e
  unfold sliK at e
  split at e
  · rename_i ol oh
    refine ⟨ρ, S, M, x, S1, hn, hρ, R, e1, fun x' H1 M1 s1 R1 ux hx => ?_⟩
    have n1 := Nat.le_trans hn s1.le
    refine tP_of n1 (hρ.step R s1) R1 e2 hol fun H2 M2 s2 R2 => ?_
    have sA := Step.trans R1 s1 s2
    refine tP_of (Nat.le_trans n1 s2.le) (hρ.step R sA) R2 e3 hoh fun H3 M3 s3 R3 => ?_
    exact ⟨x, S3, M3, C.n0, d, S', Nat.le_trans n1 (Nat.le_trans s2.le s3.le), R3, und_mono (Nat.le_trans s2.le s3.le) x ux, RD.step R2 s3 x x' (und_mono s2.le x ux) (RD.step R1 s2 x x' ux hx), e, P.after (Step.trans R2 sA s3) R3⟩
  · cases e
/-- a tuple turned about -/
theorem places_rev (n : Nat) : Builtin.Slice.slicePlaces ((n : Int) - 1) (-1) (-1) = n := by
  unfold Builtin.Slice.slicePlaces
  have h1 : ¬ ((-1 : Int) > 0) := by omega
  simp only [h1, if_false, show (-(-1) : Int) = 1 from rfl, Int.ediv_one]
  split <;> omega
theorem applied_rev {prog : Program} {w : World} {A : Around} {Ex : Value → Shared → Prop} {s : Shared} {sl : Addr} {vk : Value} {n : Nat} {Q : Int × Int × Nat → Shared → Prop} (hs : s.heap.IsSliceOf sl .none .none vk) (pk : IsPart vk (some (-1)))
    (h : Q ((n : Int) - 1, -1, n) s) : wpAny (model prog w) A (Builtin.Slice.sliceApplied (.ref sl) (pure (n : Int))) Q Ex s := by
  obtain ⟨os, hos, hcs, hds⟩ := id hs
  unfold Builtin.Slice.sliceApplied Builtin.Slice.sliceFields
  refine wpAny_bind (wpAny_bind (wpAny_field hos hds (x := .none) rfl (wpAny_bind (wpAny_field hos hds (x := .none) rfl (wpAny_bind (wpAny_field hos hds (x := vk) rfl (wpAny_pure ?_)))))))
  refine wpAny_bind (HT.slicePart_ pk ?_)
  show wpAny _ _ (if ((-1 : Int) == 0) = true then _ else _) _ _ s
  rw [if_neg (by decide)]
  refine wpAny_bind (slicePart_none (wpAny_bind (slicePart_none (wpAny_bind (wpAny_pure ?_)))))
  show wpAny _ _ (pure ((n : Int) - 1, (-1 : Int), Builtin.Slice.slicePlaces ((n : Int) - 1) (-1) (-1))) _ _ s
  rw [places_rev]
  exact wpAny_pure h
theorem pick_rev (xs : List Value) : ((List.range xs.toArray.size).filterMap fun (m : Nat) => xs.toArray[(((xs.toArray.size : Nat) : Int) - 1 + (m : Int) * (-1)).toNat]?).toArray = xs.reverse.toArray := by
  have e : (fun (m : Nat) => xs.toArray[(((xs.toArray.size : Nat) : Int) - 1 + (m : Int) * (-1)).toNat]?) = fun m => (xs.toArray[·]?) (xs.toArray.size - 1 - m) := by
    funext m
    have : (((xs.toArray.size : Nat) : Int) - 1 + (m : Int) * (-1)).toNat = xs.toArray.size - 1 - m := by omega
    rw [this]
  rw [e]
  have h := PySem.W.krv_range xs.toArray.size
  have h2 := congrArg (List.filterMap (xs.toArray[·]?)) h
  rw [List.filterMap_map, List.filterMap_reverse, PySem.W.krv_all] at h2
  have h3 : ((xs.toArray[·]?) ∘ fun k => xs.toArray.size - 1 - k) = fun m => (xs.toArray[·]?) (xs.toArray.size - 1 - m) := rfl
  rw [h3] at h2
  rw [h2]
theorem item_revT {prog : Program} {w : World} {A : Around} {Ex : Value → Shared → Prop} {s : Shared} {t sl : Addr} {items : List Value} {vk : Value} {Q : Value → Shared → Prop} (ht : IsTup s.heap t items.toArray) (hs : s.heap.IsSliceOf sl .none .none vk) (pk : IsPart vk (some (-1)))
    (h : Q (.ref s.heap.objs.size) { s with heap := s.heap.push { cls := .type "tuple", data := .seq items.reverse.toArray } }) (hsz : items.length ≤ sizeLine) : wpAny (model prog w) A (getItem (.ref t) (.ref sl)) Q Ex s := by
  have ok : sizeOk (.seq items.reverse.toArray) := by
    show items.reverse.toArray.size ≤ sizeLine
    rw [List.size_toArray, List.length_reverse]
    exact hsz
  obtain ⟨os, hos, hcs, hds⟩ := id hs
  have isS : s.TypeIs (.ref sl) "slice" := ⟨os, hos, hcs⟩
  unfold getItem
  try with_reducible refine wpAny_holding ?_
  first | refine wpAny_bind (wpAny_pure ?_) | skip
  refine wpAny_bind (wpAny_sequenceKey ht.typeIs (by decide) ?_)
  refine wpAny_bind (wpAny_callSpecial?_slot (name := Str.ofString "__getitem__") ht.typeIs PyProof.Rows.slot_tuple_getitem (wpAny_call_entry PyProof.Rows.slot_tuple_getitem ht.typeIs entry_tuple_getitem ?_ (args_tuple_getitem _ _)))
  show wpAny _ _ (Builtin.Tuple.tupleItemsOf (.ref t) >>= _) _ _ s
  refine wpAny_bind (tupleItemsOf_ ht (wpAny_bind (wpAny_typeOf isS ?_)))
  rw [if_pos (by decide)]
  refine wpAny_bind (applied_rev hs pk ?_)
  show wpAny _ _ (if ((((items.toArray.size : Nat) : Int) - 1 == 0 && (-1 : Int) == 1 && items.toArray.size == items.toArray.size) = true) then _ else _) _ _ s
  rw [if_neg (by simp), pick_rev]
  first
    | exact wpAny_bind (m := Builtin.Tuple.tupleExact _) (wpAny_newObj_type (wpAny_pure ⟨_, rfl, wpAny_pure h⟩) ok)
    | exact wpAny_bind (m := Builtin.Tuple.tupleExact _) (wpAny_newObj_type (wpAny_bind (wpAny_pure (wpAny_pure ⟨_, rfl, wpAny_pure h⟩))) ok)
    | exact wpAny_bind (wpAny_bind (m := Builtin.Tuple.tupleExact _) (wpAny_newObj_type (wpAny_pure (wpAny_pure ⟨_, rfl, wpAny_pure h⟩)) ok))
    | exact wpAny_bind (wpAny_bind (m := Builtin.Tuple.tupleExact _) (wpAny_newObj_type (wpAny_pure ⟨_, rfl, wpAny_pure h⟩) ok))
theorem pe_revT {e : Expr} {te : TE} {k : Nat} {p1 p2 p3 pos : Pos} (he : PE X e te) : PE X (.Subscript e (.Slice none none (some (.UnaryOp .USub (.Constant (.int 1) k p1) p2)) p3) pos)
    (fun σ H Q => te σ H fun x H1 => ∃ a xs, x = .ref a ∧ SqT X.K H1 a xs ∧ ∀ p, H1 p = none → Q (.ref p) (upd H1 p (.tup xs.reverse))) := by
  refine ⟨fun pins s σ H Q I h => ?_⟩
  refine Subscript_ (thn (he.run pins s σ H _ I h) fun v s1 ⟨x, H1, I1, r1, q1⟩ => ?_)
  obtain ⟨a, xs, rfl, hx, q⟩ := q1
  cases r1
  have hst : PO X (some (.UnaryOp .USub (.Constant (.int 1) k p1) p2)) (tPart (tUn (rU fun i => .int (-i)) (tC (.int 1)))) := po_some (pe_un un_neg pe_int)
  refine wpAny_Slice ?_
  rw [evalPart_none]
  refine wpAny_pure (wpAny_pure (thn (hst.run pins s1 σ H1 (fun o H4 => o = some (-1) ∧ H4 = H1) I1 ⟨1, rfl, -1, rfl, rfl, rfl⟩) fun vs s4 ⟨o, H4, I4, ps, eo, e4⟩ => ?_))
  subst eo e4
  have I5 : L2.Inv X pins σ H4 { s4 with heap := s4.heap.push { cls := .type "slice", data := .fields #[.none, .none, vs] } } := I4.kept (t' := s4.toks) fun b ob q => Heap.get?_push_of_some _ q
  obtain ⟨its, r, ht, hz⟩ := I5.tuple hx
  have hlen := r.length
  show wpAny (model X.prog X.w) X.A (subscriptTail e (.Slice none none (some (.UnaryOp .USub (.Constant (.int 1) k p1) p2)) p3) (.ref a) (.ref s4.heap.objs.size)) (EP X pins σ Q) X.xe { s4 with heap := s4.heap.push { cls := .type "slice", data := .fields #[.none, .none, vs] } }
  refine tail_any (ops := [.ref a, .ref s4.heap.objs.size]) ht.typeIs (PyProof.Rows.slot_tuple_getitem.lookup) ?_ (by with_unfolding_all rfl)
  refine item_revT ht (Heap.IsSliceOf.new _ .none .none vs) ps ?_ (by omega)
  refine ⟨.ref _, _, I5.laid (t' := s4.toks) (o := .tup xs.reverse) (fun b ob q => Heap.get?_push_of_some _ q) (Nat.le_refl _) ?_, rfl, q _ (I5.hok.fresh (Nat.le_refl _))⟩
  exact ⟨by rw [List.length_reverse]; exact hz, _, r.reverse, IsTup.new _ _⟩
theorem s_rev {a : E} {l : Expr} {j : Nat} {p p1 p2 p3 : Pos} (ha : PE X l (tE X.K C (evE C a))) : PE X (.Subscript l (.Slice none none (some (.UnaryOp .USub (.Constant (.int 1) j p1) p2)) p3) p) (tE X.K C (evE C (.rev a))) := by
  refine ⟨fun pins s σ H Q I ⟨ρ, S, M, d, S', hn, hρ, R, e, P⟩ => ?_⟩
  simp only [evE] at e
  obtain ⟨x, S1, e1, e⟩ := bind_ok e
  unfold revop at e
  split at e
  · rename_i xs
    obtain ⟨rfl, rfl⟩ := ok_inj e
    refine (pe_revT ha).run pins s σ H Q I ⟨ρ, S, M, _, S1, hn, hρ, R, e1, fun x' H1 M1 s1 R1 ux hx => ?_⟩
    simp only [RD] at hx
    simp only [D.und] at ux
    obtain ⟨q, vs, rfl, h1, h2⟩ := hx
    exact ⟨q, vs, rfl, h1, fun r hr => (P.after s1 R1).tup R1 (unds_sub ux fun d hd => List.mem_reverse.mp hd) h2.rev hr⟩
  · rename_i k
    split at e
    · rename_i xs hk
      unfold alloc at e
      obtain ⟨rfl, rfl⟩ := ok_inj e
      refine (pe_revL ha).run pins s σ H Q I ⟨ρ, S, M, _, S1, hn, hρ, R, e1, fun x' H1 M1 s1 R1 ux hx => ?_⟩
      simp only [RD] at hx
      obtain ⟨vs, h1, h2⟩ := R1.ob k _ hk
      exact ⟨M1 k, vs, hx, SqL.of h1, fun q hq => (P.after s1 R1).lst R1 (Nat.le_trans hn s1.le) (unds_sub (R1.und k _ hk) fun d hd => List.mem_reverse.mp hd) h2.rev hq⟩
    · cases e
  · cases e
theorem tidy_bl {S S1 S' : Sto} {d : D} {b : Bool} (h : tidy S d S1 = .ok (.bl b) S') : d = .bl b := by
  unfold tidy trim at h
  split at h
  · split at h
    · exact (ok_inj h).1
    · split at h
      · split at h
        · split at h
          · cases (ok_inj h).1
          · exact (ok_inj h).1
        · cases h
      · exact (ok_inj h).1
  · exact (ok_inj h).1
theorem tdy_rd {a : E} {σ : L2.St} {H : Hp} {Q : VK} (h : tE X.K C (evE C (.tdy a)) σ H Q) : tE X.K C (evE C a) σ H Q := by
  obtain ⟨ρ, S, M, d, S', hn, hρ, R, e, P⟩ := h
  simp only [evE] at e
  obtain ⟨x, S1, e1, e⟩ := bind_ok e
  exact ⟨ρ, S, M, x, S1, hn, hρ, R, e1, fun v H1 M1 s1 R1 u1 h1 => tidy_ok R s1 R1 hn u1 h1 e P⟩
theorem s_tdy {a : E} {l : Expr} (ha : PE X l (tE X.K C (evE C a))) (hb : PT X l (tT X.K C (evE C a))) : PE X l (tE X.K C (evE C (.tdy a))) ∧ PT X l (tT X.K C (evE C (.tdy a))) := by
  refine ⟨ha.imp fun σ H Q ⟨ρ, S, M, d, S', hn, hρ, R, e, P⟩ => ?_, hb.imp fun σ H Q ⟨ρ, S, M, b, S', hn, hρ, R, e, P⟩ => ?_⟩
  · simp only [evE] at e
    obtain ⟨x, S1, e1, e⟩ := bind_ok e
    exact ⟨ρ, S, M, x, S1, hn, hρ, R, e1, fun v H1 M1 s1 R1 u1 h1 => tidy_ok R s1 R1 hn u1 h1 e P⟩
  · simp only [evE] at e
    obtain ⟨x, S1, e1, e⟩ := bind_ok e
    have := tidy_bl e
    subst this
    exact ⟨ρ, S, M, b, S1, hn, hρ, R, e1, fun v H1 M1 s1 R1 u1 h1 => tidy_ok R s1 R1 hn u1 h1 e P⟩
/-- a def's call -/
theorem s_call (G : Gd T N C sc X) {f : Nat} {es : Es} {y : Str} {xs : List Expr} {p pos : Pos} (h1 : T.fs[f]? = some y) (h2 : gloB sc y = true) (h3 : mEs T N sc es xs = true) (h4 : PA X xs (tA X.K C (evEs C es))) :
    PE X (.Call (.Name y p) xs [] pos) (tE X.K C (evE C (.call f es))) := by
  obtain ⟨k, a, fd, ps, F, hr, hm, hk, hb, har⟩ := G.fns f y h1
  obtain ⟨g1, g2, g3⟩ := gl_of G h2
  have rd : ∀ σ H Q, tE X.K C (evE C (.call f es)) σ H Q → tA X.K C (evEs C es) σ H fun vs H1 => spD X.K ps.length (C.cl f) vs H1 Q fun _ _ _ => False := fun σ H Q ⟨ρ, S, M, d, S', hn, hρ, R, e, P⟩ => by
    simp only [evE] at e
    obtain ⟨ds, S1, e1, e⟩ := bindL_ok e
    refine ⟨ρ, S, M, ds, S1, hn, hρ, R, e1, fun vs H1 M1 s1 R1 u1 h1 => ⟨?_, ds, S1, M1, d, S', R1, u1, h1, e, (P.after s1 R1).low (Nat.le_trans hn s1.le)⟩⟩
    rw [h1.len]
    exact har ds S1 d S' e
  cases xs with
  | nil =>
    cases es with
    | cons _ _ => simp [mEs] at h3
    | nil =>
      refine (pe_callG0 (E := fun _ _ _ => False) F hr G.grd g1 hm hk hb pass0 g2).imp fun σ H Q ⟨ρ, S, M, d, S', hn, hρ, R, e, P⟩ => ?_
      simp only [evE, evEs] at e
      have e : C.cl f [] S = .ok d S' := e
      exact ⟨har _ _ _ _ e, [], S, M, d, S', R, by simp [D.unds], by simp [RDs], e, P.low hn⟩
  | cons x xs =>
    have hs := star_map es (x :: xs) h3 X.env
    have hx : oddB x = false := by
      cases es with
      | nil => simp [mEs] at h3
      | cons e es =>
        simp only [mEs, Bool.and_eq_true] at h3
        exact odd_of e x h3.1
    have hs2 : starEach xs X.env = xs.map fun x => (false, eval x X.env) := by
      cases es with
      | nil => simp [mEs] at h3
      | cons e es =>
        simp only [mEs, Bool.and_eq_true] at h3
        exact star_map es xs h3.2 X.env
    exact (pe_callG F hr G.grd g1 hm hk hb pass0 h4 g2 (star_cons hx) (by rw [hs2]; exact plain_any xs X.env pos)).imp rd
end
end Ev

set_option Elab.async false
set_option linter.all false
set_option autoImplicit false
set_option maxRecDepth 100000
set_option maxHeartbeats 4000000
/-! Ev11: built-ins, methods, comprehensions, walks; all expressions. -/
namespace Ev
open PySem PySem.Spec PyProof.Rows L2 RT RZ

theorem boot_of (b : Blt) (y : Str) (h : bltName b = some y) : ∃ f, bltV b = some f ∧ bootBuiltins y = some f ∧ (((∃ t, f = .type t) ∨ ∃ t, f = .builtin t)) ∧ y ∈ (["int", "str", "tuple", "list", "len", "repr", "min", "max", "sum", "any", "all", "abs"] : List Str) := by
  cases b <;> simp only [bltName, Option.some.injEq, reduceCtorEq] at h <;> subst h
  · exact ⟨_, rfl, PyProof.Rows.boot_int, .inl ⟨_, rfl⟩, by simp⟩
  · exact ⟨_, rfl, PyProof.Rows.boot_str, .inl ⟨_, rfl⟩, by simp⟩
  · exact ⟨_, rfl, by decide +kernel, .inr ⟨_, rfl⟩, by simp⟩
  · exact ⟨_, rfl, PyProof.Rows.boot_tuple, .inl ⟨_, rfl⟩, by simp⟩
  · exact ⟨_, rfl, PyProof.Rows.boot_list, .inl ⟨_, rfl⟩, by simp⟩
  · exact ⟨_, rfl, by decide +kernel, .inr ⟨_, rfl⟩, by simp⟩
  · exact ⟨_, rfl, by decide +kernel, .inr ⟨_, rfl⟩, by simp⟩
  · exact ⟨_, rfl, by decide +kernel, .inr ⟨_, rfl⟩, by simp⟩
  · exact ⟨_, rfl, by decide +kernel, .inr ⟨_, rfl⟩, by simp⟩
  · exact ⟨_, rfl, by decide +kernel, .inr ⟨_, rfl⟩, by simp⟩
  · exact ⟨_, rfl, by decide +kernel, .inr ⟨_, rfl⟩, by simp⟩
  · exact ⟨_, rfl, by decide +kernel, .inr ⟨_, rfl⟩, by simp⟩
section
variable {T : Tb} {N : List Str} {sc : Scope} {C : Cf} {X : Cx}
theorem Gd.blt' (G : Gd T N C sc X) {y : Str} (h : y ∈ (["int", "str", "tuple", "list", "len", "repr", "min", "max", "sum", "any", "all", "abs"] : List Str)) : X.mg y = none := G.blt y (by
  show y ∈ (["int", "str", "tuple", "list", "len", "repr", "min", "max", "sum", "any", "all", "abs"] : List Str) ++ (["isinstance", "range", "enumerate", "zip", "reversed", "bool", "dict", "sorted", "set"] : List Str)
  exact List.mem_append_left _ h)
theorem args_head {es : Es} {x : Expr} {xs : List Expr} (h3 : mEs T N sc es (x :: xs) = true) (pos : Pos) : starEach (x :: xs) X.env = (false, eval x X.env) :: starEach xs X.env ∧ (backTo pos (starEach xs X.env)).any (·.1) = false := by
  cases es with
  | nil => simp [mEs] at h3
  | cons e es =>
    simp only [mEs, Bool.and_eq_true] at h3
    exact ⟨star_cons (odd_of e x h3.1), by rw [star_map es xs h3.2 X.env]; exact plain_any xs X.env pos⟩
theorem rd_blt {b : Blt} {es : Es} {σ : L2.St} {H : Hp} {Q : VK} (h : tE X.K C (evE C (.blt b es)) σ H Q) : tCB (rC X.K (bltop b)) (tA X.K C (evEs C es)) σ H Q := by
  obtain ⟨ρ, S, M, d, S', hn, hρ, R, e, P⟩ := h
  simp only [evE] at e
  obtain ⟨ds, S1, e1, e⟩ := bindL_ok e
  exact ⟨ρ, S, M, ds, S1, hn, hρ, R, e1, fun vs H1 M1 s1 R1 u1 h1 => ⟨ds, S1, M1, C.n0, d, S', Nat.le_trans hn s1.le, R1, u1, h1, e, P.after s1 R1⟩⟩
theorem s_blt (G : Gd T N C sc X) {b : Blt} {es : Es} {y : Str} {xs : List Expr} {p pos : Pos} (h1 : bltName b = some y) (h2 : gloB sc y = true) (h0 : xs.isEmpty = false) (h3 : mEs T N sc es xs = true) (h4 : PA X xs (tA X.K C (evEs C es))) :
    PE X (.Call (.Name y p) xs [] pos) (tE X.K C (evE C (.blt b es))) := by
  obtain ⟨f, hf, hb, hk, hm⟩ := boot_of b y h1
  obtain ⟨g1, g2, g3⟩ := gl_of G h2
  cases xs with
  | nil => cases h0
  | cons x xs =>
    obtain ⟨a1, a2⟩ := args_head (X := X) h3 pos
    have hc := call_D (X := X) b f hf G.calm G.grd G.units
    rcases hk with ⟨t, rfl⟩ | ⟨t, rfl⟩
    · exact (pe_callTy hc g1 (G.blt' hm) hb h4 g3 g2 a1 a2).imp fun σ H Q h => rd_blt h
    · exact (pe_callB hc g1 (G.blt' hm) hb h4 g3 g2 a1 a2).imp fun σ H Q h => rd_blt h
theorem s_gcd (G : Gd T N C sc X) {es : Es} {xs : List Expr} {p pos : Pos} (h1 : T.gcd = true) (h2 : gloB sc "gcd" = true) (h0 : xs.isEmpty = false) (h3 : mEs T N sc es xs = true) (h4 : PA X xs (tA X.K C (evEs C es))) :
    PE X (.Call (.Name "gcd" p) xs [] pos) (tE X.K C (evE C (.blt .gcd es))) := by
  obtain ⟨g1, g2, g3⟩ := gl_of G h2
  cases xs with
  | nil => cases h0
  | cons x xs =>
    obtain ⟨a1, a2⟩ := args_head (X := X) h3 pos
    exact (pe_callBfun (call_D (X := X) .gcd _ rfl G.calm G.grd G.units) g1 (G.gcd h1) h4 g2 a1 a2).imp fun σ H Q h => rd_blt h
/-! ### isinstance -/
def tyN : Ty → String
  | .int => "int" | .str => "str" | .tup => "tuple" | .lst => "list" | .bool => "bool" | .dict => "dict"
theorem boot_ty (t : Ty) : bootBuiltins (tyName t) = some (.type (tyN t)) ∧ tyName t ∈ (["int", "str", "tuple", "list", "bool", "dict"] : List Str) ∧ tyName t ≠ "__name__" := by
  cases t
  · exact ⟨PyProof.Rows.boot_int, by simp [tyName], by decide⟩
  · exact ⟨PyProof.Rows.boot_str, by simp [tyName], by decide⟩
  · exact ⟨PyProof.Rows.boot_tuple, by simp [tyName], by decide⟩
  · exact ⟨PyProof.Rows.boot_list, by simp [tyName], by decide⟩
  · exact ⟨PyProof.Rows.boot_bool, by simp [tyName], by decide⟩
  · exact ⟨PyProof.Rows.boot_dict, by simp [tyName], by decide⟩
theorem kit_non (t : Ty) : kitB "NoneType" (tyN t) = some false := by cases t <;> decide +kernel
theorem kit_bool (t : Ty) : kitB "bool" (tyN t) = some (match t with
  | .int => true
  | .bool => true
  | _ => false) := by cases t <;> decide +kernel
theorem kit_int (t : Ty) : kitB "int" (tyN t) = some (match t with
  | .int => true
  | _ => false) := by cases t <;> decide +kernel
theorem kit_str (t : Ty) : kitB "str" (tyN t) = some (match t with
  | .str => true
  | _ => false) := by cases t <;> decide +kernel
theorem kit_tup (t : Ty) : kitB "tuple" (tyN t) = some (match t with
  | .tup => true
  | _ => false) := by cases t <;> decide +kernel
theorem kit_lst (t : Ty) : kitB "list" (tyN t) = some (match t with
  | .lst => true
  | _ => false) := by cases t <;> decide +kernel
theorem ty_tup {K : PySem.W.Frag} {H : Hp} {a : Addr} {vs : List V} (h : SqT K H a vs) : TyX K H (.ref a) (.type "tuple") := by
  rcases h with (h | ⟨o, h⟩) | ⟨o, its, n, h1, h2, h3⟩
  · exact .base (.tup h)
  · exact .fTuple h
  · exact .kTuple h1 h2
theorem ty_lst {K : PySem.W.Frag} {H : Hp} {a : Addr} {vs : List V} (h : SqL K H a vs) : TyX K H (.ref a) (.type "list") := by
  rcases h with (h | ⟨o, h⟩) | ⟨o, its, n, h1, h2, h3⟩
  · exact .base (.lst h)
  · exact .base (.frz h)
  · exact .kList h1 h2
theorem ty_of {K : PySem.W.Frag} {H : Hp} {M : Mp} {S : Sto} {t : Ty} {d : D} {v : V} {b : Bool} (R : RelS K H M S) (hu : d.und S.length = true) (h : RD K H M d v) (e : isT S t d = some b) : ∃ u, TyX K H v (.type u) ∧ kitB u (tyN t) = some b := by
  cases d with
  | non =>
    simp only [RD] at h
    subst h
    refine ⟨_, .base .non, ?_⟩
    rw [kit_non]
    cases t <;> simpa [isT] using e
  | bl x =>
    simp only [RD] at h
    subst h
    refine ⟨_, .base (.bl x), ?_⟩
    rw [kit_bool]
    cases t <;> simpa [isT] using e
  | int x =>
    simp only [RD] at h
    subst h
    refine ⟨_, .base (.int x), ?_⟩
    rw [kit_int]
    cases t <;> simpa [isT] using e
  | str x =>
    simp only [RD] at h
    subst h
    refine ⟨_, .base (.str _), ?_⟩
    rw [kit_str]
    cases t <;> simpa [isT] using e
  | tup xs =>
    simp only [RD] at h
    obtain ⟨a, vs, rfl, h1, h2⟩ := h
    refine ⟨_, ty_tup h1, ?_⟩
    rw [kit_tup]
    cases t <;> simpa [isT] using e
  | frl xs =>
    simp only [RD] at h
    obtain ⟨a, vs, rfl, h1, h2⟩ := h
    refine ⟨_, ty_lst h1.sq, ?_⟩
    rw [kit_lst]
    cases t <;> simpa [isT] using e
  | exc _ _ => exact False.elim (by simpa [RD] using h)
  | ref k =>
    simp only [RD] at h
    subst h
    cases hk : S[k]? with
    | none =>
      simp only [D.und, decide_eq_true_eq] at hu
      rw [List.getElem?_eq_getElem hu] at hk
      cases hk
    | some o =>
      have q := R.ob k o hk
      cases o with
      | dic kvs => exact False.elim q
      | lst ds =>
        obtain ⟨vs, h1, h2⟩ := q
        refine ⟨_, .base (.lst h1), ?_⟩
        rw [kit_lst]
        cases t <;> simpa [isT, hk] using e
theorem s_isi (G : Gd T N C sc X) {t : Ty} {e : E} {x : Expr} {p p2 pos : Pos} (h1 : gloB sc "isinstance" = true) (h2 : gloB sc (tyName t) = true) (h3 : oddB x = false) (h4 : PE X x (tE X.K C (evE C e))) :
    PE X (.Call (.Name "isinstance" p) [x, .Name (tyName t) p2] [] pos) (tE X.K C (evE C (.blt (.isi t) (.cons e .nil)))) := by
  obtain ⟨g1, g2, g3⟩ := gl_of G h1
  obtain ⟨k1, k2, k3⟩ := gl_of G h2
  obtain ⟨b1, b2, b3⟩ := boot_ty t
  have hm : X.mg (tyName t) = none := G.blt _ (by simp at b2 ⊢; rcases b2 with b | b | b | b | b | b <;> simp [b])
  have pt : PE X (.Name (tyName t) p2) (tC (.ty (tyN t))) := pe_bltn k1 hm b1 rfl b3 k2
  have pa : PA X [x, .Name (tyName t) p2] (tCons (tE X.K C (evE C e)) (tCons (tC (.ty (tyN t))) tNil)) := pa_cons h4 (pa_cons pt pa_nil) (star_cons h3)
  refine (pe_callB call_isi g1 (G.blt "isinstance" (by simp)) (by decide +kernel) pa g3 g2 (star_cons h3) rfl).imp fun σ H Q ⟨ρ, S, M, d, S', hn, hρ, R, ev, P⟩ => ?_
  simp only [evE, evEs] at ev
  obtain ⟨ds, S1, e1, ev⟩ := bindL_ok ev
  obtain ⟨d1, S2, e2, e1⟩ := bindR_ok e1
  obtain ⟨dr, S3, e3, e1⟩ := bindLL_ok e1
  cases e3
  cases e1
  refine ⟨ρ, S, M, d1, S1, hn, hρ, R, e2, fun v H1 M1 s1 R1 u1 hv => ?_⟩
  simp only [bltop] at ev
  split at ev
  · rename_i b hb
    obtain ⟨rfl, rfl⟩ := ok_inj ev
    obtain ⟨u, t1, t2⟩ := ty_of R1 u1 hv hb
    exact ⟨v, .ty (tyN t), .type u, .type (tyN t), b, rfl, .ty _, t1, kit_ty t2, (P.after s1 R1).same R1 (by simp [D.und]) (by simp [RD])⟩
  · cases ev
/-! ### list(range(n)), a written dict of texts -/
theorem rgV_rel {K : PySem.W.Frag} {H : Hp} {M : Mp} (n : Int) : RDs K H M (rngL 0 n.toNat) (rgV 0 n) := by
  have key : ∀ (k : Nat) (lo : Int), RDs K H M (rngL lo k) ((List.range k).map fun i => V.int (lo + (i : Nat))) := by
    intro k
    induction k with
    | zero => intro lo; simp [rngL, RDs]
    | succ k ih =>
      intro lo
      rw [List.range_succ_eq_map, List.map_cons, List.map_map]
      simp only [rngL, RDs]
      refine ⟨_, _, rfl, by simp [RD], ?_⟩
      have := ih (lo + 1)
      have e : ((fun i : Nat => V.int (lo + (i : Nat))) ∘ Nat.succ) = fun i : Nat => V.int (lo + 1 + (i : Nat)) := by
        funext i
        show V.int (lo + ((i + 1 : Nat) : Int)) = _
        congr 1
        omega
      rw [e]
      exact this
  unfold rgV
  have := key (n - 0).toNat 0
  rw [Int.sub_zero] at this ⊢
  exact this
theorem s_lrg (G : Gd T N C sc X) {a : E} {x : Expr} {p p2 pos pos2 : Pos} (h1 : gloB sc "list" = true) (h2 : gloB sc "range" = true) (hx : oddB x = false) (h : PE X x (tE X.K C (evE C a))) :
    PE X (.Call (.Name "list" p) [.Call (.Name "range" p2) [x] [] pos2] [] pos) (tE X.K C (evE C (.lrg a))) := by
  have m1 : X.mg "list" = none := G.blt _ (by simp)
  have m2 : X.mg "range" = none := G.blt _ (by simp)
  refine (pe_listRg G.calm (gl_of G h1).1 m1 (prg_1 (gl_of G h2).1 m2 h (star_cons hx))).imp fun σ H Q ⟨ρ, S, M, d, S', hn, hρ, R, e, P⟩ => ?_
  simp only [evE] at e
  obtain ⟨y, S1, e1, e⟩ := bind_ok e
  unfold lrgop at e
  split at e
  · rename_i n
    obtain ⟨hz, e⟩ := st_ne e
    unfold alloc at e
    obtain ⟨rfl, rfl⟩ := ok_inj e
    refine ⟨ρ, S, M, _, S1, hn, hρ, R, e1, fun v H1 M1 s1 R1 u1 h1 => ⟨n, by simpa [RD] using h1, ⟨by omega, by omega, by omega, by omega, by omega⟩, fun q hq => (P.after s1 R1).lst R1 (Nat.le_trans hn s1.le) (rngL_und _ _) (rgV_rel n) hq⟩⟩
  · cases e
def cdK (kvs : List (List Nat × List Nat)) : List (Key × V) := kvs.map fun p => (.inr ⟨p.1.toArray⟩, V.str ⟨p.2.toArray⟩)
theorem cdv_merge (s : List Nat) : ∀ (kvs : List (List Nat × List Nat)) (acc : List (Key × V)), valV (mergeK acc (cdK kvs)) (.inr ⟨s.toArray⟩) = (match cdv kvs s with
    | some w => some (V.str ⟨w.toArray⟩)
    | none => valV acc (.inr ⟨s.toArray⟩))
  | [], acc => rfl
  | (k, v) :: r, acc => by
    show valV (mergeK (putK acc (.inr ⟨k.toArray⟩) (V.str ⟨v.toArray⟩)) (cdK r)) _ = _
    rw [cdv_merge s r]
    simp only [cdv]
    cases h : cdv r s with
    | some w => rfl
    | none =>
      simp only
      rw [valV_put]
      by_cases e : k = s
      · subst e
        simp
      · rw [if_neg e, if_neg]
        intro q
        injection q with q
        injection q with q
        exact e (by have := congrArg Array.toList q; simpa using this.symm)
theorem cd_pairs : ∀ {kvs : List (List Nat × List Nat)} {ks : List (Option Expr)} {vs : List Expr} {pos : Pos}, cdE kvs ks vs = true → PPs X pos ks vs (kvs.map fun p => (tC (.str ⟨p.1.toArray⟩), tC (.str ⟨p.2.toArray⟩))) ∧ ks.all (·.isSome) = true ∧ ks.length = vs.length ∧ ks.length = kvs.length
  | [], [], [], pos, _ => ⟨pps_nil, rfl, rfl, rfl⟩
  | [], [], _ :: _, _, h => by simp [cdE] at h
  | [], _ :: _, _, _, h => by simp [cdE] at h
  | _ :: _, [], _, _, h => by simp [cdE] at h
  | _ :: _, none :: _, _, _, h => by simp [cdE] at h
  | _ :: _, some _ :: _, [], _, h => by simp [cdE] at h
  | (k, v) :: kvs, some a :: ks, b :: vs, pos, h => by
    simp only [cdE, Bool.and_eq_true, decide_eq_true_eq] at h
    obtain ⟨⟨h1, h2⟩, h3⟩ := h
    obtain ⟨j1, p1, rfl⟩ := vConst_ok h1
    obtain ⟨j2, p2, rfl⟩ := vConst_ok h2
    obtain ⟨q1, q2, q3, q4⟩ := cd_pairs (pos := pos) h3
    exact ⟨pps_cons pe_str pe_str q1, by simpa using q2, by simp [q3], by simp [q4]⟩
theorem cd_read {σ : L2.St} : ∀ {kvs : List (List Nat × List Nat)} {H : Hp} {Q : List (V × V) → Hp → Prop}, Q ((cdK kvs).map fun kv => (kV kv.1, kv.2)) H → tPairs (kvs.map fun p => (tC (.str ⟨p.1.toArray⟩), tC (.str ⟨p.2.toArray⟩))) σ H Q
  | [], H, Q, h => h
  | (k, v) :: r, H, Q, h => cd_read (kvs := r) (Q := fun ps H3 => Q ((V.str ⟨k.toArray⟩, V.str ⟨v.toArray⟩) :: ps) H3) h
theorem s_cdx (G : Gd T N C sc X) {kvs : List (List Nat × List Nat)} {i : E} {ks : List (Option Expr)} {vs : List Expr} {r : Expr} {p p2 : Pos} (h1 : cdB kvs ks vs = true) (hr : oddB r = false) (h : PE X r (tE X.K C (evE C i))) :
    PE X (.Subscript (.Dict ks vs p2) r p) (tE X.K C (evE C (.cdx kvs i))) := by
  unfold cdB at h1
  simp only [Bool.and_eq_true, Bool.not_eq_true', decide_eq_true_eq] at h1
  obtain ⟨⟨h1, h2⟩, h3⟩ := h1
  obtain ⟨q1, q2, q3, q4⟩ := cd_pairs (X := X) (pos := p2) h1
  have hne : ks ≠ [] := fun e => by
    subst e
    have : kvs = [] := List.eq_nil_of_length_eq_zero (by simpa using q4.symm)
    rw [this] at h2
    cases h2
  have hs : NoSl r := fun o i => plainIx_of hr o i
  have hu := G.units
  refine (pe_dget (by omega) (pe_disp q1 q2 q3 hne (by omega)) h hs).imp fun σ H Q ⟨ρ, S, M, d, S', hn, hρ, R, e, P⟩ q hq => ?_
  simp only [evE] at e
  obtain ⟨x, S1, e1, e⟩ := bind_ok e
  unfold cdxop at e
  split at e
  · rename_i s
    split at e
    · rename_i w hw
      obtain ⟨rfl, rfl⟩ := ok_inj e
      refine cd_read ⟨upd_same, cdK kvs, rfl, by simp [cdK]; omega, ?_⟩
      rw [upd_upd]
      have st : Step C.n0 H M S (upd H q (.dK (mergeK [] (cdK kvs)))) M S := Step.new R hq
      have R' : RelS X.K (upd H q (.dK (mergeK [] (cdK kvs)))) M S := R.new hq
      refine ⟨ρ, S, M, _, S1, hn, hρ.step R st, R', e1, fun v H1 M1 s1 R1 u1 h1 => ?_⟩
      obtain ⟨b1, _⟩ := Step.beside R' s1 (upd_same) (fun k hk => R.tracked hk hq)
      simp only [RD] at h1
      refine ⟨q, V.str ⟨w.toArray⟩, rfl, ?_, (P.after (Step.trans R' st s1) R1).same R1 (by simp [D.und]) (by simp [RD])⟩
      have g := DGet.k (k := .inr ⟨s.toArray⟩) b1
      rw [cdv_merge, hw] at g
      rw [h1]
      exact g
    · cases e
  · cases e
/-! ### methods -/
theorem s_mth (G : Gd T N C sc X) {m : Mt} {o : E} {es : Es} {z : Expr} {xs : List Expr} {p pos : Pos} (h1 : mtDone m xs = true) (h2 : recvB z = true) (h0 : p.endLine = pos.line) (h3 : mEs T N sc es xs = true) (h5 : xs.length < 5) (h4 : PE X z (tE X.K C (evE C o))) (h6 : PA X xs (tA X.K C (evEs C es))) :
    PE X (.Call (.Attribute z (mtName m) p) xs [] pos) (tE X.K C (evE C (.mth m o es))) := by
  have rd : ∀ (TY : String), (∀ (S : Sto) (M : Mp) (H : Hp) (d : D) (v : V), RelS X.K H M S → mtOk S m d = true → RD X.K H M d v → tyV X.K TY v H) → ∀ σ H Q, tE X.K C (evE C (.mth m o es)) σ H Q → tE X.K C (evE C o) σ H fun x H1 => tyV X.K TY x H1 ∧ tA X.K C (evEs C es) σ H1 fun xs H2 => rM X.K m x xs H2 Q := by
    intro TY hT σ H Q ⟨ρ, S, M, d, S', hn, hρ, R, e, P⟩
    simp only [evE] at e
    obtain ⟨x, S1, e1, e⟩ := bind_ok e
    obtain ⟨hok, e⟩ := st_ne e
    obtain ⟨ds, S2, e2, e⟩ := bindL_ok e
    refine ⟨ρ, S, M, x, S1, hn, hρ, R, e1, fun x' H1 M1 s1 R1 ux hx => ⟨hT S1 M1 H1 x x' R1 hok hx, ?_⟩⟩
    have n1 := Nat.le_trans hn s1.le
    refine ⟨ρ, S1, M1, ds, S2, n1, hρ.step R s1, R1, e2, fun vs H2 M2 s2 R2 u2 h2 => ?_⟩
    exact ⟨x, ds, S2, M2, C.n0, d, S', Nat.le_trans n1 s2.le, R2, und_mono s2.le x ux, u2, RD.step R1 s2 x x' ux hx, h2, e, P.after (Step.trans R1 s1 s2) R2⟩
  have hb : ∀ y, attributeBase z y X.env (eval z X.env) = eval z X.env := fun y => base_of h2
  have hl : (p.endLine == pos.line) = true := by rw [h0]; exact beq_self_eq_true _
  have lT : ∀ (S : Sto) (M : Mp) (H : Hp) (k : Nat) (xs : List D) (v : V), RelS X.K H M S → S[k]? = some (.lst xs) → RD X.K H M (.ref k) v → tyV X.K "list" v H := fun S M H k xs v R hk h => by
    simp only [RD] at h
    subst h
    obtain ⟨vs, h7, h8⟩ := R.ob k _ hk
    exact .inl ⟨rfl, vs, SqL.of h7⟩
  have few : ∀ (x : Expr) (r : List Expr), xs = x :: r → ((backTo pos (starEach (x :: r) X.env)).all (fun x => !x.1) && (backToKw pos (keywordEach [] X.env)).all (fun x => x.1.isSome)
      && decide ((x :: r).length + ([] : List Keyword).length + (if ([] : List Keyword).isEmpty then 0 else 1) < 30)) = true := fun x r e => by
    rw [← e, star_map es xs h3 X.env, plain_all]
    have : xs.length + ([] : List Keyword).length + (if ([] : List Keyword).isEmpty then 0 else 1) < 30 := by
      show xs.length + 0 + 0 < 30
      omega
    rw [decide_eq_true this]
    rfl
  cases m
  case append =>
    cases xs with
    | nil => cases h1
    | cons x xs =>
      obtain ⟨a1, a2⟩ := args_head (X := X) h3 pos
      refine (pe_bm PySem.F.plainAttrs_list PySem.F.slot_list_append PySem.F.type_list_append mt_appendD h4 h6 (hb _) (few x xs rfl) hl a1 a2).imp (rd "list" fun S M H d v R hok h => ?_)
      unfold mtOk at hok
      split at hok <;> (try cases hok) <;> (try contradiction)
      split at hok
      · exact lT S M H _ _ v R (by assumption) h
      · cases hok
  case extend =>
    cases xs with
    | nil => cases h1
    | cons x xs =>
      obtain ⟨a1, a2⟩ := args_head (X := X) h3 pos
      refine (pe_bm PySem.F.plainAttrs_list PySem.F.slot_list_extend PySem.F.type_list_extend mt_extendD h4 h6 (hb _) (few x xs rfl) hl a1 a2).imp (rd "list" fun S M H d v R hok h => ?_)
      unfold mtOk at hok
      split at hok <;> (try cases hok) <;> (try contradiction)
      split at hok
      · exact lT S M H _ _ v R (by assumption) h
      · cases hok
  case join =>
    cases xs with
    | nil => cases h1
    | cons x xs =>
      obtain ⟨a1, a2⟩ := args_head (X := X) h3 pos
      refine (pe_bm PySem.F.plainAttrs_str PySem.F.slot_str_join PySem.F.type_str_join mt_joinD h4 h6 (hb _) (few x xs rfl) hl a1 a2).imp (rd "str" fun S M H d v R hok h => ?_)
      unfold mtOk at hok
      split at hok <;> (try cases hok) <;> (try contradiction)
      simp only [RD] at h
      subst h
      rfl
  case pop =>
    cases xs with
    | cons x xs => cases h1
    | nil =>
      cases es with
      | cons _ _ => simp [mEs] at h3
      | nil =>
        refine (pe_bm0 PySem.F.plainAttrs_list PySem.F.slot_list_pop PySem.F.type_list_pop mt_popD h4 (hb _) hl).imp fun σ H Q h => ?_
        obtain ⟨ρ, S, M, x, S1, hn, hρ, R, e1, h⟩ := rd "list" (fun S M H d v R hok h => by
          unfold mtOk at hok
          split at hok <;> (try cases hok) <;> (try contradiction)
          split at hok
          · exact lT S M H _ _ v R (by assumption) h
          · cases hok) σ H Q h
        refine ⟨ρ, S, M, x, S1, hn, hρ, R, e1, fun v H1 M1 s1 R1 u1 h1 => ?_⟩
        obtain ⟨ty, ρ2, S2, M2, ds, S3, hn2, hρ2, R2, e2, h2⟩ := h v H1 M1 s1 R1 u1 h1
        simp only [evEs] at e2
        cases e2
        exact ⟨ty, h2 [] H1 M2 .refl R2 (by simp [D.unds]) (by simp [RDs])⟩
  all_goals (cases xs <;> cases h1)
end
end Ev

set_option Elab.async false
set_option linter.all false
set_option autoImplicit false
set_option maxRecDepth 100000
set_option maxHeartbeats 4000000
/-! Ev12: walks and comprehensions; all expressions keep to the evaluator. -/
namespace Ev
open PySem PySem.Spec PyProof.Rows L2 RT RZ

section
variable {T : Tb} {N : List Str} {sc : Scope} {C : Cf} {X : Cx} {tg : Expr}
theorem walk_ok {g : D → Sto → Option (List D × List (Nat × Ob))} {r : Res} {f : D → List D → List (Nat × Ob) → Sto → ResI} {xs : List D} {w : List (Nat × Ob)} {S : Sto} (h : r.walk g f = .ok xs w S) : ∃ d S1 ys u, r = .ok d S1 ∧ g d S1 = some (ys, u) ∧ f d ys u S1 = .ok xs w S := by
  cases r with
  | ok d S1 =>
    unfold Res.walk at h
    simp only at h
    split at h
    · exact ⟨d, S1, _, _, rfl, by assumption, h⟩
    · cases h
  | ex _ _ => cases h
  | st => cases h
theorem rng_ok {r : Res} {f : Int → Sto → ResI} {xs : List D} {w : List (Nat × Ob)} {S : Sto} (h : r.rng f = .ok xs w S) : ∃ i S1, r = .ok (.int i) S1 ∧ (-4611686018427387904 ≤ i ∧ i < 4611686018427387904) ∧ f i S1 = .ok xs w S := by
  unfold Res.rng at h
  split at h
  · split at h
    · exact ⟨_, _, rfl, by assumption, h⟩
    · cases h
  · cases h
  · cases h
theorem okI_inj {xs ys : List D} {w u : List (Nat × Ob)} {S S' : Sto} (h : ResI.ok xs w S = .ok ys u S') : xs = ys ∧ w = u ∧ S = S' := by
  cases h
  exact ⟨rfl, rfl, rfl⟩
theorem i_seq {e : E} {x : Expr} (h : PE X x (tE X.K C (evE C e))) : PI X tg x (tI X.K C (evIt C (.seq e))) := by
  refine ⟨fun pins s σ H R I ⟨ρ, S, M, xs, w, S', hn, hρ, R0, ev, P⟩ => ?_⟩
  simp only [evIt] at ev
  obtain ⟨d, S1, ys, u, e1, e2, e3⟩ := walk_ok ev
  obtain ⟨rfl, rfl, rfl⟩ := okI_inj e3
  unfold walkOf at e2
  split at e2
  · cases e2
    refine (pi_tup h).run pins s σ H R I ⟨ρ, S, M, _, S1, hn, hρ, R0, e1, fun v H1 M1 s1 R1 u1 h1 => ?_⟩
    simp only [RD] at h1
    simp only [D.und] at u1
    obtain ⟨a, vs, rfl, h2, h3⟩ := h1
    exact ⟨a, rfl, ⟨vs, h2⟩, P _ H1 M1 s1 R1 u1 (itd_tup R1 h2 h3 u1)⟩
  · cases e2
    rename_i cs
    refine (pi_str h).run pins s σ H R I ⟨ρ, S, M, _, S1, hn, hρ, R0, e1, fun v H1 M1 s1 R1 u1 h1 => ?_⟩
    simp only [RD] at h1
    exact ⟨_, h1, P _ H1 M1 s1 R1 (unds_of fun d hd => by
      obtain ⟨c, _, rfl⟩ := List.mem_map.mp hd
      simp [D.und]) (itd_str R1 cs)⟩
  · split at e2
    · cases e2
      rename_i k _ hk
      refine (pi_list h).run pins s σ H R I ⟨ρ, S, M, _, S1, hn, hρ, R0, e1, fun v H1 M1 s1 R1 u1 h1 => ?_⟩
      simp only [RD] at h1
      obtain ⟨vs, h2, h3⟩ := R1.ob k _ hk
      exact ⟨M1 k, h1, ⟨vs, SqL.of h2⟩, P _ H1 M1 s1 R1 (R1.und k _ hk) (itd_list R1 hk)⟩
    · cases e2
  · cases e2
theorem i_fsh {e : E} {x : Expr} (h : PE X x (tE X.K C (evE C e))) : PI X tg x (tI X.K C (evIt C (.fsh e))) := by
  refine ⟨fun pins s σ H R I ⟨ρ, S, M, xs, w, S', hn, hρ, R0, ev, P⟩ => ?_⟩
  simp only [evIt] at ev
  unfold freshOf at ev
  split at ev
  · rename_i k S1 e1
    split at ev
    · rename_i ys hk
      split at ev
      · rename_i hc
        obtain ⟨rfl, rfl, rfl⟩ := okI_inj ev
        refine (pi_list h).run pins s σ H R I ⟨ρ, S, M, _, S1, hn, hρ, R0, e1, fun v H1 M1 s1 R1 u1 h1 => ?_⟩
        simp only [RD] at h1
        obtain ⟨vs, h2, h3⟩ := R1.ob k _ hk
        have hk1 : k < S1.length := (List.getElem?_eq_some_iff.mp hk).1
        obtain ⟨c1, c2⟩ := cut_S R0 s1 R1 (same_und R0 hc.2.1)
        rw [hc.2.1] at c1 c2
        have hne : ∀ j, j < S.length → M j ≠ M1 k := fun j hj q => by
          have := R1.inj j k (Nat.lt_of_lt_of_le hj s1.le) hk1 ((s1.agree j hj).trans q)
          omega
        exact ⟨M1 k, h1, ⟨vs, SqL.of h2⟩, P _ H1 M c1 c2 hc.2.2 (itd_loose c2 h2 (RDs.agree s1.agree ys vs hc.2.2 h3) hc.2.2 hne)⟩
      · obtain ⟨rfl, rfl, rfl⟩ := okI_inj ev
        refine (pi_list h).run pins s σ H R I ⟨ρ, S, M, _, S1, hn, hρ, R0, e1, fun v H1 M1 s1 R1 u1 h1 => ?_⟩
        simp only [RD] at h1
        obtain ⟨vs, h2, h3⟩ := R1.ob k _ hk
        exact ⟨M1 k, h1, ⟨vs, SqL.of h2⟩, P _ H1 M1 s1 R1 (R1.und k _ hk) (itd_list R1 hk)⟩
    · cases ev
  · rename_i ys S1 e1
    obtain ⟨rfl, rfl, rfl⟩ := okI_inj ev
    refine (pi_tup h).run pins s σ H R I ⟨ρ, S, M, _, S1, hn, hρ, R0, e1, fun v H1 M1 s1 R1 u1 h1 => ?_⟩
    simp only [RD] at h1
    simp only [D.und] at u1
    obtain ⟨a, vs, rfl, h2, h3⟩ := h1
    exact ⟨a, rfl, ⟨vs, h2⟩, P _ H1 M1 s1 R1 u1 (itd_tup R1 h2 h3 u1)⟩
  · cases ev
  · cases ev
theorem Gd.it (G : Gd T N C sc X) {y : Str} (h : y ∈ (["range", "enumerate", "zip", "reversed"] : List Str)) : X.mg y = none := G.blt y (by
  simp at h ⊢
  rcases h with h | h | h | h <;> simp [h])
theorem pa_1 {x : Expr} {t : TE} (h : PE X x t) (hx : oddB x = false) : PA X [x] (tCons t tNil) := pa_cons h pa_nil (star_cons hx)
theorem i_rng1 (G : Gd T N C sc X) {a : E} {x : Expr} {p pos : Pos} (hg : gloB sc "range" = true) (hx : oddB x = false) (h : PE X x (tE X.K C (evE C a))) : PI X tg (.Call (.Name "range" p) [x] [] pos) (tI X.K C (evIt C (.rng1 a))) := by
  refine (pi_range1 (gl_of G hg).1 (G.it (by simp)) (pa_1 h hx) (star_cons hx)).imp fun σ H R ⟨ρ, S, M, xs, w, S', hn, hρ, R0, ev, P⟩ => ?_
  simp only [evIt] at ev
  obtain ⟨i, S1, e1, hi, e3⟩ := rng_ok ev
  obtain ⟨rfl, rfl, rfl⟩ := okI_inj e3
  refine ⟨ρ, S, M, _, S1, hn, hρ, R0, e1, fun v H1 M1 s1 R1 u1 h1 => ⟨i, by simpa [RD] using h1, hi.1, hi.2, P _ H1 M1 s1 R1 (rngL_und _ _) (itd_rng R1 0 _)⟩⟩
theorem i_rng2 (G : Gd T N C sc X) {a b : E} {x y : Expr} {p pos : Pos} (hg : gloB sc "range" = true) (hx : oddB x = false) (hy : oddB y = false) (h : PE X x (tE X.K C (evE C a))) (h' : PE X y (tE X.K C (evE C b))) :
    PI X tg (.Call (.Name "range" p) [x, y] [] pos) (tI X.K C (evIt C (.rng2 a b))) := by
  refine (pi_range2 (gl_of G hg).1 (G.it (by simp)) (pa_cons h (pa_1 h' hy) (star_cons hx)) (by rw [star_cons hx, star_cons hy]; rfl) (star_cons hy)).imp fun σ H R ⟨ρ, S, M, xs, w, S', hn, hρ, R0, ev, P⟩ => ?_
  simp only [evIt] at ev
  obtain ⟨i, S1, e1, hi, ev⟩ := rng_ok ev
  obtain ⟨j, S2, e2, hj, e3⟩ := rng_ok ev
  obtain ⟨rfl, rfl, rfl⟩ := okI_inj e3
  refine ⟨ρ, S, M, _, S1, hn, hρ, R0, e1, fun v H1 M1 s1 R1 u1 h1 => ⟨ρ, S1, M1, _, S2, Nat.le_trans hn s1.le, hρ.step R0 s1, R1, e2, fun v2 H2 M2 s2 R2 u2 h2 => ?_⟩⟩
  simp only [RD] at h1 h2
  subst h1 h2
  exact ⟨i, j, rfl, ⟨hi.1, hi.2, hj.1, hj.2⟩, P _ H2 M2 (Step.trans R1 s1 s2) R2 (rngL_und _ _) (itd_rng R2 i _)⟩
theorem small_of {i j k : Int} (hi : -4611686018427387904 ≤ i ∧ i < 4611686018427387904) (hj : -4611686018427387904 ≤ j ∧ j < 4611686018427387904) (hk : k ≠ 0 ∧ k.natAbs < 1073741824) : RgC i j k (rngN i j k) := by
  have size : Builtin.Range.rangeSize i j k = ((rngN i j k : Nat) : Int) ∧ 0 ≤ Builtin.Range.rangeSize i j k ∧ Builtin.Range.rangeSize i j k < 9223372036854775808 := by
    unfold Builtin.Range.rangeSize rngN
    by_cases h : 0 < k
    · rw [if_pos (show k > 0 from h), if_pos h]
      by_cases hij : i < j
      · rw [if_pos hij]
        have e : j - i + k - 1 = (j - i - 1) + 1 * k := by omega
        have h1 : 0 ≤ (j - i - 1) / k := Int.ediv_nonneg (by omega) (by omega)
        have h2 : (j - i - 1) / k ≤ j - i - 1 := Int.ediv_le_self _ (by omega)
        rw [e, Int.add_mul_ediv_right _ _ (by omega)]
        omega
      · rw [if_neg hij]
        have h1 : (j - i + k - 1) / k < 1 := Int.ediv_lt_of_lt_mul h (by omega)
        omega
    · rw [if_neg (show ¬ k > 0 from h), if_neg h, if_pos (show k < 0 by omega)]
      by_cases hij : i > j
      · rw [if_pos hij]
        have e : i - j + -k - 1 = (i - j - 1) + 1 * -k := by omega
        have h1 : 0 ≤ (i - j - 1) / -k := Int.ediv_nonneg (by omega) (by omega)
        have h2 : (i - j - 1) / -k ≤ i - j - 1 := Int.ediv_le_self _ (by omega)
        rw [e, Int.add_mul_ediv_right _ _ (by omega)]
        omega
      · rw [if_neg hij]
        have h1 : (i - j + -k - 1) / -k < 1 := Int.ediv_lt_of_lt_mul (by omega) (by omega)
        omega
  refine ⟨hk.1, hk.2, ?_, size.1⟩
  unfold Builtin.Range.small Builtin.Range.rangeFitsLong
  simp only [Bool.and_eq_true, Bool.or_eq_true, decide_eq_true_eq, beq_iff_eq]
  refine ⟨⟨⟨⟨?_, ?_⟩, ?_⟩, ?_⟩, .inr ?_⟩ <;> first | omega | (split <;> simp only [Bool.and_eq_true, decide_eq_true_eq] <;> omega)
theorem i_rng3 (G : Gd T N C sc X) {a b c : E} {x y z : Expr} {p pos : Pos} (hg : gloB sc "range" = true) (hx : oddB x = false) (hy : oddB y = false) (hz : oddB z = false) (h : PE X x (tE X.K C (evE C a))) (h' : PE X y (tE X.K C (evE C b))) (h'' : PE X z (tE X.K C (evE C c))) :
    PI X tg (.Call (.Name "range" p) [x, y, z] [] pos) (tI X.K C (evIt C (.rng3 a b c))) := by
  refine (pi_range3 (gl_of G hg).1 (G.it (by simp)) (pa_cons h (pa_cons h' (pa_1 h'' hz) (star_cons hy)) (star_cons hx)) (star_cons hx) (by rw [star_cons hy, star_cons hz]; rfl)).imp fun σ H R ⟨ρ, S, M, xs, w, S', hn, hρ, R0, ev, P⟩ => ?_
  simp only [evIt] at ev
  obtain ⟨i, S1, e1, hi, ev⟩ := rng_ok ev
  obtain ⟨j, S2, e2, hj, ev⟩ := rng_ok ev
  obtain ⟨k, S3, e3, hk, ev⟩ := rng_ok ev
  split at ev
  · rename_i hc
    obtain ⟨rfl, rfl, rfl⟩ := okI_inj ev
    refine ⟨ρ, S, M, _, S1, hn, hρ, R0, e1, fun v H1 M1 s1 R1 u1 h1 => ⟨ρ, S1, M1, _, S2, Nat.le_trans hn s1.le, hρ.step R0 s1, R1, e2, fun v2 H2 M2 s2 R2 u2 h2 => ?_⟩⟩
    have sA := Step.trans R1 s1 s2
    refine ⟨ρ, S2, M2, _, S3, Nat.le_trans hn sA.le, hρ.step R0 sA, R2, e3, fun v3 H3 M3 s3 R3 u3 h3 => ?_⟩
    simp only [RD] at h1 h2 h3
    subst h1 h2 h3
    exact ⟨i, j, k, _, rfl, small_of hi hj hc, P _ H3 M3 (Step.trans R2 sA s3) R3 (rngS_und _ _ _) (itd_rngS R3 i k _)⟩
  · cases ev
theorem seq_lst {d : D} {S : Sto} {ys : List D} {u : List (Nat × Ob)} (h : seqWalk d S = some (ys, u)) (ht : d.isTup = false) : ∃ k, d = .ref k ∧ S[k]? = some (.lst ys) ∧ u = [(k, .lst ys)] := by
  unfold seqWalk at h
  split at h
  · cases ht
  · split at h
    · cases h
      exact ⟨_, rfl, by assumption, rfl⟩
    · cases h
  · cases h
theorem seq_tup {d : D} {S : Sto} {ys : List D} {u : List (Nat × Ob)} (h : seqWalk d S = some (ys, u)) (ht : d.isTup = true) : d = .tup ys ∧ u = [] := by
  unfold seqWalk at h
  split at h
  · cases h
    exact ⟨rfl, rfl⟩
  · cases ht
  · cases h
theorem i_enm (G : Gd T N C sc X) {e : E} {x : Expr} {p pos tp : Pos} {es : List Expr} {kk : Nat} (hg : gloB sc "enumerate" = true) (hx : oddB x = false) (h : PE X x (tE X.K C (evE C e))) : PI X (.Tuple es kk tp) (.Call (.Name "enumerate" p) [x] [] pos) (tI X.K C (evIt C (.enm e))) := by
  refine (Et.pi_enumA (gl_of G hg).1 (G.it (by simp)) (pa_1 h hx) (star_cons hx)).imp fun σ H R ⟨ρ, S, M, xs, w, S', hn, hρ, R0, ev, P⟩ => ?_
  simp only [evIt] at ev
  obtain ⟨d, S1, ys, u, e1, e2, e3⟩ := walk_ok ev
  obtain ⟨rfl, rfl, rfl⟩ := okI_inj e3
  refine ⟨ρ, S, M, _, S1, hn, hρ, R0, e1, fun v H1 M1 s1 R1 u1 h1 => ?_⟩
  cases hd : d.isTup with
  | true =>
    obtain ⟨rfl, rfl⟩ := seq_tup e2 hd
    simp only [RD] at h1
    simp only [D.und] at u1
    obtain ⟨a, vs, rfl, ha, hx⟩ := h1
    exact ⟨a, vs, rfl, .inr ⟨ha, P _ H1 M1 s1 R1 (enmL_und _ _ u1) (itd_enmT R1 ha hx u1)⟩⟩
  | false =>
    obtain ⟨k, rfl, hk, rfl⟩ := seq_lst e2 hd
    simp only [RD] at h1
    subst h1
    obtain ⟨vs, h2, h3⟩ := R1.ob k _ hk
    exact ⟨M1 k, vs, rfl, .inl ⟨SqL.of h2, P _ H1 M1 s1 R1 (enmL_und _ _ (R1.und k _ hk)) (itd_enm R1 hk)⟩⟩
theorem i_zip (G : Gd T N C sc X) {a b : E} {x y : Expr} {p pos tp : Pos} {es : List Expr} {kk : Nat} (hg : gloB sc "zip" = true) (hx : oddB x = false) (hy : oddB y = false) (h : PE X x (tE X.K C (evE C a))) (h' : PE X y (tE X.K C (evE C b))) :
    PI X (.Tuple es kk tp) (.Call (.Name "zip" p) [x, y] [] pos) (tI X.K C (evIt C (.zip a b))) := by
  refine (pi_zipA (gl_of G hg).1 (G.it (by simp)) (pa_cons h (pa_1 h' hy) (star_cons hx)) (star_cons hx) (by rw [star_cons hy]; rfl)).imp fun σ H R ⟨ρ, S, M, xs, w, S', hn, hρ, R0, ev, P⟩ => ?_
  simp only [evIt] at ev
  obtain ⟨d, S1, ys, u, e1, e2, ev⟩ := walk_ok ev
  obtain ⟨d2, S2, zs, u2, e3, e4, ev⟩ := walk_ok ev
  split at ev
  · rename_i hc
    obtain ⟨ht, hw⟩ := hc
    obtain ⟨rfl, rfl, rfl⟩ := okI_inj ev
    refine ⟨ρ, S, M, _, S1, hn, hρ, R0, e1, fun v H1 M1 s1 R1 u1 h1 => ⟨ρ, S1, M1, _, S2, Nat.le_trans hn s1.le, hρ.step R0 s1, R1, e3, fun v2 H2 M2 s2 R2 u2 h2 => ?_⟩⟩
    have sA := Step.trans R1 s1 s2
    have h1' := RD.step R1 s2 d v u1 h1
    cases hd : d.isTup with
    | true =>
      obtain ⟨rfl, rfl⟩ := seq_tup e2 hd
      obtain ⟨rfl, rfl⟩ := seq_tup e4 (ht ▸ hd)
      simp only [RD] at h1' h2
      simp only [D.und] at u1 u2
      obtain ⟨p1, vs, rfl, q1, q2⟩ := h1'
      obtain ⟨p2, ws, rfl, q3, q4⟩ := h2
      have u1' := unds_mono s2.le _ u1
      exact ⟨p1, p2, vs, ws, rfl, .inr ⟨q1, q3, P _ H2 M2 sA R2 (zipL_und _ _ u1' u2) (itd_zipT R2 q1 q2 q3 q4 u1' u2)⟩⟩
    | false =>
      obtain ⟨j, rfl, hj, rfl⟩ := seq_lst e2 hd
      obtain ⟨k, rfl, hk, rfl⟩ := seq_lst e4 (ht ▸ hd)
      have hj2 := wOk_get hw (List.mem_singleton.mpr rfl)
      simp only [RD] at h1' h2
      subst h1' h2
      obtain ⟨vs, q1, q2⟩ := R2.ob j _ hj2
      obtain ⟨ws, q3, q4⟩ := R2.ob k _ hk
      exact ⟨M2 j, M2 k, vs, ws, rfl, .inl ⟨SqL.of q1, SqL.of q3, P _ H2 M2 sA R2 (zipL_und _ _ (R2.und j _ hj2) (R2.und k _ hk)) (itd_zip R2 hj2 hk)⟩⟩
  · cases ev
theorem i_rvd (G : Gd T N C sc X) {e : E} {x : Expr} {p pos : Pos} (hg : gloB sc "reversed" = true) (hx : oddB x = false) (h : PE X x (tE X.K C (evE C e))) : PI X tg (.Call (.Name "reversed" p) [x] [] pos) (tI X.K C (evIt C (.rvd e))) := by
  refine (pi_revA (gl_of G hg).1 (G.it (by simp)) h (star_cons hx)).imp fun σ H R ⟨ρ, S, M, xs, w, S', hn, hρ, R0, ev, P⟩ => ?_
  simp only [evIt] at ev
  obtain ⟨d, S1, ys, u, e1, e2, e3⟩ := walk_ok ev
  obtain ⟨rfl, rfl, rfl⟩ := okI_inj e3
  refine ⟨ρ, S, M, _, S1, hn, hρ, R0, e1, fun v H1 M1 s1 R1 u1 h1 => ?_⟩
  cases hd : d.isTup with
  | true =>
    obtain ⟨rfl, rfl⟩ := seq_tup e2 hd
    simp only [RD] at h1
    simp only [D.und] at u1
    obtain ⟨a, vs, rfl, h2, h3⟩ := h1
    exact ⟨a, vs, rfl, .inr ⟨h2, P _ H1 M1 s1 R1 (unds_sub u1 fun d hd => List.mem_reverse.mp hd) (itd_revT R1 h2 h3 u1 walk_revT)⟩⟩
  | false =>
    obtain ⟨k, rfl, hk, rfl⟩ := seq_lst e2 hd
    simp only [RD] at h1
    subst h1
    obtain ⟨vs, h2, h3⟩ := R1.ob k _ hk
    refine ⟨M1 k, vs, rfl, .inl ⟨SqL.of h2, ?_⟩⟩
    rw [h3.len]
    exact P _ H1 M1 s1 R1 (unds_sub (R1.und k _ hk) fun d hd => List.mem_reverse.mp hd) (itd_rev R1 hk)
theorem own_len (N : List Str) : ∀ own : List Nat, (ownP N own).length ≤ own.length
  | [] => Nat.le_refl _
  | i :: r => by
    have := own_len N r
    unfold ownP at this ⊢
    rw [List.filterMap_cons]
    split
    · simp only [List.length_cons]
      omega
    · simp only [List.length_cons]
      omega
theorem own_map {N : List Str} : ∀ own : List Nat, own.length = (ownP N own).length → (ownP N own).map (·.2) = own
  | [], _ => rfl
  | i :: r, h => by
    have h2 := own_len N r
    have ih := own_map (N := N) r
    unfold ownP at h h2 ih ⊢
    rw [List.filterMap_cons] at h ⊢
    split at h
    · simp only [List.length_cons] at h
      omega
    · rename_i b hb
      simp only [List.length_cons] at h
      cases hN : N[i]? with
      | none =>
        rw [hN] at hb
        cases hb
      | some x =>
        rw [hN] at hb
        cases hb
        simp only [hN, Option.map_some, List.map_cons]
        rw [ih (by omega)]
/-- what a comprehension's rules ask -/
structure LcOk (X : Cx) (el t i : Expr) (cs : List Expr) (s : Scope) (rd : TE) : Prop where
  ex : ∃ (own : List (Str × Nat)) (wi : TI) (g : TG) (tt : TT) (te : TE), PI X t i wi ∧ BlkOk X.N X.env.scope s own ∧ (∀ (s1 : Shared) (H : Hp) (C1 : Addr) (cl : List (Str × Addr)) (fp : List Addr), PG (X.blk s1 H s (compEnvC s cl C1 X.env) fp) t g) ∧
    (∀ (s1 : Shared) (H : Hp) (C1 : Addr) (cl : List (Str × Addr)) (fp : List Addr), PTs (X.blk s1 H s (compEnvC s cl C1 X.env) fp) cs tt) ∧ (∀ (s1 : Shared) (H : Hp) (C1 : Addr) (cl : List (Str × Addr)) (fp : List Addr), PE (X.blk s1 H s (compEnvC s cl C1 X.env) fp) el te) ∧
    (∀ v, foldedSetIterable i X.env v = pure v) ∧ ∀ σ H Q, rd σ H Q → tLc wi g tt te (own.map (·.2)) σ H Q
theorem lc_parts (G : Gd T N C sc X) {own tl : List Nat} {one : Bool} {it : It} {c e : E} {el t i : Expr} {cs : List Expr} {s : Scope} (hb : blkC N sc s (ownP N own) = true) (hown : own.length = (ownP N own).length) (htg : mTg N s one tl t = true) (hin : ∀ i ∈ tl, i ∈ own) (hodd : oddB i = false)
    (hi : PI X t i (tI X.K C (evIt C it))) (hc : (cs = [] ∧ c.isYes = true) ∨ ∃ y, cs = [y] ∧ ∀ Y, Gd T N C (relS s sc) Y → Y.K = X.K → PT Y y (tT Y.K C (evE C c))) (he : ∀ Y, Gd T N C (relS s sc) Y → Y.K = X.K → PE Y el (tE Y.K C (evE C e))) :
    LcOk X el t i cs s (tE X.K C (evE C (.lc own one tl it c e))) := by
  have ok : BlkOk X.N X.env.scope s (ownP N own) := by rw [G.hN, G.hsc]; exact blkOk_by hb
  have hmap : (ownP N own).map (·.2) = own := own_map own hown
  have hgt : ∀ (s1 : Shared) (H : Hp) (C1 : Addr) (cl : List (Str × Addr)) (fp : List Addr), PG (X.blk s1 H s (compEnvC s cl C1 X.env) fp) t (tgG X.K one tl) := fun s1 H C1 cl fp => by
    refine tg_G (X := X.blk s1 H s (compEnvC s cl C1 X.env) fp) G.calm G.hN G.nd (fun y hy => ?_) htg
    have hl : ∀ k, k ≠ .free → s.names.lookup y = some k → (X.blk s1 H s (compEnvC s cl C1 X.env) fp).env.scope.names.lookup y = some k := fun k hk h => lookup_relS_keep hk h
    rcases locB_ok hy with h | h
    · exact ⟨.inl (hl _ (by decide) h), .inr (hl _ (by decide) h)⟩
    · exact ⟨.inr (hl _ (by decide) h), .inl (by show (s.names.lookup y == some .cell) = true; rw [h]; rfl)⟩
  have gd : ∀ (s1 : Shared) (H : Hp) (C1 : Addr) (cl : List (Str × Addr)) (fp : List Addr), Gd T N C (relS s sc) (X.blk s1 H s (compEnvC s cl C1 X.env) fp) := fun s1 H C1 cl fp => by
    have := G.blk s1 H s cl C1 fp
    exact this
  rcases hc with ⟨rfl, hy⟩ | ⟨y, rfl, hy⟩
  · have hq := yes_of hy
    subst hq
    refine ⟨ownP N own, _, _, tYes, tE X.K C (evE C e), hi, ok, hgt, fun _ _ _ _ _ => pts_nil, fun s1 H C1 cl fp => he _ (gd s1 H C1 cl fp) rfl, fun v => folded_of hodd _ v, fun σ H Q h => ?_⟩
    rw [hmap]
    refine lc_read hin (fun σ H Q ⟨ρ, S, M, b, S', hn, hρ, R, ev, P⟩ => ?_) h
    simp only [evE] at ev
    obtain ⟨e1, rfl⟩ := ok_inj ev
    cases e1
    obtain ⟨k, hk, q⟩ := P.same R (v := .bl true) (by simp [D.und]) (by simp [RD])
    cases hk
    exact q
  · refine ⟨ownP N own, _, _, tT X.K C (evE C c), tE X.K C (evE C e), hi, ok, hgt, fun s1 H C1 cl fp => pts_one (hy _ (gd s1 H C1 cl fp) rfl), fun s1 H C1 cl fp => he _ (gd s1 H C1 cl fp) rfl, fun v => folded_of hodd _ v, fun σ H Q h => ?_⟩
    rw [hmap]
    exact lc_read hin (fun _ _ _ h => h) h
theorem LcOk.pe {el t i : Expr} {cs : List Expr} {s : Scope} {rd : TE} {p : Pos} (L : LcOk X el t i cs s rd) (G : Gd T N C sc X) : PE X (.ListComp el [⟨t, i, cs, 0⟩] s p) rd := by
  obtain ⟨own, wi, g, tt, te, h1, h2, h3, h4, h5, h6, h7⟩ := L.ex
  exact (pe_lc G.calm (by rw [G.hN]; exact G.nd) h1 h2 h3 h4 h5 h6).imp h7
theorem LcOk.weak {el t i : Expr} {cs : List Expr} {s : Scope} {rd rd' : TE} (L : LcOk X el t i cs s rd) (h : ∀ σ H Q, rd' σ H Q → rd σ H Q) : LcOk X el t i cs s rd' := by
  obtain ⟨own, wi, g, tt, te, h1, h2, h3, h4, h5, h6, h7⟩ := L.ex
  exact ⟨own, wi, g, tt, te, h1, h2, h3, h4, h5, h6, fun σ H Q q => h7 σ H Q (h σ H Q q)⟩
theorem s_lc (G : Gd T N C sc X) {own tl : List Nat} {one : Bool} {it : It} {c e : E} {el t i : Expr} {cs : List Expr} {s : Scope} {p : Pos} (hb : blkC N sc s (ownP N own) = true) (hown : own.length = (ownP N own).length) (htg : mTg N s one tl t = true) (hin : ∀ i ∈ tl, i ∈ own) (hodd : oddB i = false)
    (hi : PI X t i (tI X.K C (evIt C it))) (hc : (cs = [] ∧ c.isYes = true) ∨ ∃ y, cs = [y] ∧ ∀ Y, Gd T N C (relS s sc) Y → Y.K = X.K → PT Y y (tT Y.K C (evE C c))) (he : ∀ Y, Gd T N C (relS s sc) Y → Y.K = X.K → PE Y el (tE Y.K C (evE C e))) :
    PE X (.ListComp el [⟨t, i, cs, 0⟩] s p) (tE X.K C (evE C (.lc own one tl it c e))) := (lc_parts G hb hown htg hin hodd hi hc he).pe G

/-! ### all expressions -/
theorem pa_all {e : E} {es : Es} {x : Expr} {xs : List Expr} (hx : oddB x = false) (h : PE X x (tE X.K C (evE C e))) (h2 : PA X xs (tA X.K C (evEs C es))) : PA X (x :: xs) (tA X.K C (evEs C (.cons e es))) := by
  refine (pa_cons h h2 (star_cons hx)).imp fun σ H Q ⟨ρ, S, M, ds, S', hn, hρ, R, ev, P⟩ => ?_
  simp only [evEs] at ev
  obtain ⟨d, S1, e1, ev⟩ := bindR_ok ev
  obtain ⟨dr, S2, e2, ev⟩ := bindLL_ok ev
  cases ev
  refine ⟨ρ, S, M, d, S1, hn, hρ, R, e1, fun v H1 M1 s1 R1 u1 h1 => ⟨ρ, S1, M1, dr, S', Nat.le_trans hn s1.le, hρ.step R s1, R1, e2, fun vs H2 M2 s2 R2 u2 h2 => ?_⟩⟩
  refine P _ H2 M2 (Step.trans R1 s1 s2) R2 ?_ ?_
  · simp only [D.unds, Bool.and_eq_true]
    exact ⟨und_mono s2.le d u1, u2⟩
  · simp only [RDs]
    exact ⟨v, vs, rfl, RD.step R1 s2 d v u1 h1, h2⟩
theorem pa_none : PA X [] (tA X.K C (evEs C .nil)) := pa_nil.imp fun σ H Q ⟨ρ, S, M, ds, S', hn, hρ, R, ev, P⟩ => by
  simp only [evEs] at ev
  cases ev
  exact P [] H M .refl R (by simp [D.unds]) (by simp [RDs])
theorem an_1 {e : E} {x : Expr} {p : Pos} (h : PE X x (tE X.K C (evE C e))) (h2 : PT X x (tT X.K C (evE C e))) : PE X (.BoolOp .And [x] p) (tE X.K C (evAnd C (.cons e .nil))) ∧ PW X (.BoolOp .And [x] p) (tT X.K C (evAnd C (.cons e .nil))) := by
  refine ⟨(pe_one h).imp fun σ H Q ⟨ρ, S, M, d, S', hn, hρ, R, ev, P⟩ => ?_, ⟨fun wh pins s σ H Q I ⟨ρ, S, M, d, S', hn, hρ, R, ev, P⟩ => (pw_and1 h2).run wh pins s σ H Q I ?_⟩⟩
  · simp only [evAnd] at ev
    obtain ⟨x, S1, e1, ev⟩ := bind_ok ev
    cases ev
    exact ⟨ρ, S, M, d, S', hn, hρ, R, e1, P⟩
  · simp only [evAnd] at ev
    obtain ⟨x, S1, e1, ev⟩ := bind_ok ev
    cases ev
    exact ⟨ρ, S, M, d, S', hn, hρ, R, e1, P⟩
theorem an_2 {e e2 : E} {es : Es} {x x2 : Expr} {xs : List Expr} {p : Pos} (h : PE X x (tE X.K C (evE C e))) (h2 : PT X x (tT X.K C (evE C e)))
    (g : PE X (.BoolOp .And (x2 :: xs) p) (tE X.K C (evAnd C (.cons e2 es)))) (g2 : PW X (.BoolOp .And (x2 :: xs) p) (tT X.K C (evAnd C (.cons e2 es)))) :
    PE X (.BoolOp .And (x :: x2 :: xs) p) (tE X.K C (evAnd C (.cons e (.cons e2 es)))) ∧ PW X (.BoolOp .And (x :: x2 :: xs) p) (tT X.K C (evAnd C (.cons e (.cons e2 es)))) := by
  have un : ∀ ρ S d S', evAnd C (.cons e (.cons e2 es)) ρ S = .ok d S' → ∃ b S1, evE C e ρ S = .ok (.bl b) S1 ∧ ((b = true ∧ evAnd C (.cons e2 es) ρ S1 = .ok d S') ∨ (b = false ∧ d = .bl false ∧ S' = S1)) := fun ρ S d S' ev => by
    rw [evAnd] at ev
    obtain ⟨x, S1, e1, ev⟩ := bind_ok ev
    simp only at ev
    split at ev
    · exact ⟨true, S1, e1, .inl ⟨rfl, ev⟩⟩
    · cases ev
      exact ⟨false, _, e1, .inr ⟨rfl, rfl, rfl⟩⟩
    · cases ev
  refine ⟨(pe_and h g).imp fun σ H Q ⟨ρ, S, M, d, S', hn, hρ, R, ev, P⟩ => ?_, ⟨fun wh pins s σ H Q I ⟨ρ, S, M, d, S', hn, hρ, R, ev, P⟩ => (pw_and h2 g2).run wh pins s σ H Q I ?_⟩⟩
  · obtain ⟨b, S1, e1, hc⟩ := un ρ S d S' ev
    refine ⟨ρ, S, M, _, S1, hn, hρ, R, e1, fun v H1 M1 s1 R1 u1 h1 => ⟨b, by simpa [RD] using h1, ?_⟩⟩
    rcases hc with ⟨rfl, hc⟩ | ⟨rfl, rfl, rfl⟩
    · rw [if_pos rfl]
      exact ⟨ρ, S1, M1, d, S', Nat.le_trans hn s1.le, hρ.step R s1, R1, hc, P.after s1 R1⟩
    · rw [if_neg (by decide)]
      exact (P.after s1 R1).same R1 (by simp [D.und]) (by simp [RD])
  · obtain ⟨b, S1, e1, hc⟩ := un ρ S _ S' ev
    refine ⟨ρ, S, M, b, S1, hn, hρ, R, e1, fun v H1 M1 s1 R1 u1 h1 => ⟨b, by simpa [RD] using h1, ?_⟩⟩
    rcases hc with ⟨rfl, hc⟩ | ⟨rfl, hd, rfl⟩
    · show (if true = true then _ else _)
      rw [if_pos rfl]
      exact ⟨ρ, S1, M1, d, S', Nat.le_trans hn s1.le, hρ.step R s1, R1, hc, P.after s1 R1⟩
    · show (if false = true then _ else _)
      rw [if_neg (by decide)]
      cases hd
      obtain ⟨k, hk, q⟩ := (P.after s1 R1).same R1 (v := .bl false) (by simp [D.und]) (by simp [RD])
      cases hk
      exact q
theorem or_1 {e : E} {x : Expr} {p : Pos} (h : PE X x (tE X.K C (evE C e))) (h2 : PT X x (tT X.K C (evE C e))) : PE X (.BoolOp .Or [x] p) (tE X.K C (evOr C (.cons e .nil))) ∧ PW X (.BoolOp .Or [x] p) (tT X.K C (evOr C (.cons e .nil))) := by
  refine ⟨(pe_one h).imp fun σ H Q ⟨ρ, S, M, d, S', hn, hρ, R, ev, P⟩ => ?_, ⟨fun wh pins s σ H Q I ⟨ρ, S, M, d, S', hn, hρ, R, ev, P⟩ => (pw_or1 h2).run wh pins s σ H Q I ?_⟩⟩
  · simp only [evOr] at ev
    obtain ⟨x, S1, e1, ev⟩ := bind_ok ev
    cases ev
    exact ⟨ρ, S, M, d, S', hn, hρ, R, e1, P⟩
  · simp only [evOr] at ev
    obtain ⟨x, S1, e1, ev⟩ := bind_ok ev
    cases ev
    exact ⟨ρ, S, M, d, S', hn, hρ, R, e1, P⟩
theorem or_2 {e e2 : E} {es : Es} {x x2 : Expr} {xs : List Expr} {p : Pos} (h : PE X x (tE X.K C (evE C e))) (h2 : PT X x (tT X.K C (evE C e)))
    (g : PE X (.BoolOp .Or (x2 :: xs) p) (tE X.K C (evOr C (.cons e2 es)))) (g2 : PW X (.BoolOp .Or (x2 :: xs) p) (tT X.K C (evOr C (.cons e2 es)))) :
    PE X (.BoolOp .Or (x :: x2 :: xs) p) (tE X.K C (evOr C (.cons e (.cons e2 es)))) ∧ PW X (.BoolOp .Or (x :: x2 :: xs) p) (tT X.K C (evOr C (.cons e (.cons e2 es)))) := by
  have un : ∀ ρ S d S', evOr C (.cons e (.cons e2 es)) ρ S = .ok d S' → ∃ b S1, evE C e ρ S = .ok (.bl b) S1 ∧ ((b = false ∧ evOr C (.cons e2 es) ρ S1 = .ok d S') ∨ (b = true ∧ d = .bl true ∧ S' = S1)) := fun ρ S d S' ev => by
    rw [evOr] at ev
    obtain ⟨x, S1, e1, ev⟩ := bind_ok ev
    simp only at ev
    split at ev
    · exact ⟨false, S1, e1, .inl ⟨rfl, ev⟩⟩
    · cases ev
      exact ⟨true, _, e1, .inr ⟨rfl, rfl, rfl⟩⟩
    · cases ev
  refine ⟨(pe_or h g).imp fun σ H Q ⟨ρ, S, M, d, S', hn, hρ, R, ev, P⟩ => ?_, ⟨fun wh pins s σ H Q I ⟨ρ, S, M, d, S', hn, hρ, R, ev, P⟩ => (pw_or h2 g2).run wh pins s σ H Q I ?_⟩⟩
  · obtain ⟨b, S1, e1, hc⟩ := un ρ S d S' ev
    refine ⟨ρ, S, M, _, S1, hn, hρ, R, e1, fun v H1 M1 s1 R1 u1 h1 => ⟨b, by simpa [RD] using h1, ?_⟩⟩
    rcases hc with ⟨rfl, hc⟩ | ⟨rfl, rfl, rfl⟩
    · rw [if_neg (by decide)]
      exact ⟨ρ, S1, M1, d, S', Nat.le_trans hn s1.le, hρ.step R s1, R1, hc, P.after s1 R1⟩
    · rw [if_pos rfl]
      exact (P.after s1 R1).same R1 (by simp [D.und]) (by simp [RD])
  · obtain ⟨b, S1, e1, hc⟩ := un ρ S _ S' ev
    refine ⟨ρ, S, M, b, S1, hn, hρ, R, e1, fun v H1 M1 s1 R1 u1 h1 => ⟨b, by simpa [RD] using h1, ?_⟩⟩
    rcases hc with ⟨rfl, hc⟩ | ⟨rfl, hd, rfl⟩
    · show (if false = true then _ else _)
      rw [if_neg (by decide)]
      exact ⟨ρ, S1, M1, d, S', Nat.le_trans hn s1.le, hρ.step R s1, R1, hc, P.after s1 R1⟩
    · show (if true = true then _ else _)
      rw [if_pos rfl]
      cases hd
      obtain ⟨k, hk, q⟩ := (P.after s1 R1).same R1 (v := .bl true) (by simp [D.und]) (by simp [RD])
      cases hk
      exact q
/-- a value as a test, where the text is none of and, or, not, a comparison -/
theorem tv {e : E} {x : Expr} (h : PE X x (tE X.K C (evE C e))) (he : ∀ whole, isTrue x X.env whole = (do let v ← whole; standAt x.pos; holding [v] (truthy v))) : PE X x (tE X.K C (evE C e)) ∧ PT X x (tT X.K C (evE C e)) :=
  ⟨h, (pt_val h he).imp fun σ H Q q => tT_of q⟩
end
end Ev

set_option Elab.async false
set_option linter.all false
set_option autoImplicit false
set_option maxRecDepth 100000
set_option maxHeartbeats 8000000
/-! Ev13: all expressions keep to the evaluator. -/
namespace Ev
open PySem PySem.Spec PyProof.Rows L2 RT RZ

section
variable {T : Tb} {N : List Str} {C : Cf}
theorem s_iteT {X : Cx} {c a b : E} {y l r : Expr} {p : Pos} (hc : PT X y (tT X.K C (evE C c))) (ha : PT X l (tT X.K C (evE C a))) (hb : PT X r (tT X.K C (evE C b))) : PT X (.IfExp y l r p) (tT X.K C (evE C (.ite c a b))) := by
  refine ⟨fun pins s σ H Q I ⟨ρ, S, M, d, S', hn, hρ, R, e, P⟩ => ?_⟩
  simp only [evE] at e
  obtain ⟨x, S1, e1, e⟩ := bind_ok e
  have hk : ∃ k, x = .bl k ∧ (if k = true then evE C a ρ S1 else evE C b ρ S1) = .ok (.bl d) S' := by
    split at e
    · exact ⟨true, rfl, by rw [if_pos rfl]; exact e⟩
    · exact ⟨false, rfl, by rw [if_neg (by decide)]; exact e⟩
    · cases e
  obtain ⟨k, rfl, e'⟩ := hk
  refine isTrue_IfExp (thn (hc.run pins s σ H (fun j H1 => if j = true then tT X.K C (evE C a) σ H1 Q else tT X.K C (evE C b) σ H1 Q) I ⟨ρ, S, M, k, S1, hn, hρ, R, e1, fun v H1 M1 s1 R1 u1 h1 => ⟨k, by simpa [RD] using h1, ?_⟩⟩) fun j s1 ⟨H1, I1, q1⟩ => ?_)
  · cases k with
    | true =>
      rw [if_pos rfl] at e' ⊢
      exact ⟨ρ, S1, M1, d, S', Nat.le_trans hn s1.le, hρ.step R s1, R1, e', P.after s1 R1⟩
    | false =>
      rw [if_neg (by decide)] at e' ⊢
      exact ⟨ρ, S1, M1, d, S', Nat.le_trans hn s1.le, hρ.step R s1, R1, e', P.after s1 R1⟩
  · cases j with
    | true => exact ha.run pins s1 σ H1 Q I1 (by simpa using q1)
    | false => exact hb.run pins s1 σ H1 Q I1 (by simpa using q1)
mutual
theorem sE : ∀ (e : E) (sc : Scope) (x : Expr), mE T N sc e x = true → ∀ X : Cx, Gd T N C sc X → PE X x (tE X.K C (evE C e)) ∧ PT X x (tT X.K C (evE C e))
  | .var i, sc, x, h, X, G => by
    simp only [mE] at h
    split at h
    · rename_i y hy
      obtain ⟨p, rfl⟩ := vName_ok hy
      simp only [Bool.and_eq_true, decide_eq_true_eq] at h
      exact tv (s_var G h.1.1 h.1.2 h.2) fun _ => rfl
    · cases h
  | .glo g, sc, x, h, X, G => by
    simp only [mE] at h
    split at h
    · rename_i y hy
      obtain ⟨p, rfl⟩ := vName_ok hy
      simp only [Bool.and_eq_true, decide_eq_true_eq] at h
      exact tv (s_glo G h.1 h.2) fun _ => rfl
    · cases h
  | .cst d, sc, x, h, X, G => by
    simp only [mE] at h
    split at h
    · rename_i y hy
      obtain ⟨j, p, rfl⟩ := vConst_ok hy
      exact tv (s_cst h) fun _ => rfl
    · cases h
  | .tup es, sc, x, h, X, G => by
    simp only [mE] at h
    split at h
    · rename_i y hy
      obtain ⟨j, p, rfl⟩ := vTup_ok hy
      exact tv (s_tup (sEs es sc _ h X G)) fun _ => rfl
    · cases h
  | .lst es, sc, x, h, X, G => by
    simp only [mE] at h
    split at h
    · rename_i y hy
      obtain ⟨p, rfl⟩ := vLst_ok hy
      exact tv (s_lst (sEs es sc _ h X G)) fun _ => rfl
    · cases h
  | .dic es, sc, x, h, X, G => by
    simp only [mE] at h
    cases h
  | .bin o a b, sc, x, h, X, G => by
    simp only [mE] at h
    split at h
    · rename_i l q r hy
      obtain ⟨p, rfl⟩ := vBin_ok hy
      simp only [Bool.and_eq_true] at h
      have e := bopB_ok h.1.1
      subst e
      exact tv (s_bin (sE a sc l h.1.2 X G).1 (sE b sc r h.2 X G).1) fun _ => rfl
    · cases h
  | .neg a, sc, x, h, X, G => by
    simp only [mE] at h
    split at h
    · rename_i q y hy
      obtain ⟨p, rfl⟩ := vUn_ok hy
      split at h
      · exact tv (s_neg (sE a sc y h X G).1) fun _ => rfl
      · cases h
    · cases h
  | .not a, sc, x, h, X, G => by
    simp only [mE] at h
    split at h
    · rename_i q y hy
      obtain ⟨p, rfl⟩ := vUn_ok hy
      split at h
      · exact s_not (sE a sc y h X G).1 (sE a sc y h X G).2
      · cases h
    · cases h
  | .and es, sc, x, h, X, G => by
    simp only [mE] at h
    split at h
    · rename_i q ys hy
      obtain ⟨p, rfl⟩ := vBool_ok hy
      split at h
      · simp only [Bool.and_eq_true, Bool.not_eq_true', List.isEmpty_eq_false_iff] at h
        have q := sAnd es sc ys p h.1 h.2 X G
        exact ⟨q.1.imp fun σ H Q z => by simpa only [tE, evE] using z, q.2.pt.imp fun σ H Q z => by simpa only [tT, evE] using z⟩
      · cases h
    · cases h
  | .or es, sc, x, h, X, G => by
    simp only [mE] at h
    split at h
    · rename_i q ys hy
      obtain ⟨p, rfl⟩ := vBool_ok hy
      split at h
      · simp only [Bool.and_eq_true, Bool.not_eq_true', List.isEmpty_eq_false_iff] at h
        have q := sOr es sc ys p h.1 h.2 X G
        exact ⟨q.1.imp fun σ H Q z => by simpa only [tE, evE] using z, q.2.pt.imp fun σ H Q z => by simpa only [tT, evE] using z⟩
      · cases h
    · cases h
  | .cmp o a b, sc, x, h, X, G => by
    simp only [mE] at h
    split at h
    · rename_i l os rs hy
      obtain ⟨p, rfl⟩ := vCmp_ok hy
      split at h
      · rename_i q r
        simp only [Bool.and_eq_true] at h
        have e := copB_ok h.1.1
        subst e
        exact s_cmp G.units (sE a sc l h.1.2 X G).1 (sE b sc r h.2 X G).1 (odd_of b r h.2)
      · cases h
    · cases h
  | .isc o a, sc, x, h, X, G => by
    simp only [mE] at h
    split at h
    · rename_i l os rs hy
      obtain ⟨p, rfl⟩ := vCmp_ok hy
      split at h
      · rename_i q r
        split at h
        · rename_i c hc
          obtain ⟨j, p2, rfl⟩ := vConst_ok hc
          simp only [Bool.and_eq_true] at h
          obtain ⟨rfl, rfl⟩ := isB_ok h.1
          exact s_isc (sE a sc l h.2 X G).1
        · cases h
      · cases h
    · cases h
  | .chn o q a b c, sc, x, h, X, G => by
    simp only [mE] at h
    split at h
    · rename_i l os rs hy
      obtain ⟨p, rfl⟩ := vCmp_ok hy
      split at h
      · rename_i q1 q2 r1 r2
        simp only [Bool.and_eq_true] at h
        have e := copB_ok h.1.1.1.1
        have e2 := copB_ok h.1.1.1.2
        subst e e2
        exact s_chn G.units (sE a sc l h.1.1.2 X G).1 (sE b sc r1 h.1.2 X G).1 (sE c sc r2 h.2 X G).1 (odd_of b r1 h.1.2) (odd_of c r2 h.2)
      · cases h
    · cases h
  | .ite c a b, sc, x, h, X, G => by
    simp only [mE] at h
    split at h
    · rename_i y l r hy
      obtain ⟨p, rfl⟩ := vIf_ok hy
      simp only [Bool.and_eq_true] at h
      exact ⟨s_ite (sE c sc y h.1.1 X G).2 (sE a sc l h.1.2 X G).1 (sE b sc r h.2 X G).1, s_iteT (sE c sc y h.1.1 X G).2 (sE a sc l h.1.2 X G).2 (sE b sc r h.2 X G).2⟩
    · cases h
  | .idx a i, sc, x, h, X, G => by
    simp only [mE] at h
    split at h
    · rename_i l r hy
      obtain ⟨p, rfl⟩ := vSub_ok hy
      simp only [Bool.and_eq_true] at h
      exact tv (s_idx (sE a sc l h.1 X G).1 (sE i sc r h.2 X G).1 (odd_of i r h.2)) fun _ => rfl
    · cases h
  | .sli a lo hi, sc, x, h, X, G => by
    simp only [mE] at h
    split at h
    · rename_i l r hy
      obtain ⟨p, rfl⟩ := vSub_ok hy
      simp only [Bool.and_eq_true] at h
      obtain ⟨h1, h2⟩ := h
      split at h2
      · rename_i u v w hv
        obtain ⟨p2, rfl⟩ := vSli_ok hv
        simp only [Bool.and_eq_true] at h2
        obtain ⟨⟨h3, h4⟩, h5⟩ := h2
        have hw : w = none := by
          cases w with
          | none => rfl
          | some _ => cases h3
        subst hw
        have hl : PO X u (tP X.K C lo) := by
          unfold tP
          cases u with
          | none => rw [if_pos h4]; exact po_none
          | some y =>
            simp only [Bool.and_eq_true, Bool.not_eq_true'] at h4
            rw [if_neg (by rw [h4.1]; decide)]
            exact po_some (sE lo sc y h4.2 X G).1
        have hh : PO X v (tP X.K C hi) := by
          unfold tP
          cases v with
          | none => rw [if_pos h5]; exact po_none
          | some y =>
            simp only [Bool.and_eq_true, Bool.not_eq_true'] at h5
            rw [if_neg (by rw [h5.1]; decide)]
            exact po_some (sE hi sc y h5.2 X G).1
        exact tv (s_sli (sE a sc l h1 X G).1 hl hh) fun _ => rfl
      · cases h2
    · cases h
  | .rev a, sc, x, h, X, G => by
    simp only [mE] at h
    split at h
    · rename_i l r hy
      obtain ⟨p, rfl⟩ := vSub_ok hy
      simp only [Bool.and_eq_true] at h
      obtain ⟨h1, h2⟩ := h
      split at h2
      · rename_i w hv
        obtain ⟨p2, rfl⟩ := vSli_ok hv
        split at h2
        · rename_i q y hq
          obtain ⟨p3, rfl⟩ := vUn_ok hq
          split at h2
          · obtain ⟨j, p4, rfl⟩ := vConst_ok (of_decide_eq_true h2)
            exact tv (s_rev (sE a sc l h1 X G).1) fun _ => rfl
          · cases h2
        · cases h2
      · cases h2
    · cases h
  | .lrg a, sc, x, h, X, G => by
    simp only [mE] at h
    split at h
    · rename_i g ys hy
      obtain ⟨p, rfl, _⟩ := vCall_ok hy
      simp only [Bool.and_eq_true, decide_eq_true_eq] at h
      obtain ⟨⟨h1, h2⟩, h3⟩ := h
      obtain ⟨p2, rfl⟩ := vName_ok h1
      split at h3
      · rename_i c
        split at h3
        · rename_i g2 zs hz
          obtain ⟨p3, rfl, _⟩ := vCall_ok hz
          simp only [Bool.and_eq_true, decide_eq_true_eq] at h3
          obtain ⟨⟨h4, h5⟩, h6⟩ := h3
          obtain ⟨p4, rfl⟩ := vName_ok h4
          split at h6
          · exact tv (s_lrg G h2 h5 (odd_of a _ h6) (sE a sc _ h6 X G).1) fun _ => rfl
          · cases h6
        · cases h3
      · cases h3
    · cases h
  | .cdx kvs i, sc, x, h, X, G => by
    simp only [mE] at h
    split at h
    · rename_i l r hy
      obtain ⟨p, rfl⟩ := vSub_ok hy
      split at h
      · rename_i ks vs hd
        obtain ⟨p2, rfl⟩ := vDic_ok hd
        simp only [Bool.and_eq_true] at h
        exact tv (s_cdx G h.1 (odd_of i r h.2) (sE i sc r h.2 X G).1) fun _ => rfl
      · cases h
    · cases h
  | .call f es, sc, x, h, X, G => by
    simp only [mE] at h
    split at h
    · rename_i g ys hy
      obtain ⟨p, rfl, _⟩ := vCall_ok hy
      split at h
      · rename_i y hg
        obtain ⟨p2, rfl⟩ := vName_ok hg
        simp only [Bool.and_eq_true, decide_eq_true_eq] at h
        exact tv (s_call G h.1.1 h.1.2 h.2 (sEs es sc ys h.2 X G)) fun _ => rfl
      · cases h
    · cases h
  | .blt b es, sc, x, h, X, G => by
    simp only [mE] at h
    split at h
    · rename_i g ys hy
      obtain ⟨p, rfl, _⟩ := vCall_ok hy
      split at h
      · rename_i y hg
        obtain ⟨p2, rfl⟩ := vName_ok hg
        simp only [Bool.and_eq_true] at h
        obtain ⟨hgl, h⟩ := h
        split at h
        · rename_i t
          simp only [Bool.and_eq_true, decide_eq_true_eq] at h
          obtain ⟨rfl, h⟩ := h
          split at h
          · rename_i z z2
            simp only [Bool.and_eq_true] at h
            obtain ⟨h1, h2⟩ := h
            split at h2
            · rename_i w hw
              obtain ⟨p3, rfl⟩ := vName_ok hw
              simp only [Bool.and_eq_true, decide_eq_true_eq] at h2
              obtain ⟨rfl, h2⟩ := h2
              exact tv (s_isi G hgl h2 (odd_of _ _ h1) (sE _ sc _ h1 X G).1) fun _ => rfl
            · cases h2
          · cases h
        · simp only [Bool.and_eq_true, decide_eq_true_eq, Bool.not_eq_true'] at h
          obtain ⟨⟨⟨rfl, h1⟩, h2⟩, h3⟩ := h
          exact tv (s_gcd G h1 hgl h2 h3 (sEs es sc ys h3 X G)) fun _ => rfl
        · simp only [Bool.and_eq_true, decide_eq_true_eq, Bool.not_eq_true'] at h
          exact tv (s_blt G h.1.1 hgl h.1.2 h.2 (sEs es sc ys h.2 X G)) fun _ => rfl
      · cases h
    · cases h
  | .mth m o es, sc, x, h, X, G => by
    simp only [mE] at h
    split at h
    · rename_i g ys hy
      obtain ⟨p, rfl, hl⟩ := vCall_ok hy
      split at h
      · rename_i z y n hg
        obtain ⟨p2, rfl, hn⟩ := vAttr_ok hg
        simp only [Bool.and_eq_true, decide_eq_true_eq] at h
        obtain ⟨⟨⟨⟨⟨⟨h1, h2⟩, rfl⟩, h4⟩, h5⟩, h6⟩, h7⟩ := h
        exact tv (s_mth G h1 h2 (by rw [hn, h4, hl]) h6 h7 (sE o sc z h5 X G).1 (sEs es sc ys h6 X G)) fun _ => rfl
      · cases h
    · cases h
  | .lc own one tg it c e, sc, x, h, X, G => by
    simp only [mE] at h
    split at h
    · rename_i el t i cs s hy
      obtain ⟨p, rfl⟩ := vLc_ok hy
      simp only [Bool.and_eq_true, decide_eq_true_eq] at h
      obtain ⟨⟨⟨⟨⟨⟨⟨h1, h2⟩, h3⟩, h4⟩, h5⟩, h6⟩, h7⟩, h8⟩ := h
      have hp : it.pairs = true → ∃ es k p, t = .Tuple es k p := fun z => by
        rw [z] at h1
        cases one with
        | true => cases h1
        | false =>
          simp only [mTg, Bool.false_eq_true, if_false] at h3
          split at h3
          · rename_i es hv
            obtain ⟨j, p, rfl⟩ := vTup_ok hv
            exact ⟨_, _, _, rfl⟩
          · cases h3
      refine tv (s_lc G h2 h7 h3 (fun j hj => of_decide_eq_true (List.all_eq_true.mp h8 j hj)) (it_odd it i h4) (sIt it sc i t h4 hp X G) ?_ ?_) fun _ => rfl
      · split at h5
        · exact .inl ⟨rfl, h5⟩
        · rename_i y
          exact .inr ⟨y, rfl, fun Y GY _ => (sE c _ y h5 Y GY).2⟩
        · cases h5
      · exact fun Y GY _ => (sE e _ el h6 Y GY).1
    · cases h
  | .dc _ _ _ _ _ _ _, sc, x, h, X, G => by
    simp only [mE] at h
    cases h
  | .tdy e, sc, x, h, X, G => by
    simp only [mE] at h
    exact s_tdy (sE e sc x h X G).1 (sE e sc x h X G).2
theorem sEs : ∀ (es : Es) (sc : Scope) (xs : List Expr), mEs T N sc es xs = true → ∀ X : Cx, Gd T N C sc X → PA X xs (tA X.K C (evEs C es))
  | .nil, sc, [], h, X, G => pa_none
  | .nil, sc, _ :: _, h, X, G => by simp [mEs] at h
  | .cons _ _, sc, [], h, X, G => by simp [mEs] at h
  | .cons e es, sc, x :: xs, h, X, G => by
    simp only [mEs, Bool.and_eq_true] at h
    exact pa_all (odd_of e x h.1) (sE e sc x h.1 X G).1 (sEs es sc xs h.2 X G)
theorem sAnd : ∀ (es : Es) (sc : Scope) (xs : List Expr) (p : Pos), xs ≠ [] → mEs T N sc es xs = true → ∀ X : Cx, Gd T N C sc X → PE X (.BoolOp .And xs p) (tE X.K C (evAnd C es)) ∧ PW X (.BoolOp .And xs p) (tT X.K C (evAnd C es))
  | .nil, sc, [], p, h0, h, X, G => absurd rfl h0
  | .nil, sc, _ :: _, p, h0, h, X, G => by simp [mEs] at h
  | .cons _ _, sc, [], p, h0, h, X, G => absurd rfl h0
  | .cons e .nil, sc, [x], p, h0, h, X, G => by
    simp only [mEs, Bool.and_eq_true] at h
    exact an_1 (sE e sc x h.1 X G).1 (sE e sc x h.1 X G).2
  | .cons e .nil, sc, x :: _ :: _, p, h0, h, X, G => by simp [mEs] at h
  | .cons e (.cons _ _), sc, [x], p, h0, h, X, G => by simp [mEs] at h
  | .cons e (.cons e2 es), sc, x :: x2 :: xs, p, h0, h, X, G => by
    rw [mEs, Bool.and_eq_true] at h
    have q := sAnd (.cons e2 es) sc (x2 :: xs) p (by simp) h.2 X G
    exact an_2 (sE e sc x h.1 X G).1 (sE e sc x h.1 X G).2 q.1 q.2
theorem sOr : ∀ (es : Es) (sc : Scope) (xs : List Expr) (p : Pos), xs ≠ [] → mEs T N sc es xs = true → ∀ X : Cx, Gd T N C sc X → PE X (.BoolOp .Or xs p) (tE X.K C (evOr C es)) ∧ PW X (.BoolOp .Or xs p) (tT X.K C (evOr C es))
  | .nil, sc, [], p, h0, h, X, G => absurd rfl h0
  | .nil, sc, _ :: _, p, h0, h, X, G => by simp [mEs] at h
  | .cons _ _, sc, [], p, h0, h, X, G => absurd rfl h0
  | .cons e .nil, sc, [x], p, h0, h, X, G => by
    simp only [mEs, Bool.and_eq_true] at h
    exact or_1 (sE e sc x h.1 X G).1 (sE e sc x h.1 X G).2
  | .cons e .nil, sc, x :: _ :: _, p, h0, h, X, G => by simp [mEs] at h
  | .cons e (.cons _ _), sc, [x], p, h0, h, X, G => by simp [mEs] at h
  | .cons e (.cons e2 es), sc, x :: x2 :: xs, p, h0, h, X, G => by
    rw [mEs, Bool.and_eq_true] at h
    have q := sOr (.cons e2 es) sc (x2 :: xs) p (by simp) h.2 X G
    exact or_2 (sE e sc x h.1 X G).1 (sE e sc x h.1 X G).2 q.1 q.2
theorem sIt : ∀ (it : It) (sc : Scope) (x tg : Expr), mIt T N sc it x = true → (it.pairs = true → ∃ es k p, tg = .Tuple es k p) → ∀ X : Cx, Gd T N C sc X → PI X tg x (tI X.K C (evIt C it))
  | .seq e, sc, x, tg, h, hp, X, G => by
    simp only [mIt] at h
    exact i_seq (sE e sc x h X G).1
  | .fsh e, sc, x, tg, h, hp, X, G => by
    simp only [mIt] at h
    exact i_fsh (sE e sc x h X G).1
  | .rng1 a, sc, x, tg, h, hp, X, G => by
    simp only [mIt] at h
    split at h
    · rename_i g ys hy
      obtain ⟨p, rfl, _⟩ := vCall_ok hy
      simp only [Bool.and_eq_true, decide_eq_true_eq] at h
      obtain ⟨⟨h1, h2⟩, h3⟩ := h
      obtain ⟨p2, rfl⟩ := vName_ok h1
      split at h3
      · exact i_rng1 G h2 (odd_of a _ h3) (sE a sc _ h3 X G).1
      · cases h3
    · cases h
  | .rng2 a b, sc, x, tg, h, hp, X, G => by
    simp only [mIt] at h
    split at h
    · rename_i g ys hy
      obtain ⟨p, rfl, _⟩ := vCall_ok hy
      simp only [Bool.and_eq_true, decide_eq_true_eq] at h
      obtain ⟨⟨h1, h2⟩, h3⟩ := h
      obtain ⟨p2, rfl⟩ := vName_ok h1
      split at h3
      · simp only [Bool.and_eq_true] at h3
        exact i_rng2 G h2 (odd_of a _ h3.1) (odd_of b _ h3.2) (sE a sc _ h3.1 X G).1 (sE b sc _ h3.2 X G).1
      · cases h3
    · cases h
  | .rng3 a b c, sc, x, tg, h, hp, X, G => by
    simp only [mIt] at h
    split at h
    · rename_i g ys hy
      obtain ⟨p, rfl, _⟩ := vCall_ok hy
      simp only [Bool.and_eq_true, decide_eq_true_eq] at h
      obtain ⟨⟨h1, h2⟩, h3⟩ := h
      obtain ⟨p2, rfl⟩ := vName_ok h1
      split at h3
      · simp only [Bool.and_eq_true] at h3
        exact i_rng3 G h2 (odd_of a _ h3.1.1) (odd_of b _ h3.1.2) (odd_of c _ h3.2) (sE a sc _ h3.1.1 X G).1 (sE b sc _ h3.1.2 X G).1 (sE c sc _ h3.2 X G).1
      · cases h3
    · cases h
  | .enm e, sc, x, tg, h, hp, X, G => by
    simp only [mIt] at h
    split at h
    · rename_i g ys hy
      obtain ⟨p, rfl, _⟩ := vCall_ok hy
      simp only [Bool.and_eq_true, decide_eq_true_eq] at h
      obtain ⟨⟨h1, h2⟩, h3⟩ := h
      obtain ⟨p2, rfl⟩ := vName_ok h1
      obtain ⟨es, k, tp, rfl⟩ := hp rfl
      split at h3
      · exact i_enm G h2 (odd_of e _ h3) (sE e sc _ h3 X G).1
      · cases h3
    · cases h
  | .zip a b, sc, x, tg, h, hp, X, G => by
    simp only [mIt] at h
    split at h
    · rename_i g ys hy
      obtain ⟨p, rfl, _⟩ := vCall_ok hy
      simp only [Bool.and_eq_true, decide_eq_true_eq] at h
      obtain ⟨⟨h1, h2⟩, h3⟩ := h
      obtain ⟨p2, rfl⟩ := vName_ok h1
      obtain ⟨es, k, tp, rfl⟩ := hp rfl
      split at h3
      · simp only [Bool.and_eq_true] at h3
        exact i_zip G h2 (odd_of a _ h3.1) (odd_of b _ h3.2) (sE a sc _ h3.1 X G).1 (sE b sc _ h3.2 X G).1
      · cases h3
    · cases h
  | .rvd e, sc, x, tg, h, hp, X, G => by
    simp only [mIt] at h
    split at h
    · rename_i g ys hy
      obtain ⟨p, rfl, _⟩ := vCall_ok hy
      simp only [Bool.and_eq_true, decide_eq_true_eq] at h
      obtain ⟨⟨h1, h2⟩, h3⟩ := h
      obtain ⟨p2, rfl⟩ := vName_ok h1
      split at h3
      · exact i_rvd G h2 (odd_of e _ h3) (sE e sc _ h3 X G).1
      · cases h3
    · cases h
  | .zip3 _ _ _, sc, x, tg, h, hp, X, G => by
    simp only [mIt] at h
    cases h
  | .itm _, sc, x, tg, h, hp, X, G => by
    simp only [mIt] at h
    cases h
end
/-- a comprehension's text: what its rules ask -/
theorem lc_of : ∀ (e : E) (sc : Scope) (el : Expr) (gs : List Comprehension) (s : Scope) (p : Pos), mE T N sc e (.ListComp el gs s p) = true → ∀ X : Cx, Gd T N C sc X → ∃ t i cs, gs = [⟨t, i, cs, 0⟩] ∧ LcOk X el t i cs s (tE X.K C (evE C e)) := by
  intro e
  induction e using E.rec (motive_2 := fun _ => True) (motive_3 := fun _ => True) with
  | tdy e ih =>
    intro sc el gs s p h X G
    simp only [mE] at h
    obtain ⟨t, i, cs, hg, L⟩ := ih sc el gs s p h X G
    exact ⟨t, i, cs, hg, L.weak fun σ H Q q => tdy_rd q⟩
  | lc own one tg it c e _ _ _ =>
    intro sc el gs s p h X G
    simp only [mE] at h
    split at h
    · rename_i el' t i cs s' hy
      obtain ⟨p, hq⟩ := vLc_ok hy
      cases hq
      simp only [Bool.and_eq_true, decide_eq_true_eq] at h
      obtain ⟨⟨⟨⟨⟨⟨⟨h1, h2⟩, h3⟩, h4⟩, h5⟩, h6⟩, h7⟩, h8⟩ := h
      have hp : it.pairs = true → ∃ es k p, t = .Tuple es k p := fun z => by
        rw [z] at h1
        cases one with
        | true => cases h1
        | false =>
          simp only [mTg, Bool.false_eq_true, if_false] at h3
          split at h3
          · rename_i es hv
            obtain ⟨j, p, rfl⟩ := vTup_ok hv
            exact ⟨_, _, _, rfl⟩
          · cases h3
      refine ⟨t, i, cs, rfl, lc_parts G h2 h7 h3 (fun j hj => of_decide_eq_true (List.all_eq_true.mp h8 j hj)) (it_odd it i h4) (sIt it sc i t h4 hp X G) ?_ ?_⟩
      · split at h5
        · exact .inl ⟨rfl, h5⟩
        · rename_i y
          exact .inr ⟨y, rfl, fun Y GY _ => (sE c _ y h5 Y GY).2⟩
        · cases h5
      · exact fun Y GY _ => (sE e _ _ h6 Y GY).1
    · cases h
  | _ => first | trivial | (intros; first | trivial | (rename_i h _ _; simp [mE, vName, vConst, vTup, vLst, vDic, vBin, vUn, vBool, vCmp, vIf, vSub, vCall] at h))
end
end Ev

set_option Elab.async false
set_option linter.all false
set_option autoImplicit false
set_option maxRecDepth 100000
set_option maxHeartbeats 4000000
/-! Ev14: statements. -/
namespace Ev
open PySem PySem.Spec PyProof.Rows L2 RT RZ

/-! ### looks at the text -/
def vAsg : Stmt → Option (Expr × Expr)
  | .Assign [t] e _ => some (t, e)
  | _ => none
def vExp : Stmt → Option Expr
  | .Expr e _ => some e
  | _ => none
def vRet : Stmt → Option (Option Expr)
  | .Return e _ => some e
  | _ => none
def vIfS : Stmt → Option (Expr × List Stmt × List Stmt)
  | .If c a b _ => some (c, a, b)
  | _ => none
def vFor : Stmt → Option (Expr × Expr × List Stmt)
  | .For t i b [] _ => some (t, i, b)
  | _ => none
def vWhl : Stmt → Option (Expr × List Stmt)
  | .While c b [] _ => some (c, b)
  | _ => none
def vPlain : Stmt → Nat
  | .Break _ => 1
  | .Continue _ => 2
  | .Pass _ => 3
  | .Expr (.Constant (.str _) _ _) _ => 4
  | _ => 0
section
variable {x : Stmt}
theorem vAsg_ok {t e} (h : vAsg x = some (t, e)) : ∃ p, x = .Assign [t] e p := by
  cases x with
  | Assign ts e' p =>
    match ts with
    | [] => simp [vAsg] at h
    | [t'] => simp [vAsg] at h; obtain ⟨rfl, rfl⟩ := h; exact ⟨p, rfl⟩
    | _ :: _ :: _ => simp [vAsg] at h
  | _ => simp [vAsg] at h
theorem vExp_ok {e} (h : vExp x = some e) : ∃ p, x = .Expr e p := by cases x <;> simp [vExp] at h; subst h; exact ⟨_, rfl⟩
theorem vRet_ok {e} (h : vRet x = some e) : ∃ p, x = .Return e p := by cases x <;> simp [vRet] at h; subst h; exact ⟨_, rfl⟩
theorem vIfS_ok {c a b} (h : vIfS x = some (c, a, b)) : ∃ p, x = .If c a b p := by cases x <;> simp [vIfS] at h; obtain ⟨rfl, rfl, rfl⟩ := h; exact ⟨_, rfl⟩
theorem vFor_ok {c a b} (h : vFor x = some (c, a, b)) : ∃ p, x = .For c a b [] p := by
  cases x with
  | For t i b o p =>
    cases o with
    | nil => simp [vFor] at h; obtain ⟨rfl, rfl, rfl⟩ := h; exact ⟨_, rfl⟩
    | cons _ _ => simp [vFor] at h
  | _ => simp [vFor] at h
theorem vWhl_ok {c a} (h : vWhl x = some (c, a)) : ∃ p, x = .While c a [] p := by
  cases x with
  | While t b o p =>
    cases o with
    | nil => simp [vWhl] at h; obtain ⟨rfl, rfl⟩ := h; exact ⟨_, rfl⟩
    | cons _ _ => simp [vWhl] at h
  | _ => simp [vWhl] at h
end
def lcB : Expr → Bool
  | .ListComp _ _ _ _ => true
  | _ => false
def starB : Expr → Bool
  | .Starred _ _ => true
  | _ => false
def nameAt (sc : Scope) (line : Nat) : Expr → Option Str
  | .Name id pos => if (sc.names.lookup id == some .local && pos.line == line) = true then some id else none
  | _ => none
def swapped (sc : Scope) (ts vs : List Expr) : Option (Option (List Str)) :=
  if (!(ts.length == 2 || ts.length == 3) || vs.length != ts.length) = true then some none else
  if vs.any starB = true then some none else
  if ((ts.filterMap (nameAt sc ((ts.head?.map (·.pos.line)).getD 0))).length != ts.length || (ts.filterMap (nameAt sc ((ts.head?.map (·.pos.line)).getD 0))).eraseDups.length != (ts.filterMap (nameAt sc ((ts.head?.map (·.pos.line)).getD 0))).length) = true then some none else
  if (vs.all (foldedForSure 8)) = true then some none else
  if (vs.all (constantsAlone 8)) = true then none else some (some (ts.filterMap (nameAt sc ((ts.head?.map (·.pos.line)).getD 0))))
theorem swapped_ok {env : PySem.Env} {ts vs : List Expr} {k k2 : Nat} {p p2 : Pos} {r : Option (List Str)} (hk : env.scope.kind = .function) (h : swapped env.scope ts vs = some r) : swappedStores [.Tuple ts k p] (.Tuple vs k2 p2) env = pure r := by
  have hb : env.blockKind = .function := by unfold Env.blockKind; rw [hk]; rfl
  have gen : ∀ (F : Expr → Bool) (Gf : Expr → Option Str), (∀ x, F x = starB x) → (∀ x, Gf x = nameAt env.scope ((ts.head?.map (·.pos.line)).getD 0) x) → (if (!(ts.length == 2 || ts.length == 3) || vs.length != ts.length || env.blockKind != .function) = true then pure none else
    if vs.any F = true then pure none else
    if ((ts.filterMap (Gf)).length != ts.length || (ts.filterMap (Gf)).eraseDups.length != (ts.filterMap (Gf)).length) = true then pure none else
    if (vs.all (foldedForSure 8)) = true then pure none else
    if (vs.all (constantsAlone 8)) = true then (do unsupported "assign.tuple-of-constant-expressions:order-of-the-stores"; pure (some (ts.filterMap (Gf)))) else pure (some (ts.filterMap (Gf))) : Sem (Option (List Str))) = (if (!(ts.length == 2 || ts.length == 3) || vs.length != ts.length || env.blockKind != .function) = true then pure none else
    if vs.any starB = true then pure none else
    if ((ts.filterMap (nameAt env.scope ((ts.head?.map (·.pos.line)).getD 0))).length != ts.length || (ts.filterMap (nameAt env.scope ((ts.head?.map (·.pos.line)).getD 0))).eraseDups.length != (ts.filterMap (nameAt env.scope ((ts.head?.map (·.pos.line)).getD 0))).length) = true then pure none else
    if (vs.all (foldedForSure 8)) = true then pure none else
    if (vs.all (constantsAlone 8)) = true then (do unsupported "assign.tuple-of-constant-expressions:order-of-the-stores"; pure (some (ts.filterMap (nameAt env.scope ((ts.head?.map (·.pos.line)).getD 0))))) else pure (some (ts.filterMap (nameAt env.scope ((ts.head?.map (·.pos.line)).getD 0)))) : Sem (Option (List Str))) := fun F Gf h1 h2 => by
    rw [funext h1, funext h2]
  have key : swappedStores [.Tuple ts k p] (.Tuple vs k2 p2) env = (if (!(ts.length == 2 || ts.length == 3) || vs.length != ts.length || env.blockKind != .function) = true then pure none else
    if vs.any starB = true then pure none else
    if ((ts.filterMap (nameAt env.scope ((ts.head?.map (·.pos.line)).getD 0))).length != ts.length || (ts.filterMap (nameAt env.scope ((ts.head?.map (·.pos.line)).getD 0))).eraseDups.length != (ts.filterMap (nameAt env.scope ((ts.head?.map (·.pos.line)).getD 0))).length) = true then pure none else
    if (vs.all (foldedForSure 8)) = true then pure none else
    if (vs.all (constantsAlone 8)) = true then (do unsupported "assign.tuple-of-constant-expressions:order-of-the-stores"; pure (some (ts.filterMap (nameAt env.scope ((ts.head?.map (·.pos.line)).getD 0))))) else pure (some (ts.filterMap (nameAt env.scope ((ts.head?.map (·.pos.line)).getD 0)))) : Sem (Option (List Str))) := by
    unfold swappedStores
    dsimp only
    exact gen _ _ (fun x => by cases x <;> rfl) (fun x => by cases x <;> rfl)
  rw [key]
  unfold swapped at h
  rw [hb]
  split at h
  · rename_i c
    cases h
    rw [if_pos (by simpa using c)]
  · rename_i c
    rw [if_neg (by simpa using c)]
    split at h
    · rename_i c
      cases h
      rw [if_pos c]
    · rename_i c
      rw [if_neg c]
      split at h
      · rename_i c
        cases h
        rw [if_pos c]
      · rename_i c
        rw [if_neg c]
        split at h
        · rename_i c
          cases h
          rw [if_pos c]
        · rename_i c
          rw [if_neg c]
          split at h
          · cases h
          · rename_i c
            cases h
            rw [if_neg c]
theorem swap_other {env : PySem.Env} {ts : List Expr} {k : Nat} {p : Pos} {e : Expr} (h : vTup e = none) : swappedStores [.Tuple ts k p] e env = pure none := by
  cases e <;> first | rfl | (simp [vTup] at h)
theorem swap_sub {env : PySem.Env} {a b e : Expr} {p : Pos} : swappedStores [.Subscript a b p] e env = pure none := rfl

/-- targets and values of a tuple stored from the right: names of the block, all different -/
def mPar (N : List Str) (sc : Scope) (is : List Nat) (ts : List Expr) : Bool := match is, ts with
  | [i, j], [a, b] => (match vName a, vName b with
    | some x, some y => decide (N[i]? = some x) && decide (N[j]? = some y) && decide (i ≠ j) && decide (sc.names.lookup x = some .local) && decide (sc.names.lookup y = some .local)
    | _, _ => false)
  | [i, j, l], [a, b, c] => (match vName a, vName b, vName c with
    | some x, some y, some z => decide (N[i]? = some x) && decide (N[j]? = some y) && decide (N[l]? = some z) && decide (i ≠ j) && decide (i ≠ l) && decide (j ≠ l) && decide (sc.names.lookup x = some .local) && decide (sc.names.lookup y = some .local) && decide (sc.names.lookup z = some .local)
    | _, _, _ => false)
  | _, _ => false
mutual
def mS (T : Tb) (N : List Str) (sc : Scope) : Ev.St → Stmt → Bool
  | .asg i e, x => (match vAsg x with
    | some (t, v) => (match vName t with
      | some y => decide (N[i]? = some y) && locB sc y && mE T N sc e v
      | none => false)
    | none => false)
  | .asgs is e, x => (match vAsg x with
    | some (t, v) => (match vTup t with
      | some ts => (match vTup v with
        | none => mNames N sc is ts && mE T N sc e v
        | some vs => (match swapped sc ts vs with
          | none => false
          | some none => mNames N sc is ts && mE T N sc e v
          | some (some _) => mPar N sc is ts && (match e with
            | .tup es => mEs T N sc es vs
            | _ => false)))
      | none => false)
    | none => false)
  | .sub o i e, x => (match vAsg x with
    | some (t, v) => (match vSub t with
      | some (a, b) => mE T N sc o a && mE T N sc i b && mE T N sc e v
      | none => false)
    | none => false)
  | .exp e, x => (match vExp x with
    | some v => !lcB v && mE T N sc e v
    | none => false)
  | .ret e, x => (match vRet x with
    | some (some v) => mE T N sc e v
    | _ => false)
  | .retN, x => (match vRet x with
    | some none => true
    | _ => false)
  | .ite c a b, x => (match vIfS x with
    | some (y, l, r) => mE T N sc c y && mSs T N sc a l && mSs T N sc b r
    | none => false)
  | .for_ one tg it ks body, x => (match vFor x with
    | some (t, i, b) => (!it.pairs || !one) && mTg N sc one tg t && mIt T N sc it i && mSs T N sc body b
    | none => false)
  | .whl c ks body, x => (match vWhl x with
    | some (y, b) => mE T N sc c y && mSs T N sc body b
    | none => false)
  | .brk, x => decide (vPlain x = 1)
  | .cnt, x => decide (vPlain x = 2)
  | .pss, x => decide (vPlain x = 3) || decide (vPlain x = 4)
  | .nev, _ => true
  | .rai _ _, _ => false
  | .try_ _ _ _ _, _ => false
def mSs (T : Tb) (N : List Str) (sc : Scope) : Ss → List Stmt → Bool
  | .nil, [] => true
  | .cons s r, x :: xs => mS T N sc s x && mSs T N sc r xs
  | _, _ => false
end

/-! ### readings -/
def PostF (K : PySem.W.Frag) (n0 : Nat) (H : Hp) (M : Mp) (S : Sto) (D : Ends) : Fl → Prop
  | .nx ρ' S' => ∀ σ' H' M', Step n0 H M S H' M' S' → RelS K H' M' S' → REnv K H' M' S'.length ρ' σ' → D.nx σ' H'
  | .rt d S' => Post K n0 H M S d S' D.rt
  | .bk ρ' S' => ∀ σ' H' M', Step n0 H M S H' M' S' → RelS K H' M' S' → REnv K H' M' S'.length ρ' σ' → D.bk σ' H'
  | .ct ρ' S' => ∀ σ' H' M', Step n0 H M S H' M' S' → RelS K H' M' S' → REnv K H' M' S'.length ρ' σ' → D.ct σ' H'
  | .ex _ _ _ => False
  | .st => False
def tS (K : PySem.W.Frag) (C : Cf) (ev : Env → Sto → Fl) : TS := fun D σ H => ∃ ρ S M, C.n0 ≤ S.length ∧ REnv K H M S.length ρ σ ∧ RelS K H M S ∧ PostF K C.n0 H M S D (ev ρ S)
theorem _root_.L2.PS.imp {X : Cx} {e : Stmt} {t t' : TS} (h : PS X e t) (m : ∀ D σ H, t' D σ H → t D σ H) : PS X e t' := ⟨fun pins s σ H Q I q => h.run pins s σ H Q I (m Q σ H q)⟩
theorem _root_.L2.PSs.imp {X : Cx} {e : List Stmt} {t t' : TS} (h : PSs X e t) (m : ∀ D σ H, t' D σ H → t D σ H) : PSs X e t' := ⟨fun pins s σ H Q I q => h.run pins s σ H Q I (m Q σ H q)⟩
structure Gs (T : Tb) (N : List Str) (C : Cf) (sc : Scope) (X : Cx) : Prop extends Gd T N C sc X where
  hp : PassesOwn (model X.prog X.w) X.A X.env X.xe
  hf : ∀ y, X.fn y = true
section
variable {T : Tb} {N : List Str} {sc : Scope} {C : Cf} {X : Cx} {K : PySem.W.Frag} {H H1 H2 : Hp} {M M1 M2 : Mp} {S S1 S2 : Sto} {n0 : Nat}
theorem PostF.after {D : Ends} {f : Fl} (P : PostF K n0 H M S D f) (s : Step n0 H M S H1 M1 S1) (R1 : RelS K H1 M1 S1) : PostF K n0 H1 M1 S1 D f := by
  cases f with
  | nx ρ' S' => exact fun σ' H' M' s2 R e => P σ' H' M' (Step.trans R1 s s2) R e
  | bk ρ' S' => exact fun σ' H' M' s2 R e => P σ' H' M' (Step.trans R1 s s2) R e
  | ct ρ' S' => exact fun σ' H' M' s2 R e => P σ' H' M' (Step.trans R1 s s2) R e
  | rt d S' => exact Post.after P s R1
  | ex _ _ _ => exact P
  | st => exact P
theorem Gs.loc (G : Gs T N C sc X) (y : Str) (h : locB sc y = true) : Loc X.env.scope y ∧ (X.fn y = true ∨ X.env.scope.names.lookup y = some .local) := ⟨by rw [G.hsc]; exact locB_ok h, .inl (G.hf y)⟩
theorem postF_st {D : Ends} (h : PostF K n0 H M S D .st) : False := h
/-- behind an expression -/
theorem thn_ok {D : Ends} {r : Res} {ρ : Env} {f : Ev.D → Sto → Fl} (h : PostF K n0 H M S D (r.thn ρ f)) : ∃ d S1, r = .ok d S1 ∧ PostF K n0 H M S D (f d S1) := by
  cases r with
  | ok d S1 => exact ⟨d, S1, rfl, h⟩
  | ex x S1 => exact False.elim h
  | st => exact False.elim h
theorem q_asg {i : Nat} {e : E} {D : Ends} {σ : L2.St} {H : Hp} (h : tS K C (evS C (.asg i e)) D σ H) : tE K C (evE C e) σ H fun x H1 => gName i x σ H1 D.nx := by
  obtain ⟨ρ, S, M, hn, hρ, R, P⟩ := h
  simp only [evS] at P
  obtain ⟨d, S1, e1, P⟩ := thn_ok P
  exact ⟨ρ, S, M, d, S1, hn, hρ, R, e1, fun v H1 M1 s1 R1 u1 h1 => P _ H1 M1 s1 R1 ((hρ.step R s1).set i u1 h1)⟩
theorem t_asg (G : Gs T N C sc X) {i : Nat} {e : E} {y : Str} {v : Expr} {p p2 : Pos} (h1 : N[i]? = some y) (h2 : locB sc y = true) (h3 : mE T N sc e v = true) : PS X (.Assign [.Name y p] v p2) (tS X.K C (evS C (.asg i e))) := by
  obtain ⟨l1, l2⟩ := G.loc y h2
  have hN := G.hN
  subst hN
  have pe := (sE e sc v h3 X G.toGd).1
  by_cases hl : lcB v = true
  · cases v with
    | ListComp el gs s q =>
      obtain ⟨t, it, cs, rfl, L⟩ := lc_of e sc el gs s q h3 X G.toGd
      generalize hb : (X.env.blockKind == .function && X.env.kindOf y == some .local && p.line == (Expr.ListComp el [⟨t, it, cs, 0⟩] s q).pos.line && !(s.names.any fun (n, k) => n == y && (k == .local || k == .cell))) = b
      have hsw : swapsWith (.ListComp el [⟨t, it, cs, 0⟩] s q) (some (.Name y p)) p2.line X.env = pure b := by
        rw [← hb]
        rfl
      cases b with
      | false => exact (ps_set G.nd h1 l1 pe hsw l2).imp fun D σ H h => q_asg h
      | true =>
        simp only [Bool.and_eq_true, beq_iff_eq] at hb
        obtain ⟨own, wi, g, tt, te, k1, k2, k3, k4, k5, k6, k7⟩ := L.ex
        exact (ps_setLc G.calm G.nd h1 hb.1.1.2 hsw k1 k2 k3 k4 k5 k6).imp fun D σ H h => k7 _ _ _ (q_asg h)
    | _ => cases hl
  · have hsw : swapsWith v (some (.Name y p)) p2.line X.env = pure false := by
      have ho := odd_of e v h3
      cases v <;> first | rfl | (exact absurd rfl hl) | (cases ho)
    exact (ps_set G.nd h1 l1 pe hsw l2).imp fun D σ H h => q_asg h
theorem q_asgs {is : List Nat} {e : E} {D : Ends} {σ : L2.St} {H : Hp} (h : tS K C (evS C (.asgs is e)) D σ H) : tE K C (evE C e) σ H fun x H1 => tgG K false is x σ H1 D.nx := by
  obtain ⟨ρ, S, M, hn, hρ, R, P⟩ := h
  simp only [evS] at P
  obtain ⟨d, S1, e1, P⟩ := thn_ok P
  refine ⟨ρ, S, M, d, S1, hn, hρ, R, e1, fun v H1 M1 s1 R1 u1 h1 => ?_⟩
  split at P
  · rename_i ρ1 hb
    exact tg_ok (own := is) hb u1 h1 (hρ.step R s1) (fun _ h => h) fun σ1 h2 _ => P _ H1 M1 s1 R1 h2
  · exact P.elim
theorem t_asgs (G : Gs T N C sc X) {is : List Nat} {e : E} {ts : List Expr} {v : Expr} {k : Nat} {p p2 : Pos} (h1 : mNames N sc is ts = true) (h3 : mE T N sc e v = true) (hw : X.env.scope.kind = .function → swappedStores [.Tuple ts k p] v X.env = pure none) :
    PS X (.Assign [.Tuple ts k p] v p2) (tS X.K C (evS C (.asgs is e))) := by
  have pe := (sE e sc v h3 X G.toGd).1
  have pg : PG X (.Tuple ts k p) (tgG X.K false is) := tg_G G.calm G.hN G.nd (G.loc) (by unfold mTg; simpa [vTup] using h1)
  have hs : swapsWithSole [.Tuple ts k p] v p2.line X.env = pure false := by cases v <;> rfl
  exact ⟨fun pins s σ H D I h => (ps_asg pe pg hs (hw I.ok.kind)).run pins s σ H D I (q_asgs h)⟩
theorem t_sub (G : Gs T N C sc X) {o i e : E} {a b v : Expr} {p p2 : Pos} (h1 : mE T N sc o a = true) (h2 : mE T N sc i b = true) (h3 : mE T N sc e v = true) : PS X (.Assign [.Subscript a b p] v p2) (tS X.K C (evS C (.sub o i e))) := by
  have hs : swapsWithSole [.Subscript a b p] v p2.line X.env = pure false := by cases v <;> rfl
  have ha : ∀ v, assign (.Subscript a b p) X.env v = (do
      let ov ← holding [v] (eval a X.env)
      let iv ← holding [v, ov] (eval b X.env)
      standAt p
      holding [v, ov, iv] (setItem ov iv v)
      release [v, ov, iv] []) := by
    intro v
    have := odd_of i b h2
    cases b <;> first | rfl | cases this
  refine (ps_asg (sE e sc v h3 X G.toGd).1 (pg_sub (sE o sc a h1 X G.toGd).1 (sE i sc b h2 X G.toGd).1 set_D ha) hs (by cases v <;> rfl)).imp fun D σ H ⟨ρ, S, M, hn, hρ, R, P⟩ => ?_
  simp only [evS] at P
  obtain ⟨d, S1, e1, P⟩ := thn_ok P
  obtain ⟨d2, S2, e2, P⟩ := thn_ok P
  obtain ⟨d3, S3, e3, P⟩ := thn_ok P
  split at P
  · rename_i S4 hs
    refine ⟨ρ, S, M, d, S1, hn, hρ, R, e1, fun v1 H1 M1 s1 R1 u1 h1 => ?_⟩
    have n1 := Nat.le_trans hn s1.le
    refine ⟨ρ, S1, M1, d2, S2, n1, hρ.step R s1, R1, e2, fun v2 H2 M2 s2 R2 u2 h2 => ?_⟩
    have sA := Step.trans R1 s1 s2
    have n2 := Nat.le_trans n1 s2.le
    refine ⟨ρ, S2, M2, d3, S3, n2, hρ.step R sA, R2, e3, fun v3 H3 M3 s3 R3 u3 h3 => ?_⟩
    have sB := Step.trans R2 sA s3
    refine ⟨d2, d3, d, S3, M3, C.n0, S4, Nat.le_trans n2 s3.le, R3, und_mono s3.le _ u2, u3, und_mono (Nat.le_trans s2.le s3.le) _ u1, RD.step R2 s3 _ _ u2 h2, h3, RD.step R2 s3 _ _ (und_mono s2.le _ u1) (RD.step R1 s2 _ _ u1 h1), hs, fun H4 M4 s4 R4 => ?_⟩
    have sC := Step.trans R3 sB s4
    exact P σ H4 M4 sC R4 (hρ.step R sC)
  · exact P.elim
theorem t_exp (G : Gs T N C sc X) {e : E} {v : Expr} {p : Pos} (hl : lcB v = false) (h3 : mE T N sc e v = true) : PS X (.Expr v p) (tS X.K C (evS C (.exp e))) := by
  have hsw : swapsWith v none p.line X.env = pure false := by
    have ho := odd_of e v h3
    cases v <;> first | rfl | (simp [lcB] at hl; done) | (exact absurd ho (by simp [oddB]))
  refine (ps_expr (sE e sc v h3 X G.toGd).1 hsw).imp fun D σ H ⟨ρ, S, M, hn, hρ, R, P⟩ => ?_
  simp only [evS] at P
  obtain ⟨d, S1, e1, P⟩ := thn_ok P
  exact ⟨ρ, S, M, d, S1, hn, hρ, R, e1, fun v H1 M1 s1 R1 u1 h1 => P _ H1 M1 s1 R1 (hρ.step R s1)⟩
theorem t_ret (G : Gs T N C sc X) {e : E} {v : Expr} {p : Pos} (h3 : mE T N sc e v = true) : PS X (.Return (some v) p) (tS X.K C (evS C (.ret e))) := by
  refine (ps_ret (sE e sc v h3 X G.toGd).1).imp fun D σ H ⟨ρ, S, M, hn, hρ, R, P⟩ => ?_
  simp only [evS] at P
  obtain ⟨d, S1, e1, P⟩ := thn_ok P
  exact ⟨ρ, S, M, d, S1, hn, hρ, R, e1, P⟩
theorem t_retN {p : Pos} : PS X (.Return none p) (tS X.K C (evS C .retN)) := ps_retN.imp fun D σ H ⟨ρ, S, M, hn, hρ, R, P⟩ => by
  simp only [evS] at P
  exact Post.same P R (by simp [Ev.D.und]) (by simp [RD])
theorem t_brk {p : Pos} : PS X (.Break p) (tS X.K C (evS C .brk)) := ps_break.imp fun D σ H ⟨ρ, S, M, hn, hρ, R, P⟩ => by
  simp only [evS] at P
  exact P σ H M .refl R hρ
theorem t_cnt {p : Pos} : PS X (.Continue p) (tS X.K C (evS C .cnt)) := ps_continue.imp fun D σ H ⟨ρ, S, M, hn, hρ, R, P⟩ => by
  simp only [evS] at P
  exact P σ H M .refl R hρ
theorem t_nx {D : Ends} {σ : L2.St} {H : Hp} (h : tS K C (evS C .pss) D σ H) : tNext D σ H := by
  obtain ⟨ρ, S, M, hn, hρ, R, P⟩ := h
  simp only [evS] at P
  exact P σ H M .refl R hρ
theorem t_ite {c : E} {a b : Ss} {y : Expr} {l r : List Stmt} {p : Pos} (hc : PT X y (tT X.K C (evE C c))) (ha : PSs X l (tS X.K C (evSs C a))) (hb : PSs X r (tS X.K C (evSs C b))) : PS X (.If y l r p) (tS X.K C (evS C (.ite c a b))) := by
  refine (ps_if hc ha hb).imp fun D σ H ⟨ρ, S, M, hn, hρ, R, P⟩ => ?_
  simp only [evS] at P
  obtain ⟨d, S1, e1, P⟩ := thn_ok P
  have hk : ∃ k, d = .bl k ∧ PostF X.K C.n0 H M S D (if k = true then evSs C a ρ S1 else evSs C b ρ S1) := by
    split at P
    · exact ⟨true, rfl, by rw [if_pos rfl]; exact P⟩
    · exact ⟨false, rfl, by rw [if_neg (by decide)]; exact P⟩
    · exact P.elim
  obtain ⟨k, rfl, P'⟩ := hk
  refine ⟨ρ, S, M, k, S1, hn, hρ, R, e1, fun v H1 M1 s1 R1 u1 h1 => ⟨k, by simpa [RD] using h1, ?_⟩⟩
  cases k with
  | true =>
    show (if true = true then _ else _)
    rw [if_pos rfl] at P' ⊢
    exact ⟨ρ, S1, M1, Nat.le_trans hn s1.le, hρ.step R s1, R1, P'.after s1 R1⟩
  | false =>
    show (if false = true then _ else _)
    rw [if_neg (by decide)] at P' ⊢
    exact ⟨ρ, S1, M1, Nat.le_trans hn s1.le, hρ.step R s1, R1, P'.after s1 R1⟩

theorem t_par (G : Gs T N C sc X) {is : List Nat} {es : Es} {ts vs : List Expr} {k k2 : Nat} {p p1 p2 : Pos} {nm : List Str} (h1 : mPar N sc is ts = true) (h3 : mEs T N sc es vs = true) (hw : swapped sc ts vs = some (some nm)) :
    PS X (.Assign [.Tuple ts k p] (.Tuple vs k2 p1) p2) (tS X.K C (evS C (.asgs is (.tup es)))) := by
  have pa := sEs es sc vs h3 X G.toGd
  have hN := G.hN
  subst hN
  have lc : ∀ y, sc.names.lookup y = some .local → X.env.scope.names.lookup y = some .local := fun y h => by rw [G.hsc]; exact h
  have hs : ∀ a b, swapsWithSole [.Tuple a k p] (.Tuple b k2 p1) p2.line X.env = pure false := fun _ _ => rfl
  have un : ∀ D σ H, tS X.K C (evS C (.asgs is (.tup es))) D σ H → tA X.K C (evEs C es) σ H fun vs H1 => vs.length = is.length ∧ gsG is vs σ H1 D.nx := fun D σ H ⟨ρ, S, M, hn, hρ, R, P⟩ => by
    simp only [evS, evE] at P
    obtain ⟨d, S1, e1, P⟩ := thn_ok P
    obtain ⟨ds, S2, e2, e1⟩ := bindL_ok e1
    obtain ⟨_, e1⟩ := st_ne e1
    obtain ⟨rfl, rfl⟩ := ok_inj e1
    refine ⟨ρ, S, M, ds, S2, hn, hρ, R, e2, fun vs H1 M1 s1 R1 u1 h1 => ?_⟩
    split at P
    · rename_i ρ1 hb
      unfold bindTg at hb
      simp only [Bool.false_eq_true, if_false] at hb
      refine ⟨by rw [h1.len]; exact binds_len hb, gs_ok (own := is) hb u1 h1 (hρ.step R s1) (fun _ h => h) fun σ1 h2 _ => P _ H1 M1 s1 R1 h2⟩
    · exact P.elim
  unfold mPar at h1
  split at h1
  · rename_i i j a b
    split at h1
    · rename_i x y hx hy
      obtain ⟨q1, rfl⟩ := vName_ok hx
      obtain ⟨q2, rfl⟩ := vName_ok hy
      simp only [Bool.and_eq_true, decide_eq_true_eq] at h1
      obtain ⟨⟨⟨⟨c1, c2⟩, c3⟩, c4⟩, c5⟩ := h1
      refine ⟨fun pins s σ H D I h => ?_⟩
      have hv : ∃ v w, vs = [v, w] := by
        unfold swapped at hw
        split at hw
        · cases hw
        · rename_i c
          simp at c
          match vs, c with
          | [v, w], _ => exact ⟨v, w, rfl⟩
      obtain ⟨v, w, rfl⟩ := hv
      have hn : nm = [x, y] := by
        have e : ∀ {z : Option (Option (List Str))}, z = some (some nm) → True := fun _ => trivial
        unfold swapped at hw
        split at hw
        · cases hw
        split at hw
        · cases hw
        split at hw
        · cases hw
        rename_i c
        split at hw
        · cases hw
        split at hw
        · cases hw
        cases hw
        simp only [Bool.or_eq_true, bne_iff_ne, ne_eq, not_or, Decidable.not_not] at c
        have c := c.1
        unfold nameAt at c ⊢
        simp only [List.filterMap_cons, List.filterMap_nil] at c ⊢
        split at c <;> split at c <;> simp_all
      have hw2 := swapped_ok (k := k) (k2 := k2) (p := p) (p2 := p1) I.ok.kind (by rw [G.hsc]; exact hw)
      rw [hn] at hw2
      refine (ps_par G.calm G.nd c1 c2 c3 (lc _ c4) (lc _ c5) pa hw2 (hs _ _)).run pins s σ H D I ?_
      obtain ⟨ρ, S, M, ds, S1, hn, hρ, R, e2, P⟩ := un D σ H h
      refine ⟨ρ, S, M, ds, S1, hn, hρ, R, e2, fun us H1 M1 s1 R1 u1 h1 => ?_⟩
      obtain ⟨_, v1, r1, rfl, v2, r2, rfl, rfl, q⟩ := P us H1 M1 s1 R1 u1 h1
      exact ⟨v1, v2, rfl, q⟩
    · cases h1
  · rename_i i j l a b c
    split at h1
    · rename_i x y z hx hy hz
      obtain ⟨q1, rfl⟩ := vName_ok hx
      obtain ⟨q2, rfl⟩ := vName_ok hy
      obtain ⟨q3, rfl⟩ := vName_ok hz
      simp only [Bool.and_eq_true, decide_eq_true_eq] at h1
      obtain ⟨⟨⟨⟨⟨⟨⟨⟨c1, c2⟩, c3⟩, c4⟩, c5⟩, c6⟩, c7⟩, c8⟩, c9⟩ := h1
      refine ⟨fun pins s σ H D I h => ?_⟩
      have hv : ∃ u v w, vs = [u, v, w] := by
        unfold swapped at hw
        split at hw
        · cases hw
        · rename_i c
          simp at c
          match vs, c with
          | [u, v, w], _ => exact ⟨u, v, w, rfl⟩
      obtain ⟨u, v, w, rfl⟩ := hv
      have hn : nm = [x, y, z] := by
        unfold swapped at hw
        split at hw
        · cases hw
        split at hw
        · cases hw
        split at hw
        · cases hw
        rename_i c
        split at hw
        · cases hw
        split at hw
        · cases hw
        cases hw
        simp only [Bool.or_eq_true, bne_iff_ne, ne_eq, not_or, Decidable.not_not] at c
        have c := c.1
        unfold nameAt at c ⊢
        simp only [List.filterMap_cons, List.filterMap_nil] at c ⊢
        split at c <;> split at c <;> split at c <;> simp_all
      have hw2 := swapped_ok (k := k) (k2 := k2) (p := p) (p2 := p1) I.ok.kind (by rw [G.hsc]; exact hw)
      rw [hn] at hw2
      refine (ps_par3 G.calm G.nd c1 c2 c3 c4 c5 c6 (lc _ c7) (lc _ c8) (lc _ c9) pa hw2 (hs _ _)).run pins s σ H D I ?_
      obtain ⟨ρ, S, M, ds, S1, hn, hρ, R, e2, P⟩ := un D σ H h
      refine ⟨ρ, S, M, ds, S1, hn, hρ, R, e2, fun us H1 M1 s1 R1 u1 h1 => ?_⟩
      obtain ⟨_, v1, r1, rfl, v2, r2, rfl, v3, r3, rfl, rfl, q⟩ := P us H1 M1 s1 R1 u1 h1
      exact ⟨v1, v2, v3, rfl, q⟩
    · cases h1
  · cases h1

/-! ### loops -/
theorem forL_w {w : List (Nat × Ob)} {bd : Ev.D → Env → Option Env} {ks : List Nat} {body : Env → Sto → Fl} {xs : List Ev.D} {ρ : Env} {S : Sto} {fl : Fl} (h : forL w bd ks body xs ρ S = fl) (hf : fl ≠ .st) : wOk S w = true := by
  cases xs with
  | nil =>
    simp only [forL] at h
    split at h
    · assumption
    · exact absurd h.symm hf
  | cons x xs =>
    simp only [forL] at h
    split at h
    · assumption
    · exact absurd h.symm hf
theorem t_for (G : Gs T N C sc X) {one : Bool} {tg ks : List Nat} {it : It} {body : Ss} {t i : Expr} {b : List Stmt} {p : Pos} (htg : mTg N sc one tg t = true) (hodd : oddB i = false) (hi : PI X t i (tI X.K C (evIt C it))) (hb : PSs X b (tS X.K C (evSs C body))) :
    PS X (.For t i b [] p) (tS X.K C (evS C (.for_ one tg it ks body))) := by
  have pg : PG X t (tgG X.K one tg) := tg_G G.calm G.hN G.nd (G.loc) htg
  refine (ps_for G.hp G.calm hi pg hb (fun v => folded_of hodd _ v)).imp fun D σ H ⟨ρ, S, M, hn, hρ, R, P⟩ => ?_
  simp only [evS] at P
  generalize hit : evIt C it ρ S = ri at P
  cases ri with
  | ex _ _ => exact P.elim
  | st => exact P.elim
  | ok xs w S1 =>
  refine ⟨ρ, S, M, xs, w, S1, hn, hρ, R, hit, fun J H1 M1 s1 R1 uxs itd => ?_⟩
  obtain ⟨Gi, Y, wk, hI⟩ := itd
  simp only at P
  generalize hfl : forL w (fun d ρ => bindTg one tg d ρ) ks (fun ρ S => evSs C body ρ S) xs ρ S1 = fl at P
  have hst : fl ≠ .st := fun e => by rw [e] at P; exact P
  have P1 : PostF X.K C.n0 H1 M1 S1 D fl := P.after s1 R1
  refine for_it wk (fun i σ2 H2 => ∃ ρ2 S2 M2, Step C.n0 H1 M1 S1 H2 M2 S2 ∧ RelS X.K H2 M2 S2 ∧ REnv X.K H2 M2 S2.length ρ2 σ2 ∧ forL w (fun d ρ => bindTg one tg d ρ) ks (fun ρ S => evSs C body ρ S) (xs.drop i) ρ2 S2 = fl) ?_ ?_ ?_ ?_
  · exact ⟨ρ, S1, M1, .refl, R1, hρ.step R s1, by rw [List.drop_zero]; exact hfl⟩
  · intro i σ2 H2 hi' ⟨ρ2, S2, M2, st, R2, hρ2, hl⟩
    exact (hI C.n0 H2 M2 S2 st R2 (forL_w hl hst)).1
  · intro i x σ2 H2 H3 hi' ⟨ρ2, S2, M2, st, R2, hρ2, hl⟩ y
    obtain ⟨_, hy⟩ := hI C.n0 H2 M2 S2 st R2 (forL_w hl hst)
    obtain ⟨sq, R3, dx, hdx, hxd⟩ := hy i x H3 hi' y
    have hw := forL_w hl hst
    have hdrop : xs.drop i = dx :: xs.drop (i + 1) := by
      rw [List.drop_eq_getElem_cons hi']
      rw [List.getElem?_eq_getElem hi'] at hdx
      cases hdx
      rfl
    rw [hdrop] at hl
    simp only [forL] at hl
    rw [if_pos hw] at hl
    split at hl
    · exact absurd hl.symm hst
    · rename_i ρ3 hb3
      have st3 := Step.trans R2 st (sq C.n0)
      have udx : dx.und S2.length = true := und_mono st.le _ (unds_mem uxs dx (List.mem_of_getElem? hdx))
      have n2 : C.n0 ≤ S2.length := Nat.le_trans hn (Nat.le_trans s1.le st.le)
      refine tg_ok (own := tg) hb3 udx hxd ((hρ2.step R2 (sq C.n0)).kill ks) (fun _ h => h) fun σ3 hσ3 _ => ?_
      refine ⟨ρ3, S2, M2, n2, hσ3, R3, ?_⟩
      split at hl
      · rename_i ρ4 S4 hbd
        rw [hbd]
        exact fun σ' H' M' s' R' e' => ⟨ρ4, S4, M', Step.trans R3 st3 s', R', e', hl⟩
      · rename_i ρ4 S4 hbd
        rw [hbd]
        exact fun σ' H' M' s' R' e' => ⟨ρ4, S4, M', Step.trans R3 st3 s', R', e', hl⟩
      · rename_i ρ4 S4 hbd
        rw [hbd]
        rw [← hl] at P1
        exact fun σ' H' M' s' R' e' => P1 σ' H' M' (Step.trans R3 st3 s') R' (e'.kill ks)
      · rename_i h1 h2 h3
        rw [← hl] at P1
        have P3 := P1.after st3 R3
        generalize hbd : evSs C body ρ3 S2 = r at P3 h1 h2 h3
        cases r with
        | nx a b => exact absurd rfl (h1 a b)
        | ct a b => exact absurd rfl (h2 a b)
        | bk a b => exact absurd rfl (h3 a b)
        | rt d S' => exact P3
        | ex _ _ _ => exact P3
        | st => exact P3
  · intro σ2 H2 ⟨ρ2, S2, M2, st, R2, hρ2, hl⟩
    rw [List.drop_length] at hl
    have hw := forL_w hl hst
    simp only [forL] at hl
    rw [if_pos hw] at hl
    rw [← hl] at P1
    exact P1 σ2 H2 M2 st R2 (hρ2.kill ks)
theorem t_whl (G : Gs T N C sc X) {c : E} {ks : List Nat} {body : Ss} {y : Expr} {b : List Stmt} {p : Pos} (hc : PT X y (tT X.K C (evE C c))) (hb : PSs X b (tS X.K C (evSs C body))) :
    PS X (.While y b [] p) (tS X.K C (evS C (.whl c ks body))) := by
  refine (ps_while G.hp hc hb).imp fun D σ H ⟨ρ, S, M, hn, hρ, R, P⟩ => ?_
  simp only [evS] at P
  generalize hfl : whlL (fun ρ S => evE C c ρ S) ks (fun ρ S => evSs C body ρ S) C.W ρ S = fl at P
  have hst : fl ≠ .st := fun e => by rw [e] at P; exact P
  refine ⟨fun m σ2 H2 => ∃ ρ2 S2 M2, Step C.n0 H M S H2 M2 S2 ∧ RelS X.K H2 M2 S2 ∧ REnv X.K H2 M2 S2.length ρ2 σ2 ∧ whlL (fun ρ S => evE C c ρ S) ks (fun ρ S => evSs C body ρ S) m ρ2 S2 = fl, ⟨C.W, ρ, S, M, .refl, R, hρ, hfl⟩, ?_⟩
  intro m σ2 H2 ⟨ρ2, S2, M2, st, R2, hρ2, hl⟩
  have n2 : C.n0 ≤ S2.length := Nat.le_trans hn st.le
  cases m with
  | zero =>
    simp only [whlL] at hl
    exact absurd hl.symm hst
  | succ m =>
    simp only [whlL] at hl
    have P0 := P
    rw [← hl] at P0
    obtain ⟨d, S3, e1, _⟩ := thn_ok P0
    rw [e1] at hl
    simp only [Res.thn] at hl
    have hk : ∃ k, d = .bl k ∧ (k = true ∧ (match evSs C body (kill ks ρ2) S3 with
        | .nx ρ2 S2 => whlL (fun ρ S => evE C c ρ S) ks (fun ρ S => evSs C body ρ S) m ρ2 S2
        | .ct ρ2 S2 => whlL (fun ρ S => evE C c ρ S) ks (fun ρ S => evSs C body ρ S) m ρ2 S2
        | .bk ρ2 S2 => .nx (kill ks ρ2) S2
        | r => r) = fl ∨ k = false ∧ Fl.nx (kill ks ρ2) S3 = fl) := by
      split at hl
      · exact ⟨true, rfl, .inl ⟨rfl, hl⟩⟩
      · exact ⟨false, rfl, .inr ⟨rfl, hl⟩⟩
      · exact absurd hl.symm hst
    obtain ⟨k, rfl, hk⟩ := hk
    have hρk := hρ2.kill ks
    refine ⟨kill ks ρ2, S2, M2, k, S3, n2, hρk, R2, e1, fun v H3 M3 s3 R3 u3 h3 => ⟨k, by simpa [RD] using h3, ?_⟩⟩
    have st3 := Step.trans R2 st s3
    rcases hk with ⟨rfl, hl2⟩ | ⟨rfl, hl2⟩
    · show (if true = true then _ else _)
      rw [if_pos rfl]
      refine ⟨fun σ' H' => ∃ ρ4 S4 M4, Step C.n0 H M S H' M4 S4 ∧ RelS X.K H' M4 S4 ∧ REnv X.K H' M4 S4.length ρ4 σ' ∧ whlL (fun ρ S => evE C c ρ S) ks (fun ρ S => evSs C body ρ S) m ρ4 S4 = fl, fun σ' H' h => ⟨m, Nat.lt_succ_self m, h⟩, kill ks ρ2, S3, M3, Nat.le_trans n2 s3.le, hρk.step R2 s3, R3, ?_⟩
      have P1 := P.after st3 R3
      split at hl2
      · rename_i ρ4 S4 hbd
        rw [hbd]
        exact fun σ' H' M' s' R' e' => ⟨ρ4, S4, M', Step.trans R3 st3 s', R', e', hl2⟩
      · rename_i ρ4 S4 hbd
        rw [hbd]
        exact fun σ' H' M' s' R' e' => ⟨ρ4, S4, M', Step.trans R3 st3 s', R', e', hl2⟩
      · rename_i ρ4 S4 hbd
        rw [hbd]
        rw [← hl2] at P1
        exact fun σ' H' M' s' R' e' => P1 σ' H' M' s' R' (e'.kill ks)
      · rename_i h1 h2 h3
        rw [← hl2] at P1
        generalize hbd : evSs C body (kill ks ρ2) S3 = r at P1 h1 h2 h3
        cases r with
        | nx a b => exact absurd rfl (h1 a b)
        | ct a b => exact absurd rfl (h2 a b)
        | bk a b => exact absurd rfl (h3 a b)
        | rt d S' => exact P1
        | ex _ _ _ => exact P1
        | st => exact P1
    · show (if false = true then _ else _)
      rw [if_neg (by decide)]
      rw [← hl2] at P
      exact P σ2 H3 M3 st3 R3 (hρk.step R2 s3)
mutual
theorem sS : ∀ (q : Ev.St) (x : Stmt), mS T N sc q x = true → ∀ X : Cx, Gs T N C sc X → PS X x (tS X.K C (evS C q))
  | .asg i e, x, h, X, G => by
    simp only [mS] at h
    split at h
    · rename_i t v hx
      obtain ⟨p, rfl⟩ := vAsg_ok hx
      split at h
      · rename_i y hy
        obtain ⟨p2, rfl⟩ := vName_ok hy
        simp only [Bool.and_eq_true, decide_eq_true_eq] at h
        exact t_asg G h.1.1 h.1.2 h.2
      · cases h
    · cases h
  | .asgs is e, x, h, X, G => by
    simp only [mS] at h
    split at h
    · rename_i t v hx
      obtain ⟨p, rfl⟩ := vAsg_ok hx
      split at h
      · rename_i ts hy
        obtain ⟨j, p2, rfl⟩ := vTup_ok hy
        split at h
        · rename_i hv
          simp only [Bool.and_eq_true] at h
          exact t_asgs G h.1 h.2 fun _ => swap_other hv
        · rename_i vs hv
          obtain ⟨j2, p3, rfl⟩ := vTup_ok hv
          split at h
          · cases h
          · rename_i hsw
            simp only [Bool.and_eq_true] at h
            exact t_asgs G h.1 h.2 fun hk => swapped_ok hk (by rw [G.hsc]; exact hsw)
          · rename_i nm hsw
            simp only [Bool.and_eq_true] at h
            obtain ⟨h1, h2⟩ := h
            split at h2
            · exact t_par G h1 h2 hsw
            · cases h2
      · cases h
    · cases h
  | .sub o i e, x, h, X, G => by
    simp only [mS] at h
    split at h
    · rename_i t v hx
      obtain ⟨p, rfl⟩ := vAsg_ok hx
      split at h
      · rename_i a b hy
        obtain ⟨p2, rfl⟩ := vSub_ok hy
        simp only [Bool.and_eq_true] at h
        exact t_sub G h.1.1 h.1.2 h.2
      · cases h
    · cases h
  | .exp e, x, h, X, G => by
    simp only [mS] at h
    split at h
    · rename_i v hx
      obtain ⟨p, rfl⟩ := vExp_ok hx
      simp only [Bool.and_eq_true, Bool.not_eq_true'] at h
      exact t_exp G h.1 h.2
    · cases h
  | .ret e, x, h, X, G => by
    simp only [mS] at h
    split at h
    · rename_i v hx
      obtain ⟨p, rfl⟩ := vRet_ok hx
      exact t_ret G h
    · cases h
  | .retN, x, h, X, G => by
    simp only [mS] at h
    split at h
    · rename_i hx
      obtain ⟨p, rfl⟩ := vRet_ok hx
      exact t_retN
    · cases h
  | .ite c a b, x, h, X, G => by
    simp only [mS] at h
    split at h
    · rename_i y l r hx
      obtain ⟨p, rfl⟩ := vIfS_ok hx
      simp only [Bool.and_eq_true] at h
      exact t_ite (sE c sc y h.1.1 X G.toGd).2 (sSs a l h.1.2 X G) (sSs b r h.2 X G)
    · cases h
  | .for_ one tg it ks body, x, h, X, G => by
    simp only [mS] at h
    split at h
    · rename_i t i b hx
      obtain ⟨p, rfl⟩ := vFor_ok hx
      simp only [Bool.and_eq_true] at h
      obtain ⟨⟨⟨h1, h2⟩, h3⟩, h4⟩ := h
      have hp : it.pairs = true → ∃ es k p, t = .Tuple es k p := fun z => by
        rw [z] at h1
        cases one with
        | true => cases h1
        | false =>
          simp only [mTg, Bool.false_eq_true, if_false] at h2
          split at h2
          · rename_i es hv
            obtain ⟨j, p, rfl⟩ := vTup_ok hv
            exact ⟨_, _, _, rfl⟩
          · cases h2
      exact t_for G h2 (it_odd it i h3) (sIt it sc i t h3 hp X G.toGd) (sSs body b h4 X G)
    · cases h
  | .whl c ks body, x, h, X, G => by
    simp only [mS] at h
    split at h
    · rename_i y b hx
      obtain ⟨p, rfl⟩ := vWhl_ok hx
      simp only [Bool.and_eq_true] at h
      exact t_whl G (sE c sc y h.1 X G.toGd).2 (sSs body b h.2 X G)
    · cases h
  | .brk, x, h, X, G => by
    simp only [mS, decide_eq_true_eq] at h
    unfold vPlain at h
    split at h <;> first | exact t_brk | cases h
  | .cnt, x, h, X, G => by
    simp only [mS, decide_eq_true_eq] at h
    unfold vPlain at h
    split at h <;> first | exact t_cnt | cases h
  | .pss, x, h, X, G => by
    simp only [mS, Bool.or_eq_true, decide_eq_true_eq] at h
    unfold vPlain at h
    split at h
    · simp at h
    · simp at h
    · exact ps_pass.imp fun D σ H h => t_nx h
    · exact ps_doc.imp fun D σ H h => t_nx h
    · simp at h
  | .nev, x, h, X, G => ps_never.imp fun D σ H ⟨ρ, S, M, hn, hρ, R, P⟩ => by
    simp only [evS] at P
    exact P.elim
  | .rai _ _, x, h, X, G => by simp [mS] at h
  | .try_ _ _ _ _, x, h, X, G => by simp [mS] at h
theorem sSs : ∀ (q : Ss) (xs : List Stmt), mSs T N sc q xs = true → ∀ X : Cx, Gs T N C sc X → PSs X xs (tS X.K C (evSs C q))
  | .nil, [], h, X, G => pss_nil.imp fun D σ H ⟨ρ, S, M, hn, hρ, R, P⟩ => by
    simp only [evSs] at P
    exact P σ H M .refl R hρ
  | .nil, _ :: _, h, X, G => by simp [mSs] at h
  | .cons _ _, [], h, X, G => by simp [mSs] at h
  | .cons s r, x :: xs, h, X, G => by
    simp only [mSs, Bool.and_eq_true] at h
    refine (pss_cons (sS s x h.1 X G) (sSs r xs h.2 X G)).imp fun D σ H ⟨ρ, S, M, hn, hρ, R, P⟩ => ?_
    simp only [evSs] at P
    refine ⟨ρ, S, M, hn, hρ, R, ?_⟩
    split at P
    · rename_i ρ1 S1 he
      rw [he]
      exact fun σ' H' M' s' R' e' => ⟨ρ1, S1, M', Nat.le_trans hn s'.le, e', R', P.after s' R'⟩
    · rename_i hne
      generalize evS C s ρ S = f at P hne
      cases f with
      | nx a b => exact absurd rfl (hne a b)
      | ct a b => exact P
      | bk a b => exact P
      | rt d S' => exact P
      | ex _ _ _ => exact P
      | st => exact P
end
end
end Ev

set_option Elab.async false
set_option linter.all false
set_option autoImplicit false
set_option maxRecDepth 100000
set_option maxHeartbeats 4000000
/-! Ev15: defs, and the law's end. -/
namespace Ev
open PySem PySem.Spec PyProof.Rows L2 RT RZ

/-- a def of the text, with the term that stands for it -/
structure Df where
  /-- the module's name, the def's own name -/
  x : Str
  nm : Str
  ps : List Str
  N : List Str
  args : Arguments
  body : List Stmt
  sc : Scope
  ir : Fn
def scopeB (N ps : List Str) (sc : Scope) : Bool :=
  (match sc.kind with
    | .function => true
    | _ => false) && !sc.isCoroutine && !sc.isGenerator && decide N.Nodup && decide (N.take ps.length = ps) && (ps.all fun x => locB sc x) && sc.names.all fun y => (match y.2 with
    | .free => false
    | _ => true)
theorem scopeB_ok {N ps : List Str} {sc : Scope} (h : scopeB N ps sc = true) : FnScope N ps sc := by
  unfold scopeB at h
  simp only [Bool.and_eq_true, Bool.not_eq_true', decide_eq_true_eq, List.all_eq_true] at h
  obtain ⟨⟨⟨⟨⟨⟨h1, h2⟩, h3⟩, h4⟩, h5⟩, h6⟩, h7⟩ := h
  refine ⟨?_, h2, h3, h4, h5, fun x hx => locB_ok (h6 x hx), fun y hy e => ?_⟩
  · split at h1
    · assumption
    · cases h1
  · have := h7 y hy
    rw [e] at this
    cases this
def Df.ok (T : Tb) (d : Df) : Bool := mSs T d.N d.sc d.ir.body d.body && (scopeB d.N d.ps d.sc && (decide (d.ir.ar = d.ps.length) && decide (d.ir.sl = d.N.length)))
/-- what the module's names stand for -/
structure GF (T : Tb) (gl : List D) (K : PySem.W.Frag) (mg : Str → Option Value) : Prop where
  glo : ∀ (g : Nat) (y : Str) (d : D), T.gs[g]? = some y → gl[g]? = some d → ∃ u v, mg y = some u ∧ RelV v u ∧ (∀ H M, RD K H M d v) ∧ d.pure = true
  blt : ∀ y ∈ (["int", "str", "tuple", "list", "len", "repr", "min", "max", "sum", "any", "all", "abs", "isinstance", "range", "enumerate", "zip", "reversed", "bool", "dict", "sorted", "set"] : List Str), mg y = none
  gcd : T.gcd = true → mg ("gcd" : Str) = some (.builtin "math.gcd")
/-- where the defs stand -/
def DfsAt (Ds : List Df) (K : PySem.W.Frag) (mg : Str → Option Value) (ad : Nat → Addr × FuncData) : Prop := ∀ (i : Nat) (d : Df), Ds[i]? = some d → FunD K d.nm d.nm d.args d.body d.sc [] [] (ad i).1 (ad i).2 ∧ mg d.x = some (.ref (ad i).1) ∧ Binds K (ad i).2 d.ps []
theorem start_env {K : PySem.W.Frag} {H : Hp} {M : Mp} {n ar sl : Nat} {ds : List D} {vs : List V} {N : List Str} (hu : D.unds n ds = true) (h : RDs K H M ds vs) (ha : ds.length = ar) (hs : sl = N.length) (hle : ar ≤ sl) : REnv K H M n (ds.map some ++ List.replicate (sl - ar) none) (start N vs) := by
  have hl := h.len
  refine ⟨?_, fun i d hi => ?_⟩
  · unfold L2.start
    simp
    omega
  · by_cases hlt : i < ds.length
    · rw [List.getElem?_append_left (by simpa using hlt), List.getElem?_map] at hi
      cases e : ds[i]? with
      | none => rw [e] at hi; cases hi
      | some d' =>
        rw [e] at hi
        cases hi
        obtain ⟨v, h1, h2⟩ := h.get e
        refine ⟨unds_mem hu d (List.mem_of_getElem? e), v, ?_, h2⟩
        unfold L2.start
        rw [List.getElem?_append_left (by simp; omega), List.getElem?_map, h1]
        rfl
    · rw [List.getElem?_append_right (by simpa using hlt), List.getElem?_replicate] at hi
      split at hi <;> cases hi
theorem fns_ok {P : Program} {w : World} {K : PySem.W.Frag} {mg : Str → Option Value} {base : Heap} {T : Tb} {Ds : List Df} {gl : List D} {W : Nat} {ad : Nat → Addr × FuncData} (hfs : T.fs = Ds.map (·.x)) (hok : ∀ (i : Nat) (d : Df), Ds[i]? = some d → d.ok T = true) (hG : GF T gl K mg) (hD : DfsAt Ds K mg ad) :
    ∀ (n i : Nat) (d : Df), Ds[i]? = some d → FnG P w K mg base CX0 n (ad i).1 (ad i).2 d.ps (spD K d.ps.length (callN (Ds.map (·.ir)) gl W n i)) ∧ mg d.x = some (.ref (ad i).1) ∧ PySem.W.keepIn K (.ref (ad i).1) = true ∧ Binds K (ad i).2 d.ps [] ∧
      ∀ ds S r S', callN (Ds.map (·.ir)) gl W n i ds S = .ok r S' → ds.length = d.ps.length := by
  intro n
  induction n with
  | zero =>
    intro i d hd
    obtain ⟨F, hm, hb⟩ := hD i d hd
    refine ⟨⟨fun vs H Q E h => h.1, fun A above s H args us vs Q E _ _ _ _ _ h => ?_⟩, hm, F.kp, hb, fun ds S r S' h => ?_⟩
    · obtain ⟨_, ds, S, M, r, S', _, _, _, e, _⟩ := h
      cases e
    · cases h
  | succ n ih =>
    intro i d hd
    obtain ⟨F, hm, hb⟩ := hD i d hd
    have dok := hok i d hd
    unfold Df.ok at dok
    simp only [Bool.and_eq_true, decide_eq_true_eq] at dok
    obtain ⟨k1, k2, k3, k4⟩ := dok
    have sc := scopeB_ok k2
    have hp : (Ds.map (·.ir))[i]? = some d.ir := by rw [List.getElem?_map, hd]; rfl
    have ar : ∀ ds S r S', callN (Ds.map (·.ir)) gl W (n + 1) i ds S = .ok r S' → ds.length = d.ps.length ∧ (match evSs ⟨callN (Ds.map (·.ir)) gl W n, gl, S.length, W⟩ d.ir.body (ds.map some ++ List.replicate (d.ir.sl - d.ir.ar) none) S with
        | .nx _ S1 => trim S.length .non S1
        | .rt d S1 => trim S.length d S1
        | .ex x _ S1 => if x.arg.und S.length = true then .ex x (S1.take S.length) else .st
        | _ => .st) = .ok r S' := fun ds S r S' h => by
      simp only [callN, hp] at h
      obtain ⟨h1, h2⟩ := st_ne h
      exact ⟨h1.trans k3, h2⟩
    refine ⟨fnG_of F sc (fun vs H Q E h => h.1) (fun cdv A above s H vs Q E hr hg hsp => ?_), hm, F.kp, hb, fun ds S r S' h => (ar ds S r S' h).1⟩
    obtain ⟨hlen, ds, S, M, r, S', R, u, hds, e, PQ⟩ := hsp
    obtain ⟨e1, e2⟩ := ar ds S r S' e
    have hle : d.ir.ar ≤ d.ir.sl := by
      rw [k3, k4]
      have := congrArg List.length sc.pre
      rw [List.length_take] at this
      omega
    refine ⟨tS K ⟨callN (Ds.map (·.ir)) gl W n, gl, S.length, W⟩ (evSs ⟨callN (Ds.map (·.ir)) gl W n, gl, S.length, W⟩ d.ir.body), PSs.nox ?_, ?_⟩
    · have hr' := hr
      refine sSs d.ir.body d.body k1 (cxOf CX0 P w K mg base d.N d.nm d.sc (ad i).1 cdv A above s H E).nox ⟨⟨rfl, sc.nd, rfl, rfl, ?_, ?_, hG.glo, hG.blt, hG.gcd, fun f y hy => ?_⟩, PassesOwn.never, fun _ => rfl⟩
      · show (A.deeper (envOfC d.nm d.sc s.heap.objs.size (ad i).1 cdv)).guards = some []
        exact hg
      · have := hr'.un
        show (A.deeper (envOfC d.nm d.sc s.heap.objs.size (ad i).1 cdv)).units + 66 < cLine
        omega
      · rw [hfs, List.getElem?_map] at hy
        cases hf : Ds[f]? with
        | none => rw [hf] at hy; cases hy
        | some d2 =>
          rw [hf] at hy
          cases hy
          obtain ⟨G2, m2, p2, b2, r2⟩ := ih f d2 hf
          exact ⟨n, (ad f).1, (ad f).2, d2.ps, G2, hr', m2, p2, b2, r2⟩
    · have hk : ∀ {H1 : Hp} {M1 : Mp} {S1 : Sto} (s1 : Step S.length H M S H1 M1 S1) (i : Nat) (o : Ob), i < S.length → S1[i]? = some o → D.unds S.length o.els = true := fun s1 i o hi ho => by
        obtain ⟨o0, h0, q⟩ := s1.keep i hi o ho
        exact unds_of fun d hd => (q d hd).elim pure_und (unds_mem (R.und i o0 h0) d)
      refine ⟨_, S, M, Nat.le_refl _, start_env u hds (e1.trans k3.symm) k4 hle, R, ?_⟩
      generalize evSs ⟨callN (Ds.map (·.ir)) gl W n, gl, S.length, W⟩ d.ir.body (ds.map some ++ List.replicate (d.ir.sl - d.ir.ar) none) S = fl at e2
      cases fl with
      | nx ρ' S1 => exact fun σ' H' M' s' R' _ => trim_ok R s' R' (Nat.le_refl _) (hk s') (by simp [D.und]) (by simp [RD]) e2 PQ
      | rt d1 S1 => exact fun v H' M' s' R' u' h' => trim_ok R s' R' (Nat.le_refl _) (hk s') u' h' e2 PQ
      | ex x ρ' S1 =>
        simp only at e2
        split at e2 <;> cases e2
      | bk _ _ => cases e2
      | ct _ _ => cases e2
      | st => cases e2

/-! ### the law's call -/
/-- the heap that holds the script alone, where it is no object of the module -/
theorem call_end {P : Program} {w : World} {K : PySem.W.Frag} {mg mb : Str → Option Value} {k : Nat} {fa a : Addr} {fd : FuncData} {x : Str} {cl : List D → Sto → Res} {s : Shared} {vs : List Value} {ns : List Int}
    (hK : K.In s.heap) (hm : s.heap.Ns mainGlobals mg) (hB : s.heap.Ns builtinsNs mb) (hb2 : ∀ x : Str, x ≠ "__name__" → mb x = bootBuiltins x) (lim : s.heap.NoLimit) (hg : s.gens = #[])
    (ha : s.heap.get? a = some { cls := .type "list", data := .seq vs.toArray }) (hi : IntsAre vs ns) (hl : ns.length ≤ sizeLine) (hr : Room k callerA)
    (F : ∀ base : Heap, K.In base → base.Ns mainGlobals mg → FnG P w K mg base CX0 k fa fd [x] (spD K 1 cl)) (hbind : ∀ (s : Shared) (u : Value), BindsTo s fd ⟨[u], []⟩ [(x, u)])
    (hc : ∃ S', cl [.frl (ns.map .int)] [] = .ok (.bl true) S') :
    codeAny (model P w) callerA (.call (.ref fa) ⟨[.ref a], []⟩) (fun r s' => r = .ok (.ret (.bool true)) ∧ OldK s.heap s'.heap ∧ s'.os = s.os ∧ AllBare s'.gens) s := by
  have rel : ∀ (ms : List Int) (H : Hp) (M : Mp), RDs K H M (ms.map .int) (ms.map V.int) := by
    intro ms H M
    induction ms with
    | nil => simp [RDs]
    | cons m ms ih =>
      simp only [List.map_cons, RDs]
      exact ⟨_, _, rfl, by simp [RD], ih⟩
  have und : ∀ ms : List Int, D.unds 0 (ms.map .int) = true := by
    intro ms
    induction ms with
    | nil => simp [D.unds]
    | cons m ms ih => simp [D.unds, D.und, ih]
  obtain ⟨S', hc⟩ := hc
  have vals := vals_ints hi
  have hlen := hi.length
  suffices road : ∀ H : Hp, (∀ b u, H b = some u → b = a ∧ (∃ o xs, u = .frz o (.lst xs)) ∧ K.lookup a = none) → FzL K H a (ns.map V.int) → HOk P w H s.heap →
      codeAny (model P w) callerA (.call (.ref fa) ⟨[.ref a], []⟩) (fun r s' => r = .ok (.ret (.bool true)) ∧ OldK s.heap s'.heap ∧ s'.os = s.os ∧ AllBare s'.gens) s by
    cases hk : K.lookup a with
    | some o =>
      have e := hK a o hk
      rw [ha] at e
      have e' := (Option.some.inj e).symm
      refine road (fun _ => none) (fun b u z => nomatch z) (.inr fun _ => .inr ⟨o, vs.toArray, _, hk, by rw [e'], by rw [e'], by rw [e'], by rw [List.size_toArray, hlen]; exact hl, by simpa using vals⟩) fun b u z => nomatch (show (none : Option HO) = some u from z)
    | none =>
      refine road (upd (fun _ => none) a (.frz { cls := .type "list", data := .seq vs.toArray } (.lst (ns.map V.int)))) (fun b u z => ?_) (.inl ⟨_, upd_same⟩) (fun b u z => ?_)
      · by_cases q : b = a
        · subst q
          rw [upd_same] at z
          cases z
          exact ⟨rfl, ⟨_, _, rfl⟩, hk⟩
        · rw [upd_ne q] at z
          cases z
      · by_cases q : b = a
        · subst q
          rw [upd_same] at z
          cases z
          exact ⟨ha, by rw [List.length_map]; exact hl, vs, _, vals, ha⟩
        · rw [upd_ne q] at z
          cases z
  intro H hH hf hok
  have free : ∀ {b : Addr} {o : Obj}, s.heap.get? b = some o → (∀ n, o.data ≠ .seq vs.toArray n) → H b = none := fun {b o} e hne => by
    cases q : H b with
    | none => rfl
    | some u =>
      obtain ⟨rfl, _, _⟩ := hH b u q
      rw [ha] at e
      cases e
      exact absurd rfl (hne 0)
  have kin : K.In (hidT s.heap H) := fun b o e => hidT_get (hK b o e) (by
    cases q : H b with
    | none => rfl
    | some u =>
      obtain ⟨rfl, _, z⟩ := hH b u q
      rw [z] at e
      cases e)
  have nsT : ∀ {b : Addr} {m : Str → Option Value}, s.heap.Ns b m → (hidT s.heap H).Ns b m := fun ⟨o, es, ep, e, d, r⟩ => ⟨o, es, ep, hidT_get e (free e fun n q => by rw [d] at q; cases q), d, r⟩
  have md : Mod K mg (hidT s.heap H) := ⟨kin, nsT hm, ⟨mb, nsT hB, hb2⟩, lim.imp fun mc q => ⟨nsT q.1, q.2⟩⟩
  have en : Env0 P w K mg (hidT s.heap H) callerA [] s H := ⟨rfl, md, fun b o e => of_hidT e, Nat.le_of_eq (hidT_size _ _), trivial, fun b hb => (by simpa [frs] using hb : False).elim, hok, .of_eq hg⟩
  have want : spD K 1 cl [.ref a] H (fun v _ => v = .bl true) fun _ _ _ => False := by
    refine ⟨rfl, [.frl (ns.map .int)], [], fun _ => 0, .bl true, S', ⟨fun k o h => by simp at h, fun k o h => by simp at h, fun j k h => by simp at h⟩, by simp [D.unds, D.und, und], ?_, hc, fun v H' M' _ _ _ hv => by simpa [RD] using hv⟩
    simp only [RDs, RD]
    exact ⟨_, [], rfl, ⟨a, _, rfl, hf, rel ns H _⟩, rfl⟩
  refine codeAny_mono ((F _ kin (nsT hm)).go callerA [] s H ⟨[.ref a], []⟩ [.ref a] [.ref a] _ _ hr rfl en (hbind s (.ref a)) (.cons rfl .nil) want) fun r s' h => ?_
  cases r with
  | error e => exact False.elim h
  | ok fl =>
    cases fl with
    | ret u =>
      obtain ⟨v, H', os, bare, un, hok', rv, ev⟩ := h
      have ev : v = .bl true := ev
      subst ev
      refine ⟨by rw [show u = Value.bool true from rv], OldK.of_keep fun b o e => ?_, os, bare⟩
      cases q : H b with
      | none => exact un.keep b o e q (by intro z; simp [frs] at z) (by simp)
      | some z =>
        obtain ⟨rfl, ⟨ob, xs, rfl⟩, _⟩ := hH b z q
        have o1 := (hok b _ q).1
        have o2 := (hok' b _ (un.frzs b ob _ q)).1
        rw [e] at o1
        cases o1
        exact o2
    | _ => exact False.elim h
end Ev

set_option Elab.async false
set_option linter.all false
set_option autoImplicit false
set_option maxRecDepth 100000
set_option maxHeartbeats 4000000
/-! Ev16: the module's constants; the head; a law by the evaluator. -/
namespace Ev
open PySem PySem.Spec PyProof.Rows L2 RT RZ

/-! ### constants of the module -/
mutual
def valB (K : PySem.W.Frag) : D → Value → Bool
  | .non, u => (match u with
    | .none => true
    | _ => false)
  | .bl b, u => (match u with
    | .bool c => b == c
    | _ => false)
  | .int i, u => (match u with
    | .int j _ => decide (i = j)
    | _ => false)
  | .str s, u => (match u with
    | .str t _ => decide (t = ⟨s.toArray⟩)
    | _ => false)
  | .tup ds, u => (match u with
    | .ref a => (match K.lookup a with
      | some ⟨.type c, _, .seq its _, _⟩ => decide (c = "tuple") && (decide (its.size ≤ sizeLine) && valBs K ds its.toList)
      | _ => false)
    | _ => false)
  | _, _ => false
def valBs (K : PySem.W.Frag) : List D → List Value → Bool
  | [], us => us.isEmpty
  | d :: ds, us => (match us with
    | u :: us => valB K d u && valBs K ds us
    | [] => false)
end
mutual
theorem valB_ok {K : PySem.W.Frag} : ∀ (d : D) (u : Value), valB K d u = true → d.pure = true ∧ ∃ v, RelV v u ∧ ∀ H M, RD K H M d v
  | .non, u, h => by
    simp only [valB] at h
    split at h
    · exact ⟨by simp [D.und], .non, rfl, fun H M => by simp [RD]⟩
    · cases h
  | .bl b, u, h => by
    simp only [valB] at h
    split at h
    · have := eq_of_beq h
      subst this
      exact ⟨by simp [D.und], .bl b, rfl, fun H M => by simp [RD]⟩
    · cases h
  | .int i, u, h => by
    simp only [valB] at h
    split at h
    · have := of_decide_eq_true h
      subst this
      exact ⟨by simp [D.und], .int i, ⟨_, rfl⟩, fun H M => by simp [RD]⟩
    · cases h
  | .str s, u, h => by
    simp only [valB] at h
    split at h
    · have := of_decide_eq_true h
      subst this
      exact ⟨by simp [D.und], .str _, ⟨_, rfl⟩, fun H M => by simp [RD]⟩
    · cases h
  | .tup ds, u, h => by
    simp only [valB] at h
    split at h
    · rename_i a
      split at h
      · rename_i c od its n sl hk
        simp only [Bool.and_eq_true, decide_eq_true_eq] at h
        obtain ⟨rfl, h2, h3⟩ := h
        obtain ⟨hp, vs, hv, hr⟩ := valBs_ok ds _ h3
        refine ⟨by simpa [D.und] using hp, .ref a, rfl, fun H M => ?_⟩
        simp only [RD]
        exact ⟨a, vs, rfl, .inr ⟨_, its, n, hk, rfl, rfl, h2, hv⟩, hr H M⟩
      · cases h
    · cases h
  | .ref _, u, h => by simp [valB] at h
  | .frl _, u, h => by simp [valB] at h
  | .exc _ _, u, h => by simp [valB] at h
theorem valBs_ok {K : PySem.W.Frag} : ∀ (ds : List D) (us : List Value), valBs K ds us = true → D.unds 0 ds = true ∧ ∃ vs, Vals vs us ∧ ∀ H M, RDs K H M ds vs
  | [], us, h => by
    simp only [valBs, List.isEmpty_iff] at h
    subst h
    exact ⟨by simp [D.unds], [], .nil, fun H M => by simp [RDs]⟩
  | d :: ds, us, h => by
    simp only [valBs] at h
    split at h
    · simp only [Bool.and_eq_true] at h
      obtain ⟨p1, v, r1, q1⟩ := valB_ok d _ h.1
      obtain ⟨p2, vs, r2, q2⟩ := valBs_ok ds _ h.2
      refine ⟨by simp only [D.unds, Bool.and_eq_true]; exact ⟨p1, p2⟩, v :: vs, .cons r1 r2, fun H M => ?_⟩
      simp only [RDs]
      exact ⟨v, vs, rfl, q1 H M, q2 H M⟩
    · cases h
end
/-- the constant x -/
def cnB (K : PySem.W.Frag) (c : Str × D) : Bool := match PySem.W.nsIn K mainGlobals c.1 with
  | some (some u) => valB K c.2 u
  | _ => false
def gcB (K : PySem.W.Frag) (g : Bool) : Bool := !g || (match PySem.W.nsIn K mainGlobals "gcd" with
  | some (some (.builtin id)) => decide (id = "math.gcd")
  | _ => false)
abbrev AlV : Type := He.AlD × Bool
def obV (fa : List He.Fa) (fn : List He.DefD) (cs : List (Str × D)) (g : Bool) (K : PySem.W.Frag) : AlV := (He.obsD fa fn K, cs.all (fun c => cnB K c) && gcB K g)
def obVG (n : Nat) (fa : List He.Fa) (fn : List He.DefD) (cs : List (Str × D)) (g : Bool) (h : Addr → Option Obj) : AlV := obV fa fn cs g (He.frG h (He.asD h n))
def hookV (n : Nat) (fa : List He.Fa) (fn : List He.DefD) (cs : List (Str × D)) (g : Bool) : PySem.W.Hook where
  α := AlV
  obs := fun s => obVG n fa fn cs g s.heap.get?
  val := fun _ => (He.valD fn, true)
  says := fun _ h => ∃ K : PySem.W.Frag, K.In h ∧ obV fa fn cs g K = (He.valD fn, true)
  of := fun _ _ e => ⟨_, He.frG_in, e⟩
  keeps := fun _ _ _ ⟨K, hK, c⟩ k => ⟨K, PySem.W.Frag.In.keeps hK k, c⟩
theorem obVG_eq {n : Nat} {fa : List He.Fa} {fn : List He.DefD} {cs : List (Str × D)} {g : Bool} {h : Addr → Option Obj} {s : Shared} (e : ∀ a, h a = s.heap.get? a) : obVG n fa fn cs g h = (hookV n fa fn cs g).obs s := by
  have e2 : h = s.heap.get? := funext e
  rw [e2]
  rfl

/-! ### a law -/
def Df.dd (d : Df) : He.DefD := ⟨(d.x, none), d.nm, d.nm, d.args, d.body, d.sc, [], []⟩
def freeNames : List Str := ["int", "str", "tuple", "list", "len", "repr", "min", "max", "sum", "any", "all", "abs", "isinstance", "range", "enumerate", "zip", "reversed", "bool", "dict", "sorted", "set"]
def factsOf (Ds : List Df) : List He.Fa := (Ds.map fun d => He.Fa.glo d.x) ++ freeNames.map He.Fa.free
/-- how a def binds its arguments -/
def Df.binds (d : Df) : Prop := ∀ (kV doc pm : Value) (an : Option Addr) (cdv ct : Value) (us : List Value), us.length = d.ps.length → bindArgs (PySem.W.fnOf d.nm d.nm d.args d.body d.sc .none kV doc pm an cdv ct) ⟨us, []⟩ = pure (d.ps.zip us)
structure Law where
  Ds : List Df
  cs : List (Str × D)
  g : Bool
  /-- the law's own def -/
  at_ : Nat
  /-- a bound of a loop's turns, of the calls within calls -/
  W : Nat
  k : Nat
def Law.T (L : Law) : Tb := ⟨L.Ds.map (·.x), L.cs.map (·.1), L.g⟩
def Law.fa (L : Law) : List He.Fa := factsOf L.Ds
def Law.fn (L : Law) : List He.DefD := L.Ds.map Df.dd
def Law.gl (L : Law) : List D := L.cs.map (·.2)
def Law.prog (L : Law) : List Fn := L.Ds.map (·.ir)
def Law.run (L : Law) (ns : List Int) : Res := callN L.prog L.gl L.W L.k L.at_ [.frl (ns.map .int)] []
theorem walk_ev {l : PySem.W.OpenLaw} {n : Nat} {q : Program} {loose : List Str} {XP : (Str → Option Value) → Heap → Prop} {d : DefRec} (L : Law) {m : Nat} {dl : Df}
    (hn : l.most = some n) (hn2 : n ≤ sizeLine) (hdf : d.params.defaults = []) (hr : Room L.k callerA) (hok : ∀ d ∈ L.Ds, d.ok L.T = true) (hb : ∀ d ∈ L.Ds, d.binds) (hl : L.Ds[L.at_]? = some dl) (hx : d.name = dl.x) (hps : dl.ps = ([("script" : Str)] : List Str))
    (hrun : ∀ ns : List Int, ns.length ≤ n → ∃ S', L.run ns = .ok (.bl true) S') :
    PySem.W.WalkO q loose XP (hookV m L.fa L.fn L.cs L.g).says l.row.toRowW d [] (fun f vs => PySem.call f vs) := by
  refine Att.attach_call hn hdf fun w s₀ s₁ mg mb fa o pm cd doc a vs ns G Y ho hd hcd hmg hobj hints hlen hg => ?_
  obtain ⟨K, KX, c⟩ := Y
  have c1 : He.SaysD L.fa L.fn K := congrArg (fun z : AlV => z.1) c
  have c2 : (L.cs.all (fun c => cnB K c) && gcB K L.g) = true := congrArg (fun z : AlV => z.2) c
  simp only [Bool.and_eq_true, List.all_eq_true] at c2
  have GN := G.T.g
  have hfree : ∀ y ∈ freeNames, mg y = none := fun y hy => He.free_ok KX GN (c1.facts (List.mem_append_right _ (List.mem_map.mpr ⟨y, hy, rfl⟩)))
  have hglo : ∀ d ∈ L.Ds, mg d.x = some (.ref (He.ga K d.x)) := fun d hd => He.glo_ok KX GN (c1.facts (List.mem_append_left _ (List.mem_map.mpr ⟨d, hd, rfl⟩)))
  have gf : GF L.T L.gl K mg := by
    refine ⟨fun g y d hy hd => ?_, fun y hy => hfree y hy, fun hg => ?_⟩
    · have e1 : (L.cs.map (·.1))[g]? = some y := hy
      have e2 : (L.cs.map (·.2))[g]? = some d := hd
      rw [List.getElem?_map] at e1 e2
      cases hc : L.cs[g]? with
      | none => rw [hc] at e1; cases e1
      | some p =>
        rw [hc] at e1 e2
        cases e1
        cases e2
        have q := c2.1 p (List.mem_of_getElem? hc)
        unfold cnB at q
        split at q
        · rename_i u hu
          obtain ⟨p1, v, r1, q1⟩ := valB_ok _ _ q
          exact ⟨u, v, PySem.W.mg_of KX GN hu, r1, q1, p1⟩
        · cases q
    · have q := c2.2
      have hg : L.g = true := hg
      unfold gcB at q
      rw [hg] at q
      simp only [Bool.not_true, Bool.false_or] at q
      split at q
      · rename_i id hid
        have e := of_decide_eq_true q
        subst e
        exact PySem.W.mg_of KX GN hid
      · cases q
  have dfs0 : ∀ i : Nat, ∃ p : Addr × FuncData, ∀ d : Df, L.Ds[i]? = some d → FunD K d.nm d.nm d.args d.body d.sc [] [] p.1 p.2 ∧ mg d.x = some (.ref p.1) ∧ Binds K p.2 d.ps [] := fun i => by
    cases hd : L.Ds[i]? with
    | none =>
      cases hl' : L.Ds[L.at_]? with
      | none => rw [hl'] at hl; cases hl
      | some d =>
        obtain ⟨fd, _⟩ := c1.defs (d := d.dd) (List.mem_map.mpr ⟨d, List.mem_of_getElem? hl', rfl⟩)
        exact ⟨(0, fd), fun d h => nomatch h⟩
    | some d =>
      have hm := List.mem_of_getElem? hd
      obtain ⟨fd, F⟩ := c1.defs (d := d.dd) (List.mem_map.mpr ⟨d, hm, rfl⟩)
      have F' : FunD K d.nm d.nm d.args d.body d.sc [] [] (He.ga K d.x) fd := F
      refine ⟨(He.ga K d.x, fd), fun d' h => ?_⟩
      cases h
      exact ⟨F', hglo d hm, F'.bindsN (hb d hm)⟩
  have dfs : DfsAt L.Ds K mg fun i => Classical.choose (dfs0 i) := fun i d hd => Classical.choose_spec (dfs0 i) d hd
  have dmem := List.mem_of_getElem? hl
  obtain ⟨F', hm', _⟩ := dfs L.at_ dl hl
  have efa : fa = (Classical.choose (dfs0 L.at_)).1 := by
    have e := hmg
    rw [hx, hm'] at e
    cases e
    rfl
  refine call_end (K := K) (mg := mg) (mb := mb) (k := L.k) (x := "script") (fd := (Classical.choose (dfs0 L.at_)).2) (cl := callN L.prog L.gl L.W L.k L.at_) KX GN G.T.b G.T.builtins G.T.nolimit hg hobj hints (Nat.le_trans hlen hn2) hr (fun base hKb hNb => ?_) (fun s u => ?_) (hrun ns hlen)
  · obtain ⟨G2, _⟩ := fns_ok (P := l.prog) (w := w) (base := base) (W := L.W) (gl := L.gl) (T := L.T) rfl (fun i d hd => hok d (List.mem_of_getElem? hd)) gf dfs L.k L.at_ dl hl
    rw [hps] at G2
    rw [efa]
    exact G2
  · have := F'.bindsA (hb dl dmem) s [u] (by rw [hps]; rfl)
    rw [hps] at this
    exact this
end Ev

set_option Elab.async false
set_option linter.all false
set_option autoImplicit false
set_option maxRecDepth 100000
set_option maxHeartbeats 4000000
/-! Sy: how a term is run by hand: stores, loops. -/
namespace Ev

/-! ### stores -/
theorem st_get (S l : Sto) (k : Nat) : (S ++ l)[S.length + k]? = l[k]? := by
  rw [List.getElem?_append_right (by omega)]
  congr 1
  omega
theorem st_get0 (S l : Sto) : (S ++ l)[S.length]? = l[0]? := by
  have := st_get S l 0
  simpa using this
theorem st_set (S l : Sto) (k : Nat) (o : Ob) : (S ++ l).set (S.length + k) o = S ++ l.set k o := by
  rw [List.set_append_right _ _ (by omega)]
  congr 2
  omega
theorem st_set0 (S l : Sto) (o : Ob) : (S ++ l).set S.length o = S ++ l.set 0 o := by
  have := st_set S l 0 o
  simpa using this
theorem st_alloc (S l : Sto) (o : Ob) : alloc o (S ++ l) = .ok (.ref (S.length + l.length)) (S ++ (l ++ [o])) := by
  unfold alloc
  rw [List.length_append, List.append_assoc]
theorem st_alloc0 (S : Sto) (o : Ob) : alloc o S = .ok (.ref S.length) (S ++ [o]) := rfl
theorem trim_pure {S l : Sto} {d : D} (h : d.und S.length = true) : trim S.length d (S ++ l) = .ok d S := by
  unfold trim
  rw [if_pos h, List.take_left]
theorem trim_pure0 {S : Sto} {d : D} (h : d.und S.length = true) : trim S.length d S = .ok d S := by
  have := trim_pure (l := []) h
  simpa using this
theorem trim_lst {S l : Sto} {k : Nat} {xs : List D} (hk : l[k]? = some (.lst xs)) (h : D.unds S.length xs = true) : trim S.length (.ref (S.length + k)) (S ++ l) = .ok (.ref S.length) (S ++ [.lst xs]) := by
  unfold trim
  rw [if_neg (by simp [D.und])]
  dsimp only
  rw [st_get, hk]
  dsimp only
  rw [if_pos ⟨by omega, h⟩, List.take_left]
theorem trim_lst0 {S l : Sto} {xs : List D} (hk : l[0]? = some (.lst xs)) (h : D.unds S.length xs = true) : trim S.length (.ref S.length) (S ++ l) = .ok (.ref S.length) (S ++ [.lst xs]) := by
  have := trim_lst (k := 0) hk h
  simpa using this
theorem trim_keep {S l : Sto} {k : Nat} {xs : List D} (hk : l[k]? = some (.lst xs)) (h : D.unds S.length xs = false) : trim S.length (.ref (S.length + k)) (S ++ l) = .ok (.ref (S.length + k)) (S ++ l) := by
  unfold trim
  rw [if_neg (by simp [D.und])]
  dsimp only
  rw [st_get, hk]
  dsimp only
  rw [if_neg (by show ¬ (S.length ≤ S.length + k ∧ D.unds S.length xs = true); rw [h]; simp)]
theorem tidy_app (S l : Sto) (d : D) : tidy S d (S ++ l) = trim S.length d (S ++ l) := by
  unfold tidy
  rw [List.take_left, if_pos rfl]
theorem tidy_same (S : Sto) (d : D) : tidy S d S = trim S.length d S := by
  have := tidy_app S [] d
  simpa using this
/-! ### walks -/
theorem lcL_pure {w : List (Nat × Ob)} {bd : D → Option Env} {c e : Env → Sto → Res} {S : Sto} (hw : wOk S w = true) {p : D → Bool} {f : D → D} : ∀ {xs : List D}, (∀ x ∈ xs, ∃ ρ, bd x = some ρ ∧ c ρ S = .ok (.bl (p x)) S ∧ (p x = true → e ρ S = .ok (f x) S)) →
    lcL w bd c e xs S = .ok ((xs.filter p).map f) S
  | [], _ => by simp [lcL, hw]
  | x :: xs, h => by
    obtain ⟨ρ, h1, h2, h3⟩ := h x List.mem_cons_self
    have ih := lcL_pure hw (p := p) (f := f) (xs := xs) fun y hy => h y (List.mem_cons_of_mem _ hy)
    unfold lcL
    rw [if_pos hw, h1]
    simp only [h2, Res.bindL]
    cases hp : p x with
    | true => simp [h3 hp, ih, hp]
    | false => simp [ih, hp]
theorem lcL_map {w : List (Nat × Ob)} {bd : D → Option Env} {c e : Env → Sto → Res} {S : Sto} (hw : wOk S w = true) {f : D → D} {xs : List D} (h : ∀ x ∈ xs, ∃ ρ, bd x = some ρ ∧ c ρ S = .ok (.bl true) S ∧ e ρ S = .ok (f x) S) :
    lcL w bd c e xs S = .ok (xs.map f) S := by
  have := lcL_pure (p := fun _ => true) (f := f) hw (xs := xs) (bd := bd) (c := c) (e := e) fun x hx => by
    obtain ⟨ρ, h1, h2, h3⟩ := h x hx
    exact ⟨ρ, h1, h2, fun _ => h3⟩
  rw [List.filter_eq_self.mpr fun _ _ => rfl] at this
  exact this
/-- items that make things: P by the items so far -/
theorem lcL_ind {w : List (Nat × Ob)} {bd : D → Option Env} {c e : Env → Sto → Res} (P : Nat → List D → Sto → Prop) {xs : List D} {S : Sto} (h0 : P 0 [] S) (hw : ∀ i ds S, P i ds S → wOk S w = true)
    (hs : ∀ (i : Nat) (x : D) (ds : List D) (S : Sto), xs[i]? = some x → P i ds S → ∃ ρ, bd x = some ρ ∧ ((∃ d S1 S2, c ρ S = .ok (.bl true) S1 ∧ e ρ S1 = .ok d S2 ∧ P (i + 1) (ds ++ [d]) S2) ∨ ∃ S1, c ρ S = .ok (.bl false) S1 ∧ P (i + 1) ds S1)) :
    ∃ ds S', lcL w bd c e xs S = .ok ds S' ∧ P xs.length ds S' := by
  have key : ∀ (m : Nat) (ys : List D) (i : Nat) (acc : List D) (S : Sto), ys.length = m → i + m = xs.length → ys = xs.drop i → P i acc S → ∃ ds S', lcL w bd c e ys S = .ok ds S' ∧ P xs.length (acc ++ ds) S' := by
    intro m
    induction m with
    | zero =>
      intro ys i acc S hl hi hy hP
      have e : ys = [] := List.eq_nil_of_length_eq_zero hl
      subst e
      refine ⟨[], S, ?_, ?_⟩
      · unfold lcL
        rw [if_pos (hw i acc S hP)]
      · rw [List.append_nil, ← hi]
        exact hP
    | succ m ih =>
      intro ys i acc S hl hi hy hP
      cases ys with
      | nil => cases hl
      | cons y ys =>
        have hx : xs[i]? = some y := by
          have : (xs.drop i)[0]? = some y := by rw [← hy]; rfl
          rw [List.getElem?_drop] at this
          exact this
        have hd : ys = xs.drop (i + 1) := by
          have : (xs.drop i).drop 1 = ys := by rw [← hy]; rfl
          rw [List.drop_drop] at this
          exact this.symm
        obtain ⟨ρ, h1, h⟩ := hs i y acc S hx hP
        unfold lcL
        rw [if_pos (hw i acc S hP), h1]
        rcases h with ⟨d, S1, S2, h2, h3, h4⟩ | ⟨S1, h2, h3⟩
        · obtain ⟨ds, S', h5, h6⟩ := ih ys (i + 1) (acc ++ [d]) S2 (by simpa using hl) (by omega) hd h4
          refine ⟨d :: ds, S', ?_, by simpa using h6⟩
          simp [h2, h3, h5, Res.bindL]
        · obtain ⟨ds, S', h5, h6⟩ := ih ys (i + 1) acc S1 (by simpa using hl) (by omega) hd h3
          refine ⟨ds, S', ?_, h6⟩
          simp [h2, h5, Res.bindL]
  obtain ⟨ds, S', h1, h2⟩ := key xs.length xs 0 [] S rfl (by omega) (by simp) h0
  exact ⟨ds, S', h1, by simpa using h2⟩
/-- a for that runs to its end -/
theorem forL_ind {w : List (Nat × Ob)} {bd : D → Env → Option Env} {ks : List Nat} {body : Env → Sto → Fl} (P : Nat → Env → Sto → Prop) {xs : List D} {ρ : Env} {S : Sto} (h0 : P 0 ρ S) (hw : ∀ i ρ S, P i ρ S → wOk S w = true)
    (hs : ∀ (i : Nat) (x : D) (ρ : Env) (S : Sto), xs[i]? = some x → P i ρ S → ∃ ρ1 ρ2 S2, bd x (kill ks ρ) = some ρ1 ∧ (body ρ1 S = .nx ρ2 S2 ∨ body ρ1 S = .ct ρ2 S2) ∧ P (i + 1) ρ2 S2) :
    ∃ ρ' S', forL w bd ks body xs ρ S = .nx (kill ks ρ') S' ∧ P xs.length ρ' S' := by
  have key : ∀ (m : Nat) (ys : List D) (i : Nat) (ρ : Env) (S : Sto), ys.length = m → i + m = xs.length → ys = xs.drop i → P i ρ S → ∃ ρ' S', forL w bd ks body ys ρ S = .nx (kill ks ρ') S' ∧ P xs.length ρ' S' := by
    intro m
    induction m with
    | zero =>
      intro ys i ρ S hl hi hy hP
      have e : ys = [] := List.eq_nil_of_length_eq_zero hl
      subst e
      refine ⟨ρ, S, ?_, by rw [← hi]; exact hP⟩
      unfold forL
      rw [if_pos (hw i ρ S hP)]
    | succ m ih =>
      intro ys i ρ S hl hi hy hP
      cases ys with
      | nil => cases hl
      | cons y ys =>
        have hx : xs[i]? = some y := by
          have : (xs.drop i)[0]? = some y := by rw [← hy]; rfl
          rw [List.getElem?_drop] at this
          exact this
        have hd : ys = xs.drop (i + 1) := by
          have : (xs.drop i).drop 1 = ys := by rw [← hy]; rfl
          rw [List.drop_drop] at this
          exact this.symm
        obtain ⟨ρ1, ρ2, S2, h1, h2, h3⟩ := hs i y ρ S hx hP
        obtain ⟨ρ', S', h4, h5⟩ := ih ys (i + 1) ρ2 S2 (by simpa using hl) (by omega) hd h3
        refine ⟨ρ', S', ?_, h5⟩
        unfold forL
        rw [if_pos (hw i ρ S hP), h1]
        rcases h2 with h2 | h2 <;> simp [h2, h4]
  exact key xs.length xs 0 ρ S rfl (by omega) (by simp) h0
/-- a for that is left by a return (or whatever else) at some turn, or runs to its end: both by the wanted flow -/
theorem forL_any {w : List (Nat × Ob)} {bd : D → Env → Option Env} {ks : List Nat} {body : Env → Sto → Fl} (P : Nat → Env → Sto → Prop) (W : Fl → Prop) {xs : List D} {ρ : Env} {S : Sto} (h0 : P 0 ρ S) (hw : ∀ i ρ S, P i ρ S → wOk S w = true)
    (hs : ∀ (i : Nat) (x : D) (ρ : Env) (S : Sto), xs[i]? = some x → P i ρ S → ∃ ρ1, bd x (kill ks ρ) = some ρ1 ∧ ((∃ ρ2 S2, (body ρ1 S = .nx ρ2 S2 ∨ body ρ1 S = .ct ρ2 S2) ∧ P (i + 1) ρ2 S2) ∨ (∃ ρ2 S2, body ρ1 S = .bk ρ2 S2 ∧ W (.nx (kill ks ρ2) S2)) ∨ ∃ d S2, body ρ1 S = .rt d S2 ∧ W (.rt d S2)))
    (hd : ∀ ρ S, P xs.length ρ S → W (.nx (kill ks ρ) S)) : W (forL w bd ks body xs ρ S) := by
  have key : ∀ (m : Nat) (ys : List D) (i : Nat) (ρ : Env) (S : Sto), ys.length = m → i + m = xs.length → ys = xs.drop i → P i ρ S → W (forL w bd ks body ys ρ S) := by
    intro m
    induction m with
    | zero =>
      intro ys i ρ S hl hi hy hP
      have e : ys = [] := List.eq_nil_of_length_eq_zero hl
      subst e
      unfold forL
      rw [if_pos (hw i ρ S hP)]
      exact hd ρ S (by rw [← hi]; exact hP)
    | succ m ih =>
      intro ys i ρ S hl hi hy hP
      cases ys with
      | nil => cases hl
      | cons y ys =>
        have hx : xs[i]? = some y := by
          have : (xs.drop i)[0]? = some y := by rw [← hy]; rfl
          rw [List.getElem?_drop] at this
          exact this
        have hd : ys = xs.drop (i + 1) := by
          have : (xs.drop i).drop 1 = ys := by rw [← hy]; rfl
          rw [List.drop_drop] at this
          exact this.symm
        obtain ⟨ρ1, h1, h⟩ := hs i y ρ S hx hP
        unfold forL
        rw [if_pos (hw i ρ S hP), h1]
        rcases h with ⟨ρ2, S2, h2, h3⟩ | ⟨ρ2, S2, h2, h3⟩ | ⟨d, S2, h2, h3⟩
        · have := ih ys (i + 1) ρ2 S2 (by simpa using hl) (by omega) hd h3
          rcases h2 with h2 | h2 <;> simpa [h2] using this
        · simpa [h2] using h3
        · simpa [h2] using h3
  exact key xs.length xs 0 ρ S rfl (by omega) (by simp) h0
theorem seq_nx {C : Cf} {s : St} {r : Ss} {ρ ρ1 : Env} {S S1 : Sto} (h : evS C s ρ S = .nx ρ1 S1) : evSs C (.cons s r) ρ S = evSs C r ρ1 S1 := by
  simp only [evSs, h]
theorem rngL_ints : ∀ (n : Nat) (lo : Int), rngL lo n = (List.range n).map fun i => D.int (lo + (i : Nat))
  | 0, _ => rfl
  | n + 1, lo => by
    rw [List.range_succ_eq_map, List.map_cons, List.map_map]
    simp only [rngL]
    rw [rngL_ints n (lo + 1)]
    congr 1
    · congr 1
      omega
    · apply List.map_congr_left
      intro i _
      show D.int _ = D.int (lo + ((i + 1 : Nat) : Int))
      congr 1
      omega
end Ev

set_option Elab.async false
set_option linter.all false
set_option autoImplicit false
set_option maxRecDepth 100000
set_option maxHeartbeats 4000000
/-! Sl: the evaluator's equations, one a step, without binders (printed by mksl.py). -/
namespace Ev
def varK : Option (Option D) → Sto → Res
  | some (some d), S => .ok d S
  | _, _ => .st
def gloK : Option D → Sto → Res
  | some d, S => .ok d S
  | none, _ => .st
theorem l_var {C : Cf} {ρ : Env} {S : Sto} {i : Nat} : evE C (.var i) ρ S = varK ρ[i]? S := by
  simp only [evE]
  cases h : ρ[i]? with
  | none => rfl
  | some o => cases o <;> rfl
theorem l_var1 {S : Sto} {d : D} : varK (some (some d)) S = .ok d S := rfl
theorem l_glo {C : Cf} {ρ : Env} {S : Sto} {i : Nat} : evE C (.glo i) ρ S = gloK C.gl[i]? S := by
  simp only [evE]
  cases C.gl[i]? <;> rfl
theorem l_glo1 {S : Sto} {d : D} : gloK (some d) S = .ok d S := rfl
theorem l_cst {C : Cf} {ρ : Env} {S : Sto} {d : D} : evE C (.cst d) ρ S = .ok d S := by simp only [evE]
def kL2 (d : D) : ResL → ResL
  | .ok ds S => .ok (d :: ds) S
  | .ex x S => .ex x S
  | .st => .st
def kL1 (C : Cf) (es : Es) (ρ : Env) : Res → ResL
  | .ok d S => kL2 d (evEs C es ρ S)
  | .ex x S => .ex x S
  | .st => .st
theorem l_nil {C : Cf} {ρ : Env} {S : Sto} : evEs C .nil ρ S = .ok [] S := by simp only [evEs]
theorem l_cons {C : Cf} {ρ : Env} {S : Sto} {e : E} {es : Es} : evEs C (.cons e es) ρ S = kL1 C es ρ (evE C e ρ S) := by
  simp only [evEs]
  cases evE C e ρ S with
  | ok d S1 =>
    simp only [Res.bindL, kL1]
    cases evEs C es ρ S1 <;> rfl
  | ex _ _ => rfl
  | st => rfl
theorem l_L1 {C : Cf} {es : Es} {ρ : Env} {d : D} {S : Sto} : kL1 C es ρ (.ok d S) = kL2 d (evEs C es ρ S) := rfl
theorem l_L2 {d : D} {ds : List D} {S : Sto} : kL2 d (.ok ds S) = .ok (d :: ds) S := rfl
def negop : D → Sto → Res
  | .int i, S => .ok (.int (-i)) S
  | _, _ => .st
def notop : D → Sto → Res
  | .bl b, S => .ok (.bl (!b)) S
  | _, _ => .st
def k_neg  : Res → Res
  | .ok x S => negop x S
  | .ex x S => .ex x S
  | .st => .st
theorem l_neg {C : Cf} {ρ : Env} {S : Sto}  {a : E} : evE C (.neg a) ρ S = k_neg (evE C a ρ S) := by
  simp only [evE]
  cases evE C a ρ S with
  | ok d _ => first | rfl | (cases d <;> rfl)
  | ex _ _ => rfl
  | st => rfl
theorem l_neg1  {x : D} {S : Sto} : k_neg (.ok x S) = negop x S := rfl
def k_not  : Res → Res
  | .ok x S => notop x S
  | .ex x S => .ex x S
  | .st => .st
theorem l_not {C : Cf} {ρ : Env} {S : Sto}  {a : E} : evE C (.not a) ρ S = k_not (evE C a ρ S) := by
  simp only [evE]
  cases evE C a ρ S with
  | ok d _ => first | rfl | (cases d <;> rfl)
  | ex _ _ => rfl
  | st => rfl
theorem l_not1  {x : D} {S : Sto} : k_not (.ok x S) = notop x S := rfl
def k_rev  : Res → Res
  | .ok x S => revop x S
  | .ex x S => .ex x S
  | .st => .st
theorem l_rev {C : Cf} {ρ : Env} {S : Sto}  {a : E} : evE C (.rev a) ρ S = k_rev (evE C a ρ S) := by
  simp only [evE]
  cases evE C a ρ S with
  | ok d _ => first | rfl | (cases d <;> rfl)
  | ex _ _ => rfl
  | st => rfl
theorem l_rev1  {x : D} {S : Sto} : k_rev (.ok x S) = revop x S := rfl
def k_lrg  : Res → Res
  | .ok x S => lrgop x S
  | .ex x S => .ex x S
  | .st => .st
theorem l_lrg {C : Cf} {ρ : Env} {S : Sto}  {a : E} : evE C (.lrg a) ρ S = k_lrg (evE C a ρ S) := by
  simp only [evE]
  cases evE C a ρ S with
  | ok d _ => first | rfl | (cases d <;> rfl)
  | ex _ _ => rfl
  | st => rfl
theorem l_lrg1  {x : D} {S : Sto} : k_lrg (.ok x S) = lrgop x S := rfl
def k_cdx (kvs : List (List Nat × List Nat)) : Res → Res
  | .ok x S => cdxop kvs x S
  | .ex x S => .ex x S
  | .st => .st
theorem l_cdx {C : Cf} {ρ : Env} {S : Sto} {kvs : List (List Nat × List Nat)} {a : E} : evE C (.cdx kvs a) ρ S = k_cdx kvs (evE C a ρ S) := by
  simp only [evE]
  cases evE C a ρ S with
  | ok d _ => first | rfl | (cases d <;> rfl)
  | ex _ _ => rfl
  | st => rfl
theorem l_cdx1 {kvs : List (List Nat × List Nat)} {x : D} {S : Sto} : k_cdx kvs (.ok x S) = cdxop kvs x S := rfl
def iscop (o : Isk) (x : D) (S : Sto) : Res := match isop o x with
  | some b => .ok (.bl b) S
  | none => .st
def k_isc (o : Isk) : Res → Res
  | .ok x S => iscop o x S
  | .ex x S => .ex x S
  | .st => .st
theorem l_isc {C : Cf} {ρ : Env} {S : Sto} {o : Isk} {a : E} : evE C (.isc o a) ρ S = k_isc o (evE C a ρ S) := by
  simp only [evE]
  cases evE C a ρ S with
  | ok d _ => first | rfl | (cases d <;> rfl)
  | ex _ _ => rfl
  | st => rfl
theorem l_isc1 {o : Isk} {x : D} {S : Sto} : k_isc o (.ok x S) = iscop o x S := rfl
def k_tdy (S0 : Sto) : Res → Res
  | .ok x S => tidy S0 x S
  | .ex x S => .ex x S
  | .st => .st
theorem l_tdy {C : Cf} {ρ : Env} {S : Sto} {a : E} : evE C (.tdy a) ρ S = k_tdy S (evE C a ρ S) := by
  simp only [evE]
  cases evE C a ρ S <;> rfl
theorem l_tdy1 {S0 : Sto} {x : D} {S : Sto} : k_tdy S0 (.ok x S) = tidy S0 x S := rfl
def k_bin2 (o : Bop) (x : D) : Res → Res
  | .ok y S => binop o x y S
  | .ex x S => .ex x S
  | .st => .st
def k_bin (C : Cf) (o : Bop) (b : E) (ρ : Env) : Res → Res
  | .ok x S => k_bin2 o x (evE C b ρ S)
  | .ex x S => .ex x S
  | .st => .st
theorem l_bin {C : Cf} {ρ : Env} {S : Sto} {o : Bop} {a b : E} : evE C (.bin o a b) ρ S = k_bin C o b ρ (evE C a ρ S) := by
  simp only [evE]
  cases evE C a ρ S with
  | ok d S1 =>
    simp only [Res.bind, k_bin]
    cases evE C b ρ S1 <;> rfl
  | ex _ _ => rfl
  | st => rfl
theorem l_bin1 {C : Cf} {ρ : Env} {S : Sto} {o : Bop} {b : E} {x : D} : k_bin C o b ρ (.ok x S) = k_bin2 o x (evE C b ρ S) := rfl
theorem l_bin2 {S : Sto} {o : Bop} {x y : D} : k_bin2 o x (.ok y S) = binop o x y S := rfl
def k_cmp2 (o : Cop) (x : D) : Res → Res
  | .ok y S => cmpop o x y S
  | .ex x S => .ex x S
  | .st => .st
def k_cmp (C : Cf) (o : Cop) (b : E) (ρ : Env) : Res → Res
  | .ok x S => k_cmp2 o x (evE C b ρ S)
  | .ex x S => .ex x S
  | .st => .st
theorem l_cmp {C : Cf} {ρ : Env} {S : Sto} {o : Cop} {a b : E} : evE C (.cmp o a b) ρ S = k_cmp C o b ρ (evE C a ρ S) := by
  simp only [evE]
  cases evE C a ρ S with
  | ok d S1 =>
    simp only [Res.bind, k_cmp]
    cases evE C b ρ S1 <;> rfl
  | ex _ _ => rfl
  | st => rfl
theorem l_cmp1 {C : Cf} {ρ : Env} {S : Sto} {o : Cop} {b : E} {x : D} : k_cmp C o b ρ (.ok x S) = k_cmp2 o x (evE C b ρ S) := rfl
theorem l_cmp2 {S : Sto} {o : Cop} {x y : D} : k_cmp2 o x (.ok y S) = cmpop o x y S := rfl
def k_idx2 (x : D) : Res → Res
  | .ok y S => idxop x y S
  | .ex x S => .ex x S
  | .st => .st
def k_idx (C : Cf) (b : E) (ρ : Env) : Res → Res
  | .ok x S => k_idx2 x (evE C b ρ S)
  | .ex x S => .ex x S
  | .st => .st
theorem l_idx {C : Cf} {ρ : Env} {S : Sto} {a b : E} : evE C (.idx a b) ρ S = k_idx C b ρ (evE C a ρ S) := by
  simp only [evE]
  cases evE C a ρ S with
  | ok d S1 =>
    simp only [Res.bind, k_idx]
    cases evE C b ρ S1 <;> rfl
  | ex _ _ => rfl
  | st => rfl
theorem l_idx1 {C : Cf} {ρ : Env} {S : Sto} {b : E} {x : D} : k_idx C b ρ (.ok x S) = k_idx2 x (evE C b ρ S) := rfl
theorem l_idx2 {S : Sto} {x y : D} : k_idx2 x (.ok y S) = idxop x y S := rfl
def k_chn4 (p : Cop) (y : D) : Res → Res
  | .ok u S => cmpop p y u S
  | .ex x S => .ex x S
  | .st => .st
def k_chn3 (C : Cf) (p : Cop) (c : E) (ρ : Env) (y : D) : Res → Res
  | .ok (.bl true) S => k_chn4 p y (evE C c ρ S)
  | .ok (.bl false) S => .ok (.bl false) S
  | .ok _ _ => .st
  | .ex x S => .ex x S
  | .st => .st
def k_chn2 (C : Cf) (o p : Cop) (c : E) (ρ : Env) (x : D) : Res → Res
  | .ok y S => k_chn3 C p c ρ y (cmpop o x y S)
  | .ex x S => .ex x S
  | .st => .st
def k_chn (C : Cf) (o p : Cop) (b c : E) (ρ : Env) : Res → Res
  | .ok x S => k_chn2 C o p c ρ x (evE C b ρ S)
  | .ex x S => .ex x S
  | .st => .st
theorem l_chn {C : Cf} {ρ : Env} {S : Sto} {o p : Cop} {a b c : E} : evE C (.chn o p a b c) ρ S = k_chn C o p b c ρ (evE C a ρ S) := by
  simp only [evE]
  cases evE C a ρ S with
  | ok x S1 =>
    simp only [Res.bind, k_chn]
    cases evE C b ρ S1 with
    | ok y S2 =>
      simp only [Res.bind, k_chn2]
      cases cmpop o x y S2 with
      | ok z S3 =>
        simp only [Res.bind, k_chn3]
        split
        · simp only [Res.bind, k_chn3]
          cases evE C c ρ S3 <;> rfl
        · rfl
        · rename_i h1 h2
          cases z with
          | bl b => cases b with
            | true => exact absurd rfl h1
            | false => exact absurd rfl h2
          | _ => rfl
      | ex _ _ => rfl
      | st => rfl
    | ex _ _ => rfl
    | st => rfl
  | ex _ _ => rfl
  | st => rfl
theorem l_chn1 {C : Cf} {ρ : Env} {S : Sto} {o p : Cop} {b c : E} {x : D} : k_chn C o p b c ρ (.ok x S) = k_chn2 C o p c ρ x (evE C b ρ S) := rfl
theorem l_chn2 {C : Cf} {ρ : Env} {S : Sto} {o p : Cop} {c : E} {x y : D} : k_chn2 C o p c ρ x (.ok y S) = k_chn3 C p c ρ y (cmpop o x y S) := rfl
theorem l_chn3 {C : Cf} {ρ : Env} {S : Sto} {p : Cop} {c : E} {y : D} : k_chn3 C p c ρ y (.ok (.bl true) S) = k_chn4 p y (evE C c ρ S) := rfl
theorem l_chn3f {C : Cf} {ρ : Env} {S : Sto} {p : Cop} {c : E} {y : D} : k_chn3 C p c ρ y (.ok (.bl false) S) = .ok (.bl false) S := rfl
theorem l_chn4 {S : Sto} {p : Cop} {y u : D} : k_chn4 p y (.ok u S) = cmpop p y u S := rfl
def k_ite (C : Cf) (a b : E) (ρ : Env) : Res → Res
  | .ok (.bl true) S => evE C a ρ S
  | .ok (.bl false) S => evE C b ρ S
  | .ok _ _ => .st
  | .ex x S => .ex x S
  | .st => .st
theorem l_ite {C : Cf} {ρ : Env} {S : Sto} {c a b : E} : evE C (.ite c a b) ρ S = k_ite C a b ρ (evE C c ρ S) := by
  simp only [evE]
  cases evE C c ρ S with
  | ok x S1 =>
    simp only [Res.bind]
    cases x with
    | bl b => cases b <;> rfl
    | _ => rfl
  | ex _ _ => rfl
  | st => rfl
theorem l_iteT {C : Cf} {ρ : Env} {S : Sto} {a b : E} : k_ite C a b ρ (.ok (.bl true) S) = evE C a ρ S := rfl
theorem l_iteF {C : Cf} {ρ : Env} {S : Sto} {a b : E} : k_ite C a b ρ (.ok (.bl false) S) = evE C b ρ S := rfl
def k_and (C : Cf) (e2 : E) (es : Es) (ρ : Env) : Res → Res
  | .ok (.bl true) S => evAnd C (.cons e2 es) ρ S
  | .ok (.bl false) S => .ok (.bl false) S
  | .ok _ _ => .st
  | .ex x S => .ex x S
  | .st => .st
theorem l_and {C : Cf} {ρ : Env} {S : Sto} {es : Es} : evE C (.and es) ρ S = evAnd C es ρ S := by simp only [evE]
theorem l_and1 {C : Cf} {ρ : Env} {S : Sto} {e : E} : evAnd C (.cons e .nil) ρ S = evE C e ρ S := by
  rw [evAnd]
  cases evE C e ρ S <;> rfl
theorem l_and2 {C : Cf} {ρ : Env} {S : Sto} {e e2 : E} {es : Es} : evAnd C (.cons e (.cons e2 es)) ρ S = k_and C e2 es ρ (evE C e ρ S) := by
  rw [evAnd]
  cases evE C e ρ S with
  | ok x S1 =>
    simp only [Res.bind]
    cases x with
    | bl b => cases b <;> rfl
    | _ => rfl
  | ex _ _ => rfl
  | st => rfl
theorem l_andG {C : Cf} {ρ : Env} {S : Sto} {e2 : E} {es : Es} : k_and C e2 es ρ (.ok (.bl true) S) = evAnd C (.cons e2 es) ρ S := rfl
theorem l_andS {C : Cf} {ρ : Env} {S : Sto} {e2 : E} {es : Es} : k_and C e2 es ρ (.ok (.bl false) S) = .ok (.bl false) S := rfl
def k_or (C : Cf) (e2 : E) (es : Es) (ρ : Env) : Res → Res
  | .ok (.bl false) S => evOr C (.cons e2 es) ρ S
  | .ok (.bl true) S => .ok (.bl true) S
  | .ok _ _ => .st
  | .ex x S => .ex x S
  | .st => .st
theorem l_or {C : Cf} {ρ : Env} {S : Sto} {es : Es} : evE C (.or es) ρ S = evOr C es ρ S := by simp only [evE]
theorem l_or1 {C : Cf} {ρ : Env} {S : Sto} {e : E} : evOr C (.cons e .nil) ρ S = evE C e ρ S := by
  rw [evOr]
  cases evE C e ρ S <;> rfl
theorem l_or2 {C : Cf} {ρ : Env} {S : Sto} {e e2 : E} {es : Es} : evOr C (.cons e (.cons e2 es)) ρ S = k_or C e2 es ρ (evE C e ρ S) := by
  rw [evOr]
  cases evE C e ρ S with
  | ok x S1 =>
    simp only [Res.bind]
    cases x with
    | bl b => cases b <;> rfl
    | _ => rfl
  | ex _ _ => rfl
  | st => rfl
theorem l_orG {C : Cf} {ρ : Env} {S : Sto} {e2 : E} {es : Es} : k_or C e2 es ρ (.ok (.bl false) S) = evOr C (.cons e2 es) ρ S := rfl
theorem l_orS {C : Cf} {ρ : Env} {S : Sto} {e2 : E} {es : Es} : k_or C e2 es ρ (.ok (.bl true) S) = .ok (.bl true) S := rfl
def k_sli3 (b c : Bool) (x l : D) : Res → Res
  | .ok h S => sliK (bnd b l) (bnd c h) x S
  | .ex x S => .ex x S
  | .st => .st
def k_sli2 (C : Cf) (b : Bool) (hi : E) (ρ : Env) (x : D) : Res → Res
  | .ok l S => k_sli3 b hi.isNon x l (evE C hi ρ S)
  | .ex x S => .ex x S
  | .st => .st
def k_sli (C : Cf) (lo hi : E) (ρ : Env) : Res → Res
  | .ok x S => k_sli2 C lo.isNon hi ρ x (evE C lo ρ S)
  | .ex x S => .ex x S
  | .st => .st
theorem l_sli {C : Cf} {ρ : Env} {S : Sto} {a lo hi : E} : evE C (.sli a lo hi) ρ S = k_sli C lo hi ρ (evE C a ρ S) := by
  simp only [evE]
  cases evE C a ρ S with
  | ok x S1 =>
    simp only [Res.bind, k_sli]
    cases evE C lo ρ S1 with
    | ok l S2 =>
      simp only [Res.bind, k_sli2]
      cases evE C hi ρ S2 <;> rfl
    | ex _ _ => rfl
    | st => rfl
  | ex _ _ => rfl
  | st => rfl
theorem l_sli1 {C : Cf} {ρ : Env} {S : Sto} {lo hi : E} {x : D} : k_sli C lo hi ρ (.ok x S) = k_sli2 C lo.isNon hi ρ x (evE C lo ρ S) := rfl
theorem l_sli2 {C : Cf} {ρ : Env} {S : Sto} {b : Bool} {hi : E} {x l : D} : k_sli2 C b hi ρ x (.ok l S) = k_sli3 b hi.isNon x l (evE C hi ρ S) := rfl
theorem l_sli3 {S : Sto} {b c : Bool} {x l h : D} : k_sli3 b c x l (.ok h S) = sliK (bnd b l) (bnd c h) x S := rfl
def tupop (ds : List D) (S : Sto) : Res := if ds.length ≤ line then .ok (.tup ds) S else .st
def lstop (ds : List D) (S : Sto) : Res := if ds.length ≤ line then alloc (.lst ds) S else .st
def k_tup  : ResL → Res
  | .ok ds S => tupop ds S
  | .ex x S => .ex x S
  | .st => .st
theorem l_tup {C : Cf} {ρ : Env} {S : Sto} {es : Es} : evE C (.tup es) ρ S = k_tup (evEs C es ρ S) := by
  simp only [evE]
  cases evEs C es ρ S <;> rfl
theorem l_tup1 {S : Sto} {ds : List D} : k_tup (.ok ds S) = tupop ds S := rfl
def k_lst  : ResL → Res
  | .ok ds S => lstop ds S
  | .ex x S => .ex x S
  | .st => .st
theorem l_lst {C : Cf} {ρ : Env} {S : Sto} {es : Es} : evE C (.lst es) ρ S = k_lst (evEs C es ρ S) := by
  simp only [evE]
  cases evEs C es ρ S <;> rfl
theorem l_lst1 {S : Sto} {ds : List D} : k_lst (.ok ds S) = lstop ds S := rfl
def k_call (C : Cf) (f : Nat) : ResL → Res
  | .ok ds S => C.cl f ds S
  | .ex x S => .ex x S
  | .st => .st
theorem l_call {C : Cf} {ρ : Env} {S : Sto} {f : Nat} {es : Es} : evE C (.call f es) ρ S = k_call C f (evEs C es ρ S) := by
  simp only [evE]
  cases evEs C es ρ S <;> rfl
theorem l_call1 {S : Sto} {C : Cf} {f : Nat} {ds : List D} : k_call C f (.ok ds S) = C.cl f ds S := rfl
def k_blt (b : Blt) : ResL → Res
  | .ok ds S => bltop b ds S
  | .ex x S => .ex x S
  | .st => .st
theorem l_blt {C : Cf} {ρ : Env} {S : Sto} {b : Blt} {es : Es} : evE C (.blt b es) ρ S = k_blt b (evEs C es ρ S) := by
  simp only [evE]
  cases evEs C es ρ S <;> rfl
theorem l_blt1 {S : Sto} {b : Blt} {ds : List D} : k_blt b (.ok ds S) = bltop b ds S := rfl
def k_mth2 (n0 : Nat) (m : Mt) (x : D) : ResL → Res
  | .ok ds S => mthop n0 m x ds S
  | .ex x S => .ex x S
  | .st => .st
def k_mth (C : Cf) (m : Mt) (es : Es) (ρ : Env) : Res → Res
  | .ok x S => if mtOk S m x = true then k_mth2 C.n0 m x (evEs C es ρ S) else .st
  | .ex x S => .ex x S
  | .st => .st
theorem l_mth {C : Cf} {ρ : Env} {S : Sto} {m : Mt} {o : E} {es : Es} : evE C (.mth m o es) ρ S = k_mth C m es ρ (evE C o ρ S) := by
  simp only [evE]
  cases evE C o ρ S with
  | ok x S1 =>
    simp only [Res.bind, k_mth]
    split
    · cases evEs C es ρ S1 <;> rfl
    · rfl
  | ex _ _ => rfl
  | st => rfl
theorem l_mth1 {C : Cf} {ρ : Env} {S : Sto} {m : Mt} {es : Es} {x : D} : k_mth C m es ρ (.ok x S) = if mtOk S m x = true then k_mth2 C.n0 m x (evEs C es ρ S) else .st := rfl
theorem l_mth2 {n0 : Nat} {S : Sto} {m : Mt} {x : D} {ds : List D} : k_mth2 n0 m x (.ok ds S) = mthop n0 m x ds S := rfl
def sq (C : Cf) (r : Ss) : Fl → Fl
  | .nx ρ S => evSs C r ρ S
  | q => q
theorem l_snil {C : Cf} {ρ : Env} {S : Sto} : evSs C .nil ρ S = .nx ρ S := by simp only [evSs]
theorem l_scons {C : Cf} {ρ : Env} {S : Sto} {s : St} {r : Ss} : evSs C (.cons s r) ρ S = sq C r (evS C s ρ S) := by
  simp only [evSs]
  cases evS C s ρ S <;> rfl
theorem l_sqn {C : Cf} {ρ : Env} {S : Sto} {r : Ss} : sq C r (.nx ρ S) = evSs C r ρ S := rfl
theorem l_sqr {C : Cf} {d : D} {S : Sto} {r : Ss} : sq C r (.rt d S) = .rt d S := rfl
theorem l_sqb {C : Cf} {ρ : Env} {S : Sto} {r : Ss} : sq C r (.bk ρ S) = .bk ρ S := rfl
theorem l_sqc {C : Cf} {ρ : Env} {S : Sto} {r : Ss} : sq C r (.ct ρ S) = .ct ρ S := rfl
def k_asg (i : Nat) (ρ : Env) : Res → Fl
  | .ok d S => .nx (ρ.set i (some d)) S
  | .ex x S => .ex x ρ S
  | .st => .st
theorem l_asg {C : Cf} {ρ : Env} {S : Sto} {i : Nat} {e : E} : evS C (.asg i e) ρ S = k_asg i ρ (evE C e ρ S) := by
  simp only [evS]
  cases evE C e ρ S <;> rfl
theorem l_asg1 {ρ : Env} {S : Sto} {i : Nat} {d : D} : k_asg i ρ (.ok d S) = .nx (ρ.set i (some d)) S := rfl
def asgsF : Option Env → Sto → Fl
  | some ρ, S => .nx ρ S
  | none, _ => .st
def asgsK (is : List Nat) (ρ : Env) (d : D) (S : Sto) : Fl := match bindTg false is d ρ with
  | some ρ1 => .nx ρ1 S
  | none => .st
def k_asgs (is : List Nat) (ρ : Env) : Res → Fl
  | .ok d S => asgsK is ρ d S
  | .ex x S => .ex x ρ S
  | .st => .st
theorem l_asgs {C : Cf} {ρ : Env} {S : Sto} {is : List Nat} {e : E} : evS C (.asgs is e) ρ S = k_asgs is ρ (evE C e ρ S) := by
  simp only [evS]
  cases evE C e ρ S <;> rfl
theorem l_asgs1 {ρ : Env} {S : Sto} {is : List Nat} {d : D} : k_asgs is ρ (.ok d S) = asgsK is ρ d S := rfl
theorem l_asgs2 {is : List Nat} {ρ : Env} {d : D} {S : Sto} : asgsK is ρ d S = asgsF (bindTg false is d ρ) S := by
  unfold asgsK asgsF
  cases bindTg false is d ρ <;> rfl
theorem l_asgs3 {ρ : Env} {S : Sto} : asgsF (some ρ) S = .nx ρ S := rfl
theorem l_bT {ρ : Env} {is : List Nat} {ds : List D} : bindTg false is (.tup ds) ρ = binds is ds ρ := rfl
theorem l_b1 {ρ : Env} {i : Nat} {d : D} : bindTg true [i] d ρ = some (ρ.set i (some d)) := rfl
theorem l_bn {ρ : Env} : binds [] [] ρ = some ρ := rfl
theorem l_bc {ρ : Env} {i : Nat} {is : List Nat} {d : D} {ds : List D} : binds (i :: is) (d :: ds) ρ = binds is ds (ρ.set i (some d)) := rfl
theorem l_k0 {ρ : Env} : kill [] ρ = ρ := rfl
theorem l_k1 {ρ : Env} {i : Nat} {is : List Nat} : kill (i :: is) ρ = (kill is ρ).set i none := rfl
def k_exp (ρ : Env) : Res → Fl
  | .ok d S => .nx ρ S
  | .ex x S => .ex x ρ S
  | .st => .st
theorem l_exp {C : Cf} {ρ : Env} {S : Sto} {e : E} : evS C (.exp e) ρ S = k_exp ρ (evE C e ρ S) := by
  simp only [evS]
  cases evE C e ρ S <;> rfl
theorem l_exp1 {ρ : Env} {S : Sto} {d : D} : k_exp ρ (.ok d S) = .nx ρ S := rfl
def k_ret (ρ : Env) : Res → Fl
  | .ok d S => .rt d S
  | .ex x S => .ex x ρ S
  | .st => .st
theorem l_ret {C : Cf} {ρ : Env} {S : Sto} {e : E} : evS C (.ret e) ρ S = k_ret ρ (evE C e ρ S) := by
  simp only [evS]
  cases evE C e ρ S <;> rfl
theorem l_ret1 {ρ : Env} {S : Sto} {d : D} : k_ret ρ (.ok d S) = .rt d S := rfl
theorem l_retN {C : Cf} {ρ : Env} {S : Sto} : evS C .retN ρ S = .rt .non S := by simp only [evS]
theorem l_brk {C : Cf} {ρ : Env} {S : Sto} : evS C .brk ρ S = .bk ρ S := by simp only [evS]
theorem l_cnt {C : Cf} {ρ : Env} {S : Sto} : evS C .cnt ρ S = .ct ρ S := by simp only [evS]
theorem l_pss {C : Cf} {ρ : Env} {S : Sto} : evS C .pss ρ S = .nx ρ S := by simp only [evS]
def k_if (C : Cf) (a b : Ss) (ρ : Env) : Res → Fl
  | .ok (.bl true) S => evSs C a ρ S
  | .ok (.bl false) S => evSs C b ρ S
  | .ok _ _ => .st
  | .ex x S => .ex x ρ S
  | .st => .st
theorem l_if {C : Cf} {ρ : Env} {S : Sto} {c : E} {a b : Ss} : evS C (.ite c a b) ρ S = k_if C a b ρ (evE C c ρ S) := by
  simp only [evS]
  cases evE C c ρ S with
  | ok x S1 =>
    simp only [Res.thn]
    cases x with
    | bl b => cases b <;> rfl
    | _ => rfl
  | ex _ _ => rfl
  | st => rfl
theorem l_ifT {C : Cf} {ρ : Env} {S : Sto} {a b : Ss} : k_if C a b ρ (.ok (.bl true) S) = evSs C a ρ S := rfl
theorem l_ifF {C : Cf} {ρ : Env} {S : Sto} {a b : Ss} : k_if C a b ρ (.ok (.bl false) S) = evSs C b ρ S := rfl
def setK (ρ : Env) : Option Sto → Fl
  | some S => .nx ρ S
  | none => .st
def k_sub3 (n0 : Nat) (ρ : Env) (v x : D) : Res → Fl
  | .ok y S => setK ρ (setop n0 x y v S)
  | .ex x S => .ex x ρ S
  | .st => .st
def k_sub2 (C : Cf) (i : E) (ρ : Env) (v : D) : Res → Fl
  | .ok x S => k_sub3 C.n0 ρ v x (evE C i ρ S)
  | .ex x S => .ex x ρ S
  | .st => .st
def k_sub (C : Cf) (o i : E) (ρ : Env) : Res → Fl
  | .ok v S => k_sub2 C i ρ v (evE C o ρ S)
  | .ex x S => .ex x ρ S
  | .st => .st
theorem l_sub {C : Cf} {ρ : Env} {S : Sto} {o i e : E} : evS C (.sub o i e) ρ S = k_sub C o i ρ (evE C e ρ S) := by
  simp only [evS]
  cases evE C e ρ S with
  | ok v S1 =>
    simp only [Res.thn, k_sub]
    cases evE C o ρ S1 with
    | ok x S2 =>
      simp only [Res.thn, k_sub2]
      cases evE C i ρ S2 with
      | ok y S3 =>
        simp only [Res.thn, k_sub3]
        cases setop C.n0 x y v S3 <;> rfl
      | ex _ _ => rfl
      | st => rfl
    | ex _ _ => rfl
    | st => rfl
  | ex _ _ => rfl
  | st => rfl
theorem l_sub1 {C : Cf} {ρ : Env} {S : Sto} {o i : E} {v : D} : k_sub C o i ρ (.ok v S) = k_sub2 C i ρ v (evE C o ρ S) := rfl
theorem l_sub2 {C : Cf} {ρ : Env} {S : Sto} {i : E} {v x : D} : k_sub2 C i ρ v (.ok x S) = k_sub3 C.n0 ρ v x (evE C i ρ S) := rfl
theorem l_sub3 {n0 : Nat} {ρ : Env} {S : Sto} {v x y : D} : k_sub3 n0 ρ v x (.ok y S) = setK ρ (setop n0 x y v S) := rfl
theorem l_set {ρ : Env} {S : Sto} : setK ρ (some S) = .nx ρ S := rfl
def k_for (C : Cf) (one : Bool) (tg ks : List Nat) (body : Ss) (ρ : Env) : ResI → Fl
  | .ok xs w S => forL w (fun d ρ => bindTg one tg d ρ) ks (fun ρ S => evSs C body ρ S) xs ρ S
  | .ex x S => .ex x ρ S
  | .st => .st
theorem l_for {C : Cf} {ρ : Env} {S : Sto} {one : Bool} {tg ks : List Nat} {it : It} {body : Ss} : evS C (.for_ one tg it ks body) ρ S = k_for C one tg ks body ρ (evIt C it ρ S) := by
  simp only [evS]
  cases evIt C it ρ S <;> rfl
def tgF (one : Bool) (tg : List Nat) : D → Env → Option Env := fun d ρ => bindTg one tg d ρ
def bodyF (C : Cf) (b : Ss) : Env → Sto → Fl := fun ρ S => evSs C b ρ S
theorem l_for1 {C : Cf} {ρ : Env} {S : Sto} {one : Bool} {tg ks : List Nat} {body : Ss} {xs : List D} {w : List (Nat × Ob)} : k_for C one tg ks body ρ (.ok xs w S) = forL w (tgF one tg) ks (bodyF C body) xs ρ S := rfl
def k_lc (C : Cf) (own : List Nat) (one : Bool) (tg : List Nat) (c e : E) (ρ : Env) (r : ResI) : Res := lcK own one tg ρ (fun ρ S => evE C c ρ S) (fun ρ S => evE C e ρ S) r
theorem l_lc {C : Cf} {ρ : Env} {S : Sto} {own : List Nat} {one : Bool} {tg : List Nat} {it : It} {c e : E} : evE C (.lc own one tg it c e) ρ S = k_lc C own one tg c e ρ (evIt C it ρ S) := by simp only [evE, k_lc]
theorem l_lc1 {C : Cf} {ρ : Env} {S S2 : Sto} {own : List Nat} {one : Bool} {tg : List Nat} {c e : E} {xs ds : List D} {w : List (Nat × Ob)} (hl : xs.length ≤ line)
    (h : lcL w (fun d => bindTg one tg d (kill own ρ)) (fun ρ S => evE C c ρ S) (fun ρ S => evE C e ρ S) xs S = .ok ds S2) : k_lc C own one tg c e ρ (.ok xs w S) = alloc (.lst ds) S2 := by
  unfold k_lc lcK
  dsimp only
  rw [if_pos hl, h]
  rfl
def seqK (d : D) (S : Sto) : ResI := match walkOf d S with
  | some (xs, w) => .ok xs w S
  | none => .st
def k_seq : Res → ResI
  | .ok d S => seqK d S
  | .ex x S => .ex x S
  | .st => .st
theorem l_seq {C : Cf} {ρ : Env} {S : Sto} {e : E} : evIt C (.seq e) ρ S = k_seq (evE C e ρ S) := by
  simp only [evIt]
  cases evE C e ρ S with
  | ok d S1 =>
    show (match walkOf d S1 with | some (xs, w) => _ | none => _) = seqK d S1
    unfold seqK
    cases walkOf d S1 <;> rfl
  | ex _ _ => rfl
  | st => rfl
def seqL (k : Nat) (S : Sto) : Option Ob → ResI
  | some (.lst xs) => .ok xs [(k, .lst xs)] S
  | _ => .st
theorem l_seqL {k : Nat} {S : Sto} : k_seq (.ok (.ref k) S) = seqL k S S[k]? := by
  show seqK (.ref k) S = _
  simp only [seqK, walkOf]
  cases h : S[k]? with
  | none => rfl
  | some o => cases o <;> rfl
theorem l_seqL1 {k : Nat} {S : Sto} {xs : List D} : seqL k S (some (.lst xs)) = .ok xs [(k, .lst xs)] S := rfl
theorem l_seqT {S : Sto} {xs : List D} : k_seq (.ok (.tup xs) S) = .ok xs [] S := rfl
theorem l_seqS {S : Sto} {xs : List Nat} : k_seq (.ok (.str xs) S) = .ok (xs.map fun c => .str [c]) [] S := rfl
theorem l_fsh {C : Cf} {ρ : Env} {S : Sto} {e : E} : evIt C (.fsh e) ρ S = freshOf S (evE C e ρ S) := by simp only [evIt]
def k_rng1 : Res → ResI
  | .ok (.int i) S => if -4611686018427387904 ≤ i ∧ i < 4611686018427387904 then .ok (rngL 0 i.toNat) [] S else .st
  | .ok _ _ => .st
  | .ex x S => .ex x S
  | .st => .st
theorem l_rng1 {C : Cf} {ρ : Env} {S : Sto} {a : E} : evIt C (.rng1 a) ρ S = k_rng1 (evE C a ρ S) := by
  simp only [evIt]
  cases evE C a ρ S with
  | ok d S1 => cases d <;> rfl
  | ex _ _ => rfl
  | st => rfl
theorem l_rng11 {S : Sto} {i : Int} : k_rng1 (.ok (.int i) S) = if -4611686018427387904 ≤ i ∧ i < 4611686018427387904 then .ok (rngL 0 i.toNat) [] S else .st := rfl
def k_enm : Res → ResI
  | .ok (.tup xs) S => .ok (enmL 0 xs) [] S
  | .ok (.ref k) S => (match S[k]? with | some (.lst xs) => .ok (enmL 0 xs) [(k, .lst xs)] S | _ => .st)
  | .ok _ _ => .st
  | .ex x S => .ex x S
  | .st => .st
theorem l_enm {C : Cf} {ρ : Env} {S : Sto} {e : E} : evIt C (.enm e) ρ S = k_enm (evE C e ρ S) := by
  simp only [evIt]
  cases evE C e ρ S with
  | ok d S1 =>
    cases d with
    | ref k =>
      simp only [Res.walk, seqWalk, k_enm]
      cases S1[k]? with
      | none => rfl
      | some o => cases o <;> rfl
    | _ => rfl
  | ex _ _ => rfl
  | st => rfl
theorem l_enmT {S : Sto} {xs : List D} : k_enm (.ok (.tup xs) S) = .ok (enmL 0 xs) [] S := rfl
theorem l_enmL {S : Sto} {k : Nat} {xs : List D} (h : S[k]? = some (.lst xs)) : k_enm (.ok (.ref k) S) = .ok (enmL 0 xs) [(k, .lst xs)] S := by
  simp only [k_enm, h]
theorem l_rng2 {C : Cf} {ρ : Env} {S S1 S2 : Sto} {a b : E} {i j : Int} (h : evE C a ρ S = .ok (.int i) S1) (h2 : evE C b ρ S1 = .ok (.int j) S2) (hi : -4611686018427387904 ≤ i ∧ i < 4611686018427387904) (hj : -4611686018427387904 ≤ j ∧ j < 4611686018427387904) :
    evIt C (.rng2 a b) ρ S = .ok (rngL i (j - i).toNat) [] S2 := by
  simp only [evIt, h, h2, Res.rng]
  rw [if_pos hi, if_pos hj]
theorem l_rng3 {C : Cf} {ρ : Env} {S S1 S2 S3 : Sto} {a b c : E} {i j k : Int} (h : evE C a ρ S = .ok (.int i) S1) (h2 : evE C b ρ S1 = .ok (.int j) S2) (h3 : evE C c ρ S2 = .ok (.int k) S3) (hi : -4611686018427387904 ≤ i ∧ i < 4611686018427387904) (hj : -4611686018427387904 ≤ j ∧ j < 4611686018427387904)
    (hk : -4611686018427387904 ≤ k ∧ k < 4611686018427387904) (hc : k ≠ 0 ∧ k.natAbs < 1073741824) : evIt C (.rng3 a b c) ρ S = .ok (rngS i k (rngN i j k)) [] S3 := by
  simp only [evIt, h, h2, h3, Res.rng]
  rw [if_pos hi, if_pos hj, if_pos hk, if_pos hc]
theorem fresh_lst {S l : Sto} {k : Nat} {xs : List D} (hk : l[k]? = some (.lst xs)) (hu : D.unds S.length xs = true) : freshOf S (.ok (.ref (S.length + k)) (S ++ l)) = .ok xs [] S := by
  unfold freshOf
  dsimp only
  rw [st_get, hk]
  dsimp only
  rw [if_pos ⟨by omega, List.take_left, hu⟩]
theorem fresh_tup {S S1 : Sto} {xs : List D} : freshOf S (.ok (.tup xs) S1) = .ok xs [] S1 := rfl
theorem o_addI {i j : Int} {S : Sto} : binop .add (.int i) (.int j) S = .ok (.int (i + j)) S := rfl
theorem o_subI {i j : Int} {S : Sto} : binop .sub (.int i) (.int j) S = .ok (.int (i - j)) S := rfl
theorem o_mulI {i j : Int} {S : Sto} : binop .mul (.int i) (.int j) S = if mulOk i j = true then .ok (.int (i * j)) S else .st := rfl
theorem o_fdivI {i j : Int} {S : Sto} : binop .fdiv (.int i) (.int j) S = if divOk j = true then .ok (.int (i.fdiv j)) S else .st := rfl
theorem o_modI {i j : Int} {S : Sto} : binop .mod (.int i) (.int j) S = if j ≠ 0 then .ok (.int (i.fmod j)) S else .st := rfl
theorem o_powI {i j : Int} {S : Sto} : binop .pow (.int i) (.int j) S = if 0 ≤ j ∧ j ≤ 1000000 ∧ i.natAbs < 18446744073709551616 then .ok (.int (i ^ j.toNat)) S else .st := rfl
theorem o_addS {x y : List Nat} {S : Sto} : binop .add (.str x) (.str y) S = if x.length + y.length ≤ line then .ok (.str (x ++ y)) S else .st := rfl
theorem o_addT {x y : List D} {S : Sto} : binop .add (.tup x) (.tup y) S = if x.length + y.length ≤ line then .ok (.tup (x ++ y)) S else .st := rfl
def addL (S : Sto) : Option Ob → Option Ob → Res
  | some (.lst x), some (.lst y) => if x.length + y.length ≤ line then alloc (.lst (x ++ y)) S else .st
  | _, _ => .st
def repL (n : Int) (S : Sto) : Option Ob → Res
  | some (.lst x) => if n < 9223372036854775808 ∧ -9223372036854775808 ≤ n ∧ x.length * n.toNat ≤ line then alloc (.lst (dRep x n.toNat)) S else .st
  | _ => .st
theorem o_addL {j k : Nat} {S : Sto} : binop .add (.ref j) (.ref k) S = addL S S[j]? S[k]? := by
  simp only [binop, addL] <;> first | rfl | (split <;> rfl)
theorem o_addL1 {x y : List D} {S : Sto} : addL S (some (.lst x)) (some (.lst y)) = if x.length + y.length ≤ line then alloc (.lst (x ++ y)) S else .st := rfl
theorem o_repL {j : Nat} {n : Int} {S : Sto} : binop .mul (.ref j) (.int n) S = repL n S S[j]? := by
  simp only [binop, repL] <;> first | rfl | (split <;> rfl)
theorem o_repL1 {x : List D} {n : Int} {S : Sto} : repL n S (some (.lst x)) = if n < 9223372036854775808 ∧ -9223372036854775808 ≤ n ∧ x.length * n.toNat ≤ line then alloc (.lst (dRep x n.toNat)) S else .st := rfl
theorem o_repS {x : List Nat} {n : Int} {S : Sto} : binop .mul (.str x) (.int n) S = if x.length * n.toNat ≤ line ∧ -9223372036854775808 ≤ n ∧ n < 9223372036854775808 then .ok (.str (dRep x n.toNat)) S else .st := rfl
theorem c_lt {i j : Int} {S : Sto} : cmpop .lt (.int i) (.int j) S = .ok (.bl (decide (i < j))) S := rfl
theorem c_le {i j : Int} {S : Sto} : cmpop .le (.int i) (.int j) S = .ok (.bl (decide (i ≤ j))) S := rfl
theorem c_gt {i j : Int} {S : Sto} : cmpop .gt (.int i) (.int j) S = .ok (.bl (decide (j < i))) S := rfl
theorem c_ge {i j : Int} {S : Sto} : cmpop .ge (.int i) (.int j) S = .ok (.bl (decide (j ≤ i))) S := rfl
def eqF (S : Sto) (x y : D) : Option Bool → Res
  | some b => .ok (.bl b) S
  | none => .st
theorem c_eq {x y : D} {S : Sto} : cmpop .eq x y S = eqF S x y (dEq S x y) := by
  simp only [cmpop]
  cases dEq S x y <;> rfl
theorem c_eq1 {x y : D} {S : Sto} {b : Bool} : eqF S x y (some b) = .ok (.bl b) S := rfl
def neF (S : Sto) (x y : D) : Option Bool → Res
  | some b => .ok (.bl (!b)) S
  | none => .st
theorem c_ne {x y : D} {S : Sto} : cmpop .ne x y S = neF S x y (dEq S x y) := by
  simp only [cmpop]
  cases dEq S x y <;> rfl
theorem c_ne1 {x y : D} {S : Sto} {b : Bool} : neF S x y (some b) = .ok (.bl (!b)) S := rfl
theorem c_in {x y : D} {S : Sto} : cmpop .isin x y S = eqF S x y (dIn S x y) := by
  simp only [cmpop]
  cases dIn S x y <;> rfl
theorem c_nin {x y : D} {S : Sto} : cmpop .notin x y S = neF S x y (dIn S x y) := by
  simp only [cmpop]
  cases dIn S x y <;> rfl
theorem e_II {i j : Int} {S : Sto} : dEq S (.int i) (.int j) = some (decide (i = j)) := by simp only [dEq, D.flat, Bool.and_self, if_true, deq]
theorem e_SS {i j : List Nat} {S : Sto} : dEq S (.str i) (.str j) = some (decide (i = j)) := by simp only [dEq, D.flat, Bool.and_self, if_true, deq]
theorem d_II {i j : Int} : deq (.int i) (.int j) = decide (i = j) := by simp only [deq]
theorem d_SS {i j : List Nat} : deq (.str i) (.str j) = decide (i = j) := by simp only [deq]
theorem n_int {i : Int} {S : Sto} : negop (.int i) S = .ok (.int (-i)) S := rfl
theorem n_bl {b : Bool} {S : Sto} : notop (.bl b) S = .ok (.bl (!b)) S := rfl
def atK : Option D → Sto → Res
  | some d, S => .ok d S
  | none, _ => .st
def atS : Option Nat → Sto → Res
  | some d, S => .ok (.str [d]) S
  | none, _ => .st
def idxL (i : Int) (S : Sto) : Option Ob → Res
  | some (.lst xs) => atK (pyAt xs i) S
  | some (.dic kvs) => if keyOk (.int i) = true then atK (look kvs (.int i)) S else .st
  | none => .st
theorem x_tup {xs : List D} {i : Int} {S : Sto} : idxop (.tup xs) (.int i) S = atK (pyAt xs i) S := by
  simp only [idxop]
  cases pyAt xs i <;> rfl
theorem x_at {d : D} {S : Sto} : atK (some d) S = .ok d S := rfl
theorem x_atS {d : Nat} {S : Sto} : atS (some d) S = .ok (.str [d]) S := rfl
theorem x_str {xs : List Nat} {i : Int} {S : Sto} : idxop (.str xs) (.int i) S = if xs.length ≤ line then atS (pyAt xs i) S else .st := by
  simp only [idxop]
  cases pyAt xs i <;> rfl
theorem x_lst {k : Nat} {i : Int} {S : Sto} : idxop (.ref k) (.int i) S = idxL i S S[k]? := by
  simp only [idxop, idxL]
  cases h : S[k]? with
  | none => rfl
  | some o =>
    cases o with
    | lst xs =>
      dsimp only
      cases pyAt xs i <;> rfl
    | dic kvs =>
      dsimp only
      cases look kvs (.int i) <;> rfl
theorem x_lst1 {i : Int} {S : Sto} {xs : List D} : idxL i S (some (.lst xs)) = atK (pyAt xs i) S := rfl
theorem b_int {i : Int} {S : Sto} : bltop .int [.int i] S = .ok (.int i) S := rfl
theorem b_lenT {xs : List D} {S : Sto} : bltop .len [.tup xs] S = .ok (.int xs.length) S := rfl
theorem b_lenS {xs : List Nat} {S : Sto} : bltop .len [.str xs] S = if xs.length ≤ line then .ok (.int xs.length) S else .st := rfl
def lenL (S : Sto) : Option Ob → Res
  | some (.lst xs) => .ok (.int xs.length) S
  | some (.dic kvs) => .ok (.int kvs.length) S
  | none => .st
def tupL (S : Sto) : Option Ob → Res
  | some (.lst xs) => .ok (.tup xs) S
  | _ => .st
def lstL (S : Sto) : Option Ob → Res
  | some (.lst xs) => alloc (.lst xs) S
  | some (.dic kvs) => alloc (.lst (kvs.map (·.1))) S
  | none => .st
theorem b_lenL {k : Nat} {S : Sto} : bltop .len [.ref k] S = lenL S S[k]? := by
  simp only [bltop, lenL] <;> first | rfl | (split <;> rfl)
theorem b_lenL1 {xs : List D} {S : Sto} : lenL S (some (.lst xs)) = .ok (.int xs.length) S := rfl
theorem b_tupT {xs : List D} {S : Sto} : bltop .tuple [.tup xs] S = .ok (.tup xs) S := rfl
theorem b_tupL {k : Nat} {S : Sto} : bltop .tuple [.ref k] S = tupL S S[k]? := by
  simp only [bltop, tupL] <;> first | rfl | (split <;> rfl)
theorem b_tupL1 {xs : List D} {S : Sto} : tupL S (some (.lst xs)) = .ok (.tup xs) S := rfl
theorem b_lstT {xs : List D} {S : Sto} : bltop .list [.tup xs] S = alloc (.lst xs) S := rfl
theorem b_lstL {k : Nat} {S : Sto} : bltop .list [.ref k] S = lstL S S[k]? := by
  simp only [bltop, lstL] <;> first | rfl | (split <;> rfl)
theorem b_lstL1 {xs : List D} {S : Sto} : lstL S (some (.lst xs)) = alloc (.lst xs) S := rfl
theorem b_min {i j : Int} {S : Sto} : bltop .min [.int i, .int j] S = .ok (.int (if j < i then j else i)) S := rfl
theorem b_max {i j : Int} {S : Sto} : bltop .max [.int i, .int j] S = .ok (.int (if j > i then j else i)) S := rfl
def isiK (S : Sto) : Option Bool → Res
  | some b => .ok (.bl b) S
  | none => .st
theorem b_isi {t : Ty} {x : D} {S : Sto} : bltop (.isi t) [x] S = isiK S (isT S t x) := by
  simp only [bltop]
  cases isT S t x <;> rfl
theorem b_isi1 {b : Bool} {S : Sto} : isiK S (some b) = .ok (.bl b) S := rfl
theorem b_repr {x : D} {S : Sto} : bltop .repr [x] S = if repOk (rsv S x) = true then .ok (.str (shown (rsv S x))) S else .st := rfl
def appK (n0 k : Nat) (v : D) (S : Sto) : Option Ob → Res
  | some (.lst xs) => if (k < n0 ∧ v.pure = false) ∨ line ≤ xs.length then .st else .ok .non (S.set k (.lst (xs ++ [v])))
  | _ => .st
def lstB : Option Ob → Bool
  | some (.lst _) => true
  | _ => false
theorem m_app {n0 k : Nat} {v : D} {S : Sto} : mthop n0 .append (.ref k) [v] S = appK n0 k v S S[k]? := by
  simp only [mthop, appK] <;> first | rfl | (split <;> rfl)
theorem m_app1 {n0 k : Nat} {v : D} {S : Sto} {xs : List D} : appK n0 k v S (some (.lst xs)) = if (k < n0 ∧ v.pure = false) ∨ line ≤ xs.length then .st else .ok .non (S.set k (.lst (xs ++ [v]))) := rfl
theorem m_appOk {k : Nat} {S : Sto} : mtOk S .append (.ref k) = lstB S[k]? := by
  simp only [mtOk, lstB] <;> first | rfl | (split <;> rfl)
theorem m_popOk {k : Nat} {S : Sto} : mtOk S .pop (.ref k) = lstB S[k]? := by
  simp only [mtOk, lstB] <;> first | rfl | (split <;> rfl)
theorem m_lstB {xs : List D} : lstB (some (.lst xs)) = true := rfl
def setL (k : Nat) (v : D) (i : Int) (S : Sto) : Option Ob → Option Sto
  | some (.lst xs) => (pyIx xs.length i).map fun j => S.set k (.lst (xs.set j v))
  | some (.dic kvs) => if keyOk (.int i) = true ∧ kvs.length < line then some (S.set k (.dic (put kvs (.int i) v))) else none
  | none => none
theorem v_set {n0 k : Nat} {i : Int} {v : D} {S : Sto} : setop n0 (.ref k) (.int i) v S = if k < n0 ∧ v.pure = false then none else setL k v i S S[k]? := by
  simp only [setop, setL]
  split
  · rfl
  · cases h : S[k]? with
    | none => rfl
    | some o =>
      cases o with
      | lst xs =>
        dsimp only
        cases pyIx xs.length i <;> rfl
      | dic kvs => rfl
theorem v_set1 {k : Nat} {i : Int} {v : D} {S : Sto} {xs : List D} : setL k v i S (some (.lst xs)) = (pyIx xs.length i).map fun j => S.set k (.lst (xs.set j v)) := rfl
theorem t_op {ds : List D} {S : Sto} : tupop ds S = if ds.length ≤ line then .ok (.tup ds) S else .st := rfl
theorem t_lop {ds : List D} {S : Sto} : lstop ds S = if ds.length ≤ line then alloc (.lst ds) S else .st := rfl
theorem i_N {S : Sto} {x : D} : iscop .isN x S = .ok (.bl (match x with
  | .non => true
  | _ => false)) S := by cases x <;> rfl
theorem i_nN {S : Sto} {x : D} : iscop .notN x S = .ok (.bl (match x with
  | .non => false
  | _ => true)) S := by cases x <;> rfl
theorem i_T {S : Sto} {b : Bool} : iscop .isT (.bl b) S = .ok (.bl b) S := rfl
theorem i_nT {S : Sto} {b : Bool} : iscop .notT (.bl b) S = .ok (.bl (!b)) S := rfl
theorem i_F {S : Sto} {b : Bool} : iscop .isF (.bl b) S = .ok (.bl (!b)) S := rfl
theorem i_nF {S : Sto} {b : Bool} : iscop .notF (.bl b) S = .ok (.bl b) S := rfl
end Ev

set_option Elab.async false
set_option linter.all false
set_option autoImplicit false
set_option maxRecDepth 100000
set_option maxHeartbeats 4000000
/-! Rp: repr by bounds; values without refs. -/
namespace Ev
mutual
theorem sub1_pure {S : Sto} : ∀ d : D, D.und 0 d = true → sub1 S d = d
  | .non, _ => rfl
  | .bl _, _ => rfl
  | .int _, _ => rfl
  | .str _, _ => rfl
  | .tup xs, h => by
    show D.tup (sub1s S xs) = _
    rw [sub1s_pure xs (by simpa [D.und] using h)]
  | .frl xs, h => by
    show D.frl (sub1s S xs) = _
    rw [sub1s_pure xs (by simpa [D.und] using h)]
  | .ref k, h => by simp [D.und] at h
  | .exc _ _, _ => rfl
theorem sub1s_pure {S : Sto} : ∀ ds : List D, D.unds 0 ds = true → sub1s S ds = ds
  | [], _ => rfl
  | x :: xs, h => by
    simp only [D.unds, Bool.and_eq_true] at h
    show sub1 S x :: sub1s S xs = _
    rw [sub1_pure x h.1, sub1s_pure xs h.2]
end
theorem rsv_pure {S : Sto} {d : D} (h : D.und 0 d = true) : rsv S d = d := by
  unfold rsv
  rw [sub1_pure d h, sub1_pure d h, sub1_pure d h]
/-- bounds for repr: a value without refs, its depth, the length of its text -/
structure RB (d : D) (k w : Nat) : Prop where
  und : d.und 0 = true
  dep : d.dep ≤ k
  sok : d.sok = true
  shw : d.shw = true
  wid : d.wid ≤ w
theorem RB.mono {d : D} {k w k' w' : Nat} (h : RB d k w) (hk : k ≤ k') (hw : w ≤ w') : RB d k' w' := ⟨h.und, Nat.le_trans h.dep hk, h.sok, h.shw, Nat.le_trans h.wid hw⟩
theorem RB.non : RB .non 0 5 := ⟨rfl, Nat.le_refl _, rfl, rfl, Nat.le_refl _⟩
theorem RB.bl {b : Bool} : RB (.bl b) 0 5 := ⟨rfl, Nat.le_refl _, rfl, rfl, Nat.le_refl _⟩
theorem RB.int {i : Int} (h : i.natAbs.log2 < 1900) : RB (.int i) 0 2000 := ⟨rfl, Nat.le_refl _, rfl, by simp [D.shw, h], Nat.le_refl _⟩
theorem log2_lt64 {n : Nat} (h : n < 2 ^ 64) : n.log2 < 64 := by
  by_cases h0 : n = 0
  · subst h0; decide
  · exact (Nat.log2_lt h0).mpr h
theorem RB.int' {i : Int} (h : i.natAbs < 2 ^ 64) : RB (.int i) 0 2000 := RB.int (by
  have h1 := log2_lt64 h
  omega)
theorem RB.str {s : List Nat} (h : (s.all fun c => decide (c < 1114112)) = true) : RB (.str s) 0 (10 * s.length + 2) := ⟨rfl, Nat.le_refl _, h, rfl, Nat.le_refl _⟩
theorem RBs {k w : Nat} : ∀ {xs : List D}, (∀ x ∈ xs, RB x k w) → D.unds 0 xs = true ∧ D.deps xs ≤ k ∧ D.soks xs = true ∧ D.shws xs = true ∧ D.wids xs ≤ xs.length * (w + 2)
  | [], _ => ⟨rfl, Nat.zero_le _, rfl, rfl, Nat.zero_le _⟩
  | x :: xs, h => by
    obtain ⟨a, b, c, d, e⟩ := RBs (xs := xs) fun y hy => h y (List.mem_cons_of_mem _ hy)
    have q := h x List.mem_cons_self
    refine ⟨?_, ?_, ?_, ?_, ?_⟩
    · show (D.und 0 x && D.unds 0 xs) = true
      rw [q.und, a]
      rfl
    · show max (D.dep x) (D.deps xs) ≤ k
      exact Nat.max_le.mpr ⟨q.dep, b⟩
    · show (D.sok x && D.soks xs) = true
      rw [q.sok, c]
      rfl
    · show (D.shw x && D.shws xs) = true
      rw [q.shw, d]
      rfl
    · show D.wid x + 2 + D.wids xs ≤ (xs.length + 1) * (w + 2)
      have := q.wid
      rw [Nat.add_mul]
      omega
theorem RB.tup {xs : List D} {k w : Nat} (h : ∀ x ∈ xs, RB x k w) : RB (.tup xs) (k + 1) (xs.length * (w + 2) + 3) := by
  obtain ⟨a, b, c, d, e⟩ := RBs h
  exact ⟨a, Nat.succ_le_succ b, c, d, Nat.add_le_add_right e 3⟩
theorem RB.frl {xs : List D} {k w : Nat} (h : ∀ x ∈ xs, RB x k w) : RB (.frl xs) (k + 1) (xs.length * (w + 2) + 3) := by
  obtain ⟨a, b, c, d, e⟩ := RBs h
  exact ⟨a, Nat.succ_le_succ b, c, d, Nat.add_le_add_right e 3⟩
theorem RB.rep {d : D} {k w : Nat} {S : Sto} (h : RB d k w) (hk : k ≤ 60) (hw : w ≤ 16777216) : bltop .repr [d] S = .ok (.str (shown d)) S := by
  rw [b_repr, rsv_pure h.und, if_pos]
  have := h.dep
  have := h.wid
  simp only [repOk, datOk, D.pure, h.und, h.sok, h.shw, Bool.and_eq_true, decide_eq_true_eq, true_and, and_true]
  refine ⟨by omega, ?_⟩
  show _ ≤ 16777216
  omega
theorem RB.dat {d : D} {k w : Nat} (h : RB d k w) (hk : k ≤ 60) : datOk d = true := by
  have := h.dep
  simp only [datOk, D.pure, h.und, h.sok, Bool.and_eq_true, decide_eq_true_eq, true_and, and_true]
  omega
end Ev

set_option Elab.async false
set_option linter.all false
set_option autoImplicit false
set_option maxRecDepth 100000
set_option maxHeartbeats 4000000
/-! Dr: the drawn numbers of a script: the same in every law. -/
namespace Ev
def dB0 : Ss :=
 (.cons (.asg 3 (.bin .mod (.blt .int (.cons (.bin .add (.bin .mul (.var 3) (.cst (.int 48271))) (.cst (.int 12345))) .nil)) (.cst (.int 2147483647))))
 (.cons (.asg 8 (.bin .mod (.blt .int (.cons (.bin .fdiv (.var 3) (.cst (.int 11))) .nil)) (.cst (.int 1000))))
 (.cons (.ite (.cmp .gt (.blt .len (.cons (.var 5) .nil)) (.cst (.int 0)))
 (.cons (.asg 9 (.bin .mod (.blt .int (.cons (.var 7) .nil)) (.blt .len (.cons (.var 5) .nil))))
 (.cons (.ite (.cmp .gt (.idx (.var 5) (.var 9)) (.cst (.int 0)))
 (.cons (.asg 8 (.bin .mod (.blt .int (.cons (.idx (.var 5) (.var 9)) .nil)) (.cst (.int 1000))))
 (.cons (.sub (.var 5) (.var 9) (.bin .fdiv (.idx (.var 5) (.var 9)) (.cst (.int 1000))))
 .nil))
 .nil)
 .nil))
 .nil)
 (.cons (.exp (.mth .append (.var 6) (.cons (.var 8) .nil)))
 .nil))))
def dB1 : Ss :=
 (.cons (.asg 3 (.bin .mod (.blt .int (.cons (.bin .add (.bin .add (.bin .mul (.var 3) (.cst (.int 69621))) (.bin .mod (.blt .int (.cons (.var 4) .nil)) (.cst (.int 1000003)))) (.cst (.int 1))) .nil)) (.cst (.int 2147483647))))
 .nil)
def dBody : Ss :=
 (.cons (.asg 2 (.tdy (.lc [4] true [4] (.fsh (.sli (.var 0) (.cst .non) (.cst (.int 63)))) (.cst (.bl true)) (.blt .int (.cons (.var 4) .nil)))))
 (.cons (.asg 3 (.bin .add (.cst (.int 7)) (.blt .len (.cons (.var 2) .nil))))
 (.cons (.for_ true [4] (.seq (.var 2)) [4] dB1)
 (.cons (.asg 5 (.lc [4] true [4] (.seq (.var 2)) (.cmp .ge (.var 4) (.bin .pow (.cst (.int 10)) (.cst (.int 18)))) (.var 4)))
 (.cons (.asg 6 (.lst .nil))
 (.cons (.for_ true [7] (.rng1 (.var 1)) [7, 8, 9] dB0)
 (.cons (.ret (.var 6))
 .nil)))))))
theorem mulOk_r {i j : Int} (h : j.natAbs < 18446744073709551616) : mulOk i j = true := by
  unfold mulOk
  rw [decide_eq_true h, Bool.or_true, Bool.true_or]
theorem pyIx_nat {n k : Nat} (h : k < n) : pyIx n (k : Int) = some k := by
  unfold pyIx
  rw [if_pos (by omega), if_pos (by omega)]
  simp
theorem pyAt_nat {α : Type} (xs : List α) (k : Nat) (h : k < xs.length) : pyAt xs (k : Int) = some (xs[k]'h) := by
  unfold pyAt
  rw [pyIx_nat h]
  simp [h]
section
variable (C : Cf) (S : Sto)
/-- a state's turn -/
theorem dB1_run {a b c e f g h i : Option D} {m s : Int} {T : Sto} : evSs C dB1 [a, b, c, some (.int s), some (.int m), e, f, g, h, i] T = .nx [a, b, c, some (.int ((s * 69621 + m.fmod 1000003 + 1).fmod 2147483647)), some (.int m), e, f, g, h, i] T := by
  have h1 : ∀ i : Int, mulOk i 69621 = true := fun i => mulOk_r (by decide)
  have h2 : (1000003 : Int) ≠ 0 := by decide
  have h3 : (2147483647 : Int) ≠ 0 := by decide
  simp only [dB1, l_var, l_var1, l_glo, l_glo1, l_cst, l_nil, l_cons, l_L1, l_L2, l_neg, l_neg1, l_not, l_not1, l_rev, l_rev1, l_lrg, l_lrg1, l_cdx, l_cdx1, l_isc, l_isc1, l_tdy, l_tdy1, l_bin, l_bin1, l_bin2, l_cmp, l_cmp1, l_cmp2, l_idx, l_idx1, l_idx2, l_chn, l_chn1, l_chn2, l_chn3, l_chn3f, l_chn4, l_ite, l_iteT, l_iteF, l_and, l_and1, l_and2, l_andG, l_andS, l_or, l_or1, l_or2, l_orG, l_orS, l_sli, l_sli1, l_sli2, l_sli3, l_tup, l_tup1, l_lst, l_lst1, l_call, l_call1, l_blt, l_blt1, l_mth, l_mth1, l_mth2, l_snil, l_scons, l_sqn, l_sqr, l_sqb, l_sqc, l_asg, l_asg1, l_asgs, l_asgs1, l_asgs2, l_asgs3, l_bT, l_b1, l_bn, l_bc, l_k0, l_k1, l_exp, l_exp1, l_ret, l_ret1, l_retN, l_brk, l_cnt, l_pss, l_if, l_ifT, l_ifF, l_sub, l_sub1, l_sub2, l_sub3, l_set, l_for, l_lc, l_seq, l_seqL, l_seqL1, l_seqT, l_seqS, l_fsh, l_rng1, l_rng11, l_enm, l_enmT, o_addI, o_subI, o_mulI, o_fdivI, o_modI, o_powI, o_addS, o_addT, o_addL, o_addL1, o_repL, o_repL1, o_repS, c_lt, c_le, c_gt, c_ge, c_eq, c_eq1, c_ne, c_ne1, c_in, c_nin, e_II, e_SS, d_II, d_SS, n_int, n_bl, x_tup, x_at, x_atS, x_str, x_lst, x_lst1, b_int, b_lenT, b_lenS, b_lenL, b_lenL1, b_tupT, b_tupL, b_tupL1, b_lstT, b_lstL, b_lstL1, b_min, b_max, b_isi, b_isi1, b_repr, m_app, m_app1, m_appOk, m_popOk, m_lstB, v_set, v_set1, t_op, t_lop, i_N, i_nN, i_T, i_nT, i_F, i_nF, List.getElem?_cons_succ, List.getElem?_cons_zero, List.set_cons_succ, List.set_cons_zero, st_get, st_get0, st_set, st_set0, if_true, tidy_app, tidy_same, trim_pure, trim_pure0, Nat.zero_le, Nat.zero_add, Nat.reduceAdd, Nat.reduceSub, List.replicate, List.map_cons, List.map_nil, List.cons_append, List.nil_append, h1, h2, h3, ne_eq, not_false_eq_true]
theorem dB0_run {a b c d4 h8 h9 : Option D} {s : Int} {k : Nat} {cells : List D} {rs acc : List Int} (hl : acc.length < line) :
    ∃ (s' : Int) (x : Int) (rs' : List Int) (y z : Option D), 0 ≤ x ∧ x < 1000 ∧ rs'.length = rs.length ∧
      evSs C dB0 [a, b, c, some (.int s), d4, some (.ref (S.length + 1)), some (.ref (S.length + 2)), some (.int (k : Nat)), h8, h9] (S ++ [.lst cells, .lst (rs.map .int), .lst (acc.map .int)]) =
        .nx [a, b, c, some (.int s'), d4, some (.ref (S.length + 1)), some (.ref (S.length + 2)), some (.int (k : Nat)), y, z] (S ++ [.lst cells, .lst (rs'.map .int), .lst ((acc ++ [x]).map .int)]) := by
  have h1 : ∀ i : Int, mulOk i 48271 = true := fun i => mulOk_r (by decide)
  have h2 : (1000 : Int) ≠ 0 := by decide
  have h3 : (2147483647 : Int) ≠ 0 := by decide
  have h4 : divOk 11 = true := by decide
  have h4' : divOk 1000 = true := by decide
  have h5 : ∀ (x : Int) (n : Nat), ¬ ((S.length + 2 < n ∧ (D.int x).pure = false) ∨ line ≤ (acc.map D.int).length) := fun x n q => by
    rcases q with ⟨_, q⟩ | q
    · cases q
    · rw [List.length_map] at q
      omega
  have h6 : ∀ (x : Int) (n : Nat), ¬ (S.length + 1 < n ∧ (D.int x).pure = false) := fun x n q => by cases q.2
  by_cases h0 : rs.length = 0
  · have e : rs = [] := List.eq_nil_of_length_eq_zero h0
    subst e
    refine ⟨(s * 48271 + 12345).fmod 2147483647, (((s * 48271 + 12345).fmod 2147483647).fdiv 11).fmod 1000, [], some (.int ((((s * 48271 + 12345).fmod 2147483647).fdiv 11).fmod 1000)), h9, ?_, ?_, rfl, ?_⟩
    · exact Int.fmod_nonneg_of_pos _ (by decide)
    · exact Int.fmod_lt_of_pos _ (by decide)
    · have h7 : decide ((0 : Int) < ((([] : List D).length : Nat) : Int)) = false := by decide
      simp only [dB0, l_var, l_var1, l_glo, l_glo1, l_cst, l_nil, l_cons, l_L1, l_L2, l_neg, l_neg1, l_not, l_not1, l_rev, l_rev1, l_lrg, l_lrg1, l_cdx, l_cdx1, l_isc, l_isc1, l_tdy, l_tdy1, l_bin, l_bin1, l_bin2, l_cmp, l_cmp1, l_cmp2, l_idx, l_idx1, l_idx2, l_chn, l_chn1, l_chn2, l_chn3, l_chn3f, l_chn4, l_ite, l_iteT, l_iteF, l_and, l_and1, l_and2, l_andG, l_andS, l_or, l_or1, l_or2, l_orG, l_orS, l_sli, l_sli1, l_sli2, l_sli3, l_tup, l_tup1, l_lst, l_lst1, l_call, l_call1, l_blt, l_blt1, l_mth, l_mth1, l_mth2, l_snil, l_scons, l_sqn, l_sqr, l_sqb, l_sqc, l_asg, l_asg1, l_asgs, l_asgs1, l_asgs2, l_asgs3, l_bT, l_b1, l_bn, l_bc, l_k0, l_k1, l_exp, l_exp1, l_ret, l_ret1, l_retN, l_brk, l_cnt, l_pss, l_if, l_ifT, l_ifF, l_sub, l_sub1, l_sub2, l_sub3, l_set, l_for, l_lc, l_seq, l_seqL, l_seqL1, l_seqT, l_seqS, l_fsh, l_rng1, l_rng11, l_enm, l_enmT, o_addI, o_subI, o_mulI, o_fdivI, o_modI, o_powI, o_addS, o_addT, o_addL, o_addL1, o_repL, o_repL1, o_repS, c_lt, c_le, c_gt, c_ge, c_eq, c_eq1, c_ne, c_ne1, c_in, c_nin, e_II, e_SS, d_II, d_SS, n_int, n_bl, x_tup, x_at, x_atS, x_str, x_lst, x_lst1, b_int, b_lenT, b_lenS, b_lenL, b_lenL1, b_tupT, b_tupL, b_tupL1, b_lstT, b_lstL, b_lstL1, b_min, b_max, b_isi, b_isi1, b_repr, m_app, m_app1, m_appOk, m_popOk, m_lstB, v_set, v_set1, t_op, t_lop, i_N, i_nN, i_T, i_nT, i_F, i_nF, List.getElem?_cons_succ, List.getElem?_cons_zero, List.set_cons_succ, List.set_cons_zero, st_get, st_get0, st_set, st_set0, if_true, tidy_app, tidy_same, trim_pure, trim_pure0, Nat.zero_le, Nat.zero_add, Nat.reduceAdd, Nat.reduceSub, List.replicate, List.map_cons, List.map_nil, List.cons_append, List.nil_append, h1, h2, h3, h4, h5, h7, ne_eq, not_false_eq_true, if_false, List.map_append, List.map_cons, List.map_nil]
  · have hp : 0 < rs.length := by omega
    have h7 : decide ((0 : Int) < ((List.map D.int rs).length : Nat)) = true := by
      rw [List.length_map]
      exact decide_eq_true (by omega)
    have h8' : ((List.map D.int rs).length : Int) ≠ 0 := by
      rw [List.length_map]
      omega
    have h9' : (k : Int).fmod ((List.map D.int rs).length : Nat) = ((k % rs.length : Nat) : Int) := by
      rw [List.length_map, Int.fmod_eq_emod_of_nonneg _ (by omega)]
      omega
    have hk : k % rs.length < rs.length := Nat.mod_lt _ hp
    have h10 : pyAt (List.map D.int rs) ((k % rs.length : Nat) : Int) = some (.int (rs[k % rs.length]'hk)) := by
      rw [pyAt_nat _ _ (by rw [List.length_map]; exact hk)]
      simp
    have h11 : pyIx (List.map D.int rs).length ((k % rs.length : Nat) : Int) = some (k % rs.length) := pyIx_nat (by rw [List.length_map]; exact hk)
    generalize rs[k % rs.length]'hk = v at h10
    by_cases hv : 0 < v
    · refine ⟨(s * 48271 + 12345).fmod 2147483647, v.fmod 1000, rs.set (k % rs.length) (v.fdiv 1000), some (.int (v.fmod 1000)), some (.int ((k % rs.length : Nat) : Int)), Int.fmod_nonneg_of_pos _ (by decide), Int.fmod_lt_of_pos _ (by decide), by simp, ?_⟩
      have h12 : decide (0 < v) = true := decide_eq_true hv
      simp only [dB0, l_var, l_var1, l_glo, l_glo1, l_cst, l_nil, l_cons, l_L1, l_L2, l_neg, l_neg1, l_not, l_not1, l_rev, l_rev1, l_lrg, l_lrg1, l_cdx, l_cdx1, l_isc, l_isc1, l_tdy, l_tdy1, l_bin, l_bin1, l_bin2, l_cmp, l_cmp1, l_cmp2, l_idx, l_idx1, l_idx2, l_chn, l_chn1, l_chn2, l_chn3, l_chn3f, l_chn4, l_ite, l_iteT, l_iteF, l_and, l_and1, l_and2, l_andG, l_andS, l_or, l_or1, l_or2, l_orG, l_orS, l_sli, l_sli1, l_sli2, l_sli3, l_tup, l_tup1, l_lst, l_lst1, l_call, l_call1, l_blt, l_blt1, l_mth, l_mth1, l_mth2, l_snil, l_scons, l_sqn, l_sqr, l_sqb, l_sqc, l_asg, l_asg1, l_asgs, l_asgs1, l_asgs2, l_asgs3, l_bT, l_b1, l_bn, l_bc, l_k0, l_k1, l_exp, l_exp1, l_ret, l_ret1, l_retN, l_brk, l_cnt, l_pss, l_if, l_ifT, l_ifF, l_sub, l_sub1, l_sub2, l_sub3, l_set, l_for, l_lc, l_seq, l_seqL, l_seqL1, l_seqT, l_seqS, l_fsh, l_rng1, l_rng11, l_enm, l_enmT, o_addI, o_subI, o_mulI, o_fdivI, o_modI, o_powI, o_addS, o_addT, o_addL, o_addL1, o_repL, o_repL1, o_repS, c_lt, c_le, c_gt, c_ge, c_eq, c_eq1, c_ne, c_ne1, c_in, c_nin, e_II, e_SS, d_II, d_SS, n_int, n_bl, x_tup, x_at, x_atS, x_str, x_lst, x_lst1, b_int, b_lenT, b_lenS, b_lenL, b_lenL1, b_tupT, b_tupL, b_tupL1, b_lstT, b_lstL, b_lstL1, b_min, b_max, b_isi, b_isi1, b_repr, m_app, m_app1, m_appOk, m_popOk, m_lstB, v_set, v_set1, t_op, t_lop, i_N, i_nN, i_T, i_nT, i_F, i_nF, List.getElem?_cons_succ, List.getElem?_cons_zero, List.set_cons_succ, List.set_cons_zero, st_get, st_get0, st_set, st_set0, if_true, tidy_app, tidy_same, trim_pure, trim_pure0, Nat.zero_le, Nat.zero_add, Nat.reduceAdd, Nat.reduceSub, List.replicate, List.map_cons, List.map_nil, List.cons_append, List.nil_append, h1, h2, h3, h4, h4', h5, h6, h7, h8', h9', h10, h11, h12, ne_eq, not_false_eq_true, if_false, List.map_append, List.map_cons, List.map_nil, Option.map_some, List.map_set]
    · refine ⟨(s * 48271 + 12345).fmod 2147483647, (((s * 48271 + 12345).fmod 2147483647).fdiv 11).fmod 1000, rs, some (.int ((((s * 48271 + 12345).fmod 2147483647).fdiv 11).fmod 1000)), some (.int ((k % rs.length : Nat) : Int)), Int.fmod_nonneg_of_pos _ (by decide), Int.fmod_lt_of_pos _ (by decide), rfl, ?_⟩
      have h12 : decide (0 < v) = false := decide_eq_false hv
      simp only [dB0, l_var, l_var1, l_glo, l_glo1, l_cst, l_nil, l_cons, l_L1, l_L2, l_neg, l_neg1, l_not, l_not1, l_rev, l_rev1, l_lrg, l_lrg1, l_cdx, l_cdx1, l_isc, l_isc1, l_tdy, l_tdy1, l_bin, l_bin1, l_bin2, l_cmp, l_cmp1, l_cmp2, l_idx, l_idx1, l_idx2, l_chn, l_chn1, l_chn2, l_chn3, l_chn3f, l_chn4, l_ite, l_iteT, l_iteF, l_and, l_and1, l_and2, l_andG, l_andS, l_or, l_or1, l_or2, l_orG, l_orS, l_sli, l_sli1, l_sli2, l_sli3, l_tup, l_tup1, l_lst, l_lst1, l_call, l_call1, l_blt, l_blt1, l_mth, l_mth1, l_mth2, l_snil, l_scons, l_sqn, l_sqr, l_sqb, l_sqc, l_asg, l_asg1, l_asgs, l_asgs1, l_asgs2, l_asgs3, l_bT, l_b1, l_bn, l_bc, l_k0, l_k1, l_exp, l_exp1, l_ret, l_ret1, l_retN, l_brk, l_cnt, l_pss, l_if, l_ifT, l_ifF, l_sub, l_sub1, l_sub2, l_sub3, l_set, l_for, l_lc, l_seq, l_seqL, l_seqL1, l_seqT, l_seqS, l_fsh, l_rng1, l_rng11, l_enm, l_enmT, o_addI, o_subI, o_mulI, o_fdivI, o_modI, o_powI, o_addS, o_addT, o_addL, o_addL1, o_repL, o_repL1, o_repS, c_lt, c_le, c_gt, c_ge, c_eq, c_eq1, c_ne, c_ne1, c_in, c_nin, e_II, e_SS, d_II, d_SS, n_int, n_bl, x_tup, x_at, x_atS, x_str, x_lst, x_lst1, b_int, b_lenT, b_lenS, b_lenL, b_lenL1, b_tupT, b_tupL, b_tupL1, b_lstT, b_lstL, b_lstL1, b_min, b_max, b_isi, b_isi1, b_repr, m_app, m_app1, m_appOk, m_popOk, m_lstB, v_set, v_set1, t_op, t_lop, i_N, i_nN, i_T, i_nT, i_F, i_nF, List.getElem?_cons_succ, List.getElem?_cons_zero, List.set_cons_succ, List.set_cons_zero, st_get, st_get0, st_set, st_set0, if_true, tidy_app, tidy_same, trim_pure, trim_pure0, Nat.zero_le, Nat.zero_add, Nat.reduceAdd, Nat.reduceSub, List.replicate, List.map_cons, List.map_nil, List.cons_append, List.nil_append, h1, h2, h3, h4, h4', h5, h6, h7, h8', h9', h10, h11, h12, ne_eq, not_false_eq_true, if_false, List.map_append, List.map_cons, List.map_nil, Option.map_some, List.map_set]
/-- the drawn numbers -/
theorem draws_run (ns : List Int) (many : Nat) (hm : many ≤ 100000) : ∃ (cells : List D) (ds rs : List Int), ds.length = many ∧ (∀ d ∈ ds, 0 ≤ d ∧ d < 1000) ∧
    evSs C dBody [some (.frl (ns.map .int)), some (.int (many : Nat)), none, none, none, none, none, none, none, none] S = .rt (.ref (S.length + 2)) (S ++ [.lst cells, .lst (rs.map .int), .lst (ds.map .int)]) := by
  have pureI : ∀ (n : Nat) (l : List Int), D.unds n (l.map .int) = true := fun n l => by
    induction l with
    | nil => simp [D.unds]
    | cons x l ih => simp [D.unds, D.und, ih]
  -- the cells
  have lf : List.length (S ++ [Ob.lst ((ns.take 63).map D.int)]) = S.length + 1 := by simp
  have e1 : ∀ ρ : Env, ρ[0]? = some (some (.frl (ns.map .int))) → ρ.length = 10 → evE C (.tdy (.lc [4] true [4] (.fsh (.sli (.var 0) (.cst .non) (.cst (.int 63)))) (.cst (.bl true)) (.blt .int (.cons (.var 4) .nil)))) ρ S = .ok (.ref S.length) (S ++ [.lst ((ns.take 63).map .int)]) := by
    intro ρ h0 hl
    have hc : cut (ns.map D.int) none (some 63) = (ns.take 63).map .int := by
      unfold cut cutIx
      simp
    have hs : evIt C (.fsh (.sli (.var 0) (.cst .non) (.cst (.int 63)))) ρ S = .ok ((ns.take 63).map .int) [] S := by
      simp only [l_var, l_var1, l_glo, l_glo1, l_cst, l_nil, l_cons, l_L1, l_L2, l_neg, l_neg1, l_not, l_not1, l_rev, l_rev1, l_lrg, l_lrg1, l_cdx, l_cdx1, l_isc, l_isc1, l_tdy, l_tdy1, l_bin, l_bin1, l_bin2, l_cmp, l_cmp1, l_cmp2, l_idx, l_idx1, l_idx2, l_chn, l_chn1, l_chn2, l_chn3, l_chn3f, l_chn4, l_ite, l_iteT, l_iteF, l_and, l_and1, l_and2, l_andG, l_andS, l_or, l_or1, l_or2, l_orG, l_orS, l_sli, l_sli1, l_sli2, l_sli3, l_tup, l_tup1, l_lst, l_lst1, l_call, l_call1, l_blt, l_blt1, l_mth, l_mth1, l_mth2, l_snil, l_scons, l_sqn, l_sqr, l_sqb, l_sqc, l_asg, l_asg1, l_asgs, l_asgs1, l_asgs2, l_asgs3, l_bT, l_b1, l_bn, l_bc, l_k0, l_k1, l_exp, l_exp1, l_ret, l_ret1, l_retN, l_brk, l_cnt, l_pss, l_if, l_ifT, l_ifF, l_sub, l_sub1, l_sub2, l_sub3, l_set, l_for, l_lc, l_seq, l_seqL, l_seqL1, l_seqT, l_seqS, l_fsh, l_rng1, l_rng11, l_enm, l_enmT, o_addI, o_subI, o_mulI, o_fdivI, o_modI, o_powI, o_addS, o_addT, o_addL, o_addL1, o_repL, o_repL1, o_repS, c_lt, c_le, c_gt, c_ge, c_eq, c_eq1, c_ne, c_ne1, c_in, c_nin, e_II, e_SS, d_II, d_SS, n_int, n_bl, x_tup, x_at, x_atS, x_str, x_lst, x_lst1, b_int, b_lenT, b_lenS, b_lenL, b_lenL1, b_tupT, b_tupL, b_tupL1, b_lstT, b_lstL, b_lstL1, b_min, b_max, b_isi, b_isi1, b_repr, m_app, m_app1, m_appOk, m_popOk, m_lstB, v_set, v_set1, t_op, t_lop, i_N, i_nN, i_T, i_nT, i_F, i_nF, List.getElem?_cons_succ, List.getElem?_cons_zero, List.set_cons_succ, List.set_cons_zero, st_get, st_get0, st_set, st_set0, if_true, tidy_app, tidy_same, trim_pure, trim_pure0, Nat.zero_le, Nat.zero_add, Nat.reduceAdd, Nat.reduceSub, List.replicate, List.map_cons, List.map_nil, List.cons_append, List.nil_append, h0, l_fsh, E.isNon, bnd, sliK, sliop, hc, if_true, Bool.false_eq_true, if_false, st_alloc0]
      exact fresh_lst (k := 0) (by rfl) (pureI _ _)
    have hL : lcL [] (fun d => bindTg true [4] d (kill [4] ρ)) (fun ρ S => evE C (.cst (.bl true)) ρ S) (fun ρ S => evE C (.blt .int (.cons (.var 4) .nil)) ρ S) ((ns.take 63).map .int) S = .ok (((ns.take 63).map .int).map fun d => d) S := by
      refine lcL_map (by rfl) fun x hx => ?_
      obtain ⟨i, _, rfl⟩ := List.mem_map.mp hx
      have h4 : ∀ d, ((ρ.set 4 none).set 4 (some d))[4]? = some (some d) := fun d => by
        rw [List.getElem?_set_self]
        rw [List.length_set, hl]
        decide
      exact ⟨_, rfl, l_cst, by simp only [l_var, l_var1, l_glo, l_glo1, l_cst, l_nil, l_cons, l_L1, l_L2, l_neg, l_neg1, l_not, l_not1, l_rev, l_rev1, l_lrg, l_lrg1, l_cdx, l_cdx1, l_isc, l_isc1, l_tdy, l_tdy1, l_bin, l_bin1, l_bin2, l_cmp, l_cmp1, l_cmp2, l_idx, l_idx1, l_idx2, l_chn, l_chn1, l_chn2, l_chn3, l_chn3f, l_chn4, l_ite, l_iteT, l_iteF, l_and, l_and1, l_and2, l_andG, l_andS, l_or, l_or1, l_or2, l_orG, l_orS, l_sli, l_sli1, l_sli2, l_sli3, l_tup, l_tup1, l_lst, l_lst1, l_call, l_call1, l_blt, l_blt1, l_mth, l_mth1, l_mth2, l_snil, l_scons, l_sqn, l_sqr, l_sqb, l_sqc, l_asg, l_asg1, l_asgs, l_asgs1, l_asgs2, l_asgs3, l_bT, l_b1, l_bn, l_bc, l_k0, l_k1, l_exp, l_exp1, l_ret, l_ret1, l_retN, l_brk, l_cnt, l_pss, l_if, l_ifT, l_ifF, l_sub, l_sub1, l_sub2, l_sub3, l_set, l_for, l_lc, l_seq, l_seqL, l_seqL1, l_seqT, l_seqS, l_fsh, l_rng1, l_rng11, l_enm, l_enmT, o_addI, o_subI, o_mulI, o_fdivI, o_modI, o_powI, o_addS, o_addT, o_addL, o_addL1, o_repL, o_repL1, o_repS, c_lt, c_le, c_gt, c_ge, c_eq, c_eq1, c_ne, c_ne1, c_in, c_nin, e_II, e_SS, d_II, d_SS, n_int, n_bl, x_tup, x_at, x_atS, x_str, x_lst, x_lst1, b_int, b_lenT, b_lenS, b_lenL, b_lenL1, b_tupT, b_tupL, b_tupL1, b_lstT, b_lstL, b_lstL1, b_min, b_max, b_isi, b_isi1, b_repr, m_app, m_app1, m_appOk, m_popOk, m_lstB, v_set, v_set1, t_op, t_lop, i_N, i_nN, i_T, i_nT, i_F, i_nF, List.getElem?_cons_succ, List.getElem?_cons_zero, List.set_cons_succ, List.set_cons_zero, st_get, st_get0, st_set, st_set0, if_true, tidy_app, tidy_same, trim_pure, trim_pure0, Nat.zero_le, Nat.zero_add, Nat.reduceAdd, Nat.reduceSub, List.replicate, List.map_cons, List.map_nil, List.cons_append, List.nil_append, h4]⟩
    rw [List.map_id'] at hL
    rw [l_tdy, l_lc, hs, l_lc1 (by rw [List.length_map]; simp; exact Nat.le_trans (Nat.min_le_left _ _) (by decide)) hL, st_alloc0, l_tdy1, tidy_app]
    exact trim_lst0 rfl (pureI _ _)
  have lenI : ((List.map D.int (ns.take 63)).length : Int) = ((ns.take 63).length : Nat) := by rw [List.length_map]
  -- the state by the cells
  generalize hcs : ns.take 63 = cs at *
  have w1 : ∀ T : Sto, wOk (S ++ (Ob.lst (cs.map .int) :: T)) [(S.length, .lst (cs.map .int))] = true := fun T => by
    simp [wOk, st_get0]
  have f1 : ∀ (s0 : Int), ∃ s1 : Int, forL [(S.length, Ob.lst (cs.map .int))] (tgF true [4]) [4] (bodyF C dB1) (cs.map .int) [some (.frl (ns.map .int)), some (.int (many : Nat)), some (.ref S.length), some (.int s0), none, none, none, none, none, none] (S ++ [.lst (cs.map .int)]) =
      .nx [some (.frl (ns.map .int)), some (.int (many : Nat)), some (.ref S.length), some (.int s1), none, none, none, none, none, none] (S ++ [.lst (cs.map .int)]) := by
    intro s0
    obtain ⟨ρ', S', h1, ⟨s1, o, h2, h3⟩⟩ := forL_ind (w := [(S.length, Ob.lst (cs.map .int))]) (bd := tgF true [4]) (ks := [4]) (body := bodyF C dB1)
      (fun _ ρ T => ∃ (s1 : Int) (o : Option D), ρ = [some (.frl (ns.map .int)), some (.int (many : Nat)), some (.ref S.length), some (.int s1), o, none, none, none, none, none] ∧ T = S ++ [.lst (cs.map .int)]) (xs := cs.map .int)
      (ρ := [some (.frl (ns.map .int)), some (.int (many : Nat)), some (.ref S.length), some (.int s0), none, none, none, none, none, none]) (S := S ++ [.lst (cs.map .int)]) ⟨s0, none, rfl, rfl⟩
      (fun _ ρ T h => by obtain ⟨_, _, _, rfl⟩ := h; exact w1 []) (fun j x ρ T hx h => by
        obtain ⟨s1, o, rfl, rfl⟩ := h
        obtain ⟨i, _, rfl⟩ := List.mem_map.mp (List.mem_of_getElem? hx)
        exact ⟨_, _, _, rfl, .inl (dB1_run C), _, _, rfl, rfl⟩)
    refine ⟨s1, ?_⟩
    rw [h1, h2, h3]
    rfl
  obtain ⟨s1, f1⟩ := f1 (7 + ((cs.length : Nat) : Int))
  -- the great ones
  have e2 : ∀ ρ : Env, ρ.length = 10 → k_lc C [4] true [4] (.cmp .ge (.var 4) (.bin .pow (.cst (.int 10)) (.cst (.int 18)))) (.var 4) ρ (.ok (cs.map .int) [(S.length, .lst (cs.map .int))] (S ++ [.lst (cs.map .int)])) =
      .ok (.ref (S.length + 1)) (S ++ [.lst (cs.map .int), .lst ((cs.filter fun i => decide ((1000000000000000000 : Int) ≤ i)).map .int)]) := by
    intro ρ hl
    have h4 : ∀ d, ((ρ.set 4 none).set 4 (some d))[4]? = some (some d) := fun d => by
      rw [List.getElem?_set_self]
      rw [List.length_set, hl]
      decide
    have hL : lcL [(S.length, Ob.lst (cs.map .int))] (fun d => bindTg true [4] d (kill [4] ρ)) (fun ρ S => evE C (.cmp .ge (.var 4) (.bin .pow (.cst (.int 10)) (.cst (.int 18)))) ρ S) (fun ρ S => evE C (.var 4) ρ S) (cs.map .int) (S ++ [.lst (cs.map .int)]) =
        .ok (((cs.map .int).filter fun d => match d with
          | .int i => decide ((1000000000000000000 : Int) ≤ i)
          | _ => false).map fun d => d) (S ++ [.lst (cs.map .int)]) := by
      refine lcL_pure (w1 []) fun x hx => ?_
      obtain ⟨i, _, rfl⟩ := List.mem_map.mp hx
      have hp : ((0 : Int) ≤ 18 ∧ (18 : Int) ≤ 1000000 ∧ (10 : Int).natAbs < 18446744073709551616) = True := by simp
      have hq : (10 : Int) ^ (18 : Int).toNat = 1000000000000000000 := by decide
      exact ⟨_, rfl, by simp only [l_var, l_var1, l_glo, l_glo1, l_cst, l_nil, l_cons, l_L1, l_L2, l_neg, l_neg1, l_not, l_not1, l_rev, l_rev1, l_lrg, l_lrg1, l_cdx, l_cdx1, l_isc, l_isc1, l_tdy, l_tdy1, l_bin, l_bin1, l_bin2, l_cmp, l_cmp1, l_cmp2, l_idx, l_idx1, l_idx2, l_chn, l_chn1, l_chn2, l_chn3, l_chn3f, l_chn4, l_ite, l_iteT, l_iteF, l_and, l_and1, l_and2, l_andG, l_andS, l_or, l_or1, l_or2, l_orG, l_orS, l_sli, l_sli1, l_sli2, l_sli3, l_tup, l_tup1, l_lst, l_lst1, l_call, l_call1, l_blt, l_blt1, l_mth, l_mth1, l_mth2, l_snil, l_scons, l_sqn, l_sqr, l_sqb, l_sqc, l_asg, l_asg1, l_asgs, l_asgs1, l_asgs2, l_asgs3, l_bT, l_b1, l_bn, l_bc, l_k0, l_k1, l_exp, l_exp1, l_ret, l_ret1, l_retN, l_brk, l_cnt, l_pss, l_if, l_ifT, l_ifF, l_sub, l_sub1, l_sub2, l_sub3, l_set, l_for, l_lc, l_seq, l_seqL, l_seqL1, l_seqT, l_seqS, l_fsh, l_rng1, l_rng11, l_enm, l_enmT, o_addI, o_subI, o_mulI, o_fdivI, o_modI, o_powI, o_addS, o_addT, o_addL, o_addL1, o_repL, o_repL1, o_repS, c_lt, c_le, c_gt, c_ge, c_eq, c_eq1, c_ne, c_ne1, c_in, c_nin, e_II, e_SS, d_II, d_SS, n_int, n_bl, x_tup, x_at, x_atS, x_str, x_lst, x_lst1, b_int, b_lenT, b_lenS, b_lenL, b_lenL1, b_tupT, b_tupL, b_tupL1, b_lstT, b_lstL, b_lstL1, b_min, b_max, b_isi, b_isi1, b_repr, m_app, m_app1, m_appOk, m_popOk, m_lstB, v_set, v_set1, t_op, t_lop, i_N, i_nN, i_T, i_nT, i_F, i_nF, List.getElem?_cons_succ, List.getElem?_cons_zero, List.set_cons_succ, List.set_cons_zero, st_get, st_get0, st_set, st_set0, if_true, tidy_app, tidy_same, trim_pure, trim_pure0, Nat.zero_le, Nat.zero_add, Nat.reduceAdd, Nat.reduceSub, List.replicate, List.map_cons, List.map_nil, List.cons_append, List.nil_append, h4, hp, hq], fun _ => by simp only [l_var, l_var1, l_glo, l_glo1, l_cst, l_nil, l_cons, l_L1, l_L2, l_neg, l_neg1, l_not, l_not1, l_rev, l_rev1, l_lrg, l_lrg1, l_cdx, l_cdx1, l_isc, l_isc1, l_tdy, l_tdy1, l_bin, l_bin1, l_bin2, l_cmp, l_cmp1, l_cmp2, l_idx, l_idx1, l_idx2, l_chn, l_chn1, l_chn2, l_chn3, l_chn3f, l_chn4, l_ite, l_iteT, l_iteF, l_and, l_and1, l_and2, l_andG, l_andS, l_or, l_or1, l_or2, l_orG, l_orS, l_sli, l_sli1, l_sli2, l_sli3, l_tup, l_tup1, l_lst, l_lst1, l_call, l_call1, l_blt, l_blt1, l_mth, l_mth1, l_mth2, l_snil, l_scons, l_sqn, l_sqr, l_sqb, l_sqc, l_asg, l_asg1, l_asgs, l_asgs1, l_asgs2, l_asgs3, l_bT, l_b1, l_bn, l_bc, l_k0, l_k1, l_exp, l_exp1, l_ret, l_ret1, l_retN, l_brk, l_cnt, l_pss, l_if, l_ifT, l_ifF, l_sub, l_sub1, l_sub2, l_sub3, l_set, l_for, l_lc, l_seq, l_seqL, l_seqL1, l_seqT, l_seqS, l_fsh, l_rng1, l_rng11, l_enm, l_enmT, o_addI, o_subI, o_mulI, o_fdivI, o_modI, o_powI, o_addS, o_addT, o_addL, o_addL1, o_repL, o_repL1, o_repS, c_lt, c_le, c_gt, c_ge, c_eq, c_eq1, c_ne, c_ne1, c_in, c_nin, e_II, e_SS, d_II, d_SS, n_int, n_bl, x_tup, x_at, x_atS, x_str, x_lst, x_lst1, b_int, b_lenT, b_lenS, b_lenL, b_lenL1, b_tupT, b_tupL, b_tupL1, b_lstT, b_lstL, b_lstL1, b_min, b_max, b_isi, b_isi1, b_repr, m_app, m_app1, m_appOk, m_popOk, m_lstB, v_set, v_set1, t_op, t_lop, i_N, i_nN, i_T, i_nT, i_F, i_nF, List.getElem?_cons_succ, List.getElem?_cons_zero, List.set_cons_succ, List.set_cons_zero, st_get, st_get0, st_set, st_set0, if_true, tidy_app, tidy_same, trim_pure, trim_pure0, Nat.zero_le, Nat.zero_add, Nat.reduceAdd, Nat.reduceSub, List.replicate, List.map_cons, List.map_nil, List.cons_append, List.nil_append, h4]⟩
    rw [List.map_id'] at hL
    rw [l_lc1 (by rw [List.length_map, ← hcs]; simp; exact Nat.le_trans (Nat.min_le_left _ _) (by decide)) hL, st_alloc, List.filter_map]
    rfl
  -- the draws
  generalize hr0 : (cs.filter fun i => decide ((1000000000000000000 : Int) ≤ i)) = r0 at e2
  have hm1 : ((many : Nat) : Int).toNat = many := by omega
  obtain ⟨ρ', S', g1, ⟨s2, ds, rs, d4, o7, o8, o9, g2, g3, g4, g5⟩⟩ := forL_ind (w := []) (bd := tgF true [7]) (ks := [7, 8, 9]) (body := bodyF C dB0)
    (fun j ρ T => ∃ (s2 : Int) (ds rs : List Int) (d4 o7 o8 o9 : Option D), ds.length = j ∧ (∀ d ∈ ds, 0 ≤ d ∧ d < 1000) ∧ ρ = [some (.frl (ns.map .int)), some (.int (many : Nat)), some (.ref S.length), some (.int s2), d4, some (.ref (S.length + 1)), some (.ref (S.length + 2)), o7, o8, o9] ∧
      T = S ++ [.lst (cs.map .int), .lst (rs.map .int), .lst (ds.map .int)]) (xs := rngL 0 many)
    (ρ := [some (.frl (ns.map .int)), some (.int (many : Nat)), some (.ref S.length), some (.int s1), none, some (.ref (S.length + 1)), some (.ref (S.length + 2)), none, none, none]) (S := S ++ [.lst (cs.map .int), .lst (r0.map .int), .lst []])
    ⟨s1, [], r0, none, none, none, none, rfl, (fun d hd => by cases hd), rfl, rfl⟩ (fun _ _ _ _ => rfl) (fun j x ρ T hx h => by
      obtain ⟨s2, ds, rs, d4, o7, o8, o9, q1, q2, rfl, rfl⟩ := h
      have hj : j < many := by
        have := (List.getElem?_eq_some_iff.mp hx).1
        rw [rngL_ints, List.length_map, List.length_range] at this
        exact this
      have hx' : x = .int (j : Nat) := by
        rw [rngL_ints, List.getElem?_map, List.getElem?_range hj] at hx
        simp at hx
        exact hx.symm
      subst hx'
      obtain ⟨s', y, rs', p, q, b1, b2, b3, b4⟩ := dB0_run C S (a := some (.frl (ns.map .int))) (b := some (.int (many : Nat))) (c := some (.ref S.length)) (d4 := d4) (h8 := none) (h9 := none) (s := s2) (k := j) (cells := cs.map .int) (rs := rs) (acc := ds) (by
        have : line = 16777216 := rfl
        omega)
      refine ⟨_, _, _, rfl, .inl ?_, s', ds ++ [y], rs', d4, some (.int (j : Nat)), p, q, by simp [q1], fun d hd => ?_, rfl, rfl⟩
      · exact b4
      · rcases List.mem_append.mp hd with hd | hd
        · exact q2 d hd
        · rw [List.mem_singleton.mp hd]
          exact ⟨b1, b2⟩)
  have hlen : ds.length = many := by
    rw [g2, rngL_ints, List.length_map, List.length_range]
  refine ⟨cs.map .int, ds, rs, hlen, g3, ?_⟩
  have hrng : (-4611686018427387904 ≤ ((many : Nat) : Int) ∧ ((many : Nat) : Int) < 4611686018427387904) = True := by
    simp
    omega
  unfold dBody
  rw [l_scons, l_asg, e1 _ rfl rfl]
  simp only [l_var, l_var1, l_glo, l_glo1, l_cst, l_nil, l_cons, l_L1, l_L2, l_neg, l_neg1, l_not, l_not1, l_rev, l_rev1, l_lrg, l_lrg1, l_cdx, l_cdx1, l_isc, l_isc1, l_tdy, l_tdy1, l_bin, l_bin1, l_bin2, l_cmp, l_cmp1, l_cmp2, l_idx, l_idx1, l_idx2, l_chn, l_chn1, l_chn2, l_chn3, l_chn3f, l_chn4, l_ite, l_iteT, l_iteF, l_and, l_and1, l_and2, l_andG, l_andS, l_or, l_or1, l_or2, l_orG, l_orS, l_sli, l_sli1, l_sli2, l_sli3, l_tup, l_tup1, l_lst, l_lst1, l_call, l_call1, l_blt, l_blt1, l_mth, l_mth1, l_mth2, l_snil, l_scons, l_sqn, l_sqr, l_sqb, l_sqc, l_asg, l_asg1, l_asgs, l_asgs1, l_asgs2, l_asgs3, l_bT, l_b1, l_bn, l_bc, l_k0, l_k1, l_exp, l_exp1, l_ret, l_ret1, l_retN, l_brk, l_cnt, l_pss, l_if, l_ifT, l_ifF, l_sub, l_sub1, l_sub2, l_sub3, l_set, l_for, l_lc, l_seq, l_seqL, l_seqL1, l_seqT, l_seqS, l_fsh, l_rng1, l_rng11, l_enm, l_enmT, o_addI, o_subI, o_mulI, o_fdivI, o_modI, o_powI, o_addS, o_addT, o_addL, o_addL1, o_repL, o_repL1, o_repS, c_lt, c_le, c_gt, c_ge, c_eq, c_eq1, c_ne, c_ne1, c_in, c_nin, e_II, e_SS, d_II, d_SS, n_int, n_bl, x_tup, x_at, x_atS, x_str, x_lst, x_lst1, b_int, b_lenT, b_lenS, b_lenL, b_lenL1, b_tupT, b_tupL, b_tupL1, b_lstT, b_lstL, b_lstL1, b_min, b_max, b_isi, b_isi1, b_repr, m_app, m_app1, m_appOk, m_popOk, m_lstB, v_set, v_set1, t_op, t_lop, i_N, i_nN, i_T, i_nT, i_F, i_nF, List.getElem?_cons_succ, List.getElem?_cons_zero, List.set_cons_succ, List.set_cons_zero, st_get, st_get0, st_set, st_set0, if_true, tidy_app, tidy_same, trim_pure, trim_pure0, Nat.zero_le, Nat.zero_add, Nat.reduceAdd, Nat.reduceSub, List.replicate, List.map_cons, List.map_nil, List.cons_append, List.nil_append, List.length_map, f1, l_for1]
  rw [e2 _ rfl]
  have l0 : (([] : List D).length ≤ line) = True := by simp
  simp only [l_var, l_var1, l_glo, l_glo1, l_cst, l_nil, l_cons, l_L1, l_L2, l_neg, l_neg1, l_not, l_not1, l_rev, l_rev1, l_lrg, l_lrg1, l_cdx, l_cdx1, l_isc, l_isc1, l_tdy, l_tdy1, l_bin, l_bin1, l_bin2, l_cmp, l_cmp1, l_cmp2, l_idx, l_idx1, l_idx2, l_chn, l_chn1, l_chn2, l_chn3, l_chn3f, l_chn4, l_ite, l_iteT, l_iteF, l_and, l_and1, l_and2, l_andG, l_andS, l_or, l_or1, l_or2, l_orG, l_orS, l_sli, l_sli1, l_sli2, l_sli3, l_tup, l_tup1, l_lst, l_lst1, l_call, l_call1, l_blt, l_blt1, l_mth, l_mth1, l_mth2, l_snil, l_scons, l_sqn, l_sqr, l_sqb, l_sqc, l_asg, l_asg1, l_asgs, l_asgs1, l_asgs2, l_asgs3, l_bT, l_b1, l_bn, l_bc, l_k0, l_k1, l_exp, l_exp1, l_ret, l_ret1, l_retN, l_brk, l_cnt, l_pss, l_if, l_ifT, l_ifF, l_sub, l_sub1, l_sub2, l_sub3, l_set, l_for, l_lc, l_seq, l_seqL, l_seqL1, l_seqT, l_seqS, l_fsh, l_rng1, l_rng11, l_enm, l_enmT, o_addI, o_subI, o_mulI, o_fdivI, o_modI, o_powI, o_addS, o_addT, o_addL, o_addL1, o_repL, o_repL1, o_repS, c_lt, c_le, c_gt, c_ge, c_eq, c_eq1, c_ne, c_ne1, c_in, c_nin, e_II, e_SS, d_II, d_SS, n_int, n_bl, x_tup, x_at, x_atS, x_str, x_lst, x_lst1, b_int, b_lenT, b_lenS, b_lenL, b_lenL1, b_tupT, b_tupL, b_tupL1, b_lstT, b_lstL, b_lstL1, b_min, b_max, b_isi, b_isi1, b_repr, m_app, m_app1, m_appOk, m_popOk, m_lstB, v_set, v_set1, t_op, t_lop, i_N, i_nN, i_T, i_nT, i_F, i_nF, List.getElem?_cons_succ, List.getElem?_cons_zero, List.set_cons_succ, List.set_cons_zero, st_get, st_get0, st_set, st_set0, if_true, tidy_app, tidy_same, trim_pure, trim_pure0, Nat.zero_le, Nat.zero_add, Nat.reduceAdd, Nat.reduceSub, List.replicate, List.map_cons, List.map_nil, List.cons_append, List.nil_append, l0, st_alloc, hrng, hm1, l_for1, List.length_cons, List.length_nil, List.cons_append, List.nil_append]
  rw [g1, g4, g5]
  simp only [l_var, l_var1, l_glo, l_glo1, l_cst, l_nil, l_cons, l_L1, l_L2, l_neg, l_neg1, l_not, l_not1, l_rev, l_rev1, l_lrg, l_lrg1, l_cdx, l_cdx1, l_isc, l_isc1, l_tdy, l_tdy1, l_bin, l_bin1, l_bin2, l_cmp, l_cmp1, l_cmp2, l_idx, l_idx1, l_idx2, l_chn, l_chn1, l_chn2, l_chn3, l_chn3f, l_chn4, l_ite, l_iteT, l_iteF, l_and, l_and1, l_and2, l_andG, l_andS, l_or, l_or1, l_or2, l_orG, l_orS, l_sli, l_sli1, l_sli2, l_sli3, l_tup, l_tup1, l_lst, l_lst1, l_call, l_call1, l_blt, l_blt1, l_mth, l_mth1, l_mth2, l_snil, l_scons, l_sqn, l_sqr, l_sqb, l_sqc, l_asg, l_asg1, l_asgs, l_asgs1, l_asgs2, l_asgs3, l_bT, l_b1, l_bn, l_bc, l_k0, l_k1, l_exp, l_exp1, l_ret, l_ret1, l_retN, l_brk, l_cnt, l_pss, l_if, l_ifT, l_ifF, l_sub, l_sub1, l_sub2, l_sub3, l_set, l_for, l_lc, l_seq, l_seqL, l_seqL1, l_seqT, l_seqS, l_fsh, l_rng1, l_rng11, l_enm, l_enmT, o_addI, o_subI, o_mulI, o_fdivI, o_modI, o_powI, o_addS, o_addT, o_addL, o_addL1, o_repL, o_repL1, o_repS, c_lt, c_le, c_gt, c_ge, c_eq, c_eq1, c_ne, c_ne1, c_in, c_nin, e_II, e_SS, d_II, d_SS, n_int, n_bl, x_tup, x_at, x_atS, x_str, x_lst, x_lst1, b_int, b_lenT, b_lenS, b_lenL, b_lenL1, b_tupT, b_tupL, b_tupL1, b_lstT, b_lstL, b_lstL1, b_min, b_max, b_isi, b_isi1, b_repr, m_app, m_app1, m_appOk, m_popOk, m_lstB, v_set, v_set1, t_op, t_lop, i_N, i_nN, i_T, i_nT, i_F, i_nF, List.getElem?_cons_succ, List.getElem?_cons_zero, List.set_cons_succ, List.set_cons_zero, st_get, st_get0, st_set, st_set0, if_true, tidy_app, tidy_same, trim_pure, trim_pure0, Nat.zero_le, Nat.zero_add, Nat.reduceAdd, Nat.reduceSub, List.replicate, List.map_cons, List.map_nil, List.cons_append, List.nil_append]
end
end Ev

set_option Elab.async false
set_option linter.all false
set_option maxRecDepth 100000
set_option maxHeartbeats 0
namespace Lw
open PySem PySem.Spec PyProof.Rows L2 Ev
def top (i : Nat) : Stmt := PySem.Challenge.pw_umpirehall_k85_scripts_of_long_lines.main.body.getD i (.Pass ⟨0, 0, 0, 0⟩)
def b0_is_line : Ss :=
 (.cons (.ite (.and (.cons (.cmp .notin (.var 1) (.glo 0)) (.cons (.cmp .notin (.var 1) (.glo 1)) (.cons (.cmp .notin (.var 1) (.glo 3)) .nil))))
 (.cons (.ret (.cst (.bl false)))
 .nil)
 .nil)
 .nil)
def i_is_line : Fn := ⟨1, 2,
 (.cons (.ite (.or (.cons (.not (.blt (.isi .str) (.cons (.var 0) .nil))) (.cons (.not (.chn .le .le (.cst (.int 1)) (.blt .len (.cons (.var 0) .nil)) (.glo 2))) .nil)))
 (.cons (.ret (.cst (.bl false)))
 .nil)
 .nil)
 (.cons (.for_ true [1] (.seq (.var 0)) [1] b0_is_line)
 (.cons (.ret (.and (.cons (.cmp .ne (.idx (.var 0) (.cst (.int 0))) (.cst (.str [32]))) (.cons (.cmp .ne (.idx (.var 0) (.neg (.cst (.int 1)))) (.cst (.str [32]))) (.cons (.cmp .notin (.cst (.str [32, 32])) (.var 0)) .nil)))))
 .nil)))⟩
def d_is_line : Df := ⟨"is_line", "is_line", ["value"], ["value", "sign"], defArgs (top 8), defBody (top 8), defScope (top 8), i_is_line⟩
def b0_is_lines : Ss :=
 (.cons (.ite (.tdy (.not (.call 0 (.cons (.var 1) .nil))))
 (.cons (.ret (.cst (.bl false)))
 .nil)
 .nil)
 .nil)
def i_is_lines : Fn := ⟨1, 2,
 (.cons (.ite (.or (.cons (.not (.blt (.isi .tup) (.cons (.var 0) .nil))) (.cons (.cmp .gt (.blt .len (.cons (.var 0) .nil)) (.glo 4)) .nil)))
 (.cons (.ret (.cst (.bl false)))
 .nil)
 .nil)
 (.cons (.for_ true [1] (.seq (.var 0)) [1] b0_is_lines)
 (.cons (.ret (.cst (.bl true)))
 .nil)))⟩
def d_is_lines : Df := ⟨"is_lines", "is_lines", ["value"], ["value", "line"], defArgs (top 11), defBody (top 11), defScope (top 11), i_is_lines⟩
def i_check_lines : Fn := ⟨2, 2,
 (.cons (.ite (.tdy (.or (.cons (.not (.call 1 (.cons (.var 0) .nil))) (.cons (.not (.call 1 (.cons (.var 1) .nil))) .nil))))
 (.cons .nev
 .nil)
 .nil)
 .nil)⟩
def d_check_lines : Df := ⟨"check_lines", "check_lines", ["a", "b"], ["a", "b"], defArgs (top 12), defBody (top 12), defScope (top 12), i_check_lines⟩
def b0_least_costs : Ss :=
 (.cons (.asg 9 (.bin .add (.blt .min (.cons (.idx (.var 5) (.bin .add (.var 7) (.cst (.int 1)))) (.cons (.idx (.var 6) (.var 7)) .nil))) (.cst (.int 1))))
 (.cons (.ite (.cmp .eq (.var 4) (.var 8))
 (.cons (.asg 9 (.blt .min (.cons (.var 9) (.cons (.idx (.var 5) (.var 7)) .nil))))
 .nil)
 .nil)
 (.cons (.exp (.mth .append (.var 6) (.cons (.var 9) .nil)))
 .nil)))
def b1_least_costs : Ss :=
 (.cons (.asg 5 (.idx (.var 2) (.var 3)))
 (.cons (.asg 6 (.lst (.cons (.bin .add (.var 3) (.cst (.int 1))) .nil)))
 (.cons (.for_ false [7, 8] (.enm (.var 1)) [7, 8, 9] b0_least_costs)
 (.cons (.exp (.mth .append (.var 2) (.cons (.var 6) .nil)))
 .nil))))
def i_least_costs : Fn := ⟨2, 10,
 (.cons (.asg 2 (.tdy (.lst (.cons (.lrg (.bin .add (.blt .len (.cons (.var 1) .nil)) (.cst (.int 1)))) .nil))))
 (.cons (.for_ false [3, 4] (.enm (.var 0)) [3, 4, 5, 6, 7, 8, 9] b1_least_costs)
 (.cons (.ret (.var 2))
 .nil)))⟩
def d_least_costs : Df := ⟨"least_costs", "least_costs", ["a", "b"], ["a", "b", "table", "i", "line", "above", "row", "j", "other", "cost"], defArgs (top 13), defBody (top 13), defScope (top 13), i_least_costs⟩
def i_potential : Fn := ⟨2, 3,
 (.cons (.exp (.call 2 (.cons (.var 0) (.cons (.var 1) .nil))))
 (.cons (.ret (.blt .tuple (.cons (.lc [2] true [2] (.fsh (.call 3 (.cons (.var 0) (.cons (.var 1) .nil)))) (.cst (.bl true)) (.blt .tuple (.cons (.var 2) .nil))) .nil)))
 .nil))⟩
def d_potential : Df := ⟨"potential", "potential", ["a", "b"], ["a", "b", "row"], defArgs (top 14), defBody (top 14), defScope (top 14), i_potential⟩
def b0_least_script : Ss :=
 (.cons (.ite (.and (.cons (.cmp .eq (.var 5) (.var 3)) (.cons (.cmp .eq (.var 6) (.var 4)) .nil)))
 (.cons .brk
 .nil)
 .nil)
 (.cons (.asg 9 (.idx (.idx (.var 2) (.bin .sub (.var 3) (.var 5))) (.bin .sub (.var 4) (.var 6))))
 (.cons (.ite (.and (.cons (.cmp .lt (.var 5) (.var 3)) (.cons (.cmp .lt (.var 6) (.var 4)) (.cons (.cmp .eq (.idx (.var 0) (.var 5)) (.idx (.var 1) (.var 6))) (.cons (.cmp .eq (.idx (.idx (.var 2) (.bin .sub (.bin .sub (.var 3) (.var 5)) (.cst (.int 1)))) (.bin .sub (.bin .sub (.var 4) (.var 6)) (.cst (.int 1)))) (.var 9)) .nil)))))
 (.cons (.exp (.mth .append (.var 7) (.cons (.cst (.str [107, 101, 101, 112])) .nil)))
 (.cons (.asg 5 (.bin .add (.var 5) (.cst (.int 1))))
 (.cons (.asg 6 (.bin .add (.var 6) (.cst (.int 1))))
 .nil)))
 (.cons (.ite (.and (.cons (.cmp .lt (.var 5) (.var 3)) (.cons (.cmp .eq (.bin .add (.idx (.idx (.var 2) (.bin .sub (.bin .sub (.var 3) (.var 5)) (.cst (.int 1)))) (.bin .sub (.var 4) (.var 6))) (.cst (.int 1))) (.var 9)) .nil)))
 (.cons (.exp (.mth .append (.var 7) (.cons (.cst (.str [100, 114, 111, 112])) .nil)))
 (.cons (.asg 5 (.bin .add (.var 5) (.cst (.int 1))))
 .nil))
 (.cons (.exp (.mth .append (.var 7) (.cons (.cst (.str [116, 97, 107, 101])) .nil)))
 (.cons (.asg 6 (.bin .add (.var 6) (.cst (.int 1))))
 .nil)))
 .nil))
 .nil)))
def i_least_script : Fn := ⟨2, 10,
 (.cons (.exp (.call 2 (.cons (.var 0) (.cons (.var 1) .nil))))
 (.cons (.asg 2 (.tdy (.call 3 (.cons (.rev (.var 0)) (.cons (.rev (.var 1)) .nil)))))
 (.cons (.asg 3 (.blt .len (.cons (.var 0) .nil)))
 (.cons (.asg 4 (.blt .len (.cons (.var 1) .nil)))
 (.cons (.asg 5 (.cst (.int 0)))
 (.cons (.asg 6 (.cst (.int 0)))
 (.cons (.asg 7 (.lst .nil))
 (.cons (.for_ true [8] (.rng1 (.bin .add (.var 3) (.var 4))) [8, 9] b0_least_script)
 (.cons (.ret (.tup (.cons (.blt .tuple (.cons (.var 7) .nil)) (.cons (.idx (.idx (.var 2) (.var 3)) (.var 4)) .nil))))
 .nil)))))))))⟩
def d_least_script : Df := ⟨"least_script", "least_script", ["a", "b"], ["a", "b", "rest", "m", "n", "i", "j", "steps", "_", "cost"], defArgs (top 15), defBody (top 15), defScope (top 15), i_least_script⟩
def b0_script_cost : Ss :=
 (.cons (.ite (.and (.cons (.cmp .eq (.var 6) (.cst (.str [107, 101, 101, 112]))) (.cons (.cmp .lt (.var 3) (.blt .len (.cons (.var 0) .nil))) (.cons (.cmp .lt (.var 4) (.blt .len (.cons (.var 1) .nil))) (.cons (.cmp .eq (.idx (.var 0) (.var 3)) (.idx (.var 1) (.var 4))) .nil)))))
 (.cons (.asg 3 (.bin .add (.var 3) (.cst (.int 1))))
 (.cons (.asg 4 (.bin .add (.var 4) (.cst (.int 1))))
 .nil))
 (.cons (.ite (.and (.cons (.cmp .eq (.var 6) (.cst (.str [100, 114, 111, 112]))) (.cons (.cmp .lt (.var 3) (.blt .len (.cons (.var 0) .nil))) .nil)))
 (.cons (.asg 3 (.bin .add (.var 3) (.cst (.int 1))))
 (.cons (.asg 5 (.bin .add (.var 5) (.cst (.int 1))))
 .nil))
 (.cons (.ite (.and (.cons (.cmp .eq (.var 6) (.cst (.str [116, 97, 107, 101]))) (.cons (.cmp .lt (.var 4) (.blt .len (.cons (.var 1) .nil))) .nil)))
 (.cons (.asg 4 (.bin .add (.var 4) (.cst (.int 1))))
 (.cons (.asg 5 (.bin .add (.var 5) (.cst (.int 1))))
 .nil))
 (.cons (.ret (.cst (.non)))
 .nil))
 .nil))
 .nil))
 .nil)
def i_script_cost : Fn := ⟨3, 7,
 (.cons (.ite (.not (.blt (.isi .tup) (.cons (.var 2) .nil)))
 (.cons (.ret (.cst (.non)))
 .nil)
 .nil)
 (.cons (.asg 3 (.cst (.int 0)))
 (.cons (.asg 4 (.cst (.int 0)))
 (.cons (.asg 5 (.cst (.int 0)))
 (.cons (.for_ true [6] (.seq (.var 2)) [6] b0_script_cost)
 (.cons (.ite (.or (.cons (.cmp .lt (.var 3) (.blt .len (.cons (.var 0) .nil))) (.cons (.cmp .lt (.var 4) (.blt .len (.cons (.var 1) .nil))) .nil)))
 (.cons (.ret (.cst (.non)))
 .nil)
 .nil)
 (.cons (.ret (.var 5))
 .nil)))))))⟩
def d_script_cost : Df := ⟨"script_cost", "script_cost", ["a", "b", "steps"], ["a", "b", "steps", "i", "j", "cost", "step"], defArgs (top 16), defBody (top 16), defScope (top 16), i_script_cost⟩
def i_run_script : Fn := ⟨3, 3,
 (.cons (.exp (.call 2 (.cons (.var 0) (.cons (.var 1) .nil))))
 (.cons (.ret (.call 6 (.cons (.var 0) (.cons (.var 1) (.cons (.var 2) .nil)))))
 .nil))⟩
def d_run_script : Df := ⟨"run_script", "run_script", ["a", "b", "steps"], ["a", "b", "steps"], defArgs (top 17), defBody (top 17), defScope (top 17), i_run_script⟩
def b0__law_draws : Ss :=
 (.cons (.asg 3 (.bin .mod (.blt .int (.cons (.bin .add (.bin .mul (.var 3) (.cst (.int 48271))) (.cst (.int 12345))) .nil)) (.cst (.int 2147483647))))
 (.cons (.asg 8 (.bin .mod (.blt .int (.cons (.bin .fdiv (.var 3) (.cst (.int 11))) .nil)) (.cst (.int 1000))))
 (.cons (.ite (.cmp .gt (.blt .len (.cons (.var 5) .nil)) (.cst (.int 0)))
 (.cons (.asg 9 (.bin .mod (.blt .int (.cons (.var 7) .nil)) (.blt .len (.cons (.var 5) .nil))))
 (.cons (.ite (.cmp .gt (.idx (.var 5) (.var 9)) (.cst (.int 0)))
 (.cons (.asg 8 (.bin .mod (.blt .int (.cons (.idx (.var 5) (.var 9)) .nil)) (.cst (.int 1000))))
 (.cons (.sub (.var 5) (.var 9) (.bin .fdiv (.idx (.var 5) (.var 9)) (.cst (.int 1000))))
 .nil))
 .nil)
 .nil))
 .nil)
 (.cons (.exp (.mth .append (.var 6) (.cons (.var 8) .nil)))
 .nil))))
def b1__law_draws : Ss :=
 (.cons (.asg 3 (.bin .mod (.blt .int (.cons (.bin .add (.bin .add (.bin .mul (.var 3) (.cst (.int 69621))) (.bin .mod (.blt .int (.cons (.var 4) .nil)) (.cst (.int 1000003)))) (.cst (.int 1))) .nil)) (.cst (.int 2147483647))))
 .nil)
def i__law_draws : Fn := ⟨2, 10,
 (.cons (.asg 2 (.tdy (.lc [4] true [4] (.fsh (.sli (.var 0) (.cst .non) (.cst (.int 63)))) (.cst (.bl true)) (.blt .int (.cons (.var 4) .nil)))))
 (.cons (.asg 3 (.bin .add (.cst (.int 7)) (.blt .len (.cons (.var 2) .nil))))
 (.cons (.for_ true [4] (.seq (.var 2)) [4] b1__law_draws)
 (.cons (.asg 5 (.lc [4] true [4] (.seq (.var 2)) (.cmp .ge (.var 4) (.bin .pow (.cst (.int 10)) (.cst (.int 18)))) (.var 4)))
 (.cons (.asg 6 (.lst .nil))
 (.cons (.for_ true [7] (.rng1 (.var 1)) [7, 8, 9] b0__law_draws)
 (.cons (.ret (.var 6))
 .nil)))))))⟩
def d__law_draws : Df := ⟨"_law_draws", "_law_draws", ["script", "many"], ["script", "many", "cells", "state", "cell", "rest", "draws", "k", "number", "at"], defArgs (top 19), defBody (top 19), defScope (top 19), i__law_draws⟩
def i__law_pool : Fn := ⟨1, 4,
 (.cons (.asg 1 (.tdy (.bin .mul (.idx (.lst (.cons (.cst (.str [97])) (.cons (.cst (.str [45])) (.cons (.cst (.str [47])) (.cons (.cst (.str [55])) .nil))))) (.bin .mod (.blt .int (.cons (.var 0) .nil)) (.cst (.int 4)))) (.cst (.int 119)))))
 (.cons (.asg 2 (.tdy (.lst (.cons (.bin .add (.var 1) (.cst (.str [97]))) (.cons (.bin .add (.var 1) (.cst (.str [98]))) (.cons (.bin .add (.bin .add (.bin .add (.sli (.var 1) (.cst .non) (.cst (.int 60))) (.cst (.str [122]))) (.sli (.var 1) (.cst .non) (.cst (.int 58)))) (.cst (.str [97]))) (.cons (.cst (.str [97])) (.cons (.bin .add (.var 1) (.cst (.str [48]))) (.cons (.bin .add (.sli (.var 1) (.cst .non) (.cst (.int 118))) (.cst (.str [97]))) .nil)))))))))
 (.cons (.asg 3 (.bin .mod (.blt .int (.cons (.bin .fdiv (.var 0) (.cst (.int 4))) .nil)) (.cst (.int 6))))
 (.cons (.ret (.bin .add (.sli (.var 2) (.var 3) (.cst .non)) (.sli (.var 2) (.cst .non) (.var 3))))
 .nil))))⟩
def d__law_pool : Df := ⟨"_law_pool", "_law_pool", ["draw"], ["draw", "base", "pool", "at"], defArgs (top 20), defBody (top 20), defScope (top 20), i__law_pool⟩
def i__law_size : Fn := ⟨1, 1,
 (.cons (.ret (.idx (.lst (.cons (.cst (.int 0)) (.cons (.cst (.int 1)) (.cons (.cst (.int 60)) (.cons (.bin .add (.cst (.int 2)) (.bin .mod (.blt .int (.cons (.bin .fdiv (.var 0) (.cst (.int 4))) .nil)) (.cst (.int 58)))) .nil))))) (.bin .mod (.blt .int (.cons (.var 0) .nil)) (.cst (.int 4)))))
 .nil)⟩
def d__law_size : Df := ⟨"_law_size", "_law_size", ["draw"], ["draw"], defArgs (top 21), defBody (top 21), defScope (top 21), i__law_size⟩
def b0__law_classes : Ss :=
 (.cons (.ite (.cmp .gt (.bin .mod (.blt .int (.cons (.bin .fdiv (.idx (.var 0) (.bin .add (.cst (.int 80)) (.var 4))) (.cst (.int 7))) .nil)) (.cst (.int 4))) (.cst (.int 0)))
 (.cons (.sub (.var 3) (.var 4) (.idx (.var 2) (.var 4)))
 .nil)
 .nil)
 .nil)
def i__law_classes : Fn := ⟨1, 5,
 (.cons (.asg 1 (.bin .add (.cst (.int 1)) (.bin .mod (.blt .int (.cons (.idx (.var 0) (.cst (.int 3))) .nil)) (.cst (.int 6)))))
 (.cons (.asg 2 (.tdy (.lc [4] true [4] (.rng1 (.call 10 (.cons (.idx (.var 0) (.cst (.int 1))) .nil))) (.cst (.bl true)) (.bin .mod (.blt .int (.cons (.idx (.var 0) (.bin .add (.cst (.int 20)) (.var 4))) .nil)) (.var 1)))))
 (.cons (.asg 3 (.tdy (.lc [4] true [4] (.rng1 (.call 10 (.cons (.idx (.var 0) (.cst (.int 2))) .nil))) (.cst (.bl true)) (.bin .mod (.blt .int (.cons (.idx (.var 0) (.bin .add (.cst (.int 80)) (.var 4))) .nil)) (.var 1)))))
 (.cons (.ite (.cmp .eq (.bin .mod (.blt .int (.cons (.idx (.var 0) (.cst (.int 4))) .nil)) (.cst (.int 2))) (.cst (.int 1)))
 (.cons (.for_ true [4] (.rng1 (.blt .min (.cons (.blt .len (.cons (.var 2) .nil)) (.cons (.blt .len (.cons (.var 3) .nil)) .nil)))) [4] b0__law_classes)
 .nil)
 .nil)
 (.cons (.ret (.tup (.cons (.var 2) (.cons (.var 3) .nil))))
 .nil)))))⟩
def d__law_classes : Df := ⟨"_law_classes", "_law_classes", ["draws"], ["draws", "kinds", "one", "two", "k"], defArgs (top 22), defBody (top 22), defScope (top 22), i__law_classes⟩
def b0__law_rest : Ss :=
 (.cons (.asg 7 (.bin .add (.bin .sub (.var 2) (.var 5)) (.bin .sub (.var 3) (.var 6))))
 (.cons (.ite (.and (.cons (.cmp .lt (.var 5) (.var 2)) (.cons (.cmp .lt (.var 6) (.var 3)) .nil)))
 (.cons (.asg 7 (.bin .add (.cst (.int 1)) (.blt .min (.cons (.idx (.idx (.var 4) (.bin .add (.var 5) (.cst (.int 1)))) (.var 6)) (.cons (.idx (.idx (.var 4) (.var 5)) (.bin .add (.var 6) (.cst (.int 1)))) .nil)))))
 (.cons (.ite (.cmp .eq (.idx (.var 0) (.var 5)) (.idx (.var 1) (.var 6)))
 (.cons (.asg 7 (.blt .min (.cons (.var 7) (.cons (.idx (.idx (.var 4) (.bin .add (.var 5) (.cst (.int 1)))) (.bin .add (.var 6) (.cst (.int 1)))) .nil))))
 .nil)
 .nil)
 .nil))
 .nil)
 (.cons (.sub (.idx (.var 4) (.var 5)) (.var 6) (.var 7))
 .nil)))
def b1__law_rest : Ss :=
 (.cons (.for_ true [6] (.rng3 (.var 3) (.neg (.cst (.int 1))) (.neg (.cst (.int 1)))) [6, 7] b0__law_rest)
 .nil)
def i__law_rest : Fn := ⟨2, 8,
 (.cons (.asg 2 (.blt .len (.cons (.var 0) .nil)))
 (.cons (.asg 3 (.blt .len (.cons (.var 1) .nil)))
 (.cons (.asg 4 (.tdy (.lc [5] true [5] (.rng1 (.bin .add (.var 2) (.cst (.int 1)))) (.cst (.bl true)) (.tdy (.bin .mul (.lst (.cons (.cst (.int 0)) .nil)) (.bin .add (.var 3) (.cst (.int 1))))))))
 (.cons (.for_ true [5] (.rng3 (.var 2) (.neg (.cst (.int 1))) (.neg (.cst (.int 1)))) [5, 6, 7] b1__law_rest)
 (.cons (.ret (.var 4))
 .nil)))))⟩
def d__law_rest : Df := ⟨"_law_rest", "_law_rest", ["a", "b"], ["a", "b", "m", "n", "rest", "i", "j", "best"], defArgs (top 23), defBody (top 23), defScope (top 23), i__law_rest⟩
def b0__law_head : Ss :=
 (.cons (.asg 5 (.bin .add (.cst (.int 1)) (.blt .min (.cons (.idx (.idx (.var 2) (.var 3)) (.bin .add (.var 4) (.cst (.int 1)))) (.cons (.idx (.idx (.var 2) (.bin .add (.var 3) (.cst (.int 1)))) (.var 4)) .nil)))))
 (.cons (.ite (.cmp .eq (.idx (.var 0) (.var 3)) (.idx (.var 1) (.var 4)))
 (.cons (.asg 5 (.blt .min (.cons (.var 5) (.cons (.idx (.idx (.var 2) (.var 3)) (.var 4)) .nil))))
 .nil)
 .nil)
 (.cons (.sub (.idx (.var 2) (.bin .add (.var 3) (.cst (.int 1)))) (.bin .add (.var 4) (.cst (.int 1))) (.var 5))
 .nil)))
def b1__law_head : Ss :=
 (.cons (.for_ true [4] (.rng1 (.blt .len (.cons (.var 1) .nil))) [4, 5] b0__law_head)
 .nil)
def i__law_head : Fn := ⟨2, 7,
 (.cons (.asg 2 (.tdy (.lc [3] true [3] (.rng1 (.bin .add (.blt .len (.cons (.var 0) .nil)) (.cst (.int 1)))) (.cst (.bl true)) (.lc [4] true [4] (.rng1 (.bin .add (.blt .len (.cons (.var 1) .nil)) (.cst (.int 1)))) (.cst (.bl true)) (.bin .add (.var 3) (.var 4))))))
 (.cons (.for_ true [3] (.rng1 (.blt .len (.cons (.var 0) .nil))) [3, 4, 5] b1__law_head)
 (.cons (.ret (.blt .tuple (.cons (.lc [6] true [6] (.seq (.var 2)) (.cst (.bl true)) (.blt .tuple (.cons (.var 6) .nil))) .nil)))
 .nil)))⟩
def d__law_head : Df := ⟨"_law_head", "_law_head", ["a", "b"], ["a", "b", "head", "i", "j", "best", "row"], defArgs (top 24), defBody (top 24), defScope (top 24), i__law_head⟩
def b0__law_first : Ss :=
 (.cons (.ite (.and (.cons (.cmp .eq (.var 3) (.blt .len (.cons (.var 0) .nil))) (.cons (.cmp .eq (.var 4) (.blt .len (.cons (.var 1) .nil))) .nil)))
 (.cons .brk
 .nil)
 .nil)
 (.cons (.asg 7 (.idx (.idx (.var 2) (.var 3)) (.var 4)))
 (.cons (.ite (.and (.cons (.cmp .lt (.var 3) (.blt .len (.cons (.var 0) .nil))) (.cons (.cmp .lt (.var 4) (.blt .len (.cons (.var 1) .nil))) (.cons (.cmp .eq (.idx (.var 0) (.var 3)) (.idx (.var 1) (.var 4))) (.cons (.cmp .eq (.idx (.idx (.var 2) (.bin .add (.var 3) (.cst (.int 1)))) (.bin .add (.var 4) (.cst (.int 1)))) (.var 7)) .nil)))))
 (.cons (.exp (.mth .append (.var 5) (.cons (.cst (.str [107, 101, 101, 112])) .nil)))
 (.cons (.asg 3 (.bin .add (.var 3) (.cst (.int 1))))
 (.cons (.asg 4 (.bin .add (.var 4) (.cst (.int 1))))
 .nil)))
 (.cons (.ite (.and (.cons (.cmp .lt (.var 3) (.blt .len (.cons (.var 0) .nil))) (.cons (.cmp .eq (.bin .add (.idx (.idx (.var 2) (.bin .add (.var 3) (.cst (.int 1)))) (.var 4)) (.cst (.int 1))) (.var 7)) .nil)))
 (.cons (.exp (.mth .append (.var 5) (.cons (.cst (.str [100, 114, 111, 112])) .nil)))
 (.cons (.asg 3 (.bin .add (.var 3) (.cst (.int 1))))
 .nil))
 (.cons (.exp (.mth .append (.var 5) (.cons (.cst (.str [116, 97, 107, 101])) .nil)))
 (.cons (.asg 4 (.bin .add (.var 4) (.cst (.int 1))))
 .nil)))
 .nil))
 .nil)))
def i__law_first : Fn := ⟨2, 8,
 (.cons (.asg 2 (.call 12 (.cons (.var 0) (.cons (.var 1) .nil))))
 (.cons (.asg 3 (.cst (.int 0)))
 (.cons (.asg 4 (.cst (.int 0)))
 (.cons (.asg 5 (.lst .nil))
 (.cons (.for_ true [6] (.rng1 (.bin .add (.blt .len (.cons (.var 0) .nil)) (.blt .len (.cons (.var 1) .nil)))) [6, 7] b0__law_first)
 (.cons (.ret (.tup (.cons (.blt .tuple (.cons (.var 5) .nil)) (.cons (.idx (.idx (.var 2) (.cst (.int 0))) (.cst (.int 0))) .nil))))
 .nil))))))⟩
def d__law_first : Df := ⟨"_law_first", "_law_first", ["a", "b"], ["a", "b", "rest", "i", "j", "steps", "turn", "cost"], defArgs (top 25), defBody (top 25), defScope (top 25), i__law_first⟩
def b0__law_walk : Ss :=
 (.cons (.asg 8 (.blt .int (.cons (.idx (.var 2) (.bin .add (.cst (.int 140)) (.var 7))) .nil)))
 (.cons (.ite (.and (.cons (.cmp .lt (.var 3) (.blt .len (.cons (.var 0) .nil))) (.cons (.cmp .lt (.var 4) (.blt .len (.cons (.var 1) .nil))) (.cons (.cmp .eq (.idx (.var 0) (.var 3)) (.idx (.var 1) (.var 4))) (.cons (.cmp .gt (.bin .mod (.blt .int (.cons (.var 8) .nil)) (.cst (.int 4))) (.cst (.int 0))) .nil)))))
 (.cons (.exp (.mth .append (.var 6) (.cons (.cst (.str [107, 101, 101, 112])) .nil)))
 (.cons (.asg 3 (.bin .add (.var 3) (.cst (.int 1))))
 (.cons (.asg 4 (.bin .add (.var 4) (.cst (.int 1))))
 .nil)))
 (.cons (.ite (.and (.cons (.cmp .lt (.var 3) (.blt .len (.cons (.var 0) .nil))) (.cons (.or (.cons (.cmp .eq (.var 4) (.blt .len (.cons (.var 1) .nil))) (.cons (.cmp .eq (.bin .mod (.blt .int (.cons (.bin .fdiv (.var 8) (.cst (.int 4))) .nil)) (.cst (.int 2))) (.cst (.int 0))) .nil))) .nil)))
 (.cons (.exp (.mth .append (.var 6) (.cons (.cst (.str [100, 114, 111, 112])) .nil)))
 (.cons (.asg 3 (.bin .add (.var 3) (.cst (.int 1))))
 (.cons (.asg 5 (.bin .add (.var 5) (.cst (.int 1))))
 .nil)))
 (.cons (.ite (.cmp .lt (.var 4) (.blt .len (.cons (.var 1) .nil)))
 (.cons (.exp (.mth .append (.var 6) (.cons (.cst (.str [116, 97, 107, 101])) .nil)))
 (.cons (.asg 4 (.bin .add (.var 4) (.cst (.int 1))))
 (.cons (.asg 5 (.bin .add (.var 5) (.cst (.int 1))))
 .nil)))
 .nil)
 .nil))
 .nil))
 .nil))
def i__law_walk : Fn := ⟨3, 9,
 (.cons (.asg 3 (.cst (.int 0)))
 (.cons (.asg 4 (.cst (.int 0)))
 (.cons (.asg 5 (.cst (.int 0)))
 (.cons (.asg 6 (.lst .nil))
 (.cons (.for_ true [7] (.rng1 (.bin .add (.blt .len (.cons (.var 0) .nil)) (.blt .len (.cons (.var 1) .nil)))) [7, 8] b0__law_walk)
 (.cons (.ret (.tup (.cons (.blt .tuple (.cons (.var 6) .nil)) (.cons (.var 5) .nil))))
 .nil))))))⟩
def d__law_walk : Df := ⟨"_law_walk", "_law_walk", ["a", "b", "draws"], ["a", "b", "draws", "i", "j", "cost", "steps", "turn", "pick"], defArgs (top 26), defBody (top 26), defScope (top 26), i__law_walk⟩
def b0__law_broken : Ss :=
 (.cons (.exp (.mth .append (.var 4) (.cons (.bin .add (.bin .add (.sli (.var 0) (.cst .non) (.var 2)) (.tup (.cons (.var 5) .nil))) (.sli (.var 0) (.bin .add (.var 2) (.cst (.int 1))) (.cst .non))) .nil)))
 .nil)
def i__law_broken : Fn := ⟨2, 6,
 (.cons (.asg 2 (.bin .mod (.blt .int (.cons (.var 1) .nil)) (.blt .len (.cons (.var 0) .nil))))
 (.cons (.asg 3 (.tdy (.cdx [([107, 101, 101, 112], [100, 114, 111, 112]), ([100, 114, 111, 112], [116, 97, 107, 101]), ([116, 97, 107, 101], [100, 114, 111, 112])] (.idx (.var 0) (.var 2)))))
 (.cons (.asg 4 (.tdy (.lst (.cons (.bin .add (.sli (.var 0) (.cst .non) (.var 2)) (.sli (.var 0) (.bin .add (.var 2) (.cst (.int 1))) (.cst .non))) (.cons (.bin .add (.sli (.var 0) (.cst .non) (.bin .add (.var 2) (.cst (.int 1)))) (.sli (.var 0) (.var 2) (.cst .non))) (.cons (.blt .list (.cons (.var 0) .nil)) .nil))))))
 (.cons (.for_ true [5] (.fsh (.lst (.cons (.var 3) (.cons (.cst (.str [75, 101, 101, 112])) (.cons (.cst (.non)) (.cons (.cst (.int 0)) (.cons (.tup (.cons (.cst (.str [100, 114, 111, 112])) .nil)) (.cons (.cst (.bl true)) .nil)))))))) [5] b0__law_broken)
 (.cons (.ret (.var 4))
 .nil)))))⟩
def d__law_broken : Df := ⟨"_law_broken", "_law_broken", ["steps", "draw"], ["steps", "draw", "at", "other", "found", "step"], defArgs (top 27), defBody (top 27), defScope (top 27), i__law_broken⟩
def b0__law_runs : Ss :=
 (.cons (.ite (.tdy (.isc .notN (.call 7 (.cons (.var 0) (.cons (.var 1) (.cons (.var 4) .nil))))))
 (.cons (.ret (.cst (.bl false)))
 .nil)
 .nil)
 .nil)
def i__law_runs : Fn := ⟨4, 5,
 (.cons (.ite (.tdy (.cmp .ne (.blt .repr (.cons (.call 7 (.cons (.var 0) (.cons (.var 1) (.cons (.idx (.var 2) (.cst (.int 0))) .nil)))) .nil)) (.blt .repr (.cons (.idx (.var 2) (.cst (.int 1))) .nil))))
 (.cons (.ret (.cst (.bl false)))
 .nil)
 .nil)
 (.cons (.ite (.tdy (.or (.cons (.isc .notN (.call 7 (.cons (.var 0) (.cons (.var 1) (.cons (.cst (.non)) .nil))))) (.cons (.isc .notN (.call 7 (.cons (.var 0) (.cons (.var 1) (.cons (.bin .add (.idx (.var 2) (.cst (.int 0))) (.tup (.cons (.cst (.str [107, 101, 101, 112])) .nil))) .nil))))) .nil))))
 (.cons (.ret (.cst (.bl false)))
 .nil)
 .nil)
 (.cons (.ite (.cmp .eq (.idx (.var 2) (.cst (.int 0))) (.tup .nil))
 (.cons (.ret (.cst (.bl true)))
 .nil)
 .nil)
 (.cons (.for_ true [4] (.fsh (.call 16 (.cons (.idx (.var 2) (.cst (.int 0))) (.cons (.var 3) .nil)))) [4] b0__law_runs)
 (.cons (.ret (.cst (.bl true)))
 .nil)))))⟩
def d__law_runs : Df := ⟨"_law_runs", "_law_runs", ["a", "b", "walk", "draw"], ["a", "b", "walk", "draw", "steps"], defArgs (top 28), defBody (top 28), defScope (top 28), i__law_runs⟩
def b0__law_near : Ss :=
 (.cons (.asg 5 (.tup (.cons (.tup (.cons (.cst (.str [100, 114, 111, 112])) (.cons (.cst (.str [116, 97, 107, 101])) .nil))) (.cons (.cst (.int 2)) .nil))))
 (.cons (.asg 6 (.tup (.cons (.tup (.cons (.cst (.int 0)) (.cons (.cst (.int 1)) .nil))) (.cons (.tup (.cons (.cst (.int 1)) (.cons (.cst (.int 2)) .nil))) .nil))))
 (.cons (.asg 7 (.cst (.non)))
 (.cons (.ite (.cmp .eq (.var 2) (.var 3))
 (.cons (.asg 5 (.tup (.cons (.tup (.cons (.cst (.str [107, 101, 101, 112])) .nil)) (.cons (.cst (.int 0)) .nil))))
 (.cons (.asg 6 (.tup (.cons (.tup (.cons (.cst (.int 0)) (.cons (.cst (.int 1)) .nil))) (.cons (.tup (.cons (.cst (.int 1)) (.cons (.cst (.int 0)) .nil))) .nil))))
 (.cons (.asg 7 (.cst (.int 0)))
 .nil)))
 .nil)
 (.cons (.ite (.tdy (.or (.cons (.cmp .ne (.blt .repr (.cons (.call 5 (.cons (.tup (.cons (.var 2) .nil)) (.cons (.tup (.cons (.var 3) .nil)) .nil))) .nil)) (.blt .repr (.cons (.var 5) .nil))) (.cons (.cmp .ne (.blt .repr (.cons (.call 4 (.cons (.tup (.cons (.var 2) .nil)) (.cons (.tup (.cons (.var 3) .nil)) .nil))) .nil)) (.blt .repr (.cons (.var 6) .nil))) .nil))))
 (.cons (.ret (.cst (.bl false)))
 .nil)
 .nil)
 (.cons (.ite (.tdy (.cmp .ne (.blt .repr (.cons (.call 7 (.cons (.tup (.cons (.var 2) .nil)) (.cons (.tup (.cons (.var 3) .nil)) (.cons (.tup (.cons (.cst (.str [107, 101, 101, 112])) .nil)) .nil)))) .nil)) (.blt .repr (.cons (.var 7) .nil))))
 (.cons (.ret (.cst (.bl false)))
 .nil)
 .nil)
 .nil))))))
def b1__law_near : Ss :=
 (.cons (.for_ true [3] (.seq (.var 1)) [3, 5, 6, 7] b0__law_near)
 .nil)
def i__law_near : Fn := ⟨1, 8,
 (.cons (.asg 1 (.lc [4] true [4] (.seq (.var 0)) (.cmp .eq (.blt .len (.cons (.var 4) .nil)) (.cst (.int 120))) (.var 4)))
 (.cons (.for_ true [2] (.seq (.var 1)) [2, 3, 5, 6, 7] b1__law_near)
 (.cons (.ret (.cst (.bl true)))
 .nil)))⟩
def d__law_near : Df := ⟨"_law_near", "_law_near", ["pool"], ["pool", "long", "one", "two", "line", "due", "table", "kept"], defArgs (top 29), defBody (top 29), defScope (top 29), i__law_near⟩
def i_law : Fn := ⟨1, 8,
 (.cons (.asg 1 (.call 8 (.cons (.var 0) (.cons (.cst (.int 270)) .nil))))
 (.cons (.asg 2 (.call 9 (.cons (.idx (.var 1) (.cst (.int 0))) .nil)))
 (.cons (.asg 3 (.call 11 (.cons (.var 1) .nil)))
 (.cons (.asg 4 (.tdy (.blt .tuple (.cons (.lc [7] true [7] (.seq (.idx (.var 3) (.cst (.int 0)))) (.cst (.bl true)) (.idx (.var 2) (.var 7))) .nil))))
 (.cons (.asg 5 (.tdy (.blt .tuple (.cons (.lc [7] true [7] (.seq (.idx (.var 3) (.cst (.int 1)))) (.cst (.bl true)) (.idx (.var 2) (.var 7))) .nil))))
 (.cons (.asg 6 (.call 14 (.cons (.idx (.var 3) (.cst (.int 0))) (.cons (.idx (.var 3) (.cst (.int 1))) .nil))))
 (.cons (.ite (.tdy (.or (.cons (.cmp .ne (.blt .repr (.cons (.call 5 (.cons (.var 4) (.cons (.var 5) .nil))) .nil)) (.blt .repr (.cons (.var 6) .nil))) (.cons (.cmp .ne (.blt .repr (.cons (.call 4 (.cons (.var 4) (.cons (.var 5) .nil))) .nil)) (.blt .repr (.cons (.call 13 (.cons (.idx (.var 3) (.cst (.int 0))) (.cons (.idx (.var 3) (.cst (.int 1))) .nil))) .nil))) .nil))))
 (.cons (.ret (.cst (.bl false)))
 .nil)
 .nil)
 (.cons (.ite (.tdy (.or (.cons (.not (.call 17 (.cons (.var 4) (.cons (.var 5) (.cons (.var 6) (.cons (.idx (.var 1) (.cst (.int 5))) .nil)))))) (.cons (.not (.call 18 (.cons (.var 2) .nil))) .nil))))
 (.cons (.ret (.cst (.bl false)))
 .nil)
 .nil)
 (.cons (.ret (.call 17 (.cons (.var 4) (.cons (.var 5) (.cons (.call 15 (.cons (.idx (.var 3) (.cst (.int 0))) (.cons (.idx (.var 3) (.cst (.int 1))) (.cons (.var 1) .nil)))) (.cons (.idx (.var 1) (.cst (.int 6))) .nil))))))
 .nil)))))))))⟩
def d_law : Df := ⟨"law", "law", ["script"], ["script", "draws", "pool", "classes", "a", "b", "due", "k"], defArgs (top 30), defBody (top 30), defScope (top 30), i_law⟩
def Ds : List Df := [d_is_line, d_is_lines, d_check_lines, d_least_costs, d_potential, d_least_script, d_script_cost, d_run_script, d__law_draws, d__law_pool, d__law_size, d__law_classes, d__law_rest, d__law_head, d__law_first, d__law_walk, d__law_broken, d__law_runs, d__law_near, d_law]
def cs : List (Str × D) := [("LETTERS", .str [97, 98, 99, 100, 101, 102, 103, 104, 105, 106, 107, 108, 109, 110, 111, 112, 113, 114, 115, 116, 117, 118, 119, 120, 121, 122]), ("DIGITS", .str [48, 49, 50, 51, 52, 53, 54, 55, 56, 57]), ("LONGEST_LINE", .int 120), ("OTHER_SIGNS", .str [45, 47, 32]), ("MOST_LINES", .int 60)]
def L : Law := ⟨Ds, cs, false, 19, 1000000, 60⟩
theorem b_is_line : d_is_line.binds := fun _ _ _ _ _ _ us hl => match us, hl with | [_], _ => rfl
theorem ok_is_line : d_is_line.ok L.T = true := by decide +kernel
theorem b_is_lines : d_is_lines.binds := fun _ _ _ _ _ _ us hl => match us, hl with | [_], _ => rfl
theorem ok_is_lines : d_is_lines.ok L.T = true := by decide +kernel
theorem b_check_lines : d_check_lines.binds := fun _ _ _ _ _ _ us hl => match us, hl with | [_, _], _ => rfl
theorem ok_check_lines : d_check_lines.ok L.T = true := by decide +kernel
theorem b_least_costs : d_least_costs.binds := fun _ _ _ _ _ _ us hl => match us, hl with | [_, _], _ => rfl
theorem ok_least_costs : d_least_costs.ok L.T = true := by decide +kernel
theorem b_potential : d_potential.binds := fun _ _ _ _ _ _ us hl => match us, hl with | [_, _], _ => rfl
theorem ok_potential : d_potential.ok L.T = true := by decide +kernel
theorem b_least_script : d_least_script.binds := fun _ _ _ _ _ _ us hl => match us, hl with | [_, _], _ => rfl
theorem ok_least_script : d_least_script.ok L.T = true := by decide +kernel
theorem b_script_cost : d_script_cost.binds := fun _ _ _ _ _ _ us hl => match us, hl with | [_, _, _], _ => rfl
theorem ok_script_cost : d_script_cost.ok L.T = true := by decide +kernel
theorem b_run_script : d_run_script.binds := fun _ _ _ _ _ _ us hl => match us, hl with | [_, _, _], _ => rfl
theorem ok_run_script : d_run_script.ok L.T = true := by decide +kernel
theorem b__law_draws : d__law_draws.binds := fun _ _ _ _ _ _ us hl => match us, hl with | [_, _], _ => rfl
theorem ok__law_draws : d__law_draws.ok L.T = true := by decide +kernel
theorem b__law_pool : d__law_pool.binds := fun _ _ _ _ _ _ us hl => match us, hl with | [_], _ => rfl
theorem ok__law_pool : d__law_pool.ok L.T = true := by decide +kernel
theorem b__law_size : d__law_size.binds := fun _ _ _ _ _ _ us hl => match us, hl with | [_], _ => rfl
theorem ok__law_size : d__law_size.ok L.T = true := by decide +kernel
theorem b__law_classes : d__law_classes.binds := fun _ _ _ _ _ _ us hl => match us, hl with | [_], _ => rfl
theorem ok__law_classes : d__law_classes.ok L.T = true := by decide +kernel
theorem b__law_rest : d__law_rest.binds := fun _ _ _ _ _ _ us hl => match us, hl with | [_, _], _ => rfl
theorem ok__law_rest : d__law_rest.ok L.T = true := by decide +kernel
theorem b__law_head : d__law_head.binds := fun _ _ _ _ _ _ us hl => match us, hl with | [_, _], _ => rfl
theorem ok__law_head : d__law_head.ok L.T = true := by decide +kernel
theorem b__law_first : d__law_first.binds := fun _ _ _ _ _ _ us hl => match us, hl with | [_, _], _ => rfl
theorem ok__law_first : d__law_first.ok L.T = true := by decide +kernel
theorem b__law_walk : d__law_walk.binds := fun _ _ _ _ _ _ us hl => match us, hl with | [_, _, _], _ => rfl
theorem ok__law_walk : d__law_walk.ok L.T = true := by decide +kernel
theorem b__law_broken : d__law_broken.binds := fun _ _ _ _ _ _ us hl => match us, hl with | [_, _], _ => rfl
theorem ok__law_broken : d__law_broken.ok L.T = true := by decide +kernel
theorem b__law_runs : d__law_runs.binds := fun _ _ _ _ _ _ us hl => match us, hl with | [_, _, _, _], _ => rfl
theorem ok__law_runs : d__law_runs.ok L.T = true := by decide +kernel
theorem b__law_near : d__law_near.binds := fun _ _ _ _ _ _ us hl => match us, hl with | [_], _ => rfl
theorem ok__law_near : d__law_near.ok L.T = true := by decide +kernel
theorem b_law : d_law.binds := fun _ _ _ _ _ _ us hl => match us, hl with | [_], _ => rfl
theorem ok_law : d_law.ok L.T = true := by decide +kernel
theorem bs : ∀ d ∈ Ds, d.binds := (List.forall_mem_cons.mpr ⟨b_is_line, (List.forall_mem_cons.mpr ⟨b_is_lines, (List.forall_mem_cons.mpr ⟨b_check_lines, (List.forall_mem_cons.mpr ⟨b_least_costs, (List.forall_mem_cons.mpr ⟨b_potential, (List.forall_mem_cons.mpr ⟨b_least_script, (List.forall_mem_cons.mpr ⟨b_script_cost, (List.forall_mem_cons.mpr ⟨b_run_script, (List.forall_mem_cons.mpr ⟨b__law_draws, (List.forall_mem_cons.mpr ⟨b__law_pool, (List.forall_mem_cons.mpr ⟨b__law_size, (List.forall_mem_cons.mpr ⟨b__law_classes, (List.forall_mem_cons.mpr ⟨b__law_rest, (List.forall_mem_cons.mpr ⟨b__law_head, (List.forall_mem_cons.mpr ⟨b__law_first, (List.forall_mem_cons.mpr ⟨b__law_walk, (List.forall_mem_cons.mpr ⟨b__law_broken, (List.forall_mem_cons.mpr ⟨b__law_runs, (List.forall_mem_cons.mpr ⟨b__law_near, (List.forall_mem_cons.mpr ⟨b_law, (fun _ h => nomatch h)⟩)⟩)⟩)⟩)⟩)⟩)⟩)⟩)⟩)⟩)⟩)⟩)⟩)⟩)⟩)⟩)⟩)⟩)⟩)⟩)
theorem oks : ∀ d ∈ Ds, d.ok L.T = true := (List.forall_mem_cons.mpr ⟨ok_is_line, (List.forall_mem_cons.mpr ⟨ok_is_lines, (List.forall_mem_cons.mpr ⟨ok_check_lines, (List.forall_mem_cons.mpr ⟨ok_least_costs, (List.forall_mem_cons.mpr ⟨ok_potential, (List.forall_mem_cons.mpr ⟨ok_least_script, (List.forall_mem_cons.mpr ⟨ok_script_cost, (List.forall_mem_cons.mpr ⟨ok_run_script, (List.forall_mem_cons.mpr ⟨ok__law_draws, (List.forall_mem_cons.mpr ⟨ok__law_pool, (List.forall_mem_cons.mpr ⟨ok__law_size, (List.forall_mem_cons.mpr ⟨ok__law_classes, (List.forall_mem_cons.mpr ⟨ok__law_rest, (List.forall_mem_cons.mpr ⟨ok__law_head, (List.forall_mem_cons.mpr ⟨ok__law_first, (List.forall_mem_cons.mpr ⟨ok__law_walk, (List.forall_mem_cons.mpr ⟨ok__law_broken, (List.forall_mem_cons.mpr ⟨ok__law_runs, (List.forall_mem_cons.mpr ⟨ok__law_near, (List.forall_mem_cons.mpr ⟨ok_law, (fun _ h => nomatch h)⟩)⟩)⟩)⟩)⟩)⟩)⟩)⟩)⟩)⟩)⟩)⟩)⟩)⟩)⟩)⟩)⟩)⟩)⟩)⟩)
end Lw

set_option Elab.async false
set_option linter.all false
set_option autoImplicit false
set_option maxRecDepth 100000
set_option maxHeartbeats 4000000
/-! Ka: the plain law k85, first part: lines. -/
namespace Lw
open Ev
/-- what a def runs in -/
def cx (n : Nat) (S : Sto) : Cf := ⟨callN L.prog L.gl L.W n, L.gl, S.length, L.W⟩
theorem cx_cl {n : Nat} {S : Sto} : (cx n S).cl = callN L.prog L.gl L.W n := rfl
theorem cx_gl {n : Nat} {S : Sto} : (cx n S).gl = L.gl := rfl
theorem cx_n0 {n : Nat} {S : Sto} : (cx n S).n0 = S.length := rfl
abbrev cl (n f : Nat) (ds : List D) (S : Sto) : Res := callN L.prog L.gl L.W n f ds S
theorem call_rt {n f : Nat} {fn : Fn} {args : List D} {S S1 : Sto} {d : D} {r : Res} (hf : L.prog[f]? = some fn) (ha : args.length = fn.ar) (h : evSs (cx n S) fn.body (args.map some ++ List.replicate (fn.sl - fn.ar) none) S = .rt d S1) (ht : trim S.length d S1 = r) : cl (n + 1) f args S = r := by
  unfold cl
  simp only [callN, hf]
  rw [if_pos ha]
  have h' : evSs ⟨callN L.prog L.gl L.W n, L.gl, S.length, L.W⟩ fn.body (args.map some ++ List.replicate (fn.sl - fn.ar) none) S = .rt d S1 := h
  rw [h']
  exact ht
theorem call_nx {n f : Nat} {fn : Fn} {args : List D} {S S1 : Sto} {ρ : Env} {r : Res} (hf : L.prog[f]? = some fn) (ha : args.length = fn.ar) (h : evSs (cx n S) fn.body (args.map some ++ List.replicate (fn.sl - fn.ar) none) S = .nx ρ S1) (ht : trim S.length .non S1 = r) : cl (n + 1) f args S = r := by
  unfold cl
  simp only [callN, hf]
  rw [if_pos ha]
  have h' : evSs ⟨callN L.prog L.gl L.W n, L.gl, S.length, L.W⟩ fn.body (args.map some ++ List.replicate (fn.sl - fn.ar) none) S = .nx ρ S1 := h
  rw [h']
  exact ht
def letters : List Nat := [97, 98, 99, 100, 101, 102, 103, 104, 105, 106, 107, 108, 109, 110, 111, 112, 113, 114, 115, 116, 117, 118, 119, 120, 121, 122]
def digits : List Nat := [48, 49, 50, 51, 52, 53, 54, 55, 56, 57]
theorem g0 : L.gl[0]? = some (.str letters) := rfl
theorem g1 : L.gl[1]? = some (.str digits) := rfl
theorem g2 : L.gl[2]? = some (.int 120) := rfl
theorem g3 : L.gl[3]? = some (.str [45, 47, 32]) := rfl
theorem g4 : L.gl[4]? = some (.int 60) := rfl
/-- a good line -/
structure Good (s : List Nat) : Prop where
  lo : 1 ≤ s.length
  hi : s.length ≤ 120
  sg : ∀ c ∈ s, c ∈ letters ∨ c ∈ digits ∨ c = 45 ∨ c = 47
theorem Good.n32 {s : List Nat} (g : Good s) : 32 ∉ s := fun h => by
  rcases g.sg 32 h with h | h | h | h
  · revert h; decide
  · revert h; decide
  · cases h
  · cases h
theorem no_two {s : List Nat} (h : 32 ∉ s) : isSub [32, 32] s = false := by
  cases hb : isSub [32, 32] s with
  | false => rfl
  | true =>
    exfalso
    have h2 : (!(PySem.Builtin.Str.occurrences ⟨s.toArray⟩ ⟨[32, 32].toArray⟩ 0 s.length 1).isEmpty) = true := hb
    obtain ⟨i, h3, h4⟩ := (PySem.StrLaws.found_iff ⟨s.toArray⟩ ⟨[32, 32].toArray⟩).mp h2
    have h5 := eq_of_beq h4
    have h6 : (32 : Nat) ∈ (s.toArray.extract i (i + 2)) := by
      have : s.toArray.extract i (i + 2) = [32, 32].toArray := h5
      rw [this]
      simp
    have h7 : (32 : Nat) ∈ s.toArray := by
      rw [Array.mem_iff_getElem] at h6
      obtain ⟨j, hj, e⟩ := h6
      rw [Array.getElem_extract] at e
      rw [← e]
      exact Array.getElem_mem _
    exact h (by simpa using h7)
theorem dIn_s {S : Sto} {x y : List Nat} : dIn S (.str x) (.str y) = some (isSub x y) := rfl
theorem isSub_1 {c : Nat} {y : List Nat} : isSub [c] y = decide (c ∈ y) := rfl
theorem isLine_ok {n : Nat} {S : Sto} {s : List Nat} (g : Good s) : cl (n + 1) 0 [.str s] S = .ok (.bl true) S := by
  have hbody : ∀ (ρ : Env) (c : Nat) (x : Option D), c ∈ s → evSs (cx n S) b0_is_line [some (.str s), some (.str [c])] S = .nx [some (.str s), some (.str [c])] S := by
    intro ρ c x hc
    by_cases h1 : c ∈ letters
    · simp only [b0_is_line, l_var, l_var1, l_glo, l_glo1, l_cst, l_nil, l_cons, l_L1, l_L2, l_neg, l_neg1, l_not, l_not1, l_rev, l_rev1, l_lrg, l_lrg1, l_cdx, l_cdx1, l_isc, l_isc1, l_tdy, l_tdy1, l_bin, l_bin1, l_bin2, l_cmp, l_cmp1, l_cmp2, l_idx, l_idx1, l_idx2, l_chn, l_chn1, l_chn2, l_chn3, l_chn3f, l_chn4, l_ite, l_iteT, l_iteF, l_and, l_and1, l_and2, l_andG, l_andS, l_or, l_or1, l_or2, l_orG, l_orS, l_sli, l_sli1, l_sli2, l_sli3, l_tup, l_tup1, l_lst, l_lst1, l_call, l_call1, l_blt, l_blt1, l_mth, l_mth1, l_mth2, l_snil, l_scons, l_sqn, l_sqr, l_sqb, l_sqc, l_asg, l_asg1, l_asgs, l_asgs1, l_asgs2, l_asgs3, l_bT, l_b1, l_bn, l_bc, l_k0, l_k1, l_exp, l_exp1, l_ret, l_ret1, l_retN, l_brk, l_cnt, l_pss, l_if, l_ifT, l_ifF, l_sub, l_sub1, l_sub2, l_sub3, l_set, l_for, l_lc, l_seq, l_seqL, l_seqL1, l_seqT, l_seqS, l_fsh, l_rng1, l_rng11, l_enm, l_enmT, o_addI, o_subI, o_mulI, o_fdivI, o_modI, o_powI, o_addS, o_addT, o_addL, o_addL1, o_repL, o_repL1, o_repS, c_lt, c_le, c_gt, c_ge, c_eq, c_eq1, c_ne, c_ne1, c_in, c_nin, e_II, e_SS, d_II, d_SS, n_int, n_bl, x_tup, x_at, x_atS, x_str, x_lst, x_lst1, b_int, b_lenT, b_lenS, b_lenL, b_lenL1, b_tupT, b_tupL, b_tupL1, b_lstT, b_lstL, b_lstL1, b_min, b_max, b_isi, b_isi1, b_repr, m_app, m_app1, m_appOk, m_popOk, m_lstB, v_set, v_set1, t_op, t_lop, i_N, i_nN, i_T, i_nT, i_F, i_nF, List.getElem?_cons_succ, List.getElem?_cons_zero, List.set_cons_succ, List.set_cons_zero, st_get, st_get0, st_set, st_set0, if_true, tidy_app, tidy_same, trim_pure, trim_pure0, Nat.zero_le, Nat.zero_add, Nat.reduceAdd, Nat.reduceSub, List.replicate, List.map_cons, List.map_nil, List.cons_append, List.nil_append, cx_gl, g0, dIn_s, isSub_1, h1, decide_true, Bool.not_true]
    · by_cases h2 : c ∈ digits
      · simp only [b0_is_line, l_var, l_var1, l_glo, l_glo1, l_cst, l_nil, l_cons, l_L1, l_L2, l_neg, l_neg1, l_not, l_not1, l_rev, l_rev1, l_lrg, l_lrg1, l_cdx, l_cdx1, l_isc, l_isc1, l_tdy, l_tdy1, l_bin, l_bin1, l_bin2, l_cmp, l_cmp1, l_cmp2, l_idx, l_idx1, l_idx2, l_chn, l_chn1, l_chn2, l_chn3, l_chn3f, l_chn4, l_ite, l_iteT, l_iteF, l_and, l_and1, l_and2, l_andG, l_andS, l_or, l_or1, l_or2, l_orG, l_orS, l_sli, l_sli1, l_sli2, l_sli3, l_tup, l_tup1, l_lst, l_lst1, l_call, l_call1, l_blt, l_blt1, l_mth, l_mth1, l_mth2, l_snil, l_scons, l_sqn, l_sqr, l_sqb, l_sqc, l_asg, l_asg1, l_asgs, l_asgs1, l_asgs2, l_asgs3, l_bT, l_b1, l_bn, l_bc, l_k0, l_k1, l_exp, l_exp1, l_ret, l_ret1, l_retN, l_brk, l_cnt, l_pss, l_if, l_ifT, l_ifF, l_sub, l_sub1, l_sub2, l_sub3, l_set, l_for, l_lc, l_seq, l_seqL, l_seqL1, l_seqT, l_seqS, l_fsh, l_rng1, l_rng11, l_enm, l_enmT, o_addI, o_subI, o_mulI, o_fdivI, o_modI, o_powI, o_addS, o_addT, o_addL, o_addL1, o_repL, o_repL1, o_repS, c_lt, c_le, c_gt, c_ge, c_eq, c_eq1, c_ne, c_ne1, c_in, c_nin, e_II, e_SS, d_II, d_SS, n_int, n_bl, x_tup, x_at, x_atS, x_str, x_lst, x_lst1, b_int, b_lenT, b_lenS, b_lenL, b_lenL1, b_tupT, b_tupL, b_tupL1, b_lstT, b_lstL, b_lstL1, b_min, b_max, b_isi, b_isi1, b_repr, m_app, m_app1, m_appOk, m_popOk, m_lstB, v_set, v_set1, t_op, t_lop, i_N, i_nN, i_T, i_nT, i_F, i_nF, List.getElem?_cons_succ, List.getElem?_cons_zero, List.set_cons_succ, List.set_cons_zero, st_get, st_get0, st_set, st_set0, if_true, tidy_app, tidy_same, trim_pure, trim_pure0, Nat.zero_le, Nat.zero_add, Nat.reduceAdd, Nat.reduceSub, List.replicate, List.map_cons, List.map_nil, List.cons_append, List.nil_append, cx_gl, g0, g1, dIn_s, isSub_1, h1, h2, decide_true, decide_false, Bool.not_true, Bool.not_false]
      · have h3 : c ∈ ([45, 47, 32] : List Nat) := by
          rcases g.sg c hc with h | h | h | h
          · exact absurd h h1
          · exact absurd h h2
          · subst h; decide
          · subst h; decide
        simp only [b0_is_line, l_var, l_var1, l_glo, l_glo1, l_cst, l_nil, l_cons, l_L1, l_L2, l_neg, l_neg1, l_not, l_not1, l_rev, l_rev1, l_lrg, l_lrg1, l_cdx, l_cdx1, l_isc, l_isc1, l_tdy, l_tdy1, l_bin, l_bin1, l_bin2, l_cmp, l_cmp1, l_cmp2, l_idx, l_idx1, l_idx2, l_chn, l_chn1, l_chn2, l_chn3, l_chn3f, l_chn4, l_ite, l_iteT, l_iteF, l_and, l_and1, l_and2, l_andG, l_andS, l_or, l_or1, l_or2, l_orG, l_orS, l_sli, l_sli1, l_sli2, l_sli3, l_tup, l_tup1, l_lst, l_lst1, l_call, l_call1, l_blt, l_blt1, l_mth, l_mth1, l_mth2, l_snil, l_scons, l_sqn, l_sqr, l_sqb, l_sqc, l_asg, l_asg1, l_asgs, l_asgs1, l_asgs2, l_asgs3, l_bT, l_b1, l_bn, l_bc, l_k0, l_k1, l_exp, l_exp1, l_ret, l_ret1, l_retN, l_brk, l_cnt, l_pss, l_if, l_ifT, l_ifF, l_sub, l_sub1, l_sub2, l_sub3, l_set, l_for, l_lc, l_seq, l_seqL, l_seqL1, l_seqT, l_seqS, l_fsh, l_rng1, l_rng11, l_enm, l_enmT, o_addI, o_subI, o_mulI, o_fdivI, o_modI, o_powI, o_addS, o_addT, o_addL, o_addL1, o_repL, o_repL1, o_repS, c_lt, c_le, c_gt, c_ge, c_eq, c_eq1, c_ne, c_ne1, c_in, c_nin, e_II, e_SS, d_II, d_SS, n_int, n_bl, x_tup, x_at, x_atS, x_str, x_lst, x_lst1, b_int, b_lenT, b_lenS, b_lenL, b_lenL1, b_tupT, b_tupL, b_tupL1, b_lstT, b_lstL, b_lstL1, b_min, b_max, b_isi, b_isi1, b_repr, m_app, m_app1, m_appOk, m_popOk, m_lstB, v_set, v_set1, t_op, t_lop, i_N, i_nN, i_T, i_nT, i_F, i_nF, List.getElem?_cons_succ, List.getElem?_cons_zero, List.set_cons_succ, List.set_cons_zero, st_get, st_get0, st_set, st_set0, if_true, tidy_app, tidy_same, trim_pure, trim_pure0, Nat.zero_le, Nat.zero_add, Nat.reduceAdd, Nat.reduceSub, List.replicate, List.map_cons, List.map_nil, List.cons_append, List.nil_append, cx_gl, g0, g1, g3, dIn_s, isSub_1, h1, h2, h3, decide_true, decide_false, Bool.not_true, Bool.not_false]
  obtain ⟨ρ', S', q1, q2, q3⟩ := forL_ind (w := []) (bd := tgF true [1]) (ks := [1]) (body := bodyF (cx n S) b0_is_line) (fun _ ρ T => (∃ x, ρ = [some (.str s), x]) ∧ T = S) (xs := s.map fun c => .str [c]) (ρ := [some (.str s), none]) (S := S) ⟨⟨_, rfl⟩, rfl⟩ (fun _ _ _ _ => rfl) (fun j x ρ T hx h => by
    obtain ⟨⟨y, rfl⟩, rfl⟩ := h
    obtain ⟨c, hc, rfl⟩ := List.mem_map.mp (List.mem_of_getElem? hx)
    exact ⟨_, _, _, rfl, .inl (hbody [] c none hc), ⟨_, rfl⟩, rfl⟩)
  obtain ⟨y, rfl⟩ := q2
  rw [q3] at q1
  have e0 : L.prog[0]? = some i_is_line := rfl
  refine call_rt (d := .bl true) (S1 := S) e0 rfl ?_ (trim_pure0 (by simp [D.und]))
  have hl : (s.length ≤ line) = True := by
    have := g.hi
    have e : line = 16777216 := rfl
    simp
    omega
  have h1 : decide ((1 : Int) ≤ (s.length : Nat)) = true := decide_eq_true (by have := g.lo; omega)
  have h2 : decide (((s.length : Nat) : Int) ≤ 120) = true := decide_eq_true (by have := g.hi; omega)
  have hne : s ≠ [] := fun e => by have := g.lo; rw [e] at this; simp at this
  have p0 : pyAt s 0 = some (s.head hne) := by
    cases s with
    | nil => exact absurd rfl hne
    | cons a r => exact pyAt_nat (a :: r) 0 (by simp)
  have p1 : pyAt s (-1) = some (s.getLast hne) := by
    have := g.lo
    unfold pyAt pyIx
    rw [if_neg (by omega), if_pos (by omega)]
    have e : (-1 + ((s.length : Nat) : Int)).toNat = s.length - 1 := by omega
    simp only [Option.bind_some, e]
    rw [← List.getLast?_eq_getElem?, List.getLast?_eq_getLast hne]
  have k1 : decide ([s.head hne] = [32]) = false := decide_eq_false fun e => g.n32 (by
    injection e with e
    rw [← e]
    exact List.head_mem hne)
  have k2 : decide ([s.getLast hne] = [32]) = false := decide_eq_false fun e => g.n32 (by
    injection e with e
    rw [← e]
    exact List.getLast_mem hne)
  have k3 : isT S .str (.str s) = some true := rfl
  simp only [i_is_line, List.map_cons, List.map_nil, List.cons_append, List.nil_append, List.replicate, l_var, l_var1, l_glo, l_glo1, l_cst, l_nil, l_cons, l_L1, l_L2, l_neg, l_neg1, l_not, l_not1, l_rev, l_rev1, l_lrg, l_lrg1, l_cdx, l_cdx1, l_isc, l_isc1, l_tdy, l_tdy1, l_bin, l_bin1, l_bin2, l_cmp, l_cmp1, l_cmp2, l_idx, l_idx1, l_idx2, l_chn, l_chn1, l_chn2, l_chn3, l_chn3f, l_chn4, l_ite, l_iteT, l_iteF, l_and, l_and1, l_and2, l_andG, l_andS, l_or, l_or1, l_or2, l_orG, l_orS, l_sli, l_sli1, l_sli2, l_sli3, l_tup, l_tup1, l_lst, l_lst1, l_call, l_call1, l_blt, l_blt1, l_mth, l_mth1, l_mth2, l_snil, l_scons, l_sqn, l_sqr, l_sqb, l_sqc, l_asg, l_asg1, l_asgs, l_asgs1, l_asgs2, l_asgs3, l_bT, l_b1, l_bn, l_bc, l_k0, l_k1, l_exp, l_exp1, l_ret, l_ret1, l_retN, l_brk, l_cnt, l_pss, l_if, l_ifT, l_ifF, l_sub, l_sub1, l_sub2, l_sub3, l_set, l_for, l_lc, l_seq, l_seqL, l_seqL1, l_seqT, l_seqS, l_fsh, l_rng1, l_rng11, l_enm, l_enmT, o_addI, o_subI, o_mulI, o_fdivI, o_modI, o_powI, o_addS, o_addT, o_addL, o_addL1, o_repL, o_repL1, o_repS, c_lt, c_le, c_gt, c_ge, c_eq, c_eq1, c_ne, c_ne1, c_in, c_nin, e_II, e_SS, d_II, d_SS, n_int, n_bl, x_tup, x_at, x_atS, x_str, x_lst, x_lst1, b_int, b_lenT, b_lenS, b_lenL, b_lenL1, b_tupT, b_tupL, b_tupL1, b_lstT, b_lstL, b_lstL1, b_min, b_max, b_isi, b_isi1, b_repr, m_app, m_app1, m_appOk, m_popOk, m_lstB, v_set, v_set1, t_op, t_lop, i_N, i_nN, i_T, i_nT, i_F, i_nF, List.getElem?_cons_succ, List.getElem?_cons_zero, List.set_cons_succ, List.set_cons_zero, st_get, st_get0, st_set, st_set0, if_true, tidy_app, tidy_same, trim_pure, trim_pure0, Nat.zero_le, Nat.zero_add, Nat.reduceAdd, Nat.reduceSub, List.replicate, List.map_cons, List.map_nil, List.cons_append, List.nil_append, k3, hl, h1, h2, cx_gl, g2, Bool.not_true, l_for1, q1, p0, p1, k1, k2, Bool.not_false, dIn_s, no_two g.n32]
/-- a tuple of good lines -/
structure Goods (a : List (List Nat)) : Prop where
  hi : a.length ≤ 60
  g : ∀ s ∈ a, Good s
def tl (a : List (List Nat)) : D := .tup (a.map .str)
theorem isLines_ok {n : Nat} {S : Sto} {a : List (List Nat)} (g : Goods a) : cl (n + 2) 1 [tl a] S = .ok (.bl true) S := by
  have hbody : ∀ (s : List Nat), s ∈ a → evSs (cx (n + 1) S) b0_is_lines [some (tl a), some (.str s)] S = .nx [some (tl a), some (.str s)] S := by
    intro s hs
    have e := isLine_ok (n := n) (S := S) (g.g s hs)
    simp only [cl] at e
    have u : D.und S.length (.bl false) = true := by simp [D.und]
    simp only [b0_is_lines, l_var, l_var1, l_glo, l_glo1, l_cst, l_nil, l_cons, l_L1, l_L2, l_neg, l_neg1, l_not, l_not1, l_rev, l_rev1, l_lrg, l_lrg1, l_cdx, l_cdx1, l_isc, l_isc1, l_tdy, l_tdy1, l_bin, l_bin1, l_bin2, l_cmp, l_cmp1, l_cmp2, l_idx, l_idx1, l_idx2, l_chn, l_chn1, l_chn2, l_chn3, l_chn3f, l_chn4, l_ite, l_iteT, l_iteF, l_and, l_and1, l_and2, l_andG, l_andS, l_or, l_or1, l_or2, l_orG, l_orS, l_sli, l_sli1, l_sli2, l_sli3, l_tup, l_tup1, l_lst, l_lst1, l_call, l_call1, l_blt, l_blt1, l_mth, l_mth1, l_mth2, l_snil, l_scons, l_sqn, l_sqr, l_sqb, l_sqc, l_asg, l_asg1, l_asgs, l_asgs1, l_asgs2, l_asgs3, l_bT, l_b1, l_bn, l_bc, l_k0, l_k1, l_exp, l_exp1, l_ret, l_ret1, l_retN, l_brk, l_cnt, l_pss, l_if, l_ifT, l_ifF, l_sub, l_sub1, l_sub2, l_sub3, l_set, l_for, l_lc, l_seq, l_seqL, l_seqL1, l_seqT, l_seqS, l_fsh, l_rng1, l_rng11, l_enm, l_enmT, o_addI, o_subI, o_mulI, o_fdivI, o_modI, o_powI, o_addS, o_addT, o_addL, o_addL1, o_repL, o_repL1, o_repS, c_lt, c_le, c_gt, c_ge, c_eq, c_eq1, c_ne, c_ne1, c_in, c_nin, e_II, e_SS, d_II, d_SS, n_int, n_bl, x_tup, x_at, x_atS, x_str, x_lst, x_lst1, b_int, b_lenT, b_lenS, b_lenL, b_lenL1, b_tupT, b_tupL, b_tupL1, b_lstT, b_lstL, b_lstL1, b_min, b_max, b_isi, b_isi1, b_repr, m_app, m_app1, m_appOk, m_popOk, m_lstB, v_set, v_set1, t_op, t_lop, i_N, i_nN, i_T, i_nT, i_F, i_nF, List.getElem?_cons_succ, List.getElem?_cons_zero, List.set_cons_succ, List.set_cons_zero, st_get, st_get0, st_set, st_set0, if_true, tidy_app, tidy_same, trim_pure, trim_pure0, Nat.zero_le, Nat.zero_add, Nat.reduceAdd, Nat.reduceSub, List.replicate, List.map_cons, List.map_nil, List.cons_append, List.nil_append, cx_cl, e, Bool.not_true, u]
  obtain ⟨ρ', S', q1, ⟨y, q2⟩, q3⟩ := forL_ind (w := []) (bd := tgF true [1]) (ks := [1]) (body := bodyF (cx (n + 1) S) b0_is_lines) (fun _ ρ T => (∃ x, ρ = [some (tl a), x]) ∧ T = S) (xs := a.map .str) (ρ := [some (tl a), none]) (S := S) ⟨⟨_, rfl⟩, rfl⟩ (fun _ _ _ _ => rfl) (fun j x ρ T hx h => by
    obtain ⟨⟨y, rfl⟩, rfl⟩ := h
    obtain ⟨c, hc, rfl⟩ := List.mem_map.mp (List.mem_of_getElem? hx)
    exact ⟨_, _, _, rfl, .inl (hbody c hc), ⟨_, rfl⟩, rfl⟩)
  rw [q2, q3] at q1
  have e0 : L.prog[1]? = some i_is_lines := rfl
  refine call_rt (d := .bl true) (S1 := S) e0 rfl ?_ (trim_pure0 (by simp [D.und]))
  have k3 : isT S .tup (tl a) = some true := rfl
  have k4 : bltop .len [tl a] S = .ok (.int ((a.length : Nat) : Int)) S := by
    show Res.ok (.int (((a.map D.str).length : Nat) : Int)) S = _
    rw [List.length_map]
  have k5 : k_seq (.ok (tl a) S) = .ok (a.map .str) [] S := rfl
  have h2 : decide ((60 : Int) < ((a.length : Nat) : Int)) = false := decide_eq_false (by have := g.hi; omega)
  simp only [i_is_lines, List.map_cons, List.map_nil, List.cons_append, List.nil_append, List.replicate, l_var, l_var1, l_glo, l_glo1, l_cst, l_nil, l_cons, l_L1, l_L2, l_neg, l_neg1, l_not, l_not1, l_rev, l_rev1, l_lrg, l_lrg1, l_cdx, l_cdx1, l_isc, l_isc1, l_tdy, l_tdy1, l_bin, l_bin1, l_bin2, l_cmp, l_cmp1, l_cmp2, l_idx, l_idx1, l_idx2, l_chn, l_chn1, l_chn2, l_chn3, l_chn3f, l_chn4, l_ite, l_iteT, l_iteF, l_and, l_and1, l_and2, l_andG, l_andS, l_or, l_or1, l_or2, l_orG, l_orS, l_sli, l_sli1, l_sli2, l_sli3, l_tup, l_tup1, l_lst, l_lst1, l_call, l_call1, l_blt, l_blt1, l_mth, l_mth1, l_mth2, l_snil, l_scons, l_sqn, l_sqr, l_sqb, l_sqc, l_asg, l_asg1, l_asgs, l_asgs1, l_asgs2, l_asgs3, l_bT, l_b1, l_bn, l_bc, l_k0, l_k1, l_exp, l_exp1, l_ret, l_ret1, l_retN, l_brk, l_cnt, l_pss, l_if, l_ifT, l_ifF, l_sub, l_sub1, l_sub2, l_sub3, l_set, l_for, l_lc, l_seq, l_seqL, l_seqL1, l_seqT, l_seqS, l_fsh, l_rng1, l_rng11, l_enm, l_enmT, o_addI, o_subI, o_mulI, o_fdivI, o_modI, o_powI, o_addS, o_addT, o_addL, o_addL1, o_repL, o_repL1, o_repS, c_lt, c_le, c_gt, c_ge, c_eq, c_eq1, c_ne, c_ne1, c_in, c_nin, e_II, e_SS, d_II, d_SS, n_int, n_bl, x_tup, x_at, x_atS, x_str, x_lst, x_lst1, b_int, b_lenT, b_lenS, b_lenL, b_lenL1, b_tupT, b_tupL, b_tupL1, b_lstT, b_lstL, b_lstL1, b_min, b_max, b_isi, b_isi1, b_repr, m_app, m_app1, m_appOk, m_popOk, m_lstB, v_set, v_set1, t_op, t_lop, i_N, i_nN, i_T, i_nT, i_F, i_nF, List.getElem?_cons_succ, List.getElem?_cons_zero, List.set_cons_succ, List.set_cons_zero, st_get, st_get0, st_set, st_set0, if_true, tidy_app, tidy_same, trim_pure, trim_pure0, Nat.zero_le, Nat.zero_add, Nat.reduceAdd, Nat.reduceSub, List.replicate, List.map_cons, List.map_nil, List.cons_append, List.nil_append, k3, k4, k5, h2, cx_gl, g4, Bool.not_true, l_for1, q1]
theorem check_ok {n : Nat} {S : Sto} {a b : List (List Nat)} (ga : Goods a) (gb : Goods b) : cl (n + 3) 2 [tl a, tl b] S = .ok .non S := by
  have e0 : L.prog[2]? = some i_check_lines := rfl
  refine call_nx (ρ := [some (tl a), some (tl b)]) (S1 := S) e0 rfl ?_ (trim_pure0 (by simp [D.und]))
  have e1 := isLines_ok (n := n) (S := S) ga
  have e2 := isLines_ok (n := n) (S := S) gb
  simp only [cl] at e1 e2
  have u : D.und S.length (.bl false) = true := by simp [D.und]
  simp only [i_check_lines, List.map_cons, List.map_nil, List.cons_append, List.nil_append, List.replicate, l_var, l_var1, l_glo, l_glo1, l_cst, l_nil, l_cons, l_L1, l_L2, l_neg, l_neg1, l_not, l_not1, l_rev, l_rev1, l_lrg, l_lrg1, l_cdx, l_cdx1, l_isc, l_isc1, l_tdy, l_tdy1, l_bin, l_bin1, l_bin2, l_cmp, l_cmp1, l_cmp2, l_idx, l_idx1, l_idx2, l_chn, l_chn1, l_chn2, l_chn3, l_chn3f, l_chn4, l_ite, l_iteT, l_iteF, l_and, l_and1, l_and2, l_andG, l_andS, l_or, l_or1, l_or2, l_orG, l_orS, l_sli, l_sli1, l_sli2, l_sli3, l_tup, l_tup1, l_lst, l_lst1, l_call, l_call1, l_blt, l_blt1, l_mth, l_mth1, l_mth2, l_snil, l_scons, l_sqn, l_sqr, l_sqb, l_sqc, l_asg, l_asg1, l_asgs, l_asgs1, l_asgs2, l_asgs3, l_bT, l_b1, l_bn, l_bc, l_k0, l_k1, l_exp, l_exp1, l_ret, l_ret1, l_retN, l_brk, l_cnt, l_pss, l_if, l_ifT, l_ifF, l_sub, l_sub1, l_sub2, l_sub3, l_set, l_for, l_lc, l_seq, l_seqL, l_seqL1, l_seqT, l_seqS, l_fsh, l_rng1, l_rng11, l_enm, l_enmT, o_addI, o_subI, o_mulI, o_fdivI, o_modI, o_powI, o_addS, o_addT, o_addL, o_addL1, o_repL, o_repL1, o_repS, c_lt, c_le, c_gt, c_ge, c_eq, c_eq1, c_ne, c_ne1, c_in, c_nin, e_II, e_SS, d_II, d_SS, n_int, n_bl, x_tup, x_at, x_atS, x_str, x_lst, x_lst1, b_int, b_lenT, b_lenS, b_lenL, b_lenL1, b_tupT, b_tupL, b_tupL1, b_lstT, b_lstL, b_lstL1, b_min, b_max, b_isi, b_isi1, b_repr, m_app, m_app1, m_appOk, m_popOk, m_lstB, v_set, v_set1, t_op, t_lop, i_N, i_nN, i_T, i_nT, i_F, i_nF, List.getElem?_cons_succ, List.getElem?_cons_zero, List.set_cons_succ, List.set_cons_zero, st_get, st_get0, st_set, st_set0, if_true, tidy_app, tidy_same, trim_pure, trim_pure0, Nat.zero_le, Nat.zero_add, Nat.reduceAdd, Nat.reduceSub, List.replicate, List.map_cons, List.map_nil, List.cons_append, List.nil_append, cx_cl, e1, e2, Bool.not_true, u]
end Lw

set_option Elab.async false
set_option linter.all false
set_option autoImplicit false
set_option maxRecDepth 100000
set_option maxHeartbeats 4000000
/-! Kb: the plain law k85: the costs' table. -/
namespace Lw
open Ev
def mn (x y : Int) : Int := if y < x then y else x
/-- a row from the one above -/
def rowF (q : Nat → Bool) (above : Nat → Int) (i : Nat) : Nat → Int
  | 0 => (i : Int) + 1
  | j + 1 => if q j = true then mn (mn (above (j + 1)) (rowF q above i j) + 1) (above j) else mn (above (j + 1)) (rowF q above i j) + 1
/-- the costs -/
def Er (q : Nat → Nat → Bool) : Nat → Nat → Int
  | 0 => fun j => (j : Int)
  | i + 1 => rowF (q i) (Er q i) i
/-- the first m of row i -/
def rl (q : Nat → Nat → Bool) (i m : Nat) : List D := (List.range m).map fun j => .int (Er q i j)
theorem rl_len {q : Nat → Nat → Bool} {i m : Nat} : (rl q i m).length = m := by simp [rl]
theorem rl_at {q : Nat → Nat → Bool} {i m k : Nat} (h : k < m) : pyAt (rl q i m) (k : Int) = some (.int (Er q i k)) := by
  rw [pyAt_nat _ _ (by rw [rl_len]; exact h)]
  simp [rl]
theorem rl_succ {q : Nat → Nat → Bool} {i m : Nat} : rl q i (m + 1) = rl q i m ++ [.int (Er q i m)] := by
  unfold rl
  rw [List.range_succ, List.map_append]
  rfl
def qL (a b : List (List Nat)) (i j : Nat) : Bool := decide (a.getD i [] = b.getD j [])
theorem mn_blt {x y : Int} {S : Sto} : bltop .min [.int x, .int y] S = .ok (.int (mn x y)) S := rfl
section
variable {n : Nat} {S : Sto} {a b : List (List Nat)}
/-- the inner loop -/
theorem inner {U : Sto} {p : Nat} {t : Option D} {i : Nat} (hp : U[p]? = some (.lst (rl (qL a b) i (b.length + 1)))) (hb : b.length ≤ 60) :
    ∃ x y z, forL [] (tgF false [7, 8]) [7, 8, 9] (bodyF (cx n S) b0_least_costs) (enmL 0 (b.map .str)) [some (tl a), some (tl b), t, some (.int (i : Nat)), some (.str (a.getD i [])), some (.ref p), some (.ref U.length), none, none, none] (U ++ [.lst (rl (qL a b) (i + 1) 1)]) =
      .nx (kill [7, 8, 9] [some (tl a), some (tl b), t, some (.int (i : Nat)), some (.str (a.getD i [])), some (.ref p), some (.ref U.length), x, y, z]) (U ++ [.lst (rl (qL a b) (i + 1) (b.length + 1))]) := by
  have hpl : p < U.length := (List.getElem?_eq_some_iff.mp hp).1
  have hp2 : ∀ o, (U ++ [o])[p]? = some (.lst (rl (qL a b) i (b.length + 1))) := fun o => by rw [List.getElem?_append_left hpl]; exact hp
  obtain ⟨ρ', S', q1, ⟨x, y, z, q2⟩, q3⟩ := forL_ind (w := []) (bd := tgF false [7, 8]) (ks := [7, 8, 9]) (body := bodyF (cx n S) b0_least_costs)
    (fun j ρ T => (∃ x y z, ρ = [some (tl a), some (tl b), t, some (.int (i : Nat)), some (.str (a.getD i [])), some (.ref p), some (.ref U.length), x, y, z]) ∧ T = U ++ [.lst (rl (qL a b) (i + 1) (j + 1))]) (xs := enmL 0 (b.map .str))
    (ρ := [some (tl a), some (tl b), t, some (.int (i : Nat)), some (.str (a.getD i [])), some (.ref p), some (.ref U.length), none, none, none]) (S := U ++ [.lst (rl (qL a b) (i + 1) 1)]) ⟨⟨_, _, _, rfl⟩, rfl⟩ (fun _ _ _ _ => rfl) (fun j x ρ T hx h => by
      obtain ⟨⟨y1, y2, y3, rfl⟩, rfl⟩ := h
      have hj : j < b.length := by
        have := (List.getElem?_eq_some_iff.mp hx).1
        rw [enmL_len, List.length_map] at this
        exact this
      have hbj : b[j]? = some (b.getD j []) := by
        rw [List.getD_eq_getElem?_getD, List.getElem?_eq_getElem hj]
        rfl
      have hx' : x = .tup [.int (j : Nat), .str (b.getD j [])] := by
        have := enmL_get (b.map D.str) 0 j (.str (b.getD j [])) (by rw [List.getElem?_map, hbj]; rfl)
        rw [this] at hx
        simp at hx
        exact hx.symm
      subst hx'
      have e1 : ((j : Nat) : Int) + 1 = ((j + 1 : Nat) : Int) := by omega
      have r1 := rl_at (q := qL a b) (i := i) (m := b.length + 1) (k := j + 1) (by omega)
      have r2 := rl_at (q := qL a b) (i := i + 1) (m := j + 1) (k := j) (by omega)
      have r3 := rl_at (q := qL a b) (i := i) (m := b.length + 1) (k := j) (by omega)
      have na : ∀ (v : Int) (n0 : Nat), ¬ ((U.length < n0 ∧ (D.int v).pure = false) ∨ line ≤ (rl (qL a b) (i + 1) (j + 1)).length) := fun v n0 h => by
        rcases h with ⟨_, h⟩ | h
        · cases h
        · rw [rl_len] at h
          have e : line = 16777216 := rfl
          omega
      refine ⟨_, _, _, rfl, .inl ?_, ⟨some (.int (j : Nat)), some (.str (b.getD j [])), some (.int (Er (qL a b) (i + 1) (j + 1))), rfl⟩, rfl⟩
      show evSs (cx n S) b0_least_costs [some (tl a), some (tl b), t, some (.int (i : Nat)), some (.str (a.getD i [])), some (.ref p), some (.ref U.length), some (.int (j : Nat)), some (.str (b.getD j [])), none] _ = _
      rw [rl_succ (m := j + 1)]
      cases hq : qL a b i j with
      | true =>
        have hd : decide (a.getD i [] = b.getD j []) = true := hq
        have e2 : Er (qL a b) (i + 1) (j + 1) = mn (mn (Er (qL a b) i (j + 1)) (Er (qL a b) (i + 1) j) + 1) (Er (qL a b) i j) := by
          show rowF _ _ _ _ = _
          unfold rowF
          rw [if_pos hq]
          rfl
        simp only [b0_least_costs, l_var, l_var1, l_glo, l_glo1, l_cst, l_nil, l_cons, l_L1, l_L2, l_neg, l_neg1, l_not, l_not1, l_rev, l_rev1, l_lrg, l_lrg1, l_cdx, l_cdx1, l_isc, l_isc1, l_tdy, l_tdy1, l_bin, l_bin1, l_bin2, l_cmp, l_cmp1, l_cmp2, l_idx, l_idx1, l_idx2, l_chn, l_chn1, l_chn2, l_chn3, l_chn3f, l_chn4, l_ite, l_iteT, l_iteF, l_and, l_and1, l_and2, l_andG, l_andS, l_or, l_or1, l_or2, l_orG, l_orS, l_sli, l_sli1, l_sli2, l_sli3, l_tup, l_tup1, l_lst, l_lst1, l_call, l_call1, l_blt, l_blt1, l_mth, l_mth1, l_mth2, l_snil, l_scons, l_sqn, l_sqr, l_sqb, l_sqc, l_asg, l_asg1, l_asgs, l_asgs1, l_asgs2, l_asgs3, l_bT, l_b1, l_bn, l_bc, l_k0, l_k1, l_exp, l_exp1, l_ret, l_ret1, l_retN, l_brk, l_cnt, l_pss, l_if, l_ifT, l_ifF, l_sub, l_sub1, l_sub2, l_sub3, l_set, l_for, l_lc, l_seq, l_seqL, l_seqL1, l_seqT, l_seqS, l_fsh, l_rng1, l_rng11, l_enm, l_enmT, o_addI, o_subI, o_mulI, o_fdivI, o_modI, o_powI, o_addS, o_addT, o_addL, o_addL1, o_repL, o_repL1, o_repS, c_lt, c_le, c_gt, c_ge, c_eq, c_eq1, c_ne, c_ne1, c_in, c_nin, e_II, e_SS, d_II, d_SS, n_int, n_bl, x_tup, x_at, x_atS, x_str, x_lst, x_lst1, b_int, b_lenT, b_lenS, b_lenL, b_lenL1, b_tupT, b_tupL, b_tupL1, b_lstT, b_lstL, b_lstL1, b_min, b_max, b_isi, b_isi1, b_repr, m_app, m_app1, m_appOk, m_popOk, m_lstB, v_set, v_set1, t_op, t_lop, i_N, i_nN, i_T, i_nT, i_F, i_nF, List.getElem?_cons_succ, List.getElem?_cons_zero, List.set_cons_succ, List.set_cons_zero, st_get, st_get0, st_set, st_set0, if_true, tidy_app, tidy_same, trim_pure, trim_pure0, Nat.zero_le, Nat.zero_add, Nat.reduceAdd, Nat.reduceSub, List.replicate, List.map_cons, List.map_nil, List.cons_append, List.nil_append, hp2, e1, r1, r2, r3, mn_blt, hd, na, if_false, e2]
        rfl
      | false =>
        have hd : decide (a.getD i [] = b.getD j []) = false := hq
        have e2 : Er (qL a b) (i + 1) (j + 1) = mn (Er (qL a b) i (j + 1)) (Er (qL a b) (i + 1) j) + 1 := by
          show rowF _ _ _ _ = _
          unfold rowF
          rw [if_neg (by rw [hq]; decide)]
          rfl
        simp only [b0_least_costs, l_var, l_var1, l_glo, l_glo1, l_cst, l_nil, l_cons, l_L1, l_L2, l_neg, l_neg1, l_not, l_not1, l_rev, l_rev1, l_lrg, l_lrg1, l_cdx, l_cdx1, l_isc, l_isc1, l_tdy, l_tdy1, l_bin, l_bin1, l_bin2, l_cmp, l_cmp1, l_cmp2, l_idx, l_idx1, l_idx2, l_chn, l_chn1, l_chn2, l_chn3, l_chn3f, l_chn4, l_ite, l_iteT, l_iteF, l_and, l_and1, l_and2, l_andG, l_andS, l_or, l_or1, l_or2, l_orG, l_orS, l_sli, l_sli1, l_sli2, l_sli3, l_tup, l_tup1, l_lst, l_lst1, l_call, l_call1, l_blt, l_blt1, l_mth, l_mth1, l_mth2, l_snil, l_scons, l_sqn, l_sqr, l_sqb, l_sqc, l_asg, l_asg1, l_asgs, l_asgs1, l_asgs2, l_asgs3, l_bT, l_b1, l_bn, l_bc, l_k0, l_k1, l_exp, l_exp1, l_ret, l_ret1, l_retN, l_brk, l_cnt, l_pss, l_if, l_ifT, l_ifF, l_sub, l_sub1, l_sub2, l_sub3, l_set, l_for, l_lc, l_seq, l_seqL, l_seqL1, l_seqT, l_seqS, l_fsh, l_rng1, l_rng11, l_enm, l_enmT, o_addI, o_subI, o_mulI, o_fdivI, o_modI, o_powI, o_addS, o_addT, o_addL, o_addL1, o_repL, o_repL1, o_repS, c_lt, c_le, c_gt, c_ge, c_eq, c_eq1, c_ne, c_ne1, c_in, c_nin, e_II, e_SS, d_II, d_SS, n_int, n_bl, x_tup, x_at, x_atS, x_str, x_lst, x_lst1, b_int, b_lenT, b_lenS, b_lenL, b_lenL1, b_tupT, b_tupL, b_tupL1, b_lstT, b_lstL, b_lstL1, b_min, b_max, b_isi, b_isi1, b_repr, m_app, m_app1, m_appOk, m_popOk, m_lstB, v_set, v_set1, t_op, t_lop, i_N, i_nN, i_T, i_nT, i_F, i_nF, List.getElem?_cons_succ, List.getElem?_cons_zero, List.set_cons_succ, List.set_cons_zero, st_get, st_get0, st_set, st_set0, if_true, tidy_app, tidy_same, trim_pure, trim_pure0, Nat.zero_le, Nat.zero_add, Nat.reduceAdd, Nat.reduceSub, List.replicate, List.map_cons, List.map_nil, List.cons_append, List.nil_append, hp2, e1, r1, r2, r3, mn_blt, hd, na, if_false, e2]
        rfl)
  rw [enmL_len, List.length_map] at q3
  exact ⟨x, y, z, by rw [q1, q2, q3]⟩
/-- where row i stands -/
def rref (s i : Nat) : Nat := if i = 0 then s else s + 1 + i
def refs (s i : Nat) : List D := (List.range (i + 1)).map fun t => .ref (rref s t)
def rest (q : Nat → Nat → Bool) (m i : Nat) : Sto := (List.range i).map fun t => .lst (rl q (t + 1) m)
/-- the store behind i rows -/
def tabS (S : Sto) (q : Nat → Nat → Bool) (m i : Nat) : Sto := S ++ (.lst (rl q 0 m) :: .lst (refs S.length i) :: rest q m i)
theorem tabS_len {S : Sto} {q : Nat → Nat → Bool} {m i : Nat} : (tabS S q m i).length = S.length + 2 + i := by
  simp [tabS, rest]
  omega
theorem tabS_row {S : Sto} {q : Nat → Nat → Bool} {m i t : Nat} (h : t ≤ i) : (tabS S q m i)[rref S.length t]? = some (.lst (rl q t m)) := by
  unfold tabS rref
  by_cases h0 : t = 0
  · subst h0
    rw [if_pos rfl, st_get0]
    rfl
  · rw [if_neg h0]
    obtain ⟨k, rfl⟩ : ∃ k, t = k + 1 := ⟨t - 1, by omega⟩
    have e : S.length + 1 + (k + 1) = S.length + (k + 2) := by omega
    rw [e, st_get]
    simp only [List.getElem?_cons_succ, rest]
    rw [List.getElem?_map, List.getElem?_range (by omega)]
    rfl
theorem tabS_tab {S : Sto} {q : Nat → Nat → Bool} {m i : Nat} : (tabS S q m i)[S.length + 1]? = some (.lst (refs S.length i)) := by
  unfold tabS
  rw [st_get]
  rfl
theorem refs_at {s i t : Nat} (h : t ≤ i) : pyAt (refs s i) (t : Int) = some (.ref (rref s t)) := by
  rw [pyAt_nat _ _ (by simp [refs]; omega)]
  simp [refs]
theorem refs_succ {s i : Nat} : refs s (i + 1) = refs s i ++ [.ref (s + 1 + (i + 1))] := by
  unfold refs
  rw [List.range_succ, List.map_append]
  simp [rref]
theorem tabS_succ {S : Sto} {q : Nat → Nat → Bool} {m i : Nat} : (tabS S q m i ++ [Ob.lst (rl q (i + 1) m)]).set (S.length + 1) (Ob.lst (refs S.length i ++ [D.ref (tabS S q m i).length])) = tabS S q m (i + 1) := by
  have e : (tabS S q m i).length = S.length + 1 + (i + 1) := by rw [tabS_len]; omega
  rw [e, ← refs_succ]
  unfold tabS
  rw [List.append_assoc, st_set]
  simp [rest, List.range_succ]
theorem rngL_rl {q : Nat → Nat → Bool} {m : Nat} : rngL 0 m = rl q 0 m := by
  rw [rngL_ints]
  unfold rl
  apply List.map_congr_left
  intro i _
  show D.int (0 + (i : Nat)) = D.int (i : Nat)
  congr 1
  omega
theorem enm_tl {S : Sto} {b : List (List Nat)} : k_enm (.ok (tl b) S) = .ok (enmL 0 (b.map .str)) [] S := rfl
theorem len_tl {S : Sto} {b : List (List Nat)} : bltop .len [tl b] S = .ok (.int (b.length : Nat)) S := by
  show Res.ok (.int ((b.map D.str).length : Nat)) S = _
  rw [List.length_map]
/-- the table -/
theorem costs_ok (hb : b.length ≤ 60) (ha : a.length ≤ 60) : cl (n + 1) 3 [tl a, tl b] S = .ok (.ref (S.length + 1)) (tabS S (qL a b) (b.length + 1) a.length) := by
  have e0 : L.prog[3]? = some i_least_costs := rfl
  obtain ⟨ρ', S', q1, ⟨r, hr, q2⟩, q3⟩ := forL_ind (w := []) (bd := tgF false [3, 4]) (ks := [3, 4, 5, 6, 7, 8, 9]) (body := bodyF (cx n S) b1_least_costs)
    (fun i ρ T => (∃ r : List (Option D), r.length = 7 ∧ ρ = some (tl a) :: some (tl b) :: some (.ref (S.length + 1)) :: r) ∧ T = tabS S (qL a b) (b.length + 1) i) (xs := enmL 0 (a.map .str))
    (ρ := [some (tl a), some (tl b), some (.ref (S.length + 1)), none, none, none, none, none, none, none]) (S := tabS S (qL a b) (b.length + 1) 0) ⟨⟨_, rfl, rfl⟩, rfl⟩ (fun _ _ _ _ => rfl) (fun i x ρ T hx h => by
      obtain ⟨⟨r, hr, rfl⟩, rfl⟩ := h
      have hi : i < a.length := by
        have := (List.getElem?_eq_some_iff.mp hx).1
        rw [enmL_len, List.length_map] at this
        exact this
      have hai : a[i]? = some (a.getD i []) := by
        rw [List.getD_eq_getElem?_getD, List.getElem?_eq_getElem hi]
        rfl
      have hx' : x = .tup [.int (i : Nat), .str (a.getD i [])] := by
        have := enmL_get (a.map D.str) 0 i (.str (a.getD i [])) (by rw [List.getElem?_map, hai]; rfl)
        rw [this] at hx
        simp at hx
        exact hx.symm
      subst hx'
      match r, hr with
      | [r0, r1, r2, r3, r4, r5, r6], _ =>
      obtain ⟨x, y, z, hin⟩ := inner (n := n) (S := S) (a := a) (b := b) (U := tabS S (qL a b) (b.length + 1) i) (p := rref S.length i) (t := some (.ref (S.length + 1))) (i := i) (tabS_row (Nat.le_refl _)) hb
      refine ⟨_, _, _, rfl, .inl ?_, ⟨[some (.int (i : Nat)), some (.str (a.getD i [])), some (.ref (rref S.length i)), some (.ref (tabS S (qL a b) (b.length + 1) i).length), none, none, none], rfl, rfl⟩, rfl⟩
      show evSs (cx n S) b1_least_costs [some (tl a), some (tl b), some (.ref (S.length + 1)), some (.int (i : Nat)), some (.str (a.getD i [])), none, none, none, none, none] _ = _
      have l1 : ((rl (qL a b) (i + 1) 1).length ≤ line) = True := by simp [rl_len, line]
      have f1 : ∀ o, (tabS S (qL a b) (b.length + 1) i ++ [o])[S.length + 1]? = some (.lst (refs S.length i)) := fun o => by
        rw [List.getElem?_append_left (by rw [tabS_len]; omega)]
        exact tabS_tab
      have na : ¬ ((S.length + 1 < (cx n S).n0 ∧ (D.ref (tabS S (qL a b) (b.length + 1) i).length).pure = false) ∨ line ≤ (refs S.length i).length) := fun h => by
        rcases h with ⟨h, _⟩ | h
        · rw [cx_n0] at h
          omega
        · have e : line = 16777216 := rfl
          simp [refs] at h
          omega
      have r1' : [D.int (((i : Nat) : Int) + 1)] = rl (qL a b) (i + 1) 1 := rfl
      simp only [b1_least_costs, l_var, l_var1, l_glo, l_glo1, l_cst, l_nil, l_cons, l_L1, l_L2, l_neg, l_neg1, l_not, l_not1, l_rev, l_rev1, l_lrg, l_lrg1, l_cdx, l_cdx1, l_isc, l_isc1, l_tdy, l_tdy1, l_bin, l_bin1, l_bin2, l_cmp, l_cmp1, l_cmp2, l_idx, l_idx1, l_idx2, l_chn, l_chn1, l_chn2, l_chn3, l_chn3f, l_chn4, l_ite, l_iteT, l_iteF, l_and, l_and1, l_and2, l_andG, l_andS, l_or, l_or1, l_or2, l_orG, l_orS, l_sli, l_sli1, l_sli2, l_sli3, l_tup, l_tup1, l_lst, l_lst1, l_call, l_call1, l_blt, l_blt1, l_mth, l_mth1, l_mth2, l_snil, l_scons, l_sqn, l_sqr, l_sqb, l_sqc, l_asg, l_asg1, l_asgs, l_asgs1, l_asgs2, l_asgs3, l_bT, l_b1, l_bn, l_bc, l_k0, l_k1, l_exp, l_exp1, l_ret, l_ret1, l_retN, l_brk, l_cnt, l_pss, l_if, l_ifT, l_ifF, l_sub, l_sub1, l_sub2, l_sub3, l_set, l_for, l_lc, l_seq, l_seqL, l_seqL1, l_seqT, l_seqS, l_fsh, l_rng1, l_rng11, l_enm, l_enmT, o_addI, o_subI, o_mulI, o_fdivI, o_modI, o_powI, o_addS, o_addT, o_addL, o_addL1, o_repL, o_repL1, o_repS, c_lt, c_le, c_gt, c_ge, c_eq, c_eq1, c_ne, c_ne1, c_in, c_nin, e_II, e_SS, d_II, d_SS, n_int, n_bl, x_tup, x_at, x_atS, x_str, x_lst, x_lst1, b_int, b_lenT, b_lenS, b_lenL, b_lenL1, b_tupT, b_tupL, b_tupL1, b_lstT, b_lstL, b_lstL1, b_min, b_max, b_isi, b_isi1, b_repr, m_app, m_app1, m_appOk, m_popOk, m_lstB, v_set, v_set1, t_op, t_lop, i_N, i_nN, i_T, i_nT, i_F, i_nF, List.getElem?_cons_succ, List.getElem?_cons_zero, List.set_cons_succ, List.set_cons_zero, st_get, st_get0, st_set, st_set0, if_true, tidy_app, tidy_same, trim_pure, trim_pure0, Nat.zero_le, Nat.zero_add, Nat.reduceAdd, Nat.reduceSub, List.replicate, List.map_cons, List.map_nil, List.cons_append, List.nil_append, tabS_tab, refs_at (Nat.le_refl i), l1, st_alloc0, r1', enm_tl, l_for1, hin, f1, na, if_false, tabS_succ])
  rw [enmL_len, List.length_map] at q3
  subst q2 q3
  match r, hr with
  | [r0, r1, r2, r3, r4, r5, r6], _ =>
  refine call_rt (d := .ref (S.length + 1)) (S1 := tabS S (qL a b) (b.length + 1) a.length) e0 rfl ?_ ?_
  · show evSs (cx n S) i_least_costs.body [some (tl a), some (tl b), none, none, none, none, none, none, none, none] S = _
    have c1 : -4611686018427387904 ≤ ((b.length : Nat) : Int) + 1 ∧ ((b.length : Nat) : Int) + 1 ≤ 16777216 := ⟨by omega, by omega⟩
    have c2 : (((b.length : Nat) : Int) + 1).toNat = b.length + 1 := by omega
    have c3 : ∀ (S : Sto) (m : Int), lrgop (.int m) S = if -4611686018427387904 ≤ m ∧ m ≤ 16777216 then alloc (.lst (rngL 0 m.toNat)) S else .st := fun _ _ => rfl
    have c4 : alloc (.lst (rngL 0 (b.length + 1))) S = .ok (.ref S.length) (S ++ [.lst (rl (qL a b) 0 (b.length + 1))]) := by rw [rngL_rl (q := qL a b)]; rfl
    have c5 : (1 ≤ line) = True := by simp [line]
    have c6 : trim S.length (.ref (S.length + 1)) (S ++ [.lst (rl (qL a b) 0 (b.length + 1)), .lst [.ref S.length]]) = .ok (.ref (S.length + 1)) (tabS S (qL a b) (b.length + 1) 0) :=
      trim_keep (k := 1) rfl (by simp [D.unds, D.und])
    simp only [i_least_costs, l_var, l_var1, l_glo, l_glo1, l_cst, l_nil, l_cons, l_L1, l_L2, l_neg, l_neg1, l_not, l_not1, l_rev, l_rev1, l_lrg, l_lrg1, l_cdx, l_cdx1, l_isc, l_isc1, l_tdy, l_tdy1, l_bin, l_bin1, l_bin2, l_cmp, l_cmp1, l_cmp2, l_idx, l_idx1, l_idx2, l_chn, l_chn1, l_chn2, l_chn3, l_chn3f, l_chn4, l_ite, l_iteT, l_iteF, l_and, l_and1, l_and2, l_andG, l_andS, l_or, l_or1, l_or2, l_orG, l_orS, l_sli, l_sli1, l_sli2, l_sli3, l_tup, l_tup1, l_lst, l_lst1, l_call, l_call1, l_blt, l_blt1, l_mth, l_mth1, l_mth2, l_snil, l_scons, l_sqn, l_sqr, l_sqb, l_sqc, l_asg, l_asg1, l_asgs, l_asgs1, l_asgs2, l_asgs3, l_bT, l_b1, l_bn, l_bc, l_k0, l_k1, l_exp, l_exp1, l_ret, l_ret1, l_retN, l_brk, l_cnt, l_pss, l_if, l_ifT, l_ifF, l_sub, l_sub1, l_sub2, l_sub3, l_set, l_for, l_lc, l_seq, l_seqL, l_seqL1, l_seqT, l_seqS, l_fsh, l_rng1, l_rng11, l_enm, l_enmT, o_addI, o_subI, o_mulI, o_fdivI, o_modI, o_powI, o_addS, o_addT, o_addL, o_addL1, o_repL, o_repL1, o_repS, c_lt, c_le, c_gt, c_ge, c_eq, c_eq1, c_ne, c_ne1, c_in, c_nin, e_II, e_SS, d_II, d_SS, n_int, n_bl, x_tup, x_at, x_atS, x_str, x_lst, x_lst1, b_int, b_lenT, b_lenS, b_lenL, b_lenL1, b_tupT, b_tupL, b_tupL1, b_lstT, b_lstL, b_lstL1, b_min, b_max, b_isi, b_isi1, b_repr, m_app, m_app1, m_appOk, m_popOk, m_lstB, v_set, v_set1, t_op, t_lop, i_N, i_nN, i_T, i_nT, i_F, i_nF, List.getElem?_cons_succ, List.getElem?_cons_zero, List.set_cons_succ, List.set_cons_zero, st_get, st_get0, st_set, st_set0, if_true, tidy_app, tidy_same, trim_pure, trim_pure0, Nat.zero_le, Nat.zero_add, Nat.reduceAdd, Nat.reduceSub, List.replicate, List.map_cons, List.map_nil, List.cons_append, List.nil_append, len_tl, l_lrg1, c3, c1, c2, c4, c5, c6, and_self, st_alloc, List.length_cons, List.length_nil, enm_tl, l_for1, q1]
  · exact trim_keep (k := 1) rfl (by simp [D.unds, D.und, refs, rref, List.range_succ_eq_map])
end
end Lw

set_option Elab.async false
set_option linter.all false
set_option autoImplicit false
set_option maxRecDepth 100000
set_option maxHeartbeats 4000000
/-! Kc: the plain law k85: potential. -/
namespace Lw
open Ev
theorem unds_map {α : Type} {n : Nat} {f : α → D} : ∀ {l : List α}, (∀ x ∈ l, D.und n (f x) = true) → D.unds n (l.map f) = true
  | [], _ => rfl
  | x :: l, h => by
    simp only [List.map_cons, D.unds, h x List.mem_cons_self, Bool.true_and]
    exact unds_map fun y hy => h y (List.mem_cons_of_mem _ hy)
def tabD (q : Nat → Nat → Bool) (m n : Nat) : D := .tup ((List.range (m + 1)).map fun i => .tup (rl q i (n + 1)))
theorem rl_und {k : Nat} {q : Nat → Nat → Bool} {i m : Nat} : D.unds k (rl q i m) = true := unds_map fun _ _ => rfl
theorem tabD_und {k : Nat} {q : Nat → Nat → Bool} {m n : Nat} : D.und k (tabD q m n) = true := by
  unfold tabD
  simp only [D.und]
  exact unds_map fun i _ => by simp only [D.und]; exact rl_und
theorem fresh_keep {S l : Sto} {k : Nat} {xs : List D} (hk : l[k]? = some (.lst xs)) (hu : D.unds S.length xs = false) : freshOf S (.ok (.ref (S.length + k)) (S ++ l)) = .ok xs [(S.length + k, .lst xs)] (S ++ l) := by
  unfold freshOf
  dsimp only
  rw [st_get, hk]
  dsimp only
  rw [if_neg (by rw [hu]; simp)]
theorem refs_und {s i : Nat} : D.unds s (refs s i) = false := by simp [D.unds, D.und, refs, rref, List.range_succ_eq_map]
section
variable {n : Nat} {S : Sto} {a b : List (List Nat)}
theorem trim_tab {q : Nat → Nat → Bool} {m i : Nat} {l : Sto} {d : D} (h : d.und S.length = true) : trim S.length d (tabS S q m i ++ l) = .ok d S := by
  unfold tabS
  rw [List.append_assoc]
  exact trim_pure h
theorem fresh_tab {q : Nat → Nat → Bool} {m i : Nat} : freshOf S (.ok (.ref (S.length + 1)) (tabS S q m i)) = .ok (refs S.length i) [(S.length + 1, .lst (refs S.length i))] (tabS S q m i) :=
  fresh_keep (k := 1) rfl refs_und
theorem wOk_tab {q : Nat → Nat → Bool} {m i : Nat} : wOk (tabS S q m i) [(S.length + 1, .lst (refs S.length i))] = true := by
  simp [wOk, tabS_tab]
theorem potential_m (ga : Goods a) (gb : Goods b) (e1 : cl n 2 [tl a, tl b] S = .ok .non S) (e2 : cl n 3 [tl a, tl b] S = .ok (.ref (S.length + 1)) (tabS S (qL a b) (b.length + 1) a.length)) : cl (n + 1) 4 [tl a, tl b] S = .ok (tabD (qL a b) a.length b.length) S := by
  have e0 : L.prog[4]? = some i_potential := rfl
  simp only [cl] at e1 e2
  have f1 : freshOf S (.ok (.ref (S.length + 1)) (tabS S (qL a b) (b.length + 1) a.length)) = .ok (refs S.length a.length) [(S.length + 1, .lst (refs S.length a.length))] (tabS S (qL a b) (b.length + 1) a.length) :=
    fresh_tab
  have hw : wOk (tabS S (qL a b) (b.length + 1) a.length) [(S.length + 1, .lst (refs S.length a.length))] = true := wOk_tab
  have hL : lcL [(S.length + 1, .lst (refs S.length a.length))] (fun d => bindTg true [2] d (kill [2] [some (tl a), some (tl b), none])) (fun ρ T => evE (cx (n) S) (.cst (.bl true)) ρ T) (fun ρ T => evE (cx (n) S) (.blt .tuple (.cons (.var 2) .nil)) ρ T) (refs S.length a.length) (tabS S (qL a b) (b.length + 1) a.length) =
      .ok ((refs S.length a.length).map fun d => match d with
        | .ref k => (match (tabS S (qL a b) (b.length + 1) a.length)[k]? with
          | some (.lst xs) => .tup xs
          | _ => .non)
        | _ => .non) (tabS S (qL a b) (b.length + 1) a.length) := by
    refine lcL_map hw fun x hx => ?_
    obtain ⟨t, ht, rfl⟩ := List.mem_map.mp hx
    have ht2 : t ≤ a.length := by
      have := List.mem_range.mp ht
      omega
    refine ⟨_, rfl, by simp only [l_var, l_var1, l_glo, l_glo1, l_cst, l_nil, l_cons, l_L1, l_L2, l_neg, l_neg1, l_not, l_not1, l_rev, l_rev1, l_lrg, l_lrg1, l_cdx, l_cdx1, l_isc, l_isc1, l_tdy, l_tdy1, l_bin, l_bin1, l_bin2, l_cmp, l_cmp1, l_cmp2, l_idx, l_idx1, l_idx2, l_chn, l_chn1, l_chn2, l_chn3, l_chn3f, l_chn4, l_ite, l_iteT, l_iteF, l_and, l_and1, l_and2, l_andG, l_andS, l_or, l_or1, l_or2, l_orG, l_orS, l_sli, l_sli1, l_sli2, l_sli3, l_tup, l_tup1, l_lst, l_lst1, l_call, l_call1, l_blt, l_blt1, l_mth, l_mth1, l_mth2, l_snil, l_scons, l_sqn, l_sqr, l_sqb, l_sqc, l_asg, l_asg1, l_asgs, l_asgs1, l_asgs2, l_asgs3, l_bT, l_b1, l_bn, l_bc, l_k0, l_k1, l_exp, l_exp1, l_ret, l_ret1, l_retN, l_brk, l_cnt, l_pss, l_if, l_ifT, l_ifF, l_sub, l_sub1, l_sub2, l_sub3, l_set, l_for, l_lc, l_seq, l_seqL, l_seqL1, l_seqT, l_seqS, l_fsh, l_rng1, l_rng11, l_enm, l_enmT, o_addI, o_subI, o_mulI, o_fdivI, o_modI, o_powI, o_addS, o_addT, o_addL, o_addL1, o_repL, o_repL1, o_repS, c_lt, c_le, c_gt, c_ge, c_eq, c_eq1, c_ne, c_ne1, c_in, c_nin, e_II, e_SS, d_II, d_SS, n_int, n_bl, x_tup, x_at, x_atS, x_str, x_lst, x_lst1, b_int, b_lenT, b_lenS, b_lenL, b_lenL1, b_tupT, b_tupL, b_tupL1, b_lstT, b_lstL, b_lstL1, b_min, b_max, b_isi, b_isi1, b_repr, m_app, m_app1, m_appOk, m_popOk, m_lstB, v_set, v_set1, t_op, t_lop, i_N, i_nN, i_T, i_nT, i_F, i_nF, List.getElem?_cons_succ, List.getElem?_cons_zero, List.set_cons_succ, List.set_cons_zero, st_get, st_get0, st_set, st_set0, if_true, tidy_app, tidy_same, trim_pure, trim_pure0, Nat.zero_le, Nat.zero_add, Nat.reduceAdd, Nat.reduceSub, List.replicate, List.map_cons, List.map_nil, List.cons_append, List.nil_append], ?_⟩
    show evE _ _ [some (tl a), some (tl b), some (.ref (rref S.length t))] _ = _
    simp only [l_var, l_var1, l_glo, l_glo1, l_cst, l_nil, l_cons, l_L1, l_L2, l_neg, l_neg1, l_not, l_not1, l_rev, l_rev1, l_lrg, l_lrg1, l_cdx, l_cdx1, l_isc, l_isc1, l_tdy, l_tdy1, l_bin, l_bin1, l_bin2, l_cmp, l_cmp1, l_cmp2, l_idx, l_idx1, l_idx2, l_chn, l_chn1, l_chn2, l_chn3, l_chn3f, l_chn4, l_ite, l_iteT, l_iteF, l_and, l_and1, l_and2, l_andG, l_andS, l_or, l_or1, l_or2, l_orG, l_orS, l_sli, l_sli1, l_sli2, l_sli3, l_tup, l_tup1, l_lst, l_lst1, l_call, l_call1, l_blt, l_blt1, l_mth, l_mth1, l_mth2, l_snil, l_scons, l_sqn, l_sqr, l_sqb, l_sqc, l_asg, l_asg1, l_asgs, l_asgs1, l_asgs2, l_asgs3, l_bT, l_b1, l_bn, l_bc, l_k0, l_k1, l_exp, l_exp1, l_ret, l_ret1, l_retN, l_brk, l_cnt, l_pss, l_if, l_ifT, l_ifF, l_sub, l_sub1, l_sub2, l_sub3, l_set, l_for, l_lc, l_seq, l_seqL, l_seqL1, l_seqT, l_seqS, l_fsh, l_rng1, l_rng11, l_enm, l_enmT, o_addI, o_subI, o_mulI, o_fdivI, o_modI, o_powI, o_addS, o_addT, o_addL, o_addL1, o_repL, o_repL1, o_repS, c_lt, c_le, c_gt, c_ge, c_eq, c_eq1, c_ne, c_ne1, c_in, c_nin, e_II, e_SS, d_II, d_SS, n_int, n_bl, x_tup, x_at, x_atS, x_str, x_lst, x_lst1, b_int, b_lenT, b_lenS, b_lenL, b_lenL1, b_tupT, b_tupL, b_tupL1, b_lstT, b_lstL, b_lstL1, b_min, b_max, b_isi, b_isi1, b_repr, m_app, m_app1, m_appOk, m_popOk, m_lstB, v_set, v_set1, t_op, t_lop, i_N, i_nN, i_T, i_nT, i_F, i_nF, List.getElem?_cons_succ, List.getElem?_cons_zero, List.set_cons_succ, List.set_cons_zero, st_get, st_get0, st_set, st_set0, if_true, tidy_app, tidy_same, trim_pure, trim_pure0, Nat.zero_le, Nat.zero_add, Nat.reduceAdd, Nat.reduceSub, List.replicate, List.map_cons, List.map_nil, List.cons_append, List.nil_append, tabS_row ht2]
  have hE : ((refs S.length a.length).map fun d => match d with
        | .ref k => (match (tabS S (qL a b) (b.length + 1) a.length)[k]? with
          | some (.lst xs) => D.tup xs
          | _ => .non)
        | _ => .non) = (List.range (a.length + 1)).map fun i => D.tup (rl (qL a b) i (b.length + 1)) := by
    unfold refs
    rw [List.map_map]
    apply List.map_congr_left
    intro t ht
    have ht2 : t ≤ a.length := by
      have := List.mem_range.mp ht
      omega
    show (match (tabS S (qL a b) (b.length + 1) a.length)[rref S.length t]? with
          | some (.lst xs) => D.tup xs
          | _ => .non) = _
    rw [tabS_row ht2]
  rw [hE] at hL
  have hl : (refs S.length a.length).length ≤ line := by
    have := ga.hi
    have e : (refs S.length a.length).length = a.length + 1 := by unfold refs; rw [List.length_map, List.length_range]
    rw [e]
    have h2 : 61 ≤ line := by decide
    omega
  have hlc := l_lc1 (C := cx (n) S) (ρ := [some (tl a), some (tl b), none]) (own := [2]) (one := true) (tg := [2]) hl hL
  refine call_rt (d := tabD (qL a b) a.length b.length) (S1 := tabS S (qL a b) (b.length + 1) a.length ++ [.lst ((List.range (a.length + 1)).map fun i => D.tup (rl (qL a b) i (b.length + 1)))]) e0 rfl ?_ ?_
  · show evSs (cx (n) S) i_potential.body [some (tl a), some (tl b), none] S = _
    simp only [i_potential, l_var, l_var1, l_glo, l_glo1, l_cst, l_nil, l_cons, l_L1, l_L2, l_neg, l_neg1, l_not, l_not1, l_rev, l_rev1, l_lrg, l_lrg1, l_cdx, l_cdx1, l_isc, l_isc1, l_tdy, l_tdy1, l_bin, l_bin1, l_bin2, l_cmp, l_cmp1, l_cmp2, l_idx, l_idx1, l_idx2, l_chn, l_chn1, l_chn2, l_chn3, l_chn3f, l_chn4, l_ite, l_iteT, l_iteF, l_and, l_and1, l_and2, l_andG, l_andS, l_or, l_or1, l_or2, l_orG, l_orS, l_sli, l_sli1, l_sli2, l_sli3, l_tup, l_tup1, l_lst, l_lst1, l_call, l_call1, l_blt, l_blt1, l_mth, l_mth1, l_mth2, l_snil, l_scons, l_sqn, l_sqr, l_sqb, l_sqc, l_asg, l_asg1, l_asgs, l_asgs1, l_asgs2, l_asgs3, l_bT, l_b1, l_bn, l_bc, l_k0, l_k1, l_exp, l_exp1, l_ret, l_ret1, l_retN, l_brk, l_cnt, l_pss, l_if, l_ifT, l_ifF, l_sub, l_sub1, l_sub2, l_sub3, l_set, l_for, l_lc, l_seq, l_seqL, l_seqL1, l_seqT, l_seqS, l_fsh, l_rng1, l_rng11, l_enm, l_enmT, o_addI, o_subI, o_mulI, o_fdivI, o_modI, o_powI, o_addS, o_addT, o_addL, o_addL1, o_repL, o_repL1, o_repS, c_lt, c_le, c_gt, c_ge, c_eq, c_eq1, c_ne, c_ne1, c_in, c_nin, e_II, e_SS, d_II, d_SS, n_int, n_bl, x_tup, x_at, x_atS, x_str, x_lst, x_lst1, b_int, b_lenT, b_lenS, b_lenL, b_lenL1, b_tupT, b_tupL, b_tupL1, b_lstT, b_lstL, b_lstL1, b_min, b_max, b_isi, b_isi1, b_repr, m_app, m_app1, m_appOk, m_popOk, m_lstB, v_set, v_set1, t_op, t_lop, i_N, i_nN, i_T, i_nT, i_F, i_nF, List.getElem?_cons_succ, List.getElem?_cons_zero, List.set_cons_succ, List.set_cons_zero, st_get, st_get0, st_set, st_set0, if_true, tidy_app, tidy_same, trim_pure, trim_pure0, Nat.zero_le, Nat.zero_add, Nat.reduceAdd, Nat.reduceSub, List.replicate, List.map_cons, List.map_nil, List.cons_append, List.nil_append, cx_cl, e1, e2, f1, hlc, st_alloc0]
    rfl
  · exact trim_tab tabD_und
theorem potential_ok (ga : Goods a) (gb : Goods b) : cl (n + 4) 4 [tl a, tl b] S = .ok (tabD (qL a b) a.length b.length) S :=
  potential_m ga gb (check_ok ga gb) (costs_ok gb.hi ga.hi)
end
end Lw

set_option Elab.async false
set_option linter.all false
set_option autoImplicit false
set_option maxRecDepth 100000
set_option maxHeartbeats 4000000
/-! Kd: the plain law k85: the first script of the least cost. -/
namespace Lw
open Ev
def stepW : Nat → List Nat
  | 0 => [107, 101, 101, 112]
  | 1 => [100, 114, 111, 112]
  | _ => [116, 97, 107, 101]
def di : Nat → Nat
  | 0 => 1
  | 1 => 1
  | _ => 0
def dj : Nat → Nat
  | 0 => 1
  | 1 => 0
  | _ => 1
/-- the step from (i, j) -/
def kd (F : Nat → Nat → Int) (E : Nat → Nat → Bool) (m n i j : Nat) : Nat :=
  if i < m ∧ j < n ∧ E i j = true ∧ F (i + 1) (j + 1) = F i j then 0 else if i < m ∧ F (i + 1) j + 1 = F i j then 1 else 2
def go (F : Nat → Nat → Int) (E : Nat → Nat → Bool) (m n : Nat) : Nat → Nat → Nat → List Nat
  | 0, _, _ => []
  | k + 1, i, j => if i = m ∧ j = n then [] else kd F E m n i j :: go F E m n k (i + di (kd F E m n i j)) (j + dj (kd F E m n i j))
theorem tl_at {a : List (List Nat)} {i : Nat} {S : Sto} (h : i < a.length) : idxop (tl a) (.int (i : Nat)) S = .ok (.str (a.getD i [])) S := by
  show idxop (.tup (a.map .str)) _ S = _
  rw [x_tup, pyAt_nat _ _ (by rw [List.length_map]; exact h), List.getElem_map, List.getD_eq_getElem?_getD, List.getElem?_eq_getElem h]
  rfl
theorem rev_tl {a : List (List Nat)} {S : Sto} : revop (tl a) S = .ok (tl a.reverse) S := by
  show Res.ok (.tup (a.map D.str).reverse) S = _
  rw [← List.map_reverse]
  rfl
section
variable {N : Nat} {S : Sto} {a b : List (List Nat)}
/-- the cost from (i, j) by the table of what is left -/
def Fq (q : Nat → Nat → Bool) (m n i j : Nat) : Int := Er q (m - i) (n - j)
theorem tabG_tab {q : Nat → Nat → Bool} {m i : Nat} {l : Sto} : (tabS S q m i ++ l)[S.length + 1]? = some (.lst (refs S.length i)) := by
  rw [List.getElem?_append_left (by rw [tabS_len]; omega)]
  exact tabS_tab
theorem tabG_row {q : Nat → Nat → Bool} {m i t : Nat} {l : Sto} (h : t ≤ i) : (tabS S q m i ++ l)[rref S.length t]? = some (.lst (rl q t m)) := by
  rw [List.getElem?_append_left (by
    rw [tabS_len]
    unfold rref
    split <;> omega)]
  exact tabS_row h
theorem body_end {q : Nat → Nat → Bool} {m n t : Nat} {st : List D} {U : Sto} {z : D} :
    evSs (cx N S) b0_least_script [some (tl a), some (tl b), some (.ref (S.length + 1)), some (.int (m : Nat)), some (.int (n : Nat)), some (.int (m : Nat)), some (.int (n : Nat)), some z, some (.int (t : Nat)), none] U =
      .bk [some (tl a), some (tl b), some (.ref (S.length + 1)), some (.int (m : Nat)), some (.int (n : Nat)), some (.int (m : Nat)), some (.int (n : Nat)), some z, some (.int (t : Nat)), none] U := by
  simp only [b0_least_script, l_var, l_var1, l_glo, l_glo1, l_cst, l_nil, l_cons, l_L1, l_L2, l_neg, l_neg1, l_not, l_not1, l_rev, l_rev1, l_lrg, l_lrg1, l_cdx, l_cdx1, l_isc, l_isc1, l_tdy, l_tdy1, l_bin, l_bin1, l_bin2, l_cmp, l_cmp1, l_cmp2, l_idx, l_idx1, l_idx2, l_chn, l_chn1, l_chn2, l_chn3, l_chn3f, l_chn4, l_ite, l_iteT, l_iteF, l_and, l_and1, l_and2, l_andG, l_andS, l_or, l_or1, l_or2, l_orG, l_orS, l_sli, l_sli1, l_sli2, l_sli3, l_tup, l_tup1, l_lst, l_lst1, l_call, l_call1, l_blt, l_blt1, l_mth, l_mth1, l_mth2, l_snil, l_scons, l_sqn, l_sqr, l_sqb, l_sqc, l_asg, l_asg1, l_asgs, l_asgs1, l_asgs2, l_asgs3, l_bT, l_b1, l_bn, l_bc, l_k0, l_k1, l_exp, l_exp1, l_ret, l_ret1, l_retN, l_brk, l_cnt, l_pss, l_if, l_ifT, l_ifF, l_sub, l_sub1, l_sub2, l_sub3, l_set, l_for, l_lc, l_seq, l_seqL, l_seqL1, l_seqT, l_seqS, l_fsh, l_rng1, l_rng11, l_enm, l_enmT, o_addI, o_subI, o_mulI, o_fdivI, o_modI, o_powI, o_addS, o_addT, o_addL, o_addL1, o_repL, o_repL1, o_repS, c_lt, c_le, c_gt, c_ge, c_eq, c_eq1, c_ne, c_ne1, c_in, c_nin, e_II, e_SS, d_II, d_SS, n_int, n_bl, x_tup, x_at, x_atS, x_str, x_lst, x_lst1, b_int, b_lenT, b_lenS, b_lenL, b_lenL1, b_tupT, b_tupL, b_tupL1, b_lstT, b_lstL, b_lstL1, b_min, b_max, b_isi, b_isi1, b_repr, m_app, m_app1, m_appOk, m_popOk, m_lstB, v_set, v_set1, t_op, t_lop, i_N, i_nN, i_T, i_nT, i_F, i_nF, List.getElem?_cons_succ, List.getElem?_cons_zero, List.set_cons_succ, List.set_cons_zero, st_get, st_get0, st_set, st_set0, if_true, tidy_app, tidy_same, trim_pure, trim_pure0, Nat.zero_le, Nat.zero_add, Nat.reduceAdd, Nat.reduceSub, List.replicate, List.map_cons, List.map_nil, List.cons_append, List.nil_append, decide_true]
theorem body_step {q : Nat → Nat → Bool} {i j t : Nat} {st : List D} (hi : i ≤ a.length) (hj : j ≤ b.length) (hne : ¬ (i = a.length ∧ j = b.length)) (hst : st.length < 1000) :
    evSs (cx N S) b0_least_script [some (tl a), some (tl b), some (.ref (S.length + 1)), some (.int (a.length : Nat)), some (.int (b.length : Nat)), some (.int (i : Nat)), some (.int (j : Nat)), some (.ref (tabS S q (b.length + 1) a.length).length), some (.int (t : Nat)), none] (tabS S q (b.length + 1) a.length ++ [.lst st]) =
      .nx [some (tl a), some (tl b), some (.ref (S.length + 1)), some (.int (a.length : Nat)), some (.int (b.length : Nat)), some (.int ((i + di (kd (Fq q a.length b.length) (qL a b) a.length b.length i j) : Nat) : Int)), some (.int ((j + dj (kd (Fq q a.length b.length) (qL a b) a.length b.length i j) : Nat) : Int)), some (.ref (tabS S q (b.length + 1) a.length).length), some (.int (t : Nat)), some (.int (Fq q a.length b.length i j))]
        (tabS S q (b.length + 1) a.length ++ [.lst (st ++ [.str (stepW (kd (Fq q a.length b.length) (qL a b) a.length b.length i j))])]) := by
  have e1 : ((a.length : Nat) : Int) - ((i : Nat) : Int) = ((a.length - i : Nat) : Int) := by omega
  have e2 : ((b.length : Nat) : Int) - ((j : Nat) : Int) = ((b.length - j : Nat) : Int) := by omega
  have r1 := refs_at (s := S.length) (i := a.length) (t := a.length - i) (by omega)
  have r2 := rl_at (q := q) (i := a.length - i) (m := b.length + 1) (k := b.length - j) (by omega)
  have g1 := fun l => tabG_row (S := S) (q := q) (m := b.length + 1) (i := a.length) (t := a.length - i) (l := l) (by omega)
  have g0 := fun l => tabG_tab (S := S) (q := q) (m := b.length + 1) (i := a.length) (l := l)
  have na : ∀ (v : List Nat), ¬ (((tabS S q (b.length + 1) a.length).length < (cx N S).n0 ∧ (D.str v).pure = false) ∨ line ≤ st.length) := fun v h => by
    rcases h with ⟨_, h⟩ | h
    · cases h
    · have e : line = 16777216 := rfl
      omega
  have s0 : stepW 0 = [107, 101, 101, 112] := rfl
  have s1 : stepW 1 = [100, 114, 111, 112] := rfl
  have s2 : stepW 2 = [116, 97, 107, 101] := rfl
  have hF : Fq q a.length b.length i j = Er q (a.length - i) (b.length - j) := rfl
  by_cases h1 : i < a.length
  · have x1 : decide (((i : Nat) : Int) = ((a.length : Nat) : Int)) = false := decide_eq_false (by omega)
    have x2 : decide (((i : Nat) : Int) < ((a.length : Nat) : Int)) = true := decide_eq_true (by omega)
    have e3 : ((a.length - i : Nat) : Int) - 1 = ((a.length - (i + 1) : Nat) : Int) := by omega
    have r3 := refs_at (s := S.length) (i := a.length) (t := a.length - (i + 1)) (by omega)
    have r4 := rl_at (q := q) (i := a.length - (i + 1)) (m := b.length + 1) (k := b.length - j) (by omega)
    have g3 := fun l => tabG_row (S := S) (q := q) (m := b.length + 1) (i := a.length) (t := a.length - (i + 1)) (l := l) (by omega)
    have t1 := fun U => tl_at (a := a) (i := i) (S := U) h1
    by_cases h2 : j < b.length
    · have x3 : decide (((j : Nat) : Int) < ((b.length : Nat) : Int)) = true := decide_eq_true (by omega)
      have e4 : ((b.length - j : Nat) : Int) - 1 = ((b.length - (j + 1) : Nat) : Int) := by omega
      have r5 := rl_at (q := q) (i := a.length - (i + 1)) (m := b.length + 1) (k := b.length - (j + 1)) (by omega)
      have t2 := fun U => tl_at (a := b) (i := j) (S := U) h2
      by_cases h3 : a.getD i [] = b.getD j []
      · have x4 : decide (a.getD i [] = b.getD j []) = true := decide_eq_true h3
        by_cases h4 : Er q (a.length - (i + 1)) (b.length - (j + 1)) = Er q (a.length - i) (b.length - j)
        · have x5 : decide (Er q (a.length - (i + 1)) (b.length - (j + 1)) = Er q (a.length - i) (b.length - j)) = true := decide_eq_true h4
          have hk : kd (Fq q a.length b.length) (qL a b) a.length b.length i j = 0 := by unfold kd; rw [if_pos ⟨h1, h2, x4, h4⟩]
          rw [hk]
          simp only [b0_least_script, l_var, l_var1, l_glo, l_glo1, l_cst, l_nil, l_cons, l_L1, l_L2, l_neg, l_neg1, l_not, l_not1, l_rev, l_rev1, l_lrg, l_lrg1, l_cdx, l_cdx1, l_isc, l_isc1, l_tdy, l_tdy1, l_bin, l_bin1, l_bin2, l_cmp, l_cmp1, l_cmp2, l_idx, l_idx1, l_idx2, l_chn, l_chn1, l_chn2, l_chn3, l_chn3f, l_chn4, l_ite, l_iteT, l_iteF, l_and, l_and1, l_and2, l_andG, l_andS, l_or, l_or1, l_or2, l_orG, l_orS, l_sli, l_sli1, l_sli2, l_sli3, l_tup, l_tup1, l_lst, l_lst1, l_call, l_call1, l_blt, l_blt1, l_mth, l_mth1, l_mth2, l_snil, l_scons, l_sqn, l_sqr, l_sqb, l_sqc, l_asg, l_asg1, l_asgs, l_asgs1, l_asgs2, l_asgs3, l_bT, l_b1, l_bn, l_bc, l_k0, l_k1, l_exp, l_exp1, l_ret, l_ret1, l_retN, l_brk, l_cnt, l_pss, l_if, l_ifT, l_ifF, l_sub, l_sub1, l_sub2, l_sub3, l_set, l_for, l_lc, l_seq, l_seqL, l_seqL1, l_seqT, l_seqS, l_fsh, l_rng1, l_rng11, l_enm, l_enmT, o_addI, o_subI, o_mulI, o_fdivI, o_modI, o_powI, o_addS, o_addT, o_addL, o_addL1, o_repL, o_repL1, o_repS, c_lt, c_le, c_gt, c_ge, c_eq, c_eq1, c_ne, c_ne1, c_in, c_nin, e_II, e_SS, d_II, d_SS, n_int, n_bl, x_tup, x_at, x_atS, x_str, x_lst, x_lst1, b_int, b_lenT, b_lenS, b_lenL, b_lenL1, b_tupT, b_tupL, b_tupL1, b_lstT, b_lstL, b_lstL1, b_min, b_max, b_isi, b_isi1, b_repr, m_app, m_app1, m_appOk, m_popOk, m_lstB, v_set, v_set1, t_op, t_lop, i_N, i_nN, i_T, i_nT, i_F, i_nF, List.getElem?_cons_succ, List.getElem?_cons_zero, List.set_cons_succ, List.set_cons_zero, st_get, st_get0, st_set, st_set0, if_true, tidy_app, tidy_same, trim_pure, trim_pure0, Nat.zero_le, Nat.zero_add, Nat.reduceAdd, Nat.reduceSub, List.replicate, List.map_cons, List.map_nil, List.cons_append, List.nil_append, g0, g1, g3, e1, e2, e3, e4, r1, r2, r3, r4, r5, t1, t2, x1, x2, x3, x4, x5, na, if_false]
          rfl
        · have x5 : decide (Er q (a.length - (i + 1)) (b.length - (j + 1)) = Er q (a.length - i) (b.length - j)) = false := decide_eq_false h4
          by_cases h5 : Er q (a.length - (i + 1)) (b.length - j) + 1 = Er q (a.length - i) (b.length - j)
          · have x6 : decide (Er q (a.length - (i + 1)) (b.length - j) + 1 = Er q (a.length - i) (b.length - j)) = true := decide_eq_true h5
            have hk : kd (Fq q a.length b.length) (qL a b) a.length b.length i j = 1 := by
              unfold kd
              rw [if_neg fun h => h4 h.2.2.2, if_pos ⟨h1, h5⟩]
            rw [hk]
            simp only [b0_least_script, l_var, l_var1, l_glo, l_glo1, l_cst, l_nil, l_cons, l_L1, l_L2, l_neg, l_neg1, l_not, l_not1, l_rev, l_rev1, l_lrg, l_lrg1, l_cdx, l_cdx1, l_isc, l_isc1, l_tdy, l_tdy1, l_bin, l_bin1, l_bin2, l_cmp, l_cmp1, l_cmp2, l_idx, l_idx1, l_idx2, l_chn, l_chn1, l_chn2, l_chn3, l_chn3f, l_chn4, l_ite, l_iteT, l_iteF, l_and, l_and1, l_and2, l_andG, l_andS, l_or, l_or1, l_or2, l_orG, l_orS, l_sli, l_sli1, l_sli2, l_sli3, l_tup, l_tup1, l_lst, l_lst1, l_call, l_call1, l_blt, l_blt1, l_mth, l_mth1, l_mth2, l_snil, l_scons, l_sqn, l_sqr, l_sqb, l_sqc, l_asg, l_asg1, l_asgs, l_asgs1, l_asgs2, l_asgs3, l_bT, l_b1, l_bn, l_bc, l_k0, l_k1, l_exp, l_exp1, l_ret, l_ret1, l_retN, l_brk, l_cnt, l_pss, l_if, l_ifT, l_ifF, l_sub, l_sub1, l_sub2, l_sub3, l_set, l_for, l_lc, l_seq, l_seqL, l_seqL1, l_seqT, l_seqS, l_fsh, l_rng1, l_rng11, l_enm, l_enmT, o_addI, o_subI, o_mulI, o_fdivI, o_modI, o_powI, o_addS, o_addT, o_addL, o_addL1, o_repL, o_repL1, o_repS, c_lt, c_le, c_gt, c_ge, c_eq, c_eq1, c_ne, c_ne1, c_in, c_nin, e_II, e_SS, d_II, d_SS, n_int, n_bl, x_tup, x_at, x_atS, x_str, x_lst, x_lst1, b_int, b_lenT, b_lenS, b_lenL, b_lenL1, b_tupT, b_tupL, b_tupL1, b_lstT, b_lstL, b_lstL1, b_min, b_max, b_isi, b_isi1, b_repr, m_app, m_app1, m_appOk, m_popOk, m_lstB, v_set, v_set1, t_op, t_lop, i_N, i_nN, i_T, i_nT, i_F, i_nF, List.getElem?_cons_succ, List.getElem?_cons_zero, List.set_cons_succ, List.set_cons_zero, st_get, st_get0, st_set, st_set0, if_true, tidy_app, tidy_same, trim_pure, trim_pure0, Nat.zero_le, Nat.zero_add, Nat.reduceAdd, Nat.reduceSub, List.replicate, List.map_cons, List.map_nil, List.cons_append, List.nil_append, g0, g1, e1, e2, r1, r2, x1, x2, na, if_false, g3, e3, r3, r4, e4, r5, t1, t2, x3, x4, x5, x6]
            rfl
          · have x6 : decide (Er q (a.length - (i + 1)) (b.length - j) + 1 = Er q (a.length - i) (b.length - j)) = false := decide_eq_false h5
            have hk : kd (Fq q a.length b.length) (qL a b) a.length b.length i j = 2 := by
              unfold kd
              rw [if_neg fun h => h4 h.2.2.2, if_neg fun h => h5 h.2]
            rw [hk]
            simp only [b0_least_script, l_var, l_var1, l_glo, l_glo1, l_cst, l_nil, l_cons, l_L1, l_L2, l_neg, l_neg1, l_not, l_not1, l_rev, l_rev1, l_lrg, l_lrg1, l_cdx, l_cdx1, l_isc, l_isc1, l_tdy, l_tdy1, l_bin, l_bin1, l_bin2, l_cmp, l_cmp1, l_cmp2, l_idx, l_idx1, l_idx2, l_chn, l_chn1, l_chn2, l_chn3, l_chn3f, l_chn4, l_ite, l_iteT, l_iteF, l_and, l_and1, l_and2, l_andG, l_andS, l_or, l_or1, l_or2, l_orG, l_orS, l_sli, l_sli1, l_sli2, l_sli3, l_tup, l_tup1, l_lst, l_lst1, l_call, l_call1, l_blt, l_blt1, l_mth, l_mth1, l_mth2, l_snil, l_scons, l_sqn, l_sqr, l_sqb, l_sqc, l_asg, l_asg1, l_asgs, l_asgs1, l_asgs2, l_asgs3, l_bT, l_b1, l_bn, l_bc, l_k0, l_k1, l_exp, l_exp1, l_ret, l_ret1, l_retN, l_brk, l_cnt, l_pss, l_if, l_ifT, l_ifF, l_sub, l_sub1, l_sub2, l_sub3, l_set, l_for, l_lc, l_seq, l_seqL, l_seqL1, l_seqT, l_seqS, l_fsh, l_rng1, l_rng11, l_enm, l_enmT, o_addI, o_subI, o_mulI, o_fdivI, o_modI, o_powI, o_addS, o_addT, o_addL, o_addL1, o_repL, o_repL1, o_repS, c_lt, c_le, c_gt, c_ge, c_eq, c_eq1, c_ne, c_ne1, c_in, c_nin, e_II, e_SS, d_II, d_SS, n_int, n_bl, x_tup, x_at, x_atS, x_str, x_lst, x_lst1, b_int, b_lenT, b_lenS, b_lenL, b_lenL1, b_tupT, b_tupL, b_tupL1, b_lstT, b_lstL, b_lstL1, b_min, b_max, b_isi, b_isi1, b_repr, m_app, m_app1, m_appOk, m_popOk, m_lstB, v_set, v_set1, t_op, t_lop, i_N, i_nN, i_T, i_nT, i_F, i_nF, List.getElem?_cons_succ, List.getElem?_cons_zero, List.set_cons_succ, List.set_cons_zero, st_get, st_get0, st_set, st_set0, if_true, tidy_app, tidy_same, trim_pure, trim_pure0, Nat.zero_le, Nat.zero_add, Nat.reduceAdd, Nat.reduceSub, List.replicate, List.map_cons, List.map_nil, List.cons_append, List.nil_append, g0, g1, e1, e2, r1, r2, x1, x2, na, if_false, g3, e3, r3, r4, e4, r5, t1, t2, x3, x4, x5, x6]
            rfl
      · have x4 : decide (a.getD i [] = b.getD j []) = false := decide_eq_false h3
        by_cases h5 : Er q (a.length - (i + 1)) (b.length - j) + 1 = Er q (a.length - i) (b.length - j)
        · have x6 : decide (Er q (a.length - (i + 1)) (b.length - j) + 1 = Er q (a.length - i) (b.length - j)) = true := decide_eq_true h5
          have hk : kd (Fq q a.length b.length) (qL a b) a.length b.length i j = 1 := by
            unfold kd
            rw [if_neg fun h => h3 (of_decide_eq_true h.2.2.1), if_pos ⟨h1, h5⟩]
          rw [hk]
          simp only [b0_least_script, l_var, l_var1, l_glo, l_glo1, l_cst, l_nil, l_cons, l_L1, l_L2, l_neg, l_neg1, l_not, l_not1, l_rev, l_rev1, l_lrg, l_lrg1, l_cdx, l_cdx1, l_isc, l_isc1, l_tdy, l_tdy1, l_bin, l_bin1, l_bin2, l_cmp, l_cmp1, l_cmp2, l_idx, l_idx1, l_idx2, l_chn, l_chn1, l_chn2, l_chn3, l_chn3f, l_chn4, l_ite, l_iteT, l_iteF, l_and, l_and1, l_and2, l_andG, l_andS, l_or, l_or1, l_or2, l_orG, l_orS, l_sli, l_sli1, l_sli2, l_sli3, l_tup, l_tup1, l_lst, l_lst1, l_call, l_call1, l_blt, l_blt1, l_mth, l_mth1, l_mth2, l_snil, l_scons, l_sqn, l_sqr, l_sqb, l_sqc, l_asg, l_asg1, l_asgs, l_asgs1, l_asgs2, l_asgs3, l_bT, l_b1, l_bn, l_bc, l_k0, l_k1, l_exp, l_exp1, l_ret, l_ret1, l_retN, l_brk, l_cnt, l_pss, l_if, l_ifT, l_ifF, l_sub, l_sub1, l_sub2, l_sub3, l_set, l_for, l_lc, l_seq, l_seqL, l_seqL1, l_seqT, l_seqS, l_fsh, l_rng1, l_rng11, l_enm, l_enmT, o_addI, o_subI, o_mulI, o_fdivI, o_modI, o_powI, o_addS, o_addT, o_addL, o_addL1, o_repL, o_repL1, o_repS, c_lt, c_le, c_gt, c_ge, c_eq, c_eq1, c_ne, c_ne1, c_in, c_nin, e_II, e_SS, d_II, d_SS, n_int, n_bl, x_tup, x_at, x_atS, x_str, x_lst, x_lst1, b_int, b_lenT, b_lenS, b_lenL, b_lenL1, b_tupT, b_tupL, b_tupL1, b_lstT, b_lstL, b_lstL1, b_min, b_max, b_isi, b_isi1, b_repr, m_app, m_app1, m_appOk, m_popOk, m_lstB, v_set, v_set1, t_op, t_lop, i_N, i_nN, i_T, i_nT, i_F, i_nF, List.getElem?_cons_succ, List.getElem?_cons_zero, List.set_cons_succ, List.set_cons_zero, st_get, st_get0, st_set, st_set0, if_true, tidy_app, tidy_same, trim_pure, trim_pure0, Nat.zero_le, Nat.zero_add, Nat.reduceAdd, Nat.reduceSub, List.replicate, List.map_cons, List.map_nil, List.cons_append, List.nil_append, g0, g1, e1, e2, r1, r2, x1, x2, na, if_false, g3, e3, r3, r4, t1, t2, x3, x4, x6]
          rfl
        · have x6 : decide (Er q (a.length - (i + 1)) (b.length - j) + 1 = Er q (a.length - i) (b.length - j)) = false := decide_eq_false h5
          have hk : kd (Fq q a.length b.length) (qL a b) a.length b.length i j = 2 := by
            unfold kd
            rw [if_neg fun h => h3 (of_decide_eq_true h.2.2.1), if_neg fun h => h5 h.2]
          rw [hk]
          simp only [b0_least_script, l_var, l_var1, l_glo, l_glo1, l_cst, l_nil, l_cons, l_L1, l_L2, l_neg, l_neg1, l_not, l_not1, l_rev, l_rev1, l_lrg, l_lrg1, l_cdx, l_cdx1, l_isc, l_isc1, l_tdy, l_tdy1, l_bin, l_bin1, l_bin2, l_cmp, l_cmp1, l_cmp2, l_idx, l_idx1, l_idx2, l_chn, l_chn1, l_chn2, l_chn3, l_chn3f, l_chn4, l_ite, l_iteT, l_iteF, l_and, l_and1, l_and2, l_andG, l_andS, l_or, l_or1, l_or2, l_orG, l_orS, l_sli, l_sli1, l_sli2, l_sli3, l_tup, l_tup1, l_lst, l_lst1, l_call, l_call1, l_blt, l_blt1, l_mth, l_mth1, l_mth2, l_snil, l_scons, l_sqn, l_sqr, l_sqb, l_sqc, l_asg, l_asg1, l_asgs, l_asgs1, l_asgs2, l_asgs3, l_bT, l_b1, l_bn, l_bc, l_k0, l_k1, l_exp, l_exp1, l_ret, l_ret1, l_retN, l_brk, l_cnt, l_pss, l_if, l_ifT, l_ifF, l_sub, l_sub1, l_sub2, l_sub3, l_set, l_for, l_lc, l_seq, l_seqL, l_seqL1, l_seqT, l_seqS, l_fsh, l_rng1, l_rng11, l_enm, l_enmT, o_addI, o_subI, o_mulI, o_fdivI, o_modI, o_powI, o_addS, o_addT, o_addL, o_addL1, o_repL, o_repL1, o_repS, c_lt, c_le, c_gt, c_ge, c_eq, c_eq1, c_ne, c_ne1, c_in, c_nin, e_II, e_SS, d_II, d_SS, n_int, n_bl, x_tup, x_at, x_atS, x_str, x_lst, x_lst1, b_int, b_lenT, b_lenS, b_lenL, b_lenL1, b_tupT, b_tupL, b_tupL1, b_lstT, b_lstL, b_lstL1, b_min, b_max, b_isi, b_isi1, b_repr, m_app, m_app1, m_appOk, m_popOk, m_lstB, v_set, v_set1, t_op, t_lop, i_N, i_nN, i_T, i_nT, i_F, i_nF, List.getElem?_cons_succ, List.getElem?_cons_zero, List.set_cons_succ, List.set_cons_zero, st_get, st_get0, st_set, st_set0, if_true, tidy_app, tidy_same, trim_pure, trim_pure0, Nat.zero_le, Nat.zero_add, Nat.reduceAdd, Nat.reduceSub, List.replicate, List.map_cons, List.map_nil, List.cons_append, List.nil_append, g0, g1, e1, e2, r1, r2, x1, x2, na, if_false, g3, e3, r3, r4, t1, t2, x3, x4, x6]
          rfl
    · have x3 : decide (((j : Nat) : Int) < ((b.length : Nat) : Int)) = false := decide_eq_false (by omega)
      by_cases h5 : Er q (a.length - (i + 1)) (b.length - j) + 1 = Er q (a.length - i) (b.length - j)
      · have x6 : decide (Er q (a.length - (i + 1)) (b.length - j) + 1 = Er q (a.length - i) (b.length - j)) = true := decide_eq_true h5
        have hk : kd (Fq q a.length b.length) (qL a b) a.length b.length i j = 1 := by
          unfold kd
          rw [if_neg fun h => h2 h.2.1, if_pos ⟨h1, h5⟩]
        rw [hk]
        simp only [b0_least_script, l_var, l_var1, l_glo, l_glo1, l_cst, l_nil, l_cons, l_L1, l_L2, l_neg, l_neg1, l_not, l_not1, l_rev, l_rev1, l_lrg, l_lrg1, l_cdx, l_cdx1, l_isc, l_isc1, l_tdy, l_tdy1, l_bin, l_bin1, l_bin2, l_cmp, l_cmp1, l_cmp2, l_idx, l_idx1, l_idx2, l_chn, l_chn1, l_chn2, l_chn3, l_chn3f, l_chn4, l_ite, l_iteT, l_iteF, l_and, l_and1, l_and2, l_andG, l_andS, l_or, l_or1, l_or2, l_orG, l_orS, l_sli, l_sli1, l_sli2, l_sli3, l_tup, l_tup1, l_lst, l_lst1, l_call, l_call1, l_blt, l_blt1, l_mth, l_mth1, l_mth2, l_snil, l_scons, l_sqn, l_sqr, l_sqb, l_sqc, l_asg, l_asg1, l_asgs, l_asgs1, l_asgs2, l_asgs3, l_bT, l_b1, l_bn, l_bc, l_k0, l_k1, l_exp, l_exp1, l_ret, l_ret1, l_retN, l_brk, l_cnt, l_pss, l_if, l_ifT, l_ifF, l_sub, l_sub1, l_sub2, l_sub3, l_set, l_for, l_lc, l_seq, l_seqL, l_seqL1, l_seqT, l_seqS, l_fsh, l_rng1, l_rng11, l_enm, l_enmT, o_addI, o_subI, o_mulI, o_fdivI, o_modI, o_powI, o_addS, o_addT, o_addL, o_addL1, o_repL, o_repL1, o_repS, c_lt, c_le, c_gt, c_ge, c_eq, c_eq1, c_ne, c_ne1, c_in, c_nin, e_II, e_SS, d_II, d_SS, n_int, n_bl, x_tup, x_at, x_atS, x_str, x_lst, x_lst1, b_int, b_lenT, b_lenS, b_lenL, b_lenL1, b_tupT, b_tupL, b_tupL1, b_lstT, b_lstL, b_lstL1, b_min, b_max, b_isi, b_isi1, b_repr, m_app, m_app1, m_appOk, m_popOk, m_lstB, v_set, v_set1, t_op, t_lop, i_N, i_nN, i_T, i_nT, i_F, i_nF, List.getElem?_cons_succ, List.getElem?_cons_zero, List.set_cons_succ, List.set_cons_zero, st_get, st_get0, st_set, st_set0, if_true, tidy_app, tidy_same, trim_pure, trim_pure0, Nat.zero_le, Nat.zero_add, Nat.reduceAdd, Nat.reduceSub, List.replicate, List.map_cons, List.map_nil, List.cons_append, List.nil_append, g0, g1, e1, e2, r1, r2, x1, x2, na, if_false, g3, e3, r3, r4, x3, x6]
        rfl
      · have x6 : decide (Er q (a.length - (i + 1)) (b.length - j) + 1 = Er q (a.length - i) (b.length - j)) = false := decide_eq_false h5
        have hk : kd (Fq q a.length b.length) (qL a b) a.length b.length i j = 2 := by
          unfold kd
          rw [if_neg fun h => h2 h.2.1, if_neg fun h => h5 h.2]
        rw [hk]
        simp only [b0_least_script, l_var, l_var1, l_glo, l_glo1, l_cst, l_nil, l_cons, l_L1, l_L2, l_neg, l_neg1, l_not, l_not1, l_rev, l_rev1, l_lrg, l_lrg1, l_cdx, l_cdx1, l_isc, l_isc1, l_tdy, l_tdy1, l_bin, l_bin1, l_bin2, l_cmp, l_cmp1, l_cmp2, l_idx, l_idx1, l_idx2, l_chn, l_chn1, l_chn2, l_chn3, l_chn3f, l_chn4, l_ite, l_iteT, l_iteF, l_and, l_and1, l_and2, l_andG, l_andS, l_or, l_or1, l_or2, l_orG, l_orS, l_sli, l_sli1, l_sli2, l_sli3, l_tup, l_tup1, l_lst, l_lst1, l_call, l_call1, l_blt, l_blt1, l_mth, l_mth1, l_mth2, l_snil, l_scons, l_sqn, l_sqr, l_sqb, l_sqc, l_asg, l_asg1, l_asgs, l_asgs1, l_asgs2, l_asgs3, l_bT, l_b1, l_bn, l_bc, l_k0, l_k1, l_exp, l_exp1, l_ret, l_ret1, l_retN, l_brk, l_cnt, l_pss, l_if, l_ifT, l_ifF, l_sub, l_sub1, l_sub2, l_sub3, l_set, l_for, l_lc, l_seq, l_seqL, l_seqL1, l_seqT, l_seqS, l_fsh, l_rng1, l_rng11, l_enm, l_enmT, o_addI, o_subI, o_mulI, o_fdivI, o_modI, o_powI, o_addS, o_addT, o_addL, o_addL1, o_repL, o_repL1, o_repS, c_lt, c_le, c_gt, c_ge, c_eq, c_eq1, c_ne, c_ne1, c_in, c_nin, e_II, e_SS, d_II, d_SS, n_int, n_bl, x_tup, x_at, x_atS, x_str, x_lst, x_lst1, b_int, b_lenT, b_lenS, b_lenL, b_lenL1, b_tupT, b_tupL, b_tupL1, b_lstT, b_lstL, b_lstL1, b_min, b_max, b_isi, b_isi1, b_repr, m_app, m_app1, m_appOk, m_popOk, m_lstB, v_set, v_set1, t_op, t_lop, i_N, i_nN, i_T, i_nT, i_F, i_nF, List.getElem?_cons_succ, List.getElem?_cons_zero, List.set_cons_succ, List.set_cons_zero, st_get, st_get0, st_set, st_set0, if_true, tidy_app, tidy_same, trim_pure, trim_pure0, Nat.zero_le, Nat.zero_add, Nat.reduceAdd, Nat.reduceSub, List.replicate, List.map_cons, List.map_nil, List.cons_append, List.nil_append, g0, g1, e1, e2, r1, r2, x1, x2, na, if_false, g3, e3, r3, r4, x3, x6]
        rfl
  · have x1 : decide (((i : Nat) : Int) = ((a.length : Nat) : Int)) = true := decide_eq_true (by omega)
    have x3 : decide (((j : Nat) : Int) = ((b.length : Nat) : Int)) = false := decide_eq_false (by omega)
    have x2 : decide (((i : Nat) : Int) < ((a.length : Nat) : Int)) = false := decide_eq_false (by omega)
    have hk : kd (Fq q a.length b.length) (qL a b) a.length b.length i j = 2 := by
      unfold kd
      rw [if_neg fun h => h1 h.1, if_neg fun h => h1 h.1]
    rw [hk]
    simp only [b0_least_script, l_var, l_var1, l_glo, l_glo1, l_cst, l_nil, l_cons, l_L1, l_L2, l_neg, l_neg1, l_not, l_not1, l_rev, l_rev1, l_lrg, l_lrg1, l_cdx, l_cdx1, l_isc, l_isc1, l_tdy, l_tdy1, l_bin, l_bin1, l_bin2, l_cmp, l_cmp1, l_cmp2, l_idx, l_idx1, l_idx2, l_chn, l_chn1, l_chn2, l_chn3, l_chn3f, l_chn4, l_ite, l_iteT, l_iteF, l_and, l_and1, l_and2, l_andG, l_andS, l_or, l_or1, l_or2, l_orG, l_orS, l_sli, l_sli1, l_sli2, l_sli3, l_tup, l_tup1, l_lst, l_lst1, l_call, l_call1, l_blt, l_blt1, l_mth, l_mth1, l_mth2, l_snil, l_scons, l_sqn, l_sqr, l_sqb, l_sqc, l_asg, l_asg1, l_asgs, l_asgs1, l_asgs2, l_asgs3, l_bT, l_b1, l_bn, l_bc, l_k0, l_k1, l_exp, l_exp1, l_ret, l_ret1, l_retN, l_brk, l_cnt, l_pss, l_if, l_ifT, l_ifF, l_sub, l_sub1, l_sub2, l_sub3, l_set, l_for, l_lc, l_seq, l_seqL, l_seqL1, l_seqT, l_seqS, l_fsh, l_rng1, l_rng11, l_enm, l_enmT, o_addI, o_subI, o_mulI, o_fdivI, o_modI, o_powI, o_addS, o_addT, o_addL, o_addL1, o_repL, o_repL1, o_repS, c_lt, c_le, c_gt, c_ge, c_eq, c_eq1, c_ne, c_ne1, c_in, c_nin, e_II, e_SS, d_II, d_SS, n_int, n_bl, x_tup, x_at, x_atS, x_str, x_lst, x_lst1, b_int, b_lenT, b_lenS, b_lenL, b_lenL1, b_tupT, b_tupL, b_tupL1, b_lstT, b_lstL, b_lstL1, b_min, b_max, b_isi, b_isi1, b_repr, m_app, m_app1, m_appOk, m_popOk, m_lstB, v_set, v_set1, t_op, t_lop, i_N, i_nN, i_T, i_nT, i_F, i_nF, List.getElem?_cons_succ, List.getElem?_cons_zero, List.set_cons_succ, List.set_cons_zero, st_get, st_get0, st_set, st_set0, if_true, tidy_app, tidy_same, trim_pure, trim_pure0, Nat.zero_le, Nat.zero_add, Nat.reduceAdd, Nat.reduceSub, List.replicate, List.map_cons, List.map_nil, List.cons_append, List.nil_append, g0, g1, e1, e2, r1, r2, x1, x2, na, if_false, x3]
    rfl
end
end Lw

set_option Elab.async false
set_option linter.all false
set_option autoImplicit false
set_option maxRecDepth 100000
set_option maxHeartbeats 4000000
/-! Ke: the plain law k85: least_script. -/
namespace Lw
open Ev
theorem go_succ {F : Nat → Nat → Int} {E : Nat → Nat → Bool} {m n k i j : Nat} : go F E m n (k + 1) i j = if i = m ∧ j = n then [] else kd F E m n i j :: go F E m n k (i + di (kd F E m n i j)) (j + dj (kd F E m n i j)) := rfl
theorem kd_bound {F : Nat → Nat → Int} {E : Nat → Nat → Bool} {m n i j : Nat} (hF : ∀ i, i < m → F (i + 1) n + 1 = F i n) (hi : i ≤ m) (hj : j ≤ n) (hne : ¬ (i = m ∧ j = n)) :
    i + di (kd F E m n i j) ≤ m ∧ j + dj (kd F E m n i j) ≤ n := by
  unfold kd
  split
  · rename_i h
    show i + 1 ≤ m ∧ j + 1 ≤ n
    omega
  · split
    · rename_i h
      show i + 1 ≤ m ∧ j + 0 ≤ n
      omega
    · rename_i h1 h2
      show i + 0 ≤ m ∧ j + 1 ≤ n
      by_cases hj2 : j = n
      · subst hj2
        have hi2 : i < m := by omega
        exact absurd ⟨hi2, hF i hi2⟩ h2
      · omega
theorem Fq_n {q : Nat → Nat → Bool} {m n i : Nat} (h : i < m) : Fq q m n (i + 1) n + 1 = Fq q m n i n := by
  unfold Fq
  rw [Nat.sub_self]
  have e : m - i = (m - (i + 1)) + 1 := by omega
  have z : ∀ k, Er q k 0 = (k : Int) := fun k => by cases k <;> rfl
  rw [z, z]
  omega
def stepsD (F : Nat → Nat → Int) (E : Nat → Nat → Bool) (m n : Nat) : List D := (go F E m n (m + n) 0 0).map fun k => .str (stepW k)
def leastD (F : Nat → Nat → Int) (E : Nat → Nat → Bool) (m n : Nat) : D := .tup [.tup (stepsD F E m n), .int (F 0 0)]
theorem go_len {F : Nat → Nat → Int} {E : Nat → Nat → Bool} {m n : Nat} : ∀ k i j, (go F E m n k i j).length ≤ k
  | 0, _, _ => Nat.le_refl 0
  | k + 1, i, j => by
    unfold go
    split
    · exact Nat.zero_le _
    · rw [List.length_cons]
      exact Nat.succ_le_succ (go_len k _ _)
theorem leastD_und {k : Nat} {F : Nat → Nat → Int} {E : Nat → Nat → Bool} {m n : Nat} : D.und k (leastD F E m n) = true := by
  simp only [leastD, D.und, D.unds, Bool.and_true]
  exact unds_map fun _ _ => rfl
section
variable {N : Nat} {S : Sto} {a b : List (List Nat)}
theorem least_loop {q : Nat → Nat → Bool} (hm : a.length ≤ 60) (hn : b.length ≤ 60) :
    ∃ x5 x6, forL [] (tgF true [8]) [8, 9] (bodyF (cx N S) b0_least_script) (rngL 0 (a.length + b.length)) [some (tl a), some (tl b), some (.ref (S.length + 1)), some (.int (a.length : Nat)), some (.int (b.length : Nat)), some (.int 0), some (.int 0), some (.ref (tabS S q (b.length + 1) a.length).length), none, none] (tabS S q (b.length + 1) a.length ++ [.lst []]) =
      .nx [some (tl a), some (tl b), some (.ref (S.length + 1)), some (.int (a.length : Nat)), some (.int (b.length : Nat)), x5, x6, some (.ref (tabS S q (b.length + 1) a.length).length), none, none] (tabS S q (b.length + 1) a.length ++ [.lst (stepsD (Fq q a.length b.length) (qL a b) a.length b.length)]) := by
  refine forL_any (w := []) (P := fun t ρ U => ∃ i j pre o8 o9, i ≤ a.length ∧ j ≤ b.length ∧ pre.length = t ∧ t ≤ a.length + b.length ∧ go (Fq q a.length b.length) (qL a b) a.length b.length (a.length + b.length) 0 0 = pre ++ go (Fq q a.length b.length) (qL a b) a.length b.length (a.length + b.length - t) i j ∧
      ρ = [some (tl a), some (tl b), some (.ref (S.length + 1)), some (.int (a.length : Nat)), some (.int (b.length : Nat)), some (.int (i : Nat)), some (.int (j : Nat)), some (.ref (tabS S q (b.length + 1) a.length).length), o8, o9] ∧ U = tabS S q (b.length + 1) a.length ++ [.lst (pre.map fun k => .str (stepW k))])
    (W := fun fl => ∃ x5 x6, fl = .nx [some (tl a), some (tl b), some (.ref (S.length + 1)), some (.int (a.length : Nat)), some (.int (b.length : Nat)), x5, x6, some (.ref (tabS S q (b.length + 1) a.length).length), none, none] (tabS S q (b.length + 1) a.length ++ [.lst (stepsD (Fq q a.length b.length) (qL a b) a.length b.length)]))
    ⟨0, 0, [], none, none, Nat.zero_le _, Nat.zero_le _, rfl, Nat.zero_le _, rfl, rfl, rfl⟩ (fun _ _ _ _ => rfl) (fun t x ρ U hx h => ?_) (fun ρ U h => ?_)
  · obtain ⟨i, j, pre, o8, o9, hi, hj, hl, ht, hg, rfl, rfl⟩ := h
    have ht2 : t < a.length + b.length := by
      have := (List.getElem?_eq_some_iff.mp hx).1
      rw [rngL_ints, List.length_map, List.length_range] at this
      exact this
    have hx' : x = .int (t : Nat) := by
      rw [rngL_ints, List.getElem?_map, List.getElem?_range ht2] at hx
      simp at hx
      exact hx.symm
    subst hx'
    obtain ⟨k, hk⟩ : ∃ k, a.length + b.length - t = k + 1 := ⟨a.length + b.length - t - 1, by omega⟩
    rw [hk, go_succ (k := k)] at hg
    refine ⟨_, rfl, ?_⟩
    by_cases hc : i = a.length ∧ j = b.length
    · obtain ⟨rfl, rfl⟩ := hc
      rw [if_pos ⟨rfl, rfl⟩, List.append_nil] at hg
      refine .inr (.inl ⟨_, _, body_end (q := q) (st := []), some (.int (a.length : Nat)), some (.int (b.length : Nat)), ?_⟩)
      unfold stepsD
      rw [hg]
      rfl
    · rw [if_neg hc] at hg
      obtain ⟨b1, b2⟩ := kd_bound (E := qL a b) (fun i h => Fq_n (q := q) h) hi hj hc
      refine .inl ⟨_, _, .inl (body_step hi hj hc (by rw [List.length_map]; omega)), _, _, pre ++ [kd (Fq q a.length b.length) (qL a b) a.length b.length i j], _, _, b1, b2, by simp [hl], ht2, ?_, rfl, ?_⟩
      · have e : a.length + b.length - (t + 1) = k := by omega
        rw [hg, e, List.append_assoc]
        rfl
      · rw [List.map_append]
        rfl
  · obtain ⟨i, j, pre, o8, o9, hi, hj, hl, ht, hg, rfl, rfl⟩ := h
    rw [rngL_ints, List.length_map, List.length_range, Nat.sub_self] at hg
    have hg2 : go (Fq q a.length b.length) (qL a b) a.length b.length (a.length + b.length) 0 0 = pre := by
      rw [hg]
      exact List.append_nil _
    refine ⟨some (.int (i : Nat)), some (.int (j : Nat)), ?_⟩
    unfold stepsD
    rw [hg2]
    rfl
theorem least_m {q : Nat → Nat → Bool} (ga : Goods a) (gb : Goods b) (e1 : cl N 2 [tl a, tl b] S = .ok .non S) (e2 : cl N 3 [tl a.reverse, tl b.reverse] S = .ok (.ref (S.length + 1)) (tabS S q (b.length + 1) a.length)) :
    cl (N + 1) 5 [tl a, tl b] S = .ok (leastD (Fq q a.length b.length) (qL a b) a.length b.length) S := by
  have e0 : L.prog[5]? = some i_least_script := rfl
  have hm := ga.hi
  have hn := gb.hi
  obtain ⟨x5, x6, q1⟩ := least_loop (N := N) (S := S) (a := a) (b := b) (q := q) hm hn
  simp only [cl] at e1 e2
  have td : tidy S (.ref (S.length + 1)) (tabS S q (b.length + 1) a.length) = .ok (.ref (S.length + 1)) (tabS S q (b.length + 1) a.length) := by
    unfold tabS
    rw [tidy_app]
    exact trim_keep (k := 1) rfl refs_und
  have l0 : (([] : List D).length ≤ line) = True := by simp
  have hr : (-4611686018427387904 ≤ ((a.length : Nat) : Int) + ((b.length : Nat) : Int) ∧ ((a.length : Nat) : Int) + ((b.length : Nat) : Int) < 4611686018427387904) = True := by
    simp
    omega
  have hr2 : (((a.length : Nat) : Int) + ((b.length : Nat) : Int)).toNat = a.length + b.length := by omega
  have g0 := fun l => tabG_tab (S := S) (q := q) (m := b.length + 1) (i := a.length) (l := l)
  have g1 := fun l => tabG_row (S := S) (q := q) (m := b.length + 1) (i := a.length) (t := a.length) (l := l) (Nat.le_refl _)
  have r1 := refs_at (s := S.length) (i := a.length) (t := a.length) (Nat.le_refl _)
  have r2 := rl_at (q := q) (i := a.length) (m := b.length + 1) (k := b.length) (by omega)
  have l2 : ∀ x y : D, ([x, y].length ≤ line) = True := fun x y => by simp [line]
  refine call_rt (d := leastD (Fq q a.length b.length) (qL a b) a.length b.length) (S1 := tabS S q (b.length + 1) a.length ++ [.lst (stepsD (Fq q a.length b.length) (qL a b) a.length b.length)]) e0 rfl ?_ (trim_tab leastD_und)
  show evSs (cx N S) i_least_script.body [some (tl a), some (tl b), none, none, none, none, none, none, none, none] S = _
  simp only [i_least_script, l_var, l_var1, l_glo, l_glo1, l_cst, l_nil, l_cons, l_L1, l_L2, l_neg, l_neg1, l_not, l_not1, l_rev, l_rev1, l_lrg, l_lrg1, l_cdx, l_cdx1, l_isc, l_isc1, l_tdy, l_tdy1, l_bin, l_bin1, l_bin2, l_cmp, l_cmp1, l_cmp2, l_idx, l_idx1, l_idx2, l_chn, l_chn1, l_chn2, l_chn3, l_chn3f, l_chn4, l_ite, l_iteT, l_iteF, l_and, l_and1, l_and2, l_andG, l_andS, l_or, l_or1, l_or2, l_orG, l_orS, l_sli, l_sli1, l_sli2, l_sli3, l_tup, l_tup1, l_lst, l_lst1, l_call, l_call1, l_blt, l_blt1, l_mth, l_mth1, l_mth2, l_snil, l_scons, l_sqn, l_sqr, l_sqb, l_sqc, l_asg, l_asg1, l_asgs, l_asgs1, l_asgs2, l_asgs3, l_bT, l_b1, l_bn, l_bc, l_k0, l_k1, l_exp, l_exp1, l_ret, l_ret1, l_retN, l_brk, l_cnt, l_pss, l_if, l_ifT, l_ifF, l_sub, l_sub1, l_sub2, l_sub3, l_set, l_for, l_lc, l_seq, l_seqL, l_seqL1, l_seqT, l_seqS, l_fsh, l_rng1, l_rng11, l_enm, l_enmT, o_addI, o_subI, o_mulI, o_fdivI, o_modI, o_powI, o_addS, o_addT, o_addL, o_addL1, o_repL, o_repL1, o_repS, c_lt, c_le, c_gt, c_ge, c_eq, c_eq1, c_ne, c_ne1, c_in, c_nin, e_II, e_SS, d_II, d_SS, n_int, n_bl, x_tup, x_at, x_atS, x_str, x_lst, x_lst1, b_int, b_lenT, b_lenS, b_lenL, b_lenL1, b_tupT, b_tupL, b_tupL1, b_lstT, b_lstL, b_lstL1, b_min, b_max, b_isi, b_isi1, b_repr, m_app, m_app1, m_appOk, m_popOk, m_lstB, v_set, v_set1, t_op, t_lop, i_N, i_nN, i_T, i_nT, i_F, i_nF, List.getElem?_cons_succ, List.getElem?_cons_zero, List.set_cons_succ, List.set_cons_zero, st_get, st_get0, st_set, st_set0, if_true, tidy_app, tidy_same, trim_pure, trim_pure0, Nat.zero_le, Nat.zero_add, Nat.reduceAdd, Nat.reduceSub, List.replicate, List.map_cons, List.map_nil, List.cons_append, List.nil_append, cx_cl, e1, e2, rev_tl, td, len_tl, l0, st_alloc0, hr, hr2, l_for1, q1, g0, g1, r1, r2, l2]
  rfl
theorem qrev_len {a : List (List Nat)} : a.reverse.length = a.length := List.length_reverse
theorem goods_rev (g : Goods a) : Goods a.reverse := ⟨by rw [List.length_reverse]; exact g.hi, fun s h => g.g s (List.mem_reverse.mp h)⟩
theorem least_ok (ga : Goods a) (gb : Goods b) : cl (N + 4) 5 [tl a, tl b] S = .ok (leastD (Fq (qL a.reverse b.reverse) a.length b.length) (qL a b) a.length b.length) S := by
  have h := costs_ok (n := N + 2) (S := S) (a := a.reverse) (b := b.reverse) (goods_rev gb).hi (goods_rev ga).hi
  rw [List.length_reverse, List.length_reverse] at h
  exact least_m ga gb (check_ok ga gb) h
end
end Lw

set_option Elab.async false
set_option linter.all false
set_option autoImplicit false
set_option maxRecDepth 100000
set_option maxHeartbeats 4000000
/-! Kf: the plain law k85: script_cost, run_script. -/
namespace Lw
open Ev
def isW : D → List Nat → Bool
  | .str s, w => decide (s = w)
  | _, _ => false
/-- == with a text is plain -/
def okW (d : D) : Prop := ∀ (S : Sto) (w : List Nat), (w.all fun c => decide (c < 1114112)) = true → dEq S d (.str w) = some (isW d w)
theorem okW_str {s : List Nat} : okW (.str s) := fun S w _ => e_SS
theorem okW_non : okW .non := fun S w _ => rfl
theorem okW_int {i : Int} : okW (.int i) := fun S w _ => rfl
theorem okW_bl {i : Bool} : okW (.bl i) := fun S w _ => rfl
theorem okW_tup {s : List Nat} (h : (s.all fun c => decide (c < 1114112)) = true) : okW (.tup [.str s]) := fun S w hw => by
  have e1 : rsv S (.tup [.str s]) = .tup [.str s] := rfl
  have e2 : rsv S (.str w) = .str w := rfl
  have e3 : datOk (.tup [.str s]) = true := by
    simp [datOk, D.pure, D.und, D.unds, D.dep, D.deps, D.sok, D.soks]
    simpa using h
  have e4 : datOk (.str w) = true := by
    simp [datOk, D.pure, D.und, D.dep, D.sok]
    simpa using hw
  unfold dEq
  rw [if_neg (by simp [D.flat]), e1, e2, if_pos (by rw [e3, e4]; rfl)]
  rfl
def stp (E : Nat → Nat → Bool) (m n : Nat) (s : D) (i j : Nat) : Option Nat :=
  if isW s (stepW 0) = true ∧ i < m ∧ j < n ∧ E i j = true then some 0 else if isW s (stepW 1) = true ∧ i < m then some 1 else if isW s (stepW 2) = true ∧ j < n then some 2 else none
def ck : Nat → Int
  | 0 => 0
  | _ => 1
def walk (E : Nat → Nat → Bool) (m n : Nat) : List D → Nat → Nat → Int → Option (Nat × Nat × Int)
  | [], i, j, c => some (i, j, c)
  | s :: ss, i, j, c => (match stp E m n s i j with
    | none => none
    | some k => walk E m n ss (i + di k) (j + dj k) (c + ck k))
def sc (E : Nat → Nat → Bool) (m n : Nat) (ss : List D) : D := match walk E m n ss 0 0 0 with
  | none => .non
  | some (i, j, c) => if i < m ∨ j < n then .non else .int c
section
variable {N : Nat} {S : Sto} {a b : List (List Nat)}
theorem cost_step {z s : D} {i j : Nat} {c : Int} (hs : okW s) (hi : i ≤ a.length) (hj : j ≤ b.length) :
    evSs (cx N S) b0_script_cost [some (tl a), some (tl b), some z, some (.int (i : Nat)), some (.int (j : Nat)), some (.int c), some s] S =
      match stp (qL a b) a.length b.length s i j with
      | none => .rt .non S
      | some k => .nx [some (tl a), some (tl b), some z, some (.int ((i + di k : Nat) : Int)), some (.int ((j + dj k : Nat) : Int)), some (.int (c + ck k)), some s] S := by
  have w0 : dEq S s (.str [107, 101, 101, 112]) = some (isW s (stepW 0)) := hs S _ (by decide)
  have w1 : dEq S s (.str [100, 114, 111, 112]) = some (isW s (stepW 1)) := hs S _ (by decide)
  have w2 : dEq S s (.str [116, 97, 107, 101]) = some (isW s (stepW 2)) := hs S _ (by decide)
  have x3 : decide (((i : Nat) : Int) < ((a.length : Nat) : Int)) = decide (i < a.length) := by
    by_cases h : i < a.length
    · rw [decide_eq_true h, decide_eq_true (by omega)]
    · rw [decide_eq_false h, decide_eq_false (by omega)]
  have x4 : decide (((j : Nat) : Int) < ((b.length : Nat) : Int)) = decide (j < b.length) := by
    by_cases h : j < b.length
    · rw [decide_eq_true h, decide_eq_true (by omega)]
    · rw [decide_eq_false h, decide_eq_false (by omega)]
  unfold stp
  cases v0 : isW s (stepW 0) <;> cases v1 : isW s (stepW 1) <;> cases v2 : isW s (stepW 2)
  all_goals
    rw [v0] at w0
    rw [v1] at w1
    rw [v2] at w2
    by_cases h1 : i < a.length
    all_goals
      by_cases h2 : j < b.length
      all_goals
        first
        | (have t1 := fun U => tl_at (a := a) (i := i) (S := U) h1
           have t2 := fun U => tl_at (a := b) (i := j) (S := U) h2
           by_cases h3 : a.getD i [] = b.getD j []
           · have x5 : qL a b i j = true := decide_eq_true h3
             have x6 : decide (a.getD i [] = b.getD j []) = true := decide_eq_true h3
             simp only [b0_script_cost, l_var, l_var1, l_glo, l_glo1, l_cst, l_nil, l_cons, l_L1, l_L2, l_neg, l_neg1, l_not, l_not1, l_rev, l_rev1, l_lrg, l_lrg1, l_cdx, l_cdx1, l_isc, l_isc1, l_tdy, l_tdy1, l_bin, l_bin1, l_bin2, l_cmp, l_cmp1, l_cmp2, l_idx, l_idx1, l_idx2, l_chn, l_chn1, l_chn2, l_chn3, l_chn3f, l_chn4, l_ite, l_iteT, l_iteF, l_and, l_and1, l_and2, l_andG, l_andS, l_or, l_or1, l_or2, l_orG, l_orS, l_sli, l_sli1, l_sli2, l_sli3, l_tup, l_tup1, l_lst, l_lst1, l_call, l_call1, l_blt, l_blt1, l_mth, l_mth1, l_mth2, l_snil, l_scons, l_sqn, l_sqr, l_sqb, l_sqc, l_asg, l_asg1, l_asgs, l_asgs1, l_asgs2, l_asgs3, l_bT, l_b1, l_bn, l_bc, l_k0, l_k1, l_exp, l_exp1, l_ret, l_ret1, l_retN, l_brk, l_cnt, l_pss, l_if, l_ifT, l_ifF, l_sub, l_sub1, l_sub2, l_sub3, l_set, l_for, l_lc, l_seq, l_seqL, l_seqL1, l_seqT, l_seqS, l_fsh, l_rng1, l_rng11, l_enm, l_enmT, o_addI, o_subI, o_mulI, o_fdivI, o_modI, o_powI, o_addS, o_addT, o_addL, o_addL1, o_repL, o_repL1, o_repS, c_lt, c_le, c_gt, c_ge, c_eq, c_eq1, c_ne, c_ne1, c_in, c_nin, e_II, e_SS, d_II, d_SS, n_int, n_bl, x_tup, x_at, x_atS, x_str, x_lst, x_lst1, b_int, b_lenT, b_lenS, b_lenL, b_lenL1, b_tupT, b_tupL, b_tupL1, b_lstT, b_lstL, b_lstL1, b_min, b_max, b_isi, b_isi1, b_repr, m_app, m_app1, m_appOk, m_popOk, m_lstB, v_set, v_set1, t_op, t_lop, i_N, i_nN, i_T, i_nT, i_F, i_nF, List.getElem?_cons_succ, List.getElem?_cons_zero, List.set_cons_succ, List.set_cons_zero, st_get, st_get0, st_set, st_set0, if_true, tidy_app, tidy_same, trim_pure, trim_pure0, Nat.zero_le, Nat.zero_add, Nat.reduceAdd, Nat.reduceSub, List.replicate, List.map_cons, List.map_nil, List.cons_append, List.nil_append, w0, w1, w2, len_tl, x3, x4, x5, x6, h1, h2, t1, t2, decide_true, decide_false, and_true, true_and, and_self, if_true, if_false, Bool.false_eq_true, false_and]
             try (first | rfl | (simp only [ck, Int.add_zero] <;> rfl))
           · have x5 : qL a b i j = false := decide_eq_false h3
             have x6 : decide (a.getD i [] = b.getD j []) = false := decide_eq_false h3
             simp only [b0_script_cost, l_var, l_var1, l_glo, l_glo1, l_cst, l_nil, l_cons, l_L1, l_L2, l_neg, l_neg1, l_not, l_not1, l_rev, l_rev1, l_lrg, l_lrg1, l_cdx, l_cdx1, l_isc, l_isc1, l_tdy, l_tdy1, l_bin, l_bin1, l_bin2, l_cmp, l_cmp1, l_cmp2, l_idx, l_idx1, l_idx2, l_chn, l_chn1, l_chn2, l_chn3, l_chn3f, l_chn4, l_ite, l_iteT, l_iteF, l_and, l_and1, l_and2, l_andG, l_andS, l_or, l_or1, l_or2, l_orG, l_orS, l_sli, l_sli1, l_sli2, l_sli3, l_tup, l_tup1, l_lst, l_lst1, l_call, l_call1, l_blt, l_blt1, l_mth, l_mth1, l_mth2, l_snil, l_scons, l_sqn, l_sqr, l_sqb, l_sqc, l_asg, l_asg1, l_asgs, l_asgs1, l_asgs2, l_asgs3, l_bT, l_b1, l_bn, l_bc, l_k0, l_k1, l_exp, l_exp1, l_ret, l_ret1, l_retN, l_brk, l_cnt, l_pss, l_if, l_ifT, l_ifF, l_sub, l_sub1, l_sub2, l_sub3, l_set, l_for, l_lc, l_seq, l_seqL, l_seqL1, l_seqT, l_seqS, l_fsh, l_rng1, l_rng11, l_enm, l_enmT, o_addI, o_subI, o_mulI, o_fdivI, o_modI, o_powI, o_addS, o_addT, o_addL, o_addL1, o_repL, o_repL1, o_repS, c_lt, c_le, c_gt, c_ge, c_eq, c_eq1, c_ne, c_ne1, c_in, c_nin, e_II, e_SS, d_II, d_SS, n_int, n_bl, x_tup, x_at, x_atS, x_str, x_lst, x_lst1, b_int, b_lenT, b_lenS, b_lenL, b_lenL1, b_tupT, b_tupL, b_tupL1, b_lstT, b_lstL, b_lstL1, b_min, b_max, b_isi, b_isi1, b_repr, m_app, m_app1, m_appOk, m_popOk, m_lstB, v_set, v_set1, t_op, t_lop, i_N, i_nN, i_T, i_nT, i_F, i_nF, List.getElem?_cons_succ, List.getElem?_cons_zero, List.set_cons_succ, List.set_cons_zero, st_get, st_get0, st_set, st_set0, if_true, tidy_app, tidy_same, trim_pure, trim_pure0, Nat.zero_le, Nat.zero_add, Nat.reduceAdd, Nat.reduceSub, List.replicate, List.map_cons, List.map_nil, List.cons_append, List.nil_append, w0, w1, w2, len_tl, x3, x4, x5, x6, h1, h2, t1, t2, decide_true, decide_false, and_true, true_and, and_self, if_true, if_false, Bool.false_eq_true, false_and, and_false]
             try (first | rfl | (simp only [ck, Int.add_zero] <;> rfl)))
        | (simp only [b0_script_cost, l_var, l_var1, l_glo, l_glo1, l_cst, l_nil, l_cons, l_L1, l_L2, l_neg, l_neg1, l_not, l_not1, l_rev, l_rev1, l_lrg, l_lrg1, l_cdx, l_cdx1, l_isc, l_isc1, l_tdy, l_tdy1, l_bin, l_bin1, l_bin2, l_cmp, l_cmp1, l_cmp2, l_idx, l_idx1, l_idx2, l_chn, l_chn1, l_chn2, l_chn3, l_chn3f, l_chn4, l_ite, l_iteT, l_iteF, l_and, l_and1, l_and2, l_andG, l_andS, l_or, l_or1, l_or2, l_orG, l_orS, l_sli, l_sli1, l_sli2, l_sli3, l_tup, l_tup1, l_lst, l_lst1, l_call, l_call1, l_blt, l_blt1, l_mth, l_mth1, l_mth2, l_snil, l_scons, l_sqn, l_sqr, l_sqb, l_sqc, l_asg, l_asg1, l_asgs, l_asgs1, l_asgs2, l_asgs3, l_bT, l_b1, l_bn, l_bc, l_k0, l_k1, l_exp, l_exp1, l_ret, l_ret1, l_retN, l_brk, l_cnt, l_pss, l_if, l_ifT, l_ifF, l_sub, l_sub1, l_sub2, l_sub3, l_set, l_for, l_lc, l_seq, l_seqL, l_seqL1, l_seqT, l_seqS, l_fsh, l_rng1, l_rng11, l_enm, l_enmT, o_addI, o_subI, o_mulI, o_fdivI, o_modI, o_powI, o_addS, o_addT, o_addL, o_addL1, o_repL, o_repL1, o_repS, c_lt, c_le, c_gt, c_ge, c_eq, c_eq1, c_ne, c_ne1, c_in, c_nin, e_II, e_SS, d_II, d_SS, n_int, n_bl, x_tup, x_at, x_atS, x_str, x_lst, x_lst1, b_int, b_lenT, b_lenS, b_lenL, b_lenL1, b_tupT, b_tupL, b_tupL1, b_lstT, b_lstL, b_lstL1, b_min, b_max, b_isi, b_isi1, b_repr, m_app, m_app1, m_appOk, m_popOk, m_lstB, v_set, v_set1, t_op, t_lop, i_N, i_nN, i_T, i_nT, i_F, i_nF, List.getElem?_cons_succ, List.getElem?_cons_zero, List.set_cons_succ, List.set_cons_zero, st_get, st_get0, st_set, st_set0, if_true, tidy_app, tidy_same, trim_pure, trim_pure0, Nat.zero_le, Nat.zero_add, Nat.reduceAdd, Nat.reduceSub, List.replicate, List.map_cons, List.map_nil, List.cons_append, List.nil_append, w0, w1, w2, len_tl, x3, x4, h1, h2, decide_true, decide_false, and_true, true_and, and_self, if_true, if_false, Bool.false_eq_true, false_and, and_false]
           try (first | rfl | (simp only [ck, Int.add_zero] <;> rfl)))
theorem stp_bound {E : Nat → Nat → Bool} {m n i j k : Nat} {s : D} (h : stp E m n s i j = some k) (hi : i ≤ m) (hj : j ≤ n) : i + di k ≤ m ∧ j + dj k ≤ n := by
  unfold stp at h
  split at h
  · rename_i h1
    cases h
    show i + 1 ≤ m ∧ j + 1 ≤ n
    omega
  · split at h
    · rename_i h1
      cases h
      show i + 1 ≤ m ∧ j + 0 ≤ n
      omega
    · split at h
      · rename_i h1
        cases h
        show i + 0 ≤ m ∧ j + 1 ≤ n
        omega
      · cases h
theorem cost_loop {z : D} : ∀ (ss : List D) (i j : Nat) (c : Int) (o6 : Option D), (∀ s ∈ ss, okW s) → i ≤ a.length → j ≤ b.length →
    forL [] (tgF true [6]) [6] (bodyF (cx N S) b0_script_cost) ss [some (tl a), some (tl b), some z, some (.int (i : Nat)), some (.int (j : Nat)), some (.int c), o6] S =
      match walk (qL a b) a.length b.length ss i j c with
      | none => .rt .non S
      | some (i', j', c') => .nx [some (tl a), some (tl b), some z, some (.int (i' : Nat)), some (.int (j' : Nat)), some (.int c'), none] S
  | [], i, j, c, o6, _, _, _ => rfl
  | s :: ss, i, j, c, o6, h, hi, hj => by
    have e := cost_step (N := N) (S := S) (a := a) (b := b) (z := z) (c := c) (h s List.mem_cons_self) hi hj
    have e' : bodyF (cx N S) b0_script_cost [some (tl a), some (tl b), some z, some (.int (i : Nat)), some (.int (j : Nat)), some (.int c), some s] S = _ := e
    have e1 : forL [] (tgF true [6]) [6] (bodyF (cx N S) b0_script_cost) (s :: ss) [some (tl a), some (tl b), some z, some (.int (i : Nat)), some (.int (j : Nat)), some (.int c), o6] S =
      (match bodyF (cx N S) b0_script_cost [some (tl a), some (tl b), some z, some (.int (i : Nat)), some (.int (j : Nat)), some (.int c), some s] S with
      | .nx ρ2 S2 => forL [] (tgF true [6]) [6] (bodyF (cx N S) b0_script_cost) ss ρ2 S2
      | .ct ρ2 S2 => forL [] (tgF true [6]) [6] (bodyF (cx N S) b0_script_cost) ss ρ2 S2
      | .bk ρ2 S2 => .nx (kill [6] ρ2) S2
      | r => r) := by
      rw [forL]
      rfl
    rw [e1, e']
    unfold walk
    cases hk : stp (qL a b) a.length b.length s i j with
    | none => rfl
    | some k =>
      obtain ⟨b1, b2⟩ := stp_bound hk hi hj
      exact cost_loop ss _ _ _ _ (fun y hy => h y (List.mem_cons_of_mem _ hy)) b1 b2
theorem walk_bound {E : Nat → Nat → Bool} {m n : Nat} : ∀ {ss : List D} {i j i' j' : Nat} {c c' : Int}, walk E m n ss i j c = some (i', j', c') → i ≤ m → j ≤ n → i' ≤ m ∧ j' ≤ n
  | [], i, j, i', j', c, c', h, hi, hj => by cases h; exact ⟨hi, hj⟩
  | s :: ss, i, j, i', j', c, c', h, hi, hj => by
    unfold walk at h
    cases hk : stp E m n s i j with
    | none => rw [hk] at h; cases h
    | some k =>
      rw [hk] at h
      obtain ⟨b1, b2⟩ := stp_bound hk hi hj
      exact walk_bound h b1 b2
/-- script_cost of a tuple -/
theorem cost_ok {ss : List D} (h : ∀ s ∈ ss, okW s) : cl (N + 1) 6 [tl a, tl b, .tup ss] S = .ok (sc (qL a b) a.length b.length ss) S := by
  have e0 : L.prog[6]? = some i_script_cost := rfl
  have q1 := cost_loop (N := N) (S := S) (a := a) (b := b) (z := .tup ss) ss 0 0 0 none h (Nat.zero_le _) (Nat.zero_le _)
  have k3 : isT S .tup (.tup ss) = some true := rfl
  have k5 : k_seq (.ok (.tup ss) S) = .ok ss [] S := rfl
  have z0 : ((0 : Nat) : Int) = 0 := rfl
  rw [z0] at q1
  refine call_rt (d := sc (qL a b) a.length b.length ss) (S1 := S) e0 rfl ?_ (trim_pure0 (by
    unfold sc
    split
    · rfl
    · split <;> rfl))
  show evSs (cx N S) i_script_cost.body [some (tl a), some (tl b), some (.tup ss), none, none, none, none] S = _
  unfold sc
  cases hw : walk (qL a b) a.length b.length ss 0 0 0 with
  | none =>
    rw [hw] at q1
    simp only [i_script_cost, l_var, l_var1, l_glo, l_glo1, l_cst, l_nil, l_cons, l_L1, l_L2, l_neg, l_neg1, l_not, l_not1, l_rev, l_rev1, l_lrg, l_lrg1, l_cdx, l_cdx1, l_isc, l_isc1, l_tdy, l_tdy1, l_bin, l_bin1, l_bin2, l_cmp, l_cmp1, l_cmp2, l_idx, l_idx1, l_idx2, l_chn, l_chn1, l_chn2, l_chn3, l_chn3f, l_chn4, l_ite, l_iteT, l_iteF, l_and, l_and1, l_and2, l_andG, l_andS, l_or, l_or1, l_or2, l_orG, l_orS, l_sli, l_sli1, l_sli2, l_sli3, l_tup, l_tup1, l_lst, l_lst1, l_call, l_call1, l_blt, l_blt1, l_mth, l_mth1, l_mth2, l_snil, l_scons, l_sqn, l_sqr, l_sqb, l_sqc, l_asg, l_asg1, l_asgs, l_asgs1, l_asgs2, l_asgs3, l_bT, l_b1, l_bn, l_bc, l_k0, l_k1, l_exp, l_exp1, l_ret, l_ret1, l_retN, l_brk, l_cnt, l_pss, l_if, l_ifT, l_ifF, l_sub, l_sub1, l_sub2, l_sub3, l_set, l_for, l_lc, l_seq, l_seqL, l_seqL1, l_seqT, l_seqS, l_fsh, l_rng1, l_rng11, l_enm, l_enmT, o_addI, o_subI, o_mulI, o_fdivI, o_modI, o_powI, o_addS, o_addT, o_addL, o_addL1, o_repL, o_repL1, o_repS, c_lt, c_le, c_gt, c_ge, c_eq, c_eq1, c_ne, c_ne1, c_in, c_nin, e_II, e_SS, d_II, d_SS, n_int, n_bl, x_tup, x_at, x_atS, x_str, x_lst, x_lst1, b_int, b_lenT, b_lenS, b_lenL, b_lenL1, b_tupT, b_tupL, b_tupL1, b_lstT, b_lstL, b_lstL1, b_min, b_max, b_isi, b_isi1, b_repr, m_app, m_app1, m_appOk, m_popOk, m_lstB, v_set, v_set1, t_op, t_lop, i_N, i_nN, i_T, i_nT, i_F, i_nF, List.getElem?_cons_succ, List.getElem?_cons_zero, List.set_cons_succ, List.set_cons_zero, st_get, st_get0, st_set, st_set0, if_true, tidy_app, tidy_same, trim_pure, trim_pure0, Nat.zero_le, Nat.zero_add, Nat.reduceAdd, Nat.reduceSub, List.replicate, List.map_cons, List.map_nil, List.cons_append, List.nil_append, k3, k5, l_for1, q1, Bool.not_true]
  | some r =>
    obtain ⟨i', j', c'⟩ := r
    rw [hw] at q1
    obtain ⟨b1, b2⟩ := walk_bound hw (Nat.zero_le _) (Nat.zero_le _)
    dsimp only at q1 ⊢
    by_cases h1 : i' < a.length
    · have x1 : decide (((i' : Nat) : Int) < ((a.length : Nat) : Int)) = true := decide_eq_true (by omega)
      rw [if_pos (.inl h1)]
      simp only [i_script_cost, l_var, l_var1, l_glo, l_glo1, l_cst, l_nil, l_cons, l_L1, l_L2, l_neg, l_neg1, l_not, l_not1, l_rev, l_rev1, l_lrg, l_lrg1, l_cdx, l_cdx1, l_isc, l_isc1, l_tdy, l_tdy1, l_bin, l_bin1, l_bin2, l_cmp, l_cmp1, l_cmp2, l_idx, l_idx1, l_idx2, l_chn, l_chn1, l_chn2, l_chn3, l_chn3f, l_chn4, l_ite, l_iteT, l_iteF, l_and, l_and1, l_and2, l_andG, l_andS, l_or, l_or1, l_or2, l_orG, l_orS, l_sli, l_sli1, l_sli2, l_sli3, l_tup, l_tup1, l_lst, l_lst1, l_call, l_call1, l_blt, l_blt1, l_mth, l_mth1, l_mth2, l_snil, l_scons, l_sqn, l_sqr, l_sqb, l_sqc, l_asg, l_asg1, l_asgs, l_asgs1, l_asgs2, l_asgs3, l_bT, l_b1, l_bn, l_bc, l_k0, l_k1, l_exp, l_exp1, l_ret, l_ret1, l_retN, l_brk, l_cnt, l_pss, l_if, l_ifT, l_ifF, l_sub, l_sub1, l_sub2, l_sub3, l_set, l_for, l_lc, l_seq, l_seqL, l_seqL1, l_seqT, l_seqS, l_fsh, l_rng1, l_rng11, l_enm, l_enmT, o_addI, o_subI, o_mulI, o_fdivI, o_modI, o_powI, o_addS, o_addT, o_addL, o_addL1, o_repL, o_repL1, o_repS, c_lt, c_le, c_gt, c_ge, c_eq, c_eq1, c_ne, c_ne1, c_in, c_nin, e_II, e_SS, d_II, d_SS, n_int, n_bl, x_tup, x_at, x_atS, x_str, x_lst, x_lst1, b_int, b_lenT, b_lenS, b_lenL, b_lenL1, b_tupT, b_tupL, b_tupL1, b_lstT, b_lstL, b_lstL1, b_min, b_max, b_isi, b_isi1, b_repr, m_app, m_app1, m_appOk, m_popOk, m_lstB, v_set, v_set1, t_op, t_lop, i_N, i_nN, i_T, i_nT, i_F, i_nF, List.getElem?_cons_succ, List.getElem?_cons_zero, List.set_cons_succ, List.set_cons_zero, st_get, st_get0, st_set, st_set0, if_true, tidy_app, tidy_same, trim_pure, trim_pure0, Nat.zero_le, Nat.zero_add, Nat.reduceAdd, Nat.reduceSub, List.replicate, List.map_cons, List.map_nil, List.cons_append, List.nil_append, k3, k5, l_for1, q1, Bool.not_true, len_tl, x1]
    · have x1 : decide (((i' : Nat) : Int) < ((a.length : Nat) : Int)) = false := decide_eq_false (by omega)
      by_cases h2 : j' < b.length
      · have x2 : decide (((j' : Nat) : Int) < ((b.length : Nat) : Int)) = true := decide_eq_true (by omega)
        rw [if_pos (.inr h2)]
        simp only [i_script_cost, l_var, l_var1, l_glo, l_glo1, l_cst, l_nil, l_cons, l_L1, l_L2, l_neg, l_neg1, l_not, l_not1, l_rev, l_rev1, l_lrg, l_lrg1, l_cdx, l_cdx1, l_isc, l_isc1, l_tdy, l_tdy1, l_bin, l_bin1, l_bin2, l_cmp, l_cmp1, l_cmp2, l_idx, l_idx1, l_idx2, l_chn, l_chn1, l_chn2, l_chn3, l_chn3f, l_chn4, l_ite, l_iteT, l_iteF, l_and, l_and1, l_and2, l_andG, l_andS, l_or, l_or1, l_or2, l_orG, l_orS, l_sli, l_sli1, l_sli2, l_sli3, l_tup, l_tup1, l_lst, l_lst1, l_call, l_call1, l_blt, l_blt1, l_mth, l_mth1, l_mth2, l_snil, l_scons, l_sqn, l_sqr, l_sqb, l_sqc, l_asg, l_asg1, l_asgs, l_asgs1, l_asgs2, l_asgs3, l_bT, l_b1, l_bn, l_bc, l_k0, l_k1, l_exp, l_exp1, l_ret, l_ret1, l_retN, l_brk, l_cnt, l_pss, l_if, l_ifT, l_ifF, l_sub, l_sub1, l_sub2, l_sub3, l_set, l_for, l_lc, l_seq, l_seqL, l_seqL1, l_seqT, l_seqS, l_fsh, l_rng1, l_rng11, l_enm, l_enmT, o_addI, o_subI, o_mulI, o_fdivI, o_modI, o_powI, o_addS, o_addT, o_addL, o_addL1, o_repL, o_repL1, o_repS, c_lt, c_le, c_gt, c_ge, c_eq, c_eq1, c_ne, c_ne1, c_in, c_nin, e_II, e_SS, d_II, d_SS, n_int, n_bl, x_tup, x_at, x_atS, x_str, x_lst, x_lst1, b_int, b_lenT, b_lenS, b_lenL, b_lenL1, b_tupT, b_tupL, b_tupL1, b_lstT, b_lstL, b_lstL1, b_min, b_max, b_isi, b_isi1, b_repr, m_app, m_app1, m_appOk, m_popOk, m_lstB, v_set, v_set1, t_op, t_lop, i_N, i_nN, i_T, i_nT, i_F, i_nF, List.getElem?_cons_succ, List.getElem?_cons_zero, List.set_cons_succ, List.set_cons_zero, st_get, st_get0, st_set, st_set0, if_true, tidy_app, tidy_same, trim_pure, trim_pure0, Nat.zero_le, Nat.zero_add, Nat.reduceAdd, Nat.reduceSub, List.replicate, List.map_cons, List.map_nil, List.cons_append, List.nil_append, k3, k5, l_for1, q1, Bool.not_true, len_tl, x1, x2]
      · have x2 : decide (((j' : Nat) : Int) < ((b.length : Nat) : Int)) = false := decide_eq_false (by omega)
        rw [if_neg (by omega)]
        simp only [i_script_cost, l_var, l_var1, l_glo, l_glo1, l_cst, l_nil, l_cons, l_L1, l_L2, l_neg, l_neg1, l_not, l_not1, l_rev, l_rev1, l_lrg, l_lrg1, l_cdx, l_cdx1, l_isc, l_isc1, l_tdy, l_tdy1, l_bin, l_bin1, l_bin2, l_cmp, l_cmp1, l_cmp2, l_idx, l_idx1, l_idx2, l_chn, l_chn1, l_chn2, l_chn3, l_chn3f, l_chn4, l_ite, l_iteT, l_iteF, l_and, l_and1, l_and2, l_andG, l_andS, l_or, l_or1, l_or2, l_orG, l_orS, l_sli, l_sli1, l_sli2, l_sli3, l_tup, l_tup1, l_lst, l_lst1, l_call, l_call1, l_blt, l_blt1, l_mth, l_mth1, l_mth2, l_snil, l_scons, l_sqn, l_sqr, l_sqb, l_sqc, l_asg, l_asg1, l_asgs, l_asgs1, l_asgs2, l_asgs3, l_bT, l_b1, l_bn, l_bc, l_k0, l_k1, l_exp, l_exp1, l_ret, l_ret1, l_retN, l_brk, l_cnt, l_pss, l_if, l_ifT, l_ifF, l_sub, l_sub1, l_sub2, l_sub3, l_set, l_for, l_lc, l_seq, l_seqL, l_seqL1, l_seqT, l_seqS, l_fsh, l_rng1, l_rng11, l_enm, l_enmT, o_addI, o_subI, o_mulI, o_fdivI, o_modI, o_powI, o_addS, o_addT, o_addL, o_addL1, o_repL, o_repL1, o_repS, c_lt, c_le, c_gt, c_ge, c_eq, c_eq1, c_ne, c_ne1, c_in, c_nin, e_II, e_SS, d_II, d_SS, n_int, n_bl, x_tup, x_at, x_atS, x_str, x_lst, x_lst1, b_int, b_lenT, b_lenS, b_lenL, b_lenL1, b_tupT, b_tupL, b_tupL1, b_lstT, b_lstL, b_lstL1, b_min, b_max, b_isi, b_isi1, b_repr, m_app, m_app1, m_appOk, m_popOk, m_lstB, v_set, v_set1, t_op, t_lop, i_N, i_nN, i_T, i_nT, i_F, i_nF, List.getElem?_cons_succ, List.getElem?_cons_zero, List.set_cons_succ, List.set_cons_zero, st_get, st_get0, st_set, st_set0, if_true, tidy_app, tidy_same, trim_pure, trim_pure0, Nat.zero_le, Nat.zero_add, Nat.reduceAdd, Nat.reduceSub, List.replicate, List.map_cons, List.map_nil, List.cons_append, List.nil_append, k3, k5, l_for1, q1, Bool.not_true, len_tl, x1, x2]
/-- .. of what is no tuple -/
theorem cost_no {d : D} (hd : isT S .tup d = some false) : cl (N + 1) 6 [tl a, tl b, d] S = .ok .non S := by
  have e0 : L.prog[6]? = some i_script_cost := rfl
  refine call_rt (d := .non) (S1 := S) e0 rfl ?_ (trim_pure0 rfl)
  show evSs (cx N S) i_script_cost.body [some (tl a), some (tl b), some d, none, none, none, none] S = _
  simp only [i_script_cost, l_var, l_var1, l_glo, l_glo1, l_cst, l_nil, l_cons, l_L1, l_L2, l_neg, l_neg1, l_not, l_not1, l_rev, l_rev1, l_lrg, l_lrg1, l_cdx, l_cdx1, l_isc, l_isc1, l_tdy, l_tdy1, l_bin, l_bin1, l_bin2, l_cmp, l_cmp1, l_cmp2, l_idx, l_idx1, l_idx2, l_chn, l_chn1, l_chn2, l_chn3, l_chn3f, l_chn4, l_ite, l_iteT, l_iteF, l_and, l_and1, l_and2, l_andG, l_andS, l_or, l_or1, l_or2, l_orG, l_orS, l_sli, l_sli1, l_sli2, l_sli3, l_tup, l_tup1, l_lst, l_lst1, l_call, l_call1, l_blt, l_blt1, l_mth, l_mth1, l_mth2, l_snil, l_scons, l_sqn, l_sqr, l_sqb, l_sqc, l_asg, l_asg1, l_asgs, l_asgs1, l_asgs2, l_asgs3, l_bT, l_b1, l_bn, l_bc, l_k0, l_k1, l_exp, l_exp1, l_ret, l_ret1, l_retN, l_brk, l_cnt, l_pss, l_if, l_ifT, l_ifF, l_sub, l_sub1, l_sub2, l_sub3, l_set, l_for, l_lc, l_seq, l_seqL, l_seqL1, l_seqT, l_seqS, l_fsh, l_rng1, l_rng11, l_enm, l_enmT, o_addI, o_subI, o_mulI, o_fdivI, o_modI, o_powI, o_addS, o_addT, o_addL, o_addL1, o_repL, o_repL1, o_repS, c_lt, c_le, c_gt, c_ge, c_eq, c_eq1, c_ne, c_ne1, c_in, c_nin, e_II, e_SS, d_II, d_SS, n_int, n_bl, x_tup, x_at, x_atS, x_str, x_lst, x_lst1, b_int, b_lenT, b_lenS, b_lenL, b_lenL1, b_tupT, b_tupL, b_tupL1, b_lstT, b_lstL, b_lstL1, b_min, b_max, b_isi, b_isi1, b_repr, m_app, m_app1, m_appOk, m_popOk, m_lstB, v_set, v_set1, t_op, t_lop, i_N, i_nN, i_T, i_nT, i_F, i_nF, List.getElem?_cons_succ, List.getElem?_cons_zero, List.set_cons_succ, List.set_cons_zero, st_get, st_get0, st_set, st_set0, if_true, tidy_app, tidy_same, trim_pure, trim_pure0, Nat.zero_le, Nat.zero_add, Nat.reduceAdd, Nat.reduceSub, List.replicate, List.map_cons, List.map_nil, List.cons_append, List.nil_append, hd, Bool.not_false]
theorem run_m {d r : D} (hr : r.und S.length = true) (e1 : cl N 2 [tl a, tl b] S = .ok .non S) (e2 : cl N 6 [tl a, tl b, d] S = .ok r S) : cl (N + 1) 7 [tl a, tl b, d] S = .ok r S := by
  have e0 : L.prog[7]? = some i_run_script := rfl
  simp only [cl] at e1 e2
  refine call_rt (d := r) (S1 := S) e0 rfl ?_ (trim_pure0 hr)
  show evSs (cx N S) i_run_script.body [some (tl a), some (tl b), some d] S = _
  simp only [i_run_script, l_var, l_var1, l_glo, l_glo1, l_cst, l_nil, l_cons, l_L1, l_L2, l_neg, l_neg1, l_not, l_not1, l_rev, l_rev1, l_lrg, l_lrg1, l_cdx, l_cdx1, l_isc, l_isc1, l_tdy, l_tdy1, l_bin, l_bin1, l_bin2, l_cmp, l_cmp1, l_cmp2, l_idx, l_idx1, l_idx2, l_chn, l_chn1, l_chn2, l_chn3, l_chn3f, l_chn4, l_ite, l_iteT, l_iteF, l_and, l_and1, l_and2, l_andG, l_andS, l_or, l_or1, l_or2, l_orG, l_orS, l_sli, l_sli1, l_sli2, l_sli3, l_tup, l_tup1, l_lst, l_lst1, l_call, l_call1, l_blt, l_blt1, l_mth, l_mth1, l_mth2, l_snil, l_scons, l_sqn, l_sqr, l_sqb, l_sqc, l_asg, l_asg1, l_asgs, l_asgs1, l_asgs2, l_asgs3, l_bT, l_b1, l_bn, l_bc, l_k0, l_k1, l_exp, l_exp1, l_ret, l_ret1, l_retN, l_brk, l_cnt, l_pss, l_if, l_ifT, l_ifF, l_sub, l_sub1, l_sub2, l_sub3, l_set, l_for, l_lc, l_seq, l_seqL, l_seqL1, l_seqT, l_seqS, l_fsh, l_rng1, l_rng11, l_enm, l_enmT, o_addI, o_subI, o_mulI, o_fdivI, o_modI, o_powI, o_addS, o_addT, o_addL, o_addL1, o_repL, o_repL1, o_repS, c_lt, c_le, c_gt, c_ge, c_eq, c_eq1, c_ne, c_ne1, c_in, c_nin, e_II, e_SS, d_II, d_SS, n_int, n_bl, x_tup, x_at, x_atS, x_str, x_lst, x_lst1, b_int, b_lenT, b_lenS, b_lenL, b_lenL1, b_tupT, b_tupL, b_tupL1, b_lstT, b_lstL, b_lstL1, b_min, b_max, b_isi, b_isi1, b_repr, m_app, m_app1, m_appOk, m_popOk, m_lstB, v_set, v_set1, t_op, t_lop, i_N, i_nN, i_T, i_nT, i_F, i_nF, List.getElem?_cons_succ, List.getElem?_cons_zero, List.set_cons_succ, List.set_cons_zero, st_get, st_get0, st_set, st_set0, if_true, tidy_app, tidy_same, trim_pure, trim_pure0, Nat.zero_le, Nat.zero_add, Nat.reduceAdd, Nat.reduceSub, List.replicate, List.map_cons, List.map_nil, List.cons_append, List.nil_append, cx_cl, e1, e2]
theorem sc_und {k : Nat} {E : Nat → Nat → Bool} {m n : Nat} {ss : List D} : D.und k (sc E m n ss) = true := by
  unfold sc
  split
  · rfl
  · split <;> rfl
theorem run_ok {ss : List D} (ga : Goods a) (gb : Goods b) (h : ∀ s ∈ ss, okW s) : cl (N + 4) 7 [tl a, tl b, .tup ss] S = .ok (sc (qL a b) a.length b.length ss) S :=
  run_m sc_und (check_ok ga gb) (cost_ok h)
theorem run_no {d : D} (ga : Goods a) (gb : Goods b) (hd : isT S .tup d = some false) : cl (N + 4) 7 [tl a, tl b, d] S = .ok .non S :=
  run_m rfl (check_ok ga gb) (cost_no hd)
end
end Lw

set_option Elab.async false
set_option linter.all false
set_option autoImplicit false
set_option maxRecDepth 100000
set_option maxHeartbeats 4000000
/-! Kg: the plain law k85: the law's pool and sizes. -/
namespace Lw
open Ev
def sg (r : Nat) : List Nat := [[97], [45], [47], [55]].getD r []
def pool0 (B : List Nat) : List (List Nat) := [B ++ [97], B ++ [98], cut B none (some 60) ++ [122] ++ cut B none (some 58) ++ [97], [97], B ++ [48], cut B none (some 118) ++ [97]]
def poolL (r t : Nat) : List (List Nat) := (pool0 (dRep (sg r) 119)).drop t ++ (pool0 (dRep (sg r) 119)).take t
theorem cut_len {α : Type} (B : List α) (k : Int) (h0 : 0 ≤ k) : (cut B none (some k)).length ≤ B.length := by
  unfold cut
  rw [List.length_take, List.length_drop]
  omega
theorem cut_drop {α : Type} (P : List α) (t : Nat) (h : t ≤ P.length) : cut P (some (t : Int)) none = P.drop t := by
  unfold cut cutIx
  have e : ¬ ((t : Int) < 0) := by omega
  simp only [if_neg e]
  have e2 : min (t : Int).toNat P.length = t := by omega
  rw [e2, List.take_of_length_le (by rw [List.length_drop]; exact Nat.le_refl _)]
theorem cut_take {α : Type} (P : List α) (t : Nat) (h : t ≤ P.length) : cut P none (some (t : Int)) = P.take t := by
  unfold cut cutIx
  have e : ¬ ((t : Int) < 0) := by omega
  simp only [if_neg e]
  have e2 : min (t : Int).toNat P.length = t := by omega
  rw [e2]
  rfl
theorem unds_all {n : Nat} : ∀ {l : List D}, D.unds n l = true ↔ ∀ x ∈ l, D.und n x = true
  | [] => by simp [D.unds]
  | x :: l => by simp [D.unds, unds_all (l := l)]
theorem unds_app {n : Nat} {l m : List D} (h1 : D.unds n l = true) (h2 : D.unds n m = true) : D.unds n (l ++ m) = true := by
  rw [unds_all] at *
  intro x hx
  rcases List.mem_append.mp hx with h | h
  · exact h1 x h
  · exact h2 x h
theorem unds_drop {n t : Nat} {l : List D} (h1 : D.unds n l = true) : D.unds n (l.drop t) = true := by
  rw [unds_all] at *
  exact fun x hx => h1 x (List.mem_of_mem_drop hx)
theorem unds_take {n t : Nat} {l : List D} (h1 : D.unds n l = true) : D.unds n (l.take t) = true := by
  rw [unds_all] at *
  exact fun x hx => h1 x (List.mem_of_mem_take hx)
section
variable {N : Nat} {S : Sto}
theorem pool_ok {d : Nat} {r t : Nat} (hr : d % 4 = r) (ht : (d / 4) % 6 = t) : cl (N + 1) 9 [.int (d : Nat)] S = .ok (.ref S.length) (S ++ [.lst ((poolL r t).map .str)]) := by
  have e0 : L.prog[9]? = some i__law_pool := rfl
  have f1 : ((d : Nat) : Int).fmod 4 = (r : Nat) := by rw [Int.fmod_eq_emod_of_nonneg _ (by decide)]; omega
  have f2 : (((d : Nat) : Int).fdiv 4).fmod 6 = (t : Nat) := by rw [Int.fdiv_eq_ediv_of_nonneg _ (by decide), Int.fmod_eq_emod_of_nonneg _ (by decide)]; omega
  have hr4 : r < 4 := by omega
  have ht6 : t < 6 := by omega
  have s1 : evS (cx N S) (.asg 1 (.tdy (.bin .mul (.idx (.lst (.cons (.cst (.str [97])) (.cons (.cst (.str [45])) (.cons (.cst (.str [47])) (.cons (.cst (.str [55])) .nil))))) (.bin .mod (.blt .int (.cons (.var 0) .nil)) (.cst (.int 4)))) (.cst (.int 119))))) [some (.int (d : Nat)), none, none, none] S = .nx [some (.int (d : Nat)), some (.str (dRep (sg r) 119)), none, none] S := by
    have h4 : (4 : Int) ≠ 0 := by decide
    have p : pyAt [D.str [97], D.str [45], D.str [47], D.str [55]] ((r : Nat) : Int) = some (.str (sg r)) := by
      match r, hr4 with
      | 0, _ => rfl
      | 1, _ => rfl
      | 2, _ => rfl
      | 3, _ => rfl
    have hd : divOk 4 = true := by decide
    have hs : ((sg r).length * 119 ≤ line ∧ -9223372036854775808 ≤ (119 : Int) ∧ (119 : Int) < 9223372036854775808) = True := by
      match r, hr4 with
      | 0, _ => simp [line, sg]
      | 1, _ => simp [line, sg]
      | 2, _ => simp [line, sg]
      | 3, _ => simp [line, sg]
    have l4 : ([D.str [97], D.str [45], D.str [47], D.str [55]].length ≤ line) = True := by simp [line]
    have n119 : (119 : Int).toNat = 119 := rfl
    have u : ∀ x, D.und S.length (.str x) = true := fun x => rfl
    simp only [l_var, l_var1, l_glo, l_glo1, l_cst, l_nil, l_cons, l_L1, l_L2, l_neg, l_neg1, l_not, l_not1, l_rev, l_rev1, l_lrg, l_lrg1, l_cdx, l_cdx1, l_isc, l_isc1, l_tdy, l_tdy1, l_bin, l_bin1, l_bin2, l_cmp, l_cmp1, l_cmp2, l_idx, l_idx1, l_idx2, l_chn, l_chn1, l_chn2, l_chn3, l_chn3f, l_chn4, l_ite, l_iteT, l_iteF, l_and, l_and1, l_and2, l_andG, l_andS, l_or, l_or1, l_or2, l_orG, l_orS, l_sli, l_sli1, l_sli2, l_sli3, l_tup, l_tup1, l_lst, l_lst1, l_call, l_call1, l_blt, l_blt1, l_mth, l_mth1, l_mth2, l_snil, l_scons, l_sqn, l_sqr, l_sqb, l_sqc, l_asg, l_asg1, l_asgs, l_asgs1, l_asgs2, l_asgs3, l_bT, l_b1, l_bn, l_bc, l_k0, l_k1, l_exp, l_exp1, l_ret, l_ret1, l_retN, l_brk, l_cnt, l_pss, l_if, l_ifT, l_ifF, l_sub, l_sub1, l_sub2, l_sub3, l_set, l_for, l_lc, l_seq, l_seqL, l_seqL1, l_seqT, l_seqS, l_fsh, l_rng1, l_rng11, l_enm, l_enmT, o_addI, o_subI, o_mulI, o_fdivI, o_modI, o_powI, o_addS, o_addT, o_addL, o_addL1, o_repL, o_repL1, o_repS, c_lt, c_le, c_gt, c_ge, c_eq, c_eq1, c_ne, c_ne1, c_in, c_nin, e_II, e_SS, d_II, d_SS, n_int, n_bl, x_tup, x_at, x_atS, x_str, x_lst, x_lst1, b_int, b_lenT, b_lenS, b_lenL, b_lenL1, b_tupT, b_tupL, b_tupL1, b_lstT, b_lstL, b_lstL1, b_min, b_max, b_isi, b_isi1, b_repr, m_app, m_app1, m_appOk, m_popOk, m_lstB, v_set, v_set1, t_op, t_lop, i_N, i_nN, i_T, i_nT, i_F, i_nF, List.getElem?_cons_succ, List.getElem?_cons_zero, List.set_cons_succ, List.set_cons_zero, st_get, st_get0, st_set, st_set0, if_true, tidy_app, tidy_same, trim_pure, trim_pure0, Nat.zero_le, Nat.zero_add, Nat.reduceAdd, Nat.reduceSub, List.replicate, List.map_cons, List.map_nil, List.cons_append, List.nil_append, l4, st_alloc0, f1, h4, p, hs, hd, u, n119, ne_eq, not_false_eq_true]
  have s2 : ∀ B : List Nat, B.length = 119 → evS (cx N S) (.asg 2 (.tdy (.lst (.cons (.bin .add (.var 1) (.cst (.str [97]))) (.cons (.bin .add (.var 1) (.cst (.str [98]))) (.cons (.bin .add (.bin .add (.bin .add (.sli (.var 1) (.cst .non) (.cst (.int 60))) (.cst (.str [122]))) (.sli (.var 1) (.cst .non) (.cst (.int 58)))) (.cst (.str [97]))) (.cons (.cst (.str [97])) (.cons (.bin .add (.var 1) (.cst (.str [48]))) (.cons (.bin .add (.sli (.var 1) (.cst .non) (.cst (.int 118))) (.cst (.str [97]))) .nil))))))))) [some (.int (d : Nat)), some (.str B), none, none] S =
      .nx [some (.int (d : Nat)), some (.str B), some (.ref S.length), none] (S ++ [.lst ((pool0 B).map .str)]) := by
    intro B hB
    have c1 := cut_len B 60 (by decide)
    have c2 := cut_len B 58 (by decide)
    have c3 := cut_len B 118 (by decide)
    rw [hB] at c1 c2 c3
    have el : line = 16777216 := rfl
    have l1 : (119 ≤ line) = True := by simp [line]
    have l2 : (119 + 1 ≤ line) = True := by simp [line]
    have l3 : ((cut B none (some 60)).length + 1 ≤ line) = True := by simp; omega
    have l4 : ((cut B none (some 60)).length + 1 + (cut B none (some 58)).length ≤ line) = True := by simp; omega
    have l5 : ((cut B none (some 60)).length + 1 + (cut B none (some 58)).length + 1 ≤ line) = True := by simp; omega
    have l6 : ((cut B none (some 118)).length + 1 ≤ line) = True := by simp; omega
    have l7 : (6 ≤ line) = True := by simp [line]
    have tr : ∀ xs, D.unds S.length xs = true → trim S.length (.ref S.length) (S ++ [.lst xs]) = .ok (.ref S.length) (S ++ [.lst xs]) := fun xs h => trim_lst0 rfl h
    have hu : D.unds S.length ((pool0 B).map .str) = true := unds_map fun _ _ => rfl
    have b1 : bnd true .non = some none := rfl
    have b2 : ∀ i, bnd false (.int i) = some (some i) := fun _ => rfl
    have sk : ∀ l h x T, sliK (some l) (some h) x T = sliop x l h T := fun _ _ _ _ => rfl
    have ss : ∀ xs l h (T : Sto), sliop (.str xs) l h T = if xs.length ≤ line then .ok (.str (cut xs l h)) T else .st := fun _ _ _ _ => rfl
    have nn : E.isNon (.cst .non) = true := rfl
    have ni : ∀ i, E.isNon (.cst (.int i)) = false := fun _ => rfl
    simp only [l_var, l_var1, l_glo, l_glo1, l_cst, l_nil, l_cons, l_L1, l_L2, l_neg, l_neg1, l_not, l_not1, l_rev, l_rev1, l_lrg, l_lrg1, l_cdx, l_cdx1, l_isc, l_isc1, l_tdy, l_tdy1, l_bin, l_bin1, l_bin2, l_cmp, l_cmp1, l_cmp2, l_idx, l_idx1, l_idx2, l_chn, l_chn1, l_chn2, l_chn3, l_chn3f, l_chn4, l_ite, l_iteT, l_iteF, l_and, l_and1, l_and2, l_andG, l_andS, l_or, l_or1, l_or2, l_orG, l_orS, l_sli, l_sli1, l_sli2, l_sli3, l_tup, l_tup1, l_lst, l_lst1, l_call, l_call1, l_blt, l_blt1, l_mth, l_mth1, l_mth2, l_snil, l_scons, l_sqn, l_sqr, l_sqb, l_sqc, l_asg, l_asg1, l_asgs, l_asgs1, l_asgs2, l_asgs3, l_bT, l_b1, l_bn, l_bc, l_k0, l_k1, l_exp, l_exp1, l_ret, l_ret1, l_retN, l_brk, l_cnt, l_pss, l_if, l_ifT, l_ifF, l_sub, l_sub1, l_sub2, l_sub3, l_set, l_for, l_lc, l_seq, l_seqL, l_seqL1, l_seqT, l_seqS, l_fsh, l_rng1, l_rng11, l_enm, l_enmT, o_addI, o_subI, o_mulI, o_fdivI, o_modI, o_powI, o_addS, o_addT, o_addL, o_addL1, o_repL, o_repL1, o_repS, c_lt, c_le, c_gt, c_ge, c_eq, c_eq1, c_ne, c_ne1, c_in, c_nin, e_II, e_SS, d_II, d_SS, n_int, n_bl, x_tup, x_at, x_atS, x_str, x_lst, x_lst1, b_int, b_lenT, b_lenS, b_lenL, b_lenL1, b_tupT, b_tupL, b_tupL1, b_lstT, b_lstL, b_lstL1, b_min, b_max, b_isi, b_isi1, b_repr, m_app, m_app1, m_appOk, m_popOk, m_lstB, v_set, v_set1, t_op, t_lop, i_N, i_nN, i_T, i_nT, i_F, i_nF, List.getElem?_cons_succ, List.getElem?_cons_zero, List.set_cons_succ, List.set_cons_zero, st_get, st_get0, st_set, st_set0, if_true, tidy_app, tidy_same, trim_pure, trim_pure0, Nat.zero_le, Nat.zero_add, Nat.reduceAdd, Nat.reduceSub, List.replicate, List.map_cons, List.map_nil, List.cons_append, List.nil_append, hB, b1, b2, sk, ss, nn, ni, l1, l2, l3, l4, l5, l6, l7, List.length_append, List.length_cons, List.length_nil, st_alloc0]
    have htr := tr _ hu
    show k_asg 2 _ (trim S.length (.ref S.length) (S ++ [.lst ((pool0 B).map .str)])) = _
    rw [htr]
    rfl
  have hB : (dRep (sg r) 119).length = 119 := by
    match r, hr4 with
    | 0, _ => rfl
    | 1, _ => rfl
    | 2, _ => rfl
    | 3, _ => rfl
  have s2' := s2 _ hB
  have hl6 : ((pool0 (dRep (sg r) 119)).map D.str).length = 6 := rfl
  have hp : (poolL r t).map D.str = ((pool0 (dRep (sg r) 119)).map D.str).drop t ++ ((pool0 (dRep (sg r) 119)).map D.str).take t := by
    unfold poolL
    rw [List.map_append, List.map_drop, List.map_take]
  rw [hp]
  have hu : D.unds S.length ((pool0 (dRep (sg r) 119)).map .str) = true := unds_map fun _ _ => rfl
  generalize (pool0 (dRep (sg r) 119)).map D.str = P at s2' hl6 hu ⊢
  generalize dRep (sg r) 119 = B at s1 s2'
  have k1 := cut_drop P t (by omega)
  have k2 := cut_take P t (by omega)
  have h4 : ((4 : Int) ≠ 0) = True := by simp
  have h6 : ((6 : Int) ≠ 0) = True := by simp
  have hd : divOk 4 = true := by decide
  have b1 : bnd true .non = some none := rfl
  have b2 : ∀ i, bnd false (.int i) = some (some i) := fun _ => rfl
  have sk : ∀ l h x T, sliK (some l) (some h) x T = sliop x l h T := fun _ _ _ _ => rfl
  have ss : ∀ k xs l h (T : Sto), T[k]? = some (.lst xs) → sliop (.ref k) l h T = alloc (.lst (cut xs l h)) T := fun k xs l h T hk => by simp only [sliop, hk]
  have nn : E.isNon (.cst .non) = true := rfl
  have nv : ∀ i, E.isNon (.var i) = false := fun _ => rfl
  have ss0 : ∀ o l h, sliop (.ref S.length) l h (S ++ .lst P :: o) = alloc (.lst (cut P l h)) (S ++ .lst P :: o) := fun o l h => ss _ _ _ _ _ (by rw [st_get0]; rfl)
  have la : ((P.drop t).length + (P.take t).length ≤ line) = True := by simp [line]; omega
  refine call_rt (d := .ref (S.length + 3)) (S1 := S ++ [.lst P, .lst (P.drop t), .lst (P.take t), .lst (P.drop t ++ P.take t)]) e0 rfl ?_ (trim_lst (k := 3) rfl (unds_app (unds_drop hu) (unds_take hu)))
  show evSs (cx N S) i__law_pool.body [some (.int (d : Nat)), none, none, none] S = _
  unfold i__law_pool
  dsimp only
  rw [seq_nx s1, seq_nx s2']
  simp only [l_var, l_var1, l_glo, l_glo1, l_cst, l_nil, l_cons, l_L1, l_L2, l_neg, l_neg1, l_not, l_not1, l_rev, l_rev1, l_lrg, l_lrg1, l_cdx, l_cdx1, l_isc, l_isc1, l_tdy, l_tdy1, l_bin, l_bin1, l_bin2, l_cmp, l_cmp1, l_cmp2, l_idx, l_idx1, l_idx2, l_chn, l_chn1, l_chn2, l_chn3, l_chn3f, l_chn4, l_ite, l_iteT, l_iteF, l_and, l_and1, l_and2, l_andG, l_andS, l_or, l_or1, l_or2, l_orG, l_orS, l_sli, l_sli1, l_sli2, l_sli3, l_tup, l_tup1, l_lst, l_lst1, l_call, l_call1, l_blt, l_blt1, l_mth, l_mth1, l_mth2, l_snil, l_scons, l_sqn, l_sqr, l_sqb, l_sqc, l_asg, l_asg1, l_asgs, l_asgs1, l_asgs2, l_asgs3, l_bT, l_b1, l_bn, l_bc, l_k0, l_k1, l_exp, l_exp1, l_ret, l_ret1, l_retN, l_brk, l_cnt, l_pss, l_if, l_ifT, l_ifF, l_sub, l_sub1, l_sub2, l_sub3, l_set, l_for, l_lc, l_seq, l_seqL, l_seqL1, l_seqT, l_seqS, l_fsh, l_rng1, l_rng11, l_enm, l_enmT, o_addI, o_subI, o_mulI, o_fdivI, o_modI, o_powI, o_addS, o_addT, o_addL, o_addL1, o_repL, o_repL1, o_repS, c_lt, c_le, c_gt, c_ge, c_eq, c_eq1, c_ne, c_ne1, c_in, c_nin, e_II, e_SS, d_II, d_SS, n_int, n_bl, x_tup, x_at, x_atS, x_str, x_lst, x_lst1, b_int, b_lenT, b_lenS, b_lenL, b_lenL1, b_tupT, b_tupL, b_tupL1, b_lstT, b_lstL, b_lstL1, b_min, b_max, b_isi, b_isi1, b_repr, m_app, m_app1, m_appOk, m_popOk, m_lstB, v_set, v_set1, t_op, t_lop, i_N, i_nN, i_T, i_nT, i_F, i_nF, List.getElem?_cons_succ, List.getElem?_cons_zero, List.set_cons_succ, List.set_cons_zero, st_get, st_get0, st_set, st_set0, if_true, tidy_app, tidy_same, trim_pure, trim_pure0, Nat.zero_le, Nat.zero_add, Nat.reduceAdd, Nat.reduceSub, List.replicate, List.map_cons, List.map_nil, List.cons_append, List.nil_append, h4, h6, hd, f2, nn, nv, b1, b2, sk, ss0, k1, k2, st_alloc, List.length_cons, List.length_nil, la]
theorem size_ok {d : Nat} : cl (N + 1) 10 [.int (d : Nat)] S = .ok (.int (([0, 1, 60, 2 + d / 4 % 58].getD (d % 4) 0 : Nat) : Int)) S := by
  have e0 : L.prog[10]? = some i__law_size := rfl
  have f1 : ((d : Nat) : Int).fmod 4 = (d % 4 : Nat) := by rw [Int.fmod_eq_emod_of_nonneg _ (by decide)]; omega
  have f2 : (((d : Nat) : Int).fdiv 4).fmod 58 = (d / 4 % 58 : Nat) := by rw [Int.fdiv_eq_ediv_of_nonneg _ (by decide), Int.fmod_eq_emod_of_nonneg _ (by decide)]; omega
  have h4 : ((4 : Int) ≠ 0) = True := by simp
  have h58 : ((58 : Int) ≠ 0) = True := by simp
  have hd : divOk 4 = true := by decide
  have l4 : ∀ x, ([D.int 0, D.int 1, D.int 60, D.int x].length ≤ line) = True := fun x => by simp [line]
  have p : pyAt [D.int 0, D.int 1, D.int 60, D.int (2 + ((d / 4 % 58 : Nat) : Int))] ((d % 4 : Nat) : Int) = some (.int (([0, 1, 60, 2 + d / 4 % 58].getD (d % 4) 0 : Nat) : Int)) := by
    have hr4 : d % 4 < 4 := by omega
    generalize d % 4 = r at hr4 ⊢
    match r, hr4 with
    | 0, _ => rfl
    | 1, _ => rfl
    | 2, _ => rfl
    | 3, _ => rfl
  refine call_rt (d := .int (([0, 1, 60, 2 + d / 4 % 58].getD (d % 4) 0 : Nat) : Int)) (S1 := S ++ [.lst [D.int 0, D.int 1, D.int 60, D.int (2 + ((d / 4 % 58 : Nat) : Int))]]) e0 rfl ?_ (trim_pure rfl)
  show evSs (cx N S) i__law_size.body [some (.int (d : Nat))] S = _
  simp only [i__law_size, l_var, l_var1, l_glo, l_glo1, l_cst, l_nil, l_cons, l_L1, l_L2, l_neg, l_neg1, l_not, l_not1, l_rev, l_rev1, l_lrg, l_lrg1, l_cdx, l_cdx1, l_isc, l_isc1, l_tdy, l_tdy1, l_bin, l_bin1, l_bin2, l_cmp, l_cmp1, l_cmp2, l_idx, l_idx1, l_idx2, l_chn, l_chn1, l_chn2, l_chn3, l_chn3f, l_chn4, l_ite, l_iteT, l_iteF, l_and, l_and1, l_and2, l_andG, l_andS, l_or, l_or1, l_or2, l_orG, l_orS, l_sli, l_sli1, l_sli2, l_sli3, l_tup, l_tup1, l_lst, l_lst1, l_call, l_call1, l_blt, l_blt1, l_mth, l_mth1, l_mth2, l_snil, l_scons, l_sqn, l_sqr, l_sqb, l_sqc, l_asg, l_asg1, l_asgs, l_asgs1, l_asgs2, l_asgs3, l_bT, l_b1, l_bn, l_bc, l_k0, l_k1, l_exp, l_exp1, l_ret, l_ret1, l_retN, l_brk, l_cnt, l_pss, l_if, l_ifT, l_ifF, l_sub, l_sub1, l_sub2, l_sub3, l_set, l_for, l_lc, l_seq, l_seqL, l_seqL1, l_seqT, l_seqS, l_fsh, l_rng1, l_rng11, l_enm, l_enmT, o_addI, o_subI, o_mulI, o_fdivI, o_modI, o_powI, o_addS, o_addT, o_addL, o_addL1, o_repL, o_repL1, o_repS, c_lt, c_le, c_gt, c_ge, c_eq, c_eq1, c_ne, c_ne1, c_in, c_nin, e_II, e_SS, d_II, d_SS, n_int, n_bl, x_tup, x_at, x_atS, x_str, x_lst, x_lst1, b_int, b_lenT, b_lenS, b_lenL, b_lenL1, b_tupT, b_tupL, b_tupL1, b_lstT, b_lstL, b_lstL1, b_min, b_max, b_isi, b_isi1, b_repr, m_app, m_app1, m_appOk, m_popOk, m_lstB, v_set, v_set1, t_op, t_lop, i_N, i_nN, i_T, i_nT, i_F, i_nF, List.getElem?_cons_succ, List.getElem?_cons_zero, List.set_cons_succ, List.set_cons_zero, st_get, st_get0, st_set, st_set0, if_true, tidy_app, tidy_same, trim_pure, trim_pure0, Nat.zero_le, Nat.zero_add, Nat.reduceAdd, Nat.reduceSub, List.replicate, List.map_cons, List.map_nil, List.cons_append, List.nil_append, f1, f2, h4, h58, hd, l4, st_alloc0, p]
end
end Lw

set_option Elab.async false
set_option linter.all false
set_option autoImplicit false
set_option maxRecDepth 100000
set_option maxHeartbeats 4000000
/-! Kh: the plain law k85: the law's classes. -/
namespace Lw
open Ev
/-- whole numbers as values -/
def nD (ks : List Nat) : List D := ks.map fun k => .int (k : Nat)
theorem nD_len {ks : List Nat} : (nD ks).length = ks.length := List.length_map _
theorem nD_at {ks : List Nat} {i : Nat} (h : i < ks.length) : pyAt (nD ks) (i : Nat) = some (.int ((ks.getD i 0 : Nat) : Int)) := by
  rw [pyAt_nat _ _ (by rw [nD_len]; exact h)]
  unfold nD
  rw [List.getElem_map, List.getD_eq_getElem?_getD, List.getElem?_eq_getElem h]
  rfl
theorem nD_und {k : Nat} {ks : List Nat} : D.unds k (nD ks) = true := unds_map fun _ _ => rfl
def szN (d : Nat) : Nat := [0, 1, 60, 2 + d / 4 % 58].getD (d % 4) 0
theorem szN_le {d : Nat} : szN d ≤ 60 := by
  unfold szN
  have h : d % 4 < 4 := by omega
  generalize d % 4 = r at h ⊢
  match r, h with
  | 0, _ => simp
  | 1, _ => simp
  | 2, _ => simp
  | 3, _ => simp; omega
def clsN (ks : List Nat) (kn off sz : Nat) : List Nat := (List.range sz).map fun k => ks.getD (off + k) 0 % kn
theorem clsN_len {ks : List Nat} {kn off sz : Nat} : (clsN ks kn off sz).length = sz := by simp [clsN]
section
variable {N : Nat} {S : Sto} {ks : List Nat} {dr : Nat}
theorem cls_lc {U : Sto} {r2 r3 : Option D} {off sz kn : Nat} (hd : U[dr]? = some (.lst (nD ks))) (hk : 0 < kn) (hs : sz ≤ 60) (ho : off + sz ≤ ks.length) :
    k_lc (cx N S) [4] true [4] (.cst (.bl true)) (.bin .mod (.blt .int (.cons (.idx (.var 0) (.bin .add (.cst (.int (off : Nat))) (.var 4))) .nil)) (.var 1)) [some (.ref dr), some (.int (kn : Nat)), r2, r3, none] (.ok (rngL 0 sz) [] U) =
      alloc (.lst (nD (clsN ks kn off sz))) U := by
  have hL : lcL [] (fun d => bindTg true [4] d (kill [4] [some (.ref dr), some (.int (kn : Nat)), r2, r3, none])) (fun ρ S' => evE (cx N S) (.cst (.bl true)) ρ S') (fun ρ S' => evE (cx N S) (.bin .mod (.blt .int (.cons (.idx (.var 0) (.bin .add (.cst (.int (off : Nat))) (.var 4))) .nil)) (.var 1)) ρ S') (rngL 0 sz) U =
      .ok ((rngL 0 sz).map fun x => match x with
        | .int i => .int ((ks.getD (off + i.toNat) 0 % kn : Nat) : Int)
        | _ => .non) U := by
    refine lcL_map rfl fun x hx => ?_
    rw [rngL_ints] at hx
    obtain ⟨k, hk2, rfl⟩ := List.mem_map.mp hx
    have hk3 := List.mem_range.mp hk2
    refine ⟨_, rfl, by simp only [l_var, l_var1, l_glo, l_glo1, l_cst, l_nil, l_cons, l_L1, l_L2, l_neg, l_neg1, l_not, l_not1, l_rev, l_rev1, l_lrg, l_lrg1, l_cdx, l_cdx1, l_isc, l_isc1, l_tdy, l_tdy1, l_bin, l_bin1, l_bin2, l_cmp, l_cmp1, l_cmp2, l_idx, l_idx1, l_idx2, l_chn, l_chn1, l_chn2, l_chn3, l_chn3f, l_chn4, l_ite, l_iteT, l_iteF, l_and, l_and1, l_and2, l_andG, l_andS, l_or, l_or1, l_or2, l_orG, l_orS, l_sli, l_sli1, l_sli2, l_sli3, l_tup, l_tup1, l_lst, l_lst1, l_call, l_call1, l_blt, l_blt1, l_mth, l_mth1, l_mth2, l_snil, l_scons, l_sqn, l_sqr, l_sqb, l_sqc, l_asg, l_asg1, l_asgs, l_asgs1, l_asgs2, l_asgs3, l_bT, l_b1, l_bn, l_bc, l_k0, l_k1, l_exp, l_exp1, l_ret, l_ret1, l_retN, l_brk, l_cnt, l_pss, l_if, l_ifT, l_ifF, l_sub, l_sub1, l_sub2, l_sub3, l_set, l_for, l_lc, l_seq, l_seqL, l_seqL1, l_seqT, l_seqS, l_fsh, l_rng1, l_rng11, l_enm, l_enmT, o_addI, o_subI, o_mulI, o_fdivI, o_modI, o_powI, o_addS, o_addT, o_addL, o_addL1, o_repL, o_repL1, o_repS, c_lt, c_le, c_gt, c_ge, c_eq, c_eq1, c_ne, c_ne1, c_in, c_nin, e_II, e_SS, d_II, d_SS, n_int, n_bl, x_tup, x_at, x_atS, x_str, x_lst, x_lst1, b_int, b_lenT, b_lenS, b_lenL, b_lenL1, b_tupT, b_tupL, b_tupL1, b_lstT, b_lstL, b_lstL1, b_min, b_max, b_isi, b_isi1, b_repr, m_app, m_app1, m_appOk, m_popOk, m_lstB, v_set, v_set1, t_op, t_lop, i_N, i_nN, i_T, i_nT, i_F, i_nF, List.getElem?_cons_succ, List.getElem?_cons_zero, List.set_cons_succ, List.set_cons_zero, st_get, st_get0, st_set, st_set0, if_true, tidy_app, tidy_same, trim_pure, trim_pure0, Nat.zero_le, Nat.zero_add, Nat.reduceAdd, Nat.reduceSub, List.replicate, List.map_cons, List.map_nil, List.cons_append, List.nil_append], ?_⟩
    show evE _ _ [some (.ref dr), some (.int (kn : Nat)), r2, r3, some (.int (0 + (k : Nat)))] U = _
    have e1 : ((off : Nat) : Int) + (0 + ((k : Nat) : Int)) = ((off + k : Nat) : Int) := by omega
    have e2 := nD_at (ks := ks) (i := off + k) (by omega)
    have e3 : (((kn : Nat) : Int) ≠ 0) = True := by simp; omega
    have e4 : (((ks.getD (off + k) 0 : Nat) : Int)).fmod ((kn : Nat) : Int) = ((ks.getD (off + k) 0 % kn : Nat) : Int) := by rw [Int.fmod_eq_emod_of_nonneg _ (by omega)]; omega
    have e5 : (0 + ((k : Nat) : Int)).toNat = k := by omega
    simp only [l_var, l_var1, l_glo, l_glo1, l_cst, l_nil, l_cons, l_L1, l_L2, l_neg, l_neg1, l_not, l_not1, l_rev, l_rev1, l_lrg, l_lrg1, l_cdx, l_cdx1, l_isc, l_isc1, l_tdy, l_tdy1, l_bin, l_bin1, l_bin2, l_cmp, l_cmp1, l_cmp2, l_idx, l_idx1, l_idx2, l_chn, l_chn1, l_chn2, l_chn3, l_chn3f, l_chn4, l_ite, l_iteT, l_iteF, l_and, l_and1, l_and2, l_andG, l_andS, l_or, l_or1, l_or2, l_orG, l_orS, l_sli, l_sli1, l_sli2, l_sli3, l_tup, l_tup1, l_lst, l_lst1, l_call, l_call1, l_blt, l_blt1, l_mth, l_mth1, l_mth2, l_snil, l_scons, l_sqn, l_sqr, l_sqb, l_sqc, l_asg, l_asg1, l_asgs, l_asgs1, l_asgs2, l_asgs3, l_bT, l_b1, l_bn, l_bc, l_k0, l_k1, l_exp, l_exp1, l_ret, l_ret1, l_retN, l_brk, l_cnt, l_pss, l_if, l_ifT, l_ifF, l_sub, l_sub1, l_sub2, l_sub3, l_set, l_for, l_lc, l_seq, l_seqL, l_seqL1, l_seqT, l_seqS, l_fsh, l_rng1, l_rng11, l_enm, l_enmT, o_addI, o_subI, o_mulI, o_fdivI, o_modI, o_powI, o_addS, o_addT, o_addL, o_addL1, o_repL, o_repL1, o_repS, c_lt, c_le, c_gt, c_ge, c_eq, c_eq1, c_ne, c_ne1, c_in, c_nin, e_II, e_SS, d_II, d_SS, n_int, n_bl, x_tup, x_at, x_atS, x_str, x_lst, x_lst1, b_int, b_lenT, b_lenS, b_lenL, b_lenL1, b_tupT, b_tupL, b_tupL1, b_lstT, b_lstL, b_lstL1, b_min, b_max, b_isi, b_isi1, b_repr, m_app, m_app1, m_appOk, m_popOk, m_lstB, v_set, v_set1, t_op, t_lop, i_N, i_nN, i_T, i_nT, i_F, i_nF, List.getElem?_cons_succ, List.getElem?_cons_zero, List.set_cons_succ, List.set_cons_zero, st_get, st_get0, st_set, st_set0, if_true, tidy_app, tidy_same, trim_pure, trim_pure0, Nat.zero_le, Nat.zero_add, Nat.reduceAdd, Nat.reduceSub, List.replicate, List.map_cons, List.map_nil, List.cons_append, List.nil_append, hd, e1, e2, e3, e4, e5]
  rw [l_lc1 (by rw [rngL_ints, List.length_map, List.length_range]; have : line = 16777216 := rfl; omega) hL]
  congr 2
  rw [rngL_ints, List.map_map]
  unfold nD clsN
  rw [List.map_map]
  apply List.map_congr_left
  intro k _
  show D.int ((ks.getD (off + (0 + ((k : Nat) : Int)).toNat) 0 % kn : Nat) : Int) = _
  have e5 : (0 + ((k : Nat) : Int)).toNat = k := by omega
  rw [e5]
  rfl
/-- the second one drawn anew -/
def mixN (ks one : List Nat) : Nat → List Nat → List Nat
  | 0, two => two
  | k + 1, two => if ks.getD (80 + k) 0 / 7 % 4 > 0 then (mixN ks one k two).set k (one.getD k 0) else mixN ks one k two
theorem mixN_len {one two : List Nat} : ∀ k, (mixN ks one k two).length = two.length
  | 0 => rfl
  | k + 1 => by
    unfold mixN
    split
    · rw [List.length_set, mixN_len k]
    · exact mixN_len k
theorem mixN_lt {one two : List Nat} {kn : Nat} (hk : 0 < kn) (h1 : ∀ x ∈ one, x < kn) (h2 : ∀ x ∈ two, x < kn) : ∀ k, ∀ x ∈ mixN ks one k two, x < kn
  | 0 => h2
  | k + 1 => by
    unfold mixN
    split
    · intro x hx
      rcases List.mem_or_eq_of_mem_set hx with h | h
      · exact mixN_lt hk h1 h2 k x h
      · subst h
        rw [List.getD_eq_getElem?_getD]
        cases he : one[k]? with
        | none => exact hk
        | some y => exact h1 y (List.mem_of_getElem? he)
    · exact mixN_lt hk h1 h2 k
theorem mix_loop {U : Sto} {one two : List Nat} {kn : D} (hd : U[dr]? = some (.lst (nD ks))) (hU : S.length ≤ U.length) (ho : 140 ≤ ks.length) (h1 : one.length ≤ 60) (h2 : two.length ≤ 60) :
    ∃ o4, forL [] (tgF true [4]) [4] (bodyF (cx N S) b0__law_classes) (rngL 0 (min one.length two.length)) [some (.ref dr), some kn, some (.ref U.length), some (.ref (U.length + 1)), none] (U ++ [.lst (nD one), .lst (nD two)]) =
      .nx (kill [4] [some (.ref dr), some kn, some (.ref U.length), some (.ref (U.length + 1)), o4]) (U ++ [.lst (nD one), .lst (nD (mixN ks one (min one.length two.length) two))]) := by
  obtain ⟨ρ', S', q1, ⟨x, q2⟩, q3⟩ := forL_ind (w := []) (bd := tgF true [4]) (ks := [4]) (body := bodyF (cx N S) b0__law_classes)
    (fun k ρ T => (∃ o4, ρ = [some (.ref dr), some kn, some (.ref U.length), some (.ref (U.length + 1)), o4]) ∧ T = U ++ [.lst (nD one), .lst (nD (mixN ks one k two))]) (xs := rngL 0 (min one.length two.length))
    (ρ := [some (.ref dr), some kn, some (.ref U.length), some (.ref (U.length + 1)), none]) (S := U ++ [.lst (nD one), .lst (nD two)]) ⟨⟨_, rfl⟩, rfl⟩ (fun _ _ _ _ => rfl) (fun k x ρ T hx h => by
      obtain ⟨⟨y, rfl⟩, rfl⟩ := h
      have hk : k < min one.length two.length := by
        have := (List.getElem?_eq_some_iff.mp hx).1
        rw [rngL_ints, List.length_map, List.length_range] at this
        exact this
      have hx' : x = .int (k : Nat) := by
        rw [rngL_ints, List.getElem?_map, List.getElem?_range hk] at hx
        simp at hx
        exact hx.symm
      subst hx'
      have hdr := (List.getElem?_eq_some_iff.mp hd).1
      have g0 : ∀ l, (U ++ l)[dr]? = some (.lst (nD ks)) := fun l => by rw [List.getElem?_append_left hdr]; exact hd
      have e1 : (80 : Int) + ((k : Nat) : Int) = ((80 + k : Nat) : Int) := by omega
      have e2 := nD_at (ks := ks) (i := 80 + k) (by omega)
      have e3 : (((ks.getD (80 + k) 0 : Nat) : Int).fdiv 7).fmod 4 = ((ks.getD (80 + k) 0 / 7 % 4 : Nat) : Int) := by rw [Int.fdiv_eq_ediv_of_nonneg _ (by decide), Int.fmod_eq_emod_of_nonneg _ (by decide)]; omega
      have h4 : ((4 : Int) ≠ 0) = True := by simp
      have d7 : divOk 7 = true := by decide
      have e4 := nD_at (ks := one) (i := k) (by omega)
      refine ⟨_, _, _, rfl, .inl ?_, ⟨some (.int (k : Nat)), rfl⟩, rfl⟩
      show evSs (cx N S) b0__law_classes [some (.ref dr), some kn, some (.ref U.length), some (.ref (U.length + 1)), some (.int (k : Nat))] _ = _
      by_cases hc : ks.getD (80 + k) 0 / 7 % 4 > 0
      · have x1 : decide ((0 : Int) < ((ks.getD (80 + k) 0 / 7 % 4 : Nat) : Int)) = true := decide_eq_true (by omega)
        have em : mixN ks one (k + 1) two = (mixN ks one k two).set k (one.getD k 0) := by
          show (if _ then _ else _) = _
          rw [if_pos hc]
        have p : pyIx (nD (mixN ks one k two)).length ((k : Nat) : Int) = some k := pyIx_nat (by rw [nD_len, mixN_len]; omega)
        rw [em]
        have nu : ¬ (U.length + 1 < (cx N S).n0 ∧ (D.int ((one.getD k 0 : Nat) : Int)).pure = false) := fun h => by cases h.2
        have hset : (nD (mixN ks one k two)).set k (.int ((one.getD k 0 : Nat) : Int)) = nD ((mixN ks one k two).set k (one.getD k 0)) := by
          unfold nD
          rw [List.map_set]
        simp only [b0__law_classes, l_var, l_var1, l_glo, l_glo1, l_cst, l_nil, l_cons, l_L1, l_L2, l_neg, l_neg1, l_not, l_not1, l_rev, l_rev1, l_lrg, l_lrg1, l_cdx, l_cdx1, l_isc, l_isc1, l_tdy, l_tdy1, l_bin, l_bin1, l_bin2, l_cmp, l_cmp1, l_cmp2, l_idx, l_idx1, l_idx2, l_chn, l_chn1, l_chn2, l_chn3, l_chn3f, l_chn4, l_ite, l_iteT, l_iteF, l_and, l_and1, l_and2, l_andG, l_andS, l_or, l_or1, l_or2, l_orG, l_orS, l_sli, l_sli1, l_sli2, l_sli3, l_tup, l_tup1, l_lst, l_lst1, l_call, l_call1, l_blt, l_blt1, l_mth, l_mth1, l_mth2, l_snil, l_scons, l_sqn, l_sqr, l_sqb, l_sqc, l_asg, l_asg1, l_asgs, l_asgs1, l_asgs2, l_asgs3, l_bT, l_b1, l_bn, l_bc, l_k0, l_k1, l_exp, l_exp1, l_ret, l_ret1, l_retN, l_brk, l_cnt, l_pss, l_if, l_ifT, l_ifF, l_sub, l_sub1, l_sub2, l_sub3, l_set, l_for, l_lc, l_seq, l_seqL, l_seqL1, l_seqT, l_seqS, l_fsh, l_rng1, l_rng11, l_enm, l_enmT, o_addI, o_subI, o_mulI, o_fdivI, o_modI, o_powI, o_addS, o_addT, o_addL, o_addL1, o_repL, o_repL1, o_repS, c_lt, c_le, c_gt, c_ge, c_eq, c_eq1, c_ne, c_ne1, c_in, c_nin, e_II, e_SS, d_II, d_SS, n_int, n_bl, x_tup, x_at, x_atS, x_str, x_lst, x_lst1, b_int, b_lenT, b_lenS, b_lenL, b_lenL1, b_tupT, b_tupL, b_tupL1, b_lstT, b_lstL, b_lstL1, b_min, b_max, b_isi, b_isi1, b_repr, m_app, m_app1, m_appOk, m_popOk, m_lstB, v_set, v_set1, t_op, t_lop, i_N, i_nN, i_T, i_nT, i_F, i_nF, List.getElem?_cons_succ, List.getElem?_cons_zero, List.set_cons_succ, List.set_cons_zero, st_get, st_get0, st_set, st_set0, if_true, tidy_app, tidy_same, trim_pure, trim_pure0, Nat.zero_le, Nat.zero_add, Nat.reduceAdd, Nat.reduceSub, List.replicate, List.map_cons, List.map_nil, List.cons_append, List.nil_append, g0, e1, e2, e3, h4, d7, x1, e4, p, nu, if_false, Option.map_some, hset]
      · have x1 : decide ((0 : Int) < ((ks.getD (80 + k) 0 / 7 % 4 : Nat) : Int)) = false := decide_eq_false (by omega)
        have em : mixN ks one (k + 1) two = mixN ks one k two := by
          show (if _ then _ else _) = _
          rw [if_neg hc]
        rw [em]
        simp only [b0__law_classes, l_var, l_var1, l_glo, l_glo1, l_cst, l_nil, l_cons, l_L1, l_L2, l_neg, l_neg1, l_not, l_not1, l_rev, l_rev1, l_lrg, l_lrg1, l_cdx, l_cdx1, l_isc, l_isc1, l_tdy, l_tdy1, l_bin, l_bin1, l_bin2, l_cmp, l_cmp1, l_cmp2, l_idx, l_idx1, l_idx2, l_chn, l_chn1, l_chn2, l_chn3, l_chn3f, l_chn4, l_ite, l_iteT, l_iteF, l_and, l_and1, l_and2, l_andG, l_andS, l_or, l_or1, l_or2, l_orG, l_orS, l_sli, l_sli1, l_sli2, l_sli3, l_tup, l_tup1, l_lst, l_lst1, l_call, l_call1, l_blt, l_blt1, l_mth, l_mth1, l_mth2, l_snil, l_scons, l_sqn, l_sqr, l_sqb, l_sqc, l_asg, l_asg1, l_asgs, l_asgs1, l_asgs2, l_asgs3, l_bT, l_b1, l_bn, l_bc, l_k0, l_k1, l_exp, l_exp1, l_ret, l_ret1, l_retN, l_brk, l_cnt, l_pss, l_if, l_ifT, l_ifF, l_sub, l_sub1, l_sub2, l_sub3, l_set, l_for, l_lc, l_seq, l_seqL, l_seqL1, l_seqT, l_seqS, l_fsh, l_rng1, l_rng11, l_enm, l_enmT, o_addI, o_subI, o_mulI, o_fdivI, o_modI, o_powI, o_addS, o_addT, o_addL, o_addL1, o_repL, o_repL1, o_repS, c_lt, c_le, c_gt, c_ge, c_eq, c_eq1, c_ne, c_ne1, c_in, c_nin, e_II, e_SS, d_II, d_SS, n_int, n_bl, x_tup, x_at, x_atS, x_str, x_lst, x_lst1, b_int, b_lenT, b_lenS, b_lenL, b_lenL1, b_tupT, b_tupL, b_tupL1, b_lstT, b_lstL, b_lstL1, b_min, b_max, b_isi, b_isi1, b_repr, m_app, m_app1, m_appOk, m_popOk, m_lstB, v_set, v_set1, t_op, t_lop, i_N, i_nN, i_T, i_nT, i_F, i_nF, List.getElem?_cons_succ, List.getElem?_cons_zero, List.set_cons_succ, List.set_cons_zero, st_get, st_get0, st_set, st_set0, if_true, tidy_app, tidy_same, trim_pure, trim_pure0, Nat.zero_le, Nat.zero_add, Nat.reduceAdd, Nat.reduceSub, List.replicate, List.map_cons, List.map_nil, List.cons_append, List.nil_append, g0, e1, e2, e3, h4, d7, x1])
  rw [rngL_ints, List.length_map, List.length_range] at q3
  exact ⟨x, by rw [q1, q2, q3]⟩
structure Draws (ks : List Nat) : Prop where
  len : ks.length = 270
  lt : ∀ k ∈ ks, k < 1000
def knN (ks : List Nat) : Nat := 1 + ks.getD 3 0 % 6
def oneN (ks : List Nat) : List Nat := clsN ks (knN ks) 20 (szN (ks.getD 1 0))
def two0 (ks : List Nat) : List Nat := clsN ks (knN ks) 80 (szN (ks.getD 2 0))
def twoN (ks : List Nat) : List Nat := if ks.getD 4 0 % 2 = 1 then mixN ks (oneN ks) (min (oneN ks).length (two0 ks).length) (two0 ks) else two0 ks
theorem oneN_len : (oneN ks).length ≤ 60 := by unfold oneN; rw [clsN_len]; exact szN_le
theorem two0_len : (two0 ks).length ≤ 60 := by unfold two0; rw [clsN_len]; exact szN_le
theorem twoN_len : (twoN ks).length ≤ 60 := by
  unfold twoN
  split
  · rw [mixN_len]; exact two0_len
  · exact two0_len
theorem clsN_lt {kn off sz : Nat} (h : 0 < kn) : ∀ x ∈ clsN ks kn off sz, x < kn := fun x hx => by
  obtain ⟨k, _, rfl⟩ := List.mem_map.mp hx
  exact Nat.mod_lt _ h
theorem oneN_lt : ∀ x ∈ oneN ks, x < 6 := fun x hx => by
  have := clsN_lt (by unfold knN; omega) x hx
  unfold knN at this
  omega
theorem twoN_lt : ∀ x ∈ twoN ks, x < 6 := fun x hx => by
  have hk : 0 < knN ks := by unfold knN; omega
  have : x < knN ks := by
    unfold twoN at hx
    split at hx
    · exact mixN_lt hk (clsN_lt hk) (clsN_lt hk) _ x hx
    · exact clsN_lt hk x hx
  unfold knN at this
  omega
theorem classes_m (D0 : Draws ks) (hd : S[dr]? = some (.lst (nD ks))) (e1 : ∀ d : Nat, ∀ T : Sto, cl N 10 [.int (d : Nat)] T = .ok (.int ((szN d : Nat) : Int)) T) :
    cl (N + 1) 11 [.ref dr] S = .ok (.tup [.ref S.length, .ref (S.length + 1)]) (S ++ [.lst (nD (oneN ks)), .lst (nD (twoN ks))]) := by
  have e0 : L.prog[11]? = some i__law_classes := rfl
  simp only [cl] at e1
  have hl := D0.len
  have hdr := (List.getElem?_eq_some_iff.mp hd).1
  have g0 : ∀ l, (S ++ l)[dr]? = some (.lst (nD ks)) := fun l => by rw [List.getElem?_append_left hdr]; exact hd
  have a1 : pyAt (nD ks) 1 = some (.int ((ks.getD 1 0 : Nat) : Int)) := nD_at (i := 1) (by omega)
  have a2 : pyAt (nD ks) 2 = some (.int ((ks.getD 2 0 : Nat) : Int)) := nD_at (i := 2) (by omega)
  have a3 : pyAt (nD ks) 3 = some (.int ((ks.getD 3 0 : Nat) : Int)) := nD_at (i := 3) (by omega)
  have a4 : pyAt (nD ks) 4 = some (.int ((ks.getD 4 0 : Nat) : Int)) := nD_at (i := 4) (by omega)
  have h6 : ((6 : Int) ≠ 0) = True := by simp
  have h2 : ((2 : Int) ≠ 0) = True := by simp
  have f3 : (1 : Int) + ((ks.getD 3 0 : Nat) : Int).fmod 6 = ((knN ks : Nat) : Int) := by unfold knN; rw [Int.fmod_eq_emod_of_nonneg _ (by decide)]; omega
  have f4 : ((ks.getD 4 0 : Nat) : Int).fmod 2 = ((ks.getD 4 0 % 2 : Nat) : Int) := by rw [Int.fmod_eq_emod_of_nonneg _ (by decide)]; omega
  have hk : 0 < knN ks := by unfold knN; omega
  have sr : ∀ d, (-4611686018427387904 ≤ ((szN d : Nat) : Int) ∧ ((szN d : Nat) : Int) < 4611686018427387904) = True := fun d => by
    have := szN_le (d := d)
    simp
    omega
  have st : ∀ d, ((szN d : Nat) : Int).toNat = szN d := fun d => by omega
  have z1 := szN_le (d := ks.getD 1 0)
  have z2 := szN_le (d := ks.getD 2 0)
  have q1 : k_lc (cx N S) [4] true [4] (.cst (.bl true)) (.bin .mod (.blt .int (.cons (.idx (.var 0) (.bin .add (.cst (.int 20)) (.var 4))) .nil)) (.var 1)) [some (.ref dr), some (.int ((knN ks : Nat) : Int)), none, none, none] (.ok (rngL 0 (szN (ks.getD 1 0))) [] S) = .ok (.ref S.length) (S ++ [.lst (nD (oneN ks))]) :=
    cls_lc (off := 20) hd hk z1 (by omega)
  have q2 : k_lc (cx N S) [4] true [4] (.cst (.bl true)) (.bin .mod (.blt .int (.cons (.idx (.var 0) (.bin .add (.cst (.int 80)) (.var 4))) .nil)) (.var 1)) [some (.ref dr), some (.int ((knN ks : Nat) : Int)), some (.ref S.length), none, none] (.ok (rngL 0 (szN (ks.getD 2 0))) [] (S ++ [.lst (nD (oneN ks))])) = .ok (.ref (S.length + 1)) (S ++ [.lst (nD (oneN ks)), .lst (nD (two0 ks))]) := by
    have := cls_lc (N := N) (S := S) (r2 := some (.ref S.length)) (r3 := none) (off := 80) (g0 [.lst (nD (oneN ks))]) hk z2 (by omega)
    rw [st_alloc] at this
    exact this
  have t1 : ∀ xs, D.unds S.length xs = true → trim S.length (.ref S.length) (S ++ [.lst xs]) = .ok (.ref S.length) (S ++ [.lst xs]) := fun xs h => trim_lst0 rfl h
  have t1' := t1 (nD (oneN ks)) nD_und
  have t2 : tidy (S ++ [.lst (nD (oneN ks))]) (.ref (S.length + 1)) (S ++ [.lst (nD (oneN ks)), .lst (nD (two0 ks))]) = .ok (.ref (S.length + 1)) (S ++ [.lst (nD (oneN ks)), .lst (nD (two0 ks))]) := by
    have h1 := tidy_app (S ++ [.lst (nD (oneN ks))]) [.lst (nD (two0 ks))] (.ref (S.length + 1))
    have h2 := trim_lst0 (S := S ++ [.lst (nD (oneN ks))]) (l := [.lst (nD (two0 ks))]) rfl (nD_und (ks := two0 ks))
    rw [List.length_append, List.length_cons, List.length_nil, Nat.zero_add, List.append_assoc] at h2
    rw [List.length_append, List.length_cons, List.length_nil, Nat.zero_add, List.append_assoc] at h1
    exact h1.trans h2
  have l2 : ∀ x y : D, ([x, y].length ≤ line) = True := fun x y => by simp [line]
  obtain ⟨o4, q3⟩ := mix_loop (N := N) (S := S) (ks := ks) (dr := dr) (U := S) (one := oneN ks) (two := two0 ks) (kn := .int ((knN ks : Nat) : Int)) hd (Nat.le_refl _) (by omega) oneN_len two0_len
  refine call_rt (d := .tup [.ref S.length, .ref (S.length + 1)]) (S1 := S ++ [.lst (nD (oneN ks)), .lst (nD (twoN ks))]) e0 rfl ?_ (by
    unfold trim
    rw [if_neg (by simp [D.und, D.unds])])
  show evSs (cx N S) i__law_classes.body [some (.ref dr), none, none, none, none] S = _
  have mi : (if (((nD (two0 ks)).length : Nat) : Int) < (((nD (oneN ks)).length : Nat) : Int) then (((nD (two0 ks)).length : Nat) : Int) else (((nD (oneN ks)).length : Nat) : Int)) = ((min (oneN ks).length (two0 ks).length : Nat) : Int) := by
    rw [nD_len, nD_len]
    split <;> omega
  have mr : (-4611686018427387904 ≤ ((min (oneN ks).length (two0 ks).length : Nat) : Int) ∧ ((min (oneN ks).length (two0 ks).length : Nat) : Int) < 4611686018427387904) = True := by
    have := oneN_len (ks := ks)
    simp
    omega
  have mt : ((min (oneN ks).length (two0 ks).length : Nat) : Int).toNat = min (oneN ks).length (two0 ks).length := by omega
  by_cases hc : ks.getD 4 0 % 2 = 1
  · have x1 : decide (((ks.getD 4 0 % 2 : Nat) : Int) = 1) = true := decide_eq_true (by omega)
    have et : twoN ks = mixN ks (oneN ks) (min (oneN ks).length (two0 ks).length) (two0 ks) := by unfold twoN; rw [if_pos hc]
    rw [et]
    simp only [i__law_classes, l_var, l_var1, l_glo, l_glo1, l_cst, l_nil, l_cons, l_L1, l_L2, l_neg, l_neg1, l_not, l_not1, l_rev, l_rev1, l_lrg, l_lrg1, l_cdx, l_cdx1, l_isc, l_isc1, l_tdy, l_tdy1, l_bin, l_bin1, l_bin2, l_cmp, l_cmp1, l_cmp2, l_idx, l_idx1, l_idx2, l_chn, l_chn1, l_chn2, l_chn3, l_chn3f, l_chn4, l_ite, l_iteT, l_iteF, l_and, l_and1, l_and2, l_andG, l_andS, l_or, l_or1, l_or2, l_orG, l_orS, l_sli, l_sli1, l_sli2, l_sli3, l_tup, l_tup1, l_lst, l_lst1, l_call, l_call1, l_blt, l_blt1, l_mth, l_mth1, l_mth2, l_snil, l_scons, l_sqn, l_sqr, l_sqb, l_sqc, l_asg, l_asg1, l_asgs, l_asgs1, l_asgs2, l_asgs3, l_bT, l_b1, l_bn, l_bc, l_k0, l_k1, l_exp, l_exp1, l_ret, l_ret1, l_retN, l_brk, l_cnt, l_pss, l_if, l_ifT, l_ifF, l_sub, l_sub1, l_sub2, l_sub3, l_set, l_for, l_lc, l_seq, l_seqL, l_seqL1, l_seqT, l_seqS, l_fsh, l_rng1, l_rng11, l_enm, l_enmT, o_addI, o_subI, o_mulI, o_fdivI, o_modI, o_powI, o_addS, o_addT, o_addL, o_addL1, o_repL, o_repL1, o_repS, c_lt, c_le, c_gt, c_ge, c_eq, c_eq1, c_ne, c_ne1, c_in, c_nin, e_II, e_SS, d_II, d_SS, n_int, n_bl, x_tup, x_at, x_atS, x_str, x_lst, x_lst1, b_int, b_lenT, b_lenS, b_lenL, b_lenL1, b_tupT, b_tupL, b_tupL1, b_lstT, b_lstL, b_lstL1, b_min, b_max, b_isi, b_isi1, b_repr, m_app, m_app1, m_appOk, m_popOk, m_lstB, v_set, v_set1, t_op, t_lop, i_N, i_nN, i_T, i_nT, i_F, i_nF, List.getElem?_cons_succ, List.getElem?_cons_zero, List.set_cons_succ, List.set_cons_zero, st_get, st_get0, st_set, st_set0, if_true, tidy_app, tidy_same, trim_pure, trim_pure0, Nat.zero_le, Nat.zero_add, Nat.reduceAdd, Nat.reduceSub, List.replicate, List.map_cons, List.map_nil, List.cons_append, List.nil_append, cx_cl, hd, g0, a1, a2, a3, a4, h6, h2, f3, f4, e1, sr, st, q1, q2, t1', t2, x1, l2, mi, mr, mt, l_for1, q3]
  · have x1 : decide (((ks.getD 4 0 % 2 : Nat) : Int) = 1) = false := decide_eq_false (by omega)
    have et : twoN ks = two0 ks := by unfold twoN; rw [if_neg hc]
    rw [et]
    simp only [i__law_classes, l_var, l_var1, l_glo, l_glo1, l_cst, l_nil, l_cons, l_L1, l_L2, l_neg, l_neg1, l_not, l_not1, l_rev, l_rev1, l_lrg, l_lrg1, l_cdx, l_cdx1, l_isc, l_isc1, l_tdy, l_tdy1, l_bin, l_bin1, l_bin2, l_cmp, l_cmp1, l_cmp2, l_idx, l_idx1, l_idx2, l_chn, l_chn1, l_chn2, l_chn3, l_chn3f, l_chn4, l_ite, l_iteT, l_iteF, l_and, l_and1, l_and2, l_andG, l_andS, l_or, l_or1, l_or2, l_orG, l_orS, l_sli, l_sli1, l_sli2, l_sli3, l_tup, l_tup1, l_lst, l_lst1, l_call, l_call1, l_blt, l_blt1, l_mth, l_mth1, l_mth2, l_snil, l_scons, l_sqn, l_sqr, l_sqb, l_sqc, l_asg, l_asg1, l_asgs, l_asgs1, l_asgs2, l_asgs3, l_bT, l_b1, l_bn, l_bc, l_k0, l_k1, l_exp, l_exp1, l_ret, l_ret1, l_retN, l_brk, l_cnt, l_pss, l_if, l_ifT, l_ifF, l_sub, l_sub1, l_sub2, l_sub3, l_set, l_for, l_lc, l_seq, l_seqL, l_seqL1, l_seqT, l_seqS, l_fsh, l_rng1, l_rng11, l_enm, l_enmT, o_addI, o_subI, o_mulI, o_fdivI, o_modI, o_powI, o_addS, o_addT, o_addL, o_addL1, o_repL, o_repL1, o_repS, c_lt, c_le, c_gt, c_ge, c_eq, c_eq1, c_ne, c_ne1, c_in, c_nin, e_II, e_SS, d_II, d_SS, n_int, n_bl, x_tup, x_at, x_atS, x_str, x_lst, x_lst1, b_int, b_lenT, b_lenS, b_lenL, b_lenL1, b_tupT, b_tupL, b_tupL1, b_lstT, b_lstL, b_lstL1, b_min, b_max, b_isi, b_isi1, b_repr, m_app, m_app1, m_appOk, m_popOk, m_lstB, v_set, v_set1, t_op, t_lop, i_N, i_nN, i_T, i_nT, i_F, i_nF, List.getElem?_cons_succ, List.getElem?_cons_zero, List.set_cons_succ, List.set_cons_zero, st_get, st_get0, st_set, st_set0, if_true, tidy_app, tidy_same, trim_pure, trim_pure0, Nat.zero_le, Nat.zero_add, Nat.reduceAdd, Nat.reduceSub, List.replicate, List.map_cons, List.map_nil, List.cons_append, List.nil_append, cx_cl, hd, g0, a1, a2, a3, a4, h6, h2, f3, f4, e1, sr, st, q1, q2, t1', t2, x1, l2]
end
end Lw

set_option Elab.async false
set_option linter.all false
set_option autoImplicit false
set_option maxRecDepth 100000
set_option maxHeartbeats 4000000
/-! Ki: tables of whole numbers in the store. -/
namespace Lw
open Ev
def rowOf (f : Nat → Int) (n : Nat) : List D := (List.range (n + 1)).map fun u => .int (f u)
theorem rowOf_len {f : Nat → Int} {n : Nat} : (rowOf f n).length = n + 1 := by simp [rowOf]
theorem rowOf_at {f : Nat → Int} {n u : Nat} (h : u ≤ n) : pyAt (rowOf f n) (u : Nat) = some (.int (f u)) := by
  rw [pyAt_nat _ _ (by rw [rowOf_len]; omega)]
  simp [rowOf]
theorem rowOf_get {f : Nat → Int} {n i : Nat} (h : i < (rowOf f n).length) : (rowOf f n)[i]'h = .int (f i) := by simp [rowOf]
theorem rowOf_set {f : Nat → Int} {n k : Nat} {v : Int} : (rowOf f n).set k (.int v) = rowOf (fun u => if u = k then v else f u) n := by
  apply List.ext_getElem
  · rw [List.length_set, rowOf_len, rowOf_len]
  · intro i h1 h2
    rw [List.getElem_set, rowOf_get, rowOf_get]
    by_cases h : k = i
    · rw [if_pos h, if_pos h.symm]
    · rw [if_neg h, if_neg (Ne.symm h)]
theorem rowOf_und {k : Nat} {f : Nat → Int} {n : Nat} : D.unds k (rowOf f n) = true := unds_map fun _ _ => rfl
theorem rowOf_congr {f g : Nat → Int} {n : Nat} (h : ∀ u, u ≤ n → f u = g u) : rowOf f n = rowOf g n := by
  unfold rowOf
  apply List.map_congr_left
  intro u hu
  have := List.mem_range.mp hu
  rw [h u (by omega)]
def rowsU (F : Nat → Nat → Int) (k n : Nat) : Sto := (List.range k).map fun t => .lst (rowOf (F t) n)
def refsU (s m : Nat) : List D := (List.range (m + 1)).map fun t => .ref (s + t)
def tabU (S : Sto) (F : Nat → Nat → Int) (m n : Nat) : Sto := S ++ (rowsU F (m + 1) n ++ [.lst (refsU S.length m)])
section
variable {S : Sto} {F : Nat → Nat → Int} {m n : Nat}
theorem rowsU_len {k : Nat} : (rowsU F k n).length = k := by simp [rowsU]
theorem rowsU_get {k i : Nat} (h : i < (rowsU F k n).length) : (rowsU F k n)[i]'h = .lst (rowOf (F i) n) := by simp [rowsU]
theorem tabU_len : (tabU S F m n).length = S.length + m + 2 := by
  simp [tabU, rowsU]
  omega
theorem tabU_row {t : Nat} (l : Sto) (h : t ≤ m) : (tabU S F m n ++ l)[S.length + t]? = some (.lst (rowOf (F t) n)) := by
  unfold tabU
  rw [List.append_assoc, st_get, List.append_assoc, List.getElem?_append_left (by rw [rowsU_len]; omega)]
  unfold rowsU
  rw [List.getElem?_map, List.getElem?_range (by omega)]
  rfl
theorem tabU_top (l : Sto) : (tabU S F m n ++ l)[S.length + (m + 1)]? = some (.lst (refsU S.length m)) := by
  unfold tabU
  rw [List.append_assoc, st_get, List.append_assoc, List.getElem?_append_right (by rw [rowsU_len]; omega), rowsU_len, Nat.sub_self]
  rfl
theorem tabU_row0 {t : Nat} (h : t ≤ m) : (tabU S F m n)[S.length + t]? = some (.lst (rowOf (F t) n)) := by
  have := tabU_row (S := S) (F := F) (n := n) [] h
  rwa [List.append_nil] at this
theorem tabU_top0 : (tabU S F m n)[S.length + (m + 1)]? = some (.lst (refsU S.length m)) := by
  have := tabU_top (S := S) (F := F) (m := m) (n := n) []
  rwa [List.append_nil] at this
theorem tabU_old {k : Nat} (l : Sto) (h : k < S.length) : (tabU S F m n ++ l)[k]? = S[k]? := by
  unfold tabU
  rw [List.append_assoc, List.getElem?_append_left h]
theorem tabU_old0 {k : Nat} (h : k < S.length) : (tabU S F m n)[k]? = S[k]? := by
  unfold tabU
  rw [List.getElem?_append_left h]
theorem refsU_at {s t : Nat} (h : t ≤ m) : pyAt (refsU s m) (t : Nat) = some (.ref (s + t)) := by
  rw [pyAt_nat _ _ (by simp [refsU]; omega)]
  simp [refsU]
theorem refsU_und {s : Nat} : D.unds s (refsU s m) = false := by simp [D.unds, D.und, refsU, List.range_succ_eq_map]
def updF (F : Nat → Nat → Int) (i j : Nat) (v : Int) : Nat → Nat → Int := fun t u => if t = i then (if u = j then v else F t u) else F t u
theorem tabU_set {i j : Nat} {v : Int} (h : i ≤ m) : (tabU S F m n).set (S.length + i) (.lst ((rowOf (F i) n).set j (.int v))) = tabU S (updF F i j v) m n := by
  unfold tabU
  rw [st_set, List.set_append_left _ _ (by rw [rowsU_len]; omega)]
  congr 2
  apply List.ext_getElem
  · rw [List.length_set, rowsU_len, rowsU_len]
  · intro t h1 h2
    rw [List.getElem_set, rowsU_get, rowsU_get]
    by_cases h3 : i = t
    · subst h3
      rw [if_pos rfl, rowOf_set]
      congr 1
      apply rowOf_congr
      intro u _
      unfold updF
      rw [if_pos rfl]
    · rw [if_neg h3]
      congr 1
      apply rowOf_congr
      intro u _
      unfold updF
      rw [if_neg (Ne.symm h3)]
theorem tabU_trim {d : D} (h : d.und S.length = true) : trim S.length d (tabU S F m n) = .ok d S := trim_pure h
theorem tabU_trim1 {d : D} {l : Sto} (h : d.und S.length = true) : trim S.length d (tabU S F m n ++ l) = .ok d S := by
  unfold tabU
  rw [List.append_assoc]
  exact trim_pure h
theorem tabU_keep : trim S.length (.ref (S.length + (m + 1))) (tabU S F m n) = .ok (.ref (S.length + (m + 1))) (tabU S F m n) := by
  have hk : (rowsU F (m + 1) n ++ [Ob.lst (refsU S.length m)])[m + 1]? = some (.lst (refsU S.length m)) := by
    rw [List.getElem?_append_right (by rw [rowsU_len]; omega), rowsU_len, Nat.sub_self]
    rfl
  unfold tabU
  exact trim_keep hk refsU_und
theorem rowsU_succ {k : Nat} : rowsU F (k + 1) n = rowsU F k n ++ [.lst (rowOf (F k) n)] := by
  unfold rowsU
  rw [List.range_succ, List.map_append]
  rfl
/-- a comprehension that makes the rows -/
theorem lc_rows {bd : D → Option Env} {c e : Env → Sto → Res} (h : ∀ i, i ≤ m → ∃ ρ, bd (.int (i : Nat)) = some ρ ∧ c ρ (S ++ rowsU F i n) = .ok (.bl true) (S ++ rowsU F i n) ∧ e ρ (S ++ rowsU F i n) = .ok (.ref (S.length + i)) (S ++ rowsU F i n ++ [.lst (rowOf (F i) n)])) :
    lcL [] bd c e (rngL 0 (m + 1)) S = .ok (refsU S.length m) (S ++ rowsU F (m + 1) n) := by
  obtain ⟨ds, S', q1, q2, q3⟩ := lcL_ind (w := []) (bd := bd) (c := c) (e := e) (fun i ds T => ds = (List.range i).map (fun t => D.ref (S.length + t)) ∧ T = S ++ rowsU F i n) (xs := rngL 0 (m + 1)) (S := S) ⟨rfl, by simp [rowsU]⟩ (fun _ _ _ _ => rfl) (fun i x ds T hx hP => by
    obtain ⟨rfl, rfl⟩ := hP
    have hi : i < m + 1 := by
      have := (List.getElem?_eq_some_iff.mp hx).1
      rw [rngL_ints, List.length_map, List.length_range] at this
      exact this
    have hx' : x = .int (i : Nat) := by
      rw [rngL_ints, List.getElem?_map, List.getElem?_range hi] at hx
      simp at hx
      exact hx.symm
    subst hx'
    obtain ⟨ρ, h1, h2, h3⟩ := h i (by omega)
    refine ⟨ρ, h1, .inl ⟨_, _, _, h2, h3, ?_, ?_⟩⟩
    · rw [List.range_succ, List.map_append]
      rfl
    · rw [rowsU_succ, List.append_assoc])
  rw [rngL_ints, List.length_map, List.length_range] at q2 q3
  rw [q1, q2, q3]
  rfl
end
end Lw

set_option Elab.async false
set_option linter.all false
set_option autoImplicit false
set_option maxRecDepth 100000
set_option maxHeartbeats 4000000
/-! Kj: the plain law k85: the law's table from the end. -/
namespace Lw
open Ev
def qN (A B : List Nat) (i j : Nat) : Bool := decide (A.getD i 0 = B.getD j 0)
theorem rngS_down : ∀ (k : Nat) (i : Int), rngS i (-1) k = (List.range k).map fun t => D.int (i - (t : Nat))
  | 0, _ => rfl
  | k + 1, i => by
    rw [List.range_succ_eq_map, List.map_cons, List.map_map]
    simp only [rngS]
    rw [rngS_down k (i + -1)]
    congr 1
    · congr 1
      omega
    · apply List.map_congr_left
      intro t _
      show D.int _ = D.int (i - ((t + 1 : Nat) : Int))
      congr 1
      omega
theorem rngN_down (m : Nat) : rngN (m : Nat) (-1) (-1) = m + 1 := by
  unfold rngN
  rw [if_neg (by decide), if_pos (by decide)]
  have e : ((m : Nat) : Int) - -1 + - -1 - 1 = (m : Int) + 1 := by omega
  rw [e]
  have e2 : (- -1 : Int) = 1 := by decide
  rw [e2, Int.ediv_one]
  omega
theorem zeros (n : Nat) : dRep [D.int 0] n = (List.range n).map fun _ => D.int 0 := by
  induction n with
  | zero => rfl
  | succ n ih =>
    have e : dRep [D.int 0] (n + 1) = D.int 0 :: dRep [D.int 0] n := rfl
    rw [e, ih, List.range_succ_eq_map, List.map_cons, List.map_map]
    rfl
/-- the costs from (i, j) on -/
def Gq (A B : List Nat) (i j : Nat) : Int := Fq (qN A.reverse B.reverse) A.length B.length i j
theorem Er0 {q : Nat → Nat → Bool} {i : Nat} : Er q i 0 = (i : Nat) := by cases i <;> rfl
theorem Gq_edge {A B : List Nat} {i j : Nat} (hi : i ≤ A.length) (hj : j ≤ B.length) (h : ¬ (i < A.length ∧ j < B.length)) : Gq A B i j = (((A.length : Nat) : Int) - (i : Nat)) + (((B.length : Nat) : Int) - (j : Nat)) := by
  unfold Gq Fq
  by_cases h1 : i = A.length
  · subst h1
    rw [Nat.sub_self]
    show ((B.length - j : Nat) : Int) = _
    omega
  · have h2 : j = B.length := by omega
    subst h2
    rw [Nat.sub_self, Er0]
    omega
theorem rev_getD {A : List Nat} {i : Nat} (h : i < A.length) : A.reverse.getD (A.length - (i + 1)) 0 = A.getD i 0 := by
  rw [List.getD_eq_getElem?_getD, List.getD_eq_getElem?_getD, List.getElem?_reverse (by omega)]
  congr 2
  omega
theorem Gq_in {A B : List Nat} {i j : Nat} (hi : i < A.length) (hj : j < B.length) :
    Gq A B i j = if A.getD i 0 = B.getD j 0 then mn (1 + mn (Gq A B (i + 1) j) (Gq A B i (j + 1))) (Gq A B (i + 1) (j + 1)) else 1 + mn (Gq A B (i + 1) j) (Gq A B i (j + 1)) := by
  unfold Gq Fq
  obtain ⟨p, hp⟩ : ∃ p, A.length - i = p + 1 := ⟨A.length - (i + 1), by omega⟩
  obtain ⟨r, hr⟩ : ∃ r, B.length - j = r + 1 := ⟨B.length - (j + 1), by omega⟩
  have hp' : A.length - (i + 1) = p := by omega
  have hr' : B.length - (j + 1) = r := by omega
  have ha := rev_getD hi
  have hb := rev_getD hj
  rw [hp'] at ha
  rw [hr'] at hb
  rw [hp, hr, hp', hr']
  show rowF _ _ _ _ = _
  unfold rowF
  have hq : (qN A.reverse B.reverse p r = true) = (A.getD i 0 = B.getD j 0) := by
    unfold qN
    rw [ha, hb]
    exact decide_eq_true_eq
  have e : ∀ x : Int, x + 1 = 1 + x := fun x => Int.add_comm _ _
  simp only [hq, e]
  rfl
section
variable {N : Nat} {S : Sto} {A B : List Nat} {ka kb : Nat}
theorem rest_cell {F : Nat → Nat → Int} {i j : Nat} (ha : S[ka]? = some (.lst (nD A))) (hb : S[kb]? = some (.lst (nD B))) (hA : A.length ≤ 60) (hB : B.length ≤ 60) (hi : i ≤ A.length) (hj : j ≤ B.length)
    (hF1 : i < A.length → j < B.length → F (i + 1) j = Gq A B (i + 1) j) (hF2 : i < A.length → j < B.length → F i (j + 1) = Gq A B i (j + 1)) (hF3 : i < A.length → j < B.length → F (i + 1) (j + 1) = Gq A B (i + 1) (j + 1)) :
    evSs (cx N S) b0__law_rest [some (.ref ka), some (.ref kb), some (.int (A.length : Nat)), some (.int (B.length : Nat)), some (.ref (S.length + (A.length + 1))), some (.int (i : Nat)), some (.int (j : Nat)), none] (tabU S F A.length B.length) =
      .nx [some (.ref ka), some (.ref kb), some (.int (A.length : Nat)), some (.int (B.length : Nat)), some (.ref (S.length + (A.length + 1))), some (.int (i : Nat)), some (.int (j : Nat)), some (.int (Gq A B i j))] (tabU S (updF F i j (Gq A B i j)) A.length B.length) := by
  have hka := (List.getElem?_eq_some_iff.mp ha).1
  have hkb := (List.getElem?_eq_some_iff.mp hb).1
  have g1 := tabU_old0 (F := F) (m := A.length) (n := B.length) hka
  have g2 := tabU_old0 (F := F) (m := A.length) (n := B.length) hkb
  have g3 := tabU_top0 (S := S) (F := F) (m := A.length) (n := B.length)
  have g4 := tabU_row0 (S := S) (F := F) (n := B.length) hi
  have r1 := refsU_at (s := S.length) hi
  have p : pyIx (rowOf (F i) B.length).length ((j : Nat) : Int) = some j := pyIx_nat (by rw [rowOf_len]; omega)
  have nu : ∀ v : Int, ¬ (S.length + i < (cx N S).n0 ∧ (D.int v).pure = false) := fun v h => by cases h.2
  have e1 : ((i : Nat) : Int) + 1 = ((i + 1 : Nat) : Int) := by omega
  have e2 : ((j : Nat) : Int) + 1 = ((j + 1 : Nat) : Int) := by omega
  by_cases h : i < A.length ∧ j < B.length
  · obtain ⟨h1, h2⟩ := h
    have x1 : decide (((i : Nat) : Int) < ((A.length : Nat) : Int)) = true := decide_eq_true (by omega)
    have x2 : decide (((j : Nat) : Int) < ((B.length : Nat) : Int)) = true := decide_eq_true (by omega)
    have g5 := tabU_row0 (S := S) (F := F) (m := A.length) (n := B.length) (t := i + 1) h1
    have r2 := refsU_at (m := A.length) (s := S.length) (t := i + 1) h1
    have c1 := rowOf_at (f := F (i + 1)) (n := B.length) (u := j) (by omega)
    have c2 := rowOf_at (f := F i) (n := B.length) (u := j + 1) h2
    have c3 := rowOf_at (f := F (i + 1)) (n := B.length) (u := j + 1) h2
    rw [hF1 h1 h2] at c1
    rw [hF2 h1 h2] at c2
    rw [hF3 h1 h2] at c3
    have a1 := nD_at (ks := A) h1
    have b1 := nD_at (ks := B) h2
    have hG := Gq_in h1 h2
    by_cases h3 : A.getD i 0 = B.getD j 0
    · have x3 : decide (((A.getD i 0 : Nat) : Int) = ((B.getD j 0 : Nat) : Int)) = true := decide_eq_true (by omega)
      rw [if_pos h3] at hG
      rw [hG]
      simp only [b0__law_rest, l_var, l_var1, l_glo, l_glo1, l_cst, l_nil, l_cons, l_L1, l_L2, l_neg, l_neg1, l_not, l_not1, l_rev, l_rev1, l_lrg, l_lrg1, l_cdx, l_cdx1, l_isc, l_isc1, l_tdy, l_tdy1, l_bin, l_bin1, l_bin2, l_cmp, l_cmp1, l_cmp2, l_idx, l_idx1, l_idx2, l_chn, l_chn1, l_chn2, l_chn3, l_chn3f, l_chn4, l_ite, l_iteT, l_iteF, l_and, l_and1, l_and2, l_andG, l_andS, l_or, l_or1, l_or2, l_orG, l_orS, l_sli, l_sli1, l_sli2, l_sli3, l_tup, l_tup1, l_lst, l_lst1, l_call, l_call1, l_blt, l_blt1, l_mth, l_mth1, l_mth2, l_snil, l_scons, l_sqn, l_sqr, l_sqb, l_sqc, l_asg, l_asg1, l_asgs, l_asgs1, l_asgs2, l_asgs3, l_bT, l_b1, l_bn, l_bc, l_k0, l_k1, l_exp, l_exp1, l_ret, l_ret1, l_retN, l_brk, l_cnt, l_pss, l_if, l_ifT, l_ifF, l_sub, l_sub1, l_sub2, l_sub3, l_set, l_for, l_lc, l_seq, l_seqL, l_seqL1, l_seqT, l_seqS, l_fsh, l_rng1, l_rng11, l_enm, l_enmT, o_addI, o_subI, o_mulI, o_fdivI, o_modI, o_powI, o_addS, o_addT, o_addL, o_addL1, o_repL, o_repL1, o_repS, c_lt, c_le, c_gt, c_ge, c_eq, c_eq1, c_ne, c_ne1, c_in, c_nin, e_II, e_SS, d_II, d_SS, n_int, n_bl, x_tup, x_at, x_atS, x_str, x_lst, x_lst1, b_int, b_lenT, b_lenS, b_lenL, b_lenL1, b_tupT, b_tupL, b_tupL1, b_lstT, b_lstL, b_lstL1, b_min, b_max, b_isi, b_isi1, b_repr, m_app, m_app1, m_appOk, m_popOk, m_lstB, v_set, v_set1, t_op, t_lop, i_N, i_nN, i_T, i_nT, i_F, i_nF, List.getElem?_cons_succ, List.getElem?_cons_zero, List.set_cons_succ, List.set_cons_zero, st_get, st_get0, st_set, st_set0, if_true, tidy_app, tidy_same, trim_pure, trim_pure0, Nat.zero_le, Nat.zero_add, Nat.reduceAdd, Nat.reduceSub, List.replicate, List.map_cons, List.map_nil, List.cons_append, List.nil_append, g1, g2, g3, g4, g5, ha, hb, r1, r2, c1, c2, c3, a1, b1, e1, e2, x1, x2, x3, mn_blt, p, nu, if_false, Option.map_some]
      rw [← tabU_set hi]
      rfl
    · have x3 : decide (((A.getD i 0 : Nat) : Int) = ((B.getD j 0 : Nat) : Int)) = false := decide_eq_false (by omega)
      rw [if_neg h3] at hG
      rw [hG]
      simp only [b0__law_rest, l_var, l_var1, l_glo, l_glo1, l_cst, l_nil, l_cons, l_L1, l_L2, l_neg, l_neg1, l_not, l_not1, l_rev, l_rev1, l_lrg, l_lrg1, l_cdx, l_cdx1, l_isc, l_isc1, l_tdy, l_tdy1, l_bin, l_bin1, l_bin2, l_cmp, l_cmp1, l_cmp2, l_idx, l_idx1, l_idx2, l_chn, l_chn1, l_chn2, l_chn3, l_chn3f, l_chn4, l_ite, l_iteT, l_iteF, l_and, l_and1, l_and2, l_andG, l_andS, l_or, l_or1, l_or2, l_orG, l_orS, l_sli, l_sli1, l_sli2, l_sli3, l_tup, l_tup1, l_lst, l_lst1, l_call, l_call1, l_blt, l_blt1, l_mth, l_mth1, l_mth2, l_snil, l_scons, l_sqn, l_sqr, l_sqb, l_sqc, l_asg, l_asg1, l_asgs, l_asgs1, l_asgs2, l_asgs3, l_bT, l_b1, l_bn, l_bc, l_k0, l_k1, l_exp, l_exp1, l_ret, l_ret1, l_retN, l_brk, l_cnt, l_pss, l_if, l_ifT, l_ifF, l_sub, l_sub1, l_sub2, l_sub3, l_set, l_for, l_lc, l_seq, l_seqL, l_seqL1, l_seqT, l_seqS, l_fsh, l_rng1, l_rng11, l_enm, l_enmT, o_addI, o_subI, o_mulI, o_fdivI, o_modI, o_powI, o_addS, o_addT, o_addL, o_addL1, o_repL, o_repL1, o_repS, c_lt, c_le, c_gt, c_ge, c_eq, c_eq1, c_ne, c_ne1, c_in, c_nin, e_II, e_SS, d_II, d_SS, n_int, n_bl, x_tup, x_at, x_atS, x_str, x_lst, x_lst1, b_int, b_lenT, b_lenS, b_lenL, b_lenL1, b_tupT, b_tupL, b_tupL1, b_lstT, b_lstL, b_lstL1, b_min, b_max, b_isi, b_isi1, b_repr, m_app, m_app1, m_appOk, m_popOk, m_lstB, v_set, v_set1, t_op, t_lop, i_N, i_nN, i_T, i_nT, i_F, i_nF, List.getElem?_cons_succ, List.getElem?_cons_zero, List.set_cons_succ, List.set_cons_zero, st_get, st_get0, st_set, st_set0, if_true, tidy_app, tidy_same, trim_pure, trim_pure0, Nat.zero_le, Nat.zero_add, Nat.reduceAdd, Nat.reduceSub, List.replicate, List.map_cons, List.map_nil, List.cons_append, List.nil_append, g1, g2, g3, g4, g5, ha, hb, r1, r2, c1, c2, c3, a1, b1, e1, e2, x1, x2, x3, mn_blt, p, nu, if_false, Option.map_some]
      rw [← tabU_set hi]
      rfl
  · have hG := Gq_edge hi hj h
    rw [hG]
    by_cases h1 : i < A.length
    · have x1 : decide (((i : Nat) : Int) < ((A.length : Nat) : Int)) = true := decide_eq_true (by omega)
      have x2 : decide (((j : Nat) : Int) < ((B.length : Nat) : Int)) = false := decide_eq_false (by omega)
      simp only [b0__law_rest, l_var, l_var1, l_glo, l_glo1, l_cst, l_nil, l_cons, l_L1, l_L2, l_neg, l_neg1, l_not, l_not1, l_rev, l_rev1, l_lrg, l_lrg1, l_cdx, l_cdx1, l_isc, l_isc1, l_tdy, l_tdy1, l_bin, l_bin1, l_bin2, l_cmp, l_cmp1, l_cmp2, l_idx, l_idx1, l_idx2, l_chn, l_chn1, l_chn2, l_chn3, l_chn3f, l_chn4, l_ite, l_iteT, l_iteF, l_and, l_and1, l_and2, l_andG, l_andS, l_or, l_or1, l_or2, l_orG, l_orS, l_sli, l_sli1, l_sli2, l_sli3, l_tup, l_tup1, l_lst, l_lst1, l_call, l_call1, l_blt, l_blt1, l_mth, l_mth1, l_mth2, l_snil, l_scons, l_sqn, l_sqr, l_sqb, l_sqc, l_asg, l_asg1, l_asgs, l_asgs1, l_asgs2, l_asgs3, l_bT, l_b1, l_bn, l_bc, l_k0, l_k1, l_exp, l_exp1, l_ret, l_ret1, l_retN, l_brk, l_cnt, l_pss, l_if, l_ifT, l_ifF, l_sub, l_sub1, l_sub2, l_sub3, l_set, l_for, l_lc, l_seq, l_seqL, l_seqL1, l_seqT, l_seqS, l_fsh, l_rng1, l_rng11, l_enm, l_enmT, o_addI, o_subI, o_mulI, o_fdivI, o_modI, o_powI, o_addS, o_addT, o_addL, o_addL1, o_repL, o_repL1, o_repS, c_lt, c_le, c_gt, c_ge, c_eq, c_eq1, c_ne, c_ne1, c_in, c_nin, e_II, e_SS, d_II, d_SS, n_int, n_bl, x_tup, x_at, x_atS, x_str, x_lst, x_lst1, b_int, b_lenT, b_lenS, b_lenL, b_lenL1, b_tupT, b_tupL, b_tupL1, b_lstT, b_lstL, b_lstL1, b_min, b_max, b_isi, b_isi1, b_repr, m_app, m_app1, m_appOk, m_popOk, m_lstB, v_set, v_set1, t_op, t_lop, i_N, i_nN, i_T, i_nT, i_F, i_nF, List.getElem?_cons_succ, List.getElem?_cons_zero, List.set_cons_succ, List.set_cons_zero, st_get, st_get0, st_set, st_set0, if_true, tidy_app, tidy_same, trim_pure, trim_pure0, Nat.zero_le, Nat.zero_add, Nat.reduceAdd, Nat.reduceSub, List.replicate, List.map_cons, List.map_nil, List.cons_append, List.nil_append, g3, g4, r1, x1, x2, p, nu, if_false, Option.map_some]
      rw [← tabU_set hi]
    · have x1 : decide (((i : Nat) : Int) < ((A.length : Nat) : Int)) = false := decide_eq_false (by omega)
      simp only [b0__law_rest, l_var, l_var1, l_glo, l_glo1, l_cst, l_nil, l_cons, l_L1, l_L2, l_neg, l_neg1, l_not, l_not1, l_rev, l_rev1, l_lrg, l_lrg1, l_cdx, l_cdx1, l_isc, l_isc1, l_tdy, l_tdy1, l_bin, l_bin1, l_bin2, l_cmp, l_cmp1, l_cmp2, l_idx, l_idx1, l_idx2, l_chn, l_chn1, l_chn2, l_chn3, l_chn3f, l_chn4, l_ite, l_iteT, l_iteF, l_and, l_and1, l_and2, l_andG, l_andS, l_or, l_or1, l_or2, l_orG, l_orS, l_sli, l_sli1, l_sli2, l_sli3, l_tup, l_tup1, l_lst, l_lst1, l_call, l_call1, l_blt, l_blt1, l_mth, l_mth1, l_mth2, l_snil, l_scons, l_sqn, l_sqr, l_sqb, l_sqc, l_asg, l_asg1, l_asgs, l_asgs1, l_asgs2, l_asgs3, l_bT, l_b1, l_bn, l_bc, l_k0, l_k1, l_exp, l_exp1, l_ret, l_ret1, l_retN, l_brk, l_cnt, l_pss, l_if, l_ifT, l_ifF, l_sub, l_sub1, l_sub2, l_sub3, l_set, l_for, l_lc, l_seq, l_seqL, l_seqL1, l_seqT, l_seqS, l_fsh, l_rng1, l_rng11, l_enm, l_enmT, o_addI, o_subI, o_mulI, o_fdivI, o_modI, o_powI, o_addS, o_addT, o_addL, o_addL1, o_repL, o_repL1, o_repS, c_lt, c_le, c_gt, c_ge, c_eq, c_eq1, c_ne, c_ne1, c_in, c_nin, e_II, e_SS, d_II, d_SS, n_int, n_bl, x_tup, x_at, x_atS, x_str, x_lst, x_lst1, b_int, b_lenT, b_lenS, b_lenL, b_lenL1, b_tupT, b_tupL, b_tupL1, b_lstT, b_lstL, b_lstL1, b_min, b_max, b_isi, b_isi1, b_repr, m_app, m_app1, m_appOk, m_popOk, m_lstB, v_set, v_set1, t_op, t_lop, i_N, i_nN, i_T, i_nT, i_F, i_nF, List.getElem?_cons_succ, List.getElem?_cons_zero, List.set_cons_succ, List.set_cons_zero, st_get, st_get0, st_set, st_set0, if_true, tidy_app, tidy_same, trim_pure, trim_pure0, Nat.zero_le, Nat.zero_add, Nat.reduceAdd, Nat.reduceSub, List.replicate, List.map_cons, List.map_nil, List.cons_append, List.nil_append, g3, g4, r1, x1, p, nu, if_false, Option.map_some]
      rw [← tabU_set hi]
/-- row i is done from column j on, and so are the rows below -/
def doneR (A B : List Nat) (F : Nat → Nat → Int) (i j : Nat) : Prop := ∀ t u, t ≤ A.length → u ≤ B.length → (i < t ∨ (t = i ∧ j ≤ u)) → F t u = Gq A B t u
theorem doneR_step {F : Nat → Nat → Int} {i j : Nat} (h : doneR A B F i (j + 1)) : doneR A B (updF F i j (Gq A B i j)) i j := by
  intro t u h1 h2 h3
  unfold updF
  by_cases e1 : t = i
  · rw [if_pos e1]
    by_cases e2 : u = j
    · rw [if_pos e2, e1, e2]
    · rw [if_neg e2]
      exact h t u h1 h2 (.inr ⟨e1, by omega⟩)
  · rw [if_neg e1]
    exact h t u h1 h2 (.inl (by omega))
theorem rest_row {F : Nat → Nat → Int} {i : Nat} {o6 o7 : Option D} (ha : S[ka]? = some (.lst (nD A))) (hb : S[kb]? = some (.lst (nD B))) (hA : A.length ≤ 60) (hB : B.length ≤ 60) (hi : i ≤ A.length) (hF : doneR A B F i (B.length + 1)) :
    ∃ F' o6' o7', doneR A B F' i 0 ∧ evSs (cx N S) b1__law_rest [some (.ref ka), some (.ref kb), some (.int (A.length : Nat)), some (.int (B.length : Nat)), some (.ref (S.length + (A.length + 1))), some (.int (i : Nat)), o6, o7] (tabU S F A.length B.length) =
      .nx [some (.ref ka), some (.ref kb), some (.int (A.length : Nat)), some (.int (B.length : Nat)), some (.ref (S.length + (A.length + 1))), some (.int (i : Nat)), o6', o7'] (tabU S F' A.length B.length) := by
  obtain ⟨ρ', S', q1, ⟨x6, x7, F', q2, q3, q4⟩⟩ := forL_ind (w := []) (bd := tgF true [6]) (ks := [6, 7]) (body := bodyF (cx N S) b0__law_rest)
    (fun c ρ T => ∃ x6 x7 F', ρ = [some (.ref ka), some (.ref kb), some (.int (A.length : Nat)), some (.int (B.length : Nat)), some (.ref (S.length + (A.length + 1))), some (.int (i : Nat)), x6, x7] ∧ doneR A B F' i (B.length + 1 - c) ∧ T = tabU S F' A.length B.length) (xs := rngS (B.length : Nat) (-1) (rngN (B.length : Nat) (-1) (-1)))
    (ρ := [some (.ref ka), some (.ref kb), some (.int (A.length : Nat)), some (.int (B.length : Nat)), some (.ref (S.length + (A.length + 1))), some (.int (i : Nat)), o6, o7]) (S := tabU S F A.length B.length) ⟨_, _, F, rfl, hF, rfl⟩ (fun _ _ _ _ => rfl) (fun c x ρ T hx h => by
      obtain ⟨x6, x7, F', rfl, h2, rfl⟩ := h
      rw [rngN_down, rngS_down] at hx
      have hc : c < B.length + 1 := by
        have := (List.getElem?_eq_some_iff.mp hx).1
        rw [List.length_map, List.length_range] at this
        exact this
      rw [List.getElem?_map, List.getElem?_range hc] at hx
      have hx' : x = .int ((B.length - c : Nat) : Int) := by
        have : x = .int (((B.length : Nat) : Int) - (c : Nat)) := by simpa using hx.symm
        rw [this]
        congr 1
        omega
      subst hx'
      have ec : B.length + 1 - c = (B.length - c) + 1 := by omega
      rw [ec] at h2
      refine ⟨_, _, _, rfl, .inl (rest_cell ha hb hA hB hi (by omega) (fun h1 h3 => h2 _ _ h1 (by omega) (.inl (by omega))) (fun h1 h3 => h2 _ _ (by omega) h3 (.inr ⟨rfl, by omega⟩)) (fun h1 h3 => h2 _ _ h1 h3 (.inl (by omega)))), _, _, _, rfl, ?_, rfl⟩
      have e2 : B.length + 1 - (c + 1) = B.length - c := by omega
      rw [e2]
      exact doneR_step h2)
  rw [rngN_down, rngS_down, List.length_map, List.length_range, Nat.sub_self] at q3
  refine ⟨F', none, none, q3, ?_⟩
  have r := l_rng3 (C := cx N S) (ρ := [some (.ref ka), some (.ref kb), some (.int (A.length : Nat)), some (.int (B.length : Nat)), some (.ref (S.length + (A.length + 1))), some (.int (i : Nat)), o6, o7]) (S := tabU S F A.length B.length) (S1 := tabU S F A.length B.length) (S2 := tabU S F A.length B.length) (S3 := tabU S F A.length B.length) (a := .var 3) (b := .neg (.cst (.int 1))) (c := .neg (.cst (.int 1))) (i := (B.length : Nat)) (j := -1) (k := -1) (by simp only [l_var, l_var1, l_glo, l_glo1, l_cst, l_nil, l_cons, l_L1, l_L2, l_neg, l_neg1, l_not, l_not1, l_rev, l_rev1, l_lrg, l_lrg1, l_cdx, l_cdx1, l_isc, l_isc1, l_tdy, l_tdy1, l_bin, l_bin1, l_bin2, l_cmp, l_cmp1, l_cmp2, l_idx, l_idx1, l_idx2, l_chn, l_chn1, l_chn2, l_chn3, l_chn3f, l_chn4, l_ite, l_iteT, l_iteF, l_and, l_and1, l_and2, l_andG, l_andS, l_or, l_or1, l_or2, l_orG, l_orS, l_sli, l_sli1, l_sli2, l_sli3, l_tup, l_tup1, l_lst, l_lst1, l_call, l_call1, l_blt, l_blt1, l_mth, l_mth1, l_mth2, l_snil, l_scons, l_sqn, l_sqr, l_sqb, l_sqc, l_asg, l_asg1, l_asgs, l_asgs1, l_asgs2, l_asgs3, l_bT, l_b1, l_bn, l_bc, l_k0, l_k1, l_exp, l_exp1, l_ret, l_ret1, l_retN, l_brk, l_cnt, l_pss, l_if, l_ifT, l_ifF, l_sub, l_sub1, l_sub2, l_sub3, l_set, l_for, l_lc, l_seq, l_seqL, l_seqL1, l_seqT, l_seqS, l_fsh, l_rng1, l_rng11, l_enm, l_enmT, o_addI, o_subI, o_mulI, o_fdivI, o_modI, o_powI, o_addS, o_addT, o_addL, o_addL1, o_repL, o_repL1, o_repS, c_lt, c_le, c_gt, c_ge, c_eq, c_eq1, c_ne, c_ne1, c_in, c_nin, e_II, e_SS, d_II, d_SS, n_int, n_bl, x_tup, x_at, x_atS, x_str, x_lst, x_lst1, b_int, b_lenT, b_lenS, b_lenL, b_lenL1, b_tupT, b_tupL, b_tupL1, b_lstT, b_lstL, b_lstL1, b_min, b_max, b_isi, b_isi1, b_repr, m_app, m_app1, m_appOk, m_popOk, m_lstB, v_set, v_set1, t_op, t_lop, i_N, i_nN, i_T, i_nT, i_F, i_nF, List.getElem?_cons_succ, List.getElem?_cons_zero, List.set_cons_succ, List.set_cons_zero, st_get, st_get0, st_set, st_set0, if_true, tidy_app, tidy_same, trim_pure, trim_pure0, Nat.zero_le, Nat.zero_add, Nat.reduceAdd, Nat.reduceSub, List.replicate, List.map_cons, List.map_nil, List.cons_append, List.nil_append]) (by simp only [l_var, l_var1, l_glo, l_glo1, l_cst, l_nil, l_cons, l_L1, l_L2, l_neg, l_neg1, l_not, l_not1, l_rev, l_rev1, l_lrg, l_lrg1, l_cdx, l_cdx1, l_isc, l_isc1, l_tdy, l_tdy1, l_bin, l_bin1, l_bin2, l_cmp, l_cmp1, l_cmp2, l_idx, l_idx1, l_idx2, l_chn, l_chn1, l_chn2, l_chn3, l_chn3f, l_chn4, l_ite, l_iteT, l_iteF, l_and, l_and1, l_and2, l_andG, l_andS, l_or, l_or1, l_or2, l_orG, l_orS, l_sli, l_sli1, l_sli2, l_sli3, l_tup, l_tup1, l_lst, l_lst1, l_call, l_call1, l_blt, l_blt1, l_mth, l_mth1, l_mth2, l_snil, l_scons, l_sqn, l_sqr, l_sqb, l_sqc, l_asg, l_asg1, l_asgs, l_asgs1, l_asgs2, l_asgs3, l_bT, l_b1, l_bn, l_bc, l_k0, l_k1, l_exp, l_exp1, l_ret, l_ret1, l_retN, l_brk, l_cnt, l_pss, l_if, l_ifT, l_ifF, l_sub, l_sub1, l_sub2, l_sub3, l_set, l_for, l_lc, l_seq, l_seqL, l_seqL1, l_seqT, l_seqS, l_fsh, l_rng1, l_rng11, l_enm, l_enmT, o_addI, o_subI, o_mulI, o_fdivI, o_modI, o_powI, o_addS, o_addT, o_addL, o_addL1, o_repL, o_repL1, o_repS, c_lt, c_le, c_gt, c_ge, c_eq, c_eq1, c_ne, c_ne1, c_in, c_nin, e_II, e_SS, d_II, d_SS, n_int, n_bl, x_tup, x_at, x_atS, x_str, x_lst, x_lst1, b_int, b_lenT, b_lenS, b_lenL, b_lenL1, b_tupT, b_tupL, b_tupL1, b_lstT, b_lstL, b_lstL1, b_min, b_max, b_isi, b_isi1, b_repr, m_app, m_app1, m_appOk, m_popOk, m_lstB, v_set, v_set1, t_op, t_lop, i_N, i_nN, i_T, i_nT, i_F, i_nF, List.getElem?_cons_succ, List.getElem?_cons_zero, List.set_cons_succ, List.set_cons_zero, st_get, st_get0, st_set, st_set0, if_true, tidy_app, tidy_same, trim_pure, trim_pure0, Nat.zero_le, Nat.zero_add, Nat.reduceAdd, Nat.reduceSub, List.replicate, List.map_cons, List.map_nil, List.cons_append, List.nil_append]) (by simp only [l_var, l_var1, l_glo, l_glo1, l_cst, l_nil, l_cons, l_L1, l_L2, l_neg, l_neg1, l_not, l_not1, l_rev, l_rev1, l_lrg, l_lrg1, l_cdx, l_cdx1, l_isc, l_isc1, l_tdy, l_tdy1, l_bin, l_bin1, l_bin2, l_cmp, l_cmp1, l_cmp2, l_idx, l_idx1, l_idx2, l_chn, l_chn1, l_chn2, l_chn3, l_chn3f, l_chn4, l_ite, l_iteT, l_iteF, l_and, l_and1, l_and2, l_andG, l_andS, l_or, l_or1, l_or2, l_orG, l_orS, l_sli, l_sli1, l_sli2, l_sli3, l_tup, l_tup1, l_lst, l_lst1, l_call, l_call1, l_blt, l_blt1, l_mth, l_mth1, l_mth2, l_snil, l_scons, l_sqn, l_sqr, l_sqb, l_sqc, l_asg, l_asg1, l_asgs, l_asgs1, l_asgs2, l_asgs3, l_bT, l_b1, l_bn, l_bc, l_k0, l_k1, l_exp, l_exp1, l_ret, l_ret1, l_retN, l_brk, l_cnt, l_pss, l_if, l_ifT, l_ifF, l_sub, l_sub1, l_sub2, l_sub3, l_set, l_for, l_lc, l_seq, l_seqL, l_seqL1, l_seqT, l_seqS, l_fsh, l_rng1, l_rng11, l_enm, l_enmT, o_addI, o_subI, o_mulI, o_fdivI, o_modI, o_powI, o_addS, o_addT, o_addL, o_addL1, o_repL, o_repL1, o_repS, c_lt, c_le, c_gt, c_ge, c_eq, c_eq1, c_ne, c_ne1, c_in, c_nin, e_II, e_SS, d_II, d_SS, n_int, n_bl, x_tup, x_at, x_atS, x_str, x_lst, x_lst1, b_int, b_lenT, b_lenS, b_lenL, b_lenL1, b_tupT, b_tupL, b_tupL1, b_lstT, b_lstL, b_lstL1, b_min, b_max, b_isi, b_isi1, b_repr, m_app, m_app1, m_appOk, m_popOk, m_lstB, v_set, v_set1, t_op, t_lop, i_N, i_nN, i_T, i_nT, i_F, i_nF, List.getElem?_cons_succ, List.getElem?_cons_zero, List.set_cons_succ, List.set_cons_zero, st_get, st_get0, st_set, st_set0, if_true, tidy_app, tidy_same, trim_pure, trim_pure0, Nat.zero_le, Nat.zero_add, Nat.reduceAdd, Nat.reduceSub, List.replicate, List.map_cons, List.map_nil, List.cons_append, List.nil_append]) (by omega) (by omega) (by omega) (by omega)
  simp only [b1__law_rest, l_var, l_var1, l_glo, l_glo1, l_cst, l_nil, l_cons, l_L1, l_L2, l_neg, l_neg1, l_not, l_not1, l_rev, l_rev1, l_lrg, l_lrg1, l_cdx, l_cdx1, l_isc, l_isc1, l_tdy, l_tdy1, l_bin, l_bin1, l_bin2, l_cmp, l_cmp1, l_cmp2, l_idx, l_idx1, l_idx2, l_chn, l_chn1, l_chn2, l_chn3, l_chn3f, l_chn4, l_ite, l_iteT, l_iteF, l_and, l_and1, l_and2, l_andG, l_andS, l_or, l_or1, l_or2, l_orG, l_orS, l_sli, l_sli1, l_sli2, l_sli3, l_tup, l_tup1, l_lst, l_lst1, l_call, l_call1, l_blt, l_blt1, l_mth, l_mth1, l_mth2, l_snil, l_scons, l_sqn, l_sqr, l_sqb, l_sqc, l_asg, l_asg1, l_asgs, l_asgs1, l_asgs2, l_asgs3, l_bT, l_b1, l_bn, l_bc, l_k0, l_k1, l_exp, l_exp1, l_ret, l_ret1, l_retN, l_brk, l_cnt, l_pss, l_if, l_ifT, l_ifF, l_sub, l_sub1, l_sub2, l_sub3, l_set, l_for, l_lc, l_seq, l_seqL, l_seqL1, l_seqT, l_seqS, l_fsh, l_rng1, l_rng11, l_enm, l_enmT, o_addI, o_subI, o_mulI, o_fdivI, o_modI, o_powI, o_addS, o_addT, o_addL, o_addL1, o_repL, o_repL1, o_repS, c_lt, c_le, c_gt, c_ge, c_eq, c_eq1, c_ne, c_ne1, c_in, c_nin, e_II, e_SS, d_II, d_SS, n_int, n_bl, x_tup, x_at, x_atS, x_str, x_lst, x_lst1, b_int, b_lenT, b_lenS, b_lenL, b_lenL1, b_tupT, b_tupL, b_tupL1, b_lstT, b_lstL, b_lstL1, b_min, b_max, b_isi, b_isi1, b_repr, m_app, m_app1, m_appOk, m_popOk, m_lstB, v_set, v_set1, t_op, t_lop, i_N, i_nN, i_T, i_nT, i_F, i_nF, List.getElem?_cons_succ, List.getElem?_cons_zero, List.set_cons_succ, List.set_cons_zero, st_get, st_get0, st_set, st_set0, if_true, tidy_app, tidy_same, trim_pure, trim_pure0, Nat.zero_le, Nat.zero_add, Nat.reduceAdd, Nat.reduceSub, List.replicate, List.map_cons, List.map_nil, List.cons_append, List.nil_append, r, l_for1, q1, q2, q4]
theorem rest_m (ha : S[ka]? = some (.lst (nD A))) (hb : S[kb]? = some (.lst (nD B))) (hA : A.length ≤ 60) (hB : B.length ≤ 60) :
    ∃ F, (∀ t u, t ≤ A.length → u ≤ B.length → F t u = Gq A B t u) ∧ cl (N + 1) 12 [.ref ka, .ref kb] S = .ok (.ref (S.length + (A.length + 1))) (tabU S F A.length B.length) := by
  have e0 : L.prog[12]? = some i__law_rest := rfl
  have hka := (List.getElem?_eq_some_iff.mp ha).1
  have hkb := (List.getElem?_eq_some_iff.mp hb).1
  obtain ⟨ρ', S', q1, ⟨x5, x6, x7, F, q2, q3, q4⟩⟩ := forL_ind (w := []) (bd := tgF true [5]) (ks := [5, 6, 7]) (body := bodyF (cx N S) b1__law_rest)
    (fun c ρ T => ∃ x5 x6 x7 F', ρ = [some (.ref ka), some (.ref kb), some (.int (A.length : Nat)), some (.int (B.length : Nat)), some (.ref (S.length + (A.length + 1))), x5, x6, x7] ∧ (∀ t u, t ≤ A.length → u ≤ B.length → A.length + 1 - c ≤ t → F' t u = Gq A B t u) ∧ T = tabU S F' A.length B.length) (xs := rngS (A.length : Nat) (-1) (rngN (A.length : Nat) (-1) (-1)))
    (ρ := [some (.ref ka), some (.ref kb), some (.int (A.length : Nat)), some (.int (B.length : Nat)), some (.ref (S.length + (A.length + 1))), none, none, none]) (S := tabU S (fun _ _ => 0) A.length B.length) ⟨_, _, _, _, rfl, fun t u h1 h2 h3 => by omega, rfl⟩ (fun _ _ _ _ => rfl) (fun c x ρ T hx h => by
      obtain ⟨x5, x6, x7, F', rfl, h2, rfl⟩ := h
      rw [rngN_down, rngS_down] at hx
      have hc : c < A.length + 1 := by
        have := (List.getElem?_eq_some_iff.mp hx).1
        rw [List.length_map, List.length_range] at this
        exact this
      rw [List.getElem?_map, List.getElem?_range hc] at hx
      have hx' : x = .int ((A.length - c : Nat) : Int) := by
        have : x = .int (((A.length : Nat) : Int) - (c : Nat)) := by simpa using hx.symm
        rw [this]
        congr 1
        omega
      subst hx'
      obtain ⟨F2, o6, o7, d1, d2⟩ := rest_row (N := N) (S := S) (F := F') (i := A.length - c) (o6 := none) (o7 := none) ha hb hA hB (by omega) (fun t u h1 h3 h4 => h2 t u h1 h3 (by omega))
      refine ⟨_, _, _, rfl, .inl d2, _, _, _, _, rfl, fun t u h1 h3 h4 => d1 t u h1 h3 (by omega), rfl⟩)
  rw [rngN_down, rngS_down, List.length_map, List.length_range, Nat.sub_self] at q3
  refine ⟨F, fun t u h1 h2 => q3 t u h1 h2 (Nat.zero_le _), ?_⟩
  subst q4
  rw [q2] at q1
  refine call_rt (d := .ref (S.length + (A.length + 1))) (S1 := tabU S F A.length B.length) e0 rfl ?_ tabU_keep
  have el : line = 16777216 := rfl
  have hL := lc_rows (S := S) (F := fun _ _ => 0) (m := A.length) (n := B.length) (bd := fun d => bindTg true [5] d (kill [5] [some (.ref ka), some (.ref kb), some (.int (A.length : Nat)), some (.int (B.length : Nat)), none, none, none, none])) (c := fun ρ T => evE (cx N S) (.cst (.bl true)) ρ T)
    (e := fun ρ T => evE (cx N S) (.tdy (.bin .mul (.lst (.cons (.cst (.int 0)) .nil)) (.bin .add (.var 3) (.cst (.int 1))))) ρ T) (fun i hi => by
      refine ⟨_, rfl, by simp only [l_var, l_var1, l_glo, l_glo1, l_cst, l_nil, l_cons, l_L1, l_L2, l_neg, l_neg1, l_not, l_not1, l_rev, l_rev1, l_lrg, l_lrg1, l_cdx, l_cdx1, l_isc, l_isc1, l_tdy, l_tdy1, l_bin, l_bin1, l_bin2, l_cmp, l_cmp1, l_cmp2, l_idx, l_idx1, l_idx2, l_chn, l_chn1, l_chn2, l_chn3, l_chn3f, l_chn4, l_ite, l_iteT, l_iteF, l_and, l_and1, l_and2, l_andG, l_andS, l_or, l_or1, l_or2, l_orG, l_orS, l_sli, l_sli1, l_sli2, l_sli3, l_tup, l_tup1, l_lst, l_lst1, l_call, l_call1, l_blt, l_blt1, l_mth, l_mth1, l_mth2, l_snil, l_scons, l_sqn, l_sqr, l_sqb, l_sqc, l_asg, l_asg1, l_asgs, l_asgs1, l_asgs2, l_asgs3, l_bT, l_b1, l_bn, l_bc, l_k0, l_k1, l_exp, l_exp1, l_ret, l_ret1, l_retN, l_brk, l_cnt, l_pss, l_if, l_ifT, l_ifF, l_sub, l_sub1, l_sub2, l_sub3, l_set, l_for, l_lc, l_seq, l_seqL, l_seqL1, l_seqT, l_seqS, l_fsh, l_rng1, l_rng11, l_enm, l_enmT, o_addI, o_subI, o_mulI, o_fdivI, o_modI, o_powI, o_addS, o_addT, o_addL, o_addL1, o_repL, o_repL1, o_repS, c_lt, c_le, c_gt, c_ge, c_eq, c_eq1, c_ne, c_ne1, c_in, c_nin, e_II, e_SS, d_II, d_SS, n_int, n_bl, x_tup, x_at, x_atS, x_str, x_lst, x_lst1, b_int, b_lenT, b_lenS, b_lenL, b_lenL1, b_tupT, b_tupL, b_tupL1, b_lstT, b_lstL, b_lstL1, b_min, b_max, b_isi, b_isi1, b_repr, m_app, m_app1, m_appOk, m_popOk, m_lstB, v_set, v_set1, t_op, t_lop, i_N, i_nN, i_T, i_nT, i_F, i_nF, List.getElem?_cons_succ, List.getElem?_cons_zero, List.set_cons_succ, List.set_cons_zero, st_get, st_get0, st_set, st_set0, if_true, tidy_app, tidy_same, trim_pure, trim_pure0, Nat.zero_le, Nat.zero_add, Nat.reduceAdd, Nat.reduceSub, List.replicate, List.map_cons, List.map_nil, List.cons_append, List.nil_append], ?_⟩
      show evE _ _ [some (.ref ka), some (.ref kb), some (.int (A.length : Nat)), some (.int (B.length : Nat)), none, some (.int (i : Nat)), none, none] _ = _
      have hU : (S ++ rowsU (fun _ _ => 0) i B.length).length = S.length + i := by rw [List.length_append, rowsU_len]
      generalize S ++ rowsU (fun _ _ => 0) i B.length = U at hU ⊢
      rw [← hU]
      have l1 : (1 ≤ line) = True := by simp [line]
      have lm : (((B.length : Nat) : Int) + 1 < 9223372036854775808 ∧ -9223372036854775808 ≤ ((B.length : Nat) : Int) + 1 ∧ 1 * (((B.length : Nat) : Int) + 1).toNat ≤ line) = True := by
        simp
        omega
      have lz : dRep [D.int 0] (((B.length : Nat) : Int) + 1).toNat = rowOf (fun _ => 0) B.length := by
        have e : (((B.length : Nat) : Int) + 1).toNat = B.length + 1 := by omega
        rw [e, zeros]
        rfl
      have tr : trim U.length (.ref (U.length + 1)) (U ++ [.lst [D.int 0], .lst (rowOf (fun _ => 0) B.length)]) = .ok (.ref U.length) (U ++ [.lst (rowOf (fun _ => 0) B.length)]) := trim_lst (k := 1) rfl rowOf_und
      have al0 : alloc (.lst [.int 0]) U = .ok (.ref U.length) (U ++ [.lst [.int 0]]) := rfl
      simp only [l_var, l_var1, l_glo, l_glo1, l_cst, l_nil, l_cons, l_L1, l_L2, l_neg, l_neg1, l_not, l_not1, l_rev, l_rev1, l_lrg, l_lrg1, l_cdx, l_cdx1, l_isc, l_isc1, l_tdy, l_tdy1, l_bin, l_bin1, l_bin2, l_cmp, l_cmp1, l_cmp2, l_idx, l_idx1, l_idx2, l_chn, l_chn1, l_chn2, l_chn3, l_chn3f, l_chn4, l_ite, l_iteT, l_iteF, l_and, l_and1, l_and2, l_andG, l_andS, l_or, l_or1, l_or2, l_orG, l_orS, l_sli, l_sli1, l_sli2, l_sli3, l_tup, l_tup1, l_lst, l_lst1, l_call, l_call1, l_blt, l_blt1, l_mth, l_mth1, l_mth2, l_snil, l_scons, l_sqn, l_sqr, l_sqb, l_sqc, l_asg, l_asg1, l_asgs, l_asgs1, l_asgs2, l_asgs3, l_bT, l_b1, l_bn, l_bc, l_k0, l_k1, l_exp, l_exp1, l_ret, l_ret1, l_retN, l_brk, l_cnt, l_pss, l_if, l_ifT, l_ifF, l_sub, l_sub1, l_sub2, l_sub3, l_set, l_for, l_lc, l_seq, l_seqL, l_seqL1, l_seqT, l_seqS, l_fsh, l_rng1, l_rng11, l_enm, l_enmT, o_addI, o_subI, o_mulI, o_fdivI, o_modI, o_powI, o_addS, o_addT, o_addL, o_addL1, o_repL, o_repL1, o_repS, c_lt, c_le, c_gt, c_ge, c_eq, c_eq1, c_ne, c_ne1, c_in, c_nin, e_II, e_SS, d_II, d_SS, n_int, n_bl, x_tup, x_at, x_atS, x_str, x_lst, x_lst1, b_int, b_lenT, b_lenS, b_lenL, b_lenL1, b_tupT, b_tupL, b_tupL1, b_lstT, b_lstL, b_lstL1, b_min, b_max, b_isi, b_isi1, b_repr, m_app, m_app1, m_appOk, m_popOk, m_lstB, v_set, v_set1, t_op, t_lop, i_N, i_nN, i_T, i_nT, i_F, i_nF, List.getElem?_cons_succ, List.getElem?_cons_zero, List.set_cons_succ, List.set_cons_zero, st_get, st_get0, st_set, st_set0, if_true, tidy_app, tidy_same, trim_pure, trim_pure0, Nat.zero_le, Nat.zero_add, Nat.reduceAdd, Nat.reduceSub, List.replicate, List.map_cons, List.map_nil, List.cons_append, List.nil_append, l1, lm, lz, al0, st_alloc, List.length_cons, List.length_nil, tr])
  have hlc := l_lc1 (C := cx N S) (ρ := [some (.ref ka), some (.ref kb), some (.int (A.length : Nat)), some (.int (B.length : Nat)), none, none, none, none]) (own := [5]) (one := true) (tg := [5]) (w := []) (by rw [rngL_ints, List.length_map, List.length_range]; omega) hL
  have hal : alloc (.lst (refsU S.length A.length)) (S ++ rowsU (fun _ _ => 0) (A.length + 1) B.length) = .ok (.ref (S.length + (A.length + 1))) (tabU S (fun _ _ => 0) A.length B.length) := by
    rw [st_alloc, rowsU_len]
    rfl
  rw [hal] at hlc
  have td : tidy S (.ref (S.length + (A.length + 1))) (tabU S (fun _ _ => 0) A.length B.length) = .ok (.ref (S.length + (A.length + 1))) (tabU S (fun _ _ => 0) A.length B.length) := by
    unfold tabU
    rw [tidy_app]
    exact tabU_keep
  have r := l_rng3 (C := cx N S) (ρ := [some (.ref ka), some (.ref kb), some (.int (A.length : Nat)), some (.int (B.length : Nat)), some (.ref (S.length + (A.length + 1))), none, none, none]) (S := tabU S (fun _ _ => 0) A.length B.length) (S1 := tabU S (fun _ _ => 0) A.length B.length) (S2 := tabU S (fun _ _ => 0) A.length B.length) (S3 := tabU S (fun _ _ => 0) A.length B.length) (a := .var 2) (b := .neg (.cst (.int 1))) (c := .neg (.cst (.int 1))) (i := (A.length : Nat)) (j := -1) (k := -1) (by simp only [l_var, l_var1, l_glo, l_glo1, l_cst, l_nil, l_cons, l_L1, l_L2, l_neg, l_neg1, l_not, l_not1, l_rev, l_rev1, l_lrg, l_lrg1, l_cdx, l_cdx1, l_isc, l_isc1, l_tdy, l_tdy1, l_bin, l_bin1, l_bin2, l_cmp, l_cmp1, l_cmp2, l_idx, l_idx1, l_idx2, l_chn, l_chn1, l_chn2, l_chn3, l_chn3f, l_chn4, l_ite, l_iteT, l_iteF, l_and, l_and1, l_and2, l_andG, l_andS, l_or, l_or1, l_or2, l_orG, l_orS, l_sli, l_sli1, l_sli2, l_sli3, l_tup, l_tup1, l_lst, l_lst1, l_call, l_call1, l_blt, l_blt1, l_mth, l_mth1, l_mth2, l_snil, l_scons, l_sqn, l_sqr, l_sqb, l_sqc, l_asg, l_asg1, l_asgs, l_asgs1, l_asgs2, l_asgs3, l_bT, l_b1, l_bn, l_bc, l_k0, l_k1, l_exp, l_exp1, l_ret, l_ret1, l_retN, l_brk, l_cnt, l_pss, l_if, l_ifT, l_ifF, l_sub, l_sub1, l_sub2, l_sub3, l_set, l_for, l_lc, l_seq, l_seqL, l_seqL1, l_seqT, l_seqS, l_fsh, l_rng1, l_rng11, l_enm, l_enmT, o_addI, o_subI, o_mulI, o_fdivI, o_modI, o_powI, o_addS, o_addT, o_addL, o_addL1, o_repL, o_repL1, o_repS, c_lt, c_le, c_gt, c_ge, c_eq, c_eq1, c_ne, c_ne1, c_in, c_nin, e_II, e_SS, d_II, d_SS, n_int, n_bl, x_tup, x_at, x_atS, x_str, x_lst, x_lst1, b_int, b_lenT, b_lenS, b_lenL, b_lenL1, b_tupT, b_tupL, b_tupL1, b_lstT, b_lstL, b_lstL1, b_min, b_max, b_isi, b_isi1, b_repr, m_app, m_app1, m_appOk, m_popOk, m_lstB, v_set, v_set1, t_op, t_lop, i_N, i_nN, i_T, i_nT, i_F, i_nF, List.getElem?_cons_succ, List.getElem?_cons_zero, List.set_cons_succ, List.set_cons_zero, st_get, st_get0, st_set, st_set0, if_true, tidy_app, tidy_same, trim_pure, trim_pure0, Nat.zero_le, Nat.zero_add, Nat.reduceAdd, Nat.reduceSub, List.replicate, List.map_cons, List.map_nil, List.cons_append, List.nil_append]) (by simp only [l_var, l_var1, l_glo, l_glo1, l_cst, l_nil, l_cons, l_L1, l_L2, l_neg, l_neg1, l_not, l_not1, l_rev, l_rev1, l_lrg, l_lrg1, l_cdx, l_cdx1, l_isc, l_isc1, l_tdy, l_tdy1, l_bin, l_bin1, l_bin2, l_cmp, l_cmp1, l_cmp2, l_idx, l_idx1, l_idx2, l_chn, l_chn1, l_chn2, l_chn3, l_chn3f, l_chn4, l_ite, l_iteT, l_iteF, l_and, l_and1, l_and2, l_andG, l_andS, l_or, l_or1, l_or2, l_orG, l_orS, l_sli, l_sli1, l_sli2, l_sli3, l_tup, l_tup1, l_lst, l_lst1, l_call, l_call1, l_blt, l_blt1, l_mth, l_mth1, l_mth2, l_snil, l_scons, l_sqn, l_sqr, l_sqb, l_sqc, l_asg, l_asg1, l_asgs, l_asgs1, l_asgs2, l_asgs3, l_bT, l_b1, l_bn, l_bc, l_k0, l_k1, l_exp, l_exp1, l_ret, l_ret1, l_retN, l_brk, l_cnt, l_pss, l_if, l_ifT, l_ifF, l_sub, l_sub1, l_sub2, l_sub3, l_set, l_for, l_lc, l_seq, l_seqL, l_seqL1, l_seqT, l_seqS, l_fsh, l_rng1, l_rng11, l_enm, l_enmT, o_addI, o_subI, o_mulI, o_fdivI, o_modI, o_powI, o_addS, o_addT, o_addL, o_addL1, o_repL, o_repL1, o_repS, c_lt, c_le, c_gt, c_ge, c_eq, c_eq1, c_ne, c_ne1, c_in, c_nin, e_II, e_SS, d_II, d_SS, n_int, n_bl, x_tup, x_at, x_atS, x_str, x_lst, x_lst1, b_int, b_lenT, b_lenS, b_lenL, b_lenL1, b_tupT, b_tupL, b_tupL1, b_lstT, b_lstL, b_lstL1, b_min, b_max, b_isi, b_isi1, b_repr, m_app, m_app1, m_appOk, m_popOk, m_lstB, v_set, v_set1, t_op, t_lop, i_N, i_nN, i_T, i_nT, i_F, i_nF, List.getElem?_cons_succ, List.getElem?_cons_zero, List.set_cons_succ, List.set_cons_zero, st_get, st_get0, st_set, st_set0, if_true, tidy_app, tidy_same, trim_pure, trim_pure0, Nat.zero_le, Nat.zero_add, Nat.reduceAdd, Nat.reduceSub, List.replicate, List.map_cons, List.map_nil, List.cons_append, List.nil_append]) (by simp only [l_var, l_var1, l_glo, l_glo1, l_cst, l_nil, l_cons, l_L1, l_L2, l_neg, l_neg1, l_not, l_not1, l_rev, l_rev1, l_lrg, l_lrg1, l_cdx, l_cdx1, l_isc, l_isc1, l_tdy, l_tdy1, l_bin, l_bin1, l_bin2, l_cmp, l_cmp1, l_cmp2, l_idx, l_idx1, l_idx2, l_chn, l_chn1, l_chn2, l_chn3, l_chn3f, l_chn4, l_ite, l_iteT, l_iteF, l_and, l_and1, l_and2, l_andG, l_andS, l_or, l_or1, l_or2, l_orG, l_orS, l_sli, l_sli1, l_sli2, l_sli3, l_tup, l_tup1, l_lst, l_lst1, l_call, l_call1, l_blt, l_blt1, l_mth, l_mth1, l_mth2, l_snil, l_scons, l_sqn, l_sqr, l_sqb, l_sqc, l_asg, l_asg1, l_asgs, l_asgs1, l_asgs2, l_asgs3, l_bT, l_b1, l_bn, l_bc, l_k0, l_k1, l_exp, l_exp1, l_ret, l_ret1, l_retN, l_brk, l_cnt, l_pss, l_if, l_ifT, l_ifF, l_sub, l_sub1, l_sub2, l_sub3, l_set, l_for, l_lc, l_seq, l_seqL, l_seqL1, l_seqT, l_seqS, l_fsh, l_rng1, l_rng11, l_enm, l_enmT, o_addI, o_subI, o_mulI, o_fdivI, o_modI, o_powI, o_addS, o_addT, o_addL, o_addL1, o_repL, o_repL1, o_repS, c_lt, c_le, c_gt, c_ge, c_eq, c_eq1, c_ne, c_ne1, c_in, c_nin, e_II, e_SS, d_II, d_SS, n_int, n_bl, x_tup, x_at, x_atS, x_str, x_lst, x_lst1, b_int, b_lenT, b_lenS, b_lenL, b_lenL1, b_tupT, b_tupL, b_tupL1, b_lstT, b_lstL, b_lstL1, b_min, b_max, b_isi, b_isi1, b_repr, m_app, m_app1, m_appOk, m_popOk, m_lstB, v_set, v_set1, t_op, t_lop, i_N, i_nN, i_T, i_nT, i_F, i_nF, List.getElem?_cons_succ, List.getElem?_cons_zero, List.set_cons_succ, List.set_cons_zero, st_get, st_get0, st_set, st_set0, if_true, tidy_app, tidy_same, trim_pure, trim_pure0, Nat.zero_le, Nat.zero_add, Nat.reduceAdd, Nat.reduceSub, List.replicate, List.map_cons, List.map_nil, List.cons_append, List.nil_append]) (by omega) (by omega) (by omega) (by omega)
  have hr : (-4611686018427387904 ≤ ((A.length : Nat) : Int) + 1 ∧ ((A.length : Nat) : Int) + 1 < 4611686018427387904) = True := by
    simp
    omega
  have hr2 : (((A.length : Nat) : Int) + 1).toNat = A.length + 1 := by omega
  show evSs (cx N S) i__law_rest.body [some (.ref ka), some (.ref kb), none, none, none, none, none, none] S = _
  simp only [i__law_rest, l_var, l_var1, l_glo, l_glo1, l_cst, l_nil, l_cons, l_L1, l_L2, l_neg, l_neg1, l_not, l_not1, l_rev, l_rev1, l_lrg, l_lrg1, l_cdx, l_cdx1, l_isc, l_isc1, l_tdy, l_tdy1, l_bin, l_bin1, l_bin2, l_cmp, l_cmp1, l_cmp2, l_idx, l_idx1, l_idx2, l_chn, l_chn1, l_chn2, l_chn3, l_chn3f, l_chn4, l_ite, l_iteT, l_iteF, l_and, l_and1, l_and2, l_andG, l_andS, l_or, l_or1, l_or2, l_orG, l_orS, l_sli, l_sli1, l_sli2, l_sli3, l_tup, l_tup1, l_lst, l_lst1, l_call, l_call1, l_blt, l_blt1, l_mth, l_mth1, l_mth2, l_snil, l_scons, l_sqn, l_sqr, l_sqb, l_sqc, l_asg, l_asg1, l_asgs, l_asgs1, l_asgs2, l_asgs3, l_bT, l_b1, l_bn, l_bc, l_k0, l_k1, l_exp, l_exp1, l_ret, l_ret1, l_retN, l_brk, l_cnt, l_pss, l_if, l_ifT, l_ifF, l_sub, l_sub1, l_sub2, l_sub3, l_set, l_for, l_lc, l_seq, l_seqL, l_seqL1, l_seqT, l_seqS, l_fsh, l_rng1, l_rng11, l_enm, l_enmT, o_addI, o_subI, o_mulI, o_fdivI, o_modI, o_powI, o_addS, o_addT, o_addL, o_addL1, o_repL, o_repL1, o_repS, c_lt, c_le, c_gt, c_ge, c_eq, c_eq1, c_ne, c_ne1, c_in, c_nin, e_II, e_SS, d_II, d_SS, n_int, n_bl, x_tup, x_at, x_atS, x_str, x_lst, x_lst1, b_int, b_lenT, b_lenS, b_lenL, b_lenL1, b_tupT, b_tupL, b_tupL1, b_lstT, b_lstL, b_lstL1, b_min, b_max, b_isi, b_isi1, b_repr, m_app, m_app1, m_appOk, m_popOk, m_lstB, v_set, v_set1, t_op, t_lop, i_N, i_nN, i_T, i_nT, i_F, i_nF, List.getElem?_cons_succ, List.getElem?_cons_zero, List.set_cons_succ, List.set_cons_zero, st_get, st_get0, st_set, st_set0, if_true, tidy_app, tidy_same, trim_pure, trim_pure0, Nat.zero_le, Nat.zero_add, Nat.reduceAdd, Nat.reduceSub, List.replicate, List.map_cons, List.map_nil, List.cons_append, List.nil_append, ha, hb, nD_len, hr, hr2, hlc, td, r, l_for1, q1]
end
end Lw

set_option Elab.async false
set_option linter.all false
set_option autoImplicit false
set_option maxRecDepth 100000
set_option maxHeartbeats 4000000
/-! Kk: the plain law k85: the law's table from the beginning. -/
namespace Lw
open Ev
theorem Er_in {q : Nat → Nat → Bool} {i j : Nat} : Er q (i + 1) (j + 1) = if q i j = true then mn (1 + mn (Er q i (j + 1)) (Er q (i + 1) j)) (Er q i j) else 1 + mn (Er q i (j + 1)) (Er q (i + 1) j) := by
  show rowF _ _ _ _ = _
  unfold rowF
  have e : ∀ x : Int, x + 1 = 1 + x := fun x => Int.add_comm _ _
  simp only [e]
  rfl
section
variable {N : Nat} {S : Sto} {A B : List Nat} {ka kb : Nat}
theorem head_cell {F : Nat → Nat → Int} {i j : Nat} (ha : S[ka]? = some (.lst (nD A))) (hb : S[kb]? = some (.lst (nD B))) (hA : A.length ≤ 60) (hB : B.length ≤ 60) (h1 : i < A.length) (h2 : j < B.length)
    (hF1 : F i (j + 1) = Er (qN A B) i (j + 1)) (hF2 : F (i + 1) j = Er (qN A B) (i + 1) j) (hF3 : F i j = Er (qN A B) i j) :
    evSs (cx N S) b0__law_head [some (.ref ka), some (.ref kb), some (.ref (S.length + (A.length + 1))), some (.int (i : Nat)), some (.int (j : Nat)), none, none] (tabU S F A.length B.length) =
      .nx [some (.ref ka), some (.ref kb), some (.ref (S.length + (A.length + 1))), some (.int (i : Nat)), some (.int (j : Nat)), some (.int (Er (qN A B) (i + 1) (j + 1))), none] (tabU S (updF F (i + 1) (j + 1) (Er (qN A B) (i + 1) (j + 1))) A.length B.length) := by
  have hka := (List.getElem?_eq_some_iff.mp ha).1
  have hkb := (List.getElem?_eq_some_iff.mp hb).1
  have g1 := tabU_old0 (F := F) (m := A.length) (n := B.length) hka
  have g2 := tabU_old0 (F := F) (m := A.length) (n := B.length) hkb
  have g3 := tabU_top0 (S := S) (F := F) (m := A.length) (n := B.length)
  have g4 := tabU_row0 (S := S) (F := F) (n := B.length) (Nat.le_of_lt h1)
  have r1 := refsU_at (s := S.length) (Nat.le_of_lt h1)
  have p : pyIx (rowOf (F (i + 1)) B.length).length ((j + 1 : Nat) : Int) = some (j + 1) := pyIx_nat (by rw [rowOf_len]; omega)
  have nu : ∀ v : Int, ¬ (S.length + (i + 1) < (cx N S).n0 ∧ (D.int v).pure = false) := fun v h => by cases h.2
  have e1 : ((i : Nat) : Int) + 1 = ((i + 1 : Nat) : Int) := by omega
  have e2 : ((j : Nat) : Int) + 1 = ((j + 1 : Nat) : Int) := by omega
  have g5 := tabU_row0 (S := S) (F := F) (m := A.length) (n := B.length) (t := i + 1) h1
  have r2 := refsU_at (m := A.length) (s := S.length) (t := i + 1) h1
  have c1 := rowOf_at (f := F i) (n := B.length) (u := j + 1) h2
  have c2 := rowOf_at (f := F (i + 1)) (n := B.length) (u := j) (by omega)
  have c3 := rowOf_at (f := F i) (n := B.length) (u := j) (by omega)
  rw [hF1] at c1
  rw [hF2] at c2
  rw [hF3] at c3
  have a1 := nD_at (ks := A) h1
  have b1 := nD_at (ks := B) h2
  have hG := Er_in (q := qN A B) (i := i) (j := j)
  by_cases h3 : A.getD i 0 = B.getD j 0
  · have x3 : decide (((A.getD i 0 : Nat) : Int) = ((B.getD j 0 : Nat) : Int)) = true := decide_eq_true (by omega)
    rw [if_pos (show qN A B i j = true from decide_eq_true h3)] at hG
    rw [hG]
    simp only [b0__law_head, l_var, l_var1, l_glo, l_glo1, l_cst, l_nil, l_cons, l_L1, l_L2, l_neg, l_neg1, l_not, l_not1, l_rev, l_rev1, l_lrg, l_lrg1, l_cdx, l_cdx1, l_isc, l_isc1, l_tdy, l_tdy1, l_bin, l_bin1, l_bin2, l_cmp, l_cmp1, l_cmp2, l_idx, l_idx1, l_idx2, l_chn, l_chn1, l_chn2, l_chn3, l_chn3f, l_chn4, l_ite, l_iteT, l_iteF, l_and, l_and1, l_and2, l_andG, l_andS, l_or, l_or1, l_or2, l_orG, l_orS, l_sli, l_sli1, l_sli2, l_sli3, l_tup, l_tup1, l_lst, l_lst1, l_call, l_call1, l_blt, l_blt1, l_mth, l_mth1, l_mth2, l_snil, l_scons, l_sqn, l_sqr, l_sqb, l_sqc, l_asg, l_asg1, l_asgs, l_asgs1, l_asgs2, l_asgs3, l_bT, l_b1, l_bn, l_bc, l_k0, l_k1, l_exp, l_exp1, l_ret, l_ret1, l_retN, l_brk, l_cnt, l_pss, l_if, l_ifT, l_ifF, l_sub, l_sub1, l_sub2, l_sub3, l_set, l_for, l_lc, l_seq, l_seqL, l_seqL1, l_seqT, l_seqS, l_fsh, l_rng1, l_rng11, l_enm, l_enmT, o_addI, o_subI, o_mulI, o_fdivI, o_modI, o_powI, o_addS, o_addT, o_addL, o_addL1, o_repL, o_repL1, o_repS, c_lt, c_le, c_gt, c_ge, c_eq, c_eq1, c_ne, c_ne1, c_in, c_nin, e_II, e_SS, d_II, d_SS, n_int, n_bl, x_tup, x_at, x_atS, x_str, x_lst, x_lst1, b_int, b_lenT, b_lenS, b_lenL, b_lenL1, b_tupT, b_tupL, b_tupL1, b_lstT, b_lstL, b_lstL1, b_min, b_max, b_isi, b_isi1, b_repr, m_app, m_app1, m_appOk, m_popOk, m_lstB, v_set, v_set1, t_op, t_lop, i_N, i_nN, i_T, i_nT, i_F, i_nF, List.getElem?_cons_succ, List.getElem?_cons_zero, List.set_cons_succ, List.set_cons_zero, st_get, st_get0, st_set, st_set0, if_true, tidy_app, tidy_same, trim_pure, trim_pure0, Nat.zero_le, Nat.zero_add, Nat.reduceAdd, Nat.reduceSub, List.replicate, List.map_cons, List.map_nil, List.cons_append, List.nil_append, g1, g2, g3, g4, g5, ha, hb, r1, r2, c1, c2, c3, a1, b1, e1, e2, x3, mn_blt, p, nu, if_false, Option.map_some]
    rw [← tabU_set h1]
    rfl
  · have x3 : decide (((A.getD i 0 : Nat) : Int) = ((B.getD j 0 : Nat) : Int)) = false := decide_eq_false (by omega)
    rw [if_neg (by unfold qN; simpa using h3)] at hG
    rw [hG]
    simp only [b0__law_head, l_var, l_var1, l_glo, l_glo1, l_cst, l_nil, l_cons, l_L1, l_L2, l_neg, l_neg1, l_not, l_not1, l_rev, l_rev1, l_lrg, l_lrg1, l_cdx, l_cdx1, l_isc, l_isc1, l_tdy, l_tdy1, l_bin, l_bin1, l_bin2, l_cmp, l_cmp1, l_cmp2, l_idx, l_idx1, l_idx2, l_chn, l_chn1, l_chn2, l_chn3, l_chn3f, l_chn4, l_ite, l_iteT, l_iteF, l_and, l_and1, l_and2, l_andG, l_andS, l_or, l_or1, l_or2, l_orG, l_orS, l_sli, l_sli1, l_sli2, l_sli3, l_tup, l_tup1, l_lst, l_lst1, l_call, l_call1, l_blt, l_blt1, l_mth, l_mth1, l_mth2, l_snil, l_scons, l_sqn, l_sqr, l_sqb, l_sqc, l_asg, l_asg1, l_asgs, l_asgs1, l_asgs2, l_asgs3, l_bT, l_b1, l_bn, l_bc, l_k0, l_k1, l_exp, l_exp1, l_ret, l_ret1, l_retN, l_brk, l_cnt, l_pss, l_if, l_ifT, l_ifF, l_sub, l_sub1, l_sub2, l_sub3, l_set, l_for, l_lc, l_seq, l_seqL, l_seqL1, l_seqT, l_seqS, l_fsh, l_rng1, l_rng11, l_enm, l_enmT, o_addI, o_subI, o_mulI, o_fdivI, o_modI, o_powI, o_addS, o_addT, o_addL, o_addL1, o_repL, o_repL1, o_repS, c_lt, c_le, c_gt, c_ge, c_eq, c_eq1, c_ne, c_ne1, c_in, c_nin, e_II, e_SS, d_II, d_SS, n_int, n_bl, x_tup, x_at, x_atS, x_str, x_lst, x_lst1, b_int, b_lenT, b_lenS, b_lenL, b_lenL1, b_tupT, b_tupL, b_tupL1, b_lstT, b_lstL, b_lstL1, b_min, b_max, b_isi, b_isi1, b_repr, m_app, m_app1, m_appOk, m_popOk, m_lstB, v_set, v_set1, t_op, t_lop, i_N, i_nN, i_T, i_nT, i_F, i_nF, List.getElem?_cons_succ, List.getElem?_cons_zero, List.set_cons_succ, List.set_cons_zero, st_get, st_get0, st_set, st_set0, if_true, tidy_app, tidy_same, trim_pure, trim_pure0, Nat.zero_le, Nat.zero_add, Nat.reduceAdd, Nat.reduceSub, List.replicate, List.map_cons, List.map_nil, List.cons_append, List.nil_append, g1, g2, g3, g4, g5, ha, hb, r1, r2, c1, c2, c3, a1, b1, e1, e2, x3, mn_blt, p, nu, if_false, Option.map_some]
    rw [← tabU_set h1]
    rfl
def doneH (A B : List Nat) (F : Nat → Nat → Int) (i j : Nat) : Prop := ∀ t u, t ≤ A.length → u ≤ B.length → (t = 0 ∨ u = 0 ∨ t ≤ i ∨ (t = i + 1 ∧ u ≤ j)) → F t u = Er (qN A B) t u
theorem doneH_step {F : Nat → Nat → Int} {i j : Nat} (h : doneH A B F i j) : doneH A B (updF F (i + 1) (j + 1) (Er (qN A B) (i + 1) (j + 1))) i (j + 1) := by
  intro t u h1 h2 h3
  unfold updF
  by_cases e1 : t = i + 1
  · rw [if_pos e1]
    by_cases e2 : u = j + 1
    · rw [if_pos e2, e1, e2]
    · rw [if_neg e2]
      exact h t u h1 h2 (by omega)
  · rw [if_neg e1]
    exact h t u h1 h2 (by omega)
theorem head_row {F : Nat → Nat → Int} {i : Nat} (ha : S[ka]? = some (.lst (nD A))) (hb : S[kb]? = some (.lst (nD B))) (hA : A.length ≤ 60) (hB : B.length ≤ 60) (hi : i < A.length) (hF : doneH A B F i 0) :
    ∃ F', doneH A B F' i B.length ∧ evSs (cx N S) b1__law_head [some (.ref ka), some (.ref kb), some (.ref (S.length + (A.length + 1))), some (.int (i : Nat)), none, none, none] (tabU S F A.length B.length) =
      .nx [some (.ref ka), some (.ref kb), some (.ref (S.length + (A.length + 1))), some (.int (i : Nat)), none, none, none] (tabU S F' A.length B.length) := by
  have hka := (List.getElem?_eq_some_iff.mp ha).1
  have hkb := (List.getElem?_eq_some_iff.mp hb).1
  obtain ⟨ρ', S', q1, ⟨x4, x5, F', q2, q3, q4⟩⟩ := forL_ind (w := []) (bd := tgF true [4]) (ks := [4, 5]) (body := bodyF (cx N S) b0__law_head)
    (fun j ρ T => ∃ x4 x5 F', ρ = [some (.ref ka), some (.ref kb), some (.ref (S.length + (A.length + 1))), some (.int (i : Nat)), x4, x5, none] ∧ doneH A B F' i j ∧ T = tabU S F' A.length B.length) (xs := rngL 0 B.length)
    (ρ := [some (.ref ka), some (.ref kb), some (.ref (S.length + (A.length + 1))), some (.int (i : Nat)), none, none, none]) (S := tabU S F A.length B.length) ⟨_, _, F, rfl, hF, rfl⟩ (fun _ _ _ _ => rfl) (fun j x ρ T hx h => by
      obtain ⟨x4, x5, F', rfl, h2, rfl⟩ := h
      have hj : j < B.length := by
        have := (List.getElem?_eq_some_iff.mp hx).1
        rw [rngL_ints, List.length_map, List.length_range] at this
        exact this
      have hx' : x = .int (j : Nat) := by
        rw [rngL_ints, List.getElem?_map, List.getElem?_range hj] at hx
        simp at hx
        exact hx.symm
      subst hx'
      exact ⟨_, _, _, rfl, .inl (head_cell ha hb hA hB hi hj (h2 _ _ (by omega) (by omega) (by omega)) (h2 _ _ (by omega) (by omega) (by omega)) (h2 _ _ (by omega) (by omega) (by omega))), _, _, _, rfl, doneH_step h2, rfl⟩)
  rw [rngL_ints, List.length_map, List.length_range] at q3
  rw [q2, q4] at q1
  have g2 := tabU_old0 (F := F) (m := A.length) (n := B.length) hkb
  have hr : (-4611686018427387904 ≤ ((B.length : Nat) : Int) ∧ ((B.length : Nat) : Int) < 4611686018427387904) = True := by
    simp
    omega
  have hr2 : ((B.length : Nat) : Int).toNat = B.length := by omega
  refine ⟨F', q3, ?_⟩
  simp only [b1__law_head, l_var, l_var1, l_glo, l_glo1, l_cst, l_nil, l_cons, l_L1, l_L2, l_neg, l_neg1, l_not, l_not1, l_rev, l_rev1, l_lrg, l_lrg1, l_cdx, l_cdx1, l_isc, l_isc1, l_tdy, l_tdy1, l_bin, l_bin1, l_bin2, l_cmp, l_cmp1, l_cmp2, l_idx, l_idx1, l_idx2, l_chn, l_chn1, l_chn2, l_chn3, l_chn3f, l_chn4, l_ite, l_iteT, l_iteF, l_and, l_and1, l_and2, l_andG, l_andS, l_or, l_or1, l_or2, l_orG, l_orS, l_sli, l_sli1, l_sli2, l_sli3, l_tup, l_tup1, l_lst, l_lst1, l_call, l_call1, l_blt, l_blt1, l_mth, l_mth1, l_mth2, l_snil, l_scons, l_sqn, l_sqr, l_sqb, l_sqc, l_asg, l_asg1, l_asgs, l_asgs1, l_asgs2, l_asgs3, l_bT, l_b1, l_bn, l_bc, l_k0, l_k1, l_exp, l_exp1, l_ret, l_ret1, l_retN, l_brk, l_cnt, l_pss, l_if, l_ifT, l_ifF, l_sub, l_sub1, l_sub2, l_sub3, l_set, l_for, l_lc, l_seq, l_seqL, l_seqL1, l_seqT, l_seqS, l_fsh, l_rng1, l_rng11, l_enm, l_enmT, o_addI, o_subI, o_mulI, o_fdivI, o_modI, o_powI, o_addS, o_addT, o_addL, o_addL1, o_repL, o_repL1, o_repS, c_lt, c_le, c_gt, c_ge, c_eq, c_eq1, c_ne, c_ne1, c_in, c_nin, e_II, e_SS, d_II, d_SS, n_int, n_bl, x_tup, x_at, x_atS, x_str, x_lst, x_lst1, b_int, b_lenT, b_lenS, b_lenL, b_lenL1, b_tupT, b_tupL, b_tupL1, b_lstT, b_lstL, b_lstL1, b_min, b_max, b_isi, b_isi1, b_repr, m_app, m_app1, m_appOk, m_popOk, m_lstB, v_set, v_set1, t_op, t_lop, i_N, i_nN, i_T, i_nT, i_F, i_nF, List.getElem?_cons_succ, List.getElem?_cons_zero, List.set_cons_succ, List.set_cons_zero, st_get, st_get0, st_set, st_set0, if_true, tidy_app, tidy_same, trim_pure, trim_pure0, Nat.zero_le, Nat.zero_add, Nat.reduceAdd, Nat.reduceSub, List.replicate, List.map_cons, List.map_nil, List.cons_append, List.nil_append, g2, hb, nD_len, hr, hr2, l_for1, q1]
theorem rl_row {q : Nat → Nat → Bool} {i n : Nat} : rl q i (n + 1) = rowOf (Er q i) n := rfl
theorem head_m (ha : S[ka]? = some (.lst (nD A))) (hb : S[kb]? = some (.lst (nD B))) (hA : A.length ≤ 60) (hB : B.length ≤ 60) :
    cl (N + 1) 13 [.ref ka, .ref kb] S = .ok (tabD (qN A B) A.length B.length) S := by
  have e0 : L.prog[13]? = some i__law_head := rfl
  have hka := (List.getElem?_eq_some_iff.mp ha).1
  have hkb := (List.getElem?_eq_some_iff.mp hb).1
  obtain ⟨ρ', S', q1, ⟨x3, x4, x5, F, q2, q3, q4⟩⟩ := forL_ind (w := []) (bd := tgF true [3]) (ks := [3, 4, 5]) (body := bodyF (cx N S) b1__law_head)
    (fun i ρ T => ∃ x3 x4 x5 F', ρ = [some (.ref ka), some (.ref kb), some (.ref (S.length + (A.length + 1))), x3, x4, x5, none] ∧ doneH A B F' i 0 ∧ T = tabU S F' A.length B.length) (xs := rngL 0 A.length)
    (ρ := [some (.ref ka), some (.ref kb), some (.ref (S.length + (A.length + 1))), none, none, none, none]) (S := tabU S (fun t u => (t : Int) + (u : Int)) A.length B.length) ⟨_, _, _, _, rfl, fun t u h1 h2 h3 => by
      rcases h3 with h3 | h3 | h3 | h3
      · subst h3
        show ((0 : Nat) : Int) + (u : Int) = (u : Int)
        omega
      · subst h3
        rw [Er0]
        omega
      · have : t = 0 := by omega
        subst this
        show ((0 : Nat) : Int) + (u : Int) = (u : Int)
        omega
      · have : u = 0 := by omega
        subst this
        rw [Er0]
        omega, rfl⟩ (fun _ _ _ _ => rfl) (fun i x ρ T hx h => by
      obtain ⟨x3, x4, x5, F', rfl, h2, rfl⟩ := h
      have hi : i < A.length := by
        have := (List.getElem?_eq_some_iff.mp hx).1
        rw [rngL_ints, List.length_map, List.length_range] at this
        exact this
      have hx' : x = .int (i : Nat) := by
        rw [rngL_ints, List.getElem?_map, List.getElem?_range hi] at hx
        simp at hx
        exact hx.symm
      subst hx'
      obtain ⟨F2, d1, d2⟩ := head_row (N := N) ha hb hA hB hi h2
      exact ⟨_, _, _, rfl, .inl d2, _, _, _, _, rfl, fun t u h1 h3 h4 => d1 t u h1 h3 (by omega), rfl⟩)
  rw [rngL_ints, List.length_map, List.length_range] at q3
  subst q4
  rw [q2] at q1
  have el : line = 16777216 := rfl
  have hr : ∀ n : Nat, n ≤ 60 → (-4611686018427387904 ≤ ((n : Nat) : Int) + 1 ∧ ((n : Nat) : Int) + 1 < 4611686018427387904) = True := fun n h => by
    simp
    omega
  have hr2 : ∀ n : Nat, (((n : Nat) : Int) + 1).toNat = n + 1 := fun n => by omega
  have hr0 : (-4611686018427387904 ≤ ((A.length : Nat) : Int) ∧ ((A.length : Nat) : Int) < 4611686018427387904) = True := by
    simp
    omega
  have hr02 : ((A.length : Nat) : Int).toNat = A.length := by omega
  have hL := lc_rows (S := S) (F := fun t u => (t : Int) + (u : Int)) (m := A.length) (n := B.length) (bd := fun d => bindTg true [3] d (kill [3] [some (.ref ka), some (.ref kb), none, none, none, none, none])) (c := fun ρ T => evE (cx N S) (.cst (.bl true)) ρ T)
    (e := fun ρ T => evE (cx N S) (.lc [4] true [4] (.rng1 (.bin .add (.blt .len (.cons (.var 1) .nil)) (.cst (.int 1)))) (.cst (.bl true)) (.bin .add (.var 3) (.var 4))) ρ T) (fun i hi => by
      refine ⟨_, rfl, by simp only [l_var, l_var1, l_glo, l_glo1, l_cst, l_nil, l_cons, l_L1, l_L2, l_neg, l_neg1, l_not, l_not1, l_rev, l_rev1, l_lrg, l_lrg1, l_cdx, l_cdx1, l_isc, l_isc1, l_tdy, l_tdy1, l_bin, l_bin1, l_bin2, l_cmp, l_cmp1, l_cmp2, l_idx, l_idx1, l_idx2, l_chn, l_chn1, l_chn2, l_chn3, l_chn3f, l_chn4, l_ite, l_iteT, l_iteF, l_and, l_and1, l_and2, l_andG, l_andS, l_or, l_or1, l_or2, l_orG, l_orS, l_sli, l_sli1, l_sli2, l_sli3, l_tup, l_tup1, l_lst, l_lst1, l_call, l_call1, l_blt, l_blt1, l_mth, l_mth1, l_mth2, l_snil, l_scons, l_sqn, l_sqr, l_sqb, l_sqc, l_asg, l_asg1, l_asgs, l_asgs1, l_asgs2, l_asgs3, l_bT, l_b1, l_bn, l_bc, l_k0, l_k1, l_exp, l_exp1, l_ret, l_ret1, l_retN, l_brk, l_cnt, l_pss, l_if, l_ifT, l_ifF, l_sub, l_sub1, l_sub2, l_sub3, l_set, l_for, l_lc, l_seq, l_seqL, l_seqL1, l_seqT, l_seqS, l_fsh, l_rng1, l_rng11, l_enm, l_enmT, o_addI, o_subI, o_mulI, o_fdivI, o_modI, o_powI, o_addS, o_addT, o_addL, o_addL1, o_repL, o_repL1, o_repS, c_lt, c_le, c_gt, c_ge, c_eq, c_eq1, c_ne, c_ne1, c_in, c_nin, e_II, e_SS, d_II, d_SS, n_int, n_bl, x_tup, x_at, x_atS, x_str, x_lst, x_lst1, b_int, b_lenT, b_lenS, b_lenL, b_lenL1, b_tupT, b_tupL, b_tupL1, b_lstT, b_lstL, b_lstL1, b_min, b_max, b_isi, b_isi1, b_repr, m_app, m_app1, m_appOk, m_popOk, m_lstB, v_set, v_set1, t_op, t_lop, i_N, i_nN, i_T, i_nT, i_F, i_nF, List.getElem?_cons_succ, List.getElem?_cons_zero, List.set_cons_succ, List.set_cons_zero, st_get, st_get0, st_set, st_set0, if_true, tidy_app, tidy_same, trim_pure, trim_pure0, Nat.zero_le, Nat.zero_add, Nat.reduceAdd, Nat.reduceSub, List.replicate, List.map_cons, List.map_nil, List.cons_append, List.nil_append], ?_⟩
      show evE _ _ [some (.ref ka), some (.ref kb), none, some (.int (i : Nat)), none, none, none] _ = _
      have hU : (S ++ rowsU (fun t u => (t : Int) + (u : Int)) i B.length).length = S.length + i := by rw [List.length_append, rowsU_len]
      have gb : (S ++ rowsU (fun t u => (t : Int) + (u : Int)) i B.length)[kb]? = some (.lst (nD B)) := by rw [List.getElem?_append_left hkb]; exact hb
      generalize S ++ rowsU (fun t u => (t : Int) + (u : Int)) i B.length = U at hU gb ⊢
      have hL2 : lcL [] (fun d => bindTg true [4] d (kill [4] [some (.ref ka), some (.ref kb), none, some (.int (i : Nat)), none, none, none])) (fun ρ T => evE (cx N S) (.cst (.bl true)) ρ T) (fun ρ T => evE (cx N S) (.bin .add (.var 3) (.var 4)) ρ T) (rngL 0 (B.length + 1)) U =
          .ok ((rngL 0 (B.length + 1)).map fun x => match x with
            | .int j => .int ((i : Nat) + j)
            | _ => .non) U := by
        refine lcL_map rfl fun x hx => ?_
        rw [rngL_ints] at hx
        obtain ⟨k, _, rfl⟩ := List.mem_map.mp hx
        refine ⟨_, rfl, by simp only [l_var, l_var1, l_glo, l_glo1, l_cst, l_nil, l_cons, l_L1, l_L2, l_neg, l_neg1, l_not, l_not1, l_rev, l_rev1, l_lrg, l_lrg1, l_cdx, l_cdx1, l_isc, l_isc1, l_tdy, l_tdy1, l_bin, l_bin1, l_bin2, l_cmp, l_cmp1, l_cmp2, l_idx, l_idx1, l_idx2, l_chn, l_chn1, l_chn2, l_chn3, l_chn3f, l_chn4, l_ite, l_iteT, l_iteF, l_and, l_and1, l_and2, l_andG, l_andS, l_or, l_or1, l_or2, l_orG, l_orS, l_sli, l_sli1, l_sli2, l_sli3, l_tup, l_tup1, l_lst, l_lst1, l_call, l_call1, l_blt, l_blt1, l_mth, l_mth1, l_mth2, l_snil, l_scons, l_sqn, l_sqr, l_sqb, l_sqc, l_asg, l_asg1, l_asgs, l_asgs1, l_asgs2, l_asgs3, l_bT, l_b1, l_bn, l_bc, l_k0, l_k1, l_exp, l_exp1, l_ret, l_ret1, l_retN, l_brk, l_cnt, l_pss, l_if, l_ifT, l_ifF, l_sub, l_sub1, l_sub2, l_sub3, l_set, l_for, l_lc, l_seq, l_seqL, l_seqL1, l_seqT, l_seqS, l_fsh, l_rng1, l_rng11, l_enm, l_enmT, o_addI, o_subI, o_mulI, o_fdivI, o_modI, o_powI, o_addS, o_addT, o_addL, o_addL1, o_repL, o_repL1, o_repS, c_lt, c_le, c_gt, c_ge, c_eq, c_eq1, c_ne, c_ne1, c_in, c_nin, e_II, e_SS, d_II, d_SS, n_int, n_bl, x_tup, x_at, x_atS, x_str, x_lst, x_lst1, b_int, b_lenT, b_lenS, b_lenL, b_lenL1, b_tupT, b_tupL, b_tupL1, b_lstT, b_lstL, b_lstL1, b_min, b_max, b_isi, b_isi1, b_repr, m_app, m_app1, m_appOk, m_popOk, m_lstB, v_set, v_set1, t_op, t_lop, i_N, i_nN, i_T, i_nT, i_F, i_nF, List.getElem?_cons_succ, List.getElem?_cons_zero, List.set_cons_succ, List.set_cons_zero, st_get, st_get0, st_set, st_set0, if_true, tidy_app, tidy_same, trim_pure, trim_pure0, Nat.zero_le, Nat.zero_add, Nat.reduceAdd, Nat.reduceSub, List.replicate, List.map_cons, List.map_nil, List.cons_append, List.nil_append], ?_⟩
        show evE _ _ [some (.ref ka), some (.ref kb), none, some (.int (i : Nat)), some (.int (0 + (k : Nat))), none, none] U = _
        simp only [l_var, l_var1, l_glo, l_glo1, l_cst, l_nil, l_cons, l_L1, l_L2, l_neg, l_neg1, l_not, l_not1, l_rev, l_rev1, l_lrg, l_lrg1, l_cdx, l_cdx1, l_isc, l_isc1, l_tdy, l_tdy1, l_bin, l_bin1, l_bin2, l_cmp, l_cmp1, l_cmp2, l_idx, l_idx1, l_idx2, l_chn, l_chn1, l_chn2, l_chn3, l_chn3f, l_chn4, l_ite, l_iteT, l_iteF, l_and, l_and1, l_and2, l_andG, l_andS, l_or, l_or1, l_or2, l_orG, l_orS, l_sli, l_sli1, l_sli2, l_sli3, l_tup, l_tup1, l_lst, l_lst1, l_call, l_call1, l_blt, l_blt1, l_mth, l_mth1, l_mth2, l_snil, l_scons, l_sqn, l_sqr, l_sqb, l_sqc, l_asg, l_asg1, l_asgs, l_asgs1, l_asgs2, l_asgs3, l_bT, l_b1, l_bn, l_bc, l_k0, l_k1, l_exp, l_exp1, l_ret, l_ret1, l_retN, l_brk, l_cnt, l_pss, l_if, l_ifT, l_ifF, l_sub, l_sub1, l_sub2, l_sub3, l_set, l_for, l_lc, l_seq, l_seqL, l_seqL1, l_seqT, l_seqS, l_fsh, l_rng1, l_rng11, l_enm, l_enmT, o_addI, o_subI, o_mulI, o_fdivI, o_modI, o_powI, o_addS, o_addT, o_addL, o_addL1, o_repL, o_repL1, o_repS, c_lt, c_le, c_gt, c_ge, c_eq, c_eq1, c_ne, c_ne1, c_in, c_nin, e_II, e_SS, d_II, d_SS, n_int, n_bl, x_tup, x_at, x_atS, x_str, x_lst, x_lst1, b_int, b_lenT, b_lenS, b_lenL, b_lenL1, b_tupT, b_tupL, b_tupL1, b_lstT, b_lstL, b_lstL1, b_min, b_max, b_isi, b_isi1, b_repr, m_app, m_app1, m_appOk, m_popOk, m_lstB, v_set, v_set1, t_op, t_lop, i_N, i_nN, i_T, i_nT, i_F, i_nF, List.getElem?_cons_succ, List.getElem?_cons_zero, List.set_cons_succ, List.set_cons_zero, st_get, st_get0, st_set, st_set0, if_true, tidy_app, tidy_same, trim_pure, trim_pure0, Nat.zero_le, Nat.zero_add, Nat.reduceAdd, Nat.reduceSub, List.replicate, List.map_cons, List.map_nil, List.cons_append, List.nil_append]
      have hm : ((rngL 0 (B.length + 1)).map fun x => match x with
            | .int j => D.int ((i : Nat) + j)
            | _ => .non) = rowOf (fun u => (i : Int) + (u : Int)) B.length := by
        rw [rngL_ints, List.map_map]
        unfold rowOf
        apply List.map_congr_left
        intro k _
        show D.int ((i : Int) + (0 + (k : Int))) = D.int ((i : Int) + (k : Int))
        congr 1
        omega
      rw [hm] at hL2
      have hlc2 := l_lc1 (C := cx N S) (ρ := [some (.ref ka), some (.ref kb), none, some (.int (i : Nat)), none, none, none]) (own := [4]) (one := true) (tg := [4]) (w := []) (by rw [rngL_ints, List.length_map, List.length_range]; omega) hL2
      rw [← hU]
      simp only [l_var, l_var1, l_glo, l_glo1, l_cst, l_nil, l_cons, l_L1, l_L2, l_neg, l_neg1, l_not, l_not1, l_rev, l_rev1, l_lrg, l_lrg1, l_cdx, l_cdx1, l_isc, l_isc1, l_tdy, l_tdy1, l_bin, l_bin1, l_bin2, l_cmp, l_cmp1, l_cmp2, l_idx, l_idx1, l_idx2, l_chn, l_chn1, l_chn2, l_chn3, l_chn3f, l_chn4, l_ite, l_iteT, l_iteF, l_and, l_and1, l_and2, l_andG, l_andS, l_or, l_or1, l_or2, l_orG, l_orS, l_sli, l_sli1, l_sli2, l_sli3, l_tup, l_tup1, l_lst, l_lst1, l_call, l_call1, l_blt, l_blt1, l_mth, l_mth1, l_mth2, l_snil, l_scons, l_sqn, l_sqr, l_sqb, l_sqc, l_asg, l_asg1, l_asgs, l_asgs1, l_asgs2, l_asgs3, l_bT, l_b1, l_bn, l_bc, l_k0, l_k1, l_exp, l_exp1, l_ret, l_ret1, l_retN, l_brk, l_cnt, l_pss, l_if, l_ifT, l_ifF, l_sub, l_sub1, l_sub2, l_sub3, l_set, l_for, l_lc, l_seq, l_seqL, l_seqL1, l_seqT, l_seqS, l_fsh, l_rng1, l_rng11, l_enm, l_enmT, o_addI, o_subI, o_mulI, o_fdivI, o_modI, o_powI, o_addS, o_addT, o_addL, o_addL1, o_repL, o_repL1, o_repS, c_lt, c_le, c_gt, c_ge, c_eq, c_eq1, c_ne, c_ne1, c_in, c_nin, e_II, e_SS, d_II, d_SS, n_int, n_bl, x_tup, x_at, x_atS, x_str, x_lst, x_lst1, b_int, b_lenT, b_lenS, b_lenL, b_lenL1, b_tupT, b_tupL, b_tupL1, b_lstT, b_lstL, b_lstL1, b_min, b_max, b_isi, b_isi1, b_repr, m_app, m_app1, m_appOk, m_popOk, m_lstB, v_set, v_set1, t_op, t_lop, i_N, i_nN, i_T, i_nT, i_F, i_nF, List.getElem?_cons_succ, List.getElem?_cons_zero, List.set_cons_succ, List.set_cons_zero, st_get, st_get0, st_set, st_set0, if_true, tidy_app, tidy_same, trim_pure, trim_pure0, Nat.zero_le, Nat.zero_add, Nat.reduceAdd, Nat.reduceSub, List.replicate, List.map_cons, List.map_nil, List.cons_append, List.nil_append, gb, nD_len, hr _ hB, hr2, hlc2, st_alloc0])
  have hlc := l_lc1 (C := cx N S) (ρ := [some (.ref ka), some (.ref kb), none, none, none, none, none]) (own := [3]) (one := true) (tg := [3]) (w := []) (by rw [rngL_ints, List.length_map, List.length_range]; omega) hL
  have hal : alloc (.lst (refsU S.length A.length)) (S ++ rowsU (fun t u => (t : Int) + (u : Int)) (A.length + 1) B.length) = .ok (.ref (S.length + (A.length + 1))) (tabU S (fun t u => (t : Int) + (u : Int)) A.length B.length) := by
    rw [st_alloc, rowsU_len]
    rfl
  rw [hal] at hlc
  have td : tidy S (.ref (S.length + (A.length + 1))) (tabU S (fun t u => (t : Int) + (u : Int)) A.length B.length) = .ok (.ref (S.length + (A.length + 1))) (tabU S (fun t u => (t : Int) + (u : Int)) A.length B.length) := by
    unfold tabU
    rw [tidy_app]
    exact tabU_keep
  have g1 := tabU_old0 (F := fun t u => (t : Int) + (u : Int)) (m := A.length) (n := B.length) hka
  have g3 := tabU_top0 (S := S) (F := F) (m := A.length) (n := B.length)
  have hw : wOk (tabU S F A.length B.length) [(S.length + (A.length + 1), .lst (refsU S.length A.length))] = true := by
    simp [wOk, g3]
  have hL3 : lcL [(S.length + (A.length + 1), .lst (refsU S.length A.length))] (fun d => bindTg true [6] d (kill [6] [some (.ref ka), some (.ref kb), some (.ref (S.length + (A.length + 1))), none, none, none, none])) (fun ρ T => evE (cx N S) (.cst (.bl true)) ρ T) (fun ρ T => evE (cx N S) (.blt .tuple (.cons (.var 6) .nil)) ρ T) (refsU S.length A.length) (tabU S F A.length B.length) =
      .ok ((refsU S.length A.length).map fun d => match d with
        | .ref k => (match (tabU S F A.length B.length)[k]? with
          | some (.lst xs) => .tup xs
          | _ => .non)
        | _ => .non) (tabU S F A.length B.length) := by
    refine lcL_map hw fun x hx => ?_
    obtain ⟨t, ht, rfl⟩ := List.mem_map.mp hx
    have ht2 : t ≤ A.length := by
      have := List.mem_range.mp ht
      omega
    have g4 := tabU_row0 (S := S) (F := F) (n := B.length) ht2
    refine ⟨_, rfl, by simp only [l_var, l_var1, l_glo, l_glo1, l_cst, l_nil, l_cons, l_L1, l_L2, l_neg, l_neg1, l_not, l_not1, l_rev, l_rev1, l_lrg, l_lrg1, l_cdx, l_cdx1, l_isc, l_isc1, l_tdy, l_tdy1, l_bin, l_bin1, l_bin2, l_cmp, l_cmp1, l_cmp2, l_idx, l_idx1, l_idx2, l_chn, l_chn1, l_chn2, l_chn3, l_chn3f, l_chn4, l_ite, l_iteT, l_iteF, l_and, l_and1, l_and2, l_andG, l_andS, l_or, l_or1, l_or2, l_orG, l_orS, l_sli, l_sli1, l_sli2, l_sli3, l_tup, l_tup1, l_lst, l_lst1, l_call, l_call1, l_blt, l_blt1, l_mth, l_mth1, l_mth2, l_snil, l_scons, l_sqn, l_sqr, l_sqb, l_sqc, l_asg, l_asg1, l_asgs, l_asgs1, l_asgs2, l_asgs3, l_bT, l_b1, l_bn, l_bc, l_k0, l_k1, l_exp, l_exp1, l_ret, l_ret1, l_retN, l_brk, l_cnt, l_pss, l_if, l_ifT, l_ifF, l_sub, l_sub1, l_sub2, l_sub3, l_set, l_for, l_lc, l_seq, l_seqL, l_seqL1, l_seqT, l_seqS, l_fsh, l_rng1, l_rng11, l_enm, l_enmT, o_addI, o_subI, o_mulI, o_fdivI, o_modI, o_powI, o_addS, o_addT, o_addL, o_addL1, o_repL, o_repL1, o_repS, c_lt, c_le, c_gt, c_ge, c_eq, c_eq1, c_ne, c_ne1, c_in, c_nin, e_II, e_SS, d_II, d_SS, n_int, n_bl, x_tup, x_at, x_atS, x_str, x_lst, x_lst1, b_int, b_lenT, b_lenS, b_lenL, b_lenL1, b_tupT, b_tupL, b_tupL1, b_lstT, b_lstL, b_lstL1, b_min, b_max, b_isi, b_isi1, b_repr, m_app, m_app1, m_appOk, m_popOk, m_lstB, v_set, v_set1, t_op, t_lop, i_N, i_nN, i_T, i_nT, i_F, i_nF, List.getElem?_cons_succ, List.getElem?_cons_zero, List.set_cons_succ, List.set_cons_zero, st_get, st_get0, st_set, st_set0, if_true, tidy_app, tidy_same, trim_pure, trim_pure0, Nat.zero_le, Nat.zero_add, Nat.reduceAdd, Nat.reduceSub, List.replicate, List.map_cons, List.map_nil, List.cons_append, List.nil_append], ?_⟩
    show evE _ _ [some (.ref ka), some (.ref kb), some (.ref (S.length + (A.length + 1))), none, none, none, some (.ref (S.length + t))] _ = _
    simp only [l_var, l_var1, l_glo, l_glo1, l_cst, l_nil, l_cons, l_L1, l_L2, l_neg, l_neg1, l_not, l_not1, l_rev, l_rev1, l_lrg, l_lrg1, l_cdx, l_cdx1, l_isc, l_isc1, l_tdy, l_tdy1, l_bin, l_bin1, l_bin2, l_cmp, l_cmp1, l_cmp2, l_idx, l_idx1, l_idx2, l_chn, l_chn1, l_chn2, l_chn3, l_chn3f, l_chn4, l_ite, l_iteT, l_iteF, l_and, l_and1, l_and2, l_andG, l_andS, l_or, l_or1, l_or2, l_orG, l_orS, l_sli, l_sli1, l_sli2, l_sli3, l_tup, l_tup1, l_lst, l_lst1, l_call, l_call1, l_blt, l_blt1, l_mth, l_mth1, l_mth2, l_snil, l_scons, l_sqn, l_sqr, l_sqb, l_sqc, l_asg, l_asg1, l_asgs, l_asgs1, l_asgs2, l_asgs3, l_bT, l_b1, l_bn, l_bc, l_k0, l_k1, l_exp, l_exp1, l_ret, l_ret1, l_retN, l_brk, l_cnt, l_pss, l_if, l_ifT, l_ifF, l_sub, l_sub1, l_sub2, l_sub3, l_set, l_for, l_lc, l_seq, l_seqL, l_seqL1, l_seqT, l_seqS, l_fsh, l_rng1, l_rng11, l_enm, l_enmT, o_addI, o_subI, o_mulI, o_fdivI, o_modI, o_powI, o_addS, o_addT, o_addL, o_addL1, o_repL, o_repL1, o_repS, c_lt, c_le, c_gt, c_ge, c_eq, c_eq1, c_ne, c_ne1, c_in, c_nin, e_II, e_SS, d_II, d_SS, n_int, n_bl, x_tup, x_at, x_atS, x_str, x_lst, x_lst1, b_int, b_lenT, b_lenS, b_lenL, b_lenL1, b_tupT, b_tupL, b_tupL1, b_lstT, b_lstL, b_lstL1, b_min, b_max, b_isi, b_isi1, b_repr, m_app, m_app1, m_appOk, m_popOk, m_lstB, v_set, v_set1, t_op, t_lop, i_N, i_nN, i_T, i_nT, i_F, i_nF, List.getElem?_cons_succ, List.getElem?_cons_zero, List.set_cons_succ, List.set_cons_zero, st_get, st_get0, st_set, st_set0, if_true, tidy_app, tidy_same, trim_pure, trim_pure0, Nat.zero_le, Nat.zero_add, Nat.reduceAdd, Nat.reduceSub, List.replicate, List.map_cons, List.map_nil, List.cons_append, List.nil_append, g4]
  have hE : ((refsU S.length A.length).map fun d => match d with
        | .ref k => (match (tabU S F A.length B.length)[k]? with
          | some (.lst xs) => D.tup xs
          | _ => .non)
        | _ => .non) = (List.range (A.length + 1)).map fun i => D.tup (rl (qN A B) i (B.length + 1)) := by
    unfold refsU
    rw [List.map_map]
    apply List.map_congr_left
    intro t ht
    have ht2 : t ≤ A.length := by
      have := List.mem_range.mp ht
      omega
    show (match (tabU S F A.length B.length)[S.length + t]? with
          | some (.lst xs) => D.tup xs
          | _ => .non) = _
    rw [tabU_row0 ht2, rl_row]
    show D.tup _ = _
    congr 1
    exact rowOf_congr fun u hu => q3 t u ht2 hu (by omega)
  rw [hE] at hL3
  have hlc3 := l_lc1 (C := cx N S) (ρ := [some (.ref ka), some (.ref kb), some (.ref (S.length + (A.length + 1))), none, none, none, none]) (own := [6]) (one := true) (tg := [6]) (by simp [refsU]; omega) hL3
  have sq : k_seq (.ok (.ref (S.length + (A.length + 1))) (tabU S F A.length B.length)) = .ok (refsU S.length A.length) [(S.length + (A.length + 1), .lst (refsU S.length A.length))] (tabU S F A.length B.length) := by
    simp only [k_seq, seqK, walkOf, g3]
  refine call_rt (d := tabD (qN A B) A.length B.length) (S1 := tabU S F A.length B.length ++ [.lst ((List.range (A.length + 1)).map fun i => D.tup (rl (qN A B) i (B.length + 1)))]) e0 rfl ?_ (tabU_trim1 tabD_und)
  show evSs (cx N S) i__law_head.body [some (.ref ka), some (.ref kb), none, none, none, none, none] S = _
  simp only [i__law_head, l_var, l_var1, l_glo, l_glo1, l_cst, l_nil, l_cons, l_L1, l_L2, l_neg, l_neg1, l_not, l_not1, l_rev, l_rev1, l_lrg, l_lrg1, l_cdx, l_cdx1, l_isc, l_isc1, l_tdy, l_tdy1, l_bin, l_bin1, l_bin2, l_cmp, l_cmp1, l_cmp2, l_idx, l_idx1, l_idx2, l_chn, l_chn1, l_chn2, l_chn3, l_chn3f, l_chn4, l_ite, l_iteT, l_iteF, l_and, l_and1, l_and2, l_andG, l_andS, l_or, l_or1, l_or2, l_orG, l_orS, l_sli, l_sli1, l_sli2, l_sli3, l_tup, l_tup1, l_lst, l_lst1, l_call, l_call1, l_blt, l_blt1, l_mth, l_mth1, l_mth2, l_snil, l_scons, l_sqn, l_sqr, l_sqb, l_sqc, l_asg, l_asg1, l_asgs, l_asgs1, l_asgs2, l_asgs3, l_bT, l_b1, l_bn, l_bc, l_k0, l_k1, l_exp, l_exp1, l_ret, l_ret1, l_retN, l_brk, l_cnt, l_pss, l_if, l_ifT, l_ifF, l_sub, l_sub1, l_sub2, l_sub3, l_set, l_for, l_lc, l_seq, l_seqL, l_seqL1, l_seqT, l_seqS, l_fsh, l_rng1, l_rng11, l_enm, l_enmT, o_addI, o_subI, o_mulI, o_fdivI, o_modI, o_powI, o_addS, o_addT, o_addL, o_addL1, o_repL, o_repL1, o_repS, c_lt, c_le, c_gt, c_ge, c_eq, c_eq1, c_ne, c_ne1, c_in, c_nin, e_II, e_SS, d_II, d_SS, n_int, n_bl, x_tup, x_at, x_atS, x_str, x_lst, x_lst1, b_int, b_lenT, b_lenS, b_lenL, b_lenL1, b_tupT, b_tupL, b_tupL1, b_lstT, b_lstL, b_lstL1, b_min, b_max, b_isi, b_isi1, b_repr, m_app, m_app1, m_appOk, m_popOk, m_lstB, v_set, v_set1, t_op, t_lop, i_N, i_nN, i_T, i_nT, i_F, i_nF, List.getElem?_cons_succ, List.getElem?_cons_zero, List.set_cons_succ, List.set_cons_zero, st_get, st_get0, st_set, st_set0, if_true, tidy_app, tidy_same, trim_pure, trim_pure0, Nat.zero_le, Nat.zero_add, Nat.reduceAdd, Nat.reduceSub, List.replicate, List.map_cons, List.map_nil, List.cons_append, List.nil_append, ha, g1, nD_len, hr _ hA, hr2, hlc, td, hr0, hr02, l_for1, q1, sq, hlc3, st_alloc0]
  rfl
end
end Lw

set_option Elab.async false
set_option linter.all false
set_option autoImplicit false
set_option maxRecDepth 100000
set_option maxHeartbeats 4000000
/-! Kl: the plain law k85: the law's first script. -/
namespace Lw
open Ev
section
variable {N : Nat} {S : Sto} {A B : List Nat} {ka kb : Nat} {F : Nat → Nat → Int}
theorem fbody_end {t : Nat} {st : List D} {z : D} (ha : S[ka]? = some (.lst (nD A))) (hb : S[kb]? = some (.lst (nD B))) {l : Sto} :
    evSs (cx N S) b0__law_first [some (.ref ka), some (.ref kb), some (.ref (S.length + (A.length + 1))), some (.int (A.length : Nat)), some (.int (B.length : Nat)), some z, some (.int (t : Nat)), none] (tabU S F A.length B.length ++ l) =
      .bk [some (.ref ka), some (.ref kb), some (.ref (S.length + (A.length + 1))), some (.int (A.length : Nat)), some (.int (B.length : Nat)), some z, some (.int (t : Nat)), none] (tabU S F A.length B.length ++ l) := by
  have ga := tabU_old (F := F) (m := A.length) (n := B.length) l (List.getElem?_eq_some_iff.mp ha).1
  have gb := tabU_old (F := F) (m := A.length) (n := B.length) l (List.getElem?_eq_some_iff.mp hb).1
  rw [ha] at ga
  rw [hb] at gb
  simp only [b0__law_first, l_var, l_var1, l_glo, l_glo1, l_cst, l_nil, l_cons, l_L1, l_L2, l_neg, l_neg1, l_not, l_not1, l_rev, l_rev1, l_lrg, l_lrg1, l_cdx, l_cdx1, l_isc, l_isc1, l_tdy, l_tdy1, l_bin, l_bin1, l_bin2, l_cmp, l_cmp1, l_cmp2, l_idx, l_idx1, l_idx2, l_chn, l_chn1, l_chn2, l_chn3, l_chn3f, l_chn4, l_ite, l_iteT, l_iteF, l_and, l_and1, l_and2, l_andG, l_andS, l_or, l_or1, l_or2, l_orG, l_orS, l_sli, l_sli1, l_sli2, l_sli3, l_tup, l_tup1, l_lst, l_lst1, l_call, l_call1, l_blt, l_blt1, l_mth, l_mth1, l_mth2, l_snil, l_scons, l_sqn, l_sqr, l_sqb, l_sqc, l_asg, l_asg1, l_asgs, l_asgs1, l_asgs2, l_asgs3, l_bT, l_b1, l_bn, l_bc, l_k0, l_k1, l_exp, l_exp1, l_ret, l_ret1, l_retN, l_brk, l_cnt, l_pss, l_if, l_ifT, l_ifF, l_sub, l_sub1, l_sub2, l_sub3, l_set, l_for, l_lc, l_seq, l_seqL, l_seqL1, l_seqT, l_seqS, l_fsh, l_rng1, l_rng11, l_enm, l_enmT, o_addI, o_subI, o_mulI, o_fdivI, o_modI, o_powI, o_addS, o_addT, o_addL, o_addL1, o_repL, o_repL1, o_repS, c_lt, c_le, c_gt, c_ge, c_eq, c_eq1, c_ne, c_ne1, c_in, c_nin, e_II, e_SS, d_II, d_SS, n_int, n_bl, x_tup, x_at, x_atS, x_str, x_lst, x_lst1, b_int, b_lenT, b_lenS, b_lenL, b_lenL1, b_tupT, b_tupL, b_tupL1, b_lstT, b_lstL, b_lstL1, b_min, b_max, b_isi, b_isi1, b_repr, m_app, m_app1, m_appOk, m_popOk, m_lstB, v_set, v_set1, t_op, t_lop, i_N, i_nN, i_T, i_nT, i_F, i_nF, List.getElem?_cons_succ, List.getElem?_cons_zero, List.set_cons_succ, List.set_cons_zero, st_get, st_get0, st_set, st_set0, if_true, tidy_app, tidy_same, trim_pure, trim_pure0, Nat.zero_le, Nat.zero_add, Nat.reduceAdd, Nat.reduceSub, List.replicate, List.map_cons, List.map_nil, List.cons_append, List.nil_append, ga, gb, nD_len, decide_true]
theorem fbody_step {i j t : Nat} {st : List D} (ha : S[ka]? = some (.lst (nD A))) (hb : S[kb]? = some (.lst (nD B))) (hF : ∀ t u, t ≤ A.length → u ≤ B.length → F t u = Gq A B t u) (hi : i ≤ A.length) (hj : j ≤ B.length) (hne : ¬ (i = A.length ∧ j = B.length)) (hst : st.length < 1000) :
    evSs (cx N S) b0__law_first [some (.ref ka), some (.ref kb), some (.ref (S.length + (A.length + 1))), some (.int (i : Nat)), some (.int (j : Nat)), some (.ref (tabU S F A.length B.length).length), some (.int (t : Nat)), none] (tabU S F A.length B.length ++ [.lst st]) =
      .nx [some (.ref ka), some (.ref kb), some (.ref (S.length + (A.length + 1))), some (.int ((i + di (kd (Gq A B) (qN A B) A.length B.length i j) : Nat) : Int)), some (.int ((j + dj (kd (Gq A B) (qN A B) A.length B.length i j) : Nat) : Int)), some (.ref (tabU S F A.length B.length).length), some (.int (t : Nat)), some (.int (Gq A B i j))]
        (tabU S F A.length B.length ++ [.lst (st ++ [.str (stepW (kd (Gq A B) (qN A B) A.length B.length i j))])]) := by
  have ga := fun l => tabU_old (F := F) (m := A.length) (n := B.length) l (List.getElem?_eq_some_iff.mp ha).1
  have gb := fun l => tabU_old (F := F) (m := A.length) (n := B.length) l (List.getElem?_eq_some_iff.mp hb).1
  rw [ha] at ga
  rw [hb] at gb
  have g0 := fun l => tabU_top (S := S) (F := F) (m := A.length) (n := B.length) l
  have g1 := fun l => tabU_row (S := S) (F := F) (n := B.length) l hi
  have r1 := refsU_at (s := S.length) hi
  have r2 := rowOf_at (f := F i) hj
  rw [hF i j hi hj] at r2
  have e1 : ((i : Nat) : Int) + 1 = ((i + 1 : Nat) : Int) := by omega
  have e2 : ((j : Nat) : Int) + 1 = ((j + 1 : Nat) : Int) := by omega
  have na : ∀ (v : List Nat), ¬ (((tabU S F A.length B.length).length < (cx N S).n0 ∧ (D.str v).pure = false) ∨ line ≤ st.length) := fun v h => by
    rcases h with ⟨_, h⟩ | h
    · cases h
    · have e : line = 16777216 := rfl
      omega
  by_cases h1 : i < A.length
  · have x1 : decide (((i : Nat) : Int) = ((A.length : Nat) : Int)) = false := decide_eq_false (by omega)
    have x2 : decide (((i : Nat) : Int) < ((A.length : Nat) : Int)) = true := decide_eq_true (by omega)
    have g3 := fun l => tabU_row (S := S) (F := F) (n := B.length) (t := i + 1) l h1
    have r3 := refsU_at (m := A.length) (s := S.length) (t := i + 1) h1
    have r4 := rowOf_at (f := F (i + 1)) hj
    rw [hF (i + 1) j h1 hj] at r4
    have t1 := nD_at (ks := A) h1
    by_cases h2 : j < B.length
    · have x3 : decide (((j : Nat) : Int) < ((B.length : Nat) : Int)) = true := decide_eq_true (by omega)
      have r5 := rowOf_at (f := F (i + 1)) (n := B.length) (u := j + 1) h2
      rw [hF (i + 1) (j + 1) h1 h2] at r5
      have t2 := nD_at (ks := B) h2
      by_cases h3 : A.getD i 0 = B.getD j 0
      · have x4 : decide (((A.getD i 0 : Nat) : Int) = ((B.getD j 0 : Nat) : Int)) = true := decide_eq_true (by omega)
        have x4' : qN A B i j = true := decide_eq_true h3
        by_cases h4 : Gq A B (i + 1) (j + 1) = Gq A B i j
        · have x5 : decide (Gq A B (i + 1) (j + 1) = Gq A B i j) = true := decide_eq_true h4
          have hk : kd (Gq A B) (qN A B) A.length B.length i j = 0 := by unfold kd; rw [if_pos ⟨h1, h2, x4', h4⟩]
          rw [hk]
          simp only [b0__law_first, l_var, l_var1, l_glo, l_glo1, l_cst, l_nil, l_cons, l_L1, l_L2, l_neg, l_neg1, l_not, l_not1, l_rev, l_rev1, l_lrg, l_lrg1, l_cdx, l_cdx1, l_isc, l_isc1, l_tdy, l_tdy1, l_bin, l_bin1, l_bin2, l_cmp, l_cmp1, l_cmp2, l_idx, l_idx1, l_idx2, l_chn, l_chn1, l_chn2, l_chn3, l_chn3f, l_chn4, l_ite, l_iteT, l_iteF, l_and, l_and1, l_and2, l_andG, l_andS, l_or, l_or1, l_or2, l_orG, l_orS, l_sli, l_sli1, l_sli2, l_sli3, l_tup, l_tup1, l_lst, l_lst1, l_call, l_call1, l_blt, l_blt1, l_mth, l_mth1, l_mth2, l_snil, l_scons, l_sqn, l_sqr, l_sqb, l_sqc, l_asg, l_asg1, l_asgs, l_asgs1, l_asgs2, l_asgs3, l_bT, l_b1, l_bn, l_bc, l_k0, l_k1, l_exp, l_exp1, l_ret, l_ret1, l_retN, l_brk, l_cnt, l_pss, l_if, l_ifT, l_ifF, l_sub, l_sub1, l_sub2, l_sub3, l_set, l_for, l_lc, l_seq, l_seqL, l_seqL1, l_seqT, l_seqS, l_fsh, l_rng1, l_rng11, l_enm, l_enmT, o_addI, o_subI, o_mulI, o_fdivI, o_modI, o_powI, o_addS, o_addT, o_addL, o_addL1, o_repL, o_repL1, o_repS, c_lt, c_le, c_gt, c_ge, c_eq, c_eq1, c_ne, c_ne1, c_in, c_nin, e_II, e_SS, d_II, d_SS, n_int, n_bl, x_tup, x_at, x_atS, x_str, x_lst, x_lst1, b_int, b_lenT, b_lenS, b_lenL, b_lenL1, b_tupT, b_tupL, b_tupL1, b_lstT, b_lstL, b_lstL1, b_min, b_max, b_isi, b_isi1, b_repr, m_app, m_app1, m_appOk, m_popOk, m_lstB, v_set, v_set1, t_op, t_lop, i_N, i_nN, i_T, i_nT, i_F, i_nF, List.getElem?_cons_succ, List.getElem?_cons_zero, List.set_cons_succ, List.set_cons_zero, st_get, st_get0, st_set, st_set0, if_true, tidy_app, tidy_same, trim_pure, trim_pure0, Nat.zero_le, Nat.zero_add, Nat.reduceAdd, Nat.reduceSub, List.replicate, List.map_cons, List.map_nil, List.cons_append, List.nil_append, g0, g1, ga, gb, nD_len, r1, r2, x1, x2, na, if_false, e1, e2, g3, r3, r4, r5, t1, t2, x3, x4, x5]
          rfl
        · have x5 : decide (Gq A B (i + 1) (j + 1) = Gq A B i j) = false := decide_eq_false h4
          by_cases h5 : Gq A B (i + 1) j + 1 = Gq A B i j
          · have x6 : decide (Gq A B (i + 1) j + 1 = Gq A B i j) = true := decide_eq_true h5
            have hk : kd (Gq A B) (qN A B) A.length B.length i j = 1 := by
              unfold kd
              rw [if_neg fun h => h4 h.2.2.2, if_pos ⟨h1, h5⟩]
            rw [hk]
            simp only [b0__law_first, l_var, l_var1, l_glo, l_glo1, l_cst, l_nil, l_cons, l_L1, l_L2, l_neg, l_neg1, l_not, l_not1, l_rev, l_rev1, l_lrg, l_lrg1, l_cdx, l_cdx1, l_isc, l_isc1, l_tdy, l_tdy1, l_bin, l_bin1, l_bin2, l_cmp, l_cmp1, l_cmp2, l_idx, l_idx1, l_idx2, l_chn, l_chn1, l_chn2, l_chn3, l_chn3f, l_chn4, l_ite, l_iteT, l_iteF, l_and, l_and1, l_and2, l_andG, l_andS, l_or, l_or1, l_or2, l_orG, l_orS, l_sli, l_sli1, l_sli2, l_sli3, l_tup, l_tup1, l_lst, l_lst1, l_call, l_call1, l_blt, l_blt1, l_mth, l_mth1, l_mth2, l_snil, l_scons, l_sqn, l_sqr, l_sqb, l_sqc, l_asg, l_asg1, l_asgs, l_asgs1, l_asgs2, l_asgs3, l_bT, l_b1, l_bn, l_bc, l_k0, l_k1, l_exp, l_exp1, l_ret, l_ret1, l_retN, l_brk, l_cnt, l_pss, l_if, l_ifT, l_ifF, l_sub, l_sub1, l_sub2, l_sub3, l_set, l_for, l_lc, l_seq, l_seqL, l_seqL1, l_seqT, l_seqS, l_fsh, l_rng1, l_rng11, l_enm, l_enmT, o_addI, o_subI, o_mulI, o_fdivI, o_modI, o_powI, o_addS, o_addT, o_addL, o_addL1, o_repL, o_repL1, o_repS, c_lt, c_le, c_gt, c_ge, c_eq, c_eq1, c_ne, c_ne1, c_in, c_nin, e_II, e_SS, d_II, d_SS, n_int, n_bl, x_tup, x_at, x_atS, x_str, x_lst, x_lst1, b_int, b_lenT, b_lenS, b_lenL, b_lenL1, b_tupT, b_tupL, b_tupL1, b_lstT, b_lstL, b_lstL1, b_min, b_max, b_isi, b_isi1, b_repr, m_app, m_app1, m_appOk, m_popOk, m_lstB, v_set, v_set1, t_op, t_lop, i_N, i_nN, i_T, i_nT, i_F, i_nF, List.getElem?_cons_succ, List.getElem?_cons_zero, List.set_cons_succ, List.set_cons_zero, st_get, st_get0, st_set, st_set0, if_true, tidy_app, tidy_same, trim_pure, trim_pure0, Nat.zero_le, Nat.zero_add, Nat.reduceAdd, Nat.reduceSub, List.replicate, List.map_cons, List.map_nil, List.cons_append, List.nil_append, g0, g1, ga, gb, nD_len, r1, r2, x1, x2, na, if_false, e1, e2, g3, r3, r4, r5, t1, t2, x3, x4, x5, x6]
            rfl
          · have x6 : decide (Gq A B (i + 1) j + 1 = Gq A B i j) = false := decide_eq_false h5
            have hk : kd (Gq A B) (qN A B) A.length B.length i j = 2 := by
              unfold kd
              rw [if_neg fun h => h4 h.2.2.2, if_neg fun h => h5 h.2]
            rw [hk]
            simp only [b0__law_first, l_var, l_var1, l_glo, l_glo1, l_cst, l_nil, l_cons, l_L1, l_L2, l_neg, l_neg1, l_not, l_not1, l_rev, l_rev1, l_lrg, l_lrg1, l_cdx, l_cdx1, l_isc, l_isc1, l_tdy, l_tdy1, l_bin, l_bin1, l_bin2, l_cmp, l_cmp1, l_cmp2, l_idx, l_idx1, l_idx2, l_chn, l_chn1, l_chn2, l_chn3, l_chn3f, l_chn4, l_ite, l_iteT, l_iteF, l_and, l_and1, l_and2, l_andG, l_andS, l_or, l_or1, l_or2, l_orG, l_orS, l_sli, l_sli1, l_sli2, l_sli3, l_tup, l_tup1, l_lst, l_lst1, l_call, l_call1, l_blt, l_blt1, l_mth, l_mth1, l_mth2, l_snil, l_scons, l_sqn, l_sqr, l_sqb, l_sqc, l_asg, l_asg1, l_asgs, l_asgs1, l_asgs2, l_asgs3, l_bT, l_b1, l_bn, l_bc, l_k0, l_k1, l_exp, l_exp1, l_ret, l_ret1, l_retN, l_brk, l_cnt, l_pss, l_if, l_ifT, l_ifF, l_sub, l_sub1, l_sub2, l_sub3, l_set, l_for, l_lc, l_seq, l_seqL, l_seqL1, l_seqT, l_seqS, l_fsh, l_rng1, l_rng11, l_enm, l_enmT, o_addI, o_subI, o_mulI, o_fdivI, o_modI, o_powI, o_addS, o_addT, o_addL, o_addL1, o_repL, o_repL1, o_repS, c_lt, c_le, c_gt, c_ge, c_eq, c_eq1, c_ne, c_ne1, c_in, c_nin, e_II, e_SS, d_II, d_SS, n_int, n_bl, x_tup, x_at, x_atS, x_str, x_lst, x_lst1, b_int, b_lenT, b_lenS, b_lenL, b_lenL1, b_tupT, b_tupL, b_tupL1, b_lstT, b_lstL, b_lstL1, b_min, b_max, b_isi, b_isi1, b_repr, m_app, m_app1, m_appOk, m_popOk, m_lstB, v_set, v_set1, t_op, t_lop, i_N, i_nN, i_T, i_nT, i_F, i_nF, List.getElem?_cons_succ, List.getElem?_cons_zero, List.set_cons_succ, List.set_cons_zero, st_get, st_get0, st_set, st_set0, if_true, tidy_app, tidy_same, trim_pure, trim_pure0, Nat.zero_le, Nat.zero_add, Nat.reduceAdd, Nat.reduceSub, List.replicate, List.map_cons, List.map_nil, List.cons_append, List.nil_append, g0, g1, ga, gb, nD_len, r1, r2, x1, x2, na, if_false, e1, e2, g3, r3, r4, r5, t1, t2, x3, x4, x5, x6]
            rfl
      · have x4 : decide (((A.getD i 0 : Nat) : Int) = ((B.getD j 0 : Nat) : Int)) = false := decide_eq_false (by omega)
        by_cases h5 : Gq A B (i + 1) j + 1 = Gq A B i j
        · have x6 : decide (Gq A B (i + 1) j + 1 = Gq A B i j) = true := decide_eq_true h5
          have hk : kd (Gq A B) (qN A B) A.length B.length i j = 1 := by
            unfold kd
            rw [if_neg fun h => h3 (of_decide_eq_true h.2.2.1), if_pos ⟨h1, h5⟩]
          rw [hk]
          simp only [b0__law_first, l_var, l_var1, l_glo, l_glo1, l_cst, l_nil, l_cons, l_L1, l_L2, l_neg, l_neg1, l_not, l_not1, l_rev, l_rev1, l_lrg, l_lrg1, l_cdx, l_cdx1, l_isc, l_isc1, l_tdy, l_tdy1, l_bin, l_bin1, l_bin2, l_cmp, l_cmp1, l_cmp2, l_idx, l_idx1, l_idx2, l_chn, l_chn1, l_chn2, l_chn3, l_chn3f, l_chn4, l_ite, l_iteT, l_iteF, l_and, l_and1, l_and2, l_andG, l_andS, l_or, l_or1, l_or2, l_orG, l_orS, l_sli, l_sli1, l_sli2, l_sli3, l_tup, l_tup1, l_lst, l_lst1, l_call, l_call1, l_blt, l_blt1, l_mth, l_mth1, l_mth2, l_snil, l_scons, l_sqn, l_sqr, l_sqb, l_sqc, l_asg, l_asg1, l_asgs, l_asgs1, l_asgs2, l_asgs3, l_bT, l_b1, l_bn, l_bc, l_k0, l_k1, l_exp, l_exp1, l_ret, l_ret1, l_retN, l_brk, l_cnt, l_pss, l_if, l_ifT, l_ifF, l_sub, l_sub1, l_sub2, l_sub3, l_set, l_for, l_lc, l_seq, l_seqL, l_seqL1, l_seqT, l_seqS, l_fsh, l_rng1, l_rng11, l_enm, l_enmT, o_addI, o_subI, o_mulI, o_fdivI, o_modI, o_powI, o_addS, o_addT, o_addL, o_addL1, o_repL, o_repL1, o_repS, c_lt, c_le, c_gt, c_ge, c_eq, c_eq1, c_ne, c_ne1, c_in, c_nin, e_II, e_SS, d_II, d_SS, n_int, n_bl, x_tup, x_at, x_atS, x_str, x_lst, x_lst1, b_int, b_lenT, b_lenS, b_lenL, b_lenL1, b_tupT, b_tupL, b_tupL1, b_lstT, b_lstL, b_lstL1, b_min, b_max, b_isi, b_isi1, b_repr, m_app, m_app1, m_appOk, m_popOk, m_lstB, v_set, v_set1, t_op, t_lop, i_N, i_nN, i_T, i_nT, i_F, i_nF, List.getElem?_cons_succ, List.getElem?_cons_zero, List.set_cons_succ, List.set_cons_zero, st_get, st_get0, st_set, st_set0, if_true, tidy_app, tidy_same, trim_pure, trim_pure0, Nat.zero_le, Nat.zero_add, Nat.reduceAdd, Nat.reduceSub, List.replicate, List.map_cons, List.map_nil, List.cons_append, List.nil_append, g0, g1, ga, gb, nD_len, r1, r2, x1, x2, na, if_false, e1, e2, g3, r3, r4, t1, t2, x3, x4, x6]
          rfl
        · have x6 : decide (Gq A B (i + 1) j + 1 = Gq A B i j) = false := decide_eq_false h5
          have hk : kd (Gq A B) (qN A B) A.length B.length i j = 2 := by
            unfold kd
            rw [if_neg fun h => h3 (of_decide_eq_true h.2.2.1), if_neg fun h => h5 h.2]
          rw [hk]
          simp only [b0__law_first, l_var, l_var1, l_glo, l_glo1, l_cst, l_nil, l_cons, l_L1, l_L2, l_neg, l_neg1, l_not, l_not1, l_rev, l_rev1, l_lrg, l_lrg1, l_cdx, l_cdx1, l_isc, l_isc1, l_tdy, l_tdy1, l_bin, l_bin1, l_bin2, l_cmp, l_cmp1, l_cmp2, l_idx, l_idx1, l_idx2, l_chn, l_chn1, l_chn2, l_chn3, l_chn3f, l_chn4, l_ite, l_iteT, l_iteF, l_and, l_and1, l_and2, l_andG, l_andS, l_or, l_or1, l_or2, l_orG, l_orS, l_sli, l_sli1, l_sli2, l_sli3, l_tup, l_tup1, l_lst, l_lst1, l_call, l_call1, l_blt, l_blt1, l_mth, l_mth1, l_mth2, l_snil, l_scons, l_sqn, l_sqr, l_sqb, l_sqc, l_asg, l_asg1, l_asgs, l_asgs1, l_asgs2, l_asgs3, l_bT, l_b1, l_bn, l_bc, l_k0, l_k1, l_exp, l_exp1, l_ret, l_ret1, l_retN, l_brk, l_cnt, l_pss, l_if, l_ifT, l_ifF, l_sub, l_sub1, l_sub2, l_sub3, l_set, l_for, l_lc, l_seq, l_seqL, l_seqL1, l_seqT, l_seqS, l_fsh, l_rng1, l_rng11, l_enm, l_enmT, o_addI, o_subI, o_mulI, o_fdivI, o_modI, o_powI, o_addS, o_addT, o_addL, o_addL1, o_repL, o_repL1, o_repS, c_lt, c_le, c_gt, c_ge, c_eq, c_eq1, c_ne, c_ne1, c_in, c_nin, e_II, e_SS, d_II, d_SS, n_int, n_bl, x_tup, x_at, x_atS, x_str, x_lst, x_lst1, b_int, b_lenT, b_lenS, b_lenL, b_lenL1, b_tupT, b_tupL, b_tupL1, b_lstT, b_lstL, b_lstL1, b_min, b_max, b_isi, b_isi1, b_repr, m_app, m_app1, m_appOk, m_popOk, m_lstB, v_set, v_set1, t_op, t_lop, i_N, i_nN, i_T, i_nT, i_F, i_nF, List.getElem?_cons_succ, List.getElem?_cons_zero, List.set_cons_succ, List.set_cons_zero, st_get, st_get0, st_set, st_set0, if_true, tidy_app, tidy_same, trim_pure, trim_pure0, Nat.zero_le, Nat.zero_add, Nat.reduceAdd, Nat.reduceSub, List.replicate, List.map_cons, List.map_nil, List.cons_append, List.nil_append, g0, g1, ga, gb, nD_len, r1, r2, x1, x2, na, if_false, e1, e2, g3, r3, r4, t1, t2, x3, x4, x6]
          rfl
    · have x3 : decide (((j : Nat) : Int) < ((B.length : Nat) : Int)) = false := decide_eq_false (by omega)
      by_cases h5 : Gq A B (i + 1) j + 1 = Gq A B i j
      · have x6 : decide (Gq A B (i + 1) j + 1 = Gq A B i j) = true := decide_eq_true h5
        have hk : kd (Gq A B) (qN A B) A.length B.length i j = 1 := by
          unfold kd
          rw [if_neg fun h => h2 h.2.1, if_pos ⟨h1, h5⟩]
        rw [hk]
        simp only [b0__law_first, l_var, l_var1, l_glo, l_glo1, l_cst, l_nil, l_cons, l_L1, l_L2, l_neg, l_neg1, l_not, l_not1, l_rev, l_rev1, l_lrg, l_lrg1, l_cdx, l_cdx1, l_isc, l_isc1, l_tdy, l_tdy1, l_bin, l_bin1, l_bin2, l_cmp, l_cmp1, l_cmp2, l_idx, l_idx1, l_idx2, l_chn, l_chn1, l_chn2, l_chn3, l_chn3f, l_chn4, l_ite, l_iteT, l_iteF, l_and, l_and1, l_and2, l_andG, l_andS, l_or, l_or1, l_or2, l_orG, l_orS, l_sli, l_sli1, l_sli2, l_sli3, l_tup, l_tup1, l_lst, l_lst1, l_call, l_call1, l_blt, l_blt1, l_mth, l_mth1, l_mth2, l_snil, l_scons, l_sqn, l_sqr, l_sqb, l_sqc, l_asg, l_asg1, l_asgs, l_asgs1, l_asgs2, l_asgs3, l_bT, l_b1, l_bn, l_bc, l_k0, l_k1, l_exp, l_exp1, l_ret, l_ret1, l_retN, l_brk, l_cnt, l_pss, l_if, l_ifT, l_ifF, l_sub, l_sub1, l_sub2, l_sub3, l_set, l_for, l_lc, l_seq, l_seqL, l_seqL1, l_seqT, l_seqS, l_fsh, l_rng1, l_rng11, l_enm, l_enmT, o_addI, o_subI, o_mulI, o_fdivI, o_modI, o_powI, o_addS, o_addT, o_addL, o_addL1, o_repL, o_repL1, o_repS, c_lt, c_le, c_gt, c_ge, c_eq, c_eq1, c_ne, c_ne1, c_in, c_nin, e_II, e_SS, d_II, d_SS, n_int, n_bl, x_tup, x_at, x_atS, x_str, x_lst, x_lst1, b_int, b_lenT, b_lenS, b_lenL, b_lenL1, b_tupT, b_tupL, b_tupL1, b_lstT, b_lstL, b_lstL1, b_min, b_max, b_isi, b_isi1, b_repr, m_app, m_app1, m_appOk, m_popOk, m_lstB, v_set, v_set1, t_op, t_lop, i_N, i_nN, i_T, i_nT, i_F, i_nF, List.getElem?_cons_succ, List.getElem?_cons_zero, List.set_cons_succ, List.set_cons_zero, st_get, st_get0, st_set, st_set0, if_true, tidy_app, tidy_same, trim_pure, trim_pure0, Nat.zero_le, Nat.zero_add, Nat.reduceAdd, Nat.reduceSub, List.replicate, List.map_cons, List.map_nil, List.cons_append, List.nil_append, g0, g1, ga, gb, nD_len, r1, r2, x1, x2, na, if_false, e1, e2, g3, r3, r4, x3, x6]
        rfl
      · have x6 : decide (Gq A B (i + 1) j + 1 = Gq A B i j) = false := decide_eq_false h5
        have hk : kd (Gq A B) (qN A B) A.length B.length i j = 2 := by
          unfold kd
          rw [if_neg fun h => h2 h.2.1, if_neg fun h => h5 h.2]
        rw [hk]
        simp only [b0__law_first, l_var, l_var1, l_glo, l_glo1, l_cst, l_nil, l_cons, l_L1, l_L2, l_neg, l_neg1, l_not, l_not1, l_rev, l_rev1, l_lrg, l_lrg1, l_cdx, l_cdx1, l_isc, l_isc1, l_tdy, l_tdy1, l_bin, l_bin1, l_bin2, l_cmp, l_cmp1, l_cmp2, l_idx, l_idx1, l_idx2, l_chn, l_chn1, l_chn2, l_chn3, l_chn3f, l_chn4, l_ite, l_iteT, l_iteF, l_and, l_and1, l_and2, l_andG, l_andS, l_or, l_or1, l_or2, l_orG, l_orS, l_sli, l_sli1, l_sli2, l_sli3, l_tup, l_tup1, l_lst, l_lst1, l_call, l_call1, l_blt, l_blt1, l_mth, l_mth1, l_mth2, l_snil, l_scons, l_sqn, l_sqr, l_sqb, l_sqc, l_asg, l_asg1, l_asgs, l_asgs1, l_asgs2, l_asgs3, l_bT, l_b1, l_bn, l_bc, l_k0, l_k1, l_exp, l_exp1, l_ret, l_ret1, l_retN, l_brk, l_cnt, l_pss, l_if, l_ifT, l_ifF, l_sub, l_sub1, l_sub2, l_sub3, l_set, l_for, l_lc, l_seq, l_seqL, l_seqL1, l_seqT, l_seqS, l_fsh, l_rng1, l_rng11, l_enm, l_enmT, o_addI, o_subI, o_mulI, o_fdivI, o_modI, o_powI, o_addS, o_addT, o_addL, o_addL1, o_repL, o_repL1, o_repS, c_lt, c_le, c_gt, c_ge, c_eq, c_eq1, c_ne, c_ne1, c_in, c_nin, e_II, e_SS, d_II, d_SS, n_int, n_bl, x_tup, x_at, x_atS, x_str, x_lst, x_lst1, b_int, b_lenT, b_lenS, b_lenL, b_lenL1, b_tupT, b_tupL, b_tupL1, b_lstT, b_lstL, b_lstL1, b_min, b_max, b_isi, b_isi1, b_repr, m_app, m_app1, m_appOk, m_popOk, m_lstB, v_set, v_set1, t_op, t_lop, i_N, i_nN, i_T, i_nT, i_F, i_nF, List.getElem?_cons_succ, List.getElem?_cons_zero, List.set_cons_succ, List.set_cons_zero, st_get, st_get0, st_set, st_set0, if_true, tidy_app, tidy_same, trim_pure, trim_pure0, Nat.zero_le, Nat.zero_add, Nat.reduceAdd, Nat.reduceSub, List.replicate, List.map_cons, List.map_nil, List.cons_append, List.nil_append, g0, g1, ga, gb, nD_len, r1, r2, x1, x2, na, if_false, e1, e2, g3, r3, r4, x3, x6]
        rfl
  · have x1 : decide (((i : Nat) : Int) = ((A.length : Nat) : Int)) = true := decide_eq_true (by omega)
    have x3 : decide (((j : Nat) : Int) = ((B.length : Nat) : Int)) = false := decide_eq_false (by omega)
    have x2 : decide (((i : Nat) : Int) < ((A.length : Nat) : Int)) = false := decide_eq_false (by omega)
    have hk : kd (Gq A B) (qN A B) A.length B.length i j = 2 := by
      unfold kd
      rw [if_neg fun h => h1 h.1, if_neg fun h => h1 h.1]
    rw [hk]
    simp only [b0__law_first, l_var, l_var1, l_glo, l_glo1, l_cst, l_nil, l_cons, l_L1, l_L2, l_neg, l_neg1, l_not, l_not1, l_rev, l_rev1, l_lrg, l_lrg1, l_cdx, l_cdx1, l_isc, l_isc1, l_tdy, l_tdy1, l_bin, l_bin1, l_bin2, l_cmp, l_cmp1, l_cmp2, l_idx, l_idx1, l_idx2, l_chn, l_chn1, l_chn2, l_chn3, l_chn3f, l_chn4, l_ite, l_iteT, l_iteF, l_and, l_and1, l_and2, l_andG, l_andS, l_or, l_or1, l_or2, l_orG, l_orS, l_sli, l_sli1, l_sli2, l_sli3, l_tup, l_tup1, l_lst, l_lst1, l_call, l_call1, l_blt, l_blt1, l_mth, l_mth1, l_mth2, l_snil, l_scons, l_sqn, l_sqr, l_sqb, l_sqc, l_asg, l_asg1, l_asgs, l_asgs1, l_asgs2, l_asgs3, l_bT, l_b1, l_bn, l_bc, l_k0, l_k1, l_exp, l_exp1, l_ret, l_ret1, l_retN, l_brk, l_cnt, l_pss, l_if, l_ifT, l_ifF, l_sub, l_sub1, l_sub2, l_sub3, l_set, l_for, l_lc, l_seq, l_seqL, l_seqL1, l_seqT, l_seqS, l_fsh, l_rng1, l_rng11, l_enm, l_enmT, o_addI, o_subI, o_mulI, o_fdivI, o_modI, o_powI, o_addS, o_addT, o_addL, o_addL1, o_repL, o_repL1, o_repS, c_lt, c_le, c_gt, c_ge, c_eq, c_eq1, c_ne, c_ne1, c_in, c_nin, e_II, e_SS, d_II, d_SS, n_int, n_bl, x_tup, x_at, x_atS, x_str, x_lst, x_lst1, b_int, b_lenT, b_lenS, b_lenL, b_lenL1, b_tupT, b_tupL, b_tupL1, b_lstT, b_lstL, b_lstL1, b_min, b_max, b_isi, b_isi1, b_repr, m_app, m_app1, m_appOk, m_popOk, m_lstB, v_set, v_set1, t_op, t_lop, i_N, i_nN, i_T, i_nT, i_F, i_nF, List.getElem?_cons_succ, List.getElem?_cons_zero, List.set_cons_succ, List.set_cons_zero, st_get, st_get0, st_set, st_set0, if_true, tidy_app, tidy_same, trim_pure, trim_pure0, Nat.zero_le, Nat.zero_add, Nat.reduceAdd, Nat.reduceSub, List.replicate, List.map_cons, List.map_nil, List.cons_append, List.nil_append, g0, g1, ga, gb, nD_len, r1, r2, x1, x2, na, if_false, e1, e2, x3]
    rfl
end
end Lw

set_option Elab.async false
set_option linter.all false
set_option autoImplicit false
set_option maxRecDepth 100000
set_option maxHeartbeats 4000000
/-! Km: the plain law k85: the law's first script, whole. -/
namespace Lw
open Ev
theorem Gq_n {A B : List Nat} {i : Nat} (h : i < A.length) : Gq A B (i + 1) B.length + 1 = Gq A B i B.length := Fq_n h
section
variable {N : Nat} {S : Sto} {A B : List Nat} {ka kb : Nat} {F : Nat → Nat → Int}
theorem first_loop (ha : S[ka]? = some (.lst (nD A))) (hb : S[kb]? = some (.lst (nD B))) (hF : ∀ t u, t ≤ A.length → u ≤ B.length → F t u = Gq A B t u) (hm : A.length ≤ 60) (hn : B.length ≤ 60) :
    ∃ x3 x4, forL [] (tgF true [6]) [6, 7] (bodyF (cx N S) b0__law_first) (rngL 0 (A.length + B.length)) [some (.ref ka), some (.ref kb), some (.ref (S.length + (A.length + 1))), some (.int 0), some (.int 0), some (.ref (tabU S F A.length B.length).length), none, none] (tabU S F A.length B.length ++ [.lst []]) =
      .nx [some (.ref ka), some (.ref kb), some (.ref (S.length + (A.length + 1))), x3, x4, some (.ref (tabU S F A.length B.length).length), none, none] (tabU S F A.length B.length ++ [.lst (stepsD (Gq A B) (qN A B) A.length B.length)]) := by
  refine forL_any (w := []) (P := fun t ρ U => ∃ i j pre o6 o7, i ≤ A.length ∧ j ≤ B.length ∧ pre.length = t ∧ t ≤ A.length + B.length ∧ go (Gq A B) (qN A B) A.length B.length (A.length + B.length) 0 0 = pre ++ go (Gq A B) (qN A B) A.length B.length (A.length + B.length - t) i j ∧
      ρ = [some (.ref ka), some (.ref kb), some (.ref (S.length + (A.length + 1))), some (.int (i : Nat)), some (.int (j : Nat)), some (.ref (tabU S F A.length B.length).length), o6, o7] ∧ U = tabU S F A.length B.length ++ [.lst (pre.map fun k => .str (stepW k))])
    (W := fun fl => ∃ x3 x4, fl = .nx [some (.ref ka), some (.ref kb), some (.ref (S.length + (A.length + 1))), x3, x4, some (.ref (tabU S F A.length B.length).length), none, none] (tabU S F A.length B.length ++ [.lst (stepsD (Gq A B) (qN A B) A.length B.length)]))
    ⟨0, 0, [], none, none, Nat.zero_le _, Nat.zero_le _, rfl, Nat.zero_le _, rfl, rfl, rfl⟩ (fun _ _ _ _ => rfl) (fun t x ρ U hx h => ?_) (fun ρ U h => ?_)
  · obtain ⟨i, j, pre, o6, o7, hi, hj, hl, ht, hg, rfl, rfl⟩ := h
    have ht2 : t < A.length + B.length := by
      have := (List.getElem?_eq_some_iff.mp hx).1
      rw [rngL_ints, List.length_map, List.length_range] at this
      exact this
    have hx' : x = .int (t : Nat) := by
      rw [rngL_ints, List.getElem?_map, List.getElem?_range ht2] at hx
      simp at hx
      exact hx.symm
    subst hx'
    obtain ⟨k, hk⟩ : ∃ k, A.length + B.length - t = k + 1 := ⟨A.length + B.length - t - 1, by omega⟩
    rw [hk, go_succ (k := k)] at hg
    refine ⟨_, rfl, ?_⟩
    by_cases hc : i = A.length ∧ j = B.length
    · obtain ⟨rfl, rfl⟩ := hc
      rw [if_pos ⟨rfl, rfl⟩, List.append_nil] at hg
      refine .inr (.inl ⟨_, _, fbody_end (st := []) ha hb, some (.int (A.length : Nat)), some (.int (B.length : Nat)), ?_⟩)
      unfold stepsD
      rw [hg]
      rfl
    · rw [if_neg hc] at hg
      obtain ⟨b1, b2⟩ := kd_bound (E := qN A B) (fun i h => Gq_n (A := A) (B := B) h) hi hj hc
      refine .inl ⟨_, _, .inl (fbody_step ha hb hF hi hj hc (by rw [List.length_map]; omega)), _, _, pre ++ [kd (Gq A B) (qN A B) A.length B.length i j], _, _, b1, b2, by simp [hl], ht2, ?_, rfl, ?_⟩
      · have e : A.length + B.length - (t + 1) = k := by omega
        rw [hg, e, List.append_assoc]
        rfl
      · rw [List.map_append]
        rfl
  · obtain ⟨i, j, pre, o6, o7, hi, hj, hl, ht, hg, rfl, rfl⟩ := h
    rw [rngL_ints, List.length_map, List.length_range, Nat.sub_self] at hg
    have hg2 : go (Gq A B) (qN A B) A.length B.length (A.length + B.length) 0 0 = pre := by
      rw [hg]
      exact List.append_nil _
    refine ⟨some (.int (i : Nat)), some (.int (j : Nat)), ?_⟩
    unfold stepsD
    rw [hg2]
    rfl
theorem first_m (ha : S[ka]? = some (.lst (nD A))) (hb : S[kb]? = some (.lst (nD B))) (hm : A.length ≤ 60) (hn : B.length ≤ 60) (hF : ∀ t u, t ≤ A.length → u ≤ B.length → F t u = Gq A B t u)
    (e1 : cl N 12 [.ref ka, .ref kb] S = .ok (.ref (S.length + (A.length + 1))) (tabU S F A.length B.length)) :
    cl (N + 1) 14 [.ref ka, .ref kb] S = .ok (leastD (Gq A B) (qN A B) A.length B.length) S := by
  have e0 : L.prog[14]? = some i__law_first := rfl
  obtain ⟨x3, x4, q1⟩ := first_loop (N := N) ha hb hF hm hn
  simp only [cl] at e1
  have l0 : (([] : List D).length ≤ line) = True := by simp
  have hr : (-4611686018427387904 ≤ ((A.length : Nat) : Int) + ((B.length : Nat) : Int) ∧ ((A.length : Nat) : Int) + ((B.length : Nat) : Int) < 4611686018427387904) = True := by
    simp
    omega
  have hr2 : (((A.length : Nat) : Int) + ((B.length : Nat) : Int)).toNat = A.length + B.length := by omega
  have ga := fun l => tabU_old (F := F) (m := A.length) (n := B.length) l (List.getElem?_eq_some_iff.mp ha).1
  have gb := fun l => tabU_old (F := F) (m := A.length) (n := B.length) l (List.getElem?_eq_some_iff.mp hb).1
  rw [ha] at ga
  rw [hb] at gb
  have g0 := fun l => tabU_top (S := S) (F := F) (m := A.length) (n := B.length) l
  have g1 : ∀ l, (tabU S F A.length B.length ++ l)[S.length]? = some (.lst (rowOf (F 0) B.length)) := fun l => tabU_row (S := S) (F := F) (m := A.length) (n := B.length) (t := 0) l (Nat.zero_le _)
  have r1 : pyAt (refsU S.length A.length) 0 = some (.ref S.length) := refsU_at (s := S.length) (m := A.length) (t := 0) (Nat.zero_le _)
  have r2 : pyAt (rowOf (F 0) B.length) 0 = some (.int (F 0 0)) := rowOf_at (f := F 0) (n := B.length) (u := 0) (Nat.zero_le _)
  rw [hF 0 0 (Nat.zero_le _) (Nat.zero_le _)] at r2
  have l2 : ∀ x y : D, ([x, y].length ≤ line) = True := fun x y => by simp [line]
  refine call_rt (d := leastD (Gq A B) (qN A B) A.length B.length) (S1 := tabU S F A.length B.length ++ [.lst (stepsD (Gq A B) (qN A B) A.length B.length)]) e0 rfl ?_ (tabU_trim1 leastD_und)
  show evSs (cx N S) i__law_first.body [some (.ref ka), some (.ref kb), none, none, none, none, none, none] S = _
  simp only [i__law_first, l_var, l_var1, l_glo, l_glo1, l_cst, l_nil, l_cons, l_L1, l_L2, l_neg, l_neg1, l_not, l_not1, l_rev, l_rev1, l_lrg, l_lrg1, l_cdx, l_cdx1, l_isc, l_isc1, l_tdy, l_tdy1, l_bin, l_bin1, l_bin2, l_cmp, l_cmp1, l_cmp2, l_idx, l_idx1, l_idx2, l_chn, l_chn1, l_chn2, l_chn3, l_chn3f, l_chn4, l_ite, l_iteT, l_iteF, l_and, l_and1, l_and2, l_andG, l_andS, l_or, l_or1, l_or2, l_orG, l_orS, l_sli, l_sli1, l_sli2, l_sli3, l_tup, l_tup1, l_lst, l_lst1, l_call, l_call1, l_blt, l_blt1, l_mth, l_mth1, l_mth2, l_snil, l_scons, l_sqn, l_sqr, l_sqb, l_sqc, l_asg, l_asg1, l_asgs, l_asgs1, l_asgs2, l_asgs3, l_bT, l_b1, l_bn, l_bc, l_k0, l_k1, l_exp, l_exp1, l_ret, l_ret1, l_retN, l_brk, l_cnt, l_pss, l_if, l_ifT, l_ifF, l_sub, l_sub1, l_sub2, l_sub3, l_set, l_for, l_lc, l_seq, l_seqL, l_seqL1, l_seqT, l_seqS, l_fsh, l_rng1, l_rng11, l_enm, l_enmT, o_addI, o_subI, o_mulI, o_fdivI, o_modI, o_powI, o_addS, o_addT, o_addL, o_addL1, o_repL, o_repL1, o_repS, c_lt, c_le, c_gt, c_ge, c_eq, c_eq1, c_ne, c_ne1, c_in, c_nin, e_II, e_SS, d_II, d_SS, n_int, n_bl, x_tup, x_at, x_atS, x_str, x_lst, x_lst1, b_int, b_lenT, b_lenS, b_lenL, b_lenL1, b_tupT, b_tupL, b_tupL1, b_lstT, b_lstL, b_lstL1, b_min, b_max, b_isi, b_isi1, b_repr, m_app, m_app1, m_appOk, m_popOk, m_lstB, v_set, v_set1, t_op, t_lop, i_N, i_nN, i_T, i_nT, i_F, i_nF, List.getElem?_cons_succ, List.getElem?_cons_zero, List.set_cons_succ, List.set_cons_zero, st_get, st_get0, st_set, st_set0, if_true, tidy_app, tidy_same, trim_pure, trim_pure0, Nat.zero_le, Nat.zero_add, Nat.reduceAdd, Nat.reduceSub, List.replicate, List.map_cons, List.map_nil, List.cons_append, List.nil_append, cx_cl, e1, ga, gb, nD_len, l0, st_alloc0, hr, hr2, l_for1, q1, g0, g1, r1, r2, l2]
  rfl
end
end Lw

set_option Elab.async false
set_option linter.all false
set_option autoImplicit false
set_option maxRecDepth 100000
set_option maxHeartbeats 4000000
/-! Kn: the plain law k85: the law's drawn script. -/
namespace Lw
open Ev
theorem walk_app {E : Nat → Nat → Bool} {m n : Nat} {s : D} : ∀ (ss : List D) (i j : Nat) (c : Int), walk E m n (ss ++ [s]) i j c = match walk E m n ss i j c with
    | none => none
    | some (i', j', c') => (match stp E m n s i' j' with
      | none => none
      | some k => some (i' + di k, j' + dj k, c' + ck k))
  | [], i, j, c => by
    show (match stp E m n s i j with
      | none => none
      | some k => walk E m n [] (i + di k) (j + dj k) (c + ck k)) = (match stp E m n s i j with
      | none => none
      | some k => some (i + di k, j + dj k, c + ck k))
    cases stp E m n s i j <;> rfl
  | x :: ss, i, j, c => by
    show (match stp E m n x i j with
      | none => none
      | some k => walk E m n (ss ++ [s]) (i + di k) (j + dj k) (c + ck k)) = (match (match stp E m n x i j with
      | none => none
      | some k => walk E m n ss (i + di k) (j + dj k) (c + ck k)) with
      | none => none
      | some (i', j', c') => (match stp E m n s i' j' with
        | none => none
        | some k => some (i' + di k, j' + dj k, c' + ck k)))
    cases stp E m n x i j with
    | none => rfl
    | some k => exact walk_app ss _ _ _
theorem stp0 {E : Nat → Nat → Bool} {m n i j : Nat} (h1 : i < m) (h2 : j < n) (h3 : E i j = true) : stp E m n (.str (stepW 0)) i j = some 0 := by
  unfold stp
  rw [if_pos ⟨by simp [isW], h1, h2, h3⟩]
theorem stp1 {E : Nat → Nat → Bool} {m n i j : Nat} (h1 : i < m) : stp E m n (.str (stepW 1)) i j = some 1 := by
  unfold stp
  rw [if_neg (fun h => absurd h.1 (by simp [isW, stepW])), if_pos ⟨by simp [isW], h1⟩]
theorem stp2 {E : Nat → Nat → Bool} {m n i j : Nat} (h2 : j < n) : stp E m n (.str (stepW 2)) i j = some 2 := by
  unfold stp
  rw [if_neg (fun h => absurd h.1 (by simp [isW, stepW])), if_neg (fun h => absurd h.1 (by simp [isW, stepW])), if_pos ⟨by simp [isW], h2⟩]
section
variable {N : Nat} {S : Sto} {A B ks : List Nat} {ka kb dr : Nat}
theorem wbody {i j t : Nat} {c : Int} {st : List D} (ha : S[ka]? = some (.lst (nD A))) (hb : S[kb]? = some (.lst (nD B))) (hd : S[dr]? = some (.lst (nD ks))) (ht : 140 + t < ks.length) (hi : i ≤ A.length) (hj : j ≤ B.length) (hst : st.length < 1000) :
    ∃ pk : D, (∃ k : Nat, stp (qN A B) A.length B.length (.str (stepW k)) i j = some k ∧
      evSs (cx N S) b0__law_walk [some (.ref ka), some (.ref kb), some (.ref dr), some (.int (i : Nat)), some (.int (j : Nat)), some (.int c), some (.ref S.length), some (.int (t : Nat)), none] (S ++ [.lst st]) =
        .nx [some (.ref ka), some (.ref kb), some (.ref dr), some (.int ((i + di k : Nat) : Int)), some (.int ((j + dj k : Nat) : Int)), some (.int (c + ck k)), some (.ref S.length), some (.int (t : Nat)), some pk] (S ++ [.lst (st ++ [.str (stepW k)])])) ∨
      (i = A.length ∧ j = B.length ∧ evSs (cx N S) b0__law_walk [some (.ref ka), some (.ref kb), some (.ref dr), some (.int (i : Nat)), some (.int (j : Nat)), some (.int c), some (.ref S.length), some (.int (t : Nat)), none] (S ++ [.lst st]) =
        .nx [some (.ref ka), some (.ref kb), some (.ref dr), some (.int (i : Nat)), some (.int (j : Nat)), some (.int c), some (.ref S.length), some (.int (t : Nat)), some pk] (S ++ [.lst st])) := by
  have ga : ∀ l, (S ++ l)[ka]? = some (.lst (nD A)) := fun l => by rw [List.getElem?_append_left (List.getElem?_eq_some_iff.mp ha).1]; exact ha
  have gb : ∀ l, (S ++ l)[kb]? = some (.lst (nD B)) := fun l => by rw [List.getElem?_append_left (List.getElem?_eq_some_iff.mp hb).1]; exact hb
  have gd : ∀ l, (S ++ l)[dr]? = some (.lst (nD ks)) := fun l => by rw [List.getElem?_append_left (List.getElem?_eq_some_iff.mp hd).1]; exact hd
  have e1 : (140 : Int) + ((t : Nat) : Int) = ((140 + t : Nat) : Int) := by omega
  have p1 := nD_at (ks := ks) ht
  have f4 : (((ks.getD (140 + t) 0 : Nat) : Int)).fmod 4 = ((ks.getD (140 + t) 0 % 4 : Nat) : Int) := by rw [Int.fmod_eq_emod_of_nonneg _ (by decide)]; omega
  have f2 : ((((ks.getD (140 + t) 0 : Nat) : Int)).fdiv 4).fmod 2 = ((ks.getD (140 + t) 0 / 4 % 2 : Nat) : Int) := by rw [Int.fdiv_eq_ediv_of_nonneg _ (by decide), Int.fmod_eq_emod_of_nonneg _ (by decide)]; omega
  have h4 : ((4 : Int) ≠ 0) = True := by simp
  have h2' : ((2 : Int) ≠ 0) = True := by simp
  have d4 : divOk 4 = true := by decide
  have na : ∀ (v : List Nat), ¬ ((S.length < (cx N S).n0 ∧ (D.str v).pure = false) ∨ line ≤ st.length) := fun v h => by
    rcases h with ⟨_, h⟩ | h
    · cases h
    · have e : line = 16777216 := rfl
      omega
  have z0 : c + ck 0 = c := Int.add_zero c
  have z1 : c + ck 1 = c + 1 := rfl
  have z2 : c + ck 2 = c + 1 := rfl
  refine ⟨.int ((ks.getD (140 + t) 0 : Nat) : Int), ?_⟩
  by_cases h1 : i < A.length
  · have x1 : decide (((i : Nat) : Int) < ((A.length : Nat) : Int)) = true := decide_eq_true (by omega)
    have t1 := nD_at (ks := A) h1
    by_cases h2 : j < B.length
    · have x2 : decide (((j : Nat) : Int) < ((B.length : Nat) : Int)) = true := decide_eq_true (by omega)
      have x3 : decide (((j : Nat) : Int) = ((B.length : Nat) : Int)) = false := decide_eq_false (by omega)
      have t2 := nD_at (ks := B) h2
      by_cases h3 : A.getD i 0 = B.getD j 0 ∧ 0 < ks.getD (140 + t) 0 % 4
      · have x4 : decide (((A.getD i 0 : Nat) : Int) = ((B.getD j 0 : Nat) : Int)) = true := decide_eq_true (by omega)
        have x5 : decide ((0 : Int) < ((ks.getD (140 + t) 0 % 4 : Nat) : Int)) = true := decide_eq_true (by omega)
        refine .inl ⟨0, stp0 h1 h2 (decide_eq_true h3.1), ?_⟩
        rw [z0]
        simp only [b0__law_walk, l_var, l_var1, l_glo, l_glo1, l_cst, l_nil, l_cons, l_L1, l_L2, l_neg, l_neg1, l_not, l_not1, l_rev, l_rev1, l_lrg, l_lrg1, l_cdx, l_cdx1, l_isc, l_isc1, l_tdy, l_tdy1, l_bin, l_bin1, l_bin2, l_cmp, l_cmp1, l_cmp2, l_idx, l_idx1, l_idx2, l_chn, l_chn1, l_chn2, l_chn3, l_chn3f, l_chn4, l_ite, l_iteT, l_iteF, l_and, l_and1, l_and2, l_andG, l_andS, l_or, l_or1, l_or2, l_orG, l_orS, l_sli, l_sli1, l_sli2, l_sli3, l_tup, l_tup1, l_lst, l_lst1, l_call, l_call1, l_blt, l_blt1, l_mth, l_mth1, l_mth2, l_snil, l_scons, l_sqn, l_sqr, l_sqb, l_sqc, l_asg, l_asg1, l_asgs, l_asgs1, l_asgs2, l_asgs3, l_bT, l_b1, l_bn, l_bc, l_k0, l_k1, l_exp, l_exp1, l_ret, l_ret1, l_retN, l_brk, l_cnt, l_pss, l_if, l_ifT, l_ifF, l_sub, l_sub1, l_sub2, l_sub3, l_set, l_for, l_lc, l_seq, l_seqL, l_seqL1, l_seqT, l_seqS, l_fsh, l_rng1, l_rng11, l_enm, l_enmT, o_addI, o_subI, o_mulI, o_fdivI, o_modI, o_powI, o_addS, o_addT, o_addL, o_addL1, o_repL, o_repL1, o_repS, c_lt, c_le, c_gt, c_ge, c_eq, c_eq1, c_ne, c_ne1, c_in, c_nin, e_II, e_SS, d_II, d_SS, n_int, n_bl, x_tup, x_at, x_atS, x_str, x_lst, x_lst1, b_int, b_lenT, b_lenS, b_lenL, b_lenL1, b_tupT, b_tupL, b_tupL1, b_lstT, b_lstL, b_lstL1, b_min, b_max, b_isi, b_isi1, b_repr, m_app, m_app1, m_appOk, m_popOk, m_lstB, v_set, v_set1, t_op, t_lop, i_N, i_nN, i_T, i_nT, i_F, i_nF, List.getElem?_cons_succ, List.getElem?_cons_zero, List.set_cons_succ, List.set_cons_zero, st_get, st_get0, st_set, st_set0, if_true, tidy_app, tidy_same, trim_pure, trim_pure0, Nat.zero_le, Nat.zero_add, Nat.reduceAdd, Nat.reduceSub, List.replicate, List.map_cons, List.map_nil, List.cons_append, List.nil_append, ga, gb, gd, nD_len, e1, p1, f4, f2, h4, h2', d4, x1, x2, x3, x4, x5, t1, t2, na, if_false]
        rfl
      · by_cases h5 : A.getD i 0 = B.getD j 0
        · have x4 : decide (((A.getD i 0 : Nat) : Int) = ((B.getD j 0 : Nat) : Int)) = true := decide_eq_true (by omega)
          have x5 : decide ((0 : Int) < ((ks.getD (140 + t) 0 % 4 : Nat) : Int)) = false := decide_eq_false (by omega)
          by_cases h6 : ks.getD (140 + t) 0 / 4 % 2 = 0
          · have x6 : decide (((ks.getD (140 + t) 0 / 4 % 2 : Nat) : Int) = 0) = true := decide_eq_true (by omega)
            refine .inl ⟨1, stp1 h1, ?_⟩
            rw [z1]
            simp only [b0__law_walk, l_var, l_var1, l_glo, l_glo1, l_cst, l_nil, l_cons, l_L1, l_L2, l_neg, l_neg1, l_not, l_not1, l_rev, l_rev1, l_lrg, l_lrg1, l_cdx, l_cdx1, l_isc, l_isc1, l_tdy, l_tdy1, l_bin, l_bin1, l_bin2, l_cmp, l_cmp1, l_cmp2, l_idx, l_idx1, l_idx2, l_chn, l_chn1, l_chn2, l_chn3, l_chn3f, l_chn4, l_ite, l_iteT, l_iteF, l_and, l_and1, l_and2, l_andG, l_andS, l_or, l_or1, l_or2, l_orG, l_orS, l_sli, l_sli1, l_sli2, l_sli3, l_tup, l_tup1, l_lst, l_lst1, l_call, l_call1, l_blt, l_blt1, l_mth, l_mth1, l_mth2, l_snil, l_scons, l_sqn, l_sqr, l_sqb, l_sqc, l_asg, l_asg1, l_asgs, l_asgs1, l_asgs2, l_asgs3, l_bT, l_b1, l_bn, l_bc, l_k0, l_k1, l_exp, l_exp1, l_ret, l_ret1, l_retN, l_brk, l_cnt, l_pss, l_if, l_ifT, l_ifF, l_sub, l_sub1, l_sub2, l_sub3, l_set, l_for, l_lc, l_seq, l_seqL, l_seqL1, l_seqT, l_seqS, l_fsh, l_rng1, l_rng11, l_enm, l_enmT, o_addI, o_subI, o_mulI, o_fdivI, o_modI, o_powI, o_addS, o_addT, o_addL, o_addL1, o_repL, o_repL1, o_repS, c_lt, c_le, c_gt, c_ge, c_eq, c_eq1, c_ne, c_ne1, c_in, c_nin, e_II, e_SS, d_II, d_SS, n_int, n_bl, x_tup, x_at, x_atS, x_str, x_lst, x_lst1, b_int, b_lenT, b_lenS, b_lenL, b_lenL1, b_tupT, b_tupL, b_tupL1, b_lstT, b_lstL, b_lstL1, b_min, b_max, b_isi, b_isi1, b_repr, m_app, m_app1, m_appOk, m_popOk, m_lstB, v_set, v_set1, t_op, t_lop, i_N, i_nN, i_T, i_nT, i_F, i_nF, List.getElem?_cons_succ, List.getElem?_cons_zero, List.set_cons_succ, List.set_cons_zero, st_get, st_get0, st_set, st_set0, if_true, tidy_app, tidy_same, trim_pure, trim_pure0, Nat.zero_le, Nat.zero_add, Nat.reduceAdd, Nat.reduceSub, List.replicate, List.map_cons, List.map_nil, List.cons_append, List.nil_append, ga, gb, gd, nD_len, e1, p1, f4, f2, h4, h2', d4, na, if_false, x1, x2, x3, x4, x5, t1, t2, x6]
            rfl
          · have x6 : decide (((ks.getD (140 + t) 0 / 4 % 2 : Nat) : Int) = 0) = false := decide_eq_false (by omega)
            refine .inl ⟨2, stp2 h2, ?_⟩
            rw [z2]
            simp only [b0__law_walk, l_var, l_var1, l_glo, l_glo1, l_cst, l_nil, l_cons, l_L1, l_L2, l_neg, l_neg1, l_not, l_not1, l_rev, l_rev1, l_lrg, l_lrg1, l_cdx, l_cdx1, l_isc, l_isc1, l_tdy, l_tdy1, l_bin, l_bin1, l_bin2, l_cmp, l_cmp1, l_cmp2, l_idx, l_idx1, l_idx2, l_chn, l_chn1, l_chn2, l_chn3, l_chn3f, l_chn4, l_ite, l_iteT, l_iteF, l_and, l_and1, l_and2, l_andG, l_andS, l_or, l_or1, l_or2, l_orG, l_orS, l_sli, l_sli1, l_sli2, l_sli3, l_tup, l_tup1, l_lst, l_lst1, l_call, l_call1, l_blt, l_blt1, l_mth, l_mth1, l_mth2, l_snil, l_scons, l_sqn, l_sqr, l_sqb, l_sqc, l_asg, l_asg1, l_asgs, l_asgs1, l_asgs2, l_asgs3, l_bT, l_b1, l_bn, l_bc, l_k0, l_k1, l_exp, l_exp1, l_ret, l_ret1, l_retN, l_brk, l_cnt, l_pss, l_if, l_ifT, l_ifF, l_sub, l_sub1, l_sub2, l_sub3, l_set, l_for, l_lc, l_seq, l_seqL, l_seqL1, l_seqT, l_seqS, l_fsh, l_rng1, l_rng11, l_enm, l_enmT, o_addI, o_subI, o_mulI, o_fdivI, o_modI, o_powI, o_addS, o_addT, o_addL, o_addL1, o_repL, o_repL1, o_repS, c_lt, c_le, c_gt, c_ge, c_eq, c_eq1, c_ne, c_ne1, c_in, c_nin, e_II, e_SS, d_II, d_SS, n_int, n_bl, x_tup, x_at, x_atS, x_str, x_lst, x_lst1, b_int, b_lenT, b_lenS, b_lenL, b_lenL1, b_tupT, b_tupL, b_tupL1, b_lstT, b_lstL, b_lstL1, b_min, b_max, b_isi, b_isi1, b_repr, m_app, m_app1, m_appOk, m_popOk, m_lstB, v_set, v_set1, t_op, t_lop, i_N, i_nN, i_T, i_nT, i_F, i_nF, List.getElem?_cons_succ, List.getElem?_cons_zero, List.set_cons_succ, List.set_cons_zero, st_get, st_get0, st_set, st_set0, if_true, tidy_app, tidy_same, trim_pure, trim_pure0, Nat.zero_le, Nat.zero_add, Nat.reduceAdd, Nat.reduceSub, List.replicate, List.map_cons, List.map_nil, List.cons_append, List.nil_append, ga, gb, gd, nD_len, e1, p1, f4, f2, h4, h2', d4, na, if_false, x1, x2, x3, x4, x5, t1, t2, x6]
            rfl
        · have x4 : decide (((A.getD i 0 : Nat) : Int) = ((B.getD j 0 : Nat) : Int)) = false := decide_eq_false (by omega)
          by_cases h6 : ks.getD (140 + t) 0 / 4 % 2 = 0
          · have x6 : decide (((ks.getD (140 + t) 0 / 4 % 2 : Nat) : Int) = 0) = true := decide_eq_true (by omega)
            refine .inl ⟨1, stp1 h1, ?_⟩
            rw [z1]
            simp only [b0__law_walk, l_var, l_var1, l_glo, l_glo1, l_cst, l_nil, l_cons, l_L1, l_L2, l_neg, l_neg1, l_not, l_not1, l_rev, l_rev1, l_lrg, l_lrg1, l_cdx, l_cdx1, l_isc, l_isc1, l_tdy, l_tdy1, l_bin, l_bin1, l_bin2, l_cmp, l_cmp1, l_cmp2, l_idx, l_idx1, l_idx2, l_chn, l_chn1, l_chn2, l_chn3, l_chn3f, l_chn4, l_ite, l_iteT, l_iteF, l_and, l_and1, l_and2, l_andG, l_andS, l_or, l_or1, l_or2, l_orG, l_orS, l_sli, l_sli1, l_sli2, l_sli3, l_tup, l_tup1, l_lst, l_lst1, l_call, l_call1, l_blt, l_blt1, l_mth, l_mth1, l_mth2, l_snil, l_scons, l_sqn, l_sqr, l_sqb, l_sqc, l_asg, l_asg1, l_asgs, l_asgs1, l_asgs2, l_asgs3, l_bT, l_b1, l_bn, l_bc, l_k0, l_k1, l_exp, l_exp1, l_ret, l_ret1, l_retN, l_brk, l_cnt, l_pss, l_if, l_ifT, l_ifF, l_sub, l_sub1, l_sub2, l_sub3, l_set, l_for, l_lc, l_seq, l_seqL, l_seqL1, l_seqT, l_seqS, l_fsh, l_rng1, l_rng11, l_enm, l_enmT, o_addI, o_subI, o_mulI, o_fdivI, o_modI, o_powI, o_addS, o_addT, o_addL, o_addL1, o_repL, o_repL1, o_repS, c_lt, c_le, c_gt, c_ge, c_eq, c_eq1, c_ne, c_ne1, c_in, c_nin, e_II, e_SS, d_II, d_SS, n_int, n_bl, x_tup, x_at, x_atS, x_str, x_lst, x_lst1, b_int, b_lenT, b_lenS, b_lenL, b_lenL1, b_tupT, b_tupL, b_tupL1, b_lstT, b_lstL, b_lstL1, b_min, b_max, b_isi, b_isi1, b_repr, m_app, m_app1, m_appOk, m_popOk, m_lstB, v_set, v_set1, t_op, t_lop, i_N, i_nN, i_T, i_nT, i_F, i_nF, List.getElem?_cons_succ, List.getElem?_cons_zero, List.set_cons_succ, List.set_cons_zero, st_get, st_get0, st_set, st_set0, if_true, tidy_app, tidy_same, trim_pure, trim_pure0, Nat.zero_le, Nat.zero_add, Nat.reduceAdd, Nat.reduceSub, List.replicate, List.map_cons, List.map_nil, List.cons_append, List.nil_append, ga, gb, gd, nD_len, e1, p1, f4, f2, h4, h2', d4, na, if_false, x1, x2, x3, x4, t1, t2, x6]
            rfl
          · have x6 : decide (((ks.getD (140 + t) 0 / 4 % 2 : Nat) : Int) = 0) = false := decide_eq_false (by omega)
            refine .inl ⟨2, stp2 h2, ?_⟩
            rw [z2]
            simp only [b0__law_walk, l_var, l_var1, l_glo, l_glo1, l_cst, l_nil, l_cons, l_L1, l_L2, l_neg, l_neg1, l_not, l_not1, l_rev, l_rev1, l_lrg, l_lrg1, l_cdx, l_cdx1, l_isc, l_isc1, l_tdy, l_tdy1, l_bin, l_bin1, l_bin2, l_cmp, l_cmp1, l_cmp2, l_idx, l_idx1, l_idx2, l_chn, l_chn1, l_chn2, l_chn3, l_chn3f, l_chn4, l_ite, l_iteT, l_iteF, l_and, l_and1, l_and2, l_andG, l_andS, l_or, l_or1, l_or2, l_orG, l_orS, l_sli, l_sli1, l_sli2, l_sli3, l_tup, l_tup1, l_lst, l_lst1, l_call, l_call1, l_blt, l_blt1, l_mth, l_mth1, l_mth2, l_snil, l_scons, l_sqn, l_sqr, l_sqb, l_sqc, l_asg, l_asg1, l_asgs, l_asgs1, l_asgs2, l_asgs3, l_bT, l_b1, l_bn, l_bc, l_k0, l_k1, l_exp, l_exp1, l_ret, l_ret1, l_retN, l_brk, l_cnt, l_pss, l_if, l_ifT, l_ifF, l_sub, l_sub1, l_sub2, l_sub3, l_set, l_for, l_lc, l_seq, l_seqL, l_seqL1, l_seqT, l_seqS, l_fsh, l_rng1, l_rng11, l_enm, l_enmT, o_addI, o_subI, o_mulI, o_fdivI, o_modI, o_powI, o_addS, o_addT, o_addL, o_addL1, o_repL, o_repL1, o_repS, c_lt, c_le, c_gt, c_ge, c_eq, c_eq1, c_ne, c_ne1, c_in, c_nin, e_II, e_SS, d_II, d_SS, n_int, n_bl, x_tup, x_at, x_atS, x_str, x_lst, x_lst1, b_int, b_lenT, b_lenS, b_lenL, b_lenL1, b_tupT, b_tupL, b_tupL1, b_lstT, b_lstL, b_lstL1, b_min, b_max, b_isi, b_isi1, b_repr, m_app, m_app1, m_appOk, m_popOk, m_lstB, v_set, v_set1, t_op, t_lop, i_N, i_nN, i_T, i_nT, i_F, i_nF, List.getElem?_cons_succ, List.getElem?_cons_zero, List.set_cons_succ, List.set_cons_zero, st_get, st_get0, st_set, st_set0, if_true, tidy_app, tidy_same, trim_pure, trim_pure0, Nat.zero_le, Nat.zero_add, Nat.reduceAdd, Nat.reduceSub, List.replicate, List.map_cons, List.map_nil, List.cons_append, List.nil_append, ga, gb, gd, nD_len, e1, p1, f4, f2, h4, h2', d4, na, if_false, x1, x2, x3, x4, t1, t2, x6]
            rfl
    · have x2 : decide (((j : Nat) : Int) < ((B.length : Nat) : Int)) = false := decide_eq_false (by omega)
      have x3 : decide (((j : Nat) : Int) = ((B.length : Nat) : Int)) = true := decide_eq_true (by omega)
      refine .inl ⟨1, stp1 h1, ?_⟩
      rw [z1]
      simp only [b0__law_walk, l_var, l_var1, l_glo, l_glo1, l_cst, l_nil, l_cons, l_L1, l_L2, l_neg, l_neg1, l_not, l_not1, l_rev, l_rev1, l_lrg, l_lrg1, l_cdx, l_cdx1, l_isc, l_isc1, l_tdy, l_tdy1, l_bin, l_bin1, l_bin2, l_cmp, l_cmp1, l_cmp2, l_idx, l_idx1, l_idx2, l_chn, l_chn1, l_chn2, l_chn3, l_chn3f, l_chn4, l_ite, l_iteT, l_iteF, l_and, l_and1, l_and2, l_andG, l_andS, l_or, l_or1, l_or2, l_orG, l_orS, l_sli, l_sli1, l_sli2, l_sli3, l_tup, l_tup1, l_lst, l_lst1, l_call, l_call1, l_blt, l_blt1, l_mth, l_mth1, l_mth2, l_snil, l_scons, l_sqn, l_sqr, l_sqb, l_sqc, l_asg, l_asg1, l_asgs, l_asgs1, l_asgs2, l_asgs3, l_bT, l_b1, l_bn, l_bc, l_k0, l_k1, l_exp, l_exp1, l_ret, l_ret1, l_retN, l_brk, l_cnt, l_pss, l_if, l_ifT, l_ifF, l_sub, l_sub1, l_sub2, l_sub3, l_set, l_for, l_lc, l_seq, l_seqL, l_seqL1, l_seqT, l_seqS, l_fsh, l_rng1, l_rng11, l_enm, l_enmT, o_addI, o_subI, o_mulI, o_fdivI, o_modI, o_powI, o_addS, o_addT, o_addL, o_addL1, o_repL, o_repL1, o_repS, c_lt, c_le, c_gt, c_ge, c_eq, c_eq1, c_ne, c_ne1, c_in, c_nin, e_II, e_SS, d_II, d_SS, n_int, n_bl, x_tup, x_at, x_atS, x_str, x_lst, x_lst1, b_int, b_lenT, b_lenS, b_lenL, b_lenL1, b_tupT, b_tupL, b_tupL1, b_lstT, b_lstL, b_lstL1, b_min, b_max, b_isi, b_isi1, b_repr, m_app, m_app1, m_appOk, m_popOk, m_lstB, v_set, v_set1, t_op, t_lop, i_N, i_nN, i_T, i_nT, i_F, i_nF, List.getElem?_cons_succ, List.getElem?_cons_zero, List.set_cons_succ, List.set_cons_zero, st_get, st_get0, st_set, st_set0, if_true, tidy_app, tidy_same, trim_pure, trim_pure0, Nat.zero_le, Nat.zero_add, Nat.reduceAdd, Nat.reduceSub, List.replicate, List.map_cons, List.map_nil, List.cons_append, List.nil_append, ga, gb, gd, nD_len, e1, p1, f4, f2, h4, h2', d4, na, if_false, x1, x2, x3]
      rfl
  · have x1 : decide (((i : Nat) : Int) < ((A.length : Nat) : Int)) = false := decide_eq_false (by omega)
    by_cases h2 : j < B.length
    · have x2 : decide (((j : Nat) : Int) < ((B.length : Nat) : Int)) = true := decide_eq_true (by omega)
      refine .inl ⟨2, stp2 h2, ?_⟩
      rw [z2]
      simp only [b0__law_walk, l_var, l_var1, l_glo, l_glo1, l_cst, l_nil, l_cons, l_L1, l_L2, l_neg, l_neg1, l_not, l_not1, l_rev, l_rev1, l_lrg, l_lrg1, l_cdx, l_cdx1, l_isc, l_isc1, l_tdy, l_tdy1, l_bin, l_bin1, l_bin2, l_cmp, l_cmp1, l_cmp2, l_idx, l_idx1, l_idx2, l_chn, l_chn1, l_chn2, l_chn3, l_chn3f, l_chn4, l_ite, l_iteT, l_iteF, l_and, l_and1, l_and2, l_andG, l_andS, l_or, l_or1, l_or2, l_orG, l_orS, l_sli, l_sli1, l_sli2, l_sli3, l_tup, l_tup1, l_lst, l_lst1, l_call, l_call1, l_blt, l_blt1, l_mth, l_mth1, l_mth2, l_snil, l_scons, l_sqn, l_sqr, l_sqb, l_sqc, l_asg, l_asg1, l_asgs, l_asgs1, l_asgs2, l_asgs3, l_bT, l_b1, l_bn, l_bc, l_k0, l_k1, l_exp, l_exp1, l_ret, l_ret1, l_retN, l_brk, l_cnt, l_pss, l_if, l_ifT, l_ifF, l_sub, l_sub1, l_sub2, l_sub3, l_set, l_for, l_lc, l_seq, l_seqL, l_seqL1, l_seqT, l_seqS, l_fsh, l_rng1, l_rng11, l_enm, l_enmT, o_addI, o_subI, o_mulI, o_fdivI, o_modI, o_powI, o_addS, o_addT, o_addL, o_addL1, o_repL, o_repL1, o_repS, c_lt, c_le, c_gt, c_ge, c_eq, c_eq1, c_ne, c_ne1, c_in, c_nin, e_II, e_SS, d_II, d_SS, n_int, n_bl, x_tup, x_at, x_atS, x_str, x_lst, x_lst1, b_int, b_lenT, b_lenS, b_lenL, b_lenL1, b_tupT, b_tupL, b_tupL1, b_lstT, b_lstL, b_lstL1, b_min, b_max, b_isi, b_isi1, b_repr, m_app, m_app1, m_appOk, m_popOk, m_lstB, v_set, v_set1, t_op, t_lop, i_N, i_nN, i_T, i_nT, i_F, i_nF, List.getElem?_cons_succ, List.getElem?_cons_zero, List.set_cons_succ, List.set_cons_zero, st_get, st_get0, st_set, st_set0, if_true, tidy_app, tidy_same, trim_pure, trim_pure0, Nat.zero_le, Nat.zero_add, Nat.reduceAdd, Nat.reduceSub, List.replicate, List.map_cons, List.map_nil, List.cons_append, List.nil_append, ga, gb, gd, nD_len, e1, p1, f4, f2, h4, h2', d4, na, if_false, x1, x2]
      rfl
    · have x2 : decide (((j : Nat) : Int) < ((B.length : Nat) : Int)) = false := decide_eq_false (by omega)
      refine .inr ⟨by omega, by omega, ?_⟩
      simp only [b0__law_walk, l_var, l_var1, l_glo, l_glo1, l_cst, l_nil, l_cons, l_L1, l_L2, l_neg, l_neg1, l_not, l_not1, l_rev, l_rev1, l_lrg, l_lrg1, l_cdx, l_cdx1, l_isc, l_isc1, l_tdy, l_tdy1, l_bin, l_bin1, l_bin2, l_cmp, l_cmp1, l_cmp2, l_idx, l_idx1, l_idx2, l_chn, l_chn1, l_chn2, l_chn3, l_chn3f, l_chn4, l_ite, l_iteT, l_iteF, l_and, l_and1, l_and2, l_andG, l_andS, l_or, l_or1, l_or2, l_orG, l_orS, l_sli, l_sli1, l_sli2, l_sli3, l_tup, l_tup1, l_lst, l_lst1, l_call, l_call1, l_blt, l_blt1, l_mth, l_mth1, l_mth2, l_snil, l_scons, l_sqn, l_sqr, l_sqb, l_sqc, l_asg, l_asg1, l_asgs, l_asgs1, l_asgs2, l_asgs3, l_bT, l_b1, l_bn, l_bc, l_k0, l_k1, l_exp, l_exp1, l_ret, l_ret1, l_retN, l_brk, l_cnt, l_pss, l_if, l_ifT, l_ifF, l_sub, l_sub1, l_sub2, l_sub3, l_set, l_for, l_lc, l_seq, l_seqL, l_seqL1, l_seqT, l_seqS, l_fsh, l_rng1, l_rng11, l_enm, l_enmT, o_addI, o_subI, o_mulI, o_fdivI, o_modI, o_powI, o_addS, o_addT, o_addL, o_addL1, o_repL, o_repL1, o_repS, c_lt, c_le, c_gt, c_ge, c_eq, c_eq1, c_ne, c_ne1, c_in, c_nin, e_II, e_SS, d_II, d_SS, n_int, n_bl, x_tup, x_at, x_atS, x_str, x_lst, x_lst1, b_int, b_lenT, b_lenS, b_lenL, b_lenL1, b_tupT, b_tupL, b_tupL1, b_lstT, b_lstL, b_lstL1, b_min, b_max, b_isi, b_isi1, b_repr, m_app, m_app1, m_appOk, m_popOk, m_lstB, v_set, v_set1, t_op, t_lop, i_N, i_nN, i_T, i_nT, i_F, i_nF, List.getElem?_cons_succ, List.getElem?_cons_zero, List.set_cons_succ, List.set_cons_zero, st_get, st_get0, st_set, st_set0, if_true, tidy_app, tidy_same, trim_pure, trim_pure0, Nat.zero_le, Nat.zero_add, Nat.reduceAdd, Nat.reduceSub, List.replicate, List.map_cons, List.map_nil, List.cons_append, List.nil_append, ga, gb, gd, nD_len, e1, p1, f4, f2, h4, h2', d4, na, if_false, x1, x2]
end
end Lw

set_option Elab.async false
set_option linter.all false
set_option autoImplicit false
set_option maxRecDepth 100000
set_option maxHeartbeats 4000000
/-! Ko: the plain law k85: the law's drawn script, whole. -/
namespace Lw
open Ev
def wD (ws : List Nat) : List D := ws.map fun k => .str (stepW k)
section
variable {N : Nat} {S : Sto} {A B ks : List Nat} {ka kb dr : Nat}
theorem dij (k : Nat) : 1 ≤ di k + dj k := by
  match k with
  | 0 => decide
  | 1 => decide
  | k + 2 => show 1 ≤ 0 + 1; decide
theorem walk_m (ha : S[ka]? = some (.lst (nD A))) (hb : S[kb]? = some (.lst (nD B))) (hd : S[dr]? = some (.lst (nD ks))) (hk : ks.length = 270) (hm : A.length ≤ 60) (hn : B.length ≤ 60) :
    ∃ (ws : List Nat) (c : Int), ws.length ≤ 120 ∧ walk (qN A B) A.length B.length (wD ws) 0 0 0 = some (A.length, B.length, c) ∧ cl (N + 1) 15 [.ref ka, .ref kb, .ref dr] S = .ok (.tup [.tup (wD ws), .int c]) S := by
  have e0 : L.prog[15]? = some i__law_walk := rfl
  obtain ⟨ρ', S', q1, ⟨i, j, c, ws, o7, o8, hi, hj, hl, hw, hp, hρ, hS⟩⟩ := forL_ind (w := []) (bd := tgF true [7]) (ks := [7, 8]) (body := bodyF (cx N S) b0__law_walk)
    (fun t ρ T => ∃ (i j : Nat) (c : Int) (ws : List Nat) (o7 o8 : Option D), i ≤ A.length ∧ j ≤ B.length ∧ ws.length ≤ t ∧ walk (qN A B) A.length B.length (wD ws) 0 0 0 = some (i, j, c) ∧ (t ≤ i + j ∨ (i = A.length ∧ j = B.length)) ∧
      ρ = [some (.ref ka), some (.ref kb), some (.ref dr), some (.int (i : Nat)), some (.int (j : Nat)), some (.int c), some (.ref S.length), o7, o8] ∧ T = S ++ [.lst (wD ws)]) (xs := rngL 0 (A.length + B.length))
    (ρ := [some (.ref ka), some (.ref kb), some (.ref dr), some (.int 0), some (.int 0), some (.int 0), some (.ref S.length), none, none]) (S := S ++ [.lst []]) ⟨0, 0, 0, [], none, none, Nat.zero_le _, Nat.zero_le _, Nat.le_refl _, rfl, .inl (Nat.le_refl _), rfl, rfl⟩ (fun _ _ _ _ => rfl) (fun t x ρ T hx h => by
      obtain ⟨i, j, c, ws, o7, o8, hi, hj, hl, hw, hp, rfl, rfl⟩ := h
      have ht : t < A.length + B.length := by
        have := (List.getElem?_eq_some_iff.mp hx).1
        rw [rngL_ints, List.length_map, List.length_range] at this
        exact this
      have hx' : x = .int (t : Nat) := by
        rw [rngL_ints, List.getElem?_map, List.getElem?_range ht] at hx
        simp at hx
        exact hx.symm
      subst hx'
      obtain ⟨pk, hb2⟩ := wbody (N := N) (S := S) (i := i) (j := j) (t := t) (c := c) (st := wD ws) ha hb hd (by omega) hi hj (by unfold wD; rw [List.length_map]; omega)
      rcases hb2 with ⟨k, s1, s2⟩ | ⟨s1, s2, s3⟩
      · obtain ⟨b1, b2⟩ := stp_bound s1 hi hj
        have hd2 := dij k
        refine ⟨_, _, _, rfl, .inl s2, i + di k, j + dj k, c + ck k, ws ++ [k], _, _, b1, b2, by simp; omega, ?_, .inl ?_, rfl, ?_⟩
        · have e : wD (ws ++ [k]) = wD ws ++ [.str (stepW k)] := by unfold wD; rw [List.map_append]; rfl
          rw [e, walk_app, hw]
          dsimp only
          rw [s1]
        · rcases hp with hp | ⟨hp1, hp2⟩
          · omega
          · omega
        · unfold wD
          rw [List.map_append]
          rfl
      · exact ⟨_, _, _, rfl, .inl s3, i, j, c, ws, _, _, hi, hj, by omega, hw, .inr ⟨s1, s2⟩, rfl, rfl⟩)
  rw [rngL_ints, List.length_map, List.length_range] at hp hl
  have hij : i = A.length ∧ j = B.length := by omega
  obtain ⟨rfl, rfl⟩ := hij
  subst hS
  rw [hρ] at q1
  have l0 : (([] : List D).length ≤ line) = True := by simp
  have hr : (-4611686018427387904 ≤ ((A.length : Nat) : Int) + ((B.length : Nat) : Int) ∧ ((A.length : Nat) : Int) + ((B.length : Nat) : Int) < 4611686018427387904) = True := by
    simp
    omega
  have hr2 : (((A.length : Nat) : Int) + ((B.length : Nat) : Int)).toNat = A.length + B.length := by omega
  have ga : ∀ l, (S ++ l)[ka]? = some (.lst (nD A)) := fun l => by rw [List.getElem?_append_left (List.getElem?_eq_some_iff.mp ha).1]; exact ha
  have gb : ∀ l, (S ++ l)[kb]? = some (.lst (nD B)) := fun l => by rw [List.getElem?_append_left (List.getElem?_eq_some_iff.mp hb).1]; exact hb
  have l2 : ∀ x y : D, ([x, y].length ≤ line) = True := fun x y => by simp [line]
  refine ⟨ws, c, by omega, hw, ?_⟩
  refine call_rt (d := .tup [.tup (wD ws), .int c]) (S1 := S ++ [.lst (wD ws)]) e0 rfl ?_ (trim_pure (by
    simp only [D.und, D.unds, Bool.and_true]
    exact unds_map fun _ _ => rfl))
  show evSs (cx N S) i__law_walk.body [some (.ref ka), some (.ref kb), some (.ref dr), none, none, none, none, none, none] S = _
  simp only [i__law_walk, l_var, l_var1, l_glo, l_glo1, l_cst, l_nil, l_cons, l_L1, l_L2, l_neg, l_neg1, l_not, l_not1, l_rev, l_rev1, l_lrg, l_lrg1, l_cdx, l_cdx1, l_isc, l_isc1, l_tdy, l_tdy1, l_bin, l_bin1, l_bin2, l_cmp, l_cmp1, l_cmp2, l_idx, l_idx1, l_idx2, l_chn, l_chn1, l_chn2, l_chn3, l_chn3f, l_chn4, l_ite, l_iteT, l_iteF, l_and, l_and1, l_and2, l_andG, l_andS, l_or, l_or1, l_or2, l_orG, l_orS, l_sli, l_sli1, l_sli2, l_sli3, l_tup, l_tup1, l_lst, l_lst1, l_call, l_call1, l_blt, l_blt1, l_mth, l_mth1, l_mth2, l_snil, l_scons, l_sqn, l_sqr, l_sqb, l_sqc, l_asg, l_asg1, l_asgs, l_asgs1, l_asgs2, l_asgs3, l_bT, l_b1, l_bn, l_bc, l_k0, l_k1, l_exp, l_exp1, l_ret, l_ret1, l_retN, l_brk, l_cnt, l_pss, l_if, l_ifT, l_ifF, l_sub, l_sub1, l_sub2, l_sub3, l_set, l_for, l_lc, l_seq, l_seqL, l_seqL1, l_seqT, l_seqS, l_fsh, l_rng1, l_rng11, l_enm, l_enmT, o_addI, o_subI, o_mulI, o_fdivI, o_modI, o_powI, o_addS, o_addT, o_addL, o_addL1, o_repL, o_repL1, o_repS, c_lt, c_le, c_gt, c_ge, c_eq, c_eq1, c_ne, c_ne1, c_in, c_nin, e_II, e_SS, d_II, d_SS, n_int, n_bl, x_tup, x_at, x_atS, x_str, x_lst, x_lst1, b_int, b_lenT, b_lenS, b_lenL, b_lenL1, b_tupT, b_tupL, b_tupL1, b_lstT, b_lstL, b_lstL1, b_min, b_max, b_isi, b_isi1, b_repr, m_app, m_app1, m_appOk, m_popOk, m_lstB, v_set, v_set1, t_op, t_lop, i_N, i_nN, i_T, i_nT, i_F, i_nF, List.getElem?_cons_succ, List.getElem?_cons_zero, List.set_cons_succ, List.set_cons_zero, st_get, st_get0, st_set, st_set0, if_true, tidy_app, tidy_same, trim_pure, trim_pure0, Nat.zero_le, Nat.zero_add, Nat.reduceAdd, Nat.reduceSub, List.replicate, List.map_cons, List.map_nil, List.cons_append, List.nil_append, ga, gb, nD_len, l0, st_alloc0, hr, hr2, l_for1, q1, l2]
end
end Lw

set_option Elab.async false
set_option linter.all false
set_option autoImplicit false
set_option maxRecDepth 100000
set_option maxHeartbeats 4000000
/-! Kp: the plain law k85: plain facts of scripts. -/
namespace Lw
open Ev
def isStep (s : D) : Bool := isW s (stepW 0) || isW s (stepW 1) || isW s (stepW 2)
def aI (s : D) : Nat := if isW s (stepW 0) = true then 1 else if isW s (stepW 1) = true then 1 else 0
def aJ (s : D) : Nat := if isW s (stepW 0) = true then 1 else if isW s (stepW 2) = true then 1 else 0
def sI : List D → Nat
  | [] => 0
  | s :: ss => aI s + sI ss
def sJ : List D → Nat
  | [] => 0
  | s :: ss => aJ s + sJ ss
theorem isW_eq {s : D} {w v : List Nat} (h : isW s w = true) (h2 : isW s v = true) : w = v := by
  cases s <;> simp [isW] at h h2
  rw [← h, h2]
theorem stp_sum {E : Nat → Nat → Bool} {m n i j k : Nat} {s : D} (h : stp E m n s i j = some k) : di k = aI s ∧ dj k = aJ s ∧ isStep s = true := by
  unfold stp at h
  split at h
  · rename_i h1
    cases h
    refine ⟨?_, ?_, ?_⟩
    · unfold aI; rw [if_pos h1.1]; rfl
    · unfold aJ; rw [if_pos h1.1]; rfl
    · unfold isStep; rw [h1.1]; rfl
  · split at h
    · rename_i h1
      cases h
      have n0 : ¬ isW s (stepW 0) = true := fun q => absurd (isW_eq h1.1 q) (by decide)
      have n2 : ¬ isW s (stepW 2) = true := fun q => absurd (isW_eq h1.1 q) (by decide)
      refine ⟨?_, ?_, ?_⟩
      · unfold aI; rw [if_neg n0, if_pos h1.1]; rfl
      · unfold aJ; rw [if_neg n0, if_neg n2]; rfl
      · unfold isStep; rw [h1.1]; simp
    · split at h
      · rename_i h1
        cases h
        have n0 : ¬ isW s (stepW 0) = true := fun q => absurd (isW_eq h1.1 q) (by decide)
        have n1 : ¬ isW s (stepW 1) = true := fun q => absurd (isW_eq h1.1 q) (by decide)
        refine ⟨?_, ?_, ?_⟩
        · unfold aI; rw [if_neg n0, if_neg n1]; rfl
        · unfold aJ; rw [if_neg n0, if_pos h1.1]; rfl
        · unfold isStep; rw [h1.1]; simp
      · cases h
theorem walk_sum {E : Nat → Nat → Bool} {m n : Nat} : ∀ {ss : List D} {i j i' j' : Nat} {c c' : Int}, walk E m n ss i j c = some (i', j', c') → i' = i + sI ss ∧ j' = j + sJ ss ∧ ∀ s ∈ ss, isStep s = true
  | [], i, j, i', j', c, c', h => by cases h; exact ⟨rfl, rfl, fun _ h => by cases h⟩
  | s :: ss, i, j, i', j', c, c', h => by
    unfold walk at h
    cases hk : stp E m n s i j with
    | none => rw [hk] at h; cases h
    | some k =>
      rw [hk] at h
      obtain ⟨q1, q2, q3⟩ := stp_sum hk
      obtain ⟨r1, r2, r3⟩ := walk_sum h
      refine ⟨?_, ?_, fun x hx => ?_⟩
      · rw [r1, q1]; show _ = i + (aI s + sI ss); omega
      · rw [r2, q2]; show _ = j + (aJ s + sJ ss); omega
      · rcases List.mem_cons.mp hx with h | h
        · rw [h]; exact q3
        · exact r3 x h
theorem sI_app (x y : List D) : sI (x ++ y) = sI x + sI y := by
  induction x with
  | nil => simp [sI]
  | cons s x ih => simp only [List.cons_append, sI, ih]; omega
theorem sJ_app (x y : List D) : sJ (x ++ y) = sJ x + sJ y := by
  induction x with
  | nil => simp [sJ]
  | cons s x ih => simp only [List.cons_append, sJ, ih]; omega
/-- what does not fit gives none -/
theorem sc_none {E : Nat → Nat → Bool} {m n : Nat} {ss : List D} (h : ¬ (sI ss = m ∧ sJ ss = n ∧ ∀ s ∈ ss, isStep s = true)) : sc E m n ss = .non := by
  unfold sc
  cases hw : walk E m n ss 0 0 0 with
  | none => rfl
  | some r =>
    obtain ⟨i, j, c⟩ := r
    obtain ⟨b1, b2⟩ := walk_bound hw (Nat.zero_le _) (Nat.zero_le _)
    obtain ⟨r1, r2, r3⟩ := walk_sum hw
    dsimp only
    by_cases hc : i < m ∨ j < n
    · rw [if_pos hc]
    · exact absurd ⟨by omega, by omega, r3⟩ h
end Lw

set_option Elab.async false
set_option linter.all false
set_option autoImplicit false
set_option maxRecDepth 100000
set_option maxHeartbeats 4000000
/-! Kq: the plain law k85: the first script costs what the table says; lines and classes. -/
namespace Lw
open Ev
theorem mn_le {x y : Int} : mn x y = x ∨ mn x y = y := by unfold mn; split <;> simp
theorem Gq_end {A B : List Nat} : Gq A B A.length B.length = 0 := by
  unfold Gq Fq
  rw [Nat.sub_self, Nat.sub_self]
  rfl
/-- the step taken goes by the table -/
theorem kd_walk {A B : List Nat} {i j : Nat} (hi : i ≤ A.length) (hj : j ≤ B.length) (hne : ¬ (i = A.length ∧ j = B.length)) :
    ∃ k, kd (Gq A B) (qN A B) A.length B.length i j = k ∧ stp (qN A B) A.length B.length (.str (stepW k)) i j = some k ∧ ck k + Gq A B (i + di k) (j + dj k) = Gq A B i j := by
  unfold kd
  by_cases h1 : i < A.length ∧ j < B.length ∧ qN A B i j = true ∧ Gq A B (i + 1) (j + 1) = Gq A B i j
  · rw [if_pos h1]
    refine ⟨0, rfl, stp0 h1.1 h1.2.1 h1.2.2.1, ?_⟩
    show (0 : Int) + Gq A B (i + 1) (j + 1) = _
    rw [h1.2.2.2]
    omega
  · rw [if_neg h1]
    by_cases h2 : i < A.length ∧ Gq A B (i + 1) j + 1 = Gq A B i j
    · rw [if_pos h2]
      refine ⟨1, rfl, stp1 h2.1, ?_⟩
      show (1 : Int) + Gq A B (i + 1) j = _
      omega
    · rw [if_neg h2]
      by_cases h3 : j < B.length
      · refine ⟨2, rfl, stp2 h3, ?_⟩
        show (1 : Int) + Gq A B i (j + 1) = _
        by_cases h4 : i < A.length
        · have hG := Gq_in h4 h3
          have m1 := mn_le (x := Gq A B (i + 1) j) (y := Gq A B i (j + 1))
          by_cases h5 : A.getD i 0 = B.getD j 0
          · rw [if_pos h5] at hG
            have m2 := mn_le (x := 1 + mn (Gq A B (i + 1) j) (Gq A B i (j + 1))) (y := Gq A B (i + 1) (j + 1))
            have hq : qN A B i j = true := decide_eq_true h5
            rcases m2 with m2 | m2
            · rcases m1 with m1 | m1
              · exact absurd ⟨h4, by omega⟩ h2
              · omega
            · exact absurd ⟨h4, h3, hq, by omega⟩ h1
          · rw [if_neg h5] at hG
            rcases m1 with m1 | m1
            · exact absurd ⟨h4, by omega⟩ h2
            · omega
        · have g1 := Gq_edge (A := A) (B := B) hi hj (by omega)
          have g2 := Gq_edge (A := A) (B := B) (j := j + 1) hi h3 (by omega)
          omega
      · have : i < A.length := by omega
        have hj2 : j = B.length := by omega
        subst hj2
        exact absurd ⟨this, Gq_n this⟩ h2
theorem go_walk {A B : List Nat} : ∀ (k i j : Nat) (c : Int), i ≤ A.length → j ≤ B.length → A.length + B.length ≤ k + i + j →
    walk (qN A B) A.length B.length ((go (Gq A B) (qN A B) A.length B.length k i j).map fun k => .str (stepW k)) i j c = some (A.length, B.length, c + Gq A B i j)
  | 0, i, j, c, hi, hj, h => by
    have e1 : i = A.length := by omega
    have e2 : j = B.length := by omega
    subst e1 e2
    rw [Gq_end, Int.add_zero]
    rfl
  | k + 1, i, j, c, hi, hj, h => by
    rw [go_succ]
    by_cases hc : i = A.length ∧ j = B.length
    · rw [if_pos hc]
      obtain ⟨rfl, rfl⟩ := hc
      rw [Gq_end, Int.add_zero]
      rfl
    · rw [if_neg hc]
      obtain ⟨s, s1, s2, s3⟩ := kd_walk hi hj hc
      rw [s1, List.map_cons]
      unfold walk
      rw [s2]
      dsimp only
      obtain ⟨b1, b2⟩ := stp_bound s2 hi hj
      have := dij s
      rw [go_walk k _ _ _ b1 b2 (by omega)]
      congr 3
      omega
theorem go_sc {A B : List Nat} : walk (qN A B) A.length B.length (stepsD (Gq A B) (qN A B) A.length B.length) 0 0 0 = some (A.length, B.length, Gq A B 0 0) := by
  unfold stepsD
  rw [go_walk _ _ _ _ (Nat.zero_le _) (Nat.zero_le _) (by omega), Int.zero_add]
theorem sc_of {E : Nat → Nat → Bool} {m n : Nat} {ss : List D} {c : Int} (h : walk E m n ss 0 0 0 = some (m, n, c)) : sc E m n ss = .int c := by
  unfold sc
  rw [h]
  dsimp only
  rw [if_neg (by omega)]
end Lw

set_option Elab.async false
set_option linter.all false
set_option autoImplicit false
set_option maxRecDepth 100000
set_option maxHeartbeats 4000000
/-! Kr: the plain law k85: lines of classes. -/
namespace Lw
open Ev
theorem pool_len {r t : Nat} (hr : r < 4) (ht : t < 6) : (poolL r t).length = 6 := by
  unfold poolL
  rw [List.length_append, List.length_drop, List.length_take]
  have e : (pool0 (dRep (sg r) 119)).length = 6 := rfl
  omega
def goodB (s : List Nat) : Bool := decide (1 ≤ s.length) && decide (s.length ≤ 120) && s.all fun c => letters.contains c || digits.contains c || c == 45 || c == 47
theorem goodB_ok {s : List Nat} (h : goodB s = true) : Good s := by
  unfold goodB at h
  simp only [Bool.and_eq_true, decide_eq_true_eq, List.all_eq_true, Bool.or_eq_true, beq_iff_eq, List.contains_iff_mem] at h
  exact ⟨h.1.1, h.1.2, fun c hc => by
    rcases h.2 c hc with ((h | h) | h) | h
    · exact .inl h
    · exact .inr (.inl h)
    · exact .inr (.inr (.inl h))
    · exact .inr (.inr (.inr h))⟩
theorem pools_ok : ((List.range 4).all fun r => (pool0 (dRep (sg r) 119)).all goodB && decide (pool0 (dRep (sg r) 119)).Nodup) = true := by decide +kernel
theorem pool0_ok {r : Nat} (hr : r < 4) : (∀ s ∈ pool0 (dRep (sg r) 119), Good s) ∧ (pool0 (dRep (sg r) 119)).Nodup := by
  have h := List.all_eq_true.mp pools_ok r (List.mem_range.mpr hr)
  simp only [Bool.and_eq_true, decide_eq_true_eq, List.all_eq_true] at h
  exact ⟨fun s hs => goodB_ok (h.1 s hs), h.2⟩
theorem pool_good {r t : Nat} (hr : r < 4) : ∀ s ∈ poolL r t, Good s := fun s hs => by
  unfold poolL at hs
  rcases List.mem_append.mp hs with h | h
  · exact (pool0_ok hr).1 s (List.mem_of_mem_drop h)
  · exact (pool0_ok hr).1 s (List.mem_of_mem_take h)
theorem pool_nodup {r t : Nat} (hr : r < 4) : (poolL r t).Nodup := by
  unfold poolL
  have h := (pool0_ok hr).2
  rw [← List.take_append_drop t (pool0 (dRep (sg r) 119))] at h
  first | exact (List.Perm.nodup_iff List.perm_append_comm).mp h | exact List.Perm.nodup List.perm_append_comm h
def linesOf (P : List (List Nat)) (A : List Nat) : List (List Nat) := A.map fun k => P.getD k []
theorem linesOf_len {P : List (List Nat)} {A : List Nat} : (linesOf P A).length = A.length := List.length_map _
theorem lines_good {P : List (List Nat)} {A : List Nat} (hP : ∀ s ∈ P, Good s) (hl : A.length ≤ 60) (hA : ∀ k ∈ A, k < P.length) : Goods (linesOf P A) :=
  ⟨by rw [linesOf_len]; exact hl, fun s hs => by
    obtain ⟨k, hk, rfl⟩ := List.mem_map.mp hs
    rw [List.getD_eq_getElem?_getD, List.getElem?_eq_getElem (hA k hk)]
    exact hP _ (List.getElem_mem _)⟩
theorem qL_lines {P : List (List Nat)} {A B : List Nat} (hP : P.Nodup) (hA : ∀ k ∈ A, k < P.length) (hB : ∀ k ∈ B, k < P.length) {i j : Nat} (hi : i < A.length) (hj : j < B.length) : qL (linesOf P A) (linesOf P B) i j = qN A B i j := by
  have ha : A[i] < P.length := hA _ (List.getElem_mem _)
  have hb : B[j] < P.length := hB _ (List.getElem_mem _)
  have e1 : (linesOf P A).getD i [] = P[A[i]] := by
    unfold linesOf
    rw [List.getD_eq_getElem?_getD, List.getElem?_map, List.getElem?_eq_getElem hi]
    show P.getD A[i] [] = _
    rw [List.getD_eq_getElem?_getD, List.getElem?_eq_getElem ha]
    rfl
  have e2 : (linesOf P B).getD j [] = P[B[j]] := by
    unfold linesOf
    rw [List.getD_eq_getElem?_getD, List.getElem?_map, List.getElem?_eq_getElem hj]
    show P.getD B[j] [] = _
    rw [List.getD_eq_getElem?_getD, List.getElem?_eq_getElem hb]
    rfl
  have e3 : A.getD i 0 = A[i] := by rw [List.getD_eq_getElem?_getD, List.getElem?_eq_getElem hi]; rfl
  have e4 : B.getD j 0 = B[j] := by rw [List.getD_eq_getElem?_getD, List.getElem?_eq_getElem hj]; rfl
  unfold qL qN
  rw [e1, e2, e3, e4]
  by_cases h : A[i] = B[j]
  · rw [decide_eq_true h]
    exact decide_eq_true (by simp only [h])
  · rw [decide_eq_false h]
    exact decide_eq_false fun q => h ((List.getElem_inj hP).mp q)
end Lw

set_option Elab.async false
set_option linter.all false
set_option autoImplicit false
set_option maxRecDepth 100000
set_option maxHeartbeats 4000000
/-! Ks: the plain law k85: tables and scripts by what they look at. -/
namespace Lw
open Ev
theorem Er_congr {q p : Nat → Nat → Bool} {m n : Nat} (h : ∀ i j, i < m → j < n → q i j = p i j) : ∀ i j, i ≤ m → j ≤ n → Er q i j = Er p i j
  | 0, j, _, _ => rfl
  | i + 1, j, hi, hj => by
    induction j with
    | zero => rw [Er0, Er0]
    | succ j ih =>
      rw [Er_in, Er_in, h i j hi hj, ih (by omega), Er_congr h i (j + 1) (by omega) hj, Er_congr h i j (by omega) (by omega)]
theorem tabD_congr {q p : Nat → Nat → Bool} {m n : Nat} (h : ∀ i j, i < m → j < n → q i j = p i j) : tabD q m n = tabD p m n := by
  unfold tabD
  congr 1
  apply List.map_congr_left
  intro i hi
  have := List.mem_range.mp hi
  congr 1
  unfold rl
  apply List.map_congr_left
  intro j hj
  have := List.mem_range.mp hj
  rw [Er_congr h i j (by omega) (by omega)]
theorem Fq_congr {q p : Nat → Nat → Bool} {m n : Nat} (h : ∀ i j, i < m → j < n → q i j = p i j) (i j : Nat) : Fq q m n i j = Fq p m n i j := Er_congr h _ _ (Nat.sub_le _ _) (Nat.sub_le _ _)
theorem stp_congr {E E' : Nat → Nat → Bool} {m n : Nat} (h : ∀ i j, i < m → j < n → E i j = E' i j) (s : D) (i j : Nat) : stp E m n s i j = stp E' m n s i j := by
  unfold stp
  by_cases h1 : i < m ∧ j < n
  · rw [h i j h1.1 h1.2]
  · have n1 : ∀ e : Nat → Nat → Bool, ¬ (isW s (stepW 0) = true ∧ i < m ∧ j < n ∧ e i j = true) := fun e q => h1 ⟨q.2.1, q.2.2.1⟩
    rw [if_neg (n1 E), if_neg (n1 E')]
theorem walk_congr {E E' : Nat → Nat → Bool} {m n : Nat} (h : ∀ i j, i < m → j < n → E i j = E' i j) : ∀ (ss : List D) (i j : Nat) (c : Int), walk E m n ss i j c = walk E' m n ss i j c
  | [], _, _, _ => rfl
  | s :: ss, i, j, c => by
    unfold walk
    rw [stp_congr h]
    cases stp E' m n s i j with
    | none => rfl
    | some k => exact walk_congr h ss _ _ _
theorem sc_congr {E E' : Nat → Nat → Bool} {m n : Nat} (h : ∀ i j, i < m → j < n → E i j = E' i j) (ss : List D) : sc E m n ss = sc E' m n ss := by
  unfold sc
  rw [walk_congr h]
theorem kd_congr {F F' : Nat → Nat → Int} {E E' : Nat → Nat → Bool} {m n : Nat} (hF : ∀ i j, F i j = F' i j) (h : ∀ i j, i < m → j < n → E i j = E' i j) (i j : Nat) : kd F E m n i j = kd F' E' m n i j := by
  have e : F = F' := funext fun i => funext fun j => hF i j
  subst e
  unfold kd
  by_cases h1 : i < m ∧ j < n
  · rw [h i j h1.1 h1.2]
  · have n1 : ∀ e : Nat → Nat → Bool, ¬ (i < m ∧ j < n ∧ e i j = true ∧ F (i + 1) (j + 1) = F i j) := fun e q => h1 ⟨q.1, q.2.1⟩
    rw [if_neg (n1 E), if_neg (n1 E')]
theorem go_congr {F F' : Nat → Nat → Int} {E E' : Nat → Nat → Bool} {m n : Nat} (hF : ∀ i j, F i j = F' i j) (h : ∀ i j, i < m → j < n → E i j = E' i j) : ∀ k i j, go F E m n k i j = go F' E' m n k i j
  | 0, _, _ => rfl
  | k + 1, i, j => by
    rw [go_succ, go_succ, kd_congr hF h, go_congr hF h k]
theorem leastD_congr {F F' : Nat → Nat → Int} {E E' : Nat → Nat → Bool} {m n : Nat} (hF : ∀ i j, F i j = F' i j) (h : ∀ i j, i < m → j < n → E i j = E' i j) : leastD F E m n = leastD F' E' m n := by
  unfold leastD stepsD
  rw [go_congr hF h, hF]
theorem lines_rev {P : List (List Nat)} {A : List Nat} : (linesOf P A).reverse = linesOf P A.reverse := by
  unfold linesOf
  rw [List.map_reverse]
end Lw

set_option Elab.async false
set_option linter.all false
set_option autoImplicit false
set_option maxRecDepth 100000
set_option maxHeartbeats 4000000
/-! Kt: the plain law k85: broken scripts. -/
namespace Lw
open Ev
def othW : Nat → List Nat
  | 0 => [100, 114, 111, 112]
  | 1 => [116, 97, 107, 101]
  | _ => [100, 114, 111, 112]
/-- the wrong steps -/
def wrongs (k : Nat) : List D := [.str (othW k), .str [75, 101, 101, 112], .non, .int 0, .tup [.str [100, 114, 111, 112]], .bl true]
def found0 (s : Nat) (ss : List D) (at_ : Nat) : List D := [.tup (ss.take at_ ++ ss.drop (at_ + 1)), .tup (ss.take (at_ + 1) ++ ss.drop at_), .ref s]
def putAt (ss : List D) (at_ : Nat) (x : D) : D := .tup (ss.take at_ ++ [x] ++ ss.drop (at_ + 1))
section
variable {N : Nat} {S : Sto}
theorem broken_loop {ss : List D} {at_ k d : Nat} (hl : ss.length ≤ 120) (ha : at_ < ss.length) :
    ∃ o5, forL [] (tgF true [5]) [5] (bodyF (cx N S) b0__law_broken) (wrongs k) [some (.tup ss), some (.int (d : Nat)), some (.int (at_ : Nat)), some (.str (othW k)), some (.ref (S.length + 1)), none] (S ++ [.lst ss, .lst (found0 S.length ss at_)]) =
      .nx (kill [5] [some (.tup ss), some (.int (d : Nat)), some (.int (at_ : Nat)), some (.str (othW k)), some (.ref (S.length + 1)), o5]) (S ++ [.lst ss, .lst (found0 S.length ss at_ ++ (wrongs k).map (putAt ss at_))]) := by
  obtain ⟨ρ', S', q1, ⟨x, q2⟩, q3⟩ := forL_ind (w := []) (bd := tgF true [5]) (ks := [5]) (body := bodyF (cx N S) b0__law_broken)
    (fun i ρ T => (∃ o5, ρ = [some (.tup ss), some (.int (d : Nat)), some (.int (at_ : Nat)), some (.str (othW k)), some (.ref (S.length + 1)), o5]) ∧ T = S ++ [.lst ss, .lst (found0 S.length ss at_ ++ ((wrongs k).take i).map (putAt ss at_))]) (xs := wrongs k)
    (ρ := [some (.tup ss), some (.int (d : Nat)), some (.int (at_ : Nat)), some (.str (othW k)), some (.ref (S.length + 1)), none]) (S := S ++ [.lst ss, .lst (found0 S.length ss at_)]) ⟨⟨_, rfl⟩, by simp⟩ (fun _ _ _ _ => rfl) (fun i x ρ T hx h => by
      obtain ⟨⟨y, rfl⟩, rfl⟩ := h
      have hi : i < 6 := (List.getElem?_eq_some_iff.mp hx).1
      have c1 := cut_take ss at_ (by omega)
      have e1 : ((at_ : Nat) : Int) + 1 = ((at_ + 1 : Nat) : Int) := rfl
      have c2 := cut_drop ss (at_ + 1) (by omega)
      have b1 : bnd true .non = some none := rfl
      have b2 : ∀ i, bnd false (.int i) = some (some i) := fun _ => rfl
      have sk : ∀ l h x T, sliK (some l) (some h) x T = sliop x l h T := fun _ _ _ _ => rfl
      have st : ∀ xs l h (T : Sto), sliop (.tup xs) l h T = .ok (.tup (cut xs l h)) T := fun _ _ _ _ => rfl
      have nn : E.isNon (.cst .non) = true := rfl
      have nv : ∀ i, E.isNon (.var i) = false := fun _ => rfl
      have nb : ∀ o a b, E.isNon (.bin o a b) = false := fun _ _ _ => rfl
      have el : line = 16777216 := rfl
      have l1 : (1 ≤ line) = True := by simp [line]
      have l2 : ((ss.take at_).length + 1 ≤ line) = True := by simp [line]; omega
      have l3 : ((ss.take at_).length + 1 + (ss.drop (at_ + 1)).length ≤ line) = True := by simp [line]; omega
      have na : ∀ v, ¬ ((S.length + 1 < (cx N S).n0 ∧ D.pure v = false) ∨ line ≤ (found0 S.length ss at_ ++ ((wrongs k).take i).map (putAt ss at_)).length) := fun v h => by
        rcases h with ⟨h, _⟩ | h
        · rw [cx_n0] at h
          omega
        · rw [List.length_append, List.length_map, List.length_take] at h
          have : (found0 S.length ss at_).length = 3 := rfl
          omega
      simp only [List.length_append] at na
      have htk : (wrongs k).take (i + 1) = (wrongs k).take i ++ [x] := by
        rw [List.take_add_one, hx]
        rfl
      refine ⟨_, _, _, rfl, .inl ?_, ⟨some x, rfl⟩, rfl⟩
      show evSs (cx N S) b0__law_broken [some (.tup ss), some (.int (d : Nat)), some (.int (at_ : Nat)), some (.str (othW k)), some (.ref (S.length + 1)), some x] _ = _
      rw [htk, List.map_append, ← List.append_assoc]
      simp only [b0__law_broken, l_var, l_var1, l_glo, l_glo1, l_cst, l_nil, l_cons, l_L1, l_L2, l_neg, l_neg1, l_not, l_not1, l_rev, l_rev1, l_lrg, l_lrg1, l_cdx, l_cdx1, l_isc, l_isc1, l_tdy, l_tdy1, l_bin, l_bin1, l_bin2, l_cmp, l_cmp1, l_cmp2, l_idx, l_idx1, l_idx2, l_chn, l_chn1, l_chn2, l_chn3, l_chn3f, l_chn4, l_ite, l_iteT, l_iteF, l_and, l_and1, l_and2, l_andG, l_andS, l_or, l_or1, l_or2, l_orG, l_orS, l_sli, l_sli1, l_sli2, l_sli3, l_tup, l_tup1, l_lst, l_lst1, l_call, l_call1, l_blt, l_blt1, l_mth, l_mth1, l_mth2, l_snil, l_scons, l_sqn, l_sqr, l_sqb, l_sqc, l_asg, l_asg1, l_asgs, l_asgs1, l_asgs2, l_asgs3, l_bT, l_b1, l_bn, l_bc, l_k0, l_k1, l_exp, l_exp1, l_ret, l_ret1, l_retN, l_brk, l_cnt, l_pss, l_if, l_ifT, l_ifF, l_sub, l_sub1, l_sub2, l_sub3, l_set, l_for, l_lc, l_seq, l_seqL, l_seqL1, l_seqT, l_seqS, l_fsh, l_rng1, l_rng11, l_enm, l_enmT, o_addI, o_subI, o_mulI, o_fdivI, o_modI, o_powI, o_addS, o_addT, o_addL, o_addL1, o_repL, o_repL1, o_repS, c_lt, c_le, c_gt, c_ge, c_eq, c_eq1, c_ne, c_ne1, c_in, c_nin, e_II, e_SS, d_II, d_SS, n_int, n_bl, x_tup, x_at, x_atS, x_str, x_lst, x_lst1, b_int, b_lenT, b_lenS, b_lenL, b_lenL1, b_tupT, b_tupL, b_tupL1, b_lstT, b_lstL, b_lstL1, b_min, b_max, b_isi, b_isi1, b_repr, m_app, m_app1, m_appOk, m_popOk, m_lstB, v_set, v_set1, t_op, t_lop, i_N, i_nN, i_T, i_nT, i_F, i_nF, List.getElem?_cons_succ, List.getElem?_cons_zero, List.set_cons_succ, List.set_cons_zero, st_get, st_get0, st_set, st_set0, if_true, tidy_app, tidy_same, trim_pure, trim_pure0, Nat.zero_le, Nat.zero_add, Nat.reduceAdd, Nat.reduceSub, List.replicate, List.map_cons, List.map_nil, List.cons_append, List.nil_append, c1, c2, e1, b1, b2, sk, st, nn, nv, nb, l1, l2, l3, List.length_append, List.length_cons, List.length_nil, na, if_false]
      rfl)
  have e6 : (wrongs k).take (wrongs k).length = wrongs k := List.take_length
  rw [e6] at q3
  exact ⟨x, by rw [q1, q2, q3]⟩
def foundD (s : Nat) (ss : List D) (at_ k : Nat) : List D := found0 s ss at_ ++ (wrongs k).map (putAt ss at_)
theorem broken_ok {ss : List D} {at_ k d : Nat} (hl : ss.length ≤ 120) (h0 : 0 < ss.length) (hat : d % ss.length = at_) (hk : ss[at_]? = some (.str (stepW k))) (hu : D.unds S.length ss = true) (hk3 : k < 3) :
    cl (N + 1) 16 [.tup ss, .int (d : Nat)] S = .ok (.ref (S.length + 1)) (S ++ [.lst ss, .lst (foundD S.length ss at_ k)]) := by
  have e0 : L.prog[16]? = some i__law_broken := rfl
  have ha : at_ < ss.length := by rw [← hat]; exact Nat.mod_lt _ h0
  obtain ⟨o5, q1⟩ := broken_loop (N := N) (S := S) (ss := ss) (k := k) (d := d) hl ha
  have c1 := cut_take ss at_ (by omega)
  have e1 : ((at_ : Nat) : Int) + 1 = ((at_ + 1 : Nat) : Int) := rfl
  have c2 := cut_drop ss (at_ + 1) (by omega)
  have c3 := cut_take ss (at_ + 1) (by omega)
  have c4 := cut_drop ss at_ (by omega)
  have b1 : bnd true .non = some none := rfl
  have b2 : ∀ i, bnd false (.int i) = some (some i) := fun _ => rfl
  have sk : ∀ l h x T, sliK (some l) (some h) x T = sliop x l h T := fun _ _ _ _ => rfl
  have st : ∀ xs l h (T : Sto), sliop (.tup xs) l h T = .ok (.tup (cut xs l h)) T := fun _ _ _ _ => rfl
  have nn : E.isNon (.cst .non) = true := rfl
  have nv : ∀ i, E.isNon (.var i) = false := fun _ => rfl
  have nb : ∀ o a b, E.isNon (.bin o a b) = false := fun _ _ _ => rfl
  have el : line = 16777216 := rfl
  have l1 : ((ss.take at_).length + (ss.drop (at_ + 1)).length ≤ line) = True := by simp [line]; omega
  have l2 : ((ss.take (at_ + 1)).length + (ss.drop at_).length ≤ line) = True := by simp [line]; omega
  have l3 : (3 ≤ line) = True := by simp [line]
  have l6 : (6 ≤ line) = True := by simp [line]
  have l7 : (1 ≤ line) = True := by simp [line]
  have f1 : ((d : Nat) : Int).fmod ((ss.length : Nat) : Int) = ((at_ : Nat) : Int) := by
    rw [Int.fmod_eq_emod_of_nonneg _ (Int.natCast_nonneg _), ← hat]
    rfl
  have n0 : (((ss.length : Nat) : Int) ≠ 0) = True := eq_true (by omega)
  have p : pyAt ss ((at_ : Nat) : Int) = some (.str (stepW k)) := by
    rw [pyAt_nat _ _ ha, ← List.getElem?_eq_getElem ha]
    exact hk
  have cd : ∀ T, cdxop [([107, 101, 101, 112], [100, 114, 111, 112]), ([100, 114, 111, 112], [116, 97, 107, 101]), ([116, 97, 107, 101], [100, 114, 111, 112])] (.str (stepW k)) T = .ok (.str (othW k)) T := fun T => by
    match k, hk3 with
    | 0, _ => rfl
    | 1, _ => rfl
    | 2, _ => rfl
  have al0 : alloc (.lst ss) S = .ok (.ref S.length) (S ++ [.lst ss]) := rfl
  have us : ∀ s, D.und S.length (.str s) = true := fun _ => rfl
  have td : trim S.length (.ref (S.length + 1)) (S ++ [.lst ss, .lst (found0 S.length ss at_)]) = .ok (.ref (S.length + 1)) (S ++ [.lst ss, .lst (found0 S.length ss at_)]) :=
    trim_keep (k := 1) rfl (by simp [found0, D.unds, D.und])
  have td' : trim S.length (.ref (S.length + 1)) (S ++ [.lst ss, .lst [.tup (ss.take at_ ++ ss.drop (at_ + 1)), .tup (ss.take (at_ + 1) ++ ss.drop at_), .ref S.length]]) = .ok (.ref (S.length + 1)) (S ++ [.lst ss, .lst (found0 S.length ss at_)]) := td
  have fr : ∀ o : Ob, freshOf (S ++ [.lst ss, o]) (.ok (.ref (S.length + 2)) (S ++ [.lst ss, o, .lst [.str (othW k), .str [75, 101, 101, 112], .non, .int 0, .tup [.str [100, 114, 111, 112]], .bl true]])) = .ok (wrongs k) [] (S ++ [.lst ss, o]) := fun o => by
    have h := fresh_lst (S := S ++ [.lst ss, o]) (l := [.lst (wrongs k)]) (k := 0) (xs := wrongs k) rfl rfl
    rw [List.length_append, List.append_assoc] at h
    exact h
  refine call_rt (d := .ref (S.length + 1)) (S1 := S ++ [.lst ss, .lst (foundD S.length ss at_ k)]) e0 rfl ?_ (trim_keep (k := 1) rfl (by simp [foundD, found0, D.unds, D.und]))
  show evSs (cx N S) i__law_broken.body [some (.tup ss), some (.int (d : Nat)), none, none, none, none] S = _
  simp only [i__law_broken, l_var, l_var1, l_glo, l_glo1, l_cst, l_nil, l_cons, l_L1, l_L2, l_neg, l_neg1, l_not, l_not1, l_rev, l_rev1, l_lrg, l_lrg1, l_cdx, l_cdx1, l_isc, l_isc1, l_tdy, l_tdy1, l_bin, l_bin1, l_bin2, l_cmp, l_cmp1, l_cmp2, l_idx, l_idx1, l_idx2, l_chn, l_chn1, l_chn2, l_chn3, l_chn3f, l_chn4, l_ite, l_iteT, l_iteF, l_and, l_and1, l_and2, l_andG, l_andS, l_or, l_or1, l_or2, l_orG, l_orS, l_sli, l_sli1, l_sli2, l_sli3, l_tup, l_tup1, l_lst, l_lst1, l_call, l_call1, l_blt, l_blt1, l_mth, l_mth1, l_mth2, l_snil, l_scons, l_sqn, l_sqr, l_sqb, l_sqc, l_asg, l_asg1, l_asgs, l_asgs1, l_asgs2, l_asgs3, l_bT, l_b1, l_bn, l_bc, l_k0, l_k1, l_exp, l_exp1, l_ret, l_ret1, l_retN, l_brk, l_cnt, l_pss, l_if, l_ifT, l_ifF, l_sub, l_sub1, l_sub2, l_sub3, l_set, l_for, l_lc, l_seq, l_seqL, l_seqL1, l_seqT, l_seqS, l_fsh, l_rng1, l_rng11, l_enm, l_enmT, o_addI, o_subI, o_mulI, o_fdivI, o_modI, o_powI, o_addS, o_addT, o_addL, o_addL1, o_repL, o_repL1, o_repS, c_lt, c_le, c_gt, c_ge, c_eq, c_eq1, c_ne, c_ne1, c_in, c_nin, e_II, e_SS, d_II, d_SS, n_int, n_bl, x_tup, x_at, x_atS, x_str, x_lst, x_lst1, b_int, b_lenT, b_lenS, b_lenL, b_lenL1, b_tupT, b_tupL, b_tupL1, b_lstT, b_lstL, b_lstL1, b_min, b_max, b_isi, b_isi1, b_repr, m_app, m_app1, m_appOk, m_popOk, m_lstB, v_set, v_set1, t_op, t_lop, i_N, i_nN, i_T, i_nT, i_F, i_nF, List.getElem?_cons_succ, List.getElem?_cons_zero, List.set_cons_succ, List.set_cons_zero, st_get, st_get0, st_set, st_set0, if_true, tidy_app, tidy_same, trim_pure, trim_pure0, Nat.zero_le, Nat.zero_add, Nat.reduceAdd, Nat.reduceSub, List.replicate, List.map_cons, List.map_nil, List.cons_append, List.nil_append, f1, n0, p, cd, us, c1, c2, c3, c4, e1, b1, b2, sk, st, nn, nv, nb, l1, l2, l3, l6, l7, al0, st_alloc, List.length_cons, List.length_nil, td', fr, l_for1, q1]
  rfl
end
end Lw

set_option Elab.async false
set_option linter.all false
set_option autoImplicit false
set_option maxRecDepth 100000
set_option maxHeartbeats 4000000
/-! Ku: the plain law k85: no broken script fits. -/
namespace Lw
open Ev
theorem walk_cost {E : Nat → Nat → Bool} {m n : Nat} : ∀ {ss : List D} {i j i' j' : Nat} {c c' : Int}, walk E m n ss i j c = some (i', j', c') → c ≤ c' ∧ c' ≤ c + ss.length
  | [], i, j, i', j', c, c', h => by cases h; simp
  | s :: ss, i, j, i', j', c, c', h => by
    unfold walk at h
    cases hk : stp E m n s i j with
    | none => rw [hk] at h; cases h
    | some k =>
      rw [hk] at h
      obtain ⟨r1, r2⟩ := walk_cost h
      have : 0 ≤ ck k ∧ ck k ≤ 1 := by match k with | 0 => decide | k + 1 => exact ⟨by show (0 : Int) ≤ 1; decide, by show (1 : Int) ≤ 1; decide⟩
      rw [List.length_cons]
      omega
theorem okW_wD {ws : List Nat} : ∀ s ∈ wD ws, okW s := fun s hs => by
  obtain ⟨k, _, rfl⟩ := List.mem_map.mp hs
  exact okW_str
theorem okW_wrongs {k : Nat} : ∀ s ∈ wrongs k, okW s := fun s hs => by
  simp only [wrongs, List.mem_cons, List.not_mem_nil, or_false] at hs
  rcases hs with h | h | h | h | h | h <;> subst h
  · exact okW_str
  · exact okW_str
  · exact okW_non
  · exact okW_int
  · exact okW_tup (by decide)
  · exact okW_bl
theorem aIJ {s : D} (h : isStep s = true) : 1 ≤ aI s + aJ s := by
  unfold isStep at h
  unfold aI aJ
  cases h0 : isW s (stepW 0) <;> cases h1 : isW s (stepW 1) <;> cases h2 : isW s (stepW 2) <;> simp [h0, h1, h2] at h ⊢
theorem split_at {ss : List D} {i : Nat} {x : D} (h : ss[i]? = some x) : ss = ss.take i ++ ([x] ++ ss.drop (i + 1)) := by
  have hi := (List.getElem?_eq_some_iff.mp h).1
  have e : ss[i] = x := by
    have := List.getElem?_eq_getElem hi
    rw [h] at this
    injection this with this
    exact this.symm
  conv => lhs; rw [← List.take_append_drop i ss, List.drop_eq_getElem_cons hi, e]
  rfl
section
variable {E : Nat → Nat → Bool} {m n : Nat} {ss : List D} {c : Int} {i k : Nat}
theorem left_out (h : walk E m n ss 0 0 0 = some (m, n, c)) {x : D} (hx : ss[i]? = some x) : sc E m n (ss.take i ++ ss.drop (i + 1)) = .non := by
  obtain ⟨r1, r2, r3⟩ := walk_sum h
  have hs := split_at hx
  have a1 := aIJ (r3 x (List.mem_of_getElem? hx))
  refine sc_none fun ⟨q1, q2, _⟩ => ?_
  have s1 : sI ss = sI (ss.take i) + (aI x + sI (ss.drop (i + 1))) := by
    conv => lhs; rw [hs]
    rw [sI_app]
    rfl
  have s2 : sJ ss = sJ (ss.take i) + (aJ x + sJ (ss.drop (i + 1))) := by
    conv => lhs; rw [hs]
    rw [sJ_app]
    rfl
  rw [sI_app] at q1
  rw [sJ_app] at q2
  omega
theorem twice (h : walk E m n ss 0 0 0 = some (m, n, c)) {x : D} (hx : ss[i]? = some x) : sc E m n (ss.take (i + 1) ++ ss.drop i) = .non := by
  obtain ⟨r1, r2, r3⟩ := walk_sum h
  have a1 := aIJ (r3 x (List.mem_of_getElem? hx))
  have hi := (List.getElem?_eq_some_iff.mp hx).1
  refine sc_none fun ⟨q1, q2, _⟩ => ?_
  have t1 : ss.take (i + 1) = ss.take i ++ [x] := by rw [List.take_add_one, hx]; rfl
  have s1 : sI ss = sI (ss.take i) + sI (ss.drop i) := by rw [← sI_app, List.take_append_drop]
  have s2 : sJ ss = sJ (ss.take i) + sJ (ss.drop i) := by rw [← sJ_app, List.take_append_drop]
  rw [t1, sI_app, sI_app] at q1
  rw [t1, sJ_app, sJ_app] at q2
  have z1 : sI [x] = aI x := Nat.add_zero _
  have z2 : sJ [x] = aJ x := Nat.add_zero _
  omega
theorem more (h : walk E m n ss 0 0 0 = some (m, n, c)) : sc E m n (ss ++ [.str (stepW 0)]) = .non := by
  obtain ⟨r1, r2, r3⟩ := walk_sum h
  refine sc_none fun ⟨q1, q2, _⟩ => ?_
  rw [sI_app] at q1
  have z1 : sI [D.str (stepW 0)] = 1 := by simp [sI, aI, isW]
  omega
theorem changed (h : walk E m n ss 0 0 0 = some (m, n, c)) (hx : ss[i]? = some (.str (stepW k))) (hk : k < 3) {y : D} (hy : y ∈ wrongs k) : sc E m n (ss.take i ++ [y] ++ ss.drop (i + 1)) = .non := by
  obtain ⟨r1, r2, r3⟩ := walk_sum h
  have hs := split_at hx
  refine sc_none fun ⟨q1, q2, q3⟩ => ?_
  have s1 : sI ss = sI (ss.take i) + (aI (.str (stepW k)) + sI (ss.drop (i + 1))) := by
    conv => lhs; rw [hs]
    rw [sI_app]
    rfl
  have s2 : sJ ss = sJ (ss.take i) + (aJ (.str (stepW k)) + sJ (ss.drop (i + 1))) := by
    conv => lhs; rw [hs]
    rw [sJ_app]
    rfl
  rw [sI_app, sI_app] at q1
  rw [sJ_app, sJ_app] at q2
  have z1 : sI [y] = aI y := Nat.add_zero _
  have z2 : sJ [y] = aJ y := Nat.add_zero _
  have hst := q3 y (by simp)
  simp only [wrongs, List.mem_cons, List.not_mem_nil, or_false] at hy
  rcases hy with hy | hy | hy | hy | hy | hy
  · subst hy
    match k, hk with
    | 0, _ =>
      have w1 : aJ (.str (stepW 0)) = 1 := rfl
      have w2 : aJ (.str (othW 0)) = 0 := rfl
      omega
    | 1, _ =>
      have w1 : aI (.str (stepW 1)) = 1 := rfl
      have w2 : aI (.str (othW 1)) = 0 := rfl
      omega
    | 2, _ =>
      have w1 : aJ (.str (stepW 2)) = 1 := rfl
      have w2 : aJ (.str (othW 2)) = 0 := rfl
      omega
  all_goals
    subst hy
    revert hst
    decide
end
end Lw

set_option Elab.async false
set_option linter.all false
set_option autoImplicit false
set_option maxRecDepth 100000
set_option maxHeartbeats 4000000
/-! Kv: the plain law k85: _law_runs. -/
namespace Lw
open Ev
theorem rep_int {c : Int} {S : Sto} (h : c.natAbs.log2 < 1900) : bltop .repr [.int c] S = .ok (.str (shown (.int c))) S := by
  rw [b_repr]
  have e : rsv S (.int c) = .int c := rfl
  rw [e, if_pos]
  simp [repOk, datOk, D.pure, D.und, D.dep, D.sok, D.shw, D.wid, h, line]
theorem sub1_wD {S : Sto} : ∀ ws : List Nat, sub1s S (wD ws) = wD ws
  | [] => rfl
  | k :: ws => by
    show sub1 S (.str (stepW k)) :: sub1s S (wD ws) = _
    rw [sub1_wD ws]
    rfl
theorem deps_wD : ∀ ws : List Nat, D.deps (wD ws) = 0
  | [] => rfl
  | k :: ws => by
    show max 0 (D.deps (wD ws)) = 0
    rw [deps_wD ws]
    rfl
theorem sok_step (k : Nat) : D.sok (.str (stepW k)) = true := by
  match k with
  | 0 => rfl
  | 1 => rfl
  | k + 2 => rfl
theorem soks_wD : ∀ ws : List Nat, D.soks (wD ws) = true
  | [] => rfl
  | k :: ws => by
    show (D.sok (.str (stepW k)) && D.soks (wD ws)) = true
    rw [soks_wD ws, sok_step]
    rfl
theorem dEq_ne {S : Sto} {k : Nat} {ws : List Nat} : dEq S (.tup (wD (k :: ws))) (.tup []) = some false := by
  have e1 : rsv S (.tup (wD (k :: ws))) = .tup (wD (k :: ws)) := by
    simp only [rsv, sub1, sub1_wD]
  have e2 : rsv S (.tup []) = .tup [] := rfl
  have e3 : datOk (.tup (wD (k :: ws))) = true := by
    have u : D.unds 0 (wD (k :: ws)) = true := unds_map fun _ _ => rfl
    simp [datOk, D.pure, D.und, D.dep, D.sok, u, deps_wD, soks_wD]
  unfold dEq
  rw [if_neg (by simp [D.flat]), e1, e2, e3, if_pos (by decide)]
  rfl
theorem step3 (k : Nat) : ∃ k', k' < 3 ∧ stepW k = stepW k' := by
  match k with
  | 0 => exact ⟨0, by decide, rfl⟩
  | 1 => exact ⟨1, by decide, rfl⟩
  | k + 2 => exact ⟨2, by decide, rfl⟩
section
variable {N : Nat} {S : Sto} {a b : List (List Nat)}
theorem runs_body {w : D} {d : Nat} {x : D} {T : Sto} (h : cl N 7 [tl a, tl b, x] T = .ok .non T) :
    evSs (cx N S) b0__law_runs [some (tl a), some (tl b), some w, some (.int (d : Nat)), some x] T = .nx [some (tl a), some (tl b), some w, some (.int (d : Nat)), some x] T := by
  simp only [cl] at h
  have u : D.und T.length (.bl false) = true := rfl
  simp only [b0__law_runs, l_var, l_var1, l_glo, l_glo1, l_cst, l_nil, l_cons, l_L1, l_L2, l_neg, l_neg1, l_not, l_not1, l_rev, l_rev1, l_lrg, l_lrg1, l_cdx, l_cdx1, l_isc, l_isc1, l_tdy, l_tdy1, l_bin, l_bin1, l_bin2, l_cmp, l_cmp1, l_cmp2, l_idx, l_idx1, l_idx2, l_chn, l_chn1, l_chn2, l_chn3, l_chn3f, l_chn4, l_ite, l_iteT, l_iteF, l_and, l_and1, l_and2, l_andG, l_andS, l_or, l_or1, l_or2, l_orG, l_orS, l_sli, l_sli1, l_sli2, l_sli3, l_tup, l_tup1, l_lst, l_lst1, l_call, l_call1, l_blt, l_blt1, l_mth, l_mth1, l_mth2, l_snil, l_scons, l_sqn, l_sqr, l_sqb, l_sqc, l_asg, l_asg1, l_asgs, l_asgs1, l_asgs2, l_asgs3, l_bT, l_b1, l_bn, l_bc, l_k0, l_k1, l_exp, l_exp1, l_ret, l_ret1, l_retN, l_brk, l_cnt, l_pss, l_if, l_ifT, l_ifF, l_sub, l_sub1, l_sub2, l_sub3, l_set, l_for, l_lc, l_seq, l_seqL, l_seqL1, l_seqT, l_seqS, l_fsh, l_rng1, l_rng11, l_enm, l_enmT, o_addI, o_subI, o_mulI, o_fdivI, o_modI, o_powI, o_addS, o_addT, o_addL, o_addL1, o_repL, o_repL1, o_repS, c_lt, c_le, c_gt, c_ge, c_eq, c_eq1, c_ne, c_ne1, c_in, c_nin, e_II, e_SS, d_II, d_SS, n_int, n_bl, x_tup, x_at, x_atS, x_str, x_lst, x_lst1, b_int, b_lenT, b_lenS, b_lenL, b_lenL1, b_tupT, b_tupL, b_tupL1, b_lstT, b_lstL, b_lstL1, b_min, b_max, b_isi, b_isi1, b_repr, m_app, m_app1, m_appOk, m_popOk, m_lstB, v_set, v_set1, t_op, t_lop, i_N, i_nN, i_T, i_nT, i_F, i_nF, List.getElem?_cons_succ, List.getElem?_cons_zero, List.set_cons_succ, List.set_cons_zero, st_get, st_get0, st_set, st_set0, if_true, tidy_app, tidy_same, trim_pure, trim_pure0, Nat.zero_le, Nat.zero_add, Nat.reduceAdd, Nat.reduceSub, List.replicate, List.map_cons, List.map_nil, List.cons_append, List.nil_append, cx_cl, h, u]
theorem runs_m {ws : List Nat} {c : Int} {d : Nat} (hrun : ∀ (T : Sto) (ss : List D), (∀ s ∈ ss, okW s) → cl N 7 [tl a, tl b, .tup ss] T = .ok (sc (qL a b) a.length b.length ss) T) (hno : ∀ (T : Sto) (x : D), isT T .tup x = some false → cl N 7 [tl a, tl b, x] T = .ok .non T)
    (hbr : ∀ (T : Sto) (at_ k : Nat), 0 < (wD ws).length → d % (wD ws).length = at_ → (wD ws)[at_]? = some (.str (stepW k)) → k < 3 → cl N 16 [.tup (wD ws), .int (d : Nat)] T = .ok (.ref (T.length + 1)) (T ++ [.lst (wD ws), .lst (foundD T.length (wD ws) at_ k)]))
    (hw : walk (qL a b) a.length b.length (wD ws) 0 0 0 = some (a.length, b.length, c)) (hl : ws.length ≤ 120) :
    cl (N + 1) 17 [tl a, tl b, .tup [.tup (wD ws), .int c], .int (d : Nat)] S = .ok (.bl true) S := by
  have e0 : L.prog[17]? = some i__law_runs := rfl
  have hc := walk_cost hw
  have hwl : (wD ws).length = ws.length := List.length_map _
  have el : line = 16777216 := rfl
  have hc2 : c.natAbs.log2 < 1900 := by
    have h1 : c.natAbs ≤ 120 := by omega
    have h2 : c.natAbs.log2 ≤ c.natAbs := Nat.log2_le_self _
    omega
  have q1 := fun T => hrun T (wD ws) okW_wD
  rw [sc_of hw] at q1
  have q2 := fun T => hno T .non rfl
  have q3 : ∀ T, cl N 7 [tl a, tl b, .tup (wD ws ++ [.str [107, 101, 101, 112]])] T = .ok .non T := fun T => by
    rw [hrun T _ (fun s hs => by
      rcases List.mem_append.mp hs with h | h
      · exact okW_wD s h
      · rw [List.mem_singleton.mp h]
        exact okW_str)]
    have := more hw
    exact congrArg (fun r => Res.ok r T) this
  simp only [cl] at q1 q2 q3
  have p0 : pyAt [D.tup (wD ws), D.int c] 0 = some (.tup (wD ws)) := rfl
  have p1 : pyAt [D.tup (wD ws), D.int c] 1 = some (.int c) := rfl
  have rp := fun T => rep_int (S := T) hc2
  have u : ∀ T : Sto, D.und T.length (.bl false) = true := fun _ => rfl
  have l1 : (1 ≤ line) = True := by simp [line]
  have l2 : ((wD ws).length + 1 ≤ line) = True := by simp [line]; omega
  refine call_rt (d := .bl true) (S1 := if ws = [] then S else S ++ [.lst (wD ws), .lst (foundD S.length (wD ws) (d % (wD ws).length) ((step3 (ws.getD (d % (wD ws).length) 0)).choose))]) e0 rfl ?_ (by
    split
    · exact trim_pure0 rfl
    · exact trim_pure rfl)
  show evSs (cx N S) i__law_runs.body [some (tl a), some (tl b), some (.tup [.tup (wD ws), .int c]), some (.int (d : Nat)), none] S = _
  cases ws with
  | nil =>
    have x1 : dEq S (.tup (wD [])) (.tup []) = some true := rfl
    simp only [i__law_runs, l_var, l_var1, l_glo, l_glo1, l_cst, l_nil, l_cons, l_L1, l_L2, l_neg, l_neg1, l_not, l_not1, l_rev, l_rev1, l_lrg, l_lrg1, l_cdx, l_cdx1, l_isc, l_isc1, l_tdy, l_tdy1, l_bin, l_bin1, l_bin2, l_cmp, l_cmp1, l_cmp2, l_idx, l_idx1, l_idx2, l_chn, l_chn1, l_chn2, l_chn3, l_chn3f, l_chn4, l_ite, l_iteT, l_iteF, l_and, l_and1, l_and2, l_andG, l_andS, l_or, l_or1, l_or2, l_orG, l_orS, l_sli, l_sli1, l_sli2, l_sli3, l_tup, l_tup1, l_lst, l_lst1, l_call, l_call1, l_blt, l_blt1, l_mth, l_mth1, l_mth2, l_snil, l_scons, l_sqn, l_sqr, l_sqb, l_sqc, l_asg, l_asg1, l_asgs, l_asgs1, l_asgs2, l_asgs3, l_bT, l_b1, l_bn, l_bc, l_k0, l_k1, l_exp, l_exp1, l_ret, l_ret1, l_retN, l_brk, l_cnt, l_pss, l_if, l_ifT, l_ifF, l_sub, l_sub1, l_sub2, l_sub3, l_set, l_for, l_lc, l_seq, l_seqL, l_seqL1, l_seqT, l_seqS, l_fsh, l_rng1, l_rng11, l_enm, l_enmT, o_addI, o_subI, o_mulI, o_fdivI, o_modI, o_powI, o_addS, o_addT, o_addL, o_addL1, o_repL, o_repL1, o_repS, c_lt, c_le, c_gt, c_ge, c_eq, c_eq1, c_ne, c_ne1, c_in, c_nin, e_II, e_SS, d_II, d_SS, n_int, n_bl, x_tup, x_at, x_atS, x_str, x_lst, x_lst1, b_int, b_lenT, b_lenS, b_lenL, b_lenL1, b_tupT, b_tupL, b_tupL1, b_lstT, b_lstL, b_lstL1, b_min, b_max, b_isi, b_isi1, b_repr, m_app, m_app1, m_appOk, m_popOk, m_lstB, v_set, v_set1, t_op, t_lop, i_N, i_nN, i_T, i_nT, i_F, i_nF, List.getElem?_cons_succ, List.getElem?_cons_zero, List.set_cons_succ, List.set_cons_zero, st_get, st_get0, st_set, st_set0, if_true, tidy_app, tidy_same, trim_pure, trim_pure0, Nat.zero_le, Nat.zero_add, Nat.reduceAdd, Nat.reduceSub, List.replicate, List.map_cons, List.map_nil, List.cons_append, List.nil_append, cx_cl, q1, q2, q3, p0, p1, rp, u, l1, l2, x1, List.length_cons, List.length_nil, decide_true, Bool.not_true]
  | cons k0 ws' =>
    generalize hW : k0 :: ws' = ws at *
    have hne : ws ≠ [] := by rw [← hW]; exact List.cons_ne_nil _ _
    have h0 : 0 < (wD ws).length := by rw [hwl, ← hW]; exact Nat.succ_pos _
    have hat : d % (wD ws).length < ws.length := by rw [hwl] at h0 ⊢; exact Nat.mod_lt _ h0
    rw [if_neg hne]
    have x1 : dEq S (.tup (wD ws)) (.tup []) = some false := by
      rw [← hW]
      exact dEq_ne
    have hks := (step3 (ws.getD (d % (wD ws).length) 0)).choose_spec
    generalize (step3 (ws.getD (d % (wD ws).length) 0)).choose = k at hks ⊢
    have hget : (wD ws)[d % (wD ws).length]? = some (.str (stepW k)) := by
      unfold wD
      rw [List.getElem?_map, List.getElem?_eq_getElem (by simpa [wD] using hat), ← hks.2]
      rw [List.getD_eq_getElem?_getD, List.getElem?_eq_getElem (by simpa [wD] using hat)]
      rfl
    have hb := hbr S _ k h0 rfl hget hks.1
    simp only [cl] at hb
    generalize hA : d % (wD ws).length = at_ at *
    have fr : freshOf S (.ok (.ref (S.length + 1)) (S ++ [.lst (wD ws), .lst (foundD S.length (wD ws) at_ k)])) = .ok (foundD S.length (wD ws) at_ k) [(S.length + 1, .lst (foundD S.length (wD ws) at_ k))] (S ++ [.lst (wD ws), .lst (foundD S.length (wD ws) at_ k)]) :=
      fresh_keep (k := 1) rfl (by simp [foundD, found0, D.unds, D.und])
    have hwk : wOk (S ++ [.lst (wD ws), .lst (foundD S.length (wD ws) at_ k)]) [(S.length + 1, .lst (foundD S.length (wD ws) at_ k))] = true := by
      simp [wOk, st_get]
    obtain ⟨ρ', S', r1, ⟨y, r2⟩, r3⟩ := forL_ind (w := [(S.length + 1, .lst (foundD S.length (wD ws) at_ k))]) (bd := tgF true [4]) (ks := [4]) (body := bodyF (cx N S) b0__law_runs)
      (fun _ ρ T => (∃ x, ρ = [some (tl a), some (tl b), some (.tup [.tup (wD ws), .int c]), some (.int (d : Nat)), x]) ∧ T = S ++ [.lst (wD ws), .lst (foundD S.length (wD ws) at_ k)]) (xs := foundD S.length (wD ws) at_ k)
      (ρ := [some (tl a), some (tl b), some (.tup [.tup (wD ws), .int c]), some (.int (d : Nat)), none]) (S := S ++ [.lst (wD ws), .lst (foundD S.length (wD ws) at_ k)]) ⟨⟨_, rfl⟩, rfl⟩ (fun _ _ _ h => by rw [h.2]; exact hwk) (fun j x ρ T hx h => by
        obtain ⟨⟨y, rfl⟩, rfl⟩ := h
        have hm := List.mem_of_getElem? hx
        refine ⟨_, _, _, rfl, .inl (runs_body ?_), ⟨_, rfl⟩, rfl⟩
        have okT : ∀ i, ∀ s ∈ (wD ws).take i, okW s := fun i s hs => okW_wD s (List.mem_of_mem_take hs)
        have okD : ∀ i, ∀ s ∈ (wD ws).drop i, okW s := fun i s hs => okW_wD s (List.mem_of_mem_drop hs)
        rcases List.mem_append.mp hm with h | h
        · simp only [found0, List.mem_cons, List.not_mem_nil, or_false] at h
          rcases h with h | h | h
          · rw [h, hrun _ _ (fun s hs => by
              rcases List.mem_append.mp hs with h | h
              · exact okT _ s h
              · exact okD _ s h), left_out hw hget]
          · rw [h, hrun _ _ (fun s hs => by
              rcases List.mem_append.mp hs with h | h
              · exact okT _ s h
              · exact okD _ s h), twice hw hget]
          · rw [h]
            exact hno _ _ rfl
        · obtain ⟨z, hz, rfl⟩ := List.mem_map.mp h
          unfold putAt
          rw [hrun _ _ (fun s hs => by
              rcases List.mem_append.mp hs with h | h
              · rcases List.mem_append.mp h with h | h
                · exact okT _ s h
                · rw [List.mem_singleton.mp h]; exact okW_wrongs z hz
              · exact okD _ s h), changed hw hget hks.1 hz])
    rw [r2, r3] at r1
    simp only [i__law_runs, l_var, l_var1, l_glo, l_glo1, l_cst, l_nil, l_cons, l_L1, l_L2, l_neg, l_neg1, l_not, l_not1, l_rev, l_rev1, l_lrg, l_lrg1, l_cdx, l_cdx1, l_isc, l_isc1, l_tdy, l_tdy1, l_bin, l_bin1, l_bin2, l_cmp, l_cmp1, l_cmp2, l_idx, l_idx1, l_idx2, l_chn, l_chn1, l_chn2, l_chn3, l_chn3f, l_chn4, l_ite, l_iteT, l_iteF, l_and, l_and1, l_and2, l_andG, l_andS, l_or, l_or1, l_or2, l_orG, l_orS, l_sli, l_sli1, l_sli2, l_sli3, l_tup, l_tup1, l_lst, l_lst1, l_call, l_call1, l_blt, l_blt1, l_mth, l_mth1, l_mth2, l_snil, l_scons, l_sqn, l_sqr, l_sqb, l_sqc, l_asg, l_asg1, l_asgs, l_asgs1, l_asgs2, l_asgs3, l_bT, l_b1, l_bn, l_bc, l_k0, l_k1, l_exp, l_exp1, l_ret, l_ret1, l_retN, l_brk, l_cnt, l_pss, l_if, l_ifT, l_ifF, l_sub, l_sub1, l_sub2, l_sub3, l_set, l_for, l_lc, l_seq, l_seqL, l_seqL1, l_seqT, l_seqS, l_fsh, l_rng1, l_rng11, l_enm, l_enmT, o_addI, o_subI, o_mulI, o_fdivI, o_modI, o_powI, o_addS, o_addT, o_addL, o_addL1, o_repL, o_repL1, o_repS, c_lt, c_le, c_gt, c_ge, c_eq, c_eq1, c_ne, c_ne1, c_in, c_nin, e_II, e_SS, d_II, d_SS, n_int, n_bl, x_tup, x_at, x_atS, x_str, x_lst, x_lst1, b_int, b_lenT, b_lenS, b_lenL, b_lenL1, b_tupT, b_tupL, b_tupL1, b_lstT, b_lstL, b_lstL1, b_min, b_max, b_isi, b_isi1, b_repr, m_app, m_app1, m_appOk, m_popOk, m_lstB, v_set, v_set1, t_op, t_lop, i_N, i_nN, i_T, i_nT, i_F, i_nF, List.getElem?_cons_succ, List.getElem?_cons_zero, List.set_cons_succ, List.set_cons_zero, st_get, st_get0, st_set, st_set0, if_true, tidy_app, tidy_same, trim_pure, trim_pure0, Nat.zero_le, Nat.zero_add, Nat.reduceAdd, Nat.reduceSub, List.replicate, List.map_cons, List.map_nil, List.cons_append, List.nil_append, cx_cl, q1, q2, q3, p0, p1, rp, u, l1, l2, x1, hb, fr, l_for1, r1, List.length_cons, List.length_nil, decide_true, Bool.not_true]
end
end Lw

set_option Elab.async false
set_option linter.all false
set_option autoImplicit false
set_option maxRecDepth 100000
set_option maxHeartbeats 4000000
/-! Kw: the plain law k85: _law_near. -/
namespace Lw
open Ev
def dueW (b : Bool) : D := if b then .tup [.tup [.str [107, 101, 101, 112]], .int 0] else .tup [.tup [.str [100, 114, 111, 112], .str [116, 97, 107, 101]], .int 2]
def tabW (b : Bool) : D := if b then .tup [.tup [.int 0, .int 1], .tup [.int 1, .int 0]] else .tup [.tup [.int 0, .int 1], .tup [.int 1, .int 2]]
def keptW (b : Bool) : D := if b then .int 0 else .non
theorem rep_cl {d : D} {S : Sto} (h1 : rsv S d = d) (h2 : repOk d = true) : bltop .repr [d] S = .ok (.str (shown d)) S := by
  rw [b_repr, h1, h2, if_pos rfl]
theorem qL1 {x y : List Nat} : ∀ i j, i < 1 → j < 1 → qL [x] [y] i j = (fun _ _ => decide (x = y)) i j := fun i j hi hj => by
  have e1 : i = 0 := by omega
  have e2 : j = 0 := by omega
  subst e1 e2
  rfl
theorem least1 {x y : List Nat} : leastD (Fq (qL [x].reverse [y].reverse) 1 1) (qL [x] [y]) 1 1 = dueW (decide (x = y)) := by
  rw [leastD_congr (Fq_congr (q := qL [x].reverse [y].reverse) (qL1 (x := x) (y := y))) qL1]
  cases decide (x = y) <;> rfl
theorem tab1 {x y : List Nat} : tabD (qL [x] [y]) 1 1 = tabW (decide (x = y)) := by
  rw [tabD_congr qL1]
  cases decide (x = y) <;> rfl
theorem sc1 {x y : List Nat} : sc (qL [x] [y]) 1 1 [.str [107, 101, 101, 112]] = keptW (decide (x = y)) := by
  rw [sc_congr qL1]
  cases decide (x = y) <;> rfl
section
variable {N : Nat} {S : Sto}
theorem rep_due {b : Bool} : bltop .repr [dueW b] S = .ok (.str (shown (dueW b))) S := rep_cl (by cases b <;> rfl) (by cases b <;> decide)
theorem rep_tab {b : Bool} : bltop .repr [tabW b] S = .ok (.str (shown (tabW b))) S := rep_cl (by cases b <;> rfl) (by cases b <;> decide)
theorem rep_kept {b : Bool} : bltop .repr [keptW b] S = .ok (.str (shown (keptW b))) S := rep_cl (by cases b <;> rfl) (by cases b <;> decide)
theorem near_body {x y : List Nat} {p l : D} {T : Sto}
    (h1 : cl N 5 [.tup [.str x], .tup [.str y]] T = .ok (dueW (decide (x = y))) T)
    (h2 : cl N 4 [.tup [.str x], .tup [.str y]] T = .ok (tabW (decide (x = y))) T)
    (h3 : cl N 7 [.tup [.str x], .tup [.str y], .tup [.str [107, 101, 101, 112]]] T = .ok (keptW (decide (x = y))) T) :
    evSs (cx N S) b0__law_near [some p, some l, some (.str x), some (.str y), none, none, none, none] T = .nx [some p, some l, some (.str x), some (.str y), none, some (dueW (decide (x = y))), some (tabW (decide (x = y))), some (keptW (decide (x = y)))] T := by
  simp only [cl] at h1 h2 h3
  have u : ∀ n, D.und n (.bl false) = true := fun _ => rfl
  have l1 : (1 ≤ line) = True := by simp [line]
  have l2 : (2 ≤ line) = True := by simp [line]
  by_cases hxy : x = y
  · have e : decide (x = y) = true := decide_eq_true hxy
    rw [e] at h1 h2 h3 ⊢
    have r1 := rep_due (b := true) (S := T)
    have r2 := rep_tab (b := true) (S := T)
    have r3 := rep_kept (b := true) (S := T)
    simp only [dueW, tabW, keptW, if_true] at h1 h2 h3 r1 r2 r3 ⊢
    simp only [b0__law_near, l_var, l_var1, l_glo, l_glo1, l_cst, l_nil, l_cons, l_L1, l_L2, l_neg, l_neg1, l_not, l_not1, l_rev, l_rev1, l_lrg, l_lrg1, l_cdx, l_cdx1, l_isc, l_isc1, l_tdy, l_tdy1, l_bin, l_bin1, l_bin2, l_cmp, l_cmp1, l_cmp2, l_idx, l_idx1, l_idx2, l_chn, l_chn1, l_chn2, l_chn3, l_chn3f, l_chn4, l_ite, l_iteT, l_iteF, l_and, l_and1, l_and2, l_andG, l_andS, l_or, l_or1, l_or2, l_orG, l_orS, l_sli, l_sli1, l_sli2, l_sli3, l_tup, l_tup1, l_lst, l_lst1, l_call, l_call1, l_blt, l_blt1, l_mth, l_mth1, l_mth2, l_snil, l_scons, l_sqn, l_sqr, l_sqb, l_sqc, l_asg, l_asg1, l_asgs, l_asgs1, l_asgs2, l_asgs3, l_bT, l_b1, l_bn, l_bc, l_k0, l_k1, l_exp, l_exp1, l_ret, l_ret1, l_retN, l_brk, l_cnt, l_pss, l_if, l_ifT, l_ifF, l_sub, l_sub1, l_sub2, l_sub3, l_set, l_for, l_lc, l_seq, l_seqL, l_seqL1, l_seqT, l_seqS, l_fsh, l_rng1, l_rng11, l_enm, l_enmT, o_addI, o_subI, o_mulI, o_fdivI, o_modI, o_powI, o_addS, o_addT, o_addL, o_addL1, o_repL, o_repL1, o_repS, c_lt, c_le, c_gt, c_ge, c_eq, c_eq1, c_ne, c_ne1, c_in, c_nin, e_II, e_SS, d_II, d_SS, n_int, n_bl, x_tup, x_at, x_atS, x_str, x_lst, x_lst1, b_int, b_lenT, b_lenS, b_lenL, b_lenL1, b_tupT, b_tupL, b_tupL1, b_lstT, b_lstL, b_lstL1, b_min, b_max, b_isi, b_isi1, b_repr, m_app, m_app1, m_appOk, m_popOk, m_lstB, v_set, v_set1, t_op, t_lop, i_N, i_nN, i_T, i_nT, i_F, i_nF, List.getElem?_cons_succ, List.getElem?_cons_zero, List.set_cons_succ, List.set_cons_zero, st_get, st_get0, st_set, st_set0, if_true, tidy_app, tidy_same, trim_pure, trim_pure0, Nat.zero_le, Nat.zero_add, Nat.reduceAdd, Nat.reduceSub, List.replicate, List.map_cons, List.map_nil, List.cons_append, List.nil_append, cx_cl, h1, h2, h3, r1, r2, r3, e, u, l1, l2, List.length_cons, List.length_nil, decide_true, Bool.not_true]
  · have e : decide (x = y) = false := decide_eq_false hxy
    rw [e] at h1 h2 h3 ⊢
    have r1 := rep_due (b := false) (S := T)
    have r2 := rep_tab (b := false) (S := T)
    have r3 := rep_kept (b := false) (S := T)
    simp only [dueW, tabW, keptW, Bool.false_eq_true, if_false] at h1 h2 h3 r1 r2 r3 ⊢
    simp only [b0__law_near, l_var, l_var1, l_glo, l_glo1, l_cst, l_nil, l_cons, l_L1, l_L2, l_neg, l_neg1, l_not, l_not1, l_rev, l_rev1, l_lrg, l_lrg1, l_cdx, l_cdx1, l_isc, l_isc1, l_tdy, l_tdy1, l_bin, l_bin1, l_bin2, l_cmp, l_cmp1, l_cmp2, l_idx, l_idx1, l_idx2, l_chn, l_chn1, l_chn2, l_chn3, l_chn3f, l_chn4, l_ite, l_iteT, l_iteF, l_and, l_and1, l_and2, l_andG, l_andS, l_or, l_or1, l_or2, l_orG, l_orS, l_sli, l_sli1, l_sli2, l_sli3, l_tup, l_tup1, l_lst, l_lst1, l_call, l_call1, l_blt, l_blt1, l_mth, l_mth1, l_mth2, l_snil, l_scons, l_sqn, l_sqr, l_sqb, l_sqc, l_asg, l_asg1, l_asgs, l_asgs1, l_asgs2, l_asgs3, l_bT, l_b1, l_bn, l_bc, l_k0, l_k1, l_exp, l_exp1, l_ret, l_ret1, l_retN, l_brk, l_cnt, l_pss, l_if, l_ifT, l_ifF, l_sub, l_sub1, l_sub2, l_sub3, l_set, l_for, l_lc, l_seq, l_seqL, l_seqL1, l_seqT, l_seqS, l_fsh, l_rng1, l_rng11, l_enm, l_enmT, o_addI, o_subI, o_mulI, o_fdivI, o_modI, o_powI, o_addS, o_addT, o_addL, o_addL1, o_repL, o_repL1, o_repS, c_lt, c_le, c_gt, c_ge, c_eq, c_eq1, c_ne, c_ne1, c_in, c_nin, e_II, e_SS, d_II, d_SS, n_int, n_bl, x_tup, x_at, x_atS, x_str, x_lst, x_lst1, b_int, b_lenT, b_lenS, b_lenL, b_lenL1, b_tupT, b_tupL, b_tupL1, b_lstT, b_lstL, b_lstL1, b_min, b_max, b_isi, b_isi1, b_repr, m_app, m_app1, m_appOk, m_popOk, m_lstB, v_set, v_set1, t_op, t_lop, i_N, i_nN, i_T, i_nT, i_F, i_nF, List.getElem?_cons_succ, List.getElem?_cons_zero, List.set_cons_succ, List.set_cons_zero, st_get, st_get0, st_set, st_set0, if_true, tidy_app, tidy_same, trim_pure, trim_pure0, Nat.zero_le, Nat.zero_add, Nat.reduceAdd, Nat.reduceSub, List.replicate, List.map_cons, List.map_nil, List.cons_append, List.nil_append, cx_cl, h1, h2, h3, r1, r2, r3, e, u, l1, l2, List.length_cons, List.length_nil, decide_true, Bool.not_true]
theorem near_m {P : List (List Nat)} {pr : Nat} (hp : S[pr]? = some (.lst (P.map D.str))) (hl : P.length ≤ 100)
    (h1 : ∀ x ∈ P, ∀ y ∈ P, ∀ T, cl N 5 [.tup [.str x], .tup [.str y]] T = .ok (dueW (decide (x = y))) T)
    (h2 : ∀ x ∈ P, ∀ y ∈ P, ∀ T, cl N 4 [.tup [.str x], .tup [.str y]] T = .ok (tabW (decide (x = y))) T)
    (h3 : ∀ x ∈ P, ∀ y ∈ P, ∀ T, cl N 7 [.tup [.str x], .tup [.str y], .tup [.str [107, 101, 101, 112]]] T = .ok (keptW (decide (x = y))) T)
    (hs : ∀ x ∈ P, x.length ≤ 120) :
    cl (N + 1) 18 [.ref pr] S = .ok (.bl true) S := by
  have e0 : L.prog[18]? = some i__law_near := rfl
  have el : line = 16777216 := rfl
  have hw0 : wOk S [(pr, .lst (P.map D.str))] = true := by simp [wOk, hp]
  have hL : lcL [(pr, .lst (P.map D.str))] (fun d => bindTg true [4] d (kill [4] [some (.ref pr), none, none, none, none, none, none, none])) (fun ρ T => evE (cx N S) (.cmp .eq (.blt .len (.cons (.var 4) .nil)) (.cst (.int 120))) ρ T) (fun ρ T => evE (cx N S) (.var 4) ρ T) (P.map D.str) S =
      .ok (((P.map D.str).filter fun (d : D) => match d with
        | .str s => decide (((s.length : Nat) : Int) = 120)
        | _ => false).map fun d => d) S := by
    refine lcL_pure hw0 fun x hx => ?_
    obtain ⟨s, hs', rfl⟩ := List.mem_map.mp hx
    have := hs s hs'
    have ll : (s.length ≤ line) = True := by simp; omega
    refine ⟨_, rfl, ?_, fun _ => ?_⟩
    · show evE _ _ [some (.ref pr), none, none, none, some (.str s), none, none, none] S = _
      simp only [l_var, l_var1, l_glo, l_glo1, l_cst, l_nil, l_cons, l_L1, l_L2, l_neg, l_neg1, l_not, l_not1, l_rev, l_rev1, l_lrg, l_lrg1, l_cdx, l_cdx1, l_isc, l_isc1, l_tdy, l_tdy1, l_bin, l_bin1, l_bin2, l_cmp, l_cmp1, l_cmp2, l_idx, l_idx1, l_idx2, l_chn, l_chn1, l_chn2, l_chn3, l_chn3f, l_chn4, l_ite, l_iteT, l_iteF, l_and, l_and1, l_and2, l_andG, l_andS, l_or, l_or1, l_or2, l_orG, l_orS, l_sli, l_sli1, l_sli2, l_sli3, l_tup, l_tup1, l_lst, l_lst1, l_call, l_call1, l_blt, l_blt1, l_mth, l_mth1, l_mth2, l_snil, l_scons, l_sqn, l_sqr, l_sqb, l_sqc, l_asg, l_asg1, l_asgs, l_asgs1, l_asgs2, l_asgs3, l_bT, l_b1, l_bn, l_bc, l_k0, l_k1, l_exp, l_exp1, l_ret, l_ret1, l_retN, l_brk, l_cnt, l_pss, l_if, l_ifT, l_ifF, l_sub, l_sub1, l_sub2, l_sub3, l_set, l_for, l_lc, l_seq, l_seqL, l_seqL1, l_seqT, l_seqS, l_fsh, l_rng1, l_rng11, l_enm, l_enmT, o_addI, o_subI, o_mulI, o_fdivI, o_modI, o_powI, o_addS, o_addT, o_addL, o_addL1, o_repL, o_repL1, o_repS, c_lt, c_le, c_gt, c_ge, c_eq, c_eq1, c_ne, c_ne1, c_in, c_nin, e_II, e_SS, d_II, d_SS, n_int, n_bl, x_tup, x_at, x_atS, x_str, x_lst, x_lst1, b_int, b_lenT, b_lenS, b_lenL, b_lenL1, b_tupT, b_tupL, b_tupL1, b_lstT, b_lstL, b_lstL1, b_min, b_max, b_isi, b_isi1, b_repr, m_app, m_app1, m_appOk, m_popOk, m_lstB, v_set, v_set1, t_op, t_lop, i_N, i_nN, i_T, i_nT, i_F, i_nF, List.getElem?_cons_succ, List.getElem?_cons_zero, List.set_cons_succ, List.set_cons_zero, st_get, st_get0, st_set, st_set0, if_true, tidy_app, tidy_same, trim_pure, trim_pure0, Nat.zero_le, Nat.zero_add, Nat.reduceAdd, Nat.reduceSub, List.replicate, List.map_cons, List.map_nil, List.cons_append, List.nil_append, ll]
    · show evE _ _ [some (.ref pr), none, none, none, some (.str s), none, none, none] S = _
      simp only [l_var, l_var1, l_glo, l_glo1, l_cst, l_nil, l_cons, l_L1, l_L2, l_neg, l_neg1, l_not, l_not1, l_rev, l_rev1, l_lrg, l_lrg1, l_cdx, l_cdx1, l_isc, l_isc1, l_tdy, l_tdy1, l_bin, l_bin1, l_bin2, l_cmp, l_cmp1, l_cmp2, l_idx, l_idx1, l_idx2, l_chn, l_chn1, l_chn2, l_chn3, l_chn3f, l_chn4, l_ite, l_iteT, l_iteF, l_and, l_and1, l_and2, l_andG, l_andS, l_or, l_or1, l_or2, l_orG, l_orS, l_sli, l_sli1, l_sli2, l_sli3, l_tup, l_tup1, l_lst, l_lst1, l_call, l_call1, l_blt, l_blt1, l_mth, l_mth1, l_mth2, l_snil, l_scons, l_sqn, l_sqr, l_sqb, l_sqc, l_asg, l_asg1, l_asgs, l_asgs1, l_asgs2, l_asgs3, l_bT, l_b1, l_bn, l_bc, l_k0, l_k1, l_exp, l_exp1, l_ret, l_ret1, l_retN, l_brk, l_cnt, l_pss, l_if, l_ifT, l_ifF, l_sub, l_sub1, l_sub2, l_sub3, l_set, l_for, l_lc, l_seq, l_seqL, l_seqL1, l_seqT, l_seqS, l_fsh, l_rng1, l_rng11, l_enm, l_enmT, o_addI, o_subI, o_mulI, o_fdivI, o_modI, o_powI, o_addS, o_addT, o_addL, o_addL1, o_repL, o_repL1, o_repS, c_lt, c_le, c_gt, c_ge, c_eq, c_eq1, c_ne, c_ne1, c_in, c_nin, e_II, e_SS, d_II, d_SS, n_int, n_bl, x_tup, x_at, x_atS, x_str, x_lst, x_lst1, b_int, b_lenT, b_lenS, b_lenL, b_lenL1, b_tupT, b_tupL, b_tupL1, b_lstT, b_lstL, b_lstL1, b_min, b_max, b_isi, b_isi1, b_repr, m_app, m_app1, m_appOk, m_popOk, m_lstB, v_set, v_set1, t_op, t_lop, i_N, i_nN, i_T, i_nT, i_F, i_nF, List.getElem?_cons_succ, List.getElem?_cons_zero, List.set_cons_succ, List.set_cons_zero, st_get, st_get0, st_set, st_set0, if_true, tidy_app, tidy_same, trim_pure, trim_pure0, Nat.zero_le, Nat.zero_add, Nat.reduceAdd, Nat.reduceSub, List.replicate, List.map_cons, List.map_nil, List.cons_append, List.nil_append]
  rw [List.map_id'] at hL
  obtain ⟨Q, hQ, hQP⟩ : ∃ Q : List (List Nat), ((P.map D.str).filter fun (d : D) => match d with
        | .str s => decide (((s.length : Nat) : Int) = 120)
        | _ => false) = Q.map D.str ∧ ∀ x ∈ Q, x ∈ P := by
    refine ⟨P.filter fun s => decide (((s.length : Nat) : Int) = 120), ?_, fun x hx => (List.mem_filter.mp hx).1⟩
    rw [List.filter_map]
    rfl
  rw [hQ] at hL
  have hlc := l_lc1 (C := cx N S) (ρ := [some (.ref pr), none, none, none, none, none, none, none]) (own := [4]) (one := true) (tg := [4]) (by rw [List.length_map]; omega) hL
  rw [st_alloc0] at hlc
  have hw : wOk (S ++ [.lst (Q.map D.str)]) [(S.length, .lst (Q.map D.str))] = true := by simp [wOk, st_get0]
  have inner : ∀ x ∈ Q, ∀ (o3 o5 o6 o7 : Option D), ∃ o3' o5' o6' o7', forL [(S.length, .lst (Q.map D.str))] (tgF true [3]) [3, 5, 6, 7] (bodyF (cx N S) b0__law_near) (Q.map D.str) [some (.ref pr), some (.ref S.length), some (.str x), o3, none, o5, o6, o7] (S ++ [.lst (Q.map D.str)]) =
      .nx (kill [3, 5, 6, 7] [some (.ref pr), some (.ref S.length), some (.str x), o3', none, o5', o6', o7']) (S ++ [.lst (Q.map D.str)]) := by
    intro x hx o3 o5 o6 o7
    obtain ⟨ρ', S', q1, ⟨y3, y5, y6, y7, q2⟩, q3⟩ := forL_ind (w := [(S.length, .lst (Q.map D.str))]) (bd := tgF true [3]) (ks := [3, 5, 6, 7]) (body := bodyF (cx N S) b0__law_near)
      (fun _ ρ T => (∃ o3 o5 o6 o7, ρ = [some (.ref pr), some (.ref S.length), some (.str x), o3, none, o5, o6, o7]) ∧ T = S ++ [.lst (Q.map D.str)]) (xs := Q.map D.str)
      (ρ := [some (.ref pr), some (.ref S.length), some (.str x), o3, none, o5, o6, o7]) (S := S ++ [.lst (Q.map D.str)]) ⟨⟨_, _, _, _, rfl⟩, rfl⟩ (fun _ _ _ h => by rw [h.2]; exact hw) (fun j z ρ T hz h => by
        obtain ⟨⟨y3, y5, y6, y7, rfl⟩, rfl⟩ := h
        obtain ⟨y, hy, rfl⟩ := List.mem_map.mp (List.mem_of_getElem? hz)
        exact ⟨_, _, _, rfl, .inl (near_body (h1 x (hQP x hx) y (hQP y hy) _) (h2 x (hQP x hx) y (hQP y hy) _) (h3 x (hQP x hx) y (hQP y hy) _)), ⟨_, _, _, _, rfl⟩, rfl⟩)
    exact ⟨y3, y5, y6, y7, by rw [q1, q2, q3]⟩
  obtain ⟨ρ', S', q1, ⟨y2, y3, y5, y6, y7, q2⟩, q3⟩ := forL_ind (w := [(S.length, .lst (Q.map D.str))]) (bd := tgF true [2]) (ks := [2, 3, 5, 6, 7]) (body := bodyF (cx N S) b1__law_near)
    (fun _ ρ T => (∃ o2 o3 o5 o6 o7, ρ = [some (.ref pr), some (.ref S.length), o2, o3, none, o5, o6, o7]) ∧ T = S ++ [.lst (Q.map D.str)]) (xs := Q.map D.str)
    (ρ := [some (.ref pr), some (.ref S.length), none, none, none, none, none, none]) (S := S ++ [.lst (Q.map D.str)]) ⟨⟨_, _, _, _, _, rfl⟩, rfl⟩ (fun _ _ _ h => by rw [h.2]; exact hw) (fun j z ρ T hz h => by
      obtain ⟨⟨y2, y3, y5, y6, y7, rfl⟩, rfl⟩ := h
      obtain ⟨x, hx, rfl⟩ := List.mem_map.mp (List.mem_of_getElem? hz)
      obtain ⟨z3, z5, z6, z7, hin⟩ := inner x hx none none none none
      refine ⟨_, [some (.ref pr), some (.ref S.length), some (.str x), none, none, none, none, none], _, rfl, .inl ?_, ⟨_, _, _, _, _, rfl⟩, rfl⟩
      show evSs (cx N S) b1__law_near [some (.ref pr), some (.ref S.length), some (.str x), none, none, none, none, none] _ = _
      simp only [b1__law_near, l_var, l_var1, l_glo, l_glo1, l_cst, l_nil, l_cons, l_L1, l_L2, l_neg, l_neg1, l_not, l_not1, l_rev, l_rev1, l_lrg, l_lrg1, l_cdx, l_cdx1, l_isc, l_isc1, l_tdy, l_tdy1, l_bin, l_bin1, l_bin2, l_cmp, l_cmp1, l_cmp2, l_idx, l_idx1, l_idx2, l_chn, l_chn1, l_chn2, l_chn3, l_chn3f, l_chn4, l_ite, l_iteT, l_iteF, l_and, l_and1, l_and2, l_andG, l_andS, l_or, l_or1, l_or2, l_orG, l_orS, l_sli, l_sli1, l_sli2, l_sli3, l_tup, l_tup1, l_lst, l_lst1, l_call, l_call1, l_blt, l_blt1, l_mth, l_mth1, l_mth2, l_snil, l_scons, l_sqn, l_sqr, l_sqb, l_sqc, l_asg, l_asg1, l_asgs, l_asgs1, l_asgs2, l_asgs3, l_bT, l_b1, l_bn, l_bc, l_k0, l_k1, l_exp, l_exp1, l_ret, l_ret1, l_retN, l_brk, l_cnt, l_pss, l_if, l_ifT, l_ifF, l_sub, l_sub1, l_sub2, l_sub3, l_set, l_for, l_lc, l_seq, l_seqL, l_seqL1, l_seqT, l_seqS, l_fsh, l_rng1, l_rng11, l_enm, l_enmT, o_addI, o_subI, o_mulI, o_fdivI, o_modI, o_powI, o_addS, o_addT, o_addL, o_addL1, o_repL, o_repL1, o_repS, c_lt, c_le, c_gt, c_ge, c_eq, c_eq1, c_ne, c_ne1, c_in, c_nin, e_II, e_SS, d_II, d_SS, n_int, n_bl, x_tup, x_at, x_atS, x_str, x_lst, x_lst1, b_int, b_lenT, b_lenS, b_lenL, b_lenL1, b_tupT, b_tupL, b_tupL1, b_lstT, b_lstL, b_lstL1, b_min, b_max, b_isi, b_isi1, b_repr, m_app, m_app1, m_appOk, m_popOk, m_lstB, v_set, v_set1, t_op, t_lop, i_N, i_nN, i_T, i_nT, i_F, i_nF, List.getElem?_cons_succ, List.getElem?_cons_zero, List.set_cons_succ, List.set_cons_zero, st_get, st_get0, st_set, st_set0, if_true, tidy_app, tidy_same, trim_pure, trim_pure0, Nat.zero_le, Nat.zero_add, Nat.reduceAdd, Nat.reduceSub, List.replicate, List.map_cons, List.map_nil, List.cons_append, List.nil_append, l_for1, hin])
  subst q3
  rw [q2] at q1
  refine call_rt (d := .bl true) (S1 := S ++ [.lst (Q.map D.str)]) e0 rfl ?_ (trim_pure rfl)
  show evSs (cx N S) i__law_near.body [some (.ref pr), none, none, none, none, none, none, none] S = _
  simp only [i__law_near, l_var, l_var1, l_glo, l_glo1, l_cst, l_nil, l_cons, l_L1, l_L2, l_neg, l_neg1, l_not, l_not1, l_rev, l_rev1, l_lrg, l_lrg1, l_cdx, l_cdx1, l_isc, l_isc1, l_tdy, l_tdy1, l_bin, l_bin1, l_bin2, l_cmp, l_cmp1, l_cmp2, l_idx, l_idx1, l_idx2, l_chn, l_chn1, l_chn2, l_chn3, l_chn3f, l_chn4, l_ite, l_iteT, l_iteF, l_and, l_and1, l_and2, l_andG, l_andS, l_or, l_or1, l_or2, l_orG, l_orS, l_sli, l_sli1, l_sli2, l_sli3, l_tup, l_tup1, l_lst, l_lst1, l_call, l_call1, l_blt, l_blt1, l_mth, l_mth1, l_mth2, l_snil, l_scons, l_sqn, l_sqr, l_sqb, l_sqc, l_asg, l_asg1, l_asgs, l_asgs1, l_asgs2, l_asgs3, l_bT, l_b1, l_bn, l_bc, l_k0, l_k1, l_exp, l_exp1, l_ret, l_ret1, l_retN, l_brk, l_cnt, l_pss, l_if, l_ifT, l_ifF, l_sub, l_sub1, l_sub2, l_sub3, l_set, l_for, l_lc, l_seq, l_seqL, l_seqL1, l_seqT, l_seqS, l_fsh, l_rng1, l_rng11, l_enm, l_enmT, o_addI, o_subI, o_mulI, o_fdivI, o_modI, o_powI, o_addS, o_addT, o_addL, o_addL1, o_repL, o_repL1, o_repS, c_lt, c_le, c_gt, c_ge, c_eq, c_eq1, c_ne, c_ne1, c_in, c_nin, e_II, e_SS, d_II, d_SS, n_int, n_bl, x_tup, x_at, x_atS, x_str, x_lst, x_lst1, b_int, b_lenT, b_lenS, b_lenL, b_lenL1, b_tupT, b_tupL, b_tupL1, b_lstT, b_lstL, b_lstL1, b_min, b_max, b_isi, b_isi1, b_repr, m_app, m_app1, m_appOk, m_popOk, m_lstB, v_set, v_set1, t_op, t_lop, i_N, i_nN, i_T, i_nT, i_F, i_nF, List.getElem?_cons_succ, List.getElem?_cons_zero, List.set_cons_succ, List.set_cons_zero, st_get, st_get0, st_set, st_set0, if_true, tidy_app, tidy_same, trim_pure, trim_pure0, Nat.zero_le, Nat.zero_add, Nat.reduceAdd, Nat.reduceSub, List.replicate, List.map_cons, List.map_nil, List.cons_append, List.nil_append, hp, hlc, l_for1, q1]
end
end Lw

set_option Elab.async false
set_option linter.all false
set_option autoImplicit false
set_option maxRecDepth 100000
set_option maxHeartbeats 4000000
/-! Kx: the plain law k85: what repr needs; the draws; calls at any depth. -/
namespace Lw
open Ev
theorem Er_bd {q : Nat → Nat → Bool} : ∀ i j, 0 ≤ Er q i j ∧ Er q i j ≤ (i : Int) + (j : Int)
  | 0, j => by
    show 0 ≤ (j : Int) ∧ (j : Int) ≤ ((0 : Nat) : Int) + (j : Int)
    omega
  | i + 1, 0 => by
    rw [Er0]
    omega
  | i + 1, j + 1 => by
    rw [Er_in]
    have h1 := Er_bd (q := q) i (j + 1)
    have h2 := Er_bd (q := q) (i + 1) j
    have h3 := Er_bd (q := q) i j
    have m1 := mn_le (x := Er q i (j + 1)) (y := Er q (i + 1) j)
    have m2 := mn_le (x := 1 + mn (Er q i (j + 1)) (Er q (i + 1) j)) (y := Er q i j)
    split <;> omega
theorem rep_tabD {q : Nat → Nat → Bool} {m n : Nat} {S : Sto} (hm : m ≤ 60) (hn : n ≤ 60) : bltop .repr [tabD q m n] S = .ok (.str (shown (tabD q m n))) S := by
  have h : RB (tabD q m n) 2 (61 * (61 * 2002 + 5) + 3) := by
    have h1 : ∀ x ∈ (List.range (m + 1)).map fun i => D.tup (rl q i (n + 1)), RB x 1 (61 * 2002 + 3) := fun x hx => by
      obtain ⟨i, hi, rfl⟩ := List.mem_map.mp hx
      have hi := List.mem_range.mp hi
      have h2 : RB (.tup (rl q i (n + 1))) 1 ((rl q i (n + 1)).length * 2002 + 3) := RB.tup fun y hy => by
        obtain ⟨j, hj, rfl⟩ := List.mem_map.mp hy
        have hj := List.mem_range.mp hj
        have := Er_bd (q := q) i j
        exact RB.int' (by omega)
      rw [rl_len] at h2
      exact h2.mono (Nat.le_refl _) (by omega)
    have h3 := RB.tup h1
    rw [List.length_map, List.length_range] at h3
    exact h3.mono (Nat.le_refl _) (by omega)
  exact h.rep (by decide) (by decide)
theorem wD_map (F : Nat → Nat → Int) (E : Nat → Nat → Bool) (m n : Nat) : stepsD F E m n = wD (go F E m n (m + n) 0 0) := rfl
theorem rep_leastD {F : Nat → Nat → Int} {E : Nat → Nat → Bool} {m n : Nat} {S : Sto} (hm : m ≤ 60) (hn : n ≤ 60) (h0 : 0 ≤ F 0 0) (h1 : F 0 0 ≤ 1000) : bltop .repr [leastD F E m n] S = .ok (.str (shown (leastD F E m n))) S := by
  have hg := go_len (F := F) (E := E) (m := m) (n := n) (m + n) 0 0
  have h : RB (leastD F E m n) 2 (2 * (5283 + 2) + 3) := by
    unfold leastD
    refine RB.tup (xs := [.tup (stepsD F E m n), .int (F 0 0)]) fun x hx => ?_
    rcases List.mem_cons.mp hx with h | h
    · rw [h]
      have h2 : RB (.tup (stepsD F E m n)) 1 ((stepsD F E m n).length * (42 + 2) + 3) := RB.tup fun y hy => by
        obtain ⟨k, hk, rfl⟩ := List.mem_map.mp hy
        match k with
        | 0 => exact RB.str (by decide)
        | 1 => exact RB.str (by decide)
        | k + 2 => exact RB.str (by show (List.all [116, 97, 107, 101] _) = true; decide)
      rw [wD_map, wD, List.length_map] at h2
      rw [wD_map]
      exact h2.mono (by decide) (by omega)
    · rw [List.mem_singleton.mp h]
      exact (RB.int' (by omega)).mono (by decide) (by decide)
  exact h.rep (by decide) (by decide)
section
variable {N : Nat} {S : Sto}
theorem draws_ok (ns : List Int) : ∃ ks, Draws ks ∧ cl (N + 1) 8 [.frl (ns.map .int), .int 270] S = .ok (.ref S.length) (S ++ [.lst (nD ks)]) := by
  have e0 : L.prog[8]? = some i__law_draws := rfl
  obtain ⟨cells, ds, rs, h1, h2, h3⟩ := draws_run (cx N S) S ns 270 (by decide)
  have h4 : ds.map D.int = nD (ds.map Int.toNat) := by
    unfold nD
    rw [List.map_map]
    apply List.map_congr_left
    intro d hd
    have := h2 d hd
    show D.int d = D.int ((d.toNat : Nat) : Int)
    congr 1
    omega
  refine ⟨ds.map Int.toNat, ⟨by rw [List.length_map, h1], fun k hk => ?_⟩, ?_⟩
  · obtain ⟨d, hd, rfl⟩ := List.mem_map.mp hk
    have := h2 d hd
    omega
  · rw [h4] at h3
    exact call_rt e0 rfl h3 (trim_lst (k := 2) rfl nD_und)
end
end Lw

set_option Elab.async false
set_option linter.all false
set_option autoImplicit false
set_option maxRecDepth 100000
set_option maxHeartbeats 4000000
/-! Ky: the plain law k85: the law. -/
namespace Lw
open Ev
/-- what the law's own run needs of its calls -/
structure Calls (N : Nat) : Prop where
  draws : ∀ (ns : List Int) (S : Sto), ∃ ks, Draws ks ∧ cl N 8 [.frl (ns.map .int), .int 270] S = .ok (.ref S.length) (S ++ [.lst (nD ks)])
  pool : ∀ (d : Nat) (S : Sto), cl N 9 [.int (d : Nat)] S = .ok (.ref S.length) (S ++ [.lst ((poolL (d % 4) (d / 4 % 6)).map .str)])
  classes : ∀ (ks : List Nat) (dr : Nat) (S : Sto), Draws ks → S[dr]? = some (.lst (nD ks)) → cl N 11 [.ref dr] S = .ok (.tup [.ref S.length, .ref (S.length + 1)]) (S ++ [.lst (nD (oneN ks)), .lst (nD (twoN ks))])
  first : ∀ (A B : List Nat) (ka kb : Nat) (S : Sto), S[ka]? = some (.lst (nD A)) → S[kb]? = some (.lst (nD B)) → A.length ≤ 60 → B.length ≤ 60 → cl N 14 [.ref ka, .ref kb] S = .ok (leastD (Gq A B) (qN A B) A.length B.length) S
  head : ∀ (A B : List Nat) (ka kb : Nat) (S : Sto), S[ka]? = some (.lst (nD A)) → S[kb]? = some (.lst (nD B)) → A.length ≤ 60 → B.length ≤ 60 → cl N 13 [.ref ka, .ref kb] S = .ok (tabD (qN A B) A.length B.length) S
  least : ∀ (a b : List (List Nat)) (S : Sto), Goods a → Goods b → cl N 5 [tl a, tl b] S = .ok (leastD (Fq (qL a.reverse b.reverse) a.length b.length) (qL a b) a.length b.length) S
  pot : ∀ (a b : List (List Nat)) (S : Sto), Goods a → Goods b → cl N 4 [tl a, tl b] S = .ok (tabD (qL a b) a.length b.length) S
  wlk : ∀ (A B ks : List Nat) (ka kb dr : Nat) (S : Sto), S[ka]? = some (.lst (nD A)) → S[kb]? = some (.lst (nD B)) → S[dr]? = some (.lst (nD ks)) → ks.length = 270 → A.length ≤ 60 → B.length ≤ 60 →
    ∃ (ws : List Nat) (c : Int), ws.length ≤ 120 ∧ walk (qN A B) A.length B.length (wD ws) 0 0 0 = some (A.length, B.length, c) ∧ cl N 15 [.ref ka, .ref kb, .ref dr] S = .ok (.tup [.tup (wD ws), .int c]) S
  runs : ∀ (a b : List (List Nat)) (ws : List Nat) (c : Int) (d : Nat) (S : Sto), Goods a → Goods b → walk (qL a b) a.length b.length (wD ws) 0 0 0 = some (a.length, b.length, c) → ws.length ≤ 120 → cl N 17 [tl a, tl b, .tup [.tup (wD ws), .int c], .int (d : Nat)] S = .ok (.bl true) S
  near : ∀ (P : List (List Nat)) (pr : Nat) (S : Sto), S[pr]? = some (.lst (P.map .str)) → P.length ≤ 100 → (∀ s ∈ P, Good s) → cl N 18 [.ref pr] S = .ok (.bl true) S
theorem good1 {x : List Nat} (h : Good x) : Goods [x] := ⟨by simp, fun s hs => by rw [List.mem_singleton.mp hs]; exact h⟩
theorem calls_ok (N : Nat) : Calls (N + 20) where
  draws := fun ns S => draws_ok ns
  pool := fun d S => pool_ok rfl rfl
  classes := fun ks dr S D0 h => classes_m D0 h fun d T => size_ok
  first := fun A B ka kb S ha hb hA hB => by
    obtain ⟨F, h1, h2⟩ := rest_m (N := N + 18) ha hb hA hB
    exact first_m ha hb hA hB h1 h2
  head := fun A B ka kb S ha hb hA hB => head_m ha hb hA hB
  least := fun a b S ga gb => least_ok ga gb
  pot := fun a b S ga gb => potential_ok ga gb
  wlk := fun A B ks ka kb dr S ha hb hd hk hm hn => walk_m ha hb hd hk hm hn
  runs := fun a b ws c d S ga gb hw hl => runs_m (fun T ss h => run_ok ga gb h) (fun T x h => run_no ga gb h) (fun T at_ k h0 h1 h2 h3 => broken_ok (by unfold wD; rw [List.length_map]; exact hl) h0 h1 h2 (unds_map fun _ _ => rfl) h3) hw hl
  near := fun P pr S hp hl hg => near_m hp hl
    (fun x hx y hy T => by
      have := least_ok (N := N + 15) (S := T) (good1 (hg x hx)) (good1 (hg y hy))
      exact this.trans (congrArg (fun d => Res.ok d T) least1))
    (fun x hx y hy T => by
      have := potential_ok (n := N + 15) (S := T) (good1 (hg x hx)) (good1 (hg y hy))
      exact this.trans (congrArg (fun d => Res.ok d T) tab1))
    (fun x hx y hy T => by
      have := run_ok (N := N + 15) (S := T) (ss := [.str [107, 101, 101, 112]]) (good1 (hg x hx)) (good1 (hg y hy)) (fun s hs => by rw [List.mem_singleton.mp hs]; exact okW_str)
      exact this.trans (congrArg (fun d => Res.ok d T) sc1))
    fun x hx => (hg x hx).hi
end Lw

set_option Elab.async false
set_option linter.all false
set_option autoImplicit false
set_option maxRecDepth 100000
set_option maxHeartbeats 4000000
/-! Kz: the plain law k85: the law's run. -/
namespace Lw
open Ev
theorem least_lines {P : List (List Nat)} {A B : List Nat} (hP : P.Nodup) (hA : ∀ k ∈ A, k < P.length) (hB : ∀ k ∈ B, k < P.length) :
    leastD (Fq (qL (linesOf P A).reverse (linesOf P B).reverse) (linesOf P A).length (linesOf P B).length) (qL (linesOf P A) (linesOf P B)) (linesOf P A).length (linesOf P B).length = leastD (Gq A B) (qN A B) A.length B.length := by
  rw [linesOf_len, linesOf_len, lines_rev, lines_rev]
  refine leastD_congr (fun i j => ?_) fun i j hi hj => qL_lines hP hA hB hi hj
  refine Fq_congr (fun i j hi hj => ?_) i j
  exact qL_lines hP (fun k hk => hA k (List.mem_reverse.mp hk)) (fun k hk => hB k (List.mem_reverse.mp hk)) (by rw [List.length_reverse]; exact hi) (by rw [List.length_reverse]; exact hj)
theorem Gq_bd {A B : List Nat} (hA : A.length ≤ 60) (hB : B.length ≤ 60) : 0 ≤ Gq A B 0 0 ∧ Gq A B 0 0 ≤ 1000 := by
  have h := Er_bd (q := qN A.reverse B.reverse) (A.length - 0) (B.length - 0)
  unfold Gq Fq
  omega
section
variable {N : Nat}
/-- a tuple of the lines of some classes -/
theorem lines_lc {U : Sto} {P : List (List Nat)} {A : List Nat} {pr ka : Nat} {x0 x1 x3 x4 x5 x6 : Option D} (hp : U[pr]? = some (.lst (P.map D.str))) (ha : U[ka]? = some (.lst (nD A))) (hA : ∀ k ∈ A, k < P.length) (hl : A.length ≤ 60) :
    k_lc (cx N []) [7] true [7] (.cst (.bl true)) (.idx (.var 2) (.var 7)) [x0, x1, some (.ref pr), x3, x4, x5, x6, none] (.ok (nD A) [(ka, .lst (nD A))] U) = .ok (.ref U.length) (U ++ [.lst ((linesOf P A).map D.str)]) := by
  have el : line = 16777216 := rfl
  have hw : wOk U [(ka, .lst (nD A))] = true := by simp [wOk, ha]
  have hL : lcL [(ka, .lst (nD A))] (fun d => bindTg true [7] d (kill [7] [x0, x1, some (.ref pr), x3, x4, x5, x6, none])) (fun ρ T => evE (cx N []) (.cst (.bl true)) ρ T) (fun ρ T => evE (cx N []) (.idx (.var 2) (.var 7)) ρ T) (nD A) U =
      .ok ((nD A).map fun (x : D) => match x with
        | .int i => D.str (P.getD i.toNat [])
        | _ => .non) U := by
    refine lcL_map hw fun x hx => ?_
    obtain ⟨k, hk, rfl⟩ := List.mem_map.mp hx
    have hk2 := hA k hk
    have p : pyAt (P.map D.str) ((k : Nat) : Int) = some (.str (P.getD k [])) := by
      rw [pyAt_nat _ _ (by rw [List.length_map]; exact hk2), List.getElem_map, List.getD_eq_getElem?_getD, List.getElem?_eq_getElem hk2]
      rfl
    refine ⟨_, rfl, by simp only [l_var, l_var1, l_glo, l_glo1, l_cst, l_nil, l_cons, l_L1, l_L2, l_neg, l_neg1, l_not, l_not1, l_rev, l_rev1, l_lrg, l_lrg1, l_cdx, l_cdx1, l_isc, l_isc1, l_tdy, l_tdy1, l_bin, l_bin1, l_bin2, l_cmp, l_cmp1, l_cmp2, l_idx, l_idx1, l_idx2, l_chn, l_chn1, l_chn2, l_chn3, l_chn3f, l_chn4, l_ite, l_iteT, l_iteF, l_and, l_and1, l_and2, l_andG, l_andS, l_or, l_or1, l_or2, l_orG, l_orS, l_sli, l_sli1, l_sli2, l_sli3, l_tup, l_tup1, l_lst, l_lst1, l_call, l_call1, l_blt, l_blt1, l_mth, l_mth1, l_mth2, l_snil, l_scons, l_sqn, l_sqr, l_sqb, l_sqc, l_asg, l_asg1, l_asgs, l_asgs1, l_asgs2, l_asgs3, l_bT, l_b1, l_bn, l_bc, l_k0, l_k1, l_exp, l_exp1, l_ret, l_ret1, l_retN, l_brk, l_cnt, l_pss, l_if, l_ifT, l_ifF, l_sub, l_sub1, l_sub2, l_sub3, l_set, l_for, l_lc, l_seq, l_seqL, l_seqL1, l_seqT, l_seqS, l_fsh, l_rng1, l_rng11, l_enm, l_enmT, o_addI, o_subI, o_mulI, o_fdivI, o_modI, o_powI, o_addS, o_addT, o_addL, o_addL1, o_repL, o_repL1, o_repS, c_lt, c_le, c_gt, c_ge, c_eq, c_eq1, c_ne, c_ne1, c_in, c_nin, e_II, e_SS, d_II, d_SS, n_int, n_bl, x_tup, x_at, x_atS, x_str, x_lst, x_lst1, b_int, b_lenT, b_lenS, b_lenL, b_lenL1, b_tupT, b_tupL, b_tupL1, b_lstT, b_lstL, b_lstL1, b_min, b_max, b_isi, b_isi1, b_repr, m_app, m_app1, m_appOk, m_popOk, m_lstB, v_set, v_set1, t_op, t_lop, i_N, i_nN, i_T, i_nT, i_F, i_nF, List.getElem?_cons_succ, List.getElem?_cons_zero, List.set_cons_succ, List.set_cons_zero, st_get, st_get0, st_set, st_set0, if_true, tidy_app, tidy_same, trim_pure, trim_pure0, Nat.zero_le, Nat.zero_add, Nat.reduceAdd, Nat.reduceSub, List.replicate, List.map_cons, List.map_nil, List.cons_append, List.nil_append], ?_⟩
    show evE _ _ [x0, x1, some (.ref pr), x3, x4, x5, x6, some (.int (k : Nat))] U = _
    simp only [l_var, l_var1, l_glo, l_glo1, l_cst, l_nil, l_cons, l_L1, l_L2, l_neg, l_neg1, l_not, l_not1, l_rev, l_rev1, l_lrg, l_lrg1, l_cdx, l_cdx1, l_isc, l_isc1, l_tdy, l_tdy1, l_bin, l_bin1, l_bin2, l_cmp, l_cmp1, l_cmp2, l_idx, l_idx1, l_idx2, l_chn, l_chn1, l_chn2, l_chn3, l_chn3f, l_chn4, l_ite, l_iteT, l_iteF, l_and, l_and1, l_and2, l_andG, l_andS, l_or, l_or1, l_or2, l_orG, l_orS, l_sli, l_sli1, l_sli2, l_sli3, l_tup, l_tup1, l_lst, l_lst1, l_call, l_call1, l_blt, l_blt1, l_mth, l_mth1, l_mth2, l_snil, l_scons, l_sqn, l_sqr, l_sqb, l_sqc, l_asg, l_asg1, l_asgs, l_asgs1, l_asgs2, l_asgs3, l_bT, l_b1, l_bn, l_bc, l_k0, l_k1, l_exp, l_exp1, l_ret, l_ret1, l_retN, l_brk, l_cnt, l_pss, l_if, l_ifT, l_ifF, l_sub, l_sub1, l_sub2, l_sub3, l_set, l_for, l_lc, l_seq, l_seqL, l_seqL1, l_seqT, l_seqS, l_fsh, l_rng1, l_rng11, l_enm, l_enmT, o_addI, o_subI, o_mulI, o_fdivI, o_modI, o_powI, o_addS, o_addT, o_addL, o_addL1, o_repL, o_repL1, o_repS, c_lt, c_le, c_gt, c_ge, c_eq, c_eq1, c_ne, c_ne1, c_in, c_nin, e_II, e_SS, d_II, d_SS, n_int, n_bl, x_tup, x_at, x_atS, x_str, x_lst, x_lst1, b_int, b_lenT, b_lenS, b_lenL, b_lenL1, b_tupT, b_tupL, b_tupL1, b_lstT, b_lstL, b_lstL1, b_min, b_max, b_isi, b_isi1, b_repr, m_app, m_app1, m_appOk, m_popOk, m_lstB, v_set, v_set1, t_op, t_lop, i_N, i_nN, i_T, i_nT, i_F, i_nF, List.getElem?_cons_succ, List.getElem?_cons_zero, List.set_cons_succ, List.set_cons_zero, st_get, st_get0, st_set, st_set0, if_true, tidy_app, tidy_same, trim_pure, trim_pure0, Nat.zero_le, Nat.zero_add, Nat.reduceAdd, Nat.reduceSub, List.replicate, List.map_cons, List.map_nil, List.cons_append, List.nil_append, hp, p]
    rfl
  rw [l_lc1 (by rw [nD_len]; omega) hL, st_alloc0]
  congr 3
  unfold nD linesOf
  rw [List.map_map, List.map_map]
  apply congrArg
  apply List.map_congr_left
  intro k hk
  show D.str (P.getD ((k : Nat) : Int).toNat []) = D.str (P.getD k [])
  rw [Int.toNat_natCast]
theorem law_m (C : Calls N) (ns : List Int) : ∃ S', cl (N + 1) 19 [.frl (ns.map .int)] [] = .ok (.bl true) S' := by
  have e0 : L.prog[19]? = some i_law := rfl
  obtain ⟨ks, D0, c1⟩ := C.draws ns []
  have hl := D0.len
  have a0 : pyAt (nD ks) 0 = some (.int ((ks.getD 0 0 : Nat) : Int)) := nD_at (i := 0) (by omega)
  have a5 : pyAt (nD ks) 5 = some (.int ((ks.getD 5 0 : Nat) : Int)) := nD_at (i := 5) (by omega)
  have a6 : pyAt (nD ks) 6 = some (.int ((ks.getD 6 0 : Nat) : Int)) := nD_at (i := 6) (by omega)
  have c2 := C.pool (ks.getD 0 0) [.lst (nD ks)]
  have hr : ks.getD 0 0 % 4 < 4 := by omega
  have ht : ks.getD 0 0 / 4 % 6 < 6 := by omega
  have pl := pool_len hr ht
  have pg := pool_good (t := ks.getD 0 0 / 4 % 6) hr
  have pn := pool_nodup (t := ks.getD 0 0 / 4 % 6) hr
  generalize poolL (ks.getD 0 0 % 4) (ks.getD 0 0 / 4 % 6) = P at c2 pl pg pn
  have c3 := C.classes ks 0 [.lst (nD ks), .lst (P.map D.str)] D0 rfl
  have hA := oneN_len (ks := ks)
  have hB := twoN_len (ks := ks)
  have tA := oneN_lt (ks := ks)
  have tB := twoN_lt (ks := ks)
  generalize oneN ks = A at c3 hA tA
  generalize twoN ks = B at c3 hB tB
  rw [← pl] at tA tB
  have c1' : callN L.prog L.gl L.W N 8 [.frl (ns.map .int), .int 270] [] = .ok (.ref 0) [.lst (nD ks)] := c1
  have c2' : callN L.prog L.gl L.W N 9 [.int ((ks.getD 0 0 : Nat) : Int)] [.lst (nD ks)] = .ok (.ref 1) [.lst (nD ks), .lst (P.map D.str)] := c2
  have c3' : callN L.prog L.gl L.W N 11 [.ref 0] [.lst (nD ks), .lst (P.map D.str)] = .ok (.tup [.ref 2, .ref 3]) [.lst (nD ks), .lst (P.map D.str), .lst (nD A), .lst (nD B)] := c3
  have s0 : ([.lst (nD ks)] : Sto)[0]? = some (.lst (nD ks)) := rfl
  obtain ⟨U, hU⟩ : ∃ U : Sto, U = [.lst (nD ks), .lst (P.map D.str), .lst (nD A), .lst (nD B)] := ⟨_, rfl⟩
  rw [← hU] at c3'
  have g0 : U[0]? = some (.lst (nD ks)) := by rw [hU]; rfl
  have g1 : U[1]? = some (.lst (P.map D.str)) := by rw [hU]; rfl
  have g2 : U[2]? = some (.lst (nD A)) := by rw [hU]; rfl
  have g3 : U[3]? = some (.lst (nD B)) := by rw [hU]; rfl
  clear hU c1 c2 c3
  have ga := lines_good pg hA tA
  have gb := lines_good pg hB tB
  have l1 := lines_lc (N := N) (U := U) (x0 := some (.frl (ns.map .int))) (x1 := some (.ref 0)) (x3 := some (.tup [.ref 2, .ref 3])) (x4 := none) (x5 := none) (x6 := none) g1 g2 tA hA
  have l2 := lines_lc (N := N) (U := U) (x0 := some (.frl (ns.map .int))) (x1 := some (.ref 0)) (x3 := some (.tup [.ref 2, .ref 3])) (x4 := some (tl (linesOf P A))) (x5 := none) (x6 := none) g1 g3 tB hB
  have k2 : k_seq (.ok (.ref 2) U) = .ok (nD A) [(2, .lst (nD A))] U := by simp only [k_seq, seqK, walkOf, g2]
  have k3 : k_seq (.ok (.ref 3) U) = .ok (nD B) [(3, .lst (nD B))] U := by simp only [k_seq, seqK, walkOf, g3]
  have u1 : ∀ a : List (List Nat), D.und U.length (tl a) = true := fun a => unds_map fun _ _ => rfl
  have p0 : pyAt [D.ref 2, D.ref 3] 0 = some (.ref 2) := rfl
  have p1 : pyAt [D.ref 2, D.ref 3] 1 = some (.ref 3) := rfl
  have f1 := C.first A B 2 3 U g2 g3 hA hB
  have f2 := C.head A B 2 3 U g2 g3 hA hB
  have f3 := C.least (linesOf P A) (linesOf P B) U ga gb
  have f4 := C.pot (linesOf P A) (linesOf P B) U ga gb
  rw [least_lines pn tA tB] at f3
  have hq : ∀ i j, i < A.length → j < B.length → qL (linesOf P A) (linesOf P B) i j = qN A B i j := fun i j hi hj => qL_lines pn tA tB hi hj
  rw [linesOf_len, linesOf_len, tabD_congr hq] at f4
  have bd := Gq_bd hA hB
  have r1 := rep_leastD (E := qN A B) (F := Gq A B) (S := U) hA hB bd.1 bd.2
  have r2 := rep_tabD (q := qN A B) (S := U) hA hB
  obtain ⟨ws, c, w1, w2, w3⟩ := C.wlk A B ks 2 3 0 U g2 g3 g0 hl hA hB
  have v1 : walk (qL (linesOf P A) (linesOf P B)) (linesOf P A).length (linesOf P B).length (wD (go (Gq A B) (qN A B) A.length B.length (A.length + B.length) 0 0)) 0 0 0 = some ((linesOf P A).length, (linesOf P B).length, Gq A B 0 0) := by
    rw [linesOf_len, linesOf_len, walk_congr hq, ← wD_map]
    exact go_sc
  have v2 : walk (qL (linesOf P A) (linesOf P B)) (linesOf P A).length (linesOf P B).length (wD ws) 0 0 0 = some ((linesOf P A).length, (linesOf P B).length, c) := by
    rw [linesOf_len, linesOf_len, walk_congr hq]
    exact w2
  have q1 := C.runs _ _ _ _ (ks.getD 5 0) U ga gb v1 (by
    have := go_len (F := Gq A B) (E := qN A B) (m := A.length) (n := B.length) (A.length + B.length) 0 0
    omega)
  have q2 := C.runs _ _ _ _ (ks.getD 6 0) U ga gb v2 w1
  have q3 := C.near P 1 U g1 (by omega) pg
  have q1' : callN L.prog L.gl L.W N 17 [tl (linesOf P A), tl (linesOf P B), leastD (Gq A B) (qN A B) A.length B.length, .int ((ks.getD 5 0 : Nat) : Int)] U = .ok (.bl true) U := q1
  have tle : ∀ a : List (List Nat), D.tup (a.map D.str) = tl a := fun _ => rfl
  have ub : ∀ b, D.und U.length (.bl b) = true := fun _ => rfl
  simp only [cl] at f1 f2 f3 f4 w3 q2 q3
  refine ⟨[], call_rt (d := .bl true) (S1 := U) e0 rfl ?_ (by
    unfold trim
    rw [if_pos (by rfl)]
    rfl)⟩
  show evSs (cx N []) i_law.body [some (.frl (ns.map .int)), none, none, none, none, none, none, none] [] = _
  simp only [i_law, l_var, l_var1, l_glo, l_glo1, l_cst, l_nil, l_cons, l_L1, l_L2, l_neg, l_neg1, l_not, l_not1, l_rev, l_rev1, l_lrg, l_lrg1, l_cdx, l_cdx1, l_isc, l_isc1, l_tdy, l_tdy1, l_bin, l_bin1, l_bin2, l_cmp, l_cmp1, l_cmp2, l_idx, l_idx1, l_idx2, l_chn, l_chn1, l_chn2, l_chn3, l_chn3f, l_chn4, l_ite, l_iteT, l_iteF, l_and, l_and1, l_and2, l_andG, l_andS, l_or, l_or1, l_or2, l_orG, l_orS, l_sli, l_sli1, l_sli2, l_sli3, l_tup, l_tup1, l_lst, l_lst1, l_call, l_call1, l_blt, l_blt1, l_mth, l_mth1, l_mth2, l_snil, l_scons, l_sqn, l_sqr, l_sqb, l_sqc, l_asg, l_asg1, l_asgs, l_asgs1, l_asgs2, l_asgs3, l_bT, l_b1, l_bn, l_bc, l_k0, l_k1, l_exp, l_exp1, l_ret, l_ret1, l_retN, l_brk, l_cnt, l_pss, l_if, l_ifT, l_ifF, l_sub, l_sub1, l_sub2, l_sub3, l_set, l_for, l_lc, l_seq, l_seqL, l_seqL1, l_seqT, l_seqS, l_fsh, l_rng1, l_rng11, l_enm, l_enmT, o_addI, o_subI, o_mulI, o_fdivI, o_modI, o_powI, o_addS, o_addT, o_addL, o_addL1, o_repL, o_repL1, o_repS, c_lt, c_le, c_gt, c_ge, c_eq, c_eq1, c_ne, c_ne1, c_in, c_nin, e_II, e_SS, d_II, d_SS, n_int, n_bl, x_tup, x_at, x_atS, x_str, x_lst, x_lst1, b_int, b_lenT, b_lenS, b_lenL, b_lenL1, b_tupT, b_tupL, b_tupL1, b_lstT, b_lstL, b_lstL1, b_min, b_max, b_isi, b_isi1, b_repr, m_app, m_app1, m_appOk, m_popOk, m_lstB, v_set, v_set1, t_op, t_lop, i_N, i_nN, i_T, i_nT, i_F, i_nF, List.getElem?_cons_succ, List.getElem?_cons_zero, List.set_cons_succ, List.set_cons_zero, st_get, st_get0, st_set, st_set0, if_true, tidy_app, tidy_same, trim_pure, trim_pure0, Nat.zero_le, Nat.zero_add, Nat.reduceAdd, Nat.reduceSub, List.replicate, List.map_cons, List.map_nil, List.cons_append, List.nil_append, cx_cl, c1', s0, a0, a5, a6, c2', c3', g0, g1, g2, g3, p0, p1, k2, k3, l1, l2, u1, tle, f1, f2, f3, f4, r1, r2, ub, q1', q2, q3, w3, decide_true, Bool.not_true]
theorem runs : ∀ ns : List Int, ns.length ≤ 63 → ∃ S', L.run ns = .ok (.bl true) S' := fun ns _ => law_m (calls_ok 39) ns
end
end Lw

set_option Elab.async false
set_option linter.all false
set_option maxRecDepth 100000
set_option maxHeartbeats 0
namespace Lw
open PySem PySem.Spec PyProof.Rows L2 Ev
def loose0 : List Str := ["LETTERS", "DIGITS", "HallError", "BadBook", "LONGEST_LINE", "OTHER_SIGNS", "is_line", "MOST_LINES", "is_lines", "check_lines", "least_costs", "potential", "least_script", "script_cost", "run_script", "_law_draws", "_law_pool", "_law_size", "_law_classes", "_law_rest", "_law_head", "_law_first", "_law_walk", "_law_broken", "_law_runs", "_law_near"]
def loose : List Str := loose0
abbrev R : PySem.W.OpenRow := PySem.W.OpenLaw.row PySem.Challenge.rw_umpirehall_k85_scripts_of_long_lines
abbrev hk : PySem.W.Hook := hookV 4 L.fa L.fn L.cs L.g
def ob (s : PySem.W.SharedT) : AlV := obVG 4 L.fa L.fn L.cs L.g (HandSHeadRun.getT s)
theorem ob_eq (s : PySem.W.SharedT) : ob s = hk.obs s.abs := obVG_eq (HandSHeadRun.getT_eq s)
theorem run (w : World) : HandSHeadRun.RunEq R (PySem.W.view R.prog [30]) hk ob 2000 loose w := by
  intro os
  kernel_rfl
end Lw

open PySem PySem.W PySem.Calls PyProof.Rows
theorem PySem.Challenge.cw_umpirehall_k85_scripts_of_long_lines_holds : PySem.Challenge.rw_umpirehall_k85_scripts_of_long_lines.Holds := by
  w_on; o_law
  refine HandSHeadRun.head_any (r := OpenLaw.row PySem.Challenge.rw_umpirehall_k85_scripts_of_long_lines) (q := view (OpenLaw.row PySem.Challenge.rw_umpirehall_k85_scripts_of_long_lines).prog [30]) (H := Lw.hk) (ob := Lw.ob) (M := 2000) (loose := Lw.loose) (d := HandSHeadRun.topDef (OpenLaw.row PySem.Challenge.rw_umpirehall_k85_scripts_of_long_lines).prog 30) (kwd := []) Lw.ob_eq
    (by kernel_rfl) (fun s => by kernel_rfl) Lw.run (by kernel_rfl) (by kernel_rfl) (by kernel_rfl) (by rfl) (by first | assumption | decide +kernel) (by decide +kernel) ⟨rfl, rfl, rfl, rfl, rfl, by decide +kernel⟩ ?hw ?hc
  case hw => w_witness2
  case hc => exact Ev.walk_ev Lw.L (n := 63) (dl := Lw.d_law) rfl (by decide) (by kernel_rfl) ⟨rfl, by decide, by decide⟩ Lw.oks Lw.bs rfl (by kernel_rfl) rfl Lw.runs
