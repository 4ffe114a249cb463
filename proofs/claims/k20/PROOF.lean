import PyProof.Rows.All
import Wide.All
import OpenK.AllK
import Wide.FinOn
import HandS.ForMost
import HandS.Walk
import HandS.TupAny
import HandS.TupMul
import HandS.Conv
import HandS.Deep
import HandS.Zip
import HandS.IsInst
import HandS.StrMore
import HandS.Style
import KE.DataEq
import KE.SortData
import KE.DataMinMax
import KE.DataIsa
import KE.DataFind
import KE.KTupSum
import HandS.Lambda
import HandS.EndOwn
import HandS.WordsExc
import HandS.SetKeys
import HandS.NoneIn
import KE.KRevSl
import KE.GoesEnum
import KE.GoesZip
import KE.GoesMore
import KE.KDictPairs
import HandS.More
import HandS.SortKw
import KE.SortKeyHeap
import KE.KLam
import HandS.Words
import HandS.ExcIs
import PySem.Challenge.RW_tapdeal_k20_clashes
set_option Elab.async false
set_option linter.all false
set_option maxRecDepth 100000
set_option maxHeartbeats 4000000
/-! A small pure language for the programs at hand: its terms, its evaluator over PyData. -/
namespace TD
open PySem

/-- what comes: a value, a refusal of class c, or nothing that is told -/
inductive R (α : Type) where
  | ok (a : α)
  | err (c : Nat)
  | bad
def R.bind {α β : Type} : R α → (α → R β) → R β
  | .ok a, f => f a
  | .err c, _ => .err c
  | .bad, _ => .bad
instance : Monad R where
  pure := R.ok
  bind := R.bind
@[simp] theorem R.ok_bind {α β : Type} (a : α) (f : α → R β) : (R.ok a >>= f) = f a := rfl
@[simp] theorem R.err_bind {α β : Type} (c : Nat) (f : α → R β) : (R.err c >>= f) = R.err c := rfl
@[simp] theorem R.bad_bind {α β : Type} (f : α → R β) : ((R.bad : R α) >>= f) = R.bad := rfl
@[simp] theorem R.pure_ok {α : Type} (a : α) : (pure a : R α) = R.ok a := rfl
def gd {α : Type} (b : Bool) (r : R α) : R α := cond b r .bad
@[simp] theorem gd_true {α : Type} (r : R α) : gd true r = r := rfl
@[simp] theorem gd_false {α : Type} (r : R α) : gd false r = .bad := rfl
def op {α : Type} : Option α → R α
  | some a => .ok a
  | none => .bad
@[simp] theorem op_some {α : Type} (a : α) : op (some a) = .ok a := rfl

/-- a refusal is not told here -/
def nE {α : Type} : R α → R α
  | .ok a => .ok a
  | _ => .bad
theorem nE_ok {α : Type} {r : R α} {a : α} (h : nE r = .ok a) : r = .ok a := by
  cases r <;> first
    | exact h
    | cases h
theorem nE_of {α : Type} {r : R α} {a : α} (h : r = .ok a) : nE r = .ok a := by
  rw [h]
  rfl
abbrev SZ : Nat := 16000000

/-- the signs of a text -/
abbrev chs (s : Str) : List Nat := s.cps.toList
def tx (l : List Nat) : PyData := .str ⟨l.toArray⟩
theorem chs_mk (l : List Nat) : chs ⟨l.toArray⟩ = l := by simp [chs]
theorem tx_chs (s : Str) : tx (chs s) = .str s := by
  obtain ⟨⟨l⟩⟩ := s
  rfl

/-- no dict within, at most n deep -/
def dOk : Nat → PyData → Bool
  | _, .none => true
  | _, .bool _ => true
  | _, .int _ => true
  | _, .str _ => true
  | n + 1, .list xs => xs.all (dOk n)
  | n + 1, .tuple xs => xs.all (dOk n)
  | 0, .list _ => false
  | 0, .tuple _ => false
  | _, .dict _ => false

/-! ### operators -/
def opAdd : PyData → PyData → R PyData
  | .int i, .int j => .ok (.int (i + j))
  | .str x, .str y => gd (decide ((chs x).length + (chs y).length ≤ SZ)) (.ok (tx (chs x ++ chs y)))
  | .tuple xs, .tuple ys => gd (decide (xs.length + ys.length ≤ SZ)) (.ok (.tuple (xs ++ ys)))
  | .list xs, .list ys => gd (decide (xs.length + ys.length ≤ SZ)) (.ok (.list (xs ++ ys)))
  | _, _ => .bad
def opSub : PyData → PyData → R PyData
  | .int i, .int j => .ok (.int (i - j))
  | _, _ => .bad
def rep {α : Type} (n : Int) (l : List α) : List α := (List.replicate n.toNat l).flatten
def opMul : PyData → PyData → R PyData
  | .int i, .int j => gd (decide ((-(2 ^ 64) < i ∧ i < 2 ^ 64) ∨ (-(2 ^ 64) < j ∧ j < 2 ^ 64))) (.ok (.int (i * j)))
  | .str x, .int n => gd (decide (n ≤ 100000 ∧ -100000 ≤ n ∧ (chs x).length * n.toNat ≤ SZ)) (.ok (tx (rep n (chs x))))
  | .list xs, .int n => gd (decide (n ≤ 100000 ∧ -100000 ≤ n ∧ xs.length * n.toNat ≤ SZ)) (.ok (.list (rep n xs)))
  | _, _ => .bad
def opDiv : PyData → PyData → R PyData
  | .int i, .int j => gd (decide (0 < j ∧ j < 1073741824)) (.ok (.int (i / j)))
  | _, _ => .bad
def opMod : PyData → PyData → R PyData
  | .int i, .int j => gd (decide (0 < j)) (.ok (.int (i % j)))
  | _, _ => .bad
def binD : Operator → PyData → PyData → R PyData
  | .Add => opAdd
  | .Sub => opSub
  | .Mult => opMul
  | .FloorDiv => opDiv
  | .Mod => opMod
  | _ => fun _ _ => .bad
def negD : PyData → R PyData
  | .int i => .ok (.int (-i))
  | _ => .bad

/-! ### comparisons -/
def ltD : PyData → PyData → R Bool
  | .int i, .int j => .ok (decide (i < j))
  | .str x, .str y => .ok (decide (chs x < chs y))
  | _, _ => .bad
def ltT (a b : PyData) : R Bool := gd (dOk 9 a && dOk 9 b && PySem.W.alike a b) (.ok (PySem.W.dataLt a b))
def isD : PyData → PyData → R Bool
  | .none, .none => .ok true
  | _, .none => .ok false
  | .bool a, .bool b => .ok (a == b)
  | _, .bool _ => .ok false
  | _, _ => .bad
def keyOk : PyData → Bool
  | .int _ => true
  | .str _ => true
  | _ => false
def keyEq : PyData → PyData → Bool
  | .int i, .int j => decide (i = j)
  | .str x, .str y => decide (x = y)
  | _, _ => false
def dGet (kvs : List (PyData × PyData)) (k : PyData) : Option PyData := (kvs.find? fun p => keyEq p.1 k).map (·.2)
def dPut (kvs : List (PyData × PyData)) (k v : PyData) : List (PyData × PyData) :=
  if kvs.any (fun p => keyEq p.1 k) = true then kvs.map (fun p => if keyEq p.1 k = true then (p.1, v) else p) else kvs ++ [(k, v)]
def inD (x : PyData) : PyData → R Bool
  | .list ds => gd (dOk 9 x && ds.all (dOk 8)) (.ok (ds.any fun z => PyData.eqv z x))
  | .tuple ds => gd (dOk 9 x && ds.all (dOk 8)) (.ok (ds.any fun z => PyData.eqv z x))
  | .dict kvs => gd (keyOk x) (.ok (dGet kvs x).isSome)
  | .str z => match x with
    | .str y => match chs y with
      | [c] => .ok (decide (c ∈ chs z))
      | _ => .bad
    | _ => .bad
  | _ => .bad
def eqB (a b : PyData) : R Bool := gd (dOk 9 a && dOk 9 b) (.ok (PyData.eqv a b))
def ltA : PyData → PyData → R Bool
  | .tuple xs, .tuple ys => ltT (.tuple xs) (.tuple ys)
  | a, b => ltD a b
def notR (r : R Bool) : R Bool := do .ok !(← r)
def cmpB : CmpOp → PyData → PyData → R Bool
  | .Eq => eqB
  | .NotEq => fun a b => notR (eqB a b)
  | .Lt => ltA
  | .Gt => fun a b => ltD b a
  | .LtE => fun a b => notR (ltD b a)
  | .GtE => fun a b => notR (ltD a b)
  | .Is => isD
  | .IsNot => fun a b => notR (isD a b)
  | .In => inD
  | .NotIn => fun a b => notR (inD a b)

/-! ### subscripts, slices -/
def idxD : PyData → PyData → R PyData
  | .list xs, .int i => op (L2.atI xs i)
  | .tuple xs, .int i => op (L2.atI xs i)
  | .str z, .int i => gd (decide ((chs z).length ≤ SZ)) (op ((L2.atI (chs z) i).map fun c => tx [c]))
  | .dict kvs, k => gd (keyOk k) (op (dGet kvs k))
  | _, _ => .bad
def cut {α : Type} (xs : List α) (lo hi : Option Int) : List α := (xs.drop (HT.sIx xs.length 0 lo)).take (HT.sIx xs.length xs.length hi - HT.sIx xs.length 0 lo)
def slcD : PyData → Option Int → Option Int → R PyData
  | .list xs, lo, hi => .ok (.list (cut xs lo hi))
  | .tuple xs, lo, hi => .ok (.tuple (cut xs lo hi))
  | .str z, lo, hi => gd (decide ((chs z).length ≤ SZ)) (.ok (tx (cut (chs z) lo hi)))
  | _, _, _ => .bad
def revD : PyData → R PyData
  | .tuple xs => .ok (.tuple xs.reverse)
  | .str z => gd (decide ((chs z).length ≤ SZ)) (.ok (tx (chs z).reverse))
  | _ => .bad

/-! ### built-in functions of one value -/
inductive B where
  | len | abs | sum | min | max | sorted | list | tuple | dict | int | str | repr | all | any | sset | lset | sortk
  | isi (t : Nat)
  deriving DecidableEq
def lenD : PyData → R PyData
  | .list xs => .ok (.int xs.length)
  | .tuple xs => .ok (.int xs.length)
  | .str z => gd (decide ((chs z).length ≤ SZ)) (.ok (.int (chs z).length))
  | .dict kvs => .ok (.int kvs.length)
  | _ => .bad
def intsOf : List PyData → Option (List Int)
  | [] => some []
  | .int i :: r => (intsOf r).map (i :: ·)
  | _ :: _ => none
def boolsOf : List PyData → Option (List Bool)
  | [] => some []
  | .bool i :: r => (boolsOf r).map (i :: ·)
  | _ :: _ => none
def strsOf : List PyData → Option (List (List Nat))
  | [] => some []
  | .str i :: r => (strsOf r).map (chs i :: ·)
  | _ :: _ => none
def txtsOf : List PyData → Option (List Str)
  | [] => some []
  | .str i :: r => (txtsOf r).map (i :: ·)
  | _ :: _ => none
def itemsOf : PyData → Option (List PyData)
  | .list xs => some xs
  | .tuple xs => some xs
  | _ => none
def isTup : PyData → Bool
  | .tuple _ => true
  | _ => false
def isInt : PyData → Bool
  | .int _ => true
  | _ => false
def isStr : PyData → Bool
  | .str _ => true
  | _ => false
def dle (a b : PyData) : Bool := PySem.W.dataLe false id a b
/-- of one kind, so that they may be sorted -/
def sOk (xs : List PyData) : Bool := xs.all (dOk 9) && (xs.all isTup || xs.all isInt || xs.all isStr) && xs.all fun a => xs.all fun b => PySem.W.alike a b
def srt (xs : List PyData) : List PyData := xs.mergeSort dle
def notE : PyData → Bool
  | .tuple [] => false
  | _ => true
def allStr : List PyData → Bool
  | [] => true
  | .str _ :: r => allStr r
  | _ :: _ => false
def sortD : PyData → R PyData
  | .list xs => gd (sOk xs && decide (xs.length ≤ SZ)) (.ok (.list (srt xs)))
  | .dict kvs => op (txtsOf (kvs.map (·.1))) >>= fun ks => gd (decide (ks.length < 64)) (.ok (.list ((ks.mergeSort fun a b => !decide (chs b < chs a)).map PyData.str)))
  | _ => .bad
/-- a tuple of whole numbers -/
def isNumD : PyData → Bool
  | .tuple xs => xs.all isInt
  | _ => false
def dedup : List PyData → List PyData
  | [] => []
  | x :: r => if r.any (fun y => PyData.eqv y x) then dedup r else x :: dedup r
def pairOf : PyData → Option (PyData × PyData)
  | .tuple [k, v] => if keyOk k then some (k, v) else none
  | _ => none
def pairsOf : List PyData → Option (List (PyData × PyData))
  | [] => some []
  | d :: r => (pairOf d).bind fun p => (pairsOf r).map (p :: ·)
def dictOf (ps : List (PyData × PyData)) : List (PyData × PyData) := ps.foldl (fun m p => dPut m p.1 p.2) []
def intD : PyData → R PyData
  | .int i => .ok (.int i)
  | .bool b => .ok (.int (if b then 1 else 0))
  | .str z => gd (decide ((chs z).length ≤ 640)) (op ((PySem.intText? z).map .int))
  | _ => .bad
def showI (i : Int) : List Nat := chs (Str.ofString (toString i))
def strD : PyData → R PyData
  | .int i => gd (decide (i.natAbs < 2 ^ 64)) (.ok (.str (Str.ofString (toString i))))
  | _ => .bad
def isiD (t : Nat) : PyData → Bool
  | .int _ => t == 0
  | .bool _ => t == 0 || t == 1
  | .str _ => t == 2
  | .tuple _ => t == 3
  | .list _ => t == 4
  | .dict _ => t == 5
  | .none => false
/-- by length, then by signs -/
def keyL (s : Str) : PyData := .tuple [.int (s.length : Int), .str s]
def b1D : B → PyData → R PyData
  | .len, d => lenD d
  | .abs, .int i => .ok (.int (if i < 0 then -i else i))
  | .sum, d => op (((itemsOf d).bind intsOf).map fun ns => .int ns.sum)
  | .min, .list (x :: xs) => gd (sOk (x :: xs)) (.ok (PySem.W.minD x xs))
  | .max, .list (x :: xs) => gd (sOk (x :: xs)) (.ok (PySem.W.maxD x xs))
  | .sorted, d => sortD d
  | .list, .list xs => .ok (.list xs)
  | .list, .tuple xs => .ok (.list xs)
  | .list, .dict kvs => .ok (.list (kvs.map (·.1)))
  | .tuple, .list xs => .ok (.tuple xs)
  | .tuple, .tuple xs => .ok (.tuple xs)
  | .dict, .tuple xs => op ((pairsOf xs).map fun ps => .dict (dictOf ps))
  | .int, d => intD d
  | .str, d => strD d
  | .all, .list xs => op ((boolsOf xs).map fun bs => .bool (bs.all id))
  | .any, .list xs => op ((boolsOf xs).map fun bs => .bool (bs.any id))
  | .isi t, d => .ok (.bool (isiD t d))
  | .lset, .list xs => gd (decide (xs.length < 64) && xs.all isNumD) (.ok (.int (dedup xs).length))
  | .sortk, .list xs => op (txtsOf xs) >>= fun ls => gd (decide (ls.length ≤ SZ) && ls.all fun z => decide (z.length ≤ SZ)) (.ok (.list ((ls.mergeSort (PySem.W.dataLe false keyL)).map PyData.str)))
  | _, _ => .bad

/-- a dict that must not be walked meanwhile -/
def needX : B → PyData → Bool
  | .list, .dict _ => true
  | .sorted, .dict _ => true
  | .sortk, _ => true
  | _, _ => false
/-! ### methods -/
inductive M where
  | join | split | count | index | replace | rstrip | upper | endswith | get | lcount
  deriving DecidableEq
def mtD : M → PyData → List PyData → R PyData
  | .join, .str s, [.str z] => gd (decide (z.length + z.length * s.length ≤ SZ)) (.ok (.str (Str.join s (PyProof.Rows.signs z))))
  | .join, .str s, [.list ds] => op (txtsOf ds) >>= fun ls => gd (decide ((ls.map (·.length)).sum + ls.length * s.length ≤ SZ)) (.ok (.str (Str.join s ls)))
  | .join, .str s, [.tuple ds] => op (txtsOf ds) >>= fun ls => gd (decide ((ls.map (·.length)).sum + ls.length * s.length ≤ SZ)) (.ok (.str (Str.join s ls)))
  | .count, .str s, [.str z] => .ok (.int (Txt.count s z))
  | .split, .str s, [.str z] => gd (decide (z.length ≠ 0 ∧ s.length + 2 ≤ SZ)) (.ok (.list ((Txt.split s z).map PyData.str)))
  | .replace, .str s, [.str y, .str z] => gd (decide (y ≠ z ∧ s.length + (s.length + 1) * z.length ≤ SZ)) (.ok (.str (Txt.replace s y z)))
  | .rstrip, .str s, [.str z] => gd (decide (s.length ≤ SZ)) (.ok (.str (Txt.rstripChars s z)))
  | .upper, .str s, [] => gd (decide (s.length ≤ 5000000)) (.ok (.str (Txt.upper s)))
  | .endswith, .str s, [.str z] => .ok (.bool (Txt.endswith s z))
  | .get, .dict kvs, [k, d] => gd (keyOk k) (.ok ((dGet kvs k).getD d))
  | .lcount, .list ds, [x] => gd (dOk 8 x && ds.all (dOk 8)) (.ok (.int ((ds.filter fun z => PyData.eqv z x).length : Nat)))
  | .index, .list ds, [.int k] => op (intsOf ds) >>= fun ns => op ((ns.findIdx? fun z => z == k).map fun i => .int (i : Nat))
  | _, _, _ => .bad

/-! ### terms -/
inductive T where
  | nm (i : Nat)
  | tp (is : List Nat)
  deriving DecidableEq
mutual
inductive E where
  | var (i : Nat)
  | cst (d : PyData)
  | bin (o : Operator) (a b : E)
  | neg (a : E)
  | not (a : E)
  | one (a : E)
  | and (a b : E)
  | or (a b : E)
  | cmp (o : CmpOp) (a b : E)
  | chn (o o' : CmpOp) (a b c : E)
  | tup (es : Es)
  | lst (es : Es)
  | dic
  | idx (a i : E)
  | slc (a lo hi : E)
  | non
  | rev (a : E)
  | fn (f : Nat) (es : Es)
  | b1 (b : B) (a : E)
  | mx (a b : E)
  | mt (m : M) (a : E) (es : Es)
  | mix (i : Nat) (k : E)
  | told (f : Nat) (es : Es)
  | cmp0 (elt : E) (t : T) (it : I)
  | cmp1 (elt : E) (t : T) (it : I) (c : E)
inductive Es where
  | nil
  | cons (e : E) (es : Es)
inductive I where
  | val (e : E)
  | rng1 (a : E)
  | rng2 (a b : E)
  | enm (e : E)
  | zip (a b : E)
end

/-- a slot: how it is held (0: as it is, 1: a list or dict that nobody else holds, 2: such a dict of such lists), and its data -/
abbrev Env := List (Option (Nat × PyData))
def Env.get (ρ : Env) (i : Nat) : R PyData := match ρ[i]? with
  | some (some (0, d)) => .ok d
  | some (some (1, d)) => .ok d
  | _ => .bad
def Env.put (ρ : Env) (i : Nat) (o : Nat) (d : PyData) : R Env := gd (decide (i < ρ.length)) (.ok (ρ.set i (some (o, d))))
def putAll : List Nat → List PyData → Env → R Env
  | [], [], ρ => .ok ρ
  | i :: is, d :: ds, ρ => Env.put ρ i 0 d >>= putAll is ds
  | _, _, _ => .bad
def bindT : T → PyData → Env → R Env
  | .nm i, d, ρ => Env.put ρ i 0 d
  | .tp is, .tuple ds, ρ => putAll is ds ρ
  | _, _, _ => .bad
/-- names, of a tuple or of a list -/
def bindA (is : List Nat) : PyData → Env → R Env
  | .tuple ds, ρ => putAll is ds ρ
  | .list ds, ρ => putAll is ds ρ
  | _, _ => .bad
def T.slots : T → List Nat
  | .nm i => [i]
  | .tp is => is
/-- the comprehension's own slots forgotten -/
def wipeE (ρ : Env) : List Nat → Env
  | [] => ρ
  | v :: vs => (wipeE ρ vs).set v none

/-- names read in a place where the thing itself may be kept -/
def isVar : E → Bool
  | .var _ => true
  | _ => false
def isNon : E → Bool
  | .non => true
  | _ => false
def inOp : CmpOp → Bool
  | .In => true
  | .NotIn => true
  | _ => false
mutual
def gens : E → List Nat
  | .var i => [i]
  | .cst _ => []
  | .bin _ a b => gens a ++ gens b
  | .neg a => gens a
  | .not a => gens a
  | .one a => gens a
  | .and a b => gens a ++ gens b
  | .or a b => gens a ++ gens b
  | .cmp o a b => gens a ++ cond (inOp o && isVar b) [] (gens b)
  | .chn _ _ a b c => gens a ++ gens b ++ gens c
  | .tup es => gensL es
  | .lst es => gensL es
  | .dic => []
  | .idx a i => cond (isVar a) [] (gens a) ++ gens i
  | .slc a lo hi => gens a ++ gens lo ++ gens hi
  | .non => []
  | .rev a => gens a
  | .fn _ es => gensL es
  | .b1 b a => cond (b == .len && isVar a) [] (gens a)
  | .mx a b => gens a ++ gens b
  | .mt m a es => cond (m == .get && isVar a) [] (gens a) ++ gensL es
  | .mix _ k => gens k
  | .told _ es => gensL es
  | .cmp0 elt t it => gensI it ++ gens elt
  | .cmp1 elt t it c => gensI it ++ gens elt ++ gens c
def gensL : Es → List Nat
  | .nil => []
  | .cons e es => gens e ++ gensL es
def gensI : I → List Nat
  | .val e => gens e
  | .rng1 a => gens a
  | .rng2 a b => gens a ++ gens b
  | .enm e => gens e
  | .zip a b => gens a ++ gens b
end

/-- what stands around: how a def answers; whether no dict is being walked -/
structure C where
  call : Nat → List PyData → R PyData
  nl : Bool
def C.lock (c : C) : C := ⟨fun _ _ => .bad, false⟩

/-- a drawn number -/
def mixedF (ns : List Int) (k : Int) : Int :=
  let drawn := ((if k < (ns.length : Int) then ns.getD k.toNat 0 else 0) + 7919 * k + 1) * 48271 % 2147483647
  (drawn * drawn + 7 * drawn + k) % 2147483629
def mixE (ρ : Env) (i : Nat) (k : PyData) : R PyData := match ρ[i]?, k with
  | some (some (0, .list ds)), .int k => gd (decide (0 ≤ k ∧ k < 1000000)) (op ((intsOf ds).map fun ns => .int (mixedF ns k)))
  | some (some (3, .list ds)), .int k => gd (decide (0 ≤ k ∧ k < 1000000)) (op ((intsOf ds).map fun ns => .int (mixedF ns k)))
  | _, _ => .bad
def boolD : PyData → R Bool
  | .bool b => .ok b
  | _ => .bad
def intOf : PyData → R Int
  | .int i => .ok i
  | _ => .bad
def partD : Bool → PyData → R (Option Int)
  | true, _ => .ok none
  | false, .int i => .ok (some i)
  | _, _ => .bad
/-- the items of what is walked -/
def walkD : PyData → R (List PyData)
  | .list xs => .ok xs
  | .tuple xs => .ok xs
  | .str z => .ok ((chs z).map fun c => tx [c])
  | _ => .bad
def seqD : PyData → R (List PyData)
  | .list xs => .ok xs
  | .tuple xs => .ok xs
  | .str z => .ok ((chs z).map fun c => tx [c])
  | _ => .bad
def rngD (lo hi : Int) : R (List PyData) := gd (decide (-(2 ^ 62) ≤ lo ∧ lo < 2 ^ 62 ∧ -(2 ^ 62) ≤ hi ∧ hi < 2 ^ 62)) (.ok ((List.range (hi - lo).toNat).map fun (k : Nat) => .int (lo + (k : Int))))
def enmD (xs : List PyData) : List PyData := xs.zipIdx.map fun p => .tuple [.int (p.2 : Int), p.1]
def zipD (xs ys : List PyData) : List PyData := (xs.zip ys).map fun p => .tuple [p.1, p.2]
def collect (f : PyData → R (Option PyData)) : List PyData → R (List PyData)
  | [] => .ok []
  | d :: ds => do
    let r ← f d
    let rs ← collect f ds
    .ok (match r with | some y => y :: rs | none => rs)
def dictKeys : PyData → Option (List PyData)
  | .dict kvs => some (kvs.map (·.1))
  | _ => none

/-- what _law_told makes of a call -/
def toldR : R PyData → R PyData
  | .ok d => .ok (.tuple [.str "told", d])
  | .err k => gd (decide (k < 5)) (.ok (.tuple [.str "refused", .int (k : Int)]))
  | .bad => .bad
mutual
def ev (c : C) (ρ : Env) : E → R PyData
  | .var i => Env.get ρ i
  | .cst d => .ok d
  | .bin o a b => do binD o (← ev c ρ a) (← ev c ρ b)
  | .neg a => do negD (← ev c ρ a)
  | .not a => do .ok (.bool (!(← boolD (← ev c ρ a))))
  | .one a => ev c ρ a
  | .and a b => do
    match ← boolD (← ev c ρ a) with
    | true => ev c ρ b
    | false => .ok (.bool false)
  | .or a b => do
    match ← boolD (← ev c ρ a) with
    | true => .ok (.bool true)
    | false => ev c ρ b
  | .cmp o a b => do .ok (.bool (← cmpB o (← ev c ρ a) (← ev c ρ b)))
  | .chn o o' a b d => do
    let x ← ev c ρ a
    let y ← ev c ρ b
    match ← cmpB o x y with
    | true => do .ok (.bool (← cmpB o' y (← ev c ρ d)))
    | false => .ok (.bool false)
  | .tup es => do .ok (.tuple (← evs c ρ es))
  | .lst es => do .ok (.list (← evs c ρ es))
  | .dic => .ok (.dict [])
  | .idx a i => do idxD (← ev c ρ a) (← ev c ρ i)
  | .slc a lo hi => do
    let x ← ev c ρ a
    let l ← partD (isNon lo) (← ev c ρ lo)
    let h ← partD (isNon hi) (← ev c ρ hi)
    slcD x l h
  | .non => .ok .none
  | .rev a => do revD (← ev c ρ a)
  | .fn f es => do
    let xs ← evs c ρ es
    gd c.nl (c.call f xs)
  | .b1 b a => do
    let x ← ev c ρ a
    gd (c.nl || !needX b x) (b1D b x)
  | .mx a b => do
    let i ← intOf (← ev c ρ a)
    let j ← intOf (← ev c ρ b)
    .ok (.int (if j > i then j else i))
  | .mt m a es => do
    let x ← ev c ρ a
    mtD m x (← evs c ρ es)
  | .mix i k => do mixE ρ i (← ev c ρ k)
  | .told f es => do
    let xs ← evs c ρ es
    gd c.nl (toldR (c.call f xs))
  | .cmp0 elt t it => do
    let (d, l) ← evi c ρ it
    let c' := if d then c.lock else c
    let xs ← collect (fun x => do
      let ρ' ← bindT t x (wipeE ρ t.slots)
      let y ← ev c' ρ' elt
      .ok (some y)) l
    gd (decide (l.length ≤ SZ)) (.ok (.list xs))
  | .cmp1 elt t it b => do
    let (d, l) ← evi c ρ it
    let c' := if d then c.lock else c
    let xs ← collect (fun x => do
      let ρ' ← bindT t x (wipeE ρ t.slots)
      match ← boolD (← ev c' ρ' b) with
      | true => do .ok (some (← ev c' ρ' elt))
      | false => .ok none) l
    gd (decide (l.length ≤ SZ)) (.ok (.list xs))
def evs (c : C) (ρ : Env) : Es → R (List PyData)
  | .nil => .ok []
  | .cons e es => do
    let x ← ev c ρ e
    let xs ← evs c ρ es
    .ok (x :: xs)
/-- the items, and whether they are a dict's keys -/
def evi (c : C) (ρ : Env) : I → R (Bool × List PyData)
  | .val e => do
    let d ← ev c ρ e
    match dictKeys d with
    | some ks => gd (c.nl && isVar e) (.ok (true, ks))
    | none => do .ok (false, ← walkD d)
  | .rng1 a => do .ok (false, ← rngD 0 (← intOf (← ev c ρ a)))
  | .rng2 a b => do
    let lo ← intOf (← ev c ρ a)
    let hi ← intOf (← ev c ρ b)
    .ok (false, ← rngD lo hi)
  | .enm e => do .ok (false, enmD (← seqD (← ev c ρ e)))
  | .zip a b => do
    let x ← ev c ρ a
    let y ← ev c ρ b
    .ok (false, zipD (← seqD x) (← seqD y))
end

/-- a call that stands alone may be refused -/
def evT (c : C) (ρ : Env) : E → R PyData
  | .fn f (.cons (.fn g es) .nil) => nE (evs c ρ es) >>= fun xs => gd c.nl (c.call g xs) >>= fun y => gd c.nl (c.call f [y])
  | .fn f es => nE (evs c ρ es) >>= fun xs => gd c.nl (c.call f xs)
  | e => nE (ev c ρ e)
def eviT (c : C) (ρ : Env) : I → R (Bool × List PyData)
  | .enm e => evT c ρ e >>= fun d => nE (seqD d) >>= fun l => .ok (false, enmD l)
  | it => nE (evi c ρ it)
/-! ### statements -/
mutual
inductive S where
  | asg (t : T) (e : E)
  | par (i j : Nat) (a b : E)
  | seti (i : Nat) (k e : E)
  | app (i : Nat) (e : E)
  | ext (i : Nat) (e : E)
  | note (b : Nat) (k x : E)
  | exp (e : E)
  | ret (e : E)
  | ife (c : E) (a b : Ss)
  | fore (t : T) (it : I) (b : Ss)
  | cont
  | pass
  | rse (c : Nat)
inductive Ss where
  | nil
  | cons (s : S) (r : Ss)
end
inductive Fl where
  | nx (ρ : Env)
  | ct (ρ : Env)
  | rt (d : PyData)
def frz1 (ρ : Env) (i : Nat) : Env := match ρ[i]? with
  | some (some (1, d)) => ρ.set i (some (0, d))
  | some (some (2, d)) => ρ.set i (some (0, d))
  | _ => ρ
def frz : List Nat → Env → Env
  | [], ρ => ρ
  | i :: is, ρ => frz is (frz1 ρ i)
/-- a list or dict that is new -/
def fresh : E → Bool
  | .lst _ => true
  | .dic => true
  | .cmp0 _ _ _ => true
  | .cmp1 _ _ _ _ => true
  | .bin .Add _ _ => true
  | _ => false
def ownOf (e : E) (d : PyData) : Nat := match fresh e, d with
  | true, .list _ => 1
  | true, .dict _ => 1
  | _, _ => 0
/-- what was not there ahead of the loop is forgotten -/
def restr : Env → Env → Env
  | some _ :: r0, b :: r => b :: restr r0 r
  | none :: r0, _ :: r => none :: restr r0 r
  | [], _ :: r => none :: restr [] r
  | _, [] => []
def loop (f : PyData → Env → R Fl) (ρ0 : Env) : List PyData → Env → R Fl
  | [], ρ => .ok (.nx ρ)
  | d :: ds, ρ => do
    match ← f d ρ with
    | .nx ρ' => loop f ρ0 ds (restr ρ0 ρ')
    | .ct ρ' => loop f ρ0 ds (restr ρ0 ρ')
    | .rt v => .ok (.rt v)
def setSlot (ρ : Env) (i : Nat) (k x : PyData) : R Env := match ρ[i]?, k with
  | some (some (1, .list xs)), .int n => op (L2.ixN xs.length n) >>= fun j => .ok (ρ.set i (some (1, .list (xs.set j x))))
  | some (some (1, .dict kvs)), k => gd (keyOk k && decide (kvs.length < SZ)) (.ok (ρ.set i (some (1, .dict (dPut kvs k x)))))
  | _, _ => .bad
def appSlot (ρ : Env) (i : Nat) (ys : List PyData) : R Env := match ρ[i]? with
  | some (some (1, .list xs)) => gd (decide (xs.length + ys.length < SZ)) (.ok (ρ.set i (some (1, .list (xs ++ ys)))))
  | _ => .bad
def listOf : PyData → R (List PyData)
  | .list xs => .ok xs
  | _ => .bad
/-- the first of a key is written, or it is put at the end -/
def dSet1 : List (PyData × PyData) → PyData → PyData → List (PyData × PyData)
  | [], k, v => [(k, v)]
  | p :: r, k, v => if keyEq p.1 k = true then (p.1, v) :: r else p :: dSet1 r k v
/-- if x not in b.setdefault(k, []): b[k].append(x) -/
def noteSlot (ρ : Env) (b : Nat) (k x : PyData) : R Env := match ρ[b]? with
  | some (some (o, .dict kvs)) => gd (keyOk k && decide (kvs.length < 1000000) && dOk 8 x && (o == 2 || (o == 1 && kvs.isEmpty)))
    (match (dGet kvs k).getD (.list []) with
     | .list xs => gd (decide (xs.length < 1000000) && xs.all (dOk 8)) (.ok (ρ.set b (some (2, .dict (dSet1 kvs k (.list (if xs.any (fun z => PyData.eqv z x) then xs else xs ++ [x])))))))
     | _ => .bad)
  | _ => .bad
mutual
def ex (c : C) (ρ : Env) : S → R Fl
  | .asg t e => do
    let ρ := frz (gens e) ρ
    let d ← evT c ρ e
    match t with
    | .nm i => do .ok (.nx (← Env.put ρ i (ownOf e d) d))
    | .tp is => do .ok (.nx (← bindA is d ρ))
  | .par i j a b => do
    let ρ := frz (gens a ++ gens b) ρ
    let x ← nE (ev c ρ a)
    let y ← nE (ev c ρ b)
    let ρ1 ← Env.put ρ i 0 x
    .ok (.nx (← Env.put ρ1 j 0 y))
  | .seti i k e => do
    let ρ := frz (gens k ++ gens e) ρ
    let x ← nE (ev c ρ e)
    let y ← nE (ev c ρ k)
    .ok (.nx (← setSlot ρ i y x))
  | .app i e => do
    let ρ := frz (gens e) ρ
    let x ← nE (ev c ρ e)
    .ok (.nx (← appSlot ρ i [x]))
  | .ext i e => do
    let ρ := frz (gens e) ρ
    let x ← listOf (← nE (ev c ρ e))
    .ok (.nx (← appSlot ρ i x))
  | .note b k x => do
    let ρ := frz (gens k ++ gens x) ρ
    let y ← nE (ev c ρ x)
    let z ← nE (ev c ρ k)
    .ok (.nx (← noteSlot ρ b z y))
  | .exp e => do
    let ρ := frz (gens e) ρ
    let _ ← evT c ρ e
    .ok (.nx ρ)
  | .ret e => do
    let ρ := frz (gens e) ρ
    .ok (.rt (← evT c ρ e))
  | .ife b s1 s2 => do
    let ρ := frz (gens b) ρ
    match ← boolD (← nE (ev c ρ b)) with
    | true => exs c ρ s1
    | false => exs c ρ s2
  | .fore t it b => do
    let ρ := frz (gensI it) ρ
    let (d, l) ← eviT c ρ it
    cond d (nE (loop (fun x ρ' => do
      let ρ1 ← bindT t x ρ'
      exs c.lock ρ1 b) ρ l ρ)) (loop (fun x ρ' => do
      let ρ1 ← bindT t x ρ'
      exs c ρ1 b) ρ l ρ)
  | .cont => .ok (.ct ρ)
  | .pass => .ok (.nx ρ)
  | .rse k => .err k
def exs (c : C) (ρ : Env) : Ss → R Fl
  | .nil => .ok (.nx ρ)
  | .cons s r => do
    match ← ex c ρ s with
    | .nx ρ' => exs c ρ' r
    | .ct ρ' => .ok (.ct ρ')
    | .rt d => .ok (.rt d)
end

structure Fn where
  np : Nat
  names : List Str
  body : Ss
def startE (n : Nat) (ds : List PyData) : Env := ds.map (fun d => some (0, d)) ++ List.replicate (n - ds.length) none
def run (c : C) (f : Fn) (ds : List PyData) : R PyData := gd (decide (ds.length = f.np)) (do
  match ← exs c (startE f.names.length ds) f.body with
  | .rt d => .ok d
  | .nx _ => .ok .none
  | .ct _ => .bad)
abbrev Tab := Nat → Option Fn
def callN (tb : Tab) : Nat → Nat → List PyData → R PyData
  | 0, _, _ => .bad
  | n + 1, f, ds => match tb f with
    | some fn => run ⟨callN tb n, true⟩ fn ds
    | none => .bad
/-! a try -/
example : ev ⟨fun _ _ => .bad, true⟩ [] (.bin .Add (.cst (.int 1)) (.cst (.int 2))) = .ok (.int 3) := by rfl
example : ex ⟨fun _ _ => .bad, true⟩ [none, none] (.fore (.nm 0) (.rng1 (.cst (.int 3))) (.cons (.asg (.nm 1) (.var 0)) .nil)) = .ok (.nx [none, none]) := by rfl
end TD
/-! How data stands in the abstract heap. -/
namespace TD
open PySem PySem.Spec PyProof.Rows L2

/-- a tuple counts when its object is known to have no dict of its own; a locked dict may be read -/
def stp : HO → HO
  | .frz _ (.dK kvs) => .dK kvs
  | .frz o (.tup xs) => match o.dict with
    | none => .tup xs
    | some _ => .own 0
  | .tup _ => .own 0
  | o => o
/-- the tables of code objects that lambdas are kept in, and the names of what they hold -/
class Tb where
  T : List (Addr × Str)
  /-- the classes of refusals, by their numbers -/
  cl : Nat → Value
def isT : HO → Bool
  | .tbl _ => true
  | _ => false
def noT : Option HO → Option HO
  | some (.tbl _) => none
  | x => x
theorem noT_some {x : Option HO} {o : HO} (h : noT x = some o) : x = some o ∧ isT o = false := by
  cases x with
  | none => cases h
  | some u => cases u <;> first
    | (cases h; exact ⟨rfl, rfl⟩)
    | cases h
theorem noT_of {o : HO} (h : isT o = false) : noT (some o) = some o := by
  cases o <;> first
    | rfl
    | cases h
/-- what may be read, but for the places of F -/
def vw (H : Hp) (F : List Addr) : Hp := fun a => if a ∈ F then none else (noT (H a)).map stp
/-- nothing stands there, or a table -/
def Nw (H : Hp) (a : Addr) : Prop := ∀ o, H a = some o → isT o = true
theorem Nw.of {H : Hp} {a : Addr} (h : H a = none) : Nw H a := fun o e => by
  rw [h] at e
  cases e
theorem Nw.no {H : Hp} {a : Addr} {o : HO} (h : Nw H a) (e : H a = some o) (i : isT o = false) : False := by
  rw [h o e] at i
  cases i
structure NL [Tb] (H : Hp) : Prop where
  lk : ∀ a o u, H a ≠ some (.frz o (.dK u))
  tb : LamX.Tabs Tb.T H
/-- nothing new is locked; the tables stay tables -/
structure Nz [Tb] (H H' : Hp) : Prop where
  lk : ∀ a o u, H' a = some (.frz o (.dK u)) → H a = some (.frz o (.dK u))
  tb : LamX.Tabs Tb.T H → LamX.Tabs Tb.T H'
/-- all but the tables stays -/
def Sm (H H' : Hp) : Prop := ∀ b o, H b = some o → isT o = false → H' b = some o
theorem Sm.refl (H : Hp) : Sm H H := fun _ _ h _ => h
theorem Sm.trans {H H1 H2 : Hp} (a : Sm H H1) (b : Sm H1 H2) : Sm H H2 := fun x o h i => b x o (a x o h i) i
theorem Sm.free {H H' : Hp} (a : Sm H H') {p : Addr} (h : Nw H' p) : Nw H p := fun o e => by
  cases q : isT o with
  | true => rfl
  | false => exact (h.no (a p o e q) q).elim
theorem Sm.of {H H' : Hp} (a : Same H H') : Sm H H' := fun b o h _ => a b o h
/-- neither a table nor what a table holds -/
def plO : HO → Bool
  | .tbl _ => false
  | .ext _ => false
  | _ => true
theorem plO_T {o : HO} (h : plO o = true) : isT o = false := by
  cases o <;> first
    | rfl
    | cases h
theorem tabs_put {T : List (Addr × Str)} {H : Hp} {p : Addr} {o : HO} (t : LamX.Tabs T H) (h : ∀ x, H p = some x → plO x = true) : LamX.Tabs T (upd H p o) := fun q hq => by
  obtain ⟨ps, h1, h2, h3⟩ := t q hq
  have ne : q.1 ≠ p := fun z => by
    rw [z] at h1
    have := h _ h1
    cases this
  refine ⟨ps, by rw [upd_ne ne]; exact h1, h2, fun pos cv hc => ?_⟩
  obtain ⟨c, e1, e2⟩ := h3 pos cv hc
  have ne2 : c ≠ p := fun z => by
    rw [z] at e2
    have := h _ e2
    cases this
  exact ⟨c, e1, by rw [upd_ne ne2]; exact e2⟩
section
variable [Tb]
theorem Nz.nl {H H' : Hp} (z : Nz H H') (h : NL H) : NL H' := ⟨fun a o u e => h.lk a o u (z.lk a o u e), z.tb h.tb⟩
theorem Nz.refl (H : Hp) : Nz H H := ⟨fun _ _ _ e => e, fun t => t⟩
theorem Nz.trans {H H1 H2 : Hp} (a : Nz H H1) (b : Nz H1 H2) : Nz H H2 := ⟨fun x o u e => a.lk x o u (b.lk x o u e), fun t => b.tb (a.tb t)⟩
theorem Nz.put {H H' : Hp} {p : Addr} {o : HO} (z : Nz H H') (hf : ∀ ob u, o ≠ .frz ob (.dK u)) (hp : ∀ x, H' p = some x → plO x = true) : Nz H (upd H' p o) := ⟨fun a ob u e => by
  by_cases ha : a = p
  · subst ha
    rw [upd_same] at e
    exact absurd (Option.some.inj e) (hf ob u)
  · rw [upd_ne ha] at e
    exact z.lk a ob u e, fun t => tabs_put (z.tb t) hp⟩
theorem none_pl {H : Hp} {p : Addr} (n : H p = none) : ∀ x, H p = some x → plO x = true := fun x e => by
  rw [n] at e
  cases e
theorem some_pl {H : Hp} {p : Addr} {o : HO} (n : H p = some o) (h : plO o = true) : ∀ x, H p = some x → plO x = true := fun x e => by
  rw [n] at e
  cases e
  exact h
structure Gr (H H' : Hp) : Prop where
  same : Sm H H'
  nz : Nz H H'
theorem Gr.nl {H H' : Hp} (g : Gr H H') : NL H → NL H' := g.nz.nl
theorem Gr.refl (H : Hp) : Gr H H := ⟨Sm.refl H, Nz.refl H⟩
theorem Gr.trans {H H1 H2 : Hp} (a : Gr H H1) (b : Gr H1 H2) : Gr H H2 := ⟨a.same.trans b.same, a.nz.trans b.nz⟩
theorem Gr.laid {H : Hp} {p : Addr} {o : HO} (n : H p = none) (hf : ∀ ob u, o ≠ .frz ob (.dK u)) : Gr H (upd H p o) := by
  refine ⟨fun b x e _ => ?_, Nz.put (Nz.refl H) hf (none_pl n)⟩
  rw [upd_ne (ne_of_none e n)]
  exact e
end
/-- F stands in the heap -/
def Dm (F : List Addr) (H : Hp) : Prop := ∀ a ∈ F, ∃ o, H a = some o ∧ isT o = false
theorem Dm.gr {F : List Addr} {H H' : Hp} (d : Dm F H) (g : Sm H H') : Dm F H' := fun a ha => by
  obtain ⟨o, h, i⟩ := d a ha
  exact ⟨o, g a o h i, i⟩
theorem Dm.nw {F : List Addr} {H : Hp} (d : Dm F H) {p : Addr} (n : Nw H p) : p ∉ F := fun h => by
  obtain ⟨o, e, i⟩ := d p h
  exact n.no e i
theorem Dm.notin {F : List Addr} {H : Hp} (d : Dm F H) {p : Addr} (n : H p = none) : p ∉ F := d.nw (Nw.of n)
theorem vw_some {H : Hp} {F : List Addr} {a : Addr} {o : HO} (h : vw H F a = some o) : a ∉ F ∧ (noT (H a)).map stp = some o := by
  unfold vw at h
  by_cases ha : a ∈ F
  · rw [if_pos ha] at h
    cases h
  · rw [if_neg ha] at h
    exact ⟨ha, h⟩
/-- what stands behind the view -/
theorem vw_ex {H : Hp} {F : List Addr} {a : Addr} {o : HO} (h : vw H F a = some o) : a ∉ F ∧ ∃ u, H a = some u ∧ isT u = false ∧ stp u = o := by
  obtain ⟨h1, h2⟩ := vw_some h
  obtain ⟨u, h3, h4⟩ := Option.map_eq_some_iff.mp h2
  obtain ⟨h5, h6⟩ := noT_some h3
  exact ⟨h1, u, h5, h6, h4⟩
theorem vw_of {H : Hp} {F : List Addr} {a : Addr} {o : HO} (ha : a ∉ F) (h : H a = some o) (i : isT o = false := by rfl) : vw H F a = some (stp o) := by
  unfold vw
  rw [if_neg ha, h, noT_of i]
  rfl
theorem sameVw {H H' : Hp} (g : Sm H H') (F : List Addr) : Same (vw H F) (vw H' F) := fun b o h => by
  obtain ⟨hb, u, q, i, e⟩ := vw_ex h
  rw [← e]
  exact vw_of hb (g b u q i) i
theorem vw_sub {H : Hp} {F F' : List Addr} (h : ∀ a ∈ F', a ∈ F) : Same (vw H F) (vw H F') := fun b o e => by
  obtain ⟨hb, u, q, i, e⟩ := vw_ex e
  rw [← e]
  exact vw_of (fun z => hb (h b z)) q i
theorem stp_lst {o : HO} {xs : List V} (h : stp o = .lst xs) : o = .lst xs := by
  unfold stp at h
  split at h
  · cases h
  · split at h
    · cases h
    · cases h
  · cases h
  · exact h
theorem stp_tup {o : HO} {xs : List V} (h : stp o = .tup xs) : ∃ ob : Obj, o = .frz ob (.tup xs) ∧ ob.dict = none := by
  unfold stp at h
  split at h
  · cases h
  · split at h
    · rename_i q
      cases h
      exact ⟨_, rfl, q⟩
    · cases h
  · cases h
  · rename_i h1 h2 h3
    exact absurd h (h3 xs)
theorem stp_dK {o : HO} {xs : List (Key × V)} (h : stp o = .dK xs) : o = .dK xs ∨ ∃ ob, o = .frz ob (.dK xs) := by
  unfold stp at h
  split at h
  · cases h
    exact .inr ⟨_, rfl⟩
  · split at h
    · cases h
    · cases h
  · cases h
  · exact .inl h
theorem stp_tupF {o : Obj} {xs : List V} (h : o.dict = none) : stp (.frz o (.tup xs)) = .tup xs := by
  show (match o.dict with | none => HO.tup xs | some _ => HO.own 0) = _
  rw [h]
/-- a tuple whose object has no dict -/
def TupAt (H : Hp) (a : Addr) (xs : List V) : Prop := ∃ o : Obj, H a = some (.frz o (.tup xs)) ∧ o.dict = none
theorem ex_vw {H : Hp} {F : List Addr} {a : Addr} {o : HO} (h : vw H F a = some o) (hs : ∀ u, stp u = o → u = o) : H a = some o := by
  obtain ⟨_, u, q, _, e⟩ := vw_ex h
  rw [q, hs u e]
theorem rd_vw {H : Hp} {F : List Addr} {a : Addr} {o : HO} (h : vw H F a = some o) (hs : ∀ u, stp u = o → u = o ∨ ∃ ob, u = .frz ob o) : Rd H a o := by
  obtain ⟨_, u, q, _, e⟩ := vw_ex h
  rcases hs u e with rfl | ⟨ob, rfl⟩
  · exact .inl q
  · exact .inr ⟨ob, q⟩

/-- a list of the module's own -/
def KLs (K : PySem.W.Frag) (a : Addr) (xs : List V) : Prop :=
  ∃ (o : Obj) (its : Array Value) (n : Nat), K.lookup a = some o ∧ o.cls = .type "list" ∧ o.dict = none ∧ o.data = .seq its n ∧ its.size ≤ sizeLine ∧ Vals xs its.toList
def keyD : Key → PyData
  | .inl i => .int i
  | .inr x => .str x
mutual
inductive Rp (M : Hp) : V → PyData → Prop
  | non : Rp M .non .none
  | bl (b : Bool) : Rp M (.bl b) (.bool b)
  | int (i : Int) : Rp M (.int i) (.int i)
  | str (x : Str) : Rp M (.str x) (.str x)
  | lst {a : Addr} {xs : List V} {ds : List PyData} : M a = some (.lst xs) → RpAll M xs ds → Rp M (.ref a) (.list ds)
  | tup {a : Addr} {xs : List V} {ds : List PyData} : M a = some (.tup xs) → RpAll M xs ds → Rp M (.ref a) (.tuple ds)
  | dct {a : Addr} {kvs : List (Key × V)} {ps : List (PyData × PyData)} : M a = some (.dK kvs) → RpKV M kvs ps → Rp M (.ref a) (.dict ps)
inductive RpAll (M : Hp) : List V → List PyData → Prop
  | nil : RpAll M [] []
  | cons {v : V} {vs : List V} {d : PyData} {ds : List PyData} : Rp M v d → RpAll M vs ds → RpAll M (v :: vs) (d :: ds)
inductive RpKV (M : Hp) : List (Key × V) → List (PyData × PyData) → Prop
  | nil : RpKV M [] []
  | cons {k : Key} {v : V} {r : List (Key × V)} {d : PyData} {ps : List (PyData × PyData)} : Rp M v d → RpKV M r ps → RpKV M ((k, v) :: r) ((keyD k, d) :: ps)
end
section
variable {M M' : Hp}
mutual
theorem Rp.mono (g : Same M M') : ∀ {v : V} {d : PyData}, Rp M v d → Rp M' v d
  | _, _, .non => .non
  | _, _, .bl b => .bl b
  | _, _, .int i => .int i
  | _, _, .str x => .str x
  | _, _, .lst h a => .lst (g _ _ h) (a.mono g)
  | _, _, .tup h a => .tup (g _ _ h) (a.mono g)
  | _, _, .dct h a => .dct (g _ _ h) (a.mono g)
theorem RpAll.mono (g : Same M M') : ∀ {vs : List V} {ds : List PyData}, RpAll M vs ds → RpAll M' vs ds
  | _, _, .nil => .nil
  | _, _, .cons h a => .cons (h.mono g) (a.mono g)
theorem RpKV.mono (g : Same M M') : ∀ {vs : List (Key × V)} {ds : List (PyData × PyData)}, RpKV M vs ds → RpKV M' vs ds
  | _, _, .nil => .nil
  | _, _, .cons h a => .cons (h.mono g) (a.mono g)
end
theorem RpAll.length : ∀ {vs : List V} {ds : List PyData}, RpAll M vs ds → vs.length = ds.length
  | _, _, .nil => rfl
  | _, _, .cons _ a => by rw [List.length_cons, List.length_cons, a.length]
theorem RpKV.length : ∀ {vs : List (Key × V)} {ds : List (PyData × PyData)}, RpKV M vs ds → vs.length = ds.length
  | _, _, .nil => rfl
  | _, _, .cons _ a => by rw [List.length_cons, List.length_cons, a.length]
theorem RpAll.get : ∀ {vs : List V} {ds : List PyData} {i : Nat} {d : PyData}, RpAll M vs ds → ds[i]? = some d → ∃ v, vs[i]? = some v ∧ Rp M v d
  | _, _, _, _, .nil, e => by simp at e
  | _, _, 0, d, .cons (v := v) h _, e => ⟨v, rfl, by
    have : _ = d := Option.some.inj e
    rw [← this]
    exact h⟩
  | _, _, i + 1, _, .cons _ a, e => a.get (i := i) e
theorem RpAll.getV : ∀ {vs : List V} {ds : List PyData} {i : Nat} {v : V}, RpAll M vs ds → vs[i]? = some v → ∃ d, ds[i]? = some d ∧ Rp M v d
  | _, _, _, _, .nil, e => by simp at e
  | _, _, 0, v, .cons (d := d) h _, e => ⟨d, rfl, by
    have : _ = v := Option.some.inj e
    rw [← this]
    exact h⟩
  | _, _, i + 1, _, .cons _ a, e => a.getV (i := i) e
theorem RpAll.append : ∀ {vs us : List V} {ds es : List PyData}, RpAll M vs ds → RpAll M us es → RpAll M (vs ++ us) (ds ++ es)
  | _, _, _, _, .nil, b => b
  | _, _, _, _, .cons h a, b => .cons h (a.append b)
theorem RpAll.drop : ∀ {vs : List V} {ds : List PyData} (n : Nat), RpAll M vs ds → RpAll M (vs.drop n) (ds.drop n)
  | _, _, 0, a => a
  | _, _, _ + 1, .nil => .nil
  | _, _, n + 1, .cons _ a => a.drop n
theorem RpAll.take : ∀ {vs : List V} {ds : List PyData} (n : Nat), RpAll M vs ds → RpAll M (vs.take n) (ds.take n)
  | _, _, 0, _ => .nil
  | _, _, _ + 1, .nil => .nil
  | _, _, n + 1, .cons h a => .cons h (a.take n)
theorem RpAll.set : ∀ {vs : List V} {ds : List PyData} {v : V} {d : PyData} (n : Nat), RpAll M vs ds → Rp M v d → RpAll M (vs.set n v) (ds.set n d)
  | _, _, _, _, _, .nil, _ => .nil
  | _, _, _, _, 0, .cons _ a, r => .cons r a
  | _, _, _, _, n + 1, .cons h a, r => .cons h (a.set n r)
theorem RpAll.flat : ∀ (n : Nat) {vs : List V} {ds : List PyData}, RpAll M vs ds → RpAll M (List.replicate n vs).flatten (List.replicate n ds).flatten
  | 0, _, _, _ => .nil
  | n + 1, _, _, a => by
    rw [List.replicate_succ, List.replicate_succ, List.flatten_cons, List.flatten_cons]
    exact a.append (RpAll.flat n a)
theorem RpAll.reverse : ∀ {vs : List V} {ds : List PyData}, RpAll M vs ds → RpAll M vs.reverse ds.reverse
  | _, _, .nil => .nil
  | _, _, .cons h a => by
    rw [List.reverse_cons, List.reverse_cons]
    exact a.reverse.append (.cons h .nil)
theorem RpAll.cut {vs : List V} {ds : List PyData} (a : RpAll M vs ds) (lo hi : Option Int) : RpAll M (cutV vs lo hi) (TD.cut ds lo hi) := by
  unfold cutV TD.cut
  rw [a.length]
  exact (a.drop _).take _
theorem RpAll.atI {vs : List V} {ds : List PyData} {i : Int} {d : PyData} (a : RpAll M vs ds) (h : L2.atI ds i = some d) : ∃ v, L2.atI vs i = some v ∧ Rp M v d := by
  unfold L2.atI at h ⊢
  rw [a.length]
  cases q : ixN ds.length i with
  | none =>
    rw [q] at h
    cases h
  | some j =>
    rw [q] at h
    exact a.get h
theorem RpAll.ints : ∀ {vs : List V} {ds : List PyData} {ns : List Int}, RpAll M vs ds → intsOf ds = some ns → vs = ns.map V.int
  | _, _, ns, .nil, e => by
    have : [] = ns := Option.some.inj e
    rw [← this]
    rfl
  | _, _, ns, .cons h a, e => by
    cases h with
    | int i =>
      rename_i vs ds
      cases q : intsOf ds with
      | none =>
        rw [intsOf, q] at e
        cases e
      | some ms =>
        rw [intsOf, q] at e
        have e' : i :: ms = ns := Option.some.inj e
        rw [← e', a.ints q]
        rfl
    | _ => simp [intsOf] at e
theorem RpAll.bools : ∀ {vs : List V} {ds : List PyData} {ns : List Bool}, RpAll M vs ds → boolsOf ds = some ns → vs = ns.map V.bl
  | _, _, ns, .nil, e => by
    have : [] = ns := Option.some.inj e
    rw [← this]
    rfl
  | _, _, ns, .cons h a, e => by
    cases h with
    | bl i =>
      rename_i vs ds
      cases q : boolsOf ds with
      | none =>
        rw [boolsOf, q] at e
        cases e
      | some ms =>
        rw [boolsOf, q] at e
        have e' : i :: ms = ns := Option.some.inj e
        rw [← e', a.bools q]
        rfl
    | _ => simp [boolsOf] at e
theorem RpAll.strs : ∀ {vs : List V} {ds : List PyData} {ns : List (List Nat)}, RpAll M vs ds → strsOf ds = some ns → ∃ ss : List Str, vs = ss.map V.str ∧ ns = ss.map chs
  | _, _, ns, .nil, e => by
    have : [] = ns := Option.some.inj e
    exact ⟨[], rfl, this.symm⟩
  | _, _, ns, .cons h a, e => by
    cases h with
    | str i =>
      rename_i vs ds
      cases q : strsOf ds with
      | none =>
        rw [strsOf, q] at e
        cases e
      | some ms =>
        rw [strsOf, q] at e
        have e' : chs i :: ms = ns := Option.some.inj e
        obtain ⟨ss, h1, h2⟩ := a.strs q
        refine ⟨i :: ss, ?_, ?_⟩
        · rw [h1]
          rfl
        · rw [← e', h2]
          rfl
    | _ => simp [strsOf] at e
end
/-! ### the view and HandS's own readings -/
section
variable [Tb] {K : PySem.W.Frag} {H H' : Hp} {F F' : List Addr} {v : V} {d : PyData}
theorem sqL_vw {a : Addr} {xs : List V} (h : vw H F a = some (.lst xs)) : SqL K H a xs := .inl (.inl (ex_vw h fun _ => stp_lst))
theorem tupAt_vw {a : Addr} {xs : List V} (h : vw H F a = some (.tup xs)) : TupAt H a xs := by
  obtain ⟨_, u, q, _, e⟩ := vw_ex h
  obtain ⟨ob, rfl, hd⟩ := stp_tup e
  exact ⟨ob, q, hd⟩
theorem TupAt.sq {a : Addr} {xs : List V} (h : TupAt H a xs) : SqT K H a xs := let ⟨o, e, _⟩ := h; .inl (.inr ⟨o, e⟩)
theorem sqT_vw {a : Addr} {xs : List V} (h : vw H F a = some (.tup xs)) : SqT K H a xs := (tupAt_vw h).sq
theorem rdD_vw {a : Addr} {xs : List (Key × V)} (h : vw H F a = some (.dK xs)) : Rd H a (.dK xs) := rd_vw h fun _ => stp_dK
theorem Rp.gr (r : Rp (vw H F) v d) (g : Gr H H') : Rp (vw H' F) v d := r.mono (sameVw g.same F)
theorem RpAll.gr {vs : List V} {ds : List PyData} (r : RpAll (vw H F) vs ds) (g : Gr H H') : RpAll (vw H' F) vs ds := r.mono (sameVw g.same F)
theorem RpKV.gr {vs : List (Key × V)} {ds : List (PyData × PyData)} (r : RpKV (vw H F) vs ds) (g : Gr H H') : RpKV (vw H' F) vs ds := r.mono (sameVw g.same F)
theorem Rp.sub (r : Rp (vw H F) v d) (h : ∀ a ∈ F', a ∈ F) : Rp (vw H F') v d := r.mono (vw_sub h)
theorem Rp.list {ds : List PyData} (r : Rp (vw H F) v (.list ds)) : ∃ a xs, v = .ref a ∧ H a = some (.lst xs) ∧ RpAll (vw H F) xs ds := by
  cases r with
  | lst h a => exact ⟨_, _, rfl, ex_vw h fun _ => stp_lst, a⟩
theorem Rp.tuple {ds : List PyData} (r : Rp (vw H F) v (.tuple ds)) : ∃ a xs, v = .ref a ∧ TupAt H a xs ∧ RpAll (vw H F) xs ds := by
  cases r with
  | tup h a => exact ⟨_, _, rfl, tupAt_vw h, a⟩
theorem Rp.dict {ps : List (PyData × PyData)} (r : Rp (vw H F) v (.dict ps)) : ∃ a kvs, v = .ref a ∧ Rd H a (.dK kvs) ∧ RpKV (vw H F) kvs ps := by
  cases r with
  | dct h a => exact ⟨_, _, rfl, rdD_vw h, a⟩
theorem Rp.bool {b : Bool} (r : Rp (vw H F) v (.bool b)) : v = .bl b := by cases r; rfl
theorem Rp.intV {b : Int} (r : Rp (vw H F) v (.int b)) : v = .int b := by cases r; rfl
theorem Rp.strV {b : Str} (r : Rp (vw H F) v (.str b)) : v = .str b := by cases r; rfl
theorem Rp.noneV (r : Rp (vw H F) v .none) : v = .non := by cases r; rfl
mutual
theorem Rp.dp : ∀ {v : V} {d : PyData}, d.plain = true → Rp (vw H F) v d → Dp K H v d
  | _, _, _, .non => .non
  | _, _, _, .bl b => .bl b
  | _, _, _, .int i => .int i
  | _, _, _, .str x => .str x
  | _, _, p, .lst h a => .lst (sqL_vw h) (RpAll.dp (by simpa [PyData.plain] using p) a)
  | _, _, p, .tup h a => .tup (sqT_vw h) (RpAll.dp (by simpa [PyData.plain] using p) a)
  | _, _, p, .dct _ _ => by simp [PyData.plain] at p
theorem RpAll.dp : ∀ {vs : List V} {ds : List PyData}, PyData.plainAll ds = true → RpAll (vw H F) vs ds → DpAll K H vs ds
  | _, _, _, .nil => .nil
  | _, _, p, .cons h a => by
    simp only [PyData.plainAll, Bool.and_eq_true] at p
    exact .cons (Rp.dp p.1 h) (RpAll.dp p.2 a)
end
/-- a new list, a new tuple -/
theorem Rp.newL {p : Addr} {xs : List V} {ds : List PyData} (dm : Dm F H) (n : H p = none) (a : RpAll (vw H F) xs ds) : Gr H (upd H p (.lst xs)) ∧ Rp (vw (upd H p (.lst xs)) F) (.ref p) (.list ds) := by
  have g : Gr H (upd H p (.lst xs)) := Gr.laid n fun _ _ z => nomatch z
  exact ⟨g, .lst (vw_of (dm.notin n) upd_same) (a.gr g)⟩
theorem Rp.newT {p : Addr} {o : Obj} {xs : List V} {ds : List PyData} (dm : Dm F H) (n : H p = none) (hd : o.dict = none) (a : RpAll (vw H F) xs ds) : Gr H (upd H p (.frz o (.tup xs))) ∧ Rp (vw (upd H p (.frz o (.tup xs))) F) (.ref p) (.tuple ds) := by
  have g : Gr H (upd H p (.frz o (.tup xs))) := Gr.laid n fun _ _ z => nomatch z
  refine ⟨g, .tup ?_ (a.gr g)⟩
  rw [vw_of (dm.notin n) upd_same, stp_tupF hd]
theorem Rp.newD {p : Addr} {xs : List (Key × V)} {ds : List (PyData × PyData)} (dm : Dm F H) (n : H p = none) (a : RpKV (vw H F) xs ds) : Gr H (upd H p (.dK xs)) ∧ Rp (vw (upd H p (.dK xs)) F) (.ref p) (.dict ds) := by
  have g : Gr H (upd H p (.dK xs)) := Gr.laid n fun _ _ z => nomatch z
  exact ⟨g, .dct (vw_of (dm.notin n) upd_same) (a.gr g)⟩
end
/-! ### plain, deep -/
theorem dOk_plain : ∀ (n : Nat) (d : PyData), dOk n d = true → d.plain = true ∧ d.depth ≤ n
  | _, .none, _ => ⟨rfl, by simp [PyData.depth]⟩
  | _, .bool _, _ => ⟨rfl, by simp [PyData.depth]⟩
  | _, .int _, _ => ⟨rfl, by simp [PyData.depth]⟩
  | _, .str _, _ => ⟨rfl, by simp [PyData.depth]⟩
  | 0, .list _, h => by simp [dOk] at h
  | 0, .tuple _, h => by simp [dOk] at h
  | 0, .dict _, h => by simp [dOk] at h
  | _ + 1, .dict _, h => by simp [dOk] at h
  | n + 1, .list xs, h => by
    have all : ∀ ys : List PyData, ys.all (dOk n) = true → PyData.plainAll ys = true ∧ PyData.depthAll ys ≤ n := by
      intro ys
      induction ys with
      | nil => intro _; exact ⟨rfl, by simp [PyData.depthAll]⟩
      | cons y r ih =>
        intro q
        rw [List.all_cons, Bool.and_eq_true] at q
        obtain ⟨a, b⟩ := dOk_plain n y q.1
        obtain ⟨c, e⟩ := ih q.2
        refine ⟨by simp [PyData.plainAll, a, c], ?_⟩
        simp only [PyData.depthAll]
        omega
    obtain ⟨a, b⟩ := all xs (by simpa [dOk] using h)
    refine ⟨by simpa [PyData.plain] using a, ?_⟩
    simp only [PyData.depth]
    omega
  | n + 1, .tuple xs, h => by
    have all : ∀ ys : List PyData, ys.all (dOk n) = true → PyData.plainAll ys = true ∧ PyData.depthAll ys ≤ n := by
      intro ys
      induction ys with
      | nil => intro _; exact ⟨rfl, by simp [PyData.depthAll]⟩
      | cons y r ih =>
        intro q
        rw [List.all_cons, Bool.and_eq_true] at q
        obtain ⟨a, b⟩ := dOk_plain n y q.1
        obtain ⟨c, e⟩ := ih q.2
        refine ⟨by simp [PyData.plainAll, a, c], ?_⟩
        simp only [PyData.depthAll]
        omega
    obtain ⟨a, b⟩ := all xs (by simpa [dOk] using h)
    refine ⟨by simpa [PyData.plain] using a, ?_⟩
    simp only [PyData.depth]
    omega
end TD
/-! New tuples, their objects known. -/
namespace TD
open PySem PySem.Spec PyProof.Rows L2
/-- what is wanted of a new tuple -/
def NewT (H : Hp) (xs : List V) (Q : VK) : Prop := ∀ (p : Addr) (o : Obj), H p = none → o.dict = none → Q (.ref p) (upd H p (.frz o (.tup xs)))
section
variable {X : Cx}
theorem Inv.newTup {pins : List (Addr × Obj)} {σ : L2.St} {H : Hp} {s : Shared} {xs : List V} {us : List Value} (I : Inv X pins σ H s) (r : Vals xs us) (hz : xs.length ≤ sizeLine) {k : Nat} {Q : VK} (q : NewT H xs Q) :
    EP X pins σ Q (.ref s.heap.objs.size) { s with heap := s.heap.push { cls := .type "tuple", data := .seq us.toArray }, toks := k } := by
  have hs : (s.heap.push { cls := .type "tuple", data := .seq us.toArray }).get? s.heap.objs.size = some { cls := .type "tuple", data := .seq us.toArray } := Heap.get?_push_size _ rfl
  refine ⟨.ref s.heap.objs.size, upd H s.heap.objs.size (.frz { cls := .type "tuple", data := .seq us.toArray } (.tup xs)), ?_, rfl, q _ _ (I.hok.fresh (Nat.le_refl _)) rfl⟩
  exact I.laid (fun b u e => Heap.get?_push_of_some _ e) (Nat.le_refl _) ⟨hs, hz, us, r, ⟨_, hs, rfl, _, rfl⟩⟩
/-- a display -/
def tTupZ (t : TA) : TE := fun σ H Q => t σ H fun xs H1 => xs.length ≤ sizeLine ∧ NewT H1 xs Q
theorem pe_tupZ {es : List Expr} {t : TA} {k : Nat} {pos : Pos} (h : PA X es t) : PE X (.Tuple es k pos) (tTupZ t) :=
  ⟨fun pins s σ H Q I hq => wpAny_Tuple_spliced (thn (h.run pos pins s σ H _ I hq) fun us s1 hh => by
    obtain ⟨xs, H1, I1, r, z, q⟩ := hh
    exact ⟨by rw [← r.length]; exact z, Inv.newTup (k := s1.toks) I1 r z q⟩)⟩
/-- a sum -/
def rCatZ (K : PySem.W.Frag) : R2 := fun x y H Q => ∃ a b xs ys, x = .ref a ∧ y = .ref b ∧ SqT K H a xs ∧ SqT K H b ys ∧ xs.length + ys.length ≤ sizeLine ∧
  (xs = [] → Q (.ref b) H) ∧ (xs ≠ [] → ys = [] → Q (.ref a) H) ∧ (xs ≠ [] → ys ≠ [] → NewT H (xs ++ ys) Q)
theorem op_catZ : OpR X (binaryOp .Add) (rCatZ X.K) := by
  intro pins s σ H x y v u Q I rx ry h
  obtain ⟨a, b, xs, ys, rfl, rfl, ha, hb, hz, q0, q1, q2⟩ := h
  by_cases hx : xs = []
  · exact op_catA pins s σ H _ _ v u Q I rx ry ⟨a, b, xs, ys, rfl, rfl, ha, hb, hz, q0, q1, fun z => absurd hx z⟩
  · by_cases hy : ys = []
    · exact op_catA pins s σ H _ _ v u Q I rx ry ⟨a, b, xs, ys, rfl, rfl, ha, hb, hz, q0, q1, fun _ z => absurd hy z⟩
    · cases rx
      cases ry
      obtain ⟨i1, r1, t1, _⟩ := I.tuple ha
      obtain ⟨i2, r2, t2, _⟩ := I.tuple hb
      refine HT.cat_tup t1 t2 (fun z => hx (r1.nil_iff.mp z)) (fun z => absurd (r2.nil_iff.mp z) hy) (fun _ => ?_) ?_
      · exact Inv.newTup (k := s.toks) I (r1.append r2) (by rw [List.length_append]; exact hz) (q2 hx hy)
      · rw [← r1.length, ← r2.length]
        exact hz
/-- a part -/
def rSlZ (K : PySem.W.Frag) : V → Option Int → Option Int → Hp → VK → Prop := fun x lo hi H Q => ∃ a xs, x = .ref a ∧ SqT K H a xs ∧
  (HT.sIx xs.length 0 lo = 0 ∧ HT.sIx xs.length xs.length hi = xs.length → Q (.ref a) H) ∧ (¬ (HT.sIx xs.length 0 lo = 0 ∧ HT.sIx xs.length xs.length hi = xs.length) → NewT H (cutV xs lo hi) Q)
theorem sl_tupZ : SlR X (rSlZ X.K) := by
  intro pins s σ H x v vl vu lo hi sl Q I rx hs pl pu h
  obtain ⟨a, xs, rfl, hx, q1, q2⟩ := h
  by_cases hw : HT.sIx xs.length 0 lo = 0 ∧ HT.sIx xs.length xs.length hi = xs.length
  · exact sl_tupA pins s σ H _ v vl vu lo hi sl Q I rx hs pl pu ⟨a, xs, rfl, hx, q1, fun z => absurd hw z⟩
  · cases rx
    obtain ⟨its, r, t1, hz⟩ := I.tuple hx
    have hn : its.toArray.size = xs.length := by
      rw [List.size_toArray, ← r.length]
    refine ⟨"tuple", _, PyProof.Rows.slot_tuple_getitem.lookup, t1.typeIs, HT.getItem_tuple_cut t1 hs pl pu (by rw [hn]; exact hw) ?_ (by rw [hn]; exact hz)⟩
    rw [hn]
    exact Inv.newTup (k := s.toks) I ((r.drop (HT.sIx xs.length 0 lo)).take (HT.sIx xs.length xs.length hi - HT.sIx xs.length 0 lo)) (Nat.le_trans (cutV_length xs lo hi) hz) (q2 hw)
/-- tuple(..) -/
theorem call_tupleZ : CallR X (.type "tuple") (fun xs H Q => ∃ p ys, xs = [.ref p] ∧ ((SqL X.K H p ys ∧ NewT H ys Q) ∨ (SqT X.K H p ys ∧ Q (.ref p) H))) := by
  intro pins s σ H xs us Q I r h
  obtain ⟨p, ys, rfl, h⟩ := h
  rcases h with ⟨hq, q⟩ | ⟨hq, q⟩
  · obtain ⟨u, rfl, rx⟩ := vals1 r
    cases rx
    obtain ⟨its, r2, pl, hz⟩ := I.list hq
    refine call_tuple_list pl.isList (fun h' kp => ?_) (by rw [List.size_toArray, ← r2.length]; exact hz)
    exact Inv.newTup (s := { s with heap := h' }) (k := s.toks) (I.kept (t' := s.toks) kp) r2 hz q
  · exact call_tuple_of pins s σ H _ us Q I r ⟨p, ys, rfl, .inr ⟨hq, q⟩⟩
end
end TD
/-! The operators, by values that stand for data. -/
namespace TD
open PySem PySem.Spec PyProof.Rows L2
variable [Tb]

/-- what is wanted behind a step that gives r -/
def Pk (W : Nat → Hp → Prop) (H : Hp) (F : List Addr) (Q : VK) : R PyData → Prop
  | .ok d => ∀ v H', Gr H H' → Rp (vw H' F) v d → Q v H'
  | .err c => ∀ H', Gr H H' → W c H'
  | .bad => False
def r1 (W : Nat → Hp → Prop) (f : PyData → R PyData) : V → Hp → VK → Prop := fun x H Q => ∃ d F, Dm F H ∧ Rp (vw H F) x d ∧ Pk W H F Q (f d)
def r2 (W : Nat → Hp → Prop) (f : PyData → PyData → R PyData) : R2 := fun x y H Q => ∃ d e F, Dm F H ∧ Rp (vw H F) x d ∧ Rp (vw H F) y e ∧ Pk W H F Q (f d e)
theorem Pk.here {W : Nat → Hp → Prop} {H : Hp} {F : List Addr} {Q : VK} {d : PyData} {v : V} (h : Pk W H F Q (.ok d)) (r : Rp (vw H F) v d) : Q v H := h v H (Gr.refl H) r
theorem Pk.gdd {W : Nat → Hp → Prop} {H : Hp} {F : List Addr} {Q : VK} {b : Bool} {r : R PyData} (h : Pk W H F Q (gd b r)) : b = true ∧ Pk W H F Q r := by
  cases b with
  | true => exact ⟨rfl, h⟩
  | false => exact h.elim
theorem Pk.opp {W : Nat → Hp → Prop} {H : Hp} {F : List Addr} {Q : VK} {o : Option PyData} (h : Pk W H F Q (op o)) : ∃ d, o = some d ∧ Pk W H F Q (.ok d) := by
  cases o with
  | none => exact h.elim
  | some d => exact ⟨d, rfl, h⟩
theorem szLe {n : Nat} (h : n ≤ SZ) : n ≤ sizeLine := Nat.le_trans h (by rw [sizeLine_eq]; decide)
theorem szLt {n : Nat} (h : n < SZ) : n < sizeLine := Nat.lt_of_lt_of_le h (by rw [sizeLine_eq]; decide)
theorem len_chs (x : Str) : x.length = (chs x).length := by
  show x.cps.size = x.cps.toList.length
  rw [Array.length_toList]
theorem str_ext {x y : Str} (h : chs x = chs y) : x = y := by
  obtain ⟨⟨a⟩⟩ := x
  obtain ⟨⟨b⟩⟩ := y
  have e : a = b := h
  rw [e]
theorem chs_append (x y : Str) : chs (x ++ y) = chs x ++ chs y := by
  show (x.cps ++ y.cps).toList = _
  rw [Array.toList_append]
theorem tx_append (x y : Str) : tx (chs x ++ chs y) = .str (x ++ y) := by
  rw [← chs_append, tx_chs]
section
variable {X : Cx} {W : Nat → Hp → Prop}
theorem sq_l {H : Hp} {a : Addr} {xs : List V} (h : H a = some (.lst xs)) : SqL X.K H a xs := .inl (.inl h)
theorem sq_t {H : Hp} {a : Addr} {xs : List V} (h : TupAt H a xs) : SqT X.K H a xs := h.sq
/-! ### + - * // % -/
theorem d_add : OpR X (binaryOp .Add) (r2 W opAdd) := by
  intro pins s σ H x y v u Q I rx ry h
  obtain ⟨d, e, F, dm, rd, re, pk⟩ := h
  cases d <;> cases e <;> try exact pk.elim
  · cases rd.intV
    cases re.intV
    exact op_add pins s σ H _ _ v u Q I rx ry ⟨_, _, rfl, rfl, pk.here (.int _)⟩
  · cases rd.strV
    cases re.strV
    obtain ⟨hb, pk⟩ := pk.gdd
    rw [tx_append] at pk
    exact op_add_str pins s σ H _ _ v u Q I rx ry ⟨_, _, rfl, rfl, szLe (by rw [len_chs, len_chs]; exact of_decide_eq_true hb), pk.here (.str _)⟩
  · obtain ⟨a, xs, rfl, ha, ra⟩ := rd.list
    obtain ⟨b, ys, rfl, hb, rb⟩ := re.list
    obtain ⟨hz, pk⟩ := pk.gdd
    have hz := of_decide_eq_true hz
    refine op_cat pins s σ H _ _ v u Q I rx ry ⟨a, b, xs, ys, rfl, rfl, ha, hb, szLe (by rw [ra.length, rb.length]; exact hz), fun p np => ?_⟩
    obtain ⟨g, rn⟩ := Rp.newL dm np (ra.append rb)
    exact pk _ _ g rn
  · obtain ⟨a, xs, rfl, ha, ra⟩ := rd.tuple
    obtain ⟨b, ys, rfl, hb, rb⟩ := re.tuple
    obtain ⟨hz, pk⟩ := pk.gdd
    have hz := of_decide_eq_true hz
    refine op_catZ pins s σ H _ _ v u Q I rx ry ⟨a, b, xs, ys, rfl, rfl, sq_t ha, sq_t hb, szLe (by rw [ra.length, rb.length]; exact hz), fun hx => ?_, fun _ hy => ?_, fun _ _ p o np nd => ?_⟩
    · subst hx
      cases ra
      exact pk.here re
    · subst hy
      cases rb
      refine pk.here ?_
      rw [List.append_nil]
      exact rd
    · obtain ⟨g, rn⟩ := Rp.newT dm np nd (ra.append rb)
      exact pk _ _ g rn
theorem d_sub : OpR X (binaryOp .Sub) (r2 W opSub) := by
  intro pins s σ H x y v u Q I rx ry h
  obtain ⟨d, e, F, dm, rd, re, pk⟩ := h
  cases d <;> cases e <;> try exact pk.elim
  cases rd.intV
  cases re.intV
  exact op_sub pins s σ H _ _ v u Q I rx ry ⟨_, _, rfl, rfl, pk.here (.int _)⟩
theorem d_div : OpR X (binaryOp .FloorDiv) (r2 W opDiv) := by
  intro pins s σ H x y v u Q I rx ry h
  obtain ⟨d, e, F, dm, rd, re, pk⟩ := h
  cases d <;> cases e <;> try exact pk.elim
  cases rd.intV
  cases re.intV
  obtain ⟨hb, pk⟩ := pk.gdd
  have hb := of_decide_eq_true hb
  exact op_fdiv pins s σ H _ _ v u Q I rx ry ⟨_, _, rfl, rfl, hb, pk.here (.int _)⟩
theorem d_mod : OpR X (binaryOp .Mod) (r2 W opMod) := by
  intro pins s σ H x y v u Q I rx ry h
  obtain ⟨d, e, F, dm, rd, re, pk⟩ := h
  cases d <;> cases e <;> try exact pk.elim
  cases rd.intV
  cases re.intV
  obtain ⟨hb, pk⟩ := pk.gdd
  have hb := of_decide_eq_true hb
  exact op_mod pins s σ H _ _ v u Q I rx ry ⟨_, _, rfl, rfl, hb, pk.here (.int _)⟩
theorem foldl_cat : ∀ (k : Nat) (l acc : List Nat), List.foldl (fun x1 x2 => x1 ++ x2) acc.toArray (List.replicate k l.toArray) = (acc ++ (List.replicate k l).flatten).toArray
  | 0, l, acc => by simp
  | k + 1, l, acc => by
    rw [List.replicate_succ, List.foldl_cons, show acc.toArray ++ l.toArray = (acc ++ l).toArray by simp, foldl_cat k l (acc ++ l), List.replicate_succ, List.flatten_cons, List.append_assoc]
theorem rep_str (x : Str) (n : Int) : tx (rep n (chs x)) = .str (Txt.mul x n) := by
  unfold Txt.mul rep
  by_cases h1 : n < 1
  · rw [if_pos h1, show n.toNat = 0 by omega]
    rfl
  · rw [if_neg h1]
    obtain ⟨⟨l⟩⟩ := x
    by_cases h2 : (n == 1 || (Str.mk ⟨l⟩).length == 0) = true
    · rw [if_pos h2]
      rw [Bool.or_eq_true, beq_iff_eq, beq_iff_eq] at h2
      rcases h2 with h2 | h2
      · rw [h2]
        show tx (List.replicate 1 l).flatten = .str ⟨⟨l⟩⟩
        rw [List.replicate_one, List.flatten_singleton]
        rfl
      · have e : l = [] := List.eq_nil_of_length_eq_zero h2
        subst e
        show tx (List.replicate n.toNat ([] : List Nat)).flatten = .str ⟨⟨[]⟩⟩
        rw [List.flatten_replicate_nil]
        rfl
    · rw [if_neg h2]
      have e := foldl_cat n.toNat l []
      rw [List.nil_append] at e
      show tx (List.replicate n.toNat l).flatten = .str ⟨List.foldl (fun x1 x2 => x1 ++ x2) #[] (List.replicate n.toNat l.toArray)⟩
      rw [show (#[] : Array Nat) = ([] : List Nat).toArray from rfl, e]
      rfl
theorem d_mul : OpR X (binaryOp .Mult) (r2 W opMul) := by
  intro pins s σ H x y v u Q I rx ry h
  obtain ⟨d, e, F, dm, rd, re, pk⟩ := h
  cases d <;> cases e <;> try exact pk.elim
  · cases rd.intV
    cases re.intV
    obtain ⟨hb, pk⟩ := pk.gdd
    have hb := of_decide_eq_true hb
    exact op_mul pins s σ H _ _ v u Q I rx ry ⟨_, _, rfl, rfl, hb, pk.here (.int _)⟩
  · rename_i x n
    cases rd.strV
    cases re.intV
    obtain ⟨hb, pk⟩ := pk.gdd
    rw [rep_str] at pk
    obtain ⟨t, rfl⟩ := rx
    obtain ⟨t', rfl⟩ := ry
    obtain ⟨h1, h2, h3⟩ := of_decide_eq_true hb
    have hlen : x.length * n.toNat ≤ SZ := by rw [len_chs]; exact h3
    refine PySem.SB.mul ⟨?_, fun k1 k2 => ?_, fun k1 k2 => ?_⟩ fun t' k => ⟨.str _, H, I.tok k, ⟨t', rfl⟩, pk.here (.str _)⟩
    · rw [Bool.or_eq_false_iff]
      exact ⟨decide_eq_false (by omega), decide_eq_false (by omega)⟩
    · intro z
      have hn : 0 < n := by omega
      have e1 : (x.length : Int) * n ≤ SZ := by
        have : ((x.length * n.toNat : Nat) : Int) ≤ (SZ : Nat) := by exact_mod_cast hlen
        rw [Int.natCast_mul, Int.toNat_of_nonneg (by omega)] at this
        exact this
      have e2 : (x.length : Int) ≤ SZ := by
        have hx : (0 : Int) ≤ x.length := Int.natCast_nonneg _
        have : (x.length : Int) * 1 ≤ (x.length : Int) * n := Int.mul_le_mul_of_nonneg_left (by omega) hx
        omega
      have e3 : (2 ^ 63 - 1 : Int) / 100000 ≤ (2 ^ 63 - 1) / n := by
        rw [Int.le_ediv_iff_mul_le hn]
        have : (2 ^ 63 - 1 : Int) / 100000 * n ≤ (2 ^ 63 - 1 : Int) / 100000 * 100000 := Int.mul_le_mul_of_nonneg_left h1 (by decide)
        exact Int.le_trans this (by decide)
      have e4 : ((SZ : Nat) : Int) ≤ (2 ^ 63 - 1 : Int) / 100000 := by decide
      omega
    · unfold Builtin.Str.tooLong
      refine decide_eq_false ?_
      have := szLe hlen
      omega
  · rename_i ds n
    obtain ⟨a, xs, rfl, ha, ra⟩ := rd.list
    cases re.intV
    obtain ⟨hb, pk⟩ := pk.gdd
    obtain ⟨h1, h2, h3⟩ := of_decide_eq_true hb
    · refine op_rep pins s σ H _ _ v u Q I rx ry ⟨a, n, xs, rfl, rfl, ha, by omega, by omega, szLe (by rw [ra.length]; exact h3), fun p np => ?_⟩
      obtain ⟨g, rn⟩ := Rp.newL dm np (ra.flat n.toNat)
      exact pk _ _ g rn
theorem d_neg : UnR X (unaryOp .USub) (r1 W negD) := by
  intro pins s σ H x v Q I rx h
  obtain ⟨d, F, dm, rd, pk⟩ := h
  cases d <;> try exact pk.elim
  cases rd.intV
  exact un_neg pins s σ H _ v Q I rx ⟨_, rfl, pk.here (.int _)⟩
def binOk : Operator → Bool
  | .Add => true
  | .Sub => true
  | .Mult => true
  | .FloorDiv => true
  | .Mod => true
  | _ => false
theorem d_bin {o : Operator} (h : binOk o = true) : OpR X (binaryOp o) (r2 W (binD o)) := by
  cases o <;> first
    | exact d_add
    | exact d_sub
    | exact d_mul
    | exact d_div
    | exact d_mod
    | cases h
/-! ### comparisons -/
theorem Rp.reads {pins : List (Addr × Obj)} {s : Shared} {σ : L2.St} {H : Hp} {F : List Addr} {v : V} {u : Value} {d : PyData} (I : Inv X pins σ H s) (r : Rp (vw H F) v d) (hp : d.plain = true) (ru : RelV v u) : ∃ as, Reads s.heap u d as :=
  Dp.reads I d v u (r.dp hp) ru
theorem RpAll.reads {pins : List (Addr × Obj)} {s : Shared} {σ : L2.St} {H : Hp} {F : List Addr} {vs : List V} {us : List Value} {ds : List PyData} (I : Inv X pins σ H s) (r : RpAll (vw H F) vs ds) (hp : PyData.plainAll ds = true) (ru : Vals vs us) : ∃ as, ReadsAll s.heap us ds as :=
  Dp.readsAll I ds vs us (r.dp hp) ru
def cmpD (o : CmpOp) (a b : PyData) : R PyData := do .ok (.bool (← cmpB o a b))
theorem Pk.bool {H : Hp} {F : List Addr} {Q : VK} {b : Bool} (h : Pk W H F Q (.ok (.bool b))) : Q (.bl b) H := h.here (.bl b)
theorem d_eq (hu : X.A.units + 64 < cLine) : OpR X (compareOp .Eq) (r2 W (cmpD .Eq)) := by
  intro pins s σ H x y v u Q I rx ry h
  obtain ⟨d, e, F, dm, rd, re, pk⟩ := h
  unfold cmpD cmpB eqB at pk
  dsimp only at pk
  cases hb : (dOk 9 d && dOk 9 e) with
  | false =>
    rw [hb] at pk
    exact pk.elim
  | true =>
    rw [hb] at pk
    rw [Bool.and_eq_true] at hb
    obtain ⟨p1, k1⟩ := dOk_plain 9 d hb.1
    obtain ⟨p2, k2⟩ := dOk_plain 9 e hb.2
    obtain ⟨as, ra⟩ := rd.reads I p1 rx
    obtain ⟨bs, rb⟩ := re.reads I p2 ry
    exact SeqAt.eq_plain ra rb p1 p2 (by omega) ⟨.bl _, H, I, rfl, Pk.bool pk⟩
theorem d_ne (hu : X.A.units + 64 < cLine) : OpR X (compareOp .NotEq) (r2 W (cmpD .NotEq)) := by
  intro pins s σ H x y v u Q I rx ry h
  obtain ⟨d, e, F, dm, rd, re, pk⟩ := h
  unfold cmpD cmpB eqB at pk
  dsimp only at pk
  cases hb : (dOk 9 d && dOk 9 e) with
  | false =>
    rw [hb] at pk
    exact pk.elim
  | true =>
    rw [hb] at pk
    rw [Bool.and_eq_true] at hb
    obtain ⟨p1, k1⟩ := dOk_plain 9 d hb.1
    obtain ⟨p2, k2⟩ := dOk_plain 9 e hb.2
    obtain ⟨as, ra⟩ := rd.reads I p1 rx
    obtain ⟨bs, rb⟩ := re.reads I p2 ry
    exact SeqAt.ne_plain ra rb p1 p2 (by omega) ⟨.bl _, H, I, rfl, Pk.bool pk⟩
theorem d_lt (hu : X.A.units + 64 < cLine) : OpR X (compareOp .Lt) (r2 W (cmpD .Lt)) := by
  intro pins s σ H x y v u Q I rx ry h
  obtain ⟨d, e, F, dm, rd, re, pk⟩ := h
  cases d <;> cases e <;> try exact pk.elim
  · cases rd.intV
    cases re.intV
    exact op_lt pins s σ H _ _ v u Q I rx ry ⟨_, _, rfl, rfl, Pk.bool pk⟩
  · cases rd.strV
    cases re.strV
    exact op_lt_str pins s σ H _ _ v u Q I rx ry ⟨_, _, rfl, rfl, Pk.bool pk⟩
  · rename_i ds es
    unfold cmpD cmpB ltA ltT at pk
    dsimp only at pk
    cases hb : (dOk 9 (.tuple ds) && dOk 9 (.tuple es) && PySem.W.alike (.tuple ds) (.tuple es)) with
    | false =>
      rw [hb] at pk
      exact pk.elim
    | true =>
      rw [hb] at pk
      simp only [Bool.and_eq_true] at hb
      obtain ⟨p1, k1⟩ := dOk_plain 9 _ hb.1.1
      obtain ⟨p2, k2⟩ := dOk_plain 9 _ hb.1.2
      obtain ⟨as, ra⟩ := rd.reads I p1 rx
      obtain ⟨bs, rb⟩ := re.reads I p2 ry
      exact PySem.W.lt_data ra rb hb.2 (fun z => nomatch z) (by omega) ⟨.bl _, H, I, rfl, Pk.bool pk⟩
theorem d_gt : OpR X (compareOp .Gt) (r2 W (cmpD .Gt)) := by
  intro pins s σ H x y v u Q I rx ry h
  obtain ⟨d, e, F, dm, rd, re, pk⟩ := h
  cases d <;> cases e <;> try exact pk.elim
  · cases rd.intV
    cases re.intV
    exact op_gt pins s σ H _ _ v u Q I rx ry ⟨_, _, rfl, rfl, Pk.bool pk⟩
  · cases rd.strV
    cases re.strV
    exact op_gt_str pins s σ H _ _ v u Q I rx ry ⟨_, _, rfl, rfl, Pk.bool pk⟩
theorem d_le : OpR X (compareOp .LtE) (r2 W (cmpD .LtE)) := by
  intro pins s σ H x y v u Q I rx ry h
  obtain ⟨d, e, F, dm, rd, re, pk⟩ := h
  cases d <;> cases e <;> try exact pk.elim
  · cases rd.intV
    cases re.intV
    refine op_le pins s σ H _ _ v u Q I rx ry ⟨_, _, rfl, rfl, ?_⟩
    have := Pk.bool pk
    rw [show (!decide (_ < _)) = decide (_ ≤ _) from PySem.W.cmp_not_lt _ _] at this
    exact this
  · cases rd.strV
    cases re.strV
    exact op_le_str pins s σ H _ _ v u Q I rx ry ⟨_, _, rfl, rfl, Pk.bool pk⟩
theorem d_ge : OpR X (compareOp .GtE) (r2 W (cmpD .GtE)) := by
  intro pins s σ H x y v u Q I rx ry h
  obtain ⟨d, e, F, dm, rd, re, pk⟩ := h
  cases d <;> cases e <;> try exact pk.elim
  · cases rd.intV
    cases re.intV
    refine op_ge pins s σ H _ _ v u Q I rx ry ⟨_, _, rfl, rfl, ?_⟩
    have := Pk.bool pk
    rw [show (!decide (_ < _)) = decide (_ ≤ _) from PySem.W.cmp_not_lt _ _] at this
    exact this
  · cases rd.strV
    cases re.strV
    exact op_ge_str pins s σ H _ _ v u Q I rx ry ⟨_, _, rfl, rfl, Pk.bool pk⟩
theorem is_val {a b : PyData} {k : Bool} (h : isD a b = .ok k) {H : Hp} {F : List Addr} {x y : V} {v u : Value} (rd : Rp (vw H F) x a) (re : Rp (vw H F) y b) (rx : RelV x v) (ry : RelV y u) : plainIs v u = true ∧ (v == u) = k := by
  cases b with
  | none =>
    cases re
    cases ry
    cases rd <;> first
      | (cases h; cases rx; exact ⟨rfl, rfl⟩)
      | (cases h; obtain ⟨t, rfl⟩ := rx; exact ⟨rfl, rfl⟩)
  | bool b =>
    cases re
    cases ry
    cases rd with
    | bl c =>
      cases rx
      have e : (c == b) = k := by
        unfold isD at h
        exact R.ok.inj h
      subst e
      refine ⟨rfl, ?_⟩
      cases c <;> cases b <;> rfl
    | int _ => cases h; obtain ⟨t, rfl⟩ := rx; exact ⟨rfl, rfl⟩
    | str _ => cases h; obtain ⟨t, rfl⟩ := rx; exact ⟨rfl, rfl⟩
    | _ => cases h; cases rx; exact ⟨rfl, rfl⟩
  | _ => cases a <;> cases h
theorem d_is : OpR X (compareOp .Is) (r2 W (cmpD .Is)) := by
  intro pins s σ H x y v u Q I rx ry h
  obtain ⟨d, e, F, dm, rd, re, pk⟩ := h
  unfold cmpD cmpB at pk
  dsimp only at pk
  cases q : isD d e with
  | ok k =>
    rw [q] at pk
    obtain ⟨h1, h2⟩ := is_val q rd re rx ry
    exact wpAny_is_plain h1 (by rw [h2]; exact ⟨.bl _, H, I, rfl, Pk.bool pk⟩)
  | err c =>
    exfalso
    cases d <;> cases e <;> cases q
  | bad =>
    rw [q] at pk
    exact pk.elim
theorem d_isnot : OpR X (compareOp .IsNot) (r2 W (cmpD .IsNot)) := by
  intro pins s σ H x y v u Q I rx ry h
  obtain ⟨d, e, F, dm, rd, re, pk⟩ := h
  unfold cmpD cmpB at pk
  dsimp only at pk
  cases q : isD d e with
  | ok k =>
    rw [q] at pk
    obtain ⟨h1, h2⟩ := is_val q rd re rx ry
    exact wpAny_isNot_plain h1 (by rw [h2]; exact ⟨.bl _, H, I, rfl, Pk.bool pk⟩)
  | err c =>
    exfalso
    cases d <;> cases e <;> cases q
  | bad =>
    rw [q] at pk
    exact pk.elim
end
end TD
/-! Membership, subscripts, slices, built-in functions and methods, by values that stand for data. -/
namespace TD
open PySem PySem.Spec PyProof.Rows L2
variable [Tb]
section
variable {X : Cx} {W : Nat → Hp → Prop}
/-! ### dicts -/
theorem keyEq_key (k k' : Key) : keyEq (keyD k) (keyD k') = decide (k = k') := by
  cases k <;> cases k' <;> simp [keyEq, keyD]
theorem key_of_ok {d : PyData} (h : keyOk d = true) : ∃ k, d = keyD k := by
  cases d <;> first
    | exact ⟨.inl _, rfl⟩
    | exact ⟨.inr _, rfl⟩
    | cases h
theorem Rp.key {M : Hp} {v : V} {k : Key} (r : Rp M v (keyD k)) : v = kV k := by
  cases k <;> (cases r; rfl)
theorem Rp.ofKey {M : Hp} (k : Key) : Rp M (kV k) (keyD k) := by
  cases k
  · exact .int _
  · exact .str _
theorem RpKV.look {M : Hp} : ∀ {kvs : List (Key × V)} {ps : List (PyData × PyData)} (k : Key), RpKV M kvs ps → (∃ v d, valV kvs k = some v ∧ dGet ps (keyD k) = some d ∧ Rp M v d) ∨ (valV kvs k = none ∧ dGet ps (keyD k) = none)
  | _, _, k, .nil => .inr ⟨rfl, rfl⟩
  | _, _, k, .cons (k := k') (v := v) (d := d) (r := r) (ps := ps) h a => by
    have e1 : dGet ((keyD k', d) :: ps) (keyD k) = if k' = k then some d else dGet ps (keyD k) := by
      unfold dGet
      rw [List.find?_cons, keyEq_key]
      by_cases q : k' = k
      · simp [q]
      · simp [q]
    have e2 : valV ((k', v) :: r) k = if k' = k then some v else valV r k := by
      unfold valV
      rw [List.find?_cons]
      by_cases q : k' = k
      · simp [q]
      · simp [q]
    rw [e1, e2]
    by_cases q : k' = k
    · rw [if_pos q, if_pos q]
      exact .inl ⟨v, d, rfl, rfl, h⟩
    · rw [if_neg q, if_neg q]
      exact a.look k
theorem dget_of {H : Hp} {F : List Addr} {a : Addr} {kvs : List (Key × V)} (k : Key) (h : Rd H a (.dK kvs)) : DGet H a (kV k) (valV kvs k) := .inl ⟨kvs, k, h, rfl, rfl⟩
/-! ### in -/
theorem plainAll_ok {n : Nat} : ∀ {ds : List PyData}, ds.all (dOk n) = true → PyData.plainAll ds = true ∧ PyData.depthAll ds ≤ n
  | [], _ => ⟨rfl, by simp [PyData.depthAll]⟩
  | d :: ds, h => by
    rw [List.all_cons, Bool.and_eq_true] at h
    obtain ⟨a, b⟩ := dOk_plain n d h.1
    obtain ⟨c, e⟩ := plainAll_ok h.2
    refine ⟨by simp [PyData.plainAll, a, c], ?_⟩
    simp only [PyData.depthAll]
    omega
/-- a container that is held here is looked into -/
def rInn (W : Nat → Hp → Prop) (f : R Bool → R Bool) : R2 := fun x y H Q => ∃ d e F F', Rp (vw H F) x d ∧ Rp (vw H F') y e ∧ (∃ b, f (inD d e) = .ok b ∧ Q (.bl b) H)
theorem d_inn (hu : X.A.units + 70 < cLine) : OpR X (compareOp .In) (rInn W id) := by
  intro pins s σ H x y v u Q I rx ry h
  obtain ⟨d, e, F, F', rd, re, b, hb, q⟩ := h
  have hb : inD d e = .ok b := hb
  cases e with
  | list es =>
    unfold inD at hb
    dsimp only at hb
    cases hg : (dOk 9 d && es.all (dOk 8)) with
    | false =>
      rw [hg] at hb
      cases hb
    | true =>
      rw [hg] at hb
      cases R.ok.inj hb
      rw [Bool.and_eq_true] at hg
      obtain ⟨p1, k1⟩ := dOk_plain 9 d hg.1
      obtain ⟨p2, k2⟩ := plainAll_ok hg.2
      obtain ⟨as, ra⟩ := rd.reads I p1 rx
      obtain ⟨bs, rb⟩ := re.reads I (by simpa [PyData.plain] using p2) ry
      exact SeqAt.in_list_data rb ra p2 p1 (by omega) ⟨.bl _, H, I, rfl, q⟩
  | tuple es =>
    unfold inD at hb
    dsimp only at hb
    cases hg : (dOk 9 d && es.all (dOk 8)) with
    | false =>
      rw [hg] at hb
      cases hb
    | true =>
      rw [hg] at hb
      cases R.ok.inj hb
      rw [Bool.and_eq_true] at hg
      obtain ⟨p1, k1⟩ := dOk_plain 9 d hg.1
      obtain ⟨p2, k2⟩ := plainAll_ok hg.2
      obtain ⟨as, ra⟩ := rd.reads I p1 rx
      obtain ⟨bs, rb⟩ := re.reads I (by simpa [PyData.plain] using p2) ry
      exact SeqAt.in_tuple_data rb ra p2 p1 (by omega) ⟨.bl _, H, I, rfl, q⟩
  | dict ps =>
    unfold inD at hb
    dsimp only at hb
    cases hk : keyOk d with
    | false =>
      rw [hk] at hb
      cases hb
    | true =>
      rw [hk] at hb
      cases R.ok.inj hb
      obtain ⟨k, rfl⟩ := key_of_ok hk
      cases rd.key
      obtain ⟨a, kvs, rfl, ha, ra⟩ := re.dict
      cases ry
      refine d_in (by omega) I (dget_of (F := F) k ha) rx fun s' I' => ?_
      rcases ra.look k with ⟨v', d', e1, e2, _⟩ | ⟨e1, e2⟩
      · rw [e1]
        rw [e2] at q
        exact ⟨.bl _, H, I', rfl, q⟩
      · rw [e1]
        rw [e2] at q
        exact ⟨.bl _, H, I', rfl, q⟩
  | str z =>
    unfold inD at hb
    dsimp only at hb
    cases d with
    | str y' =>
      dsimp only at hb
      split at hb
      · rename_i c hc
        cases R.ok.inj hb
        have e : y' = ⟨#[c]⟩ := str_ext (by rw [hc])
        subst e
        cases rd.strV
        cases re.strV
        exact op_in_sign pins s σ H _ _ v u Q I rx ry ⟨c, z, rfl, rfl, q⟩
      · cases hb
    | _ => cases hb
  | _ => cases hb
theorem d_notinn (hu : X.A.units + 70 < cLine) : OpR X (compareOp .NotIn) (rInn W notR) := by
  intro pins s σ H x y v u Q I rx ry h
  obtain ⟨d, e, F, F', rd, re, b, hb, q⟩ := h
  have hb' : ∃ b', inD d e = .ok b' ∧ b = !b' := by
    cases hh : inD d e with
    | ok b' =>
      rw [hh] at hb
      exact ⟨b', rfl, (R.ok.inj hb).symm⟩
    | err c =>
      rw [hh] at hb
      cases hb
    | bad =>
      rw [hh] at hb
      cases hb
  clear hb
  obtain ⟨b', hb, rfl⟩ := hb'
  cases e with
  | list es =>
    unfold inD at hb
    dsimp only at hb
    cases hg : (dOk 9 d && es.all (dOk 8)) with
    | false =>
      rw [hg] at hb
      cases hb
    | true =>
      rw [hg] at hb
      cases R.ok.inj hb
      rw [Bool.and_eq_true] at hg
      obtain ⟨p1, k1⟩ := dOk_plain 9 d hg.1
      obtain ⟨p2, k2⟩ := plainAll_ok hg.2
      obtain ⟨as, ra⟩ := rd.reads I p1 rx
      obtain ⟨bs, rb⟩ := re.reads I (by simpa [PyData.plain] using p2) ry
      exact SeqAt.notIn_list_data rb ra p2 p1 (by omega) ⟨.bl _, H, I, rfl, q⟩
  | tuple es =>
    unfold inD at hb
    dsimp only at hb
    cases hg : (dOk 9 d && es.all (dOk 8)) with
    | false =>
      rw [hg] at hb
      cases hb
    | true =>
      rw [hg] at hb
      cases R.ok.inj hb
      rw [Bool.and_eq_true] at hg
      obtain ⟨p1, k1⟩ := dOk_plain 9 d hg.1
      obtain ⟨p2, k2⟩ := plainAll_ok hg.2
      obtain ⟨as, ra⟩ := rd.reads I p1 rx
      obtain ⟨bs, rb⟩ := re.reads I (by simpa [PyData.plain] using p2) ry
      exact SeqAt.notIn_tuple_data rb ra p2 p1 (by omega) ⟨.bl _, H, I, rfl, q⟩
  | dict ps =>
    unfold inD at hb
    dsimp only at hb
    cases hk : keyOk d with
    | false =>
      rw [hk] at hb
      cases hb
    | true =>
      rw [hk] at hb
      cases R.ok.inj hb
      obtain ⟨k, rfl⟩ := key_of_ok hk
      cases rd.key
      obtain ⟨a, kvs, rfl, ha, ra⟩ := re.dict
      cases ry
      refine d_notIn (by omega) I (dget_of (F := F) k ha) rx fun s' I' => ?_
      rcases ra.look k with ⟨v', d', e1, e2, _⟩ | ⟨e1, e2⟩
      · rw [e1]
        rw [e2] at q
        exact ⟨.bl _, H, I', rfl, q⟩
      · rw [e1]
        rw [e2] at q
        exact ⟨.bl _, H, I', rfl, q⟩
  | str z =>
    unfold inD at hb
    dsimp only at hb
    cases d with
    | str y' =>
      dsimp only at hb
      split at hb
      · rename_i c hc
        cases R.ok.inj hb
        have e : y' = ⟨#[c]⟩ := str_ext (by rw [hc])
        subst e
        cases rd.strV
        cases re.strV
        exact op_notIn_sign pins s σ H _ _ v u Q I rx ry ⟨c, z, rfl, rfl, q⟩
      · cases hb
    | _ => cases hb
  | _ => cases hb
theorem gd_noerr {α : Type} {b : Bool} {r : R α} {c : Nat} (h : r ≠ .err c) : gd b r ≠ .err c := by
  cases b
  · exact fun z => nomatch z
  · exact h
theorem ok_noerr {α : Type} {a : α} {c : Nat} : R.ok a ≠ .err c := fun z => nomatch z
theorem bad_noerr {α : Type} {c : Nat} : (R.bad : R α) ≠ .err c := fun z => nomatch z
theorem in_noerr (d e : PyData) (c : Nat) : inD d e ≠ .err c := by
  cases e with
  | list es => exact gd_noerr ok_noerr
  | tuple es => exact gd_noerr ok_noerr
  | dict es => exact gd_noerr ok_noerr
  | str z =>
    cases d with
    | str y =>
      unfold inD
      dsimp only
      split
      · exact ok_noerr
      · exact bad_noerr
    | _ => exact bad_noerr
  | _ => exact bad_noerr
/-! ### what is held here alone -/
/-- a list, a dict at l that nobody else holds -/
def Own1 (H : Hp) (F : List Addr) (v : V) (d : PyData) (l : Addr) : Prop := v = .ref l ∧ l ∈ F ∧
  ((∃ vs ds, d = .list ds ∧ H l = some (.lst vs) ∧ RpAll (vw H F) vs ds) ∨ ∃ kvs ps, d = .dict ps ∧ H l = some (.dK kvs) ∧ RpKV (vw H F) kvs ps)
def Hd (H : Hp) (F : List Addr) (v : V) (d : PyData) : Prop := Rp (vw H F) v d ∨ ∃ l, Own1 H F v d l
theorem Hd.list {H : Hp} {F : List Addr} {v : V} {ds : List PyData} (h : Hd H F v (.list ds)) : ∃ a xs, v = .ref a ∧ H a = some (.lst xs) ∧ RpAll (vw H F) xs ds := by
  rcases h with h | ⟨l, e, _, h⟩
  · exact h.list
  · rcases h with ⟨vs, ds', q, h1, h2⟩ | ⟨_, _, q, _⟩
    · cases q
      exact ⟨l, vs, e, h1, h2⟩
    · cases q
theorem Hd.dict {H : Hp} {F : List Addr} {v : V} {ps : List (PyData × PyData)} (h : Hd H F v (.dict ps)) : ∃ a kvs, v = .ref a ∧ Rd H a (.dK kvs) ∧ RpKV (vw H F) kvs ps := by
  rcases h with h | ⟨l, e, _, h⟩
  · exact h.dict
  · rcases h with ⟨_, _, q, _⟩ | ⟨kvs, ps', q, h1, h2⟩
    · cases q
    · cases q
      exact ⟨l, kvs, e, .inl h1, h2⟩
theorem Hd.rp {H : Hp} {F : List Addr} {v : V} {d : PyData} (h : Hd H F v d) (h1 : ∀ xs, d ≠ .list xs) (h2 : ∀ xs, d ≠ .dict xs) : Rp (vw H F) v d := by
  rcases h with h | ⟨l, e, _, h⟩
  · exact h
  · rcases h with ⟨vs, ds', q, _⟩ | ⟨_, _, q, _⟩
    · exact absurd q (h1 _)
    · exact absurd q (h2 _)
theorem Hd.wide {H : Hp} {F : List Addr} {v : V} {d : PyData} (h : Hd H F v d) : Rp (vw H []) v d := by
  have sub : Same (vw H F) (vw H []) := vw_sub fun a z => absurd z List.not_mem_nil
  rcases h with h | ⟨l, rfl, _, h⟩
  · exact h.mono sub
  · rcases h with ⟨vs, ds', rfl, h1, h2⟩ | ⟨kvs, ps', rfl, h1, h2⟩
    · exact .lst (vw_of List.not_mem_nil h1) (h2.mono sub)
    · exact .dct (vw_of List.not_mem_nil h1) (h2.mono sub)
/-! ### subscripts -/
def idxS : PyData → PyData → R PyData
  | .dict _, _ => .bad
  | d, e => idxD d e
def rIdx (W : Nat → Hp → Prop) : R2 := fun x y H Q => ∃ d e F, Dm F H ∧ Hd H F x d ∧ Rp (vw H F) y e ∧ Pk W H F Q (idxS d e)
theorem d_ix : IxR X (rIdx W) := by
  intro value slice pins s σ H x y v u Q I rx ry h hs
  obtain ⟨d, e, F, dm, hd, re, pk⟩ := h
  cases d <;> cases e <;> try exact pk.elim
  · obtain ⟨z, rfl⟩ : ∃ z, x = .str z := ⟨_, (hd.rp (fun _ z => nomatch z) fun _ z => nomatch z).strV⟩
    have ez := (hd.rp (fun _ z => nomatch z) fun _ z => nomatch z).strV
    cases ez
    cases re.intV
    obtain ⟨hb, pk⟩ := Pk.gdd pk
    obtain ⟨d, e, pk⟩ := Pk.opp pk
    obtain ⟨c, hc, rfl⟩ := Option.map_eq_some_iff.mp e
    exact ix_str value slice pins s σ H _ _ v u Q I rx ry ⟨_, _, c, rfl, rfl, szLe (by rw [len_chs]; exact of_decide_eq_true hb), hc, pk.here (.str _)⟩ hs
  · obtain ⟨a, xs, rfl, ha, ra⟩ := hd.list
    cases re.intV
    obtain ⟨d, e, pk⟩ := Pk.opp pk
    obtain ⟨w, h1, h2⟩ := ra.atI e
    exact ix_list value slice pins s σ H _ _ v u Q I rx ry ⟨a, xs, _, w, rfl, rfl, sq_l ha, h1, pk.here h2⟩ hs
  · obtain ⟨a, xs, rfl, ha, ra⟩ := (hd.rp (fun _ z => nomatch z) fun _ z => nomatch z).tuple
    cases re.intV
    obtain ⟨d, e, pk⟩ := Pk.opp pk
    obtain ⟨w, h1, h2⟩ := ra.atI e
    exact ix_tup value slice pins s σ H _ _ v u Q I rx ry ⟨a, xs, _, w, rfl, rfl, sq_t ha, h1, pk.here h2⟩ hs
/-- a dict's item -/
theorem d_dget {H : Hp} {F : List Addr} {x y : V} {ps : List (PyData × PyData)} {e : PyData} {Q : VK} (hd : Hd H F x (.dict ps)) (re : Rp (vw H F) y e) (pk : Pk W H F Q (idxD (.dict ps) e)) :
    ∃ a v, x = .ref a ∧ DGet H a y (some v) ∧ Q v H := by
  obtain ⟨a, kvs, rfl, ha, ra⟩ := hd.dict
  obtain ⟨hk, pk1⟩ := Pk.gdd pk
  obtain ⟨d, e, pk2⟩ := Pk.opp pk1
  obtain ⟨k, rfl⟩ := key_of_ok hk
  cases re.key
  rcases ra.look k with ⟨v', d', e1, e2, r⟩ | ⟨e1, e2⟩
  · rw [e2] at e
    cases e
    refine ⟨a, v', rfl, ?_, pk2.here r⟩
    rw [← e1]
    exact dget_of (F := F) k ha
  · rw [e2] at e
    cases e
/-! ### slices -/
def rSlc (W : Nat → Hp → Prop) : V → Option Int → Option Int → Hp → VK → Prop := fun x lo hi H Q => ∃ d F, Dm F H ∧ Rp (vw H F) x d ∧ Pk W H F Q (slcD d lo hi)
theorem d_slc : SlR X (rSlc W) := by
  intro pins s σ H x v vl vu lo hi sl Q I rx hs pl pu h
  obtain ⟨d, F, dm, rd, pk⟩ := h
  cases d <;> try exact pk.elim
  · cases rd.strV
    obtain ⟨hb, pk⟩ := Pk.gdd pk
    refine sl_str pins s σ H _ v vl vu lo hi sl Q I rx hs pl pu ⟨_, rfl, szLe (by rw [len_chs]; exact of_decide_eq_true hb), ?_⟩
    refine pk.here ?_
    rw [show cutS _ lo hi = (⟨(cut _ lo hi).toArray⟩ : Str) from ?_]
    · exact .str _
    · unfold cutS cut
      rw [len_chs]
  · obtain ⟨a, xs, rfl, ha, ra⟩ := rd.list
    refine sl_list pins s σ H _ v vl vu lo hi sl Q I rx hs pl pu ⟨a, xs, rfl, sq_l ha, fun p np => ?_⟩
    obtain ⟨g, rn⟩ := Rp.newL dm np (ra.cut lo hi)
    exact pk _ _ g rn
  · obtain ⟨a, xs, rfl, ha, ra⟩ := rd.tuple
    refine sl_tupZ pins s σ H _ v vl vu lo hi sl Q I rx hs pl pu ⟨a, xs, rfl, sq_t ha, fun hw => ?_, fun _ p o np nd => ?_⟩
    · refine pk.here ?_
      unfold cut
      rw [← ra.length, hw.1, hw.2, List.drop_zero, Nat.sub_zero, ra.length, List.take_length]
      exact rd
    · obtain ⟨g, rn⟩ := Rp.newT dm np nd (ra.cut lo hi)
      exact pk _ _ g rn
theorem rd_ex {H : Hp} {a : Addr} {kvs : List (Key × V)} (nl : NL H) (h : Rd H a (.dK kvs)) : H a = some (.dK kvs) := by
  rcases h with h | ⟨o, h⟩
  · exact h
  · exact absurd h (nl.lk a o kvs)
theorem RpKV.keys {M : Hp} : ∀ {kvs : List (Key × V)} {ps : List (PyData × PyData)}, RpKV M kvs ps → RpAll M (kvs.map fun kv => kV kv.1) (ps.map (·.1))
  | _, _, .nil => .nil
  | _, _, .cons _ a => .cons (Rp.ofKey _) a.keys
/-! ### built-in functions -/
def isDic : PyData → Bool
  | .dict _ => true
  | _ => false
def rc1 (W : Nat → Hp → Prop) (b : B) : List V → Hp → VK → Prop := fun xs H Q => ∃ x d F, xs = [x] ∧ Dm F H ∧ Rp (vw H F) x d ∧ (needX b d = true → NL H) ∧ Pk W H F Q (b1D b d)
def rcLen (W : Nat → Hp → Prop) : List V → Hp → VK → Prop := fun xs H Q => ∃ x d F n, xs = [x] ∧ Rp (vw H F) x d ∧ lenD d = .ok (.int n) ∧ Q (.int n) H
theorem d_len : CallR X (.builtin "len") (rcLen W) := by
  intro pins s σ H xs us Q I r h
  obtain ⟨x, d, F, n, rfl, rd, hl, q⟩ := h
  cases d <;> try (cases hl)
  · rename_i z
    cases rd.strV
    unfold lenD at hl
    dsimp only at hl
    cases hb : decide ((chs z).length ≤ SZ) with
    | false =>
      rw [hb] at hl
      cases hl
    | true =>
      rw [hb] at hl
      have e : ((chs z).length : Int) = n := PyData.int.inj (R.ok.inj hl)
      refine call_len_str pins s σ H _ us Q I r ⟨z, rfl, szLe (by rw [len_chs]; exact of_decide_eq_true hb), ?_⟩
      rw [len_chs, e]
      exact q
  · obtain ⟨a, xs, rfl, ha, ra⟩ := rd.list
    refine call_len_seq pins s σ H _ us Q I r ⟨a, xs, rfl, .inl (sq_l ha), ?_⟩
    rw [ra.length]
    exact q
  · obtain ⟨a, xs, rfl, ha, ra⟩ := rd.tuple
    refine call_len_seq pins s σ H _ us Q I r ⟨a, xs, rfl, .inr (sq_t ha), ?_⟩
    rw [ra.length]
    exact q
  · obtain ⟨a, kvs, rfl, ha, ra⟩ := rd.dict
    obtain ⟨u, rfl, ru⟩ := vals1 r
    cases ru
    refine L2.d_len I ha fun t s' I' => ⟨.int kvs.length, H, I', ⟨t, rfl⟩, ?_⟩
    rw [ra.length]
    exact q
theorem d_sum (hc : X.calm = true) : CallR X (.builtin "sum") (rc1 W .sum) := by
  intro pins s σ H xs us Q I r h
  obtain ⟨x, d, F, rfl, dm, rd, nl, pk⟩ := h
  obtain ⟨z, e0, pq⟩ := Pk.opp pk
  obtain ⟨ns, e, rfl⟩ := Option.map_eq_some_iff.mp e0
  clear e0
  cases d <;> try (cases e)
  · obtain ⟨a, xs, rfl, ha, ra⟩ := rd.list
    have e := ra.ints e
    subst e
    exact cr_sum hc pins s σ H _ us Q I r ⟨a, ns, rfl, sq_l ha, pq.here (.int _)⟩
  · obtain ⟨a, xs, rfl, ha, ra⟩ := rd.tuple
    have e := ra.ints e
    subst e
    obtain ⟨its, rv, ht, hz⟩ := I.tuple (sq_t ha)
    rw [Vals.ref1 r]
    obtain ⟨ys, hy⟩ := (intsAre_of rv).allInts.items
    have hn : numsOf its.toArray.toList = ns := by rw [show its.toArray.toList = its from rfl, (intsAre_of rv).numsOf]
    have ht' : s.heap.IsTuple a its.toArray := ht
    rw [hy] at ht' hn
    rw [nums_intItems] at hn
    refine PySem.W.ktm_sumG (I.ok.hd hc) ht' fun h' tk t' hk => ?_
    refine ⟨.int ns.sum, H, I.kept hk, ⟨t', ?_⟩, pq.here (.int _)⟩
    rw [preSum_eq, List.take_of_length_le (by simp), hn]
theorem d_abs : CallR X (.builtin "abs") (rc1 W .abs) := by
  intro pins s σ H xs us Q I r h
  obtain ⟨x, d, F, rfl, dm, rd, nl, pk⟩ := h
  cases d <;> try exact pk.elim
  cases rd.intV
  exact call_abs pins s σ H _ us Q I r ⟨_, rfl, pk.here (.int _)⟩
theorem d_all (hc : X.calm = true) : CallR X (.builtin "all") (rc1 W .all) := by
  intro pins s σ H xs us Q I r h
  obtain ⟨x, d, F, rfl, dm, rd, nl, pk⟩ := h
  cases d <;> try exact pk.elim
  obtain ⟨z, e0, pk⟩ := Pk.opp pk
  obtain ⟨ns, e, rfl⟩ := Option.map_eq_some_iff.mp e0
  clear e0
  obtain ⟨a, xs, rfl, ha, ra⟩ := rd.list
  have e := ra.bools e
  subst e
  exact cr_all hc pins s σ H _ us Q I r ⟨a, ns, rfl, sq_l ha, pk.here (.bl _)⟩
theorem d_any (hc : X.calm = true) : CallR X (.builtin "any") (rc1 W .any) := by
  intro pins s σ H xs us Q I r h
  obtain ⟨x, d, F, rfl, dm, rd, nl, pk⟩ := h
  cases d <;> try exact pk.elim
  obtain ⟨z, e0, pk⟩ := Pk.opp pk
  obtain ⟨ns, e, rfl⟩ := Option.map_eq_some_iff.mp e0
  clear e0
  obtain ⟨a, xs, rfl, ha, ra⟩ := rd.list
  have e := ra.bools e
  subst e
  exact cr_any hc pins s σ H _ us Q I r ⟨a, ns, rfl, sq_l ha, pk.here (.bl _)⟩
theorem d_int : CallR X (.type "int") (rc1 W .int) := by
  intro pins s σ H xs us Q I r h
  obtain ⟨x, d, F, rfl, dm, rd, nl, pk⟩ := h
  cases d <;> try exact pk.elim
  · cases rd.bool
    exact call_int1 pins s σ H _ us Q I r (.inr ⟨_, rfl, pk.here (.int _)⟩)
  · cases rd.intV
    exact call_int1 pins s σ H _ us Q I r (.inl ⟨_, rfl, pk.here (.int _)⟩)
  · cases rd.strV
    obtain ⟨hb, pk⟩ := Pk.gdd pk
    obtain ⟨z, e0, pk⟩ := Pk.opp pk
    obtain ⟨n, e, rfl⟩ := Option.map_eq_some_iff.mp e0
    exact call_int_str pins s σ H _ us Q I r ⟨_, n, rfl, e, by rw [len_chs]; exact of_decide_eq_true hb, pk.here (.int _)⟩
theorem d_str : CallR X (.type "str") (rc1 W .str) := by
  intro pins s σ H xs us Q I r h
  obtain ⟨x, d, F, rfl, dm, rd, nl, pk⟩ := h
  cases d <;> try exact pk.elim
  rename_i i
  cases rd.intV
  obtain ⟨hb, pk⟩ := Pk.gdd pk
  have hb := of_decide_eq_true hb
  refine call_str_int pins s σ H _ us Q I r ⟨_, rfl, ?_, pk.here (.str _)⟩
  by_cases h0 : i.natAbs = 0
  · rw [h0]
    decide
  · exact Nat.lt_trans ((Nat.log2_lt h0).mpr hb) (by decide)
theorem d_list (hc : X.calm = true) : CallR X (.type "list") (rc1 W .list) := by
  intro pins s σ H xs us Q I r h
  obtain ⟨x, d, F, rfl, dm, rd, nl, pk⟩ := h
  cases d <;> try exact pk.elim
  · obtain ⟨a, xs, rfl, ha, ra⟩ := rd.list
    refine call_list_of pins s σ H _ us Q I r ⟨a, xs, rfl, .inl (sq_l ha), fun p np => ?_⟩
    obtain ⟨g, rn⟩ := Rp.newL dm np ra
    exact pk _ _ g rn
  · obtain ⟨a, xs, rfl, ha, ra⟩ := rd.tuple
    refine call_list_of pins s σ H _ us Q I r ⟨a, xs, rfl, .inr (sq_t ha), fun p np => ?_⟩
    obtain ⟨g, rn⟩ := Rp.newL dm np ra
    exact pk _ _ g rn
  · obtain ⟨a, kvs, rfl, ha, ra⟩ := rd.dict
    have ha := rd_ex (nl rfl) ha
    refine call_list_dK hc pins s σ H _ us Q I r ⟨a, kvs, rfl, ha, fun p np => ?_⟩
    obtain ⟨g, rn⟩ := Rp.newL dm np (ra.keys)
    exact pk _ _ g rn
theorem d_tuple : CallR X (.type "tuple") (rc1 W .tuple) := by
  intro pins s σ H xs us Q I r h
  obtain ⟨x, d, F, rfl, dm, rd, nl, pk⟩ := h
  cases d <;> try exact pk.elim
  · obtain ⟨a, xs, rfl, ha, ra⟩ := rd.list
    refine call_tupleZ pins s σ H _ us Q I r ⟨a, xs, rfl, .inl ⟨sq_l ha, fun p o np nd => ?_⟩⟩
    obtain ⟨g, rn⟩ := Rp.newT dm np nd ra
    exact pk _ _ g rn
  · have rd' := rd
    obtain ⟨a, xs, rfl, ha, ra⟩ := rd.tuple
    exact call_tupleZ pins s σ H _ us Q I r ⟨a, xs, rfl, .inr ⟨sq_t ha, pk.here rd'⟩⟩
end
end TD
/-! The slots and the evaluator's environment; readings by the evaluator. -/
namespace TD
open PySem PySem.Spec PyProof.Rows L2
variable [Tb]

/-- the law's own list -/
def FzL (K : PySem.W.Frag) (H : Hp) (F : List Addr) (a : Addr) (xs : List V) : Prop := (∃ o, H a = some (.frz o (.lst xs))) ∨ KLs K a xs ∨ (a ∉ F ∧ H a = some (.lst xs))
theorem FzL.sq {K : PySem.W.Frag} {H : Hp} {F : List Addr} {a : Addr} {xs : List V} (h : FzL K H F a xs) : SqL K H a xs := by
  rcases h with ⟨o, h⟩ | h | ⟨_, h⟩
  · exact .inl (.inr ⟨o, h⟩)
  · exact .inr h
  · exact .inl (.inl h)
/-- a dict of lists that are held here alone -/
inductive DeepKV (H : Hp) (F : List Addr) : List (Key × V) → List (PyData × PyData) → List Addr → Prop
  | nil : DeepKV H F [] [] []
  | cons {k : Key} {m : Addr} {vs : List V} {ds : List PyData} {r : List (Key × V)} {ps : List (PyData × PyData)} {ms : List Addr} :
    m ∈ F → H m = some (.lst vs) → RpAll (vw H F) vs ds → m ∉ ms → DeepKV H F r ps ms → DeepKV H F ((k, .ref m) :: r) ((keyD k, .list ds) :: ps) (m :: ms)
def Own2 (H : Hp) (F : List Addr) (v : V) (d : PyData) (as : List Addr) : Prop :=
  ∃ l ms kvs ps, as = l :: ms ∧ v = .ref l ∧ l ∈ F ∧ l ∉ ms ∧ d = .dict ps ∧ H l = some (.dK kvs) ∧ DeepKV H F kvs ps ms
/-- the module's written part; what the callers hold -/
structure Kx where
  k : PySem.W.Frag
  f0 : List Addr
abbrev kx (X : Cx) (f0 : List Addr) : Kx := ⟨X.K, f0⟩
def Sl (K : Kx) (H : Hp) (F : List Addr) : Nat → V → PyData → List Addr → Prop
  | 0, v, d, as => as = [] ∧ Rp (vw H F) v d
  | 1, v, d, as => ∃ l, as = [l] ∧ Own1 H F v d l
  | 2, v, d, as => Own2 H F v d as
  | 3, v, d, as => as = [] ∧ ∃ (a : Addr) (ns : List Int), v = .ref a ∧ d = .list (ns.map PyData.int) ∧ FzL K.k H F a (ns.map V.int)
  | _, _, _, _ => False
structure ER (K : Kx) (H : Hp) (F : List Addr) (σ : L2.St) (ρ : Env) : Prop where
  dm : Dm F H
  len : ρ.length = σ.length
  own : ∃ A : Nat → List Addr, (∀ i o d, ρ[i]? = some (some (o, d)) → ∃ v, σ[i]? = some (some v) ∧ Sl K H F o v d (A i)) ∧ (∀ i j, i ≠ j → ∀ a, a ∈ A i → a ∉ A j) ∧ ∀ i a, a ∈ A i → a ∉ K.f0
section
variable {K : Kx} {H H' : Hp} {F F' : List Addr} {σ : L2.St} {ρ : Env}
theorem Own1.gr {v : V} {d : PyData} {l : Addr} (h : Own1 H F v d l) (g : Gr H H') : Own1 H' F v d l := by
  obtain ⟨e, hl, h⟩ := h
  refine ⟨e, hl, ?_⟩
  rcases h with ⟨vs, ds, e, h1, h2⟩ | ⟨kvs, ps, e, h1, h2⟩
  · exact .inl ⟨vs, ds, e, g.same _ _ h1 rfl, h2.gr g⟩
  · exact .inr ⟨kvs, ps, e, g.same _ _ h1 rfl, h2.gr g⟩
theorem DeepKV.gr {kvs : List (Key × V)} {ps : List (PyData × PyData)} {ms : List Addr} (h : DeepKV H F kvs ps ms) (g : Gr H H') : DeepKV H' F kvs ps ms := by
  induction h with
  | nil => exact .nil
  | cons h1 h2 h3 h4 _ ih => exact .cons h1 (g.same _ _ h2 rfl) (h3.gr g) h4 ih
theorem Own2.gr {v : V} {d : PyData} {as : List Addr} (h : Own2 H F v d as) (g : Gr H H') : Own2 H' F v d as := by
  obtain ⟨l, ms, kvs, ps, e1, e2, e3, e4, e5, e6, e7⟩ := h
  exact ⟨l, ms, kvs, ps, e1, e2, e3, e4, e5, g.same _ _ e6 rfl, e7.gr g⟩
theorem FzL.gr {K : PySem.W.Frag} {a : Addr} {xs : List V} (h : FzL K H F a xs) (g : Gr H H') : FzL K H' F a xs := by
  rcases h with ⟨o, h⟩ | h | ⟨n, h⟩
  · exact .inl ⟨o, g.same _ _ h rfl⟩
  · exact .inr (.inl h)
  · exact .inr (.inr ⟨n, g.same _ _ h rfl⟩)
theorem Sl.gr {o : Nat} {v : V} {d : PyData} {as : List Addr} (h : Sl K H F o v d as) (g : Gr H H') : Sl K H' F o v d as := by
  match o with
  | 0 => exact ⟨h.1, h.2.gr g⟩
  | 1 =>
    obtain ⟨l, e, h⟩ := h
    exact ⟨l, e, h.gr g⟩
  | 2 => exact Own2.gr h g
  | 3 =>
    obtain ⟨e, a, ns, e1, e2, h⟩ := h
    exact ⟨e, a, ns, e1, e2, h.gr g⟩
  | _ + 4 => exact h.elim
theorem ER.gr (h : ER K H F σ ρ) (g : Gr H H') : ER K H' F σ ρ := by
  obtain ⟨A, h1, h2, h3⟩ := h.own
  refine ⟨h.dm.gr g.same, h.len, A, fun i o d e => ?_, h2, h3⟩
  obtain ⟨v, e1, s⟩ := h1 i o d e
  exact ⟨v, e1, s.gr g⟩
def Un0 (is : List Nat) (ρ : Env) : Prop := ∀ i ∈ is, ∀ o d, ρ[i]? = some (some (o, d)) → o = 0 ∨ o = 3
theorem Un0.l {is js : List Nat} (h : Un0 (is ++ js) ρ) : Un0 is ρ := fun i hi => h i (List.mem_append_left _ hi)
theorem Un0.r {is js : List Nat} (h : Un0 (is ++ js) ρ) : Un0 js ρ := fun i hi => h i (List.mem_append_right _ hi)
theorem get_ok {i : Nat} {d : PyData} (h : Env.get ρ i = .ok d) : ∃ o, ρ[i]? = some (some (o, d)) ∧ o ≤ 1 := by
  unfold Env.get at h
  split at h
  · rename_i p q
    cases h
    exact ⟨0, q, by decide⟩
  · rename_i p q
    cases h
    exact ⟨1, q, by decide⟩
  · cases h
/-- a name that is read -/
theorem ER.var (h : ER K H F σ ρ) {i : Nat} {d : PyData} (e : Env.get ρ i = .ok d) (u : Un0 [i] ρ) : ∃ v, σ[i]? = some (some v) ∧ Rp (vw H F) v d := by
  obtain ⟨o, q, ho⟩ := get_ok e
  have hz : o = 0 := by
    rcases u i (by simp) o d q with z | z
    · exact z
    · omega
  subst hz
  obtain ⟨A, h1, _, _⟩ := h.own
  obtain ⟨v, e1, s⟩ := h1 i 0 d q
  exact ⟨v, e1, s.2⟩
/-- the evaluator's error is none -/
abbrev W0 : Nat → Hp → Prop := fun _ _ => False
end
/-! ### readings -/
def tE (K : Kx) (c : C) (e : E) : TE := fun σ H Q => ∃ ρ F, ER K H F σ ρ ∧ (c.nl = true → NL H) ∧ Un0 (gens e) ρ ∧ Pk W0 H F Q (ev c ρ e)
/-- what is wanted of several values -/
def PkL (H : Hp) (F : List Addr) (Q : List V → Hp → Prop) : R (List PyData) → Prop
  | .ok ds => ∀ vs H', Gr H H' → RpAll (vw H' F) vs ds → Q vs H'
  | _ => False
def tEs (K : Kx) (c : C) (es : Es) : TA := fun σ H Q => ∃ ρ F, ER K H F σ ρ ∧ (c.nl = true → NL H) ∧ Un0 (gensL es) ρ ∧ PkL H F Q (evs c ρ es)
end TD
namespace L2
open PySem PySem.Spec PyProof.Rows
theorem PE.imp {X : Cx} {e : Expr} {t t' : TE} (h : PE X e t) (g : ∀ σ H Q, t' σ H Q → t σ H Q) : PE X e t' := ⟨fun pins s σ H Q I hw => h.run pins s σ H Q I (g σ H Q hw)⟩
theorem PE.or {X : Cx} {e : Expr} {t t' : TE} (h : PE X e t) (h' : PE X e t') : PE X e (fun σ H Q => t σ H Q ∨ t' σ H Q) :=
  ⟨fun pins s σ H Q I hw => hw.elim (h.run pins s σ H Q I) (h'.run pins s σ H Q I)⟩
theorem PT.imp {X : Cx} {e : Expr} {t t' : TT} (h : PT X e t) (g : ∀ σ H Q, t' σ H Q → t σ H Q) : PT X e t' := ⟨fun pins s σ H Q I hw => h.run pins s σ H Q I (g σ H Q hw)⟩
theorem PW.imp {X : Cx} {e : Expr} {t t' : TT} (h : PW X e t) (g : ∀ σ H Q, t' σ H Q → t σ H Q) : PW X e t' := ⟨fun w pins s σ H Q I hw => h.run w pins s σ H Q I (g σ H Q hw)⟩
theorem PA.imp {X : Cx} {e : List Expr} {t t' : TA} (h : PA X e t) (g : ∀ σ H Q, t' σ H Q → t σ H Q) : PA X e t' := ⟨fun p pins s σ H Q I hw => h.run p pins s σ H Q I (g σ H Q hw)⟩
end L2
namespace TD
open PySem PySem.Spec PyProof.Rows L2
variable [Tb]
section
variable {K : Kx} {c : C} {H H' : Hp} {F : List Addr} {σ : L2.St} {ρ : Env} {Q : VK}
theorem Pk.bind {α : Type} {r : R α} {f : α → R PyData} (h : Pk W0 H F Q (r >>= f)) : ∃ a, r = .ok a ∧ Pk W0 H F Q (f a) := by
  cases r with
  | ok a => exact ⟨a, rfl, h⟩
  | err c => exact (h H (Gr.refl H)).elim
  | bad => exact h.elim
theorem PkL.bind {α : Type} {r : R α} {f : α → R (List PyData)} {Q : List V → Hp → Prop} (h : PkL H F Q (r >>= f)) : ∃ a, r = .ok a ∧ PkL H F Q (f a) := by
  cases r with
  | ok a => exact ⟨a, rfl, h⟩
  | err c => exact h.elim
  | bad => exact h.elim
theorem Pk.gr {r : R PyData} (h : Pk W0 H F Q r) (g : Gr H H') : Pk W0 H' F Q r := by
  cases r with
  | ok d => exact fun v H2 g2 r => h v H2 (g.trans g2) r
  | err c => exact (h H (Gr.refl H)).elim
  | bad => exact h.elim
theorem nl_gr (n : c.nl = true → NL H) (g : Gr H H') : c.nl = true → NL H' := fun h => g.nl (n h)
theorem tE_of {e : E} (er : ER K H F σ ρ) (n : c.nl = true → NL H) (u : Un0 (gens e) ρ) {d : PyData} (h : ev c ρ e = .ok d) (k : ∀ v H', Gr H H' → Rp (vw H' F) v d → Q v H') : tE K c e σ H Q :=
  ⟨ρ, F, er, n, u, by rw [h]; exact k⟩
/-- two values, one behind the other -/
theorem tE_two {a b : E} {r : R2} (er : ER K H F σ ρ) (n : c.nl = true → NL H) (ua : Un0 (gens a) ρ) (ub : Un0 (gens b) ρ) {x y : PyData} (ha : ev c ρ a = .ok x) (hb : ev c ρ b = .ok y)
    (k : ∀ v u H', Gr H H' → Rp (vw H' F) v x → Rp (vw H' F) u y → Dm F H' → (c.nl = true → NL H') → r v u H' Q) : tOp r (tE K c a) (tE K c b) σ H Q := by
  refine tE_of er n ua ha fun v H1 g1 r1 => ?_
  refine tE_of (er.gr g1) (nl_gr n g1) ub hb fun u H2 g2 r2 => ?_
  have g := g1.trans g2
  exact k v u H2 g (r1.gr g2) r2 (er.dm.gr g.same) (nl_gr n g)
theorem tE_bin {f : PyData → PyData → R PyData} {a b e : E} (he : ev c ρ e = (ev c ρ a >>= fun x => ev c ρ b >>= f x)) (er : ER K H F σ ρ) (n : c.nl = true → NL H) (ua : Un0 (gens a) ρ) (ub : Un0 (gens b) ρ) (h : Pk W0 H F Q (ev c ρ e)) : tOp (r2 W0 f) (tE K c a) (tE K c b) σ H Q := by
  rw [he] at h
  obtain ⟨x, hx, h⟩ := h.bind
  obtain ⟨y, hy, h⟩ := h.bind
  exact tE_two er n ua ub hx hy fun v u H' g r1 r2 dm _ => ⟨x, y, F, dm, r1, r2, h.gr g⟩
/-! ### a larger heap, more that is held -/
structure Vg (H : Hp) (F : List Addr) (H' : Hp) (F' : List Addr) : Prop where
  same : Sm H H'
  sub : ∀ a ∈ F, a ∈ F'
  new : ∀ a ∈ F', a ∈ F ∨ Nw H a
  dm : Dm F' H'
theorem Vg.vw {F' : List Addr} (g : Vg H F H' F') : Same (TD.vw H F) (TD.vw H' F') := fun b o h => by
  obtain ⟨hb, u, q, i, e⟩ := vw_ex h
  rw [← e]
  exact vw_of (fun z => (g.new b z).elim hb fun w => w.no q i) (g.same b u q i) i
theorem Own1.vg {F' : List Addr} {v : V} {d : PyData} {l : Addr} (h : Own1 H F v d l) (g : Vg H F H' F') : Own1 H' F' v d l := by
  obtain ⟨e, hl, h⟩ := h
  refine ⟨e, g.sub _ hl, ?_⟩
  rcases h with ⟨vs, ds, e, h1, h2⟩ | ⟨kvs, ps, e, h1, h2⟩
  · exact .inl ⟨vs, ds, e, g.same _ _ h1 rfl, h2.mono g.vw⟩
  · exact .inr ⟨kvs, ps, e, g.same _ _ h1 rfl, h2.mono g.vw⟩
theorem DeepKV.vg {F' : List Addr} {kvs : List (Key × V)} {ps : List (PyData × PyData)} {ms : List Addr} (h : DeepKV H F kvs ps ms) (g : Vg H F H' F') : DeepKV H' F' kvs ps ms := by
  induction h with
  | nil => exact .nil
  | cons h1 h2 h3 h4 _ ih => exact .cons (g.sub _ h1) (g.same _ _ h2 rfl) (h3.mono g.vw) h4 ih
theorem FzL.vg {F' : List Addr} {K : PySem.W.Frag} {a : Addr} {xs : List V} (h : FzL K H F a xs) (g : Vg H F H' F') : FzL K H' F' a xs := by
  rcases h with ⟨o, h⟩ | h | ⟨n, h⟩
  · exact .inl ⟨o, g.same _ _ h rfl⟩
  · exact .inr (.inl h)
  · exact .inr (.inr ⟨fun z => (g.new a z).elim n fun w => w.no h rfl, g.same _ _ h rfl⟩)
theorem Sl.vg {F' : List Addr} {o : Nat} {v : V} {d : PyData} {as : List Addr} (h : Sl K H F o v d as) (g : Vg H F H' F') : Sl K H' F' o v d as := by
  match o with
  | 0 => exact ⟨h.1, h.2.mono g.vw⟩
  | 1 =>
    obtain ⟨l, e, h⟩ := h
    exact ⟨l, e, h.vg g⟩
  | 2 =>
    obtain ⟨l, ms, kvs, ps, e1, e2, e3, e4, e5, e6, e7⟩ := h
    exact ⟨l, ms, kvs, ps, e1, e2, g.sub _ e3, e4, e5, g.same _ _ e6 rfl, e7.vg g⟩
  | 3 =>
    obtain ⟨e, a, ns, e1, e2, h⟩ := h
    exact ⟨e, a, ns, e1, e2, h.vg g⟩
  | _ + 4 => exact h.elim
theorem ER.vg {F' : List Addr} (h : ER K H F σ ρ) (g : Vg H F H' F') : ER K H' F' σ ρ := by
  obtain ⟨A, h1, h2, h3⟩ := h.own
  refine ⟨g.dm, h.len, A, fun i o d e => ?_, h2, h3⟩
  obtain ⟨v, e1, s⟩ := h1 i o d e
  exact ⟨v, e1, s.vg g⟩
/-! ### slots set, slots forgotten -/
theorem ER.weak {σ' : L2.St} {ρ' : Env} (h : ER K H F σ ρ) (hl : ρ'.length = σ'.length) (hs : ∀ (i : Nat) (p : Nat × PyData), ρ'[i]? = some (some p) → ρ[i]? = some (some p) ∧ σ'[i]? = σ[i]?) : ER K H F σ' ρ' := by
  obtain ⟨A, h1, h2, h3⟩ := h.own
  refine ⟨h.dm, hl, A, fun i o d e => ?_, h2, h3⟩
  obtain ⟨q1, q2⟩ := hs i (o, d) e
  obtain ⟨v, e1, s⟩ := h1 i o d q1
  exact ⟨v, q2.trans e1, s⟩
def fup (A : Nat → List Addr) (i : Nat) (l : List Addr) : Nat → List Addr := fun j => if j = i then l else A j
theorem fup_same {A : Nat → List Addr} {i : Nat} {l : List Addr} : fup A i l i = l := if_pos rfl
theorem fup_ne {A : Nat → List Addr} {i j : Nat} {l : List Addr} (h : j ≠ i) : fup A i l j = A j := if_neg h
/-- a slot is set; what it holds is new, or nothing -/
theorem ER.setA {i o : Nat} {v : V} {d : PyData} {as : List Addr} {A : Nat → List Addr} (dm : Dm F H) (len : ρ.length = σ.length) (hi : i < ρ.length)
    (h1 : ∀ j o d, j ≠ i → ρ[j]? = some (some (o, d)) → ∃ v, σ[j]? = some (some v) ∧ Sl K H F o v d (A j)) (h2 : ∀ i j, i ≠ j → ∀ a, a ∈ A i → a ∉ A j) (h3 : ∀ i a, a ∈ A i → a ∉ K.f0)
    (r : Sl K H F o v d as) (hn : ∀ a ∈ as, ∀ j, j ≠ i → a ∉ A j) (h0 : ∀ a ∈ as, a ∉ K.f0) : ER K H F (σ.set i (some v)) (ρ.set i (some (o, d))) := by
  refine ⟨dm, by rw [List.length_set, List.length_set, len], fup A i as, fun j o' d' e => ?_, fun j k hjk a ha => ?_, fun j a ha => ?_⟩
  · by_cases hj : j = i
    · subst hj
      rw [List.getElem?_set_self hi] at e
      cases e
      refine ⟨v, List.getElem?_set_self (by rw [← len]; exact hi), ?_⟩
      rw [fup_same]
      exact r
    · rw [List.getElem?_set_ne (Ne.symm hj)] at e
      obtain ⟨v', e1, s⟩ := h1 j o' d' hj e
      refine ⟨v', by rw [List.getElem?_set_ne (Ne.symm hj)]; exact e1, ?_⟩
      rw [fup_ne hj]
      exact s
  · by_cases hj : j = i
    · subst hj
      rw [fup_same] at ha
      rw [fup_ne (Ne.symm hjk)]
      exact hn a ha k (Ne.symm hjk)
    · rw [fup_ne hj] at ha
      by_cases hk : k = i
      · subst hk
        rw [fup_same]
        exact fun z => hn a z j hj ha
      · rw [fup_ne hk]
        exact h2 j k hjk a ha
  · by_cases hj : j = i
    · subst hj
      rw [fup_same] at ha
      exact h0 a ha
    · rw [fup_ne hj] at ha
      exact h3 j a ha
theorem ER.set0 {i : Nat} {v : V} {d : PyData} (h : ER K H F σ ρ) (hi : i < ρ.length) (r : Rp (vw H F) v d) : ER K H F (σ.set i (some v)) (ρ.set i (some (0, d))) := by
  obtain ⟨A, h1, h2, h3⟩ := h.own
  exact ER.setA (as := []) h.dm h.len hi (fun j o d _ => h1 j o d) h2 h3 ⟨rfl, r⟩ (fun a z => absurd z List.not_mem_nil) fun a z => absurd z List.not_mem_nil
theorem wipeE_length : ∀ (ρ : Env) (vs : List Nat), (wipeE ρ vs).length = ρ.length
  | ρ, [] => rfl
  | ρ, v :: vs => by
    unfold wipeE
    rw [List.length_set, wipeE_length ρ vs]
theorem wipeE_some {i : Nat} {p : Nat × PyData} : ∀ {vs : List Nat}, (wipeE ρ vs)[i]? = some (some p) → ρ[i]? = some (some p) ∧ i ∉ vs
  | [], h => ⟨h, by simp⟩
  | v :: vs, h => by
    unfold wipeE at h
    by_cases hi : v = i
    · subst hi
      by_cases hv : v < (wipeE ρ vs).length
      · rw [List.getElem?_set_self hv] at h
        cases h
      · rw [List.getElem?_eq_none (by simpa using hv)] at h
        cases h
    · rw [List.getElem?_set_ne hi] at h
      obtain ⟨h1, h2⟩ := wipeE_some h
      exact ⟨h1, by simp only [List.mem_cons, not_or]; exact ⟨fun e => hi e.symm, h2⟩⟩
theorem ER.wipe (h : ER K H F σ ρ) (vs : List Nat) : ER K H F (L2.wipe σ vs) (wipeE ρ vs) := by
  refine h.weak ?_ fun i p e => ?_
  · rw [wipeE_length, wipe_length, h.len]
  · obtain ⟨h1, h2⟩ := wipeE_some e
    exact ⟨h1, wipe_out h2⟩
/-! ### targets -/
def gNames : List Nat → TGs
  | [] => gNil
  | i :: is => gCons (gName i) (gNames is)
def gT (K : PySem.W.Frag) : T → TG
  | .nm i => gName i
  | .tp is => gTup K is.length (gNames is)
def setAll : List Nat → List V → L2.St → L2.St
  | i :: is, v :: vs, σ => setAll is vs (σ.set i (some v))
  | _, _, σ => σ
theorem gNames_of {Q : L2.St → Hp → Prop} : ∀ {is : List Nat} {vs : List V} {σ : L2.St}, vs.length = is.length → Q (setAll is vs σ) H → gNames is vs σ H Q
  | [], [], σ, _, q => ⟨rfl, q⟩
  | i :: is, v :: vs, σ, h, q => ⟨v, vs, rfl, gNames_of (by simpa using h) q⟩
  | [], _ :: _, _, h, _ => by simp at h
  | _ :: _, [], _, h, _ => by simp at h
theorem putAll_er : ∀ {is : List Nat} {vs : List V} {ds : List PyData} {σ : L2.St} {ρ ρ' : Env}, ER K H F σ ρ → RpAll (vw H F) vs ds → putAll is ds ρ = .ok ρ' → vs.length = is.length ∧ ER K H F (setAll is vs σ) ρ'
  | [], _, _, σ, ρ, ρ', h, .nil, e => by
    cases e
    exact ⟨rfl, h⟩
  | i :: is, _, _, σ, ρ, ρ', h, .cons (v := v) (d := d) r a, e => by
    unfold putAll Env.put at e
    by_cases hi : i < ρ.length
    · rw [decide_eq_true hi] at e
      obtain ⟨h1, h2⟩ := putAll_er (h.set0 hi r) a e
      exact ⟨by rw [List.length_cons, List.length_cons, h1], h2⟩
    · rw [decide_eq_false hi] at e
      cases e
  | [], _, _, _, _, _, _, .cons _ _, e => by cases e
  | _ :: _, _, _, _, _, _, _, .nil, e => by cases e
theorem setAll_wipe : ∀ (is : List Nat) (vs : List V) (σ : L2.St) (ws : List Nat), (∀ i ∈ is, i ∈ ws) → L2.wipe (setAll is vs σ) ws = L2.wipe σ ws
  | [], _, σ, ws, _ => rfl
  | i :: is, [], σ, ws, _ => rfl
  | i :: is, v :: vs, σ, ws, h => by
    show L2.wipe (setAll is vs (σ.set i (some v))) ws = _
    rw [setAll_wipe is vs _ ws fun j hj => h j (List.mem_cons_of_mem _ hj)]
    exact wipe_set σ ws (h i List.mem_cons_self)
where
  wipe_set (σ : L2.St) : ∀ (ws : List Nat) {i : Nat} {x : Option V}, i ∈ ws → L2.wipe (σ.set i x) ws = L2.wipe σ ws
    | w :: ws, i, x, h => by
      show (L2.wipe (σ.set i x) ws).set w none = (L2.wipe σ ws).set w none
      by_cases hw : i ∈ ws
      · rw [wipe_set σ ws hw]
      · have e : i = w := (List.mem_cons.mp h).resolve_right hw
        subst e
        rw [wipe_comm σ ws hw, List.set_set]
  wipe_comm (σ : L2.St) : ∀ (ws : List Nat) {i : Nat} {x : Option V}, i ∉ ws → L2.wipe (σ.set i x) ws = (L2.wipe σ ws).set i x
    | [], _, _, _ => rfl
    | w :: ws, i, x, h => by
      show (L2.wipe (σ.set i x) ws).set w none = ((L2.wipe σ ws).set w none).set i x
      rw [wipe_comm σ ws fun z => h (List.mem_cons_of_mem _ z)]
      exact List.set_comm _ _ fun e => h (e ▸ List.mem_cons_self)
theorem wipe_wipe (σ : L2.St) : ∀ (vs ws : List Nat), (∀ i ∈ vs, i ∈ ws) → L2.wipe (L2.wipe σ vs) ws = L2.wipe σ ws
  | [], _, _ => rfl
  | v :: vs, ws, h => by
    show L2.wipe ((L2.wipe σ vs).set v none) ws = _
    rw [setAll_wipe.wipe_set _ ws (h v List.mem_cons_self)]
    exact wipe_wipe σ vs ws fun i hi => h i (List.mem_cons_of_mem _ hi)
/-- a target takes its value -/
theorem gT_of {t : T} {v : V} {d : PyData} {ρ' : Env} {Q : L2.St → Hp → Prop} (h : ER K H F σ ρ) (r : Rp (vw H F) v d) (e : bindT t d ρ = .ok ρ') (q : ∀ σ', ER K H F σ' ρ' → (∀ ws, (∀ i ∈ t.slots, i ∈ ws) → L2.wipe σ' ws = L2.wipe σ ws) → Q σ' H) : gT K.k t v σ H Q := by
  cases t with
  | nm i =>
    have e : gd (decide (i < ρ.length)) (.ok (ρ.set i (some (0, d)))) = .ok ρ' := e
    by_cases hi : i < ρ.length
    · rw [decide_eq_true hi] at e
      cases e
      exact q _ (h.set0 hi r) fun ws hw => setAll_wipe [i] [v] σ ws hw
    · rw [decide_eq_false hi] at e
      cases e
  | tp is =>
    cases d with
    | tuple ds =>
      obtain ⟨a, xs, rfl, ha, ra⟩ := r.tuple
      obtain ⟨h1, h2⟩ := putAll_er h ra e
      exact ⟨a, xs, rfl, ha.sq, h1, gNames_of h1 (q _ h2 fun ws hw => setAll_wipe is xs σ ws hw)⟩
    | _ => cases e
/-- what a bound environment holds -/
theorem putAll_kinds : ∀ {is : List Nat} {ds : List PyData} {ρ ρ' : Env}, putAll is ds ρ = .ok ρ' → ∀ (i o : Nat) (p : PyData), ρ'[i]? = some (some (o, p)) → o = 0 ∨ ρ[i]? = some (some (o, p))
  | [], [], ρ, ρ', e, i, o, p, h => by
    cases e
    exact .inr h
  | j :: is, d :: ds, ρ, ρ', e, i, o, p, h => by
    unfold putAll Env.put at e
    by_cases hi : j < ρ.length
    · rw [decide_eq_true hi] at e
      rcases putAll_kinds e i o p h with z | z
      · exact .inl z
      · by_cases hj : j = i
        · subst hj
          rw [List.getElem?_set_self hi] at z
          cases z
          exact .inl rfl
        · rw [List.getElem?_set_ne hj] at z
          exact .inr z
    · rw [decide_eq_false hi] at e
      cases e
  | [], _ :: _, _, _, e, _, _, _, _ => by cases e
  | _ :: _, [], _, _, e, _, _, _, _ => by cases e
theorem bindT_kinds {t : T} {d : PyData} {ρ' : Env} (e : bindT t d ρ = .ok ρ') (i o : Nat) (p : PyData) (h : ρ'[i]? = some (some (o, p))) : o = 0 ∨ ρ[i]? = some (some (o, p)) := by
  cases t with
  | nm j =>
    have q : putAll [j] [d] ρ = .ok ρ' := by
      show (Env.put ρ j 0 d >>= putAll [] []) = .ok ρ'
      rw [show Env.put ρ j 0 d = .ok ρ' from e]
      rfl
    exact putAll_kinds q i o p h
  | tp is =>
    cases d <;> first
      | exact putAll_kinds e i o p h
      | cases e
theorem Un0.bound {is : List Nat} {t : T} {d : PyData} {ρ' : Env} {vs : List Nat} (u : Un0 is ρ) (e : bindT t d (wipeE ρ vs) = .ok ρ') : Un0 is ρ' := fun i hi o p h => by
  rcases bindT_kinds e i o p h with z | z
  · exact .inl z
  · exact u i hi o p (wipeE_some z).1
end
end TD
/-! Each construct read by the evaluator. -/
namespace TD
open PySem PySem.Spec PyProof.Rows L2
variable [Tb]
section
variable {X : Cx} {f0 : List Addr} {c : C} {x y z : Expr} {a b d : E} {pos : Pos}
/-- an expression and its test -/
structure SE (X : Cx) (f0 : List Addr) (c : C) (e : E) (x : Expr) : Prop where
  pe : PE X x (tE (kx X f0) c e)
  pt : PT X x (tB (tE (kx X f0) c e))
def plainT : Expr → Bool
  | .UnaryOp .Not _ _ => false
  | .BoolOp _ _ _ => false
  | .IfExp _ _ _ _ => false
  | .Compare _ _ _ _ => false
  | _ => true
theorem plainT_eq {e : Expr} (h : plainT e = true) (env : PySem.Env) : ∀ whole, isTrue e env whole = (do let v ← whole; standAt e.pos; holding [v] (truthy v)) := by
  intro whole
  cases e with
  | UnaryOp op _ _ => cases op <;> first
    | rfl
    | exact absurd h (by simp [plainT])
  | BoolOp _ _ _ => exact absurd h (by simp [plainT])
  | IfExp _ _ _ _ => exact absurd h (by simp [plainT])
  | Compare _ _ _ _ => exact absurd h (by simp [plainT])
  | _ => rfl
theorem SE.of (h : PE X x (tE (kx X f0) c a)) (hp : plainT x = true) : SE X f0 c a x := ⟨h, pt_val h (plainT_eq hp _)⟩
/-! ### names, constants -/
theorem s_var {i : Nat} {x : Str} (hN : X.N[i]? = some x) (hv : Vis X.env.scope x) (hd : (x == ("__debug__" : Str)) = false) (hcd : (x == ("__classdict__" : Str)) = false) : SE X f0 c (.var i) (.Name x pos) := by
  refine SE.of ((pe_var hN hv hd hcd).imp fun σ H Q h => ?_) rfl
  obtain ⟨ρ, F, er, n, u, pk⟩ := h
  have pk : Pk W0 H F Q (Env.get ρ i) := pk
  cases e : Env.get ρ i with
  | ok d =>
    rw [e] at pk
    obtain ⟨v, e1, r⟩ := er.var e u
    exact ⟨v, e1, pk.here r⟩
  | err k =>
    rw [e] at pk
    exact (pk H (Gr.refl H)).elim
  | bad =>
    rw [e] at pk
    exact pk.elim
theorem s_c {d : PyData} {v : V} (h : PE X x (tC v)) (r : ∀ M : Hp, Rp M v d) (hp : plainT x = true) : SE X f0 c (.cst d) x := by
  refine SE.of (h.imp fun σ H Q h => ?_) hp
  obtain ⟨ρ, F, er, n, u, pk⟩ := h
  exact Pk.here pk (r _)
/-! ### operators -/
theorem s_bin {o : Operator} (ho : binOk o = true) (ha : SE X f0 c a x) (hb : SE X f0 c b y) : SE X f0 c (.bin o a b) (.BinOp x o y pos) := by
  refine SE.of ((pe_op (d_bin (W := W0) ho) ha.pe hb.pe).imp fun σ H Q h => ?_) rfl
  obtain ⟨ρ, F, er, n, u, pk⟩ := h
  exact tE_bin rfl er n u.l u.r pk
theorem s_neg (ha : SE X f0 c a x) : SE X f0 c (.neg a) (.UnaryOp .USub x pos) := by
  refine SE.of ((pe_un (d_neg (W := W0)) ha.pe).imp fun σ H Q h => ?_) rfl
  obtain ⟨ρ, F, er, n, u, pk⟩ := h
  obtain ⟨d, e, pk⟩ := Pk.bind pk
  exact tE_of er n u e fun v H' g r => ⟨d, F, er.dm.gr g.same, r, pk.gr g⟩
theorem boolD_ok {d : PyData} {k : Bool} (h : boolD d = .ok k) : d = .bool k := by
  cases d <;> first
    | (cases h; rfl)
    | cases h
theorem s_not (ha : SE X f0 c a x) : SE X f0 c (.not a) (.UnaryOp .Not x pos) := by
  refine ⟨(pe_not ha.pe).imp fun σ H Q h => ?_, (pt_not ha.pt).imp fun σ H Q h => ?_⟩
  · obtain ⟨ρ, F, er, n, u, pk⟩ := h
    obtain ⟨d, e, pk⟩ := Pk.bind pk
    obtain ⟨k, ek, pk⟩ := Pk.bind pk
    cases boolD_ok ek
    exact tE_of er n u e fun v H' g r => ⟨k, r.bool, (pk.gr g).here (.bl _)⟩
  · obtain ⟨ρ, F, er, n, u, pk⟩ := h
    obtain ⟨d, e, pk⟩ := Pk.bind pk
    obtain ⟨k, ek, pk⟩ := Pk.bind pk
    cases boolD_ok ek
    refine tE_of er n u e fun v H' g r => ⟨k, r.bool, ?_⟩
    obtain ⟨k', e', q⟩ := (pk.gr g).here (.bl _)
    cases e'
    exact q
structure SW (X : Cx) (f0 : List Addr) (c : C) (e : E) (x : Expr) : Prop where
  se : SE X f0 c e x
  pw : PW X x (tB (tE (kx X f0) c e))
theorem s_one {op : BoolOp} (ha : SE X f0 c a x) : SW X f0 c (.one a) (.BoolOp op [x] pos) := by
  have h1 : PW X (.BoolOp op [x] pos) (tB (tE (kx X f0) c a)) := by
    cases op
    · exact pw_and1 ha.pt
    · exact pw_or1 ha.pt
  exact ⟨⟨pe_one ha.pe, h1.pt⟩, h1⟩
theorem s_and {rest : List Expr} (ha : SE X f0 c a x) (hb : SW X f0 c b (.BoolOp .And (y :: rest) pos)) : SW X f0 c (.and a b) (.BoolOp .And (x :: y :: rest) pos) := by
  have h1 : PW X (.BoolOp .And (x :: y :: rest) pos) (tB (tE (kx X f0) c (.and a b))) := by
    refine (pw_and ha.pt hb.pw).imp fun σ H Q h => ?_
    obtain ⟨ρ, F, er, n, u, pk⟩ := h
    obtain ⟨d, e, pk⟩ := Pk.bind pk
    obtain ⟨k, ek, pk⟩ := Pk.bind pk
    cases boolD_ok ek
    refine tE_of er n u.l e fun v H' g r => ⟨k, r.bool, ?_⟩
    cases k with
    | true =>
      rw [if_pos rfl]
      exact ⟨ρ, F, er.gr g, nl_gr n g, u.r, pk.gr g⟩
    | false =>
      rw [if_neg Bool.false_ne_true]
      obtain ⟨k', e', q⟩ := (pk.gr g).here (.bl _)
      cases e'
      exact q
  refine ⟨⟨(pe_and ha.pe hb.se.pe).imp fun σ H Q h => ?_, h1.pt⟩, h1⟩
  obtain ⟨ρ, F, er, n, u, pk⟩ := h
  obtain ⟨d, e, pk⟩ := Pk.bind pk
  obtain ⟨k, ek, pk⟩ := Pk.bind pk
  cases boolD_ok ek
  refine tE_of er n u.l e fun v H' g r => ⟨k, r.bool, ?_⟩
  cases k with
  | true =>
    rw [if_pos rfl]
    exact ⟨ρ, F, er.gr g, nl_gr n g, u.r, pk.gr g⟩
  | false =>
    rw [if_neg Bool.false_ne_true]
    exact (pk.gr g).here (.bl _)
theorem s_or {rest : List Expr} (ha : SE X f0 c a x) (hb : SW X f0 c b (.BoolOp .Or (y :: rest) pos)) : SW X f0 c (.or a b) (.BoolOp .Or (x :: y :: rest) pos) := by
  have h1 : PW X (.BoolOp .Or (x :: y :: rest) pos) (tB (tE (kx X f0) c (.or a b))) := by
    refine (pw_or ha.pt hb.pw).imp fun σ H Q h => ?_
    obtain ⟨ρ, F, er, n, u, pk⟩ := h
    obtain ⟨d, e, pk⟩ := Pk.bind pk
    obtain ⟨k, ek, pk⟩ := Pk.bind pk
    cases boolD_ok ek
    refine tE_of er n u.l e fun v H' g r => ⟨k, r.bool, ?_⟩
    cases k with
    | true =>
      rw [if_pos rfl]
      obtain ⟨k', e', q⟩ := (pk.gr g).here (.bl _)
      cases e'
      exact q
    | false =>
      rw [if_neg Bool.false_ne_true]
      exact ⟨ρ, F, er.gr g, nl_gr n g, u.r, pk.gr g⟩
  refine ⟨⟨(pe_or ha.pe hb.se.pe).imp fun σ H Q h => ?_, h1.pt⟩, h1⟩
  obtain ⟨ρ, F, er, n, u, pk⟩ := h
  obtain ⟨d, e, pk⟩ := Pk.bind pk
  obtain ⟨k, ek, pk⟩ := Pk.bind pk
  cases boolD_ok ek
  refine tE_of er n u.l e fun v H' g r => ⟨k, r.bool, ?_⟩
  cases k with
  | true =>
    rw [if_pos rfl]
    exact (pk.gr g).here (.bl _)
  | false =>
    rw [if_neg Bool.false_ne_true]
    exact ⟨ρ, F, er.gr g, nl_gr n g, u.r, pk.gr g⟩
/-! ### comparisons -/
def cmpOk : CmpOp → Bool
  | .In => false
  | .NotIn => false
  | _ => true
theorem d_cmp (hu : X.A.units + 64 < cLine) {o : CmpOp} (h : cmpOk o = true) : OpR X (compareOp o) (r2 W0 (cmpD o)) := by
  cases o <;> first
    | exact d_eq hu
    | exact d_ne hu
    | exact d_lt hu
    | exact d_gt
    | exact d_le
    | exact d_ge
    | exact d_is
    | exact d_isnot
    | cases h
theorem cmp_nomark {o : CmpOp} (h : cmpOk o = true) (b : Expr) : behindInMarks o b = false := by
  refine nobehind b ?_ ?_ <;> (intro z; subst z; cases h)
theorem gens_cmp {o : CmpOp} (h : cmpOk o = true) : gens (.cmp o a b) = gens a ++ gens b := by
  have e : (inOp o && isVar b) = false := by
    cases o <;> first
      | rfl
      | cases h
  show gens a ++ cond (inOp o && isVar b) [] (gens b) = _
  rw [e]
  rfl
theorem ev_cmp {ρ : Env} {o : CmpOp} : ev c ρ (.cmp o a b) = (ev c ρ a >>= fun x => ev c ρ b >>= cmpD o x) := rfl
theorem s_cmp (hu : X.A.units + 64 < cLine) {o : CmpOp} (ho : cmpOk o = true) (ha : SE X f0 c a x) (hb : SE X f0 c b y) : SE X f0 c (.cmp o a b) (.Compare x [o] [y] pos) := by
  have key : ∀ σ H Q, tE (kx X f0) c (.cmp o a b) σ H Q → tOp (r2 W0 (cmpD o)) (tE (kx X f0) c a) (tE (kx X f0) c b) σ H Q := fun σ H Q h => by
    obtain ⟨ρ, F, er, n, u, pk⟩ := h
    rw [gens_cmp ho] at u
    exact tE_bin ev_cmp er n u.l u.r pk
  exact ⟨(pe_cmpR (d_cmp hu ho) ha.pe hb.pe (cmp_nomark ho y)).imp key, (pt_cmpR (d_cmp hu ho) ha.pe hb.pe (cmp_nomark ho y)).imp fun σ H Q h => key σ H _ h⟩
theorem Pk.inn {H : Hp} {F : List Addr} {Q : VK} {f : R Bool → R Bool} {p q : PyData} (hf : ∀ r, (∀ k, r ≠ .err k) → ∀ k, f r ≠ .err k) (h : Pk W0 H F Q (do .ok (.bool (← f (inD p q))))) : ∃ k, f (inD p q) = .ok k ∧ Q (.bl k) H := by
  obtain ⟨k, e, pk⟩ := Pk.bind h
  exact ⟨k, e, pk.here (.bl _)⟩
/-- x in y, y any expression -/
theorem s_in (hu : X.A.units + 70 < cLine) (ha : SE X f0 c a x) (hb : SE X f0 c b y) (hg : gens (.cmp .In a b) = gens a ++ gens b) (hm : behindInMarks .In y = false) : SE X f0 c (.cmp .In a b) (.Compare x [.In] [y] pos) := by
  have key : ∀ σ H Q, tE (kx X f0) c (.cmp .In a b) σ H Q → tOp (rInn W0 id) (tE (kx X f0) c a) (tE (kx X f0) c b) σ H Q := fun σ H Q h => by
    obtain ⟨ρ, F, er, n, u, pk⟩ := h
    rw [hg] at u
    rw [ev_cmp] at pk
    obtain ⟨p, hp, pk⟩ := Pk.bind pk
    obtain ⟨q, hq, pk⟩ := Pk.bind pk
    refine tE_two er n u.l u.r hp hq fun v u H' g r1 r2 dm _ => ⟨p, q, F, F, r1, r2, ?_⟩
    exact Pk.inn (f := id) (fun _ h => h) (pk.gr g)
  exact ⟨(pe_cmpR (d_inn (W := W0) hu) ha.pe hb.pe hm).imp key, (pt_cmpR (d_inn (W := W0) hu) ha.pe hb.pe hm).imp fun σ H Q h => key σ H _ h⟩
theorem s_nin (hu : X.A.units + 70 < cLine) (ha : SE X f0 c a x) (hb : SE X f0 c b y) (hg : gens (.cmp .NotIn a b) = gens a ++ gens b) (hm : behindInMarks .NotIn y = false) : SE X f0 c (.cmp .NotIn a b) (.Compare x [.NotIn] [y] pos) := by
  have key : ∀ σ H Q, tE (kx X f0) c (.cmp .NotIn a b) σ H Q → tOp (rInn W0 notR) (tE (kx X f0) c a) (tE (kx X f0) c b) σ H Q := fun σ H Q h => by
    obtain ⟨ρ, F, er, n, u, pk⟩ := h
    rw [hg] at u
    rw [ev_cmp] at pk
    obtain ⟨p, hp, pk⟩ := Pk.bind pk
    obtain ⟨q, hq, pk⟩ := Pk.bind pk
    refine tE_two er n u.l u.r hp hq fun v u H' g r1 r2 dm _ => ⟨p, q, F, F, r1, r2, ?_⟩
    obtain ⟨k, e, pk⟩ := Pk.bind pk
    exact ⟨k, e, (pk.gr g).here (.bl _)⟩
  exact ⟨(pe_cmpR (d_notinn (W := W0) hu) ha.pe hb.pe hm).imp key, (pt_cmpR (d_notinn (W := W0) hu) ha.pe hb.pe hm).imp fun σ H Q h => key σ H _ h⟩
/-- a name's thing, held here or not -/
theorem ER.held {H : Hp} {F : List Addr} {σ : L2.St} {ρ : Env} {i : Nat} {p : PyData} (er : ER (kx X f0) H F σ ρ) (e : Env.get ρ i = .ok p) : ∃ v, σ[i]? = some (some v) ∧ Hd H F v p := by
  obtain ⟨o, q, ho⟩ := get_ok e
  obtain ⟨A, h1, _, _⟩ := er.own
  obtain ⟨v, e1, s⟩ := h1 i o p q
  match o with
  | 0 => exact ⟨v, e1, .inl s.2⟩
  | 1 =>
    obtain ⟨l, _, s⟩ := s
    exact ⟨v, e1, .inr ⟨l, s⟩⟩
  | _ + 2 => exact absurd ho (by omega)
theorem ER.heldAt {H : Hp} {F : List Addr} {σ : L2.St} {ρ : Env} {i : Nat} {p : PyData} {v : V} (er : ER (kx X f0) H F σ ρ) (e : Env.get ρ i = .ok p) (e1 : σ[i]? = some (some v)) : Hd H F v p := by
  obtain ⟨v', e2, h⟩ := er.held e
  rw [e1] at e2
  cases e2
  exact h
end
end TD
/-! Each construct read by the evaluator: names that are held, displays, subscripts, calls. -/
namespace TD
open PySem PySem.Spec PyProof.Rows L2
variable [Tb]
section
variable {X : Cx} {f0 : List Addr} {c : C} {x y z : Expr} {a b d : E} {pos : Pos}
/-! ### arguments -/
def nstar : Expr → Bool
  | .Starred _ _ => false
  | _ => true
theorem star_cons {e : Expr} {es : List Expr} (h : nstar e = true) (env : PySem.Env) : starEach (e :: es) env = (false, eval e env) :: starEach es env := by
  cases e <;> first
    | rfl
    | cases h
theorem star_any {env : PySem.Env} {pos : Pos} : ∀ {es : List Expr}, es.all nstar = true → (backTo pos (starEach es env)).any (·.1) = false
  | [], _ => rfl
  | e :: es, h => by
    rw [List.all_cons, Bool.and_eq_true] at h
    rw [star_cons h.1]
    have := star_any (env := env) (pos := pos) h.2
    unfold backTo at this ⊢
    rw [List.map_cons, List.any_cons]
    exact this
def Es.len : Es → Nat
  | .nil => 0
  | .cons _ es => es.len + 1
theorem evs_len {ρ : Env} : ∀ {es : Es} {ds : List PyData}, evs c ρ es = .ok ds → ds.length = es.len
  | .nil, _, h => by
    cases h
    rfl
  | .cons e es, ds, h => by
    have h : (ev c ρ e >>= fun x => evs c ρ es >>= fun xs => R.ok (x :: xs)) = .ok ds := h
    cases h1 : ev c ρ e with
    | ok p =>
      rw [h1] at h
      cases h2 : evs c ρ es with
      | ok ps =>
        rw [h2] at h
        cases h
        rw [List.length_cons, evs_len h2]
        rfl
      | err k =>
        rw [h2] at h
        cases h
      | bad =>
        rw [h2] at h
        cases h
    | err k =>
      rw [h1] at h
      cases h
    | bad =>
      rw [h1] at h
      cases h
structure SA (X : Cx) (f0 : List Addr) (c : C) (es : Es) (xs : List Expr) : Prop where
  pa : PA X xs (tEs (kx X f0) c es)
  st : xs.all nstar = true
  len : es.len = xs.length
theorem sa_nil : SA X f0 c .nil [] := by
  refine ⟨pa_nil.imp fun σ H Q h => ?_, rfl, rfl⟩
  obtain ⟨ρ, F, er, n, u, pk⟩ := h
  exact pk [] H (Gr.refl H) .nil
theorem tEs_of {K : Kx} {H : Hp} {F : List Addr} {σ : L2.St} {ρ : Env} {Q : List V → Hp → Prop} {es : Es} (er : ER K H F σ ρ) (n : c.nl = true → NL H) (u : Un0 (gensL es) ρ) {ds : List PyData} (h : evs c ρ es = .ok ds) (k : ∀ vs H', Gr H H' → RpAll (vw H' F) vs ds → Q vs H') : tEs K c es σ H Q :=
  ⟨ρ, F, er, n, u, by rw [h]; exact k⟩
theorem sa_cons {es : Es} {xs : List Expr} (ha : SE X f0 c a x) (hx : nstar x = true) (hs : SA X f0 c es xs) : SA X f0 c (.cons a es) (x :: xs) := by
  refine ⟨(pa_cons ha.pe hs.pa (star_cons hx _)).imp fun σ H Q h => ?_, by rw [List.all_cons, hx, hs.st]; rfl, by rw [List.length_cons, ← hs.len]; rfl⟩
  obtain ⟨ρ, F, er, n, u, pk⟩ := h
  obtain ⟨p, hp, pk⟩ := PkL.bind (show PkL H F Q (ev c ρ a >>= fun x => evs c ρ es >>= fun xs => R.ok (x :: xs)) from pk)
  obtain ⟨ps, hps, pk⟩ := PkL.bind pk
  refine tE_of er n u.l hp fun v H1 g1 r1 => ?_
  refine tEs_of (er.gr g1) (nl_gr n g1) u.r hps fun vs H2 g2 r2 => ?_
  exact pk (v :: vs) H2 (g1.trans g2) (.cons (r1.gr g2) r2)
/-! ### displays -/
theorem s_tup {es : Es} {xs : List Expr} {k : Nat} (hs : SA X f0 c es xs) (hl : xs.length ≤ 1000) : SE X f0 c (.tup es) (.Tuple xs k pos) := by
  refine SE.of ((pe_tupZ hs.pa).imp fun σ H Q h => ?_) rfl
  obtain ⟨ρ, F, er, n, u, pk⟩ := h
  obtain ⟨ps, hps, pk⟩ := Pk.bind pk
  refine tEs_of er n u hps fun vs H1 g1 r1 => ⟨?_, fun p o np nd => ?_⟩
  · rw [r1.length, evs_len hps, hs.len]
    exact szLe (Nat.le_trans hl (by decide))
  · obtain ⟨g, rn⟩ := Rp.newT (er.dm.gr g1.same) np nd r1
    exact pk _ _ (g1.trans g) rn
theorem s_lst {es : Es} {xs : List Expr} (hs : SA X f0 c es xs) (hl : xs.length ≤ 1000) : SE X f0 c (.lst es) (.List xs pos) := by
  refine SE.of ((pe_lst hs.pa).imp fun σ H Q h => ?_) rfl
  obtain ⟨ρ, F, er, n, u, pk⟩ := h
  obtain ⟨ps, hps, pk⟩ := Pk.bind pk
  refine tEs_of er n u hps fun vs H1 g1 r1 => ⟨?_, fun p np => ?_⟩
  · rw [r1.length, evs_len hps, hs.len]
    exact szLe (Nat.le_trans hl (by decide))
  · obtain ⟨g, rn⟩ := Rp.newL (er.dm.gr g1.same) np r1
    exact pk _ _ (g1.trans g) rn
theorem s_dic : SE X f0 c .dic (.Dict [] [] pos) := by
  refine SE.of (pe_dnewK.imp fun σ H Q h => fun p np => ?_) rfl
  obtain ⟨ρ, F, er, n, u, pk⟩ := h
  obtain ⟨g, rn⟩ := Rp.newD er.dm np .nil
  exact pk _ _ g rn
/-! ### subscripts -/
def nslice : Expr → Bool
  | .Slice _ _ _ _ => false
  | _ => true
theorem nslice_plain {e : Expr} (h : nslice e = true) : ∀ o i, subscripted e false o i = operate [o, i] (getItem o i) := by
  intro o i
  cases e <;> first
    | rfl
    | cases h
theorem s_idx (hu : X.A.units + 1 < cLine) (ha : SE X f0 c a x) (hb : SE X f0 c b y) (hv : isVar a = false) (hy : nslice y = true) : SE X f0 c (.idx a b) (.Subscript x y pos) := by
  refine SE.of (((pe_ix (d_ix (W := W0)) ha.pe hb.pe (nslice_plain hy)).or (pe_dget hu ha.pe hb.pe (nslice_plain hy))).imp fun σ H Q h => ?_) rfl
  obtain ⟨ρ, F, er, n, u, pk⟩ := h
  have u : Un0 (cond (isVar a) [] (gens a) ++ gens b) ρ := u
  rw [hv] at u
  obtain ⟨p, hp, pk⟩ := Pk.bind (show Pk W0 H F Q (ev c ρ a >>= fun x => ev c ρ b >>= idxD x) from pk)
  obtain ⟨q, hq, pk⟩ := Pk.bind pk
  cases p with
  | dict ps =>
    refine .inr (tE_of er n u.l hp fun v H1 g1 r1 => tE_of (er.gr g1) (nl_gr n g1) u.r hq fun w H2 g2 r2 => ?_)
    exact d_dget (.inl (r1.gr g2)) r2 (pk.gr (g1.trans g2))
  | _ =>
    refine .inl (tE_two er n u.l u.r hp hq fun v w H' g r1 r2 dm _ => ?_)
    exact ⟨_, q, F, dm, .inl r1, r2, pk.gr g⟩
theorem s_idxV {i : Nat} {nm : Str} {p1 : Pos} (hu : X.A.units + 1 < cLine) (ha : PE X (.Name nm p1) (tVar i)) (hb : SE X f0 c b y) (hy : nslice y = true) : SE X f0 c (.idx (.var i) b) (.Subscript (.Name nm p1) y pos) := by
  refine SE.of (((pe_ix (d_ix (W := W0)) ha hb.pe (nslice_plain hy)).or (pe_dget hu ha hb.pe (nslice_plain hy))).imp fun σ H Q h => ?_) rfl
  obtain ⟨ρ, F, er, n, u, pk⟩ := h
  have u : Un0 (gens b) ρ := u
  obtain ⟨p, hp, pk⟩ := Pk.bind (show Pk W0 H F Q (Env.get ρ i >>= fun x => ev c ρ b >>= idxD x) from pk)
  obtain ⟨q, hq, pk⟩ := Pk.bind pk
  obtain ⟨v, e1, _⟩ := er.held hp
  cases p with
  | dict ps =>
    refine .inr ⟨v, e1, tE_of er n u hq fun w H2 g2 r2 => ?_⟩
    exact d_dget ((er.gr g2).heldAt hp e1) r2 (pk.gr g2)
  | _ =>
    refine .inl ⟨v, e1, tE_of er n u hq fun w H2 g2 r2 => ?_⟩
    exact ⟨_, q, F, er.dm.gr g2.same, (er.gr g2).heldAt hp e1, r2, pk.gr g2⟩
/-! ### in, of what a name holds -/
theorem s_inV {i : Nat} {nm : Str} {p1 : Pos} (hu : X.A.units + 70 < cLine) (ha : SE X f0 c a x) (hb : PE X (.Name nm p1) (tVar i)) : SE X f0 c (.cmp .In a (.var i)) (.Compare x [.In] [.Name nm p1] pos) := by
  have key : ∀ σ H Q, tE (kx X f0) c (.cmp .In a (.var i)) σ H Q → tOp (rInn W0 id) (tE (kx X f0) c a) (tVar i) σ H Q := fun σ H Q h => by
    obtain ⟨ρ, F, er, n, u, pk⟩ := h
    have u : Un0 (gens a ++ []) ρ := u
    rw [ev_cmp] at pk
    obtain ⟨p, hp, pk⟩ := Pk.bind pk
    obtain ⟨q, hq, pk⟩ := Pk.bind pk
    obtain ⟨v, e1, _⟩ := er.held hq
    refine tE_of er n u.l hp fun w H1 g1 r1 => ⟨v, e1, p, q, F, [], r1, ((er.gr g1).heldAt hq e1).wide, ?_⟩
    exact Pk.inn (f := id) (fun _ h => h) (pk.gr g1)
  exact ⟨(pe_cmpR (d_inn (W := W0) hu) ha.pe hb rfl).imp key, (pt_cmpR (d_inn (W := W0) hu) ha.pe hb rfl).imp fun σ H Q h => key σ H _ h⟩
theorem s_ninV {i : Nat} {nm : Str} {p1 : Pos} (hu : X.A.units + 70 < cLine) (ha : SE X f0 c a x) (hb : PE X (.Name nm p1) (tVar i)) : SE X f0 c (.cmp .NotIn a (.var i)) (.Compare x [.NotIn] [.Name nm p1] pos) := by
  have key : ∀ σ H Q, tE (kx X f0) c (.cmp .NotIn a (.var i)) σ H Q → tOp (rInn W0 notR) (tE (kx X f0) c a) (tVar i) σ H Q := fun σ H Q h => by
    obtain ⟨ρ, F, er, n, u, pk⟩ := h
    have u : Un0 (gens a ++ []) ρ := u
    rw [ev_cmp] at pk
    obtain ⟨p, hp, pk⟩ := Pk.bind pk
    obtain ⟨q, hq, pk⟩ := Pk.bind pk
    obtain ⟨v, e1, _⟩ := er.held hq
    refine tE_of er n u.l hp fun w H1 g1 r1 => ⟨v, e1, p, q, F, [], r1, ((er.gr g1).heldAt hq e1).wide, ?_⟩
    obtain ⟨k, e, pk⟩ := Pk.bind pk
    exact ⟨k, e, (pk.gr g1).here (.bl _)⟩
  exact ⟨(pe_cmpR (d_notinn (W := W0) hu) ha.pe hb rfl).imp key, (pt_cmpR (d_notinn (W := W0) hu) ha.pe hb rfl).imp fun σ H Q h => key σ H _ h⟩
/-! ### chains -/
theorem s_chn (hu : X.A.units + 64 < cLine) {o o' : CmpOp} (ho : cmpOk o = true) (ho' : cmpOk o' = true) (ha : SE X f0 c a x) (hb : SE X f0 c b y) (hd : SE X f0 c d z) : SE X f0 c (.chn o o' a b d) (.Compare x [o, o'] [y, z] pos) := by
  have key : ∀ σ H Q, tE (kx X f0) c (.chn o o' a b d) σ H Q → tChain (r2 W0 (cmpD o)) (r2 W0 (cmpD o')) (tE (kx X f0) c a) (tE (kx X f0) c b) (tE (kx X f0) c d) σ H Q := fun σ H Q h => by
    obtain ⟨ρ, F, er, n, u, pk⟩ := h
    obtain ⟨p, hp, pk⟩ := Pk.bind (show Pk W0 H F Q (ev c ρ a >>= fun x => ev c ρ b >>= fun y => cmpB o x y >>= fun k => match k with
      | true => (ev c ρ d >>= fun z => cmpB o' y z >>= fun k => R.ok (.bool k))
      | false => R.ok (.bool false)) from pk)
    obtain ⟨q, hq, pk⟩ := Pk.bind pk
    obtain ⟨k, hk, pk⟩ := Pk.bind pk
    refine tE_of er n u.l.l hp fun v H1 g1 r1 => tE_of (er.gr g1) (nl_gr n g1) u.l.r hq fun w H2 g2 r2 => ?_
    have g := g1.trans g2
    refine ⟨p, q, F, er.dm.gr g.same, r1.gr g2, r2, ?_⟩
    unfold cmpD
    rw [hk]
    intro t H3 g3 r3
    refine ⟨k, r3.bool, ?_⟩
    have g4 := g.trans g3
    cases k with
    | true =>
      rw [if_pos rfl]
      obtain ⟨z', hz, pk⟩ := Pk.bind pk
      refine tE_of (er.gr g4) (nl_gr n g4) u.r hz fun t' H4 g5 r5 => ?_
      exact ⟨q, z', F, er.dm.gr (g4.trans g5).same, r2.gr (g3.trans g5), r5, pk.gr (g4.trans g5)⟩
    | false =>
      rw [if_neg Bool.false_ne_true]
      exact (pk.gr g4).here (.bl _)
  exact ⟨(pe_chain (d_cmp hu ho) (d_cmp hu ho') ha.pe hb.pe hd.pe (cmp_nomark ho' z)).imp key, (pt_chain (d_cmp hu ho) (d_cmp hu ho') ha.pe hb.pe hd.pe (cmp_nomark ho' z)).imp fun σ H Q h => key σ H _ h⟩
/-! ### slices -/
/-- a slice's part -/
def tO (K : Kx) (c : C) (e : E) : TO := fun σ H Q => ∃ (ρ : Env) (F : List Addr) (d : PyData) (o : Option Int), ER K H F σ ρ ∧ (c.nl = true → NL H) ∧ Un0 (gens e) ρ ∧ ev c ρ e = .ok d ∧ partD (isNon e) d = .ok o ∧ ∀ H', Gr H H' → Q o H'
theorem PO.imp {x : Option Expr} {t t' : TO} (h : PO X x t) (g : ∀ σ H Q, t' σ H Q → t σ H Q) : PO X x t' := ⟨fun pins s σ H Q I hw => h.run pins s σ H Q I (g σ H Q hw)⟩
theorem so_none : PO X none (tO (kx X f0) c .non) := by
  refine TD.PO.imp po_none fun σ H Q h => ?_
  obtain ⟨ρ, F, d, o, er, n, u, e, h, q⟩ := h
  cases h
  exact q H (Gr.refl H)
theorem so_some (ha : SE X f0 c a x) (hn : isNon a = false) : PO X (some x) (tO (kx X f0) c a) := by
  refine TD.PO.imp (po_some ha.pe) fun σ H Q h => ?_
  obtain ⟨ρ, F, d, o, er, n, u, e, h, q⟩ := h
  rw [hn] at h
  cases d <;> try (cases h)
  exact tE_of er n u e fun v H' g r => ⟨_, r.intV, q H' g⟩
theorem s_slc {lo hi : Option Expr} {p2 : Pos} (ha : SE X f0 c a x) (hl : PO X lo (tO (kx X f0) c b)) (hh : PO X hi (tO (kx X f0) c d)) : SE X f0 c (.slc a b d) (.Subscript x (.Slice lo hi none p2) pos) := by
  refine SE.of ((pe_slice (d_slc (W := W0)) ha.pe hl hh).imp fun σ H Q h => ?_) rfl
  obtain ⟨ρ, F, er, n, u, pk⟩ := h
  obtain ⟨p, hp, pk⟩ := Pk.bind (show Pk W0 H F Q (ev c ρ a >>= fun x => ev c ρ b >>= fun y => partD (isNon b) y >>= fun l => ev c ρ d >>= fun z => partD (isNon d) z >>= fun h => slcD x l h) from pk)
  obtain ⟨q1, hq1, pk⟩ := Pk.bind pk
  obtain ⟨l, hl', pk⟩ := Pk.bind pk
  obtain ⟨q2, hq2, pk⟩ := Pk.bind pk
  obtain ⟨h', hh', pk⟩ := Pk.bind pk
  refine tE_of er n u.l.l hp fun v H1 g1 r1 => ?_
  refine ⟨ρ, F, q1, l, er.gr g1, nl_gr n g1, u.l.r, hq1, hl', fun H2 g2 => ?_⟩
  refine ⟨ρ, F, q2, h', er.gr (g1.trans g2), nl_gr n (g1.trans g2), u.r, hq2, hh', fun H3 g3 => ?_⟩
  exact ⟨p, F, er.dm.gr (g1.trans (g2.trans g3)).same, r1.gr (g2.trans g3), pk.gr (g1.trans (g2.trans g3))⟩
/-! ### calls -/
/-- what a def promises -/
def spC (call : Nat → List PyData → R PyData) (f : Nat) : Sp := fun vs H Q E => ∃ ds F, Dm F H ∧ NL H ∧ RpAll (vw H F) vs ds ∧ Pk (fun k H' => E (Tb.cl k) none H') H F Q (call f ds)
structure FnAt (X : Cx) (call : Nat → List PyData → R PyData) (x : Str) (f : Nat) : Prop where
  ex : ∃ (k : Nat) (a : Addr) (fd : FuncData) (ps : List Str), FnOk X.prog X.w X.K X.mg X.base (L2.CX X.prog X.w) k a fd ps (spC call f) ∧ Room k X.A ∧ X.mg x = some (.ref a) ∧ PySem.W.keepIn X.K (.ref a) = true ∧ Binds X.K fd ps []
theorem Pk.w {W W' : Nat → Hp → Prop} {H : Hp} {F : List Addr} {Q : VK} {r : R PyData} (h : Pk W H F Q r) (g : ∀ k H', W k H' → W' k H') : Pk W' H F Q r := by
  cases r with
  | ok d => exact h
  | err k => exact fun H' gr => g k H' (h H' gr)
  | bad => exact h
theorem s_fn {f : Nat} {es : Es} {xs : List Expr} {nm : Str} {p1 : Pos} (F : FnAt X c.call nm f) (hg : Gl X nm) (hd : (nm == ("__debug__" : Str)) = false) (hs : SA X f0 c es (x :: xs)) : SE X f0 c (.fn f es) (.Call (.Name nm p1) (x :: xs) [] pos) := by
  obtain ⟨k, a, fd, ps, Fk, hr, hm, hk, hb⟩ := F.ex
  have st := hs.st
  rw [List.all_cons, Bool.and_eq_true] at st
  refine SE.of ((pe_call Fk hr hg hm hk hb .nil passL hs.pa hd (star_cons st.1 _) (star_any st.2)).imp fun σ H Q h => ?_) rfl
  obtain ⟨ρ, F, er, n, u, pk⟩ := h
  obtain ⟨ds, hds, pk⟩ := Pk.bind (show Pk W0 H F Q (evs c ρ es >>= fun xs => gd c.nl (c.call f xs)) from pk)
  obtain ⟨nl, pk⟩ := Pk.gdd pk
  refine tEs_of er n u hds fun vs H1 g1 r1 => ?_
  rw [List.append_nil]
  exact ⟨ds, F, er.dm.gr g1.same, nl_gr n g1 nl, r1, (pk.gr g1).w fun _ _ z => z.elim⟩
/-- a built-in function, a built-in class, of one value -/
theorem s_b1 {B : B} {nm : Str} {p1 : Pos} {r : List V → Hp → VK → Prop} (hr : PE X (.Call (.Name nm p1) [x] [] pos) (tCB r (tEs (kx X f0) c (.cons a .nil)))) (hv : (B == .len && isVar a) = false)
    (k : ∀ vs H Q, rc1 W0 B vs H Q → r vs H Q) : SE X f0 c (.b1 B a) (.Call (.Name nm p1) [x] [] pos) := by
  refine SE.of (hr.imp fun σ H Q h => ?_) rfl
  obtain ⟨ρ, F, er, n, u, pk⟩ := h
  have u : Un0 (cond (B == .len && isVar a) [] (gens a)) ρ := u
  rw [hv] at u
  obtain ⟨p, hp, pk⟩ := Pk.bind (show Pk W0 H F Q (ev c ρ a >>= fun x => gd (c.nl || !needX B x) (b1D B x)) from pk)
  obtain ⟨nl, pk⟩ := Pk.gdd pk
  refine tEs_of er n (es := .cons a .nil) (ds := [p]) (by show Un0 (gens a ++ []) ρ; rw [List.append_nil]; exact u) ?_ fun vs H1 g1 r1 => k _ _ _ ?_
  · show (ev c ρ a >>= fun x => evs c ρ .nil >>= fun xs => R.ok (x :: xs)) = _
    rw [hp]
    rfl
  · cases r1 with
    | cons r1 t =>
      cases t
      refine ⟨_, p, F, rfl, er.dm.gr g1.same, r1, fun hn => nl_gr n g1 ?_, pk.gr g1⟩
      rw [hn] at nl
      simpa using nl
end
end TD
/-! What is walked, and comprehensions. -/
namespace TD
open PySem PySem.Spec PyProof.Rows L2
variable [Tb]
/-- a list or dict that is new since H -/
def FrR (H : Hp) (F : List Addr) (v : V) (H' : Hp) : PyData → Prop
  | .list ds => ∃ l vs, v = .ref l ∧ Nw H l ∧ H' l = some (.lst vs) ∧ RpAll (vw H' (l :: F)) vs ds
  | .dict ps => ∃ l kvs, v = .ref l ∧ Nw H l ∧ H' l = some (.dK kvs) ∧ RpKV (vw H' (l :: F)) kvs ps
  | d => Rp (vw H' F) v d
theorem FrR.rp {H H' : Hp} {F : List Addr} {v : V} {d : PyData} (dm : Dm F H) (h : FrR H F v H' d) : Rp (vw H' F) v d := by
  cases d with
  | list ds =>
    obtain ⟨l, vs, rfl, h1, h2, h3⟩ := h
    exact .lst (vw_of (dm.nw h1) h2) (h3.mono (vw_sub fun a ha => List.mem_cons_of_mem _ ha))
  | dict ps =>
    obtain ⟨l, kvs, rfl, h1, h2, h3⟩ := h
    exact .dct (vw_of (dm.nw h1) h2) (h3.mono (vw_sub fun a ha => List.mem_cons_of_mem _ ha))
  | _ => exact h
def PkF (H : Hp) (F : List Addr) (Q : VK) : R PyData → Prop
  | .ok d => ∀ v H', Gr H H' → FrR H F v H' d → Q v H'
  | _ => False
def tF (K : Kx) (c : C) (e : E) : TE := fun σ H Q => ∃ ρ F, ER K H F σ ρ ∧ (c.nl = true → NL H) ∧ Un0 (gens e) ρ ∧ PkF H F Q (ev c ρ e)
theorem PkF.bind {α : Type} {H : Hp} {F : List Addr} {Q : VK} {r : R α} {f : α → R PyData} (h : PkF H F Q (r >>= f)) : ∃ a, r = .ok a ∧ PkF H F Q (f a) := by
  cases r with
  | ok a => exact ⟨a, rfl, h⟩
  | err c => exact h.elim
  | bad => exact h.elim
theorem PkF.gdd {H : Hp} {F : List Addr} {Q : VK} {b : Bool} {r : R PyData} (h : PkF H F Q (gd b r)) : b = true ∧ PkF H F Q r := by
  cases b with
  | true => exact ⟨rfl, h⟩
  | false => exact h.elim
theorem tF_tE {K : Kx} {c : C} {e : E} {σ : L2.St} {H : Hp} {Q : VK} (h : tE K c e σ H Q) : tF K c e σ H Q := by
  obtain ⟨ρ, F, er, n, u, pk⟩ := h
  refine ⟨ρ, F, er, n, u, ?_⟩
  cases q : ev c ρ e with
  | ok d =>
    rw [q] at pk
    exact fun v H' g r => pk v H' g (r.rp er.dm)
  | err k =>
    rw [q] at pk
    exact (pk H (Gr.refl H)).elim
  | bad =>
    rw [q] at pk
    exact pk.elim
/-- from one state to a later one: what was read stays, what is locked stays -/
structure Stp (H : Hp) (F : List Addr) (H' : Hp) (F' : List Addr) : Prop where
  view : Same (vw H F) (vw H' F')
  frz : ∀ a o u, H a = some (.frz o u) → H' a = some (.frz o u)
  nz : Nz H H'
theorem Stp.refl (H : Hp) (F : List Addr) : Stp H F H F := ⟨Same.refl _, fun _ _ _ h => h, Nz.refl H⟩
theorem Stp.trans {H H1 H2 : Hp} {F F1 F2 : List Addr} (a : Stp H F H1 F1) (b : Stp H1 F1 H2 F2) : Stp H F H2 F2 := ⟨a.view.trans b.view, fun x o u h => b.frz x o u (a.frz x o u h), a.nz.trans b.nz⟩
theorem Gr.stp {H H' : Hp} (g : Gr H H') (F : List Addr) : Stp H F H' F := ⟨sameVw g.same F, fun a o u h => g.same _ _ h rfl, g.nz⟩
/-- J walks ds -/
def Wd (H : Hp) (F : List Addr) (ds : List PyData) (J : It) : Prop :=
  ∃ (G : Hp → Prop) (Y : Nat → Hp → V → Hp → Prop), Walk J ds.length G Y ∧ (∀ H2 F2, Stp H F H2 F2 → G H2) ∧
    ∀ i H2 F2 x H3 d, ds[i]? = some d → Stp H F H2 F2 → Dm F2 H2 → Y i H2 x H3 → Gr H2 H3 ∧ Rp (vw H3 F2) x d
def tI (K : Kx) (c : C) (it : I) (dk : Bool) : TI := fun σ H R => ∃ ρ F l, ER K H F σ ρ ∧ (c.nl = true → NL H) ∧ Un0 (gensI it) ρ ∧ evi c ρ it = .ok (dk, l) ∧ ∀ J H', Gr H H' → Wd H' F l J → R J H'
end TD
namespace L2
open PySem PySem.Spec PyProof.Rows
theorem PI.imp {X : Cx} {tg e : Expr} {t t' : TI} (h : PI X tg e t) (g : ∀ σ H Q, t' σ H Q → t σ H Q) : PI X tg e t' := ⟨fun pins s σ H Q I hw => h.run pins s σ H Q I (g σ H Q hw)⟩
theorem PI.or {X : Cx} {tg e : Expr} {t t' : TI} (h : PI X tg e t) (h' : PI X tg e t') : PI X tg e (fun σ H Q => t σ H Q ∨ t' σ H Q) :=
  ⟨fun pins s σ H Q I hw => hw.elim (h.run pins s σ H Q I) (h'.run pins s σ H Q I)⟩
end L2
namespace TD
open PySem PySem.Spec PyProof.Rows L2
variable [Tb]
section
variable {X : Cx} {f0 : List Addr} {c : C} {tg x y : Expr} {a b : E} {pos : Pos}
theorem wd_list {H : Hp} {F : List Addr} {a : Addr} {xs : List V} {ds : List PyData} (h : vw H F a = some (.lst xs)) (r : RpAll (vw H F) xs ds) : Wd H F ds (Itl X.K a) := by
  refine ⟨_, _, by rw [← r.length]; exact walk_list (K := X.K) (xs := xs), fun H2 F2 s => sqL_vw (s.view _ _ h), fun i H2 F2 v H3 d e s dm y => ?_⟩
  obtain ⟨rfl, y⟩ := y
  obtain ⟨d', e', r'⟩ := r.getV y
  rw [e] at e'
  cases e'
  exact ⟨Gr.refl _, r'.mono s.view⟩
theorem wd_tup {H : Hp} {F : List Addr} {a : Addr} {xs : List V} {ds : List PyData} (h : vw H F a = some (.tup xs)) (r : RpAll (vw H F) xs ds) : Wd H F ds (Itt X.K a) := by
  refine ⟨_, _, by rw [← r.length]; exact walk_tup (K := X.K) (xs := xs), fun H2 F2 s => sqT_vw (s.view _ _ h), fun i H2 F2 v H3 d e s dm y => ?_⟩
  obtain ⟨rfl, y⟩ := y
  obtain ⟨d', e', r'⟩ := r.getV y
  rw [e] at e'
  cases e'
  exact ⟨Gr.refl _, r'.mono s.view⟩
theorem wd_str {H : Hp} {F : List Addr} {z : Str} : Wd H F ((chs z).map fun c => tx [c]) (Its z) := by
  refine ⟨fun _ => True, fun i H v H' => H' = H ∧ ∃ c, z.cps[i]? = some c ∧ v = .str ⟨#[c]⟩, ?_, fun _ _ _ => trivial, fun i H2 F2 v H3 d e s dm y => ?_⟩
  · rw [List.length_map, Array.length_toList]
    exact walk_str
  · obtain ⟨rfl, k, hk, rfl⟩ := y
    rw [List.getElem?_map, Array.getElem?_toList, hk] at e
    cases e
    exact ⟨Gr.refl _, .str _⟩
theorem wd_range {H : Hp} {F : List Addr} {lo : Int} {n : Nat} : Wd H F ((List.range n).map fun (k : Nat) => .int (lo + (k : Int))) (Itr lo n) := by
  refine ⟨fun _ => True, fun i H x H' => H' = H ∧ x = .int (lo + (i : Nat)), ?_, fun _ _ _ => trivial, fun i H2 F2 v H3 d e s dm y => ?_⟩
  · rw [List.length_map, List.length_range]
    exact walk_range
  · obtain ⟨rfl, rfl⟩ := y
    rw [List.getElem?_map] at e
    cases q : (List.range n)[i]? with
    | none =>
      rw [q] at e
      cases e
    | some j =>
      rw [q] at e
      cases e
      obtain ⟨_, e2⟩ := List.getElem?_eq_some_iff.mp q
      rw [List.getElem_range] at e2
      subst e2
      exact ⟨Gr.refl _, .int _⟩
theorem intOf_ok {d : PyData} {i : Int} (h : intOf d = .ok i) : d = .int i := by
  cases d <;> first
    | (cases h; rfl)
    | cases h
theorem bind_ok {α β : Type} {r : R α} {f : α → R β} {b : β} (h : (r >>= f) = .ok b) : ∃ a, r = .ok a ∧ f a = .ok b := by
  cases r with
  | ok a => exact ⟨a, rfl, h⟩
  | err c => cases h
  | bad => cases h
theorem gd_ok {α : Type} {k : Bool} {r : R α} {a : α} (h : gd k r = .ok a) : k = true ∧ r = .ok a := by
  cases k with
  | true => exact ⟨rfl, h⟩
  | false => cases h
theorem op_ok {α : Type} {o : Option α} {a : α} (h : op o = .ok a) : o = some a := by
  cases o with
  | none => cases h
  | some x =>
    cases h
    rfl
/-- a list, a tuple, a text -/
theorem si_val (ha : SE X f0 c a x) : PI X tg x (tI (kx X f0) c (.val a) false) := by
  refine ((pi_list ha.pe).or ((pi_tup ha.pe).or (pi_str ha.pe))).imp fun σ H RR h => ?_
  obtain ⟨ρ, F, l, er, n, u, e, k⟩ := h
  have e : (ev c ρ a >>= fun d => match dictKeys d with | some ks => gd (c.nl && isVar a) (R.ok (true, ks)) | none => walkD d >>= fun l => R.ok (false, l)) = .ok (false, l) := e
  cases q : ev c ρ a with
  | ok d =>
    rw [q] at e
    cases d with
    | list ds =>
      cases e
      refine .inl (tE_of er n u q fun v H1 g1 r1 => ?_)
      cases r1 with
      | lst h1 h2 => exact ⟨_, rfl, ⟨_, sqL_vw h1⟩, k _ H1 g1 (wd_list h1 h2)⟩
    | tuple ds =>
      cases e
      refine .inr (.inl (tE_of er n u q fun v H1 g1 r1 => ?_))
      cases r1 with
      | tup h1 h2 => exact ⟨_, rfl, ⟨_, sqT_vw h1⟩, k _ H1 g1 (wd_tup h1 h2)⟩
    | str z =>
      cases e
      refine .inr (.inr (tE_of er n u q fun v H1 g1 r1 => ?_))
      exact ⟨z, r1.strV, k _ H1 g1 wd_str⟩
    | dict ps =>
      exfalso
      have e : gd (c.nl && isVar a) (R.ok (true, ps.map (·.1))) = .ok (false, l) := e
      cases (gd_ok e).2
    | _ => cases e
  | err k =>
    rw [q] at e
    cases e
  | bad =>
    rw [q] at e
    cases e
theorem evs_one {ρ : Env} {d : PyData} (h : ev c ρ a = .ok d) : evs c ρ (.cons a .nil) = .ok [d] := by
  show (ev c ρ a >>= fun x => evs c ρ .nil >>= fun xs => R.ok (x :: xs)) = _
  rw [h]
  rfl
theorem evs_two {ρ : Env} {d e : PyData} (h : ev c ρ a = .ok d) (h' : ev c ρ b = .ok e) : evs c ρ (.cons a (.cons b .nil)) = .ok [d, e] := by
  show (ev c ρ a >>= fun x => evs c ρ (.cons b .nil) >>= fun xs => R.ok (x :: xs)) = _
  rw [h, evs_one h']
  rfl
theorem rpAll1 {M : Hp} {vs : List V} {d : PyData} (r : RpAll M vs [d]) : ∃ v, vs = [v] ∧ Rp M v d := by
  cases r with
  | cons r t =>
    cases t
    exact ⟨_, rfl, r⟩
theorem rpAll2 {M : Hp} {vs : List V} {d e : PyData} (r : RpAll M vs [d, e]) : ∃ v w, vs = [v, w] ∧ Rp M v d ∧ Rp M w e := by
  cases r with
  | cons r t =>
    cases t with
    | cons r' t =>
      cases t
      exact ⟨_, _, rfl, r, r'⟩
theorem un1 {ρ : Env} (u : Un0 (gens a) ρ) : Un0 (gensL (.cons a .nil)) ρ := by
  show Un0 (gens a ++ []) ρ
  rw [List.append_nil]
  exact u
theorem un2 {ρ : Env} (u : Un0 (gens a ++ gens b) ρ) : Un0 (gensL (.cons a (.cons b .nil))) ρ := by
  show Un0 (gens a ++ (gens b ++ [])) ρ
  rw [List.append_nil]
  exact u
theorem si_rng1 {p : Pos} (hg : Gl X "range") (hm : X.mg "range" = none) (ha : SE X f0 c a x) (hx : nstar x = true) : PI X tg (.Call (.Name "range" p) [x] [] pos) (tI (kx X f0) c (.rng1 a) false) := by
  refine (pi_range1 hg hm (sa_cons ha hx sa_nil).pa (star_cons hx _)).imp fun σ H RR h => ?_
  obtain ⟨ρ, F, l, er, n, u, e, k⟩ := h
  obtain ⟨d, hd, e⟩ := bind_ok (show (ev c ρ a >>= fun d => intOf d >>= fun i => rngD 0 i >>= fun l => R.ok (false, l)) = R.ok (false, l) from e)
  obtain ⟨i, hi, e⟩ := bind_ok e
  obtain ⟨l', hl, e⟩ := bind_ok e
  cases e
  cases intOf_ok hi
  obtain ⟨hb, hl⟩ := gd_ok hl
  cases hl
  obtain ⟨b1, b2, b3, b4⟩ := of_decide_eq_true hb
  refine tEs_of er n (un1 u) (evs_one hd) fun vs H1 g1 r1 => ?_
  obtain ⟨v, rfl, rv⟩ := rpAll1 r1
  refine ⟨i, by rw [rv.intV], b3, b4, ?_⟩
  have := k (Itr 0 (i - 0).toNat) H1 g1 wd_range
  rw [Int.sub_zero] at this
  exact this
theorem si_rng2 {p : Pos} (hg : Gl X "range") (hm : X.mg "range" = none) (ha : SE X f0 c a x) (hx : nstar x = true) (hb : SE X f0 c b y) (hy : nstar y = true) : PI X tg (.Call (.Name "range" p) [x, y] [] pos) (tI (kx X f0) c (.rng2 a b) false) := by
  refine (pi_range2 hg hm (sa_cons ha hx (sa_cons hb hy sa_nil)).pa (by rw [star_cons hx, star_cons hy]; rfl) (by rw [star_cons hy]; rfl)).imp fun σ H RR h => ?_
  obtain ⟨ρ, F, l, er, n, u, e, k⟩ := h
  obtain ⟨d, hd, e⟩ := bind_ok (show (ev c ρ a >>= fun d => intOf d >>= fun i => ev c ρ b >>= fun d => intOf d >>= fun j => rngD i j >>= fun l => R.ok (false, l)) = R.ok (false, l) from e)
  obtain ⟨i, hi, e⟩ := bind_ok e
  obtain ⟨d', hd', e⟩ := bind_ok e
  obtain ⟨j, hj, e⟩ := bind_ok e
  obtain ⟨l', hl, e⟩ := bind_ok e
  cases e
  cases intOf_ok hi
  cases intOf_ok hj
  obtain ⟨hb, hl⟩ := gd_ok hl
  cases hl
  obtain ⟨b1, b2, b3, b4⟩ := of_decide_eq_true hb
  refine tEs_of er n (un2 u) (evs_two hd hd') fun vs H1 g1 r1 => ?_
  obtain ⟨v, w, rfl, rv, rw'⟩ := rpAll2 r1
  exact ⟨i, j, by rw [rv.intV, rw'.intV], ⟨b1, b2, b3, b4⟩, k (Itr i (j - i).toNat) H1 g1 wd_range⟩
/-! ### comprehensions -/
theorem vw_hide {H : Hp} {F : List Addr} {D : Addr} {o : HO} : Same (vw H (D :: F)) (vw (upd H D o) (D :: F)) := fun b u h => by
  obtain ⟨hb, e⟩ := vw_some h
  unfold vw
  have hne : b ≠ D := fun z => hb (by rw [z]; exact List.mem_cons_self)
  rw [if_neg hb, upd_ne hne]
  exact e
theorem comp_go {K : Kx} {H1 : Hp} {F : List Addr} {l full : List PyData} {J : It} {σ : L2.St} {g : TG} {tt : TT} {te : TE} {vs : List Nat} {Q : Hp → Prop} {D : Addr} (dm : Dm F H1) (nD : H1 D = none) (hl : l.length ≤ SZ) (f : PyData → R (Option PyData)) (hc : collect f l = .ok full) (wd : Wd H1 F l J)
    (turn : ∀ (Hc H' : Hp) (x : V) (d : PyData) (r : Option PyData) (A : V → Hp → Prop) (B : Hp → Prop), Vg H1 F Hc (D :: F) → Nz H1 Hc → f d = .ok r → Gr Hc H' → Rp (vw H' (D :: F)) x d →
      (∀ y dy H4, r = some dy → Gr H' H4 → Rp (vw H4 (D :: F)) y dy → A y H4) → (∀ H3, r = none → Gr H' H3 → B H3) →
      g x (wipe σ vs) H' fun σ2 H2 => wipe σ2 vs = wipe σ vs ∧ tt σ2 H2 fun b H3 => if b = true then te σ2 H3 fun y H4 => A y H4 else B H3)
    (fin : ∀ Hc ws, Sm H1 Hc → Nz H1 Hc → Hc D = some (.lst ws) → RpAll (vw Hc (D :: F)) ws full → Q Hc) :
    ∃ W : Nat → Nat → Hp → Prop, (∃ m, W 0 m (upd H1 D (.lst []))) ∧ ∀ i m H, W i m H →
      (J.stop i H ∧ Q H) ∨ (J.go i H ∧ ∃ Nx : Hp → Prop, (∀ H', Nx H' → ∃ m', m' < m ∧ W (i + 1) m' H') ∧ ∀ x H', J.yld i H x H' → g x (wipe σ vs) H' fun σ2 H2 => wipe σ2 vs = wipe σ vs ∧ tt σ2 H2 fun b H3 =>
        if b = true then te σ2 H3 fun y H4 => ∃ acc, H4 D = some (.lst acc) ∧ acc.length < sizeLine ∧ Nx (upd H4 D (.lst (acc ++ [y]))) else Nx H3) := by
  obtain ⟨G, Y, w, hG, hY⟩ := wd
  have toVg : ∀ {Hc : Hp} {ws : List V}, Sm H1 Hc → Hc D = some (.lst ws) → Vg H1 F Hc (D :: F) := fun {Hc ws} sm eD =>
    ⟨sm, fun a ha => List.mem_cons_of_mem _ ha, fun a ha => (List.mem_cons.mp ha).elim (fun z => .inr (z ▸ Nw.of nD)) .inl, fun a ha => (List.mem_cons.mp ha).elim (fun z => ⟨.lst ws, by rw [z]; exact eD, rfl⟩) (dm.gr sm a)⟩
  have toStp : ∀ {Hc : Hp}, Vg H1 F Hc (D :: F) → Nz H1 Hc → Stp H1 F Hc (D :: F) := fun v nl => ⟨v.vw, fun a o u h => v.same _ _ h rfl, nl⟩
  refine lc_it w (fun i Hc => Sm H1 Hc ∧ Nz H1 Hc ∧ ∃ ws ys rest, Hc D = some (.lst ws) ∧ RpAll (vw Hc (D :: F)) ws ys ∧ ws.length ≤ i ∧ collect f (l.drop i) = .ok rest ∧ full = ys ++ rest) ?_ ?_ ?_ ?_
  · have g0 : Gr H1 (upd H1 D (.lst [])) := Gr.laid nD fun _ _ z => nomatch z
    exact ⟨g0.same, g0.nz, [], [], full, upd_same, .nil, Nat.le_refl _, hc, rfl⟩
  · rintro i Hc hi ⟨sm, nl, ws, ys, rest, eD, _⟩
    exact hG Hc (D :: F) (toStp (toVg sm eD) nl)
  · rintro i x Hc H' hi ⟨sm, nl, ws, ys, rest, eD, ra, hw, hcr, hf⟩ hy
    have hvg := toVg sm eD
    have hd : l[i]? = some l[i] := List.getElem?_eq_getElem hi
    obtain ⟨g1, r1⟩ := hY i Hc (D :: F) x H' _ hd (toStp hvg nl) hvg.dm hy
    rw [List.drop_eq_getElem_cons hi] at hcr
    obtain ⟨r, hr, hcr⟩ := bind_ok (show (f l[i] >>= fun r => collect f (l.drop (i + 1)) >>= fun rs => R.ok (match r with | some y => y :: rs | none => rs)) = R.ok rest from hcr)
    obtain ⟨rs, hrs, hcr⟩ := bind_ok hcr
    have hcr := R.ok.inj hcr
    refine turn Hc H' x l[i] r _ _ hvg nl hr g1 r1 (fun y dy H4 e g4 r4 => ?_) fun H3 e g3 => ?_
    · subst e
      have g := g1.trans g4
      have eD4 := g.same _ _ eD rfl
      have nl4 : Nz H1 (upd H4 D (.lst (ws ++ [y]))) := Nz.put (nl.trans g.nz) (fun _ _ z => nomatch z) (some_pl eD4 rfl)
      refine ⟨ws, eD4, szLt (by omega), ?_, nl4, ws ++ [y], ys ++ [dy], rs, upd_same, ?_, ?_, hrs, ?_⟩
      · intro b o e i
        rw [upd_ne (ne_of_none e nD)]
        exact g.same _ _ (sm _ _ e i) i
      · exact ((ra.gr g).append (.cons r4 .nil)).mono vw_hide
      · rw [List.length_append, List.length_singleton]
        omega
      · rw [hf, ← hcr, List.append_assoc]
        rfl
    · subst e
      have g := g1.trans g3
      exact ⟨sm.trans g.same, nl.trans g.nz, ws, ys, rs, g.same _ _ eD rfl, ra.gr g, by omega, hrs, by rw [hf, ← hcr]⟩
  · rintro Hc ⟨sm, nl, ws, ys, rest, eD, ra, hw, hcr, hf⟩
    rw [List.drop_length] at hcr
    cases hcr
    rw [List.append_nil] at hf
    subst hf
    exact fin Hc ws sm nl eD ra
end
end TD
/-! Comprehensions as expressions. -/
namespace TD
open PySem PySem.Spec PyProof.Rows L2
variable [Tb]
section
variable {X : Cx} {f0 : List Addr} {c : C} {tg x y : Expr} {a b : E} {pos : Pos}
/-! ### a dict that is locked meanwhile -/
theorem vw_lock {H : Hp} {F : List Addr} {d : Addr} {od : Obj} {kvs : List (Key × V)} (h : H d = some (.dK kvs)) : vw (upd H d (.frz od (.dK kvs))) F = vw H F := by
  funext a
  unfold vw
  by_cases ha : a = d
  · subst ha
    rw [upd_same, h]
    rfl
  · rw [upd_ne ha]
theorem vw_unlock {H : Hp} {F : List Addr} {d : Addr} {od : Obj} {kvs : List (Key × V)} (h : H d = some (.frz od (.dK kvs))) : vw (upd H d (.dK kvs)) F = vw H F := by
  funext a
  unfold vw
  by_cases ha : a = d
  · subst ha
    rw [upd_same, h]
    rfl
  · rw [upd_ne ha]
theorem DeepKV.eqv {H H2 : Hp} {F : List Addr} {kvs : List (Key × V)} {ps : List (PyData × PyData)} {ms : List Addr} (h : DeepKV H F kvs ps ms) (hv : vw H2 F = vw H F) (hF : ∀ l ∈ F, H2 l = H l) : DeepKV H2 F kvs ps ms := by
  induction h with
  | nil => exact .nil
  | cons h1 h2 h3 h4 _ ih => exact .cons h1 ((hF _ h1).trans h2) (by rw [hv]; exact h3) h4 ih
theorem ER.eqv {K : Kx} {H H2 : Hp} {F : List Addr} {σ : L2.St} {ρ : Env} (h : ER K H F σ ρ) (hv : vw H2 F = vw H F) (hF : ∀ l ∈ F, H2 l = H l) (hz : ∀ a o xs, H a = some (.frz o (.lst xs)) → H2 a = some (.frz o (.lst xs))) (hz2 : ∀ a xs, H a = some (.lst xs) → H2 a = some (.lst xs)) : ER K H2 F σ ρ := by
  obtain ⟨A, h1, h2, h3⟩ := h.own
  refine ⟨fun a ha => by rw [hF a ha]; exact h.dm a ha, h.len, A, fun i o d e => ?_, h2, h3⟩
  obtain ⟨v, e1, s⟩ := h1 i o d e
  refine ⟨v, e1, ?_⟩
  match o with
  | 0 => exact ⟨s.1, by rw [hv]; exact s.2⟩
  | 1 =>
    obtain ⟨l, e, e1, hl, s⟩ := s
    refine ⟨l, e, e1, hl, ?_⟩
    rw [hF l hl, hv]
    exact s
  | 2 =>
    obtain ⟨l, ms, kvs, ps, e1, e2, e3, e4, e5, e6, e7⟩ := s
    exact ⟨l, ms, kvs, ps, e1, e2, e3, e4, e5, (hF l e3).trans e6, e7.eqv hv hF⟩
  | 3 =>
    obtain ⟨e, a, ns, e1, e2, s⟩ := s
    refine ⟨e, a, ns, e1, e2, ?_⟩
    rcases s with ⟨ob, s⟩ | s | ⟨n, s⟩
    · exact .inl ⟨ob, hz _ _ _ s⟩
    · exact .inr (.inl s)
    · exact .inr (.inr ⟨n, hz2 _ _ s⟩)
  | _ + 4 => exact s.elim
theorem ER.lock {K : Kx} {H : Hp} {F : List Addr} {σ : L2.St} {ρ : Env} {d : Addr} {od : Obj} {kvs : List (Key × V)} (er : ER K H F σ ρ) (h : H d = some (.dK kvs)) (hd : d ∉ F) : ER K (upd H d (.frz od (.dK kvs))) F σ ρ := by
  refine er.eqv (vw_lock h) (fun l hl => upd_ne fun z => hd (by rw [← z]; exact hl)) (fun a o xs e => ?_) fun a xs e => ?_
  · rw [upd_ne (ne_of e h fun z => nomatch z)]
    exact e
  · rw [upd_ne (ne_of e h fun z => nomatch z)]
    exact e
theorem wd_keys {H : Hp} {F : List Addr} {d : Addr} {od : Obj} {kvs : List (Key × V)} {ps : List (PyData × PyData)} (h : H d = some (.frz od (.dK kvs))) (r : RpKV (vw H F) kvs ps) : Wd H F (ps.map (·.1)) (Itk d od kvs) := by
  refine ⟨_, _, by rw [List.length_map, ← r.length]; exact walk_keys, fun H2 F2 s => s.frz _ _ _ h, fun i H2 F2 v H3 p e s dm y => ?_⟩
  obtain ⟨rfl, k, w, hk, rfl⟩ := y
  obtain ⟨p', e', r'⟩ := r.keys.getV (i := i) (v := kV k) (by rw [List.getElem?_map, hk]; rfl)
  rw [e] at e'
  cases e'
  exact ⟨Gr.refl _, r'.mono s.view⟩
/-- the turn of a comprehension without a test -/
theorem turn0 {K : Kx} {t : T} {H1 Hc H' : Hp} {F : List Addr} {D : Addr} {σ : L2.St} {ρ : Env} {c' : C} {xv : V} {d : PyData} {r : Option PyData} {A : V → Hp → Prop} {B : Hp → Prop} (er : ER K H1 F σ ρ) (n : c'.nl = true → NL H1) (u : Un0 (gens a) ρ) (vg : Vg H1 F Hc (D :: F)) (nz : Nz H1 Hc)
    (hf : (do let ρ' ← bindT t d (wipeE ρ t.slots); let y ← ev c' ρ' a; R.ok (some y)) = .ok r) (g : Gr Hc H') (rx : Rp (vw H' (D :: F)) xv d) (hA : ∀ y dy H4, r = some dy → Gr H' H4 → Rp (vw H4 (D :: F)) y dy → A y H4) (hB : ∀ H3, r = none → Gr H' H3 → B H3) :
    gT K.k t xv (wipe σ t.slots) H' fun σ2 H2 => wipe σ2 t.slots = wipe σ t.slots ∧ tYes σ2 H2 fun b H3 => if b = true then tE K c' a σ2 H3 fun y H4 => A y H4 else B H3 := by
  obtain ⟨ρ', hb, hf⟩ := bind_ok hf
  obtain ⟨y, hy, hf⟩ := bind_ok hf
  have hr : some y = r := R.ok.inj hf
  have er' := ((er.vg vg).gr g).wipe t.slots
  refine gT_of er' rx hb fun σ' er2 hw => ⟨?_, ?_⟩
  · rw [hw _ fun _ h => h, wipe_wipe σ _ _ fun _ h => h]
  · show if true = true then tE K c' a σ' H' (fun y H4 => A y H4) else B H'
    rw [if_pos rfl]
    exact tE_of er2 (fun h => g.nl (nz.nl (n h))) (u.bound hb) hy fun v H4 g4 r4 => hA v y H4 hr.symm g4 r4
theorem turn1 {K : Kx} {t : T} {H1 Hc H' : Hp} {F : List Addr} {D : Addr} {σ : L2.St} {ρ : Env} {c' : C} {xv : V} {d : PyData} {r : Option PyData} {A : V → Hp → Prop} {B : Hp → Prop} (er : ER K H1 F σ ρ) (n : c'.nl = true → NL H1) (u : Un0 (gens a) ρ) (ub : Un0 (gens b) ρ) (vg : Vg H1 F Hc (D :: F)) (nz : Nz H1 Hc)
    (hf : (do let ρ' ← bindT t d (wipeE ρ t.slots); match ← boolD (← ev c' ρ' b) with | true => do R.ok (some (← ev c' ρ' a)) | false => R.ok none) = .ok r) (g : Gr Hc H') (rx : Rp (vw H' (D :: F)) xv d) (hA : ∀ y dy H4, r = some dy → Gr H' H4 → Rp (vw H4 (D :: F)) y dy → A y H4) (hB : ∀ H3, r = none → Gr H' H3 → B H3) :
    gT K.k t xv (wipe σ t.slots) H' fun σ2 H2 => wipe σ2 t.slots = wipe σ t.slots ∧ tB (tE K c' b) σ2 H2 fun b H3 => if b = true then tE K c' a σ2 H3 fun y H4 => A y H4 else B H3 := by
  obtain ⟨ρ', hb, hf1⟩ := bind_ok hf
  obtain ⟨q, hq, hf2⟩ := bind_ok hf1
  obtain ⟨k, hk, hf3⟩ := bind_ok hf2
  cases boolD_ok hk
  have er' := ((er.vg vg).gr g).wipe t.slots
  refine gT_of er' rx hb fun σ' er2 hw => ⟨?_, ?_⟩
  · rw [hw _ fun _ h => h, wipe_wipe σ _ _ fun _ h => h]
  · have n2 : c'.nl = true → NL H' := fun h => g.nl (nz.nl (n h))
    refine tE_of er2 n2 (ub.bound hb) hq fun v H3 g3 r3 => ⟨k, r3.bool, ?_⟩
    cases k with
    | true =>
      rw [if_pos rfl]
      obtain ⟨y, hy, hf4⟩ := bind_ok hf3
      have hr : some y = r := R.ok.inj hf4
      exact tE_of (er2.gr g3) (nl_gr n2 g3) (u.bound hb) hy fun v H4 g4 r4 => hA v y H4 hr.symm (g3.trans g4) r4
    | false =>
      rw [if_neg Bool.false_ne_true]
      have hr : none = r := R.ok.inj hf3
      exact hB H3 hr.symm g3
/-- the whole comprehension, once its walk is made -/
theorem comp_end {K : Kx} {H H1 : Hp} {F : List Addr} {l full : List PyData} {J : It} {σ : L2.St} {g : TG} {tt : TT} {te : TE} {vs : List Nat} {Q : VK} (dm : Dm F H) (g1 : Gr H H1) (hl : l.length ≤ SZ) (f : PyData → R (Option PyData)) (hc : collect f l = .ok full) (wd : Wd H1 F l J)
    (turn : ∀ (D : Addr) (Hc H' : Hp) (x : V) (d : PyData) (r : Option PyData) (A : V → Hp → Prop) (B : Hp → Prop), Vg H1 F Hc (D :: F) → Nz H1 Hc → f d = .ok r → Gr Hc H' → Rp (vw H' (D :: F)) x d →
      (∀ y dy H4, r = some dy → Gr H' H4 → Rp (vw H4 (D :: F)) y dy → A y H4) → (∀ H3, r = none → Gr H' H3 → B H3) →
      g x (wipe σ vs) H' fun σ2 H2 => wipe σ2 vs = wipe σ vs ∧ tt σ2 H2 fun b H3 => if b = true then te σ2 H3 fun y H4 => A y H4 else B H3)
    (q : ∀ v H', Gr H H' → FrR H F v H' (.list full) → Q v H') : ∀ D, H1 D = none → ∃ W : Nat → Nat → Hp → Prop, (∃ m, W 0 m (upd H1 D (.lst []))) ∧ ∀ i m H, W i m H →
      (J.stop i H ∧ Q (.ref D) H) ∨ (J.go i H ∧ ∃ Nx : Hp → Prop, (∀ H', Nx H' → ∃ m', m' < m ∧ W (i + 1) m' H') ∧ ∀ x H', J.yld i H x H' → g x (wipe σ vs) H' fun σ2 H2 => wipe σ2 vs = wipe σ vs ∧ tt σ2 H2 fun b H3 =>
        if b = true then te σ2 H3 fun y H4 => ∃ acc, H4 D = some (.lst acc) ∧ acc.length < sizeLine ∧ Nx (upd H4 D (.lst (acc ++ [y]))) else Nx H3) := fun D nD =>
  comp_go (K := K) (dm.gr g1.same) nD hl f hc wd (turn D) fun Hc ws sm nz eD r => q (.ref D) Hc ⟨g1.same.trans sm, g1.nz.trans nz⟩ ⟨D, ws, rfl, g1.same.free (Nw.of nD), eD, r⟩
/-! ### the rules -/
abbrev Blk (X : Cx) (scope : Scope) (P : Cx → Prop) : Prop := ∀ (s : Shared) (H : Hp) (C : Addr) (cl : List (Str × Addr)) (fp : List Addr), P (X.blk s H scope (compEnvC scope cl C X.env) fp)
/-- what a comprehension's iterable is: no dict, or a dict that a name holds -/
structure SI (X : Cx) (f0 : List Addr) (c : C) (tg : Expr) (it : I) (x : Expr) : Prop where
  pi : PI X tg x (tI (kx X f0) c it false)
  dic : ∀ i, it = .val (.var i) → PE X x (tVar i)
  st : ∀ v, foldedSetIterable x X.env v = pure v
theorem evi_dict {ρ : Env} {it : I} {l : List PyData} (h : evi c ρ it = .ok (true, l)) : ∃ i ps, it = .val (.var i) ∧ Env.get ρ i = .ok (.dict ps) ∧ l = ps.map (·.1) ∧ c.nl = true := by
  cases it with
  | val e =>
    obtain ⟨d, hd, h⟩ := bind_ok (show (ev c ρ e >>= fun d => match dictKeys d with | some ks => gd (c.nl && isVar e) (R.ok (true, ks)) | none => walkD d >>= fun l => R.ok (false, l)) = .ok (true, l) from h)
    cases d with
    | dict ps =>
      obtain ⟨h1, h2⟩ := gd_ok (show gd (c.nl && isVar e) (R.ok (true, ps.map (·.1))) = .ok (true, l) from h)
      cases h2
      rw [Bool.and_eq_true] at h1
      cases e with
      | var i => exact ⟨i, ps, rfl, hd, rfl, h1.1⟩
      | _ => cases h1.2
    | _ =>
      obtain ⟨_, _, h⟩ := bind_ok (show (walkD _ >>= fun l => R.ok (false, l)) = R.ok (true, l) from h)
      cases h
  | rng1 a =>
    obtain ⟨_, _, h⟩ := bind_ok h
    obtain ⟨_, _, h⟩ := bind_ok h
    obtain ⟨_, _, h⟩ := bind_ok h
    cases h
  | rng2 a b =>
    obtain ⟨_, _, h⟩ := bind_ok h
    obtain ⟨_, _, h⟩ := bind_ok h
    obtain ⟨_, _, h⟩ := bind_ok h
    obtain ⟨_, _, h⟩ := bind_ok h
    obtain ⟨_, _, h⟩ := bind_ok h
    cases h
  | enm a =>
    obtain ⟨_, _, h⟩ := bind_ok h
    obtain ⟨_, _, h⟩ := bind_ok h
    cases h
  | zip a b =>
    obtain ⟨_, _, h⟩ := bind_ok h
    obtain ⟨_, _, h⟩ := bind_ok h
    obtain ⟨_, _, h⟩ := bind_ok h
    obtain ⟨_, _, h⟩ := bind_ok h
    cases h
/-- the reading of a comprehension, either way -/
def tLcD (K : Kx) (c : C) (it : I) (g : TG) (tt tt' : TT) (te te' : TE) (vs : List Nat) : TE := fun σ H Q => tLc (tI K c it false) g tt te vs σ H Q ∨ ∃ i, it = .val (.var i) ∧ tLockE (tLc (iKeys (tVar i)) g tt' te' vs) σ H Q
theorem lcD {K : Kx} {t : T} {it : I} {tt tt' : TT} {te te' : TE} {σ : L2.St} {H : Hp} {F : List Addr} {ρ : Env} {Q : VK} {dk : Bool} {l full : List PyData} (er : ER K H F σ ρ) (n : c.nl = true → NL H) (u : Un0 (gensI it) ρ) (hi : evi c ρ it = .ok (dk, l)) (hl : l.length ≤ SZ) (f : C → PyData → R (Option PyData))
    (hc : collect (f (if dk then c.lock else c)) l = .ok full) (q : ∀ v H', Gr H H' → FrR H F v H' (.list full) → Q v H')
    (turn : ∀ (c' : C) (tt0 : TT) (te0 : TE), (c' = c ∧ tt0 = tt ∧ te0 = te) ∨ (c' = c.lock ∧ tt0 = tt' ∧ te0 = te') → ∀ (H1 : Hp), ER K H1 F σ ρ → (c'.nl = true → NL H1) → ∀ (D : Addr) (Hc H' : Hp) (x : V) (d : PyData) (r : Option PyData) (A : V → Hp → Prop) (B : Hp → Prop), Vg H1 F Hc (D :: F) → Nz H1 Hc → f c' d = .ok r → Gr Hc H' → Rp (vw H' (D :: F)) x d →
      (∀ y dy H4, r = some dy → Gr H' H4 → Rp (vw H4 (D :: F)) y dy → A y H4) → (∀ H3, r = none → Gr H' H3 → B H3) →
      gT K.k t x (wipe σ t.slots) H' fun σ2 H2 => wipe σ2 t.slots = wipe σ t.slots ∧ tt0 σ2 H2 fun b H3 => if b = true then te0 σ2 H3 fun y H4 => A y H4 else B H3) :
    tLcD K c it (gT K.k t) tt tt' te te' t.slots σ H Q := by
  cases dk with
  | false =>
    refine .inl ⟨ρ, F, l, er, n, u, hi, fun J H1 g1 wd => ?_⟩
    exact comp_end (K := K) er.dm g1 hl (f c) hc wd (turn c tt te (.inl ⟨rfl, rfl, rfl⟩) H1 (er.gr g1) (nl_gr n g1)) q
  | true =>
    obtain ⟨i, ps, rfl, hg, rfl, nl⟩ := evi_dict hi
    obtain ⟨v, e1, r⟩ := er.var hg u
    cases r with
    | dct h1 h2 =>
      rename_i d kvs
      have hd : d ∉ F := (vw_some h1).1
      have hx : H d = some (.dK kvs) := rd_ex (n nl) (rdD_vw h1)
      refine .inr ⟨i, rfl, d, .dK kvs, hx, trivial, fun od => ?_⟩
      have erl := er.lock (od := od) hx hd
      have hv := vw_lock (F := F) (od := od) hx
      refine ⟨.ref d, e1, d, od, rfl, .inl ⟨kvs, upd_same, ?_⟩⟩
      refine comp_end (K := K) (H := upd H d (.frz od (.dK kvs))) (F := F) (Q := fun v H' => H' d = some (.frz od (.dK kvs)) ∧ Q v (upd H' d (.dK kvs))) erl.dm (Gr.refl _) hl (f c.lock) hc (wd_keys upd_same (by rw [hv]; exact h2)) (turn c.lock tt' te' (.inr ⟨rfl, rfl, rfl⟩) _ erl fun z => nomatch z) ?_
      intro w H' g' r'
      have ed : H' d = some (.frz od (.dK kvs)) := g'.same _ _ upd_same rfl
      obtain ⟨l, ws, rfl, h3, h4, h5⟩ := r'
      have hld : l ≠ d := fun z => by
        rw [z] at h3
        exact h3.no upd_same rfl
      refine ⟨ed, q (.ref l) _ ⟨fun b o e i => ?_, ⟨?_, fun t => tabs_put (g'.nz.tb (tabs_put t (some_pl hx rfl))) (some_pl ed rfl)⟩⟩ ⟨l, ws, rfl, ?_, ?_, ?_⟩⟩
      · by_cases hb : b = d
        · subst hb
          rw [hx] at e
          cases e
          exact upd_same
        · rw [upd_ne hb]
          exact g'.same _ _ (by rw [upd_ne hb]; exact e) i
      · intro a o uu e
        by_cases ha : a = d
        · subst ha
          rw [upd_same] at e
          cases e
        · rw [upd_ne ha] at e
          have := g'.nz.lk a o uu e
          rw [upd_ne ha] at this
          exact this
      · intro o e
        exact h3 o (by rw [upd_ne hld]; exact e)
      · rw [upd_ne hld]
        exact h4
      · rw [vw_unlock ed]
        exact h5
theorem pe_lcD {elt iter : Expr} {ifs : List Expr} {scope : Scope} {own : List (Str × Nat)} {it : I} {g : TG} {tt tt' : TT} {te te' : TE} (hc : X.calm = true) (hN : X.N.Nodup) (hi : SI X f0 c tg it iter) (ok : BlkOk X.N X.env.scope scope own)
    (hg : Blk X scope fun Y => PG Y tg g) (ht : Blk X scope fun Y => PTs Y ifs tt) (ht' : Blk X scope fun Y => PTs Y ifs tt') (he : Blk X scope fun Y => PE Y elt te) (he' : Blk X scope fun Y => PE Y elt te') :
    PE X (.ListComp elt [⟨tg, iter, ifs, 0⟩] scope pos) (tLcD (kx X f0) c it g tt tt' te te' (own.map (·.2))) := by
  refine ⟨fun pins s σ H Q I h => ?_⟩
  rcases h with h | ⟨i, e, h⟩
  · exact (pe_lc hc hN hi.pi ok hg ht he hi.st).run pins s σ H Q I h
  · exact (pe_lock (pe_lc hc hN (pi_keys (hi.dic i e)) ok hg ht' he' hi.st)).run pins s σ H Q I h
theorem key_cmp0 {K : Kx} {t : T} {it : I} {σ : L2.St} {H : Hp} {Q : VK} (h : tF K c (.cmp0 a t it) σ H Q) : tLcD K c it (gT K.k t) tYes tYes (tE K c a) (tE K c.lock a) t.slots σ H Q := by
  obtain ⟨ρ, F, er, n, u, pk⟩ := h
  obtain ⟨⟨dk, l⟩, hi, pk⟩ := PkF.bind (show PkF H F Q (evi c ρ it >>= fun p => collect (fun x => do
      let ρ' ← bindT t x (wipeE ρ t.slots)
      let y ← ev (if p.1 then c.lock else c) ρ' a
      R.ok (some y)) p.2 >>= fun xs => gd (decide (p.2.length ≤ SZ)) (R.ok (.list xs))) from pk)
  obtain ⟨full, hc, pk⟩ := PkF.bind pk
  obtain ⟨hl, pk⟩ := PkF.gdd pk
  refine lcD er n u.l hi (of_decide_eq_true hl) (fun c' x => do
      let ρ' ← bindT t x (wipeE ρ t.slots)
      let y ← ev c' ρ' a
      R.ok (some y)) hc pk ?_
  intro c' tt0 te0 h0 H1 er1 n1 D Hc H' x d r A B vg nz hf g rx hA hB
  rcases h0 with ⟨rfl, rfl, rfl⟩ | ⟨rfl, rfl, rfl⟩
  · exact turn0 er1 n1 u.r vg nz hf g rx hA hB
  · exact turn0 er1 n1 u.r vg nz hf g rx hA hB
theorem key_cmp1 {K : Kx} {t : T} {it : I} {σ : L2.St} {H : Hp} {Q : VK} (h : tF K c (.cmp1 a t it b) σ H Q) : tLcD K c it (gT K.k t) (tB (tE K c b)) (tB (tE K c.lock b)) (tE K c a) (tE K c.lock a) t.slots σ H Q := by
  obtain ⟨ρ, F, er, n, u, pk⟩ := h
  obtain ⟨⟨dk, l⟩, hi, pk⟩ := PkF.bind (show PkF H F Q (evi c ρ it >>= fun p => collect (fun x => do
      let ρ' ← bindT t x (wipeE ρ t.slots)
      match ← boolD (← ev (if p.1 then c.lock else c) ρ' b) with
      | true => do R.ok (some (← ev (if p.1 then c.lock else c) ρ' a))
      | false => R.ok none) p.2 >>= fun xs => gd (decide (p.2.length ≤ SZ)) (R.ok (.list xs))) from pk)
  obtain ⟨full, hc, pk⟩ := PkF.bind pk
  obtain ⟨hl, pk⟩ := PkF.gdd pk
  refine lcD er n u.l.l hi (of_decide_eq_true hl) (fun c' x => do
      let ρ' ← bindT t x (wipeE ρ t.slots)
      match ← boolD (← ev c' ρ' b) with
      | true => do R.ok (some (← ev c' ρ' a))
      | false => R.ok none) hc pk ?_
  intro c' tt0 te0 h0 H1 er1 n1 D Hc H' x d r A B vg nz hf g rx hA hB
  rcases h0 with ⟨rfl, rfl, rfl⟩ | ⟨rfl, rfl, rfl⟩
  · exact turn1 er1 n1 u.l.r u.r vg nz hf g rx hA hB
  · exact turn1 er1 n1 u.l.r u.r vg nz hf g rx hA hB
end
end TD
/-! Things that are new; statements. -/
namespace TD
open PySem PySem.Spec PyProof.Rows L2
variable [Tb]
section
variable {X : Cx} {f0 : List Addr} {c : C} {tg x y z : Expr} {a b d : E} {pos : Pos}
theorem new_vg {H : Hp} {F : List Addr} {p : Addr} {o : HO} (dm : Dm F H) (n : H p = none) (io : isT o = false := by rfl) : Vg H F (upd H p o) (p :: F) :=
  ⟨fun b u e _ => by rw [upd_ne (ne_of_none e n)]; exact e, fun a ha => List.mem_cons_of_mem _ ha, fun a ha => (List.mem_cons.mp ha).elim (fun e => .inr (by rw [e]; exact Nw.of n)) .inl,
    fun a ha => (List.mem_cons.mp ha).elim (fun e => ⟨o, by rw [e]; exact upd_same, io⟩) fun h => by
      obtain ⟨u, hu, iu⟩ := dm a h
      exact ⟨u, by rw [upd_ne (ne_of_none hu n)]; exact hu, iu⟩⟩
/-- a display -/
theorem f_lst {es : Es} {xs : List Expr} (hs : SA X f0 c es xs) (hl : xs.length ≤ 1000) : PE X (.List xs pos) (tF (kx X f0) c (.lst es)) := by
  refine (pe_lst hs.pa).imp fun σ H Q h => ?_
  obtain ⟨ρ, F, er, n, u, pk⟩ := h
  obtain ⟨ps, hps, pk⟩ := PkF.bind pk
  refine tEs_of er n u hps fun vs H1 g1 r1 => ⟨?_, fun p np => ?_⟩
  · rw [r1.length, evs_len hps, hs.len]
    exact szLe (Nat.le_trans hl (by decide))
  · have dm1 := er.dm.gr g1.same
    have g2 : Gr H1 (upd H1 p (.lst vs)) := Gr.laid np fun _ _ z => nomatch z
    exact pk _ _ (g1.trans g2) ⟨p, vs, rfl, g1.same.free (Nw.of np), upd_same, r1.mono (new_vg dm1 np).vw⟩
theorem f_dic : PE X (.Dict [] [] pos) (tF (kx X f0) c .dic) := by
  refine pe_dnewK.imp fun σ H Q h => fun p np => ?_
  obtain ⟨ρ, F, er, n, u, pk⟩ := h
  exact pk _ _ (Gr.laid np fun _ _ z => nomatch z) ⟨p, [], rfl, Nw.of np, upd_same, .nil⟩
/-- a sum of two lists -/
def rAddF : R2 := fun x y H Q => ∃ d e F, Dm F H ∧ Rp (vw H F) x d ∧ Rp (vw H F) y e ∧ PkF H F Q (opAdd d e)
theorem opAdd_noerr (d e : PyData) (k : Nat) : opAdd d e ≠ .err k := by
  cases d <;> cases e <;> first
    | exact gd_noerr ok_noerr
    | (intro z; cases z)
theorem d_addF : OpR X (binaryOp .Add) rAddF := by
  intro pins s σ H x y v u Q I rx ry h
  obtain ⟨d, e, F, dm, rd, re, pk⟩ := h
  by_cases hl : ∃ ds es, d = .list ds ∧ e = .list es
  · obtain ⟨ds, es, rfl, rfl⟩ := hl
    obtain ⟨a, xs, rfl, ha, ra⟩ := rd.list
    obtain ⟨b, ys, rfl, hb, rb⟩ := re.list
    obtain ⟨hz, pk⟩ := PkF.gdd pk
    have hz := of_decide_eq_true hz
    refine op_cat pins s σ H _ _ v u Q I rx ry ⟨a, b, xs, ys, rfl, rfl, ha, hb, szLe (by rw [ra.length, rb.length]; exact hz), fun p np => ?_⟩
    exact pk _ _ (Gr.laid np fun _ _ z => nomatch z) ⟨p, _, rfl, Nw.of np, upd_same, (ra.append rb).mono (new_vg dm np).vw⟩
  · refine d_add (W := W0) pins s σ H x y v u Q I rx ry ⟨d, e, F, dm, rd, re, ?_⟩
    cases q : opAdd d e with
    | ok z =>
      rw [q] at pk
      refine fun w H' g r => pk w H' g ?_
      cases z with
      | list zs =>
        exfalso
        cases d <;> cases e <;> first
          | exact hl ⟨_, _, rfl, rfl⟩
          | cases q
          | cases (gd_ok q).2
      | dict zs =>
        exfalso
        cases d <;> cases e <;> first
          | cases q
          | cases (gd_ok q).2
      | _ => exact r
    | err k => exact absurd q (opAdd_noerr _ _ _)
    | bad =>
      rw [q] at pk
      exact pk
theorem f_add (ha : SE X f0 c a x) (hb : SE X f0 c b y) : PE X (.BinOp x .Add y pos) (tF (kx X f0) c (.bin .Add a b)) := by
  refine (pe_op d_addF ha.pe hb.pe).imp fun σ H Q h => ?_
  obtain ⟨ρ, F, er, n, u, pk⟩ := h
  obtain ⟨p, hp, pk⟩ := PkF.bind (show PkF H F Q (ev c ρ a >>= fun x => ev c ρ b >>= opAdd x) from pk)
  obtain ⟨q, hq, pk⟩ := PkF.bind pk
  refine tE_two er n u.l u.r hp hq fun v u H' g r1 r2 dm _ => ⟨p, q, F, dm, r1, r2, ?_⟩
  cases e : opAdd p q with
  | ok d =>
    rw [e] at pk
    refine fun w H2 g2 r => pk w H2 (g.trans g2) ?_
    cases d with
    | list ds =>
      obtain ⟨l, vs, h1, h2, h3, h4⟩ := r
      exact ⟨l, vs, h1, g.same.free h2, h3, h4⟩
    | dict ps =>
      obtain ⟨l, vs, h1, h2, h3, h4⟩ := r
      exact ⟨l, vs, h1, g.same.free h2, h3, h4⟩
    | _ => exact r
  | err k =>
    rw [e] at pk
    exact pk
  | bad =>
    rw [e] at pk
    exact pk
end
end TD
/-! Statements. -/
namespace TD
open PySem PySem.Spec PyProof.Rows L2
variable [Tb]
/-- what statements may do: what is not held here stays; the callers' own stays -/
structure Sv (F0 : List Addr) (H : Hp) (F : List Addr) (H' : Hp) (F' : List Addr) : Prop where
  keep : ∀ b o, H b = some o → isT o = false → b ∉ F → H' b = some o
  base : ∀ b ∈ F0, H' b = H b
  sub0 : ∀ b ∈ F0, b ∈ F'
  new : ∀ a ∈ F', a ∈ F ∨ Nw H a
  frz : ∀ a o u, H a = some (.frz o u) → H' a = some (.frz o u)
  nz : Nz H H'
  dm : Dm F' H'
theorem Sv.trans {F0 : List Addr} {H H1 H2 : Hp} {F F1 F2 : List Addr} (a : Sv F0 H F H1 F1) (b : Sv F0 H1 F1 H2 F2) : Sv F0 H F H2 F2 where
  keep := fun x o h i hx => b.keep x o (a.keep x o h i hx) i fun z => (a.new x z).elim hx fun q => q.no h i
  base := fun x hx => (b.base x hx).trans (a.base x hx)
  sub0 := b.sub0
  new := fun x hx => (b.new x hx).elim (a.new x) fun q => by
    by_cases hf : x ∈ F
    · exact .inl hf
    · refine .inr fun o e => ?_
      cases i : isT o with
      | true => rfl
      | false => exact (q.no (a.keep x o e i hf) i).elim
  frz := fun x o u h => b.frz x o u (a.frz x o u h)
  nz := a.nz.trans b.nz
  dm := b.dm
theorem Sv.toStp {F0 : List Addr} {H H' : Hp} {F F' : List Addr} (a : Sv F0 H F H' F') : Stp H F H' F' := by
  refine ⟨fun b o h => ?_, a.frz, a.nz⟩
  obtain ⟨hb, u, q, i, e⟩ := vw_ex h
  rw [← e]
  exact vw_of (fun z => (a.new b z).elim hb fun w => w.no q i) (a.keep b u q i hb) i
theorem Sv.of_gr {F0 F : List Addr} {H H' : Hp} (g : Gr H H') (dm : Dm F H) (h0 : ∀ b ∈ F0, b ∈ F) : Sv F0 H F H' F :=
  ⟨fun b o h i _ => g.same _ _ h i, fun b hb => by
    obtain ⟨o, q, i⟩ := dm b (h0 b hb)
    rw [q]
    exact g.same _ _ q i, h0, fun a h => .inl h, fun a o u h => g.same _ _ h rfl, g.nz, dm.gr g.same⟩
/-- what is wanted of a refusal that leaves the def -/
class Er where
  W : Nat → Hp → Prop
variable [Er]
/-- what is wanted behind a statement that gives r -/
def Pf (K : Kx) (H : Hp) (F : List Addr) (D : Ends) : R Fl → Prop
  | .ok (.nx ρ) => ∀ σ' H' F', Sv K.f0 H F H' F' → ER K H' F' σ' ρ → D.nx σ' H'
  | .ok (.ct ρ) => ∀ σ' H' F', Sv K.f0 H F H' F' → ER K H' F' σ' ρ → D.ct σ' H'
  | .ok (.rt d) => ∀ v H' F', Sv K.f0 H F H' F' → Rp (vw H' K.f0) v d → D.rt v H'
  | .err k => ∀ H' F', Sv K.f0 H F H' F' → Er.W k H'
  | .bad => False
def tS (K : Kx) (c : C) (s : S) : TS := fun D σ H => ∃ ρ F, ER K H F σ ρ ∧ (∀ b ∈ K.f0, b ∈ F) ∧ (c.nl = true → NL H) ∧ Pf K H F D (ex c ρ s)
def tSs (K : Kx) (c : C) (s : Ss) : TS := fun D σ H => ∃ ρ F, ER K H F σ ρ ∧ (∀ b ∈ K.f0, b ∈ F) ∧ (c.nl = true → NL H) ∧ Pf K H F D (exs c ρ s)
theorem Pf.sv {K : Kx} {H H1 : Hp} {F F1 : List Addr} {D : Ends} {r : R Fl} (h : Pf K H F D r) (s : Sv K.f0 H F H1 F1) : Pf K H1 F1 D r := by
  match r, h with
  | .ok (.nx ρ), h => exact fun σ' H' F' s' e => h σ' H' F' (s.trans s') e
  | .ok (.ct ρ), h => exact fun σ' H' F' s' e => h σ' H' F' (s.trans s') e
  | .ok (.rt d), h => exact fun v H' F' s' e => h v H' F' (s.trans s') e
  | .err k, h => exact fun H' F' s' => h H' F' (s.trans s')
theorem Pf.bind {α : Type} {K : Kx} {H : Hp} {F : List Addr} {D : Ends} {r : R α} {f : α → R Fl} (hn : ∀ k, r ≠ .err k) (h : Pf K H F D (r >>= f)) : ∃ a, r = .ok a ∧ Pf K H F D (f a) := by
  cases r with
  | ok a => exact ⟨a, rfl, h⟩
  | err c => exact absurd rfl (hn c)
  | bad => exact h.elim
theorem Pf.bindN {α : Type} {K : Kx} {H : Hp} {F : List Addr} {D : Ends} {r : R α} {f : α → R Fl} (h : Pf K H F D (nE r >>= f)) : ∃ a, r = .ok a ∧ Pf K H F D (f a) := by
  cases r with
  | ok a => exact ⟨a, rfl, h⟩
  | err c => exact h.elim
  | bad => exact h.elim
omit [Tb] [Er] in
theorem gd_ne {α : Type} {b : Bool} {r : R α} (h : ∀ k, r ≠ .err k) (k : Nat) : gd b r ≠ .err k := by
  cases b
  · exact fun z => nomatch z
  · exact h k
omit [Tb] [Er] in
theorem ok_ne {α : Type} (a : α) (k : Nat) : (R.ok a) ≠ .err k := fun z => nomatch z
omit [Tb] [Er] in
theorem bind_ne {α β : Type} {r : R α} {f : α → R β} (h : ∀ k, r ≠ .err k) (g : ∀ a k, f a ≠ .err k) (k : Nat) : (r >>= f) ≠ .err k := by
  cases r with
  | ok a => exact g a k
  | err c => exact absurd rfl (h c)
  | bad => exact fun z => nomatch z
omit [Tb] [Er] in
theorem op_ne {α : Type} (o : Option α) (k : Nat) : op o ≠ .err k := by
  cases o <;> exact fun z => nomatch z
omit [Tb] [Er] in
theorem put_ne (ρ : Env) (i o : Nat) (d : PyData) (k : Nat) : Env.put ρ i o d ≠ .err k := gd_ne (ok_ne _) k
omit [Tb] [Er] in
theorem putAll_ne : ∀ (is : List Nat) (ds : List PyData) (ρ : Env) (k : Nat), putAll is ds ρ ≠ .err k
  | [], [], ρ, k => fun z => nomatch z
  | i :: is, d :: ds, ρ, k => bind_ne (put_ne ρ i 0 d) (fun a => putAll_ne is ds a) k
  | [], _ :: _, _, _ => fun z => nomatch z
  | _ :: _, [], _, _ => fun z => nomatch z
omit [Tb] [Er] in
theorem bindT_ne (t : T) (d : PyData) (ρ : Env) (k : Nat) : bindT t d ρ ≠ .err k := by
  cases t with
  | nm i => exact put_ne ρ i 0 d k
  | tp is => cases d <;> first
    | exact putAll_ne is _ ρ k
    | exact fun z => nomatch z
omit [Tb] [Er] in
theorem bindA_ne (is : List Nat) (d : PyData) (ρ : Env) (k : Nat) : bindA is d ρ ≠ .err k := by
  cases d <;> first
    | exact putAll_ne is _ ρ k
    | exact fun z => nomatch z
omit [Tb] [Er] in
theorem boolD_ne (d : PyData) (k : Nat) : boolD d ≠ .err k := by cases d <;> exact fun z => nomatch z
omit [Tb] [Er] in
theorem listOf_ne (d : PyData) (k : Nat) : listOf d ≠ .err k := by cases d <;> exact fun z => nomatch z
omit [Tb] [Er] in
theorem appSlot_ne (ρ : Env) (i : Nat) (ys : List PyData) (k : Nat) : appSlot ρ i ys ≠ .err k := by
  unfold appSlot
  split
  · exact gd_ne (ok_ne _) k
  · exact fun z => nomatch z
omit [Tb] [Er] in
theorem setSlot_ne (ρ : Env) (i : Nat) (x y : PyData) (k : Nat) : setSlot ρ i x y ≠ .err k := by
  unfold setSlot
  split
  · exact bind_ne (op_ne _) (fun a => ok_ne _) k
  · exact gd_ne (ok_ne _) k
  · exact fun z => nomatch z
section
variable {K : Kx} {H H' : Hp} {F F' : List Addr} {σ : L2.St} {ρ : Env}
/-! ### names that are let go -/
theorem DeepKV.inF {kvs : List (Key × V)} {ps : List (PyData × PyData)} {ms : List Addr} (h : DeepKV H F kvs ps ms) : ∀ a ∈ ms, a ∈ F := by
  induction h with
  | nil => exact fun a z => absurd z List.not_mem_nil
  | cons h1 _ _ _ _ ih =>
    intro a ha
    rcases List.mem_cons.mp ha with rfl | ha
    · exact h1
    · exact ih a ha
theorem Sl.inF {o : Nat} {v : V} {d : PyData} {as : List Addr} (h : Sl K H F o v d as) : ∀ a ∈ as, a ∈ F := by
  match o with
  | 0 =>
    rw [h.1]
    exact fun a z => absurd z List.not_mem_nil
  | 1 =>
    obtain ⟨l, rfl, _, hl, _⟩ := h
    intro a ha
    rw [List.mem_singleton.mp ha]
    exact hl
  | 2 =>
    obtain ⟨l, ms, kvs, ps, rfl, e2, e3, e4, e5, e6, e7⟩ := h
    intro a ha
    rcases List.mem_cons.mp ha with rfl | ha
    · exact e3
    · exact e7.inF a ha
  | 3 =>
    rw [h.1]
    exact fun a z => absurd z List.not_mem_nil
  | _ + 4 => exact h.elim
/-- the holdings of slots that hold nothing are empty -/
theorem ER.norm (h : ER K H F σ ρ) : ∃ A : Nat → List Addr, (∀ i o d, ρ[i]? = some (some (o, d)) → ∃ v, σ[i]? = some (some v) ∧ Sl K H F o v d (A i)) ∧ (∀ i j, i ≠ j → ∀ a, a ∈ A i → a ∉ A j) ∧ (∀ i a, a ∈ A i → a ∉ K.f0) ∧ ∀ i a, a ∈ A i → a ∈ F := by
  obtain ⟨A, h1, h2, h3⟩ := h.own
  refine ⟨fun i => match ρ[i]? with | some (some _) => A i | _ => [], fun i o d e => ?_, fun i j hij a ha hb => ?_, fun i a ha => ?_, fun i a ha => ?_⟩
  · obtain ⟨v, e1, s⟩ := h1 i o d e
    refine ⟨v, e1, ?_⟩
    dsimp only
    rw [e]
    exact s
  · dsimp only at ha hb
    split at ha
    · split at hb
      · exact h2 i j hij a ha hb
      · exact absurd hb List.not_mem_nil
    · exact absurd ha List.not_mem_nil
  · dsimp only at ha
    split at ha
    · exact h3 i a ha
    · exact absurd ha List.not_mem_nil
  · dsimp only at ha
    split at ha
    · rename_i p q
      obtain ⟨v, _, s⟩ := h1 i p.1 p.2 q
      exact s.inF a ha
    · exact absurd ha List.not_mem_nil
theorem Own1.let {v : V} {d : PyData} {l : Addr} (h : Own1 H F v d l) (hs : ∀ a ∈ F', a ∈ F) (hl : l ∉ F') : Rp (vw H F') v d := by
  obtain ⟨rfl, _, h⟩ := h
  have sub : Same (vw H F) (vw H F') := vw_sub hs
  rcases h with ⟨vs, ds, rfl, h1, h2⟩ | ⟨kvs, ps, rfl, h1, h2⟩
  · exact .lst (vw_of hl h1) (h2.mono sub)
  · exact .dct (vw_of hl h1) (h2.mono sub)
theorem Own2.let {v : V} {d : PyData} {as : List Addr} (h : Own2 H F v d as) (hs : ∀ a ∈ F', a ∈ F) (hl : ∀ a ∈ as, a ∉ F') : Rp (vw H F') v d := by
  obtain ⟨l, ms, kvs, ps, rfl, rfl, e3, e4, rfl, e6, e7⟩ := h
  have sub : Same (vw H F) (vw H F') := vw_sub hs
  refine .dct (vw_of (hl l List.mem_cons_self) e6) ?_
  have hm : ∀ a ∈ ms, a ∉ F' := fun a ha => hl a (List.mem_cons_of_mem _ ha)
  clear hl e6 e4
  induction e7 with
  | nil => exact .nil
  | cons h1 h2 h3 h4 _ ih => exact .cons (.lst (vw_of (hm _ List.mem_cons_self) h2) (h3.mono sub)) (ih fun a ha => hm a (List.mem_cons_of_mem _ ha))
theorem Own1.less {v : V} {d : PyData} {l : Addr} (h : Own1 H F v d l) (hs : ∀ a ∈ F', a ∈ F) (hl : l ∈ F') : Own1 H F' v d l := by
  obtain ⟨e, _, h⟩ := h
  have sub : Same (vw H F) (vw H F') := vw_sub hs
  refine ⟨e, hl, ?_⟩
  rcases h with ⟨vs, ds, e, h1, h2⟩ | ⟨kvs, ps, e, h1, h2⟩
  · exact .inl ⟨vs, ds, e, h1, h2.mono sub⟩
  · exact .inr ⟨kvs, ps, e, h1, h2.mono sub⟩
theorem DeepKV.less {kvs : List (Key × V)} {ps : List (PyData × PyData)} {ms : List Addr} (h : DeepKV H F kvs ps ms) (hs : ∀ a ∈ F', a ∈ F) (hl : ∀ a ∈ ms, a ∈ F') : DeepKV H F' kvs ps ms := by
  have sub : Same (vw H F) (vw H F') := vw_sub hs
  induction h with
  | nil => exact .nil
  | cons h1 h2 h3 h4 _ ih => exact .cons (hl _ List.mem_cons_self) h2 (h3.mono sub) h4 (ih fun a ha => hl a (List.mem_cons_of_mem _ ha))
theorem Sl.less {o : Nat} {v : V} {d : PyData} {as : List Addr} (h : Sl K H F o v d as) (hs : ∀ a ∈ F', a ∈ F) (hl : ∀ a ∈ as, a ∈ F') : Sl K H F' o v d as := by
  match o with
  | 0 => exact ⟨h.1, h.2.mono (vw_sub hs)⟩
  | 1 =>
    obtain ⟨l, rfl, h⟩ := h
    exact ⟨l, rfl, h.less hs (hl l (List.mem_singleton.mpr rfl))⟩
  | 2 =>
    obtain ⟨l, ms, kvs, ps, rfl, e2, e3, e4, e5, e6, e7⟩ := h
    exact ⟨l, ms, kvs, ps, rfl, e2, hl l List.mem_cons_self, e4, e5, e6, e7.less hs fun a ha => hl a (List.mem_cons_of_mem _ ha)⟩
  | 3 =>
    obtain ⟨e, a, ns, e1, e2, h⟩ := h
    refine ⟨e, a, ns, e1, e2, ?_⟩
    rcases h with h | h | ⟨n, h⟩
    · exact .inl h
    · exact .inr (.inl h)
    · exact .inr (.inr ⟨fun z => n (hs a z), h⟩)
  | _ + 4 => exact h.elim
theorem ER.frz1 (h : ER K H F σ ρ) (h0 : ∀ b ∈ K.f0, b ∈ F) (i : Nat) : ∃ F1, ER K H F1 σ (TD.frz1 ρ i) ∧ Sv K.f0 H F H F1 := by
  have stay : ∃ F1, ER K H F1 σ ρ ∧ Sv K.f0 H F H F1 := ⟨F, h, Sv.of_gr (Gr.refl H) h.dm h0⟩
  have go : ∀ (o : Nat) (d : PyData), ρ[i]? = some (some (o, d)) → (o = 1 ∨ o = 2) → ∃ F1, ER K H F1 σ (ρ.set i (some (0, d))) ∧ Sv K.f0 H F H F1 := by
    intro o d q ho
    obtain ⟨A, h1, h2, h3, h4⟩ := h.norm
    have hi : i < ρ.length := (List.getElem?_eq_some_iff.mp q).1
    have hsub : ∀ a ∈ F.filter (fun a => decide (a ∉ A i)), a ∈ F := fun a ha => (List.mem_filter.mp ha).1
    obtain ⟨v, e1, s⟩ := h1 i o d q
    have hout : ∀ a ∈ A i, a ∉ F.filter (fun a => decide (a ∉ A i)) := fun a ha z => of_decide_eq_true (List.mem_filter.mp z).2 ha
    have dm' : Dm (F.filter (fun a => decide (a ∉ A i))) H := fun a ha => h.dm a (hsub a ha)
    have r : Rp (vw H (F.filter (fun a => decide (a ∉ A i)))) v d := by
      rcases ho with rfl | rfl
      · obtain ⟨l, e, s⟩ := s
        exact s.let hsub (hout l (by rw [e]; exact List.mem_singleton.mpr rfl))
      · exact Own2.let s hsub hout
    have er1 := ER.setA (K := K) (H := H) (F := F.filter (fun a => decide (a ∉ A i))) (σ := σ) (ρ := ρ) (i := i) (o := 0) (v := v) (d := d) (as := []) (A := A) dm' h.len hi (fun j o' d' hj e => by
      obtain ⟨w, e2, s'⟩ := h1 j o' d' e
      refine ⟨w, e2, s'.less hsub fun a ha => List.mem_filter.mpr ⟨h4 j a ha, decide_eq_true (h2 j i hj a ha)⟩⟩) h2 h3 ⟨rfl, r⟩ (fun a z => absurd z List.not_mem_nil) fun a z => absurd z List.not_mem_nil
    have es : σ.set i (some v) = σ := by
      refine List.ext_getElem? fun j => ?_
      by_cases hj : i = j
      · subst hj
        rw [List.getElem?_set_self (by rw [← h.len]; exact hi), e1]
      · rw [List.getElem?_set_ne hj]
    rw [es] at er1
    refine ⟨_, er1, ⟨fun b o e _ _ => e, fun b _ => rfl, fun b hb => List.mem_filter.mpr ⟨h0 b hb, decide_eq_true fun z => h3 i b z hb⟩, fun a ha => .inl (hsub a ha), fun _ _ _ e => e, Nz.refl H, dm'⟩⟩
  unfold TD.frz1
  split
  · rename_i d q
    exact go 1 d q (.inl rfl)
  · rename_i d q
    exact go 2 d q (.inr rfl)
  · exact stay
theorem frz1_kind {i : Nat} : ∀ o d, (TD.frz1 ρ i)[i]? = some (some (o, d)) → o ≠ 1 ∧ o ≠ 2 := by
  intro o d h
  unfold TD.frz1 at h
  split at h
  · rename_i d' q
    rw [List.getElem?_set_self (List.getElem?_eq_some_iff.mp q).1] at h
    cases h
    decide
  · rename_i d' q
    rw [List.getElem?_set_self (List.getElem?_eq_some_iff.mp q).1] at h
    cases h
    decide
  · rename_i h1 h2
    refine ⟨fun z => ?_, fun z => ?_⟩
    · subst z
      exact h1 d h
    · subst z
      exact h2 d h
theorem frz1_keep {i j o : Nat} {d : PyData} (h : (TD.frz1 ρ i)[j]? = some (some (o, d))) : o = 0 ∨ ρ[j]? = some (some (o, d)) := by
  unfold TD.frz1 at h
  split at h
  · rename_i d' q
    by_cases hj : i = j
    · subst hj
      rw [List.getElem?_set_self (List.getElem?_eq_some_iff.mp q).1] at h
      cases h
      exact .inl rfl
    · rw [List.getElem?_set_ne hj] at h
      exact .inr h
  · rename_i d' q
    by_cases hj : i = j
    · subst hj
      rw [List.getElem?_set_self (List.getElem?_eq_some_iff.mp q).1] at h
      cases h
      exact .inl rfl
    · rw [List.getElem?_set_ne hj] at h
      exact .inr h
  · exact .inr h
theorem frz_keep : ∀ {is : List Nat} {ρ : Env} {j o : Nat} {d : PyData}, (TD.frz is ρ)[j]? = some (some (o, d)) → o = 0 ∨ ρ[j]? = some (some (o, d))
  | [], _, _, _, _, h => .inr h
  | i :: is, ρ, j, o, d, h => by
    rcases frz_keep (is := is) h with z | z
    · exact .inl z
    · exact frz1_keep z
theorem kind_of_sl {i o : Nat} {d : PyData} (h : ER K H F σ ρ) (e : ρ[i]? = some (some (o, d))) : o ≤ 3 := by
  obtain ⟨A, h1, _, _⟩ := h.own
  obtain ⟨v, _, s⟩ := h1 i o d e
  match o with
  | 0 => decide
  | 1 => decide
  | 2 => decide
  | 3 => decide
  | _ + 4 => exact s.elim
theorem ER.frz : ∀ (is : List Nat) {F : List Addr} {ρ : Env}, ER K H F σ ρ → (∀ b ∈ K.f0, b ∈ F) → ∃ F1, ER K H F1 σ (TD.frz is ρ) ∧ Sv K.f0 H F H F1 ∧ Un0 is (TD.frz is ρ)
  | [], F, ρ, h, h0 => ⟨F, h, Sv.of_gr (Gr.refl H) h.dm h0, fun i hi => absurd hi List.not_mem_nil⟩
  | i :: is, F, ρ, h, h0 => by
    obtain ⟨F1, e1, s1⟩ := h.frz1 h0 i
    obtain ⟨F2, e2, s2, u2⟩ := ER.frz is e1 s1.sub0
    refine ⟨F2, e2, s1.trans s2, fun j hj o d e => ?_⟩
    rcases List.mem_cons.mp hj with rfl | hj
    · rcases frz_keep (is := is) e with z | z
      · exact .inl z
      · have hk := frz1_kind o d z
        have := kind_of_sl e1 z
        omega
    · exact u2 j hj o d e
end
end TD
/-! Calls that may be refused. -/
namespace TD
open PySem PySem.Spec PyProof.Rows L2
variable [Tb] [Er]
/-- what the def's caller wants of an exception -/
def EW : XK := fun cls d H' => ∃ k, cls = Tb.cl k ∧ d = none ∧ Er.W k H'
def tT (K : Kx) (c : C) (e : E) : TE := fun σ H Q => ∃ ρ F, ER K H F σ ρ ∧ (c.nl = true → NL H) ∧ Un0 (gens e) ρ ∧ Pk Er.W H F Q (evT c ρ e)
omit [Er] in
theorem Pk.grW {W : Nat → Hp → Prop} {H H' : Hp} {F : List Addr} {Q : VK} {r : R PyData} (h : Pk W H F Q r) (g : Gr H H') : Pk W H' F Q r := by
  cases r with
  | ok d => exact fun v H2 g2 r => h v H2 (g.trans g2) r
  | err c => exact fun H2 g2 => h H2 (g.trans g2)
  | bad => exact h
omit [Er] in
theorem Pk.bindN {α : Type} {W : Nat → Hp → Prop} {H : Hp} {F : List Addr} {Q : VK} {r : R α} {f : α → R PyData} (h : Pk W H F Q (nE r >>= f)) : ∃ a, r = .ok a ∧ Pk W H F Q (f a) := by
  cases r with
  | ok a => exact ⟨a, rfl, h⟩
  | err c => exact h.elim
  | bad => exact h.elim
omit [Er] in
theorem Pk.nE0 {W : Nat → Hp → Prop} {H : Hp} {F : List Addr} {Q : VK} {r : R PyData} (h : Pk W H F Q (nE r)) : Pk W0 H F Q r := by
  cases r with
  | ok a => exact h
  | err c => exact h.elim
  | bad => exact h
omit [Er] in
theorem Pk.gdW {W : Nat → Hp → Prop} {H : Hp} {F : List Addr} {Q : VK} {b : Bool} {r : R PyData} (h : Pk W H F Q (gd b r)) : b = true ∧ Pk W H F Q r := by
  cases b with
  | true => exact ⟨rfl, h⟩
  | false => exact h.elim
/-- one call of a def -/
def isFn : E → Bool
  | .fn _ _ => true
  | _ => false
def one1 : Es → Bool
  | .cons (.fn _ _) .nil => true
  | _ => false
omit [Tb] [Er] in
theorem evT_no {c : C} {ρ : Env} {e : E} (h : isFn e = false) : evT c ρ e = nE (ev c ρ e) := by
  cases e <;> first
    | rfl
    | cases h
omit [Tb] [Er] in
theorem evT_fn {c : C} {ρ : Env} {f : Nat} {es : Es} (h : one1 es = false) : evT c ρ (.fn f es) = (nE (evs c ρ es) >>= fun xs => gd c.nl (c.call f xs)) := by
  cases es with
  | nil => rfl
  | cons e r => cases e <;> first
    | rfl
    | (cases r <;> first
      | rfl
      | cases h)
omit [Tb] [Er] in
theorem ok_of_bind {α β : Type} {r : R α} {f : α → R β} {b : β} (h : (r >>= f) = .ok b) : ∃ a, r = .ok a ∧ f a = .ok b := by
  cases r with
  | ok a => exact ⟨a, rfl, h⟩
  | err c => cases h
  | bad => cases h
omit [Tb] [Er] in
/-- what ev answers evT answers -/
theorem evT_ok {c : C} {ρ : Env} {e : E} {d : PyData} (h : ev c ρ e = .ok d) : evT c ρ e = .ok d := by
  cases e with
  | fn f es =>
    by_cases ho : one1 es = true
    · cases es with
      | nil => cases ho
      | cons e r => cases e <;> first
        | (cases ho; done)
        | (cases r <;> first
          | (cases ho; done)
          | (rename_i g gs
             obtain ⟨xs, h1, h2⟩ := ok_of_bind (show (evs c ρ (.cons (.fn g gs) .nil) >>= fun xs => gd c.nl (c.call f xs)) = .ok d from h)
             obtain ⟨y, h3, h4⟩ := ok_of_bind (show (ev c ρ (.fn g gs) >>= fun x => evs c ρ .nil >>= fun xs => R.ok (x :: xs)) = .ok xs from h1)
             cases h4
             obtain ⟨ys, h5, h6⟩ := ok_of_bind (show (evs c ρ gs >>= fun xs => gd c.nl (c.call g xs)) = .ok y from h3)
             show (nE (evs c ρ gs) >>= fun xs => gd c.nl (c.call g xs) >>= fun y => gd c.nl (c.call f [y])) = .ok d
             rw [h5]
             show (gd c.nl (c.call g ys) >>= fun y => gd c.nl (c.call f [y])) = .ok d
             rw [h6]
             exact h2))
    · have ho : one1 es = false := by simpa using ho
      rw [evT_fn ho]
      obtain ⟨xs, h1, h2⟩ := ok_of_bind (show (evs c ρ es >>= fun xs => gd c.nl (c.call f xs)) = .ok d from h)
      rw [h1]
      exact h2
  | _ =>
    rw [evT_no rfl, h]
    rfl
section
variable {X : Cx} {f0 : List Addr} {c : C} {tg x y z : Expr} {a b d e : E} {pos pos' : Pos}
theorem st_of (h : SE X f0 c e x) (hf : isFn e = false) : PE X x (tT (kx X f0) c e) := by
  refine h.pe.imp fun σ H Q t => ?_
  obtain ⟨ρ, F, er, n, u, pk⟩ := t
  rw [evT_no hf] at pk
  exact ⟨ρ, F, er, n, u, pk.nE0⟩
theorem st_fn {f : Nat} {es : Es} {xs : List Expr} {nm : Str} {p1 : Pos} (F : FnAt X c.call nm f) (hp : Passes (L2.CX X.prog X.w) X EW) (hg : Gl X nm) (hd : (nm == ("__debug__" : Str)) = false) (ho : one1 es = false) (hs : SA X f0 c es (x :: xs)) : PE X (.Call (.Name nm p1) (x :: xs) [] pos) (tT (kx X f0) c (.fn f es)) := by
  obtain ⟨k, a, fd, ps, Fk, hr, hm, hk, hb⟩ := F.ex
  have st := hs.st
  rw [List.all_cons, Bool.and_eq_true] at st
  refine (pe_call Fk hr hg hm hk hb .nil hp hs.pa hd (star_cons st.1 _) (star_any st.2)).imp fun σ H Q h => ?_
  obtain ⟨ρ, F, er, n, u, pk⟩ := h
  rw [evT_fn ho] at pk
  obtain ⟨ds, hds, pk⟩ := Pk.bindN pk
  obtain ⟨nl, pk⟩ := Pk.gdW pk
  refine tEs_of er n u hds fun vs H1 g1 r1 => ?_
  rw [List.append_nil]
  exact ⟨ds, F, er.dm.gr g1.same, nl_gr n g1 nl, r1, (pk.grW g1).w fun k _ z => ⟨k, rfl, rfl, z⟩⟩
theorem st_fn2 {f g : Nat} {es : Es} {xs : List Expr} {nm nm2 : Str} {p1 p2 q : Pos} (F : FnAt X c.call nm f) (F2 : FnAt X c.call nm2 g) (hp : Passes (L2.CX X.prog X.w) X EW) (hg : Gl X nm) (hd : (nm == ("__debug__" : Str)) = false) (hg2 : Gl X nm2) (hd2 : (nm2 == ("__debug__" : Str)) = false) (ho : one1 es = false) (hs : SA X f0 c es (x :: xs)) :
    PE X (.Call (.Name nm p1) [.Call (.Name nm2 p2) (x :: xs) [] q] [] pos) (tT (kx X f0) c (.fn f (.cons (.fn g es) .nil))) := by
  have inner := st_fn (p1 := p2) (pos := q) F2 hp hg2 hd2 ho hs
  obtain ⟨k, a, fd, ps, Fk, hr, hm, hk, hb⟩ := F.ex
  refine (pe_call Fk hr hg hm hk hb .nil hp (pa_cons inner pa_nil) hd).imp fun σ H Q h => ?_
  obtain ⟨ρ, F, er, n, u, pk⟩ := h
  have pk : Pk Er.W H F Q (nE (evs c ρ es) >>= fun xs => gd c.nl (c.call g xs) >>= fun y => gd c.nl (c.call f [y])) := pk
  obtain ⟨ds, hds, pk⟩ := Pk.bindN pk
  have u : Un0 ((gensL es) ++ []) ρ := u
  refine ⟨ρ, F, er, n, u.l, ?_⟩
  rw [evT_fn ho, hds]
  show Pk Er.W H F _ (gd c.nl (c.call g ds))
  cases hn : c.nl with
  | false =>
    rw [hn] at pk
    exact pk.elim
  | true =>
    rw [hn] at pk
    show Pk Er.W H F _ (c.call g ds)
    have pk : Pk Er.W H F Q (c.call g ds >>= fun y => c.call f [y]) := pk
    cases q : c.call g ds with
    | ok p =>
      rw [q] at pk
      intro v H1 g1 r1
      have pk : Pk Er.W H F Q (c.call f [p]) := pk
      exact ⟨[p], F, er.dm.gr g1.same, nl_gr n g1 hn, .cons r1 .nil, (pk.grW g1).w fun k _ z => ⟨k, rfl, rfl, z⟩⟩
    | err k =>
      rw [q] at pk
      exact pk
    | bad =>
      rw [q] at pk
      exact pk.elim
/-- a value of a statement -/
theorem tT_of {K : Kx} {H : Hp} {F : List Addr} {σ : L2.St} {ρ : Env} {D : Ends} {Q : VK} {f : PyData → R Fl} (er : ER K H F σ ρ) (h0 : ∀ b ∈ K.f0, b ∈ F) (n : c.nl = true → NL H) (u : Un0 (gens e) ρ) (pf : Pf K H F D (evT c ρ e >>= f)) (k : ∀ d, evT c ρ e = .ok d → Pf K H F D (f d) → ∀ v H', Gr H H' → Rp (vw H' F) v d → Q v H') : tT K c e σ H Q := by
  refine ⟨ρ, F, er, n, u, ?_⟩
  cases q : evT c ρ e with
  | ok d =>
    rw [q] at pf
    exact k d q pf
  | err j =>
    rw [q] at pf
    exact fun H' g => pf H' F (Sv.of_gr g er.dm h0)
  | bad =>
    rw [q] at pf
    exact pf.elim
end
end TD
/-! Statements, one by one. -/
namespace L2
open PySem PySem.Spec PyProof.Rows
theorem PS.imp {X : Cx} {e : Stmt} {t t' : TS} (h : PS X e t) (g : ∀ D σ H, t' D σ H → t D σ H) : PS X e t' := ⟨fun pins s σ H D I hw => h.run pins s σ H D I (g D σ H hw)⟩
theorem PS.or {X : Cx} {e : Stmt} {t t' : TS} (h : PS X e t) (h' : PS X e t') : PS X e (fun D σ H => t D σ H ∨ t' D σ H) :=
  ⟨fun pins s σ H D I hw => hw.elim (h.run pins s σ H D I) (h'.run pins s σ H D I)⟩
theorem PSs.imp {X : Cx} {e : List Stmt} {t t' : TS} (h : PSs X e t) (g : ∀ D σ H, t' D σ H → t D σ H) : PSs X e t' := ⟨fun pins s σ H D I hw => h.run pins s σ H D I (g D σ H hw)⟩
end L2
namespace TD
open PySem PySem.Spec PyProof.Rows L2
variable [Tb] [Er]
section
variable {X : Cx} {f0 : List Addr} {c : C} {tg x y z : Expr} {a b d e : E} {pos pos' : Pos}
/-! ### blocks -/
theorem ss_nil : PSs X [] (tSs (kx X f0) c .nil) := by
  refine pss_nil.imp fun D σ H h => ?_
  obtain ⟨ρ, F, er, h0, n, pf⟩ := h
  exact pf σ H F (Sv.of_gr (Gr.refl H) er.dm h0) er
theorem ss_cons {s : S} {r : Ss} {st : Stmt} {rest : List Stmt} (h1 : PS X st (tS (kx X f0) c s)) (h2 : PSs X rest (tSs (kx X f0) c r)) : PSs X (st :: rest) (tSs (kx X f0) c (.cons s r)) := by
  refine (pss_cons h1 h2).imp fun D σ H h => ?_
  obtain ⟨ρ, F, er, h0, n, pf⟩ := h
  have pf : Pf (kx X f0) H F D (ex c ρ s >>= fun fl => match fl with | .nx ρ' => exs c ρ' r | .ct ρ' => .ok (.ct ρ') | .rt d => .ok (.rt d)) := pf
  refine ⟨ρ, F, er, h0, n, ?_⟩
  cases hf : ex c ρ s with
  | ok fl =>
    rw [hf] at pf
    cases fl with
    | nx ρ' => exact fun σ' H' F' s' er' => ⟨ρ', F', er', s'.sub0, fun z => s'.nz.nl (n z), Pf.sv pf s'⟩
    | ct ρ' => exact pf
    | rt v => exact pf
  | err k =>
    rw [hf] at pf
    exact pf
  | bad =>
    rw [hf] at pf
    exact pf
theorem s_pass : PS X (.Pass pos) (tS (kx X f0) c .pass) := by
  refine ps_pass.imp fun D σ H h => ?_
  obtain ⟨ρ, F, er, h0, n, pf⟩ := h
  exact pf σ H F (Sv.of_gr (Gr.refl H) er.dm h0) er
theorem s_cont : PS X (.Continue pos) (tS (kx X f0) c .cont) := by
  refine ps_continue.imp fun D σ H h => ?_
  obtain ⟨ρ, F, er, h0, n, pf⟩ := h
  exact pf σ H F (Sv.of_gr (Gr.refl H) er.dm h0) er
theorem s_ret (ha : PE X x (tT (kx X f0) c a)) : PS X (.Return (some x) pos) (tS (kx X f0) c (.ret a)) := by
  refine (ps_ret ha).imp fun D σ H h => ?_
  obtain ⟨ρ, F, er, h0, n, pf⟩ := h
  obtain ⟨F1, er1, s1, u1⟩ := er.frz (gens a) h0
  refine tT_of er1 s1.sub0 n u1 (Pf.sv (show Pf (kx X f0) H F D (evT c (frz (gens a) ρ) a >>= fun d => .ok (.rt d)) from pf) s1) fun d _ pf v H' g r => ?_
  exact pf v H' F1 (Sv.of_gr g er1.dm s1.sub0) (r.mono (vw_sub s1.sub0))
theorem s_if {c1 c2 : Ss} {l1 l2 : List Stmt} (ha : SE X f0 c a x) (h1 : PSs X l1 (tSs (kx X f0) c c1)) (h2 : PSs X l2 (tSs (kx X f0) c c2)) : PS X (.If x l1 l2 pos) (tS (kx X f0) c (.ife a c1 c2)) := by
  refine (ps_if ha.pt h1 h2).imp fun D σ H h => ?_
  obtain ⟨ρ, F, er, h0, n, pf⟩ := h
  obtain ⟨p, hp, pf⟩ := Pf.bindN (show Pf (kx X f0) H F D (nE (ev c (frz (gens a) ρ) a) >>= fun d => boolD d >>= fun k => match k with | true => exs c (frz (gens a) ρ) c1 | false => exs c (frz (gens a) ρ) c2) from pf)
  obtain ⟨k, hk, pf⟩ := Pf.bind (boolD_ne p) pf
  cases boolD_ok hk
  obtain ⟨F1, er1, s1, u1⟩ := er.frz (gens a) h0
  refine tE_of er1 n u1 hp fun v H' g r => ⟨k, r.bool, ?_⟩
  have s2 := s1.trans (Sv.of_gr g er1.dm s1.sub0)
  cases k with
  | true =>
    dsimp only
    rw [if_pos rfl]
    exact ⟨_, F1, er1.gr g, s1.sub0, nl_gr n g, pf.sv s2⟩
  | false =>
    dsimp only
    rw [if_neg Bool.false_ne_true]
    exact ⟨_, F1, er1.gr g, s1.sub0, nl_gr n g, pf.sv s2⟩
theorem s_exp (ha : PE X x (tT (kx X f0) c a)) (hs : swapsWith x none pos.line X.env = pure false) : PS X (.Expr x pos) (tS (kx X f0) c (.exp a)) := by
  refine (ps_expr ha hs).imp fun D σ H h => ?_
  obtain ⟨ρ, F, er, h0, n, pf⟩ := h
  obtain ⟨F1, er1, s1, u1⟩ := er.frz (gens a) h0
  refine tT_of er1 s1.sub0 n u1 (Pf.sv (show Pf (kx X f0) H F D (evT c (frz (gens a) ρ) a >>= fun d => .ok (.nx (frz (gens a) ρ))) from pf) s1) fun d _ pf v H' g r => ?_
  exact pf σ H' F1 (Sv.of_gr g er1.dm s1.sub0) (er1.gr g)
/-! ### name = value -/
theorem put_ok {ρ ρ' : Env} {i o : Nat} {p : PyData} (h : Env.put ρ i o p = .ok ρ') : i < ρ.length ∧ ρ' = ρ.set i (some (o, p)) := by
  obtain ⟨h1, h2⟩ := gd_ok h
  cases h2
  exact ⟨of_decide_eq_true h1, rfl⟩
theorem set_own {K : Kx} {H H' : Hp} {F : List Addr} {σ : L2.St} {ρ : Env} {i : Nat} {v : V} {p : PyData} {l : Addr} (er : ER K H F σ ρ) (h0 : ∀ b ∈ K.f0, b ∈ F) (g : Gr H H') (hi : i < ρ.length) (nl : Nw H l) (hl : ∃ o, H' l = some o ∧ isT o = false) (o : Own1 H' (l :: F) v p l) :
    Sv K.f0 H F H' (l :: F) ∧ ER K H' (l :: F) (σ.set i (some v)) (ρ.set i (some (1, p))) := by
  have vg : Vg H F H' (l :: F) := ⟨g.same, fun a ha => List.mem_cons_of_mem _ ha, fun a ha => (List.mem_cons.mp ha).elim (fun z => .inr (by rw [z]; exact nl)) .inl, fun a ha => (List.mem_cons.mp ha).elim (fun z => by rw [z]; exact hl) (er.dm.gr g.same a)⟩
  refine ⟨⟨fun b o h i _ => g.same _ _ h i, (Sv.of_gr g er.dm h0).base, fun b hb => List.mem_cons_of_mem _ (h0 b hb), vg.new, fun a o u h => g.same _ _ h rfl, g.nz, vg.dm⟩, ?_⟩
  obtain ⟨A, h1, h2, h3, h4⟩ := er.norm
  refine ER.setA (as := [l]) (A := A) vg.dm er.len hi (fun j o' d' _ e => ?_) h2 h3 ⟨l, rfl, o⟩ (fun a ha j _ z => ?_) fun a ha z => ?_
  · obtain ⟨w, e1, s⟩ := h1 j o' d' e
    exact ⟨w, e1, s.vg vg⟩
  · rw [List.mem_singleton.mp ha] at z
    exact er.dm.nw nl (h4 j l z)
  · rw [List.mem_singleton.mp ha] at z
    exact er.dm.nw nl (h0 l z)
theorem key_setF {K : Kx} {i : Nat} {D : Ends} {σ : L2.St} {H : Hp} (hf : fresh e = true) (h : tS K c (.asg (.nm i) e) D σ H) : tAsg (tF K c e) (gName i) D σ H := by
  obtain ⟨ρ, F, er, h0, n, pf⟩ := h
  have hfn : isFn e = false := by cases e <;> first | rfl | cases hf
  obtain ⟨p, hp, pf⟩ := Pf.bindN (show Pf K H F D (nE (ev c (frz (gens e) ρ) e) >>= fun d => Env.put (frz (gens e) ρ) i (ownOf e d) d >>= fun ρ' => .ok (.nx ρ')) from by rw [← evT_no hfn]; exact pf)
  obtain ⟨ρ', hput, pf⟩ := Pf.bind (put_ne _ _ _ _) pf
  obtain ⟨hi, rfl⟩ := put_ok hput
  obtain ⟨F1, er1, s1, u1⟩ := er.frz (gens e) h0
  refine ⟨_, F1, er1, n, u1, ?_⟩
  rw [hp]
  intro v H' g fr
  show D.nx (σ.set i (some v)) H'
  cases p with
  | list ds =>
    obtain ⟨l, vs, rfl, h1, h2, h3⟩ := fr
    have ho : ownOf e (.list ds) = 1 := by unfold ownOf; rw [hf]
    rw [ho] at pf
    obtain ⟨s2, er2⟩ := set_own er1 s1.sub0 g hi h1 ⟨_, h2, rfl⟩ ⟨rfl, List.mem_cons_self, .inl ⟨vs, ds, rfl, h2, h3⟩⟩
    exact pf _ H' _ (s1.trans s2) er2
  | dict ps =>
    obtain ⟨l, vs, rfl, h1, h2, h3⟩ := fr
    have ho : ownOf e (.dict ps) = 1 := by unfold ownOf; rw [hf]
    rw [ho] at pf
    obtain ⟨s2, er2⟩ := set_own er1 s1.sub0 g hi h1 ⟨_, h2, rfl⟩ ⟨rfl, List.mem_cons_self, .inr ⟨vs, ps, rfl, h2, h3⟩⟩
    exact pf _ H' _ (s1.trans s2) er2
  | _ =>
    have ho : ∀ q : PyData, (∀ ds, q ≠ .list ds) → (∀ ds, q ≠ .dict ds) → ownOf e q = 0 := by
      intro q q1 q2
      unfold ownOf
      rw [hf]
      cases q <;> first
        | rfl
        | exact absurd rfl (q1 _)
        | exact absurd rfl (q2 _)
    rw [ho _ (by intro _ z; cases z) (by intro _ z; cases z)] at pf
    exact pf _ H' F1 (s1.trans (Sv.of_gr g er1.dm s1.sub0)) ((er1.gr g).set0 hi fr)
theorem key_set {K : Kx} {i : Nat} {D : Ends} {σ : L2.St} {H : Hp} (hf : fresh e = false) (h : tS K c (.asg (.nm i) e) D σ H) : tAsg (tT K c e) (gName i) D σ H := by
  obtain ⟨ρ, F, er, h0, n, pf⟩ := h
  obtain ⟨F1, er1, s1, u1⟩ := er.frz (gens e) h0
  refine tT_of er1 s1.sub0 n u1 (Pf.sv (show Pf K H F D (evT c (frz (gens e) ρ) e >>= fun d => Env.put (frz (gens e) ρ) i (ownOf e d) d >>= fun ρ' => .ok (.nx ρ')) from pf) s1) fun p _ pf v H' g r => ?_
  obtain ⟨ρ', hput, pf⟩ := Pf.bind (put_ne _ _ _ _) pf
  obtain ⟨hi, rfl⟩ := put_ok hput
  have ho : ownOf e p = 0 := by
    unfold ownOf
    rw [hf]
  rw [ho] at pf
  show D.nx (σ.set i (some v)) H'
  exact pf _ H' F1 (Sv.of_gr g er1.dm s1.sub0) ((er1.gr g).set0 hi r)
def isComp : Expr → Bool
  | .ListComp _ _ _ _ => true
  | .SetComp _ _ _ _ => true
  | .DictComp _ _ _ _ _ => true
  | _ => false
theorem swaps_no {v : Expr} (h : isComp v = false) (t : Option Expr) (l : Nat) (env : PySem.Env) : swapsWith v t l env = pure false := by
  cases v <;> first
    | rfl
    | cases h
theorem s_set {i : Nat} {nm : Str} (hN : X.N.Nodup) (hi : X.N[i]? = some nm) (hx : Loc X.env.scope nm) (hfn : X.fn nm = true ∨ X.env.scope.names.lookup nm = some .local) (hf : fresh e = false) (he : PE X x (tT (kx X f0) c e)) (hs : isComp x = false) : PS X (.Assign [.Name nm pos'] x pos) (tS (kx X f0) c (.asg (.nm i) e)) :=
  (ps_set hN hi hx he (swaps_no hs _ _ _) hfn).imp fun D σ H h => key_set hf h
theorem s_setF {i : Nat} {nm : Str} (hN : X.N.Nodup) (hi : X.N[i]? = some nm) (hx : Loc X.env.scope nm) (hfn : X.fn nm = true ∨ X.env.scope.names.lookup nm = some .local) (hf : fresh e = true) (he : PE X x (tF (kx X f0) c e)) (hs : swapsWith x (some (.Name nm pos')) pos.line X.env = pure false) : PS X (.Assign [.Name nm pos'] x pos) (tS (kx X f0) c (.asg (.nm i) e)) :=
  (ps_set hN hi hx he hs hfn).imp fun D σ H h => key_setF hf h
end
end TD
/-! Loops. -/
namespace TD
open PySem PySem.Spec PyProof.Rows L2
variable [Tb] [Er]
section
variable {X : Cx} {f0 : List Addr} {c : C} {tg x y z : Expr} {a b d e : E} {pos pos' : Pos}
theorem restr_length : ∀ (r0 r : Env), (restr r0 r).length = r.length
  | some _ :: r0, b :: r => congrArg (· + 1) (restr_length r0 r)
  | none :: r0, _ :: r => congrArg (· + 1) (restr_length r0 r)
  | [], _ :: r => congrArg (· + 1) (restr_length [] r)
  | [], [] => rfl
  | some _ :: _, [] => rfl
  | none :: _, [] => rfl
theorem restr_some : ∀ {r0 r : Env} {i : Nat} {p : Nat × PyData}, (restr r0 r)[i]? = some (some p) → r[i]? = some (some p)
  | some _ :: r0, b :: r, 0, p, h => h
  | some _ :: r0, b :: r, i + 1, p, h => restr_some (r0 := r0) (r := r) (i := i) h
  | none :: r0, _ :: r, 0, p, h => nomatch h
  | none :: r0, _ :: r, i + 1, p, h => restr_some (r0 := r0) (r := r) (i := i) h
  | [], _ :: r, 0, p, h => nomatch h
  | [], _ :: r, i + 1, p, h => restr_some (r0 := []) (r := r) (i := i) h
  | [], [], _, _, h => nomatch h
  | some _ :: _, [], _, _, h => nomatch h
  | none :: _, [], _, _, h => nomatch h
theorem ER.restr {K : Kx} {H : Hp} {F : List Addr} {σ : L2.St} {ρ : Env} (h : ER K H F σ ρ) (r0 : Env) : ER K H F σ (TD.restr r0 ρ) :=
  h.weak (by rw [restr_length, h.len]) fun i p e => ⟨restr_some e, rfl⟩
/-- the walk of a loop -/
theorem for_go {K : Kx} {H1 : Hp} {F : List Addr} {σ : L2.St} {ρ r0 : Env} {l : List PyData} {J : It} {c' : C} {t : T} {bd : Ss} {D : Ends} (er : ER K H1 F σ ρ) (h0 : ∀ b ∈ K.f0, b ∈ F) (n : c'.nl = true → NL H1) (wd : Wd H1 F l J)
    (pf : Pf K H1 F D (loop (fun x ρ' => do let ρ1 ← bindT t x ρ'; exs c' ρ1 bd) r0 l ρ)) :
    ∃ W : Nat → Nat → L2.St → Hp → Prop, (∃ m, W 0 m σ H1) ∧ ∀ i m σ H, W i m σ H →
      (J.stop i H ∧ D.nx σ H) ∨ (J.go i H ∧ ∃ N : L2.St → Hp → Prop, (∀ σ' H', N σ' H' → ∃ m', m' < m ∧ W (i + 1) m' σ' H') ∧ ∀ x H', J.yld i H x H' → gT K.k t x σ H' fun σ2 H2 => tSs K c' bd { D with nx := N, ct := N, bk := D.nx } σ2 H2) := by
  obtain ⟨G, Y, w, hG, hY⟩ := wd
  refine for_it w (fun i σ' H' => ∃ ρ' F', ER K H' F' σ' ρ' ∧ Sv K.f0 H1 F H' F' ∧ Pf K H' F' D (loop (fun x ρ' => do let ρ1 ← bindT t x ρ'; exs c' ρ1 bd) r0 (l.drop i) ρ')) ?_ ?_ ?_ ?_
  · exact ⟨ρ, F, er, Sv.of_gr (Gr.refl _) er.dm h0, pf⟩
  · rintro i σ' H' hi ⟨ρ', F', er', s', _⟩
    exact hG H' F' s'.toStp
  · rintro i x σ' H' H2 hi ⟨ρ', F', er', s', pf'⟩ hy
    have hd : l[i]? = some l[i] := List.getElem?_eq_getElem hi
    obtain ⟨g1, r1⟩ := hY i H' F' x H2 _ hd s'.toStp s'.dm hy
    rw [List.drop_eq_getElem_cons hi] at pf'
    have pf' : Pf K H' F' D ((bindT t l[i] ρ' >>= fun ρ1 => exs c' ρ1 bd) >>= fun fl => match fl with
      | .nx ρ' => loop (fun x ρ' => do let ρ1 ← bindT t x ρ'; exs c' ρ1 bd) r0 (l.drop (i + 1)) (restr r0 ρ')
      | .ct ρ' => loop (fun x ρ' => do let ρ1 ← bindT t x ρ'; exs c' ρ1 bd) r0 (l.drop (i + 1)) (restr r0 ρ')
      | .rt v => R.ok (.rt v)) := pf'
    cases hb : bindT t l[i] ρ' with
    | err k => exact absurd hb (bindT_ne _ _ _ k)
    | bad =>
      rw [hb] at pf'
      exact pf'.elim
    | ok ρ1 =>
    rw [hb] at pf'
    have pf' : Pf K H' F' D (exs c' ρ1 bd >>= fun fl => match fl with
      | .nx ρ' => loop (fun x ρ' => do let ρ1 ← bindT t x ρ'; exs c' ρ1 bd) r0 (l.drop (i + 1)) (restr r0 ρ')
      | .ct ρ' => loop (fun x ρ' => do let ρ1 ← bindT t x ρ'; exs c' ρ1 bd) r0 (l.drop (i + 1)) (restr r0 ρ')
      | .rt v => R.ok (.rt v)) := pf'
    have s2 : Sv K.f0 H' F' H2 F' := Sv.of_gr g1 s'.dm s'.sub0
    refine gT_of (er'.gr g1) r1 hb fun σ2 er2 _ => ?_
    refine ⟨ρ1, F', er2, s'.sub0, fun z => (s'.trans s2).nz.nl (n z), ?_⟩
    have pf2 := pf'.sv s2
    cases hx : exs c' ρ1 bd with
    | ok fl =>
      rw [hx] at pf2
      cases fl with
      | nx ρ3 => exact fun σ3 H3 F3 s3 er3 => ⟨_, F3, er3.restr r0, s'.trans (s2.trans s3), Pf.sv pf2 s3⟩
      | ct ρ3 => exact fun σ3 H3 F3 s3 er3 => ⟨_, F3, er3.restr r0, s'.trans (s2.trans s3), Pf.sv pf2 s3⟩
      | rt v => exact pf2
    | err k =>
      rw [hx] at pf2
      exact pf2
    | bad =>
      rw [hx] at pf2
      exact pf2
  · rintro σ' H' ⟨ρ', F', er', s', pf'⟩
    rw [List.drop_length] at pf'
    exact pf' σ' H' F' (Sv.of_gr (Gr.refl _) s'.dm s'.sub0) er'
/-- behind a loop over a locked dict -/
theorem Sv.unlock {F0 : List Addr} {H H' : Hp} {F F' : List Addr} {d : Addr} {od : Obj} {kvs : List (Key × V)} (h0 : ∀ b ∈ F0, b ∈ F) (hx : H d = some (.dK kvs)) (hd : d ∉ F) (s : Sv F0 (upd H d (.frz od (.dK kvs))) F H' F') (ed : H' d = some (.frz od (.dK kvs))) : Sv F0 H F (upd H' d (.dK kvs)) F' := by
  have hd' : d ∉ F' := fun z => (s.new d z).elim hd fun q => q.no upd_same rfl
  refine ⟨fun b o e i hb => ?_, fun b hb => ?_, s.sub0, fun a ha => ?_, fun a o u e => ?_, ⟨fun a o u e => ?_, fun t => tabs_put (s.nz.tb (tabs_put t (some_pl hx rfl))) (some_pl ed rfl)⟩, fun a ha => ?_⟩
  · by_cases hbd : b = d
    · subst hbd
      rw [hx] at e
      cases e
      exact upd_same
    · rw [upd_ne hbd]
      exact s.keep b o (by rw [upd_ne hbd]; exact e) i hb
  · have hbd : b ≠ d := fun z => hd (by rw [← z]; exact h0 b hb)
    rw [upd_ne hbd, s.base b hb, upd_ne hbd]
  · have hne : a ≠ d := fun z => hd' (by rw [← z]; exact ha)
    rcases s.new a ha with q | q
    · exact .inl q
    · exact .inr fun o e => q o (by rw [upd_ne hne]; exact e)
  · have hne : a ≠ d := fun z => by
      rw [z, hx] at e
      cases e
    rw [upd_ne hne]
    exact s.frz a o u (by rw [upd_ne hne]; exact e)
  · by_cases hne : a = d
    · rw [hne, upd_same] at e
      cases e
    · rw [upd_ne hne] at e
      have := s.nz.lk a o u e
      rw [upd_ne hne] at this
      exact this
  · have hne : a ≠ d := fun z => hd' (by rw [← z]; exact ha)
    rw [upd_ne hne]
    exact s.dm a ha
theorem ER.unlock {K : Kx} {H : Hp} {F : List Addr} {σ : L2.St} {ρ : Env} {d : Addr} {od : Obj} {kvs : List (Key × V)} (er : ER K H F σ ρ) (h : H d = some (.frz od (.dK kvs))) (hd : d ∉ F) : ER K (upd H d (.dK kvs)) F σ ρ := by
  refine er.eqv (vw_unlock h) (fun l hl => upd_ne fun z => hd (by rw [← z]; exact hl)) (fun a o xs e => ?_) fun a xs e => ?_
  · have hne : a ≠ d := fun z => by
      rw [z, h] at e
      cases e
    rw [upd_ne hne]
    exact e
  · have hne : a ≠ d := fun z => by
      rw [z, h] at e
      cases e
    rw [upd_ne hne]
    exact e
/-- what is walked, a refusal told -/
def PkI (H : Hp) (F : List Addr) (RR : It → Hp → Prop) : R (Bool × List PyData) → Prop
  | .ok (false, l) => ∀ J H', Gr H H' → Wd H' F l J → RR J H'
  | .ok (true, _) => False
  | .err k => ∀ H', Gr H H' → Er.W k H'
  | .bad => False
def tIT (K : Kx) (c : C) (it : I) : TI := fun σ H RR => ∃ ρ F, ER K H F σ ρ ∧ (c.nl = true → NL H) ∧ Un0 (gensI it) ρ ∧ PkI H F RR (eviT c ρ it)
def isEnm : I → Bool
  | .enm _ => true
  | _ => false
theorem eviT_no {ρ : Env} {it : I} (h : isEnm it = false) : eviT c ρ it = nE (evi c ρ it) := by
  cases it <;> first
    | rfl
    | cases h
theorem sit_of {it : I} {iter : Expr} (hi : PI X tg iter (tI (kx X f0) c it false)) (h : isEnm it = false) : PI X tg iter (tIT (kx X f0) c it) := by
  refine hi.imp fun σ H RR t => ?_
  obtain ⟨ρ, F, er, n, u, pk⟩ := t
  rw [eviT_no h] at pk
  cases q : evi c ρ it with
  | ok p =>
    rw [q] at pk
    obtain ⟨dk, l⟩ := p
    cases dk with
    | true => exact pk.elim
    | false => exact ⟨ρ, F, l, er, n, u, q, pk⟩
  | err k =>
    rw [q] at pk
    exact pk.elim
  | bad =>
    rw [q] at pk
    exact pk.elim
theorem s_for {t : T} {it : I} {bd : Ss} {iter : Expr} {body : List Stmt} (hp : PassesOwn (model X.prog X.w) X.A X.env X.xe) (hc : X.calm = true) (hi : SI X f0 c tg it iter) (hit : PI X tg iter (tIT (kx X f0) c it)) (hg : PG X tg (gT X.K t)) (hb : PSs X body (tSs (kx X f0) c bd)) (hb' : PSs X body (tSs (kx X f0) c.lock bd)) :
    PS X (.For tg iter body [] pos) (tS (kx X f0) c (.fore t it bd)) := by
  refine ⟨fun pins s σ H D I h => ?_⟩
  obtain ⟨ρ, F, er, h0, n, pf⟩ := h
  have pf : Pf (kx X f0) H F D (eviT c (frz (gensI it) ρ) it >>= fun p => cond p.1 (nE (loop (fun x ρ' => do let ρ1 ← bindT t x ρ'; exs c.lock ρ1 bd) (frz (gensI it) ρ) p.2 (frz (gensI it) ρ))) (loop (fun x ρ' => do let ρ1 ← bindT t x ρ'; exs c ρ1 bd) (frz (gensI it) ρ) p.2 (frz (gensI it) ρ))) := pf
  obtain ⟨F1, er1, s1, u1⟩ := er.frz (gensI it) h0
  have go : (∀ l, eviT c (frz (gensI it) ρ) it ≠ .ok (true, l)) → wpAny (model X.prog X.w) X.A (exec (.For tg iter body [] pos) X.env) (SP X pins D) X.xe s := fun hne => by
    refine (ps_for hp hc hit hg hb hi.st).run pins s σ H D I ?_
    refine ⟨_, F1, er1, n, u1, ?_⟩
    have pf1 := pf.sv s1
    cases q : eviT c (frz (gensI it) ρ) it with
    | ok p =>
      rw [q] at pf1
      obtain ⟨dk, l⟩ := p
      cases dk with
      | true => exact absurd q (hne l)
      | false =>
        intro J H1 g1 wd
        exact for_go (er1.gr g1) s1.sub0 (nl_gr n g1) wd (Pf.sv pf1 (Sv.of_gr g1 er1.dm s1.sub0))
    | err k =>
      rw [q] at pf1
      exact fun H1 g1 => pf1 H1 F1 (Sv.of_gr g1 er1.dm s1.sub0)
    | bad =>
      rw [q] at pf1
      exact pf1.elim
  by_cases hdk : ∃ l, eviT c (frz (gensI it) ρ) it = .ok (true, l)
  case neg => exact go fun l z => hdk ⟨l, z⟩
  case pos =>
    obtain ⟨l, hl⟩ := hdk
    rw [hl] at pf
    have hl : evi c (frz (gensI it) ρ) it = .ok (true, l) := by
      cases hem : isEnm it with
      | false =>
        rw [eviT_no hem] at hl
        exact nE_ok hl
      | true =>
        cases it with
        | enm e =>
          obtain ⟨_, _, z⟩ := ok_of_bind (show (evT c (frz (gensI (.enm e)) ρ) e >>= fun d => nE (seqD d) >>= fun l => R.ok (false, enmD l)) = R.ok (true, l) from hl)
          obtain ⟨_, _, z⟩ := ok_of_bind z
          cases z
        | _ => cases hem
    obtain ⟨i, ps, rfl, hgt, rfl, nl⟩ := evi_dict hl
    refine (ps_lock (ps_for hp hc (pi_keys (hi.dic i rfl)) hg hb' hi.st)).run pins s σ H D I ?_
    obtain ⟨v, e1, r⟩ := er1.var hgt u1
    cases r with
    | dct h1 h2 =>
      rename_i d kvs
      have hd : d ∉ F1 := (vw_some h1).1
      have hx : H d = some (.dK kvs) := rd_ex (n nl) (rdD_vw h1)
      refine ⟨d, .dK kvs, hx, trivial, fun od => ?_⟩
      have erl := er1.lock (od := od) hx hd
      have hv := vw_lock (F := F1) (od := od) hx
      refine ⟨.ref d, e1, d, od, rfl, .inl ⟨kvs, upd_same, ?_⟩⟩
      refine for_go (c' := c.lock) (r0 := frz (gensI (.val (.var i))) ρ) erl s1.sub0 (fun z => nomatch z) (wd_keys upd_same (by rw [hv]; exact h2)) ?_
      have hD : ∀ {H' : Hp} {F' : List Addr}, Sv (kx X f0).f0 (upd H d (.frz od (.dK kvs))) F1 H' F' → H' d = some (.frz od (.dK kvs)) ∧ d ∉ F' := fun s' => ⟨s'.frz d od _ upd_same, fun z => (s'.new d z).elim hd fun q => q.no upd_same rfl⟩
      have pf1 := pf.sv s1
      show Pf (kx X f0) _ F1 _ (loop (fun x ρ' => do let ρ1 ← bindT t x ρ'; exs c.lock ρ1 bd) (frz (gensI (.val (.var i))) ρ) (ps.map (·.1)) (frz (gensI (.val (.var i))) ρ))
      have pf1 : Pf (kx X f0) H F1 D (nE (loop (fun x ρ' => do let ρ1 ← bindT t x ρ'; exs c.lock ρ1 bd) (frz (gensI (.val (.var i))) ρ) (ps.map (·.1)) (frz (gensI (.val (.var i))) ρ))) := pf1
      revert pf1
      generalize loop (fun x ρ' => do let ρ1 ← bindT t x ρ'; exs c.lock ρ1 bd) (frz (gensI (.val (.var i))) ρ) (ps.map (·.1)) (frz (gensI (.val (.var i))) ρ) = rr
      intro pf1
      match rr, pf1 with
      | .ok (.nx ρ'), pf1 => exact fun σ' H' F' s' er' => ⟨(hD s').1, pf1 σ' _ F' (Sv.unlock s1.sub0 hx hd s' (hD s').1) (er'.unlock (hD s').1 (hD s').2)⟩
      | .ok (.ct ρ'), pf1 => exact fun σ' H' F' s' er' => ⟨(hD s').1, pf1 σ' _ F' (Sv.unlock s1.sub0 hx hd s' (hD s').1) (er'.unlock (hD s').1 (hD s').2)⟩
      | .ok (.rt w), pf1 => exact fun v' H' F' s' r' => ⟨(hD s').1, pf1 v' _ F' (Sv.unlock s1.sub0 hx hd s' (hD s').1) (by rw [vw_unlock (hD s').1]; exact r')⟩
end
end TD
/-! Stores. -/
namespace TD
open PySem PySem.Spec PyProof.Rows L2
variable [Tb] [Er]
section
variable {X : Cx} {f0 : List Addr} {c : C} {tg x y z : Expr} {a b d e : E} {pos pos' : Pos}
/-! ### what is held here is written -/
theorem vw_own {H : Hp} {F : List Addr} {l : Addr} {o : HO} (h : l ∈ F) : vw (upd H l o) F = vw H F := by
  funext a
  unfold vw
  by_cases ha : a ∈ F
  · rw [if_pos ha, if_pos ha]
  · have hne : a ≠ l := fun z => ha (by rw [z]; exact h)
    rw [if_neg ha, if_neg ha, upd_ne hne]
theorem DeepKV.put {H : Hp} {F : List Addr} {l : Addr} {o : HO} (hl : l ∈ F) {kvs : List (Key × V)} {ps : List (PyData × PyData)} {ms : List Addr} (h : DeepKV H F kvs ps ms) (hn : l ∉ ms) : DeepKV (upd H l o) F kvs ps ms := by
  induction h with
  | nil => exact .nil
  | cons h1 h2 h3 h4 _ ih =>
    rw [List.mem_cons, not_or] at hn
    exact .cons h1 (by rw [upd_ne (Ne.symm hn.1)]; exact h2) (by rw [vw_own hl]; exact h3) h4 (ih hn.2)
theorem Sl.put {K : Kx} {H : Hp} {F : List Addr} {l : Addr} {o : HO} {k : Nat} {v : V} {d : PyData} {as : List Addr} (hl : l ∈ F) (hz : ∀ ob u, H l ≠ some (.frz ob u)) (h : Sl K H F k v d as) (hn : l ∉ as) : Sl K (upd H l o) F k v d as := by
  match k with
  | 0 => exact ⟨h.1, by rw [vw_own hl]; exact h.2⟩
  | 1 =>
    obtain ⟨m, rfl, e, hm, h⟩ := h
    have hne : m ≠ l := fun z => hn (by rw [z]; exact List.mem_singleton.mpr rfl)
    refine ⟨m, rfl, e, hm, ?_⟩
    rw [upd_ne hne, vw_own hl]
    exact h
  | 2 =>
    obtain ⟨m, ms, kvs, ps, rfl, e2, e3, e4, e5, e6, e7⟩ := h
    rw [List.mem_cons, not_or] at hn
    exact ⟨m, ms, kvs, ps, rfl, e2, e3, e4, e5, by rw [upd_ne (Ne.symm hn.1)]; exact e6, e7.put hl hn.2⟩
  | 3 =>
    obtain ⟨e, a, ns, e1, e2, h⟩ := h
    refine ⟨e, a, ns, e1, e2, ?_⟩
    rcases h with ⟨ob, h⟩ | h | ⟨n, h⟩
    · have hne : a ≠ l := fun q => hz ob _ (by rw [← q]; exact h)
      exact .inl ⟨ob, by rw [upd_ne hne]; exact h⟩
    · exact .inr (.inl h)
    · have hne : a ≠ l := fun q => n (by rw [q]; exact hl)
      exact .inr (.inr ⟨n, by rw [upd_ne hne]; exact h⟩)
  | _ + 4 => exact h.elim
theorem Sv.put {F0 : List Addr} {H : Hp} {F : List Addr} {l : Addr} {o : HO} (dm : Dm F H) (h0 : ∀ b ∈ F0, b ∈ F) (hl : l ∈ F) (hl0 : l ∉ F0) (hz : ∀ ob u, H l ≠ some (.frz ob u)) (hp : ∀ x, H l = some x → plO x = true) (ho : ∀ ob u, o ≠ .frz ob u) (hi : isT o = false) : Sv F0 H F (upd H l o) F := by
  refine ⟨fun b p e i hb => ?_, fun b hb => ?_, h0, fun a ha => .inl ha, fun a ob u e => ?_, Nz.put (Nz.refl H) (fun ob u => ho ob _) hp, fun a ha => ?_⟩
  · have hne : b ≠ l := fun z => hb (by rw [z]; exact hl)
    rw [upd_ne hne]
    exact e
  · have hne : b ≠ l := fun z => hl0 (by rw [← z]; exact hb)
    rw [upd_ne hne]
  · have hne : a ≠ l := fun z => hz ob u (by rw [← z]; exact e)
    rw [upd_ne hne]
    exact e
  · by_cases hne : a = l
    · exact ⟨o, by rw [hne]; exact upd_same, hi⟩
    · rw [upd_ne hne]
      exact dm a ha
/-- the slot's own list or dict is rewritten -/
theorem upd_own {K : Kx} {H : Hp} {F : List Addr} {σ : L2.St} {ρ : Env} {i : Nat} {p p' : PyData} (er : ER K H F σ ρ) (h0 : ∀ b ∈ K.f0, b ∈ F) (e : ρ[i]? = some (some (1, p))) :
    ∃ v l, σ[i]? = some (some v) ∧ Own1 H F v p l ∧ ∀ o, (∀ ob u, o ≠ .frz ob u) → isT o = false → Own1 (upd H l o) F v p' l → Sv K.f0 H F (upd H l o) F ∧ ER K (upd H l o) F σ (ρ.set i (some (1, p'))) := by
  obtain ⟨A, h1, h2, h3⟩ := er.own
  obtain ⟨v, e1, l, e2, s⟩ := h1 i 1 p e
  have hl := s.2.1
  have hi : i < ρ.length := (List.getElem?_eq_some_iff.mp e).1
  have hla : l ∈ A i := by
    rw [e2]
    exact List.mem_singleton.mpr rfl
  have hz : ∀ ob u, H l ≠ some (.frz ob u) := fun ob u z => by
    rcases s.2.2 with ⟨_, _, _, q, _⟩ | ⟨_, _, _, q, _⟩
    · rw [q] at z
      cases z
    · rw [q] at z
      cases z
  have hpl : ∀ x, H l = some x → plO x = true := fun x z => by
    rcases s.2.2 with ⟨_, _, _, q, _⟩ | ⟨_, _, _, q, _⟩
    · rw [q] at z
      cases z
      rfl
    · rw [q] at z
      cases z
      rfl
  refine ⟨v, l, e1, s, fun o ho hi' s' => ?_⟩
  have sv : Sv K.f0 H F (upd H l o) F := Sv.put er.dm h0 hl (h3 i l hla) hz hpl ho hi'
  refine ⟨sv, ?_⟩
  have er2 := ER.setA (K := K) (H := upd H l o) (F := F) (σ := σ) (ρ := ρ) (i := i) (o := 1) (v := v) (d := p') (as := [l]) (A := A) sv.dm er.len hi (fun j o' d' hj q => by
    obtain ⟨w, q1, q2⟩ := h1 j o' d' q
    exact ⟨w, q1, q2.put hl hz fun z => h2 j i hj l z hla⟩) h2 h3 ⟨l, rfl, s'⟩ (fun a ha j hj z => by
    rw [List.mem_singleton.mp ha] at z
    exact h2 j i hj l z hla) fun a ha => by
    rw [List.mem_singleton.mp ha]
    exact h3 i l hla
  have es : σ.set i (some v) = σ := by
    refine List.ext_getElem? fun j => ?_
    by_cases hj : i = j
    · subst hj
      rw [List.getElem?_set_self (by rw [← er.len]; exact hi), e1]
    · rw [List.getElem?_set_ne hj]
  rw [es] at er2
  exact er2
/-! ### o[i] = v -/
theorem putK_length {kvs : List (Key × V)} {k : Key} {v : V} : (putK kvs k v).length ≤ kvs.length + 1 := by
  unfold putK
  split
  · rw [List.length_map]
    omega
  · rw [List.length_append]
    exact Nat.le_refl _
theorem RpKV.anyK {M : Hp} : ∀ {kvs : List (Key × V)} {ps : List (PyData × PyData)} (k : Key), RpKV M kvs ps → (kvs.any fun kv => decide (kv.1 = k)) = ps.any fun p => keyEq p.1 (keyD k)
  | _, _, _, .nil => rfl
  | _, _, k, .cons h a => by
    rw [List.any_cons, List.any_cons, a.anyK k]
    simp only [keyEq_key]
theorem RpKV.repl {M : Hp} : ∀ {kvs : List (Key × V)} {ps : List (PyData × PyData)} (k : Key) {v : V} {d : PyData}, RpKV M kvs ps → Rp M v d → RpKV M (kvs.map fun kv => if kv.1 = k then (kv.1, v) else kv) (ps.map fun p => if keyEq p.1 (keyD k) = true then (p.1, d) else p)
  | _, _, _, _, _, .nil, _ => .nil
  | _, _, k, v, d, .cons (k := k') h a, rv => by
    rw [List.map_cons, List.map_cons]
    by_cases q : k' = k
    · rw [if_pos q, if_pos (by rw [keyEq_key]; exact decide_eq_true q)]
      exact .cons rv (a.repl k rv)
    · rw [if_neg q, if_neg (by rw [keyEq_key, decide_eq_false q]; exact Bool.false_ne_true)]
      exact .cons h (a.repl k rv)
theorem RpKV.snoc {M : Hp} : ∀ {kvs : List (Key × V)} {ps : List (PyData × PyData)} (k : Key) {v : V} {d : PyData}, RpKV M kvs ps → Rp M v d → RpKV M (kvs ++ [(k, v)]) (ps ++ [(keyD k, d)])
  | _, _, _, _, _, .nil, rv => .cons rv .nil
  | _, _, k, _, _, .cons h a, rv => .cons h (a.snoc k rv)
theorem RpKV.put {M : Hp} {kvs : List (Key × V)} {ps : List (PyData × PyData)} (r : RpKV M kvs ps) (k : Key) {v : V} {d : PyData} (rv : Rp M v d) : RpKV M (putK kvs k v) (dPut ps (keyD k) d) := by
  unfold putK dPut
  rw [r.anyK k]
  split
  · exact r.repl k rv
  · exact r.snoc k rv
theorem get1 {ρ : Env} {i : Nat} {d : PyData} (h : ρ[i]? = some (some (1, d))) : Env.get ρ i = .ok d := by
  unfold Env.get
  rw [h]
  rfl
theorem swaps_sole {v : Expr} (h : isComp v = false) (t : Expr) (l : Nat) (env : PySem.Env) : swapsWithSole [t] v l env = pure false := swaps_no h (some t) l env
theorem assign_sub {o y : Expr} {env : PySem.Env} (h : nslice y = true) (v : Value) : assign (.Subscript o y pos) env v = (do
      let ov ← holding [v] (eval o env)
      let iv ← holding [v, ov] (eval y env)
      standAt pos
      holding [v, ov, iv] (setItem ov iv v)
      release [v, ov, iv] []) := by
  cases y <;> first
    | rfl
    | cases h
theorem s_seti {i : Nat} {nm : Str} {p1 : Pos} {k : E} (hu : X.A.units + 1 < cLine) (hn : PE X (.Name nm p1) (tVar i)) (hk : SE X f0 c k y) (he : SE X f0 c e x) (hy : nslice y = true) (hs : isComp x = false) :
    PS X (.Assign [.Subscript (.Name nm p1) y pos'] x pos) (tS (kx X f0) c (.seti i k e)) := by
  refine (PS.or (ps_asg (pos := pos) he.pe (pg_sub (pos := pos') hn hk.pe set_list (assign_sub hy)) (swaps_sole hs _ _ _)) (ps_dput (pos := pos) (pos' := pos') hu hn hk.pe he.pe (swaps_no hs _ _ _))).imp fun D σ H h => ?_
  obtain ⟨ρ, F, er, h0, n, pf⟩ := h
  obtain ⟨p, hp, pf⟩ := Pf.bindN (show Pf (kx X f0) H F D (nE (ev c (frz (gens k ++ gens e) ρ) e) >>= fun x => nE (ev c (frz (gens k ++ gens e) ρ) k) >>= fun y => setSlot (frz (gens k ++ gens e) ρ) i y x >>= fun ρ' => .ok (.nx ρ')) from pf)
  obtain ⟨q, hq, pf⟩ := Pf.bindN pf
  obtain ⟨ρ', hst, pf⟩ := Pf.bind (setSlot_ne _ _ _ _) pf
  obtain ⟨F1, er1, s1, u1⟩ := er.frz (gens k ++ gens e) h0
  have fin : ∀ {H2 : Hp}, Gr H H2 → ∀ {o : HO} {l : Addr} {d : PyData}, Sv f0 H2 F1 (upd H2 l o) F1 ∧ ER (kx X f0) (upd H2 l o) F1 σ ((frz (gens k ++ gens e) ρ).set i (some (1, d))) → (frz (gens k ++ gens e) ρ).set i (some (1, d)) = ρ' → D.nx σ (upd H2 l o) := fun g _ _ _ h e => by
    subst e
    exact pf σ _ F1 (s1.trans ((Sv.of_gr g er1.dm s1.sub0).trans h.1)) h.2
  unfold setSlot at hst
  split at hst
  · rename_i xs m e1
    obtain ⟨j, hj, hst⟩ := bind_ok hst
    have hj := op_ok hj
    refine .inl (tE_of er1 n u1.r hp fun v H1 g1 r1 => ?_)
    obtain ⟨w, e2, _⟩ := (er1.gr g1).held (p := .list xs) (i := i) (get1 e1)
    refine ⟨w, e2, tE_of (er1.gr g1) (nl_gr n g1) u1.l hq fun t H2 g2 r2 => ?_⟩
    obtain ⟨w', l, e3, ⟨rfl, hl, ow⟩, k2⟩ := upd_own (p' := .list (xs.set j p)) (er1.gr (g1.trans g2)) s1.sub0 e1
    rw [e2] at e3
    cases e3
    rcases ow with ⟨vs, ds, q1, q2, q3⟩ | ⟨_, _, q1, _⟩
    · cases q1
      refine ⟨l, vs, m, j, rfl, r2.intV, q2, by rw [q3.length]; exact hj, ?_⟩
      refine fin (g1.trans g2) (k2 (.lst (vs.set j v)) (fun _ _ z => nomatch z) rfl ⟨rfl, hl, .inl ⟨_, _, rfl, upd_same, ?_⟩⟩) (R.ok.inj hst)
      rw [vw_own hl]
      exact q3.set j (r1.gr g2)
    · cases q1
  · rename_i x1 x2 kvs e1
    obtain ⟨hg, hst⟩ := gd_ok hst
    rw [Bool.and_eq_true] at hg
    obtain ⟨kk, rfl⟩ := key_of_ok hg.1
    have hlen := of_decide_eq_true hg.2
    refine .inr (tE_of er1 n u1.r hp fun v H1 g1 r1 => ?_)
    obtain ⟨w, e2, _⟩ := (er1.gr g1).held (p := .dict kvs) (i := i) (get1 e1)
    refine ⟨w, e2, tE_of (er1.gr g1) (nl_gr n g1) u1.l hq fun t H2 g2 r2 => ?_⟩
    obtain ⟨w', l, e3, ⟨rfl, hl, ow⟩, k2⟩ := upd_own (p' := .dict (dPut kvs (keyD kk) p)) (er1.gr (g1.trans g2)) s1.sub0 e1
    rw [e2] at e3
    cases e3
    rcases ow with ⟨_, _, q1, _⟩ | ⟨vs, ds, q1, q2, q3⟩
    · cases q1
    · cases q1
      rw [r2.key]
      refine ⟨l, _, rfl, DPut.k q2 (by rw [q3.length]; exact szLt hlen), ?_⟩
      refine fin (g1.trans g2) (k2 (.dK (putK vs kk v)) (fun _ _ z => nomatch z) rfl ⟨rfl, hl, .inr ⟨_, _, rfl, upd_same, ?_⟩⟩) (R.ok.inj hst)
      rw [vw_own hl]
      exact q3.put kk (r1.gr g2)
  · cases hst
/-! ### append, extend -/
def notSup : Expr → Bool
  | .Call _ _ _ _ => false
  | _ => true
theorem base_of {o : Expr} (h : notSup o = true) (nm : Str) (env : PySem.Env) (m : Sem Value) : attributeBase o nm env m = m := by
  cases o <;> first
    | rfl
    | cases h
theorem few_one {x : Expr} (hx : nstar x = true) (env : PySem.Env) (cpos : Pos) : ((backTo cpos (starEach [x] env)).all (fun x => !x.1) && (backToKw cpos (keywordEach [] env)).all (fun x => x.1.isSome) && decide ([x].length + ([] : List Keyword).length + (if ([] : List Keyword).isEmpty then 0 else 1) < 30)) = true := by
  rw [star_cons hx]
  rfl
theorem s_app {i : Nat} {nm : Str} {p1 apos cpos : Pos} (hn : PE X (.Name nm p1) (tVar i)) (he : SE X f0 c e x) (hx : nstar x = true) (hl : (apos.endLine == cpos.line) = true) : PS X (.Expr (.Call (.Attribute (.Name nm p1) "append" apos) [x] [] cpos) pos) (tS (kx X f0) c (.app i e)) := by
  refine (ps_expr (pe_bm PySem.F.plainAttrs_list PySem.F.slot_list_append PySem.F.type_list_append mt_append hn (sa_cons he hx sa_nil).pa (base_of rfl _ _ _) (few_one hx _ _) hl (star_cons hx _)) rfl).imp fun D σ H h => ?_
  obtain ⟨ρ, F, er, h0, n, pf⟩ := h
  obtain ⟨p, hp, pf⟩ := Pf.bindN (show Pf (kx X f0) H F D (nE (ev c (frz (gens e) ρ) e) >>= fun x => appSlot (frz (gens e) ρ) i [x] >>= fun ρ' => .ok (.nx ρ')) from pf)
  obtain ⟨ρ', hst, pf⟩ := Pf.bind (appSlot_ne _ _ _) pf
  obtain ⟨F1, er1, s1, u1⟩ := er.frz (gens e) h0
  unfold appSlot at hst
  split at hst
  · rename_i xs e1
    obtain ⟨hg, hst⟩ := gd_ok hst
    have hg := of_decide_eq_true hg
    obtain ⟨w, e2, hd⟩ := er1.held (p := .list xs) (i := i) (get1 e1)
    obtain ⟨a, vs, rfl, q1, q2⟩ := hd.list
    refine ⟨_, e2, .inl ⟨rfl, vs, SqL.of q1⟩, tEs_of er1 n (un1 u1) (evs_one hp) fun ws H1 g1 r1 => ?_⟩
    obtain ⟨v, rfl, rv⟩ := rpAll1 r1
    obtain ⟨w', l, e3, ⟨rfl, hl, ow⟩, k2⟩ := upd_own (p' := .list (xs ++ [p])) (er1.gr g1) s1.sub0 e1
    rw [e2] at e3
    cases e3
    rcases ow with ⟨vs, ds, q1, q2, q3⟩ | ⟨_, _, q1, _⟩
    · cases q1
      refine ⟨a, vs, v, rfl, rfl, q2, szLt (by rw [q3.length]; simp at hg; omega), ?_⟩
      obtain ⟨s2, er2⟩ := k2 (.lst (vs ++ [v])) (fun _ _ z => nomatch z) rfl ⟨rfl, hl, .inl ⟨_, _, rfl, upd_same, by rw [vw_own hl]; exact q3.append (.cons rv .nil)⟩⟩
      cases hst
      exact pf σ _ F1 (s1.trans ((Sv.of_gr g1 er1.dm s1.sub0).trans s2)) er2
    · cases q1
  · cases hst
theorem s_ext {i : Nat} {nm : Str} {p1 apos cpos : Pos} (hn : PE X (.Name nm p1) (tVar i)) (he : SE X f0 c e x) (hx : nstar x = true) (hl : (apos.endLine == cpos.line) = true) : PS X (.Expr (.Call (.Attribute (.Name nm p1) "extend" apos) [x] [] cpos) pos) (tS (kx X f0) c (.ext i e)) := by
  refine (ps_expr (pe_bm PySem.F.plainAttrs_list PySem.F.slot_list_extend PySem.F.type_list_extend mt_extend hn (sa_cons he hx sa_nil).pa (base_of rfl _ _ _) (few_one hx _ _) hl (star_cons hx _)) rfl).imp fun D σ H h => ?_
  obtain ⟨ρ, F, er, h0, n, pf⟩ := h
  obtain ⟨p, hp, pf⟩ := Pf.bindN (show Pf (kx X f0) H F D (nE (ev c (frz (gens e) ρ) e) >>= fun x => listOf x >>= fun l => appSlot (frz (gens e) ρ) i l >>= fun ρ' => .ok (.nx ρ')) from pf)
  obtain ⟨ys, hy, pf⟩ := Pf.bind (listOf_ne _) pf
  obtain ⟨ρ', hst, pf⟩ := Pf.bind (appSlot_ne _ _ _) pf
  obtain ⟨F1, er1, s1, u1⟩ := er.frz (gens e) h0
  cases p with
  | list zs =>
    cases hy
    unfold appSlot at hst
    split at hst
    · rename_i xs e1
      obtain ⟨hg, hst⟩ := gd_ok hst
      have hg := of_decide_eq_true hg
      obtain ⟨w, e2, hd⟩ := er1.held (p := .list xs) (i := i) (get1 e1)
      obtain ⟨a, vs, rfl, q1, q2⟩ := hd.list
      refine ⟨_, e2, .inl ⟨rfl, vs, SqL.of q1⟩, tEs_of er1 n (un1 u1) (evs_one hp) fun ws H1 g1 r1 => ?_⟩
      obtain ⟨v, rfl, rv⟩ := rpAll1 r1
      obtain ⟨b, us, rfl, t1, t2⟩ := rv.list
      obtain ⟨w', l, e3, ⟨rfl, hl, ow⟩, k2⟩ := upd_own (p' := .list (xs ++ ys)) (er1.gr g1) s1.sub0 e1
      rw [e2] at e3
      cases e3
      rcases ow with ⟨vs, ds, q1, q2, q3⟩ | ⟨_, _, q1, _⟩
      · cases q1
        refine ⟨a, b, vs, us, rfl, rfl, q2, t1, szLe (by rw [q3.length, t2.length]; omega), ?_⟩
        obtain ⟨s2, er2⟩ := k2 (.lst (vs ++ us)) (fun _ _ z => nomatch z) rfl ⟨rfl, hl, .inl ⟨_, _, rfl, upd_same, by rw [vw_own hl]; exact q3.append t2⟩⟩
        cases hst
        exact pf σ _ F1 (s1.trans ((Sv.of_gr g1 er1.dm s1.sub0).trans s2)) er2
      · cases q1
    · cases hst
  | _ => cases hy
end
end TD
/-! A dict of lists: what is not noted is put down. -/
namespace TD
open PySem PySem.Spec PyProof.Rows L2
variable [Tb] [Er]
section
variable {X : Cx} {f0 : List Addr} {c : C} {tg x y z : Expr} {a b d e : E} {pos pos' : Pos}
/-! ### a new place -/
theorem same_grow {H : Hp} {F : List Addr} {p : Addr} {o : HO} (n : H p = none) : Same (vw H F) (vw (upd H p o) (p :: F)) := fun b u h => by
  obtain ⟨hb, w, q, i, e⟩ := vw_ex h
  have ne : b ≠ p := fun z => by
    rw [z, n] at q
    cases q
  rw [← e]
  refine vw_of (fun z => ?_) (by rw [upd_ne ne]; exact q) i
  rcases List.mem_cons.mp z with z | z
  · exact ne z
  · exact hb z
theorem DeepKV.grow {H : Hp} {F : List Addr} {p : Addr} {o : HO} (n : H p = none) {kvs : List (Key × V)} {ps : List (PyData × PyData)} {ms : List Addr} (h : DeepKV H F kvs ps ms) : DeepKV (upd H p o) (p :: F) kvs ps ms := by
  induction h with
  | nil => exact .nil
  | cons h1 h2 h3 h4 _ ih => exact .cons (List.mem_cons_of_mem _ h1) (by rw [upd_ne (ne_of_none h2 n)]; exact h2) (h3.mono (same_grow n)) h4 ih
theorem Sl.grow {K : Kx} {H : Hp} {F : List Addr} {p : Addr} {o : HO} {k : Nat} {v : V} {d : PyData} {as : List Addr} (n : H p = none) (h : Sl K H F k v d as) : Sl K (upd H p o) (p :: F) k v d as := by
  match k with
  | 0 => exact ⟨h.1, h.2.mono (same_grow n)⟩
  | 1 =>
    obtain ⟨m, rfl, e, hm, h⟩ := h
    refine ⟨m, rfl, e, List.mem_cons_of_mem _ hm, ?_⟩
    rcases h with ⟨vs, ds, q1, q2, q3⟩ | ⟨vs, ds, q1, q2, q3⟩
    · exact .inl ⟨vs, ds, q1, by rw [upd_ne (ne_of_none q2 n)]; exact q2, q3.mono (same_grow n)⟩
    · exact .inr ⟨vs, ds, q1, by rw [upd_ne (ne_of_none q2 n)]; exact q2, q3.mono (same_grow n)⟩
  | 2 =>
    obtain ⟨m, ms, kvs, ps, rfl, e2, e3, e4, e5, e6, e7⟩ := h
    exact ⟨m, ms, kvs, ps, rfl, e2, List.mem_cons_of_mem _ e3, e4, e5, by rw [upd_ne (ne_of_none e6 n)]; exact e6, e7.grow n⟩
  | 3 =>
    obtain ⟨e, a, ns, e1, e2, h⟩ := h
    refine ⟨e, a, ns, e1, e2, ?_⟩
    rcases h with ⟨ob, h⟩ | h | ⟨na, h⟩
    · exact .inl ⟨ob, by rw [upd_ne (ne_of_none h n)]; exact h⟩
    · exact .inr (.inl h)
    · refine .inr (.inr ⟨fun z => ?_, by rw [upd_ne (ne_of_none h n)]; exact h⟩)
      rcases List.mem_cons.mp z with z | z
      · exact ne_of_none h n z
      · exact na z
  | _ + 4 => exact h.elim
/-- what stands under a key -/
theorem DeepKV.look {H : Hp} {F : List Addr} {kvs : List (Key × V)} {ps : List (PyData × PyData)} {ms : List Addr} (k : Key) (h : DeepKV H F kvs ps ms) : (∃ m vs ds, valV kvs k = some (.ref m) ∧ dGet ps (keyD k) = some (.list ds) ∧ m ∈ ms ∧ m ∈ F ∧ H m = some (.lst vs) ∧ RpAll (vw H F) vs ds) ∨ (valV kvs k = none ∧ dGet ps (keyD k) = none) := by
  induction h with
  | nil => exact .inr ⟨rfl, rfl⟩
  | cons h1 h2 h3 h4 _ ih =>
    rename_i k' m vs ds r ps ms _
    by_cases q : k' = k
    · refine .inl ⟨m, vs, ds, valV_pos q, ?_, List.mem_cons_self, h1, h2, h3⟩
      unfold dGet
      rw [List.find?_cons, keyEq_key, decide_eq_true q]
      rfl
    · have e1 : valV ((k', V.ref m) :: r) k = valV r k := by
        unfold valV
        rw [List.find?_cons, decide_eq_false q]
      have e2 : dGet ((keyD k', PyData.list ds) :: ps) (keyD k) = dGet ps (keyD k) := by
        unfold dGet
        rw [List.find?_cons, keyEq_key, decide_eq_false q]
      rw [e1, e2]
      rcases ih with ⟨m', vs', ds', a1, a2, a3, a4, a5, a6⟩ | ih
      · exact .inl ⟨m', vs', ds', a1, a2, List.mem_cons_of_mem _ a3, a4, a5, a6⟩
      · exact .inr ih
/-- a list of it grows -/
theorem DeepKV.app {H : Hp} {F : List Addr} {kvs : List (Key × V)} {ps : List (PyData × PyData)} {ms : List Addr} {k : Key} {m : Addr} {vs : List V} {ds : List PyData} {v : V} {d : PyData} (h : DeepKV H F kvs ps ms) (e1 : valV kvs k = some (.ref m)) (e2 : H m = some (.lst vs)) (r : RpAll (vw H F) vs ds) (rv : Rp (vw H F) v d) (hm : m ∈ F) : DeepKV (upd H m (.lst (vs ++ [v]))) F kvs (dSet1 ps (keyD k) (.list (ds ++ [d]))) ms := by
  induction h with
  | nil => cases e1
  | cons h1 h2 h3 h4 hr ih =>
    rename_i k' m' vs' ds' r' ps' ms' 
    by_cases q : k' = k
    · have e3 := e1.symm.trans (valV_pos (p := (k', V.ref m')) (r := r') q)
      injection e3 with e3
      injection e3 with e3
      subst e3
      have e4 : dSet1 ((keyD k', PyData.list ds') :: ps') (keyD k) (.list (ds ++ [d])) = (keyD k', .list (ds ++ [d])) :: ps' := by
        unfold dSet1
        rw [if_pos (by rw [keyEq_key]; exact decide_eq_true q)]
      rw [e4]
      exact .cons h1 upd_same (by rw [vw_own hm]; exact r.append (.cons rv .nil)) h4 (hr.put hm h4)
    · have e5 : valV r' k = some (.ref m) := by
        rw [← e1]
        unfold valV
        rw [List.find?_cons, decide_eq_false q]
      have e4 : dSet1 ((keyD k', PyData.list ds') :: ps') (keyD k) (.list (ds ++ [d])) = (keyD k', PyData.list ds') :: dSet1 ps' (keyD k) (.list (ds ++ [d])) := by
        conv => lhs; unfold dSet1
        rw [if_neg (by rw [keyEq_key, decide_eq_false q]; exact Bool.false_ne_true)]
      rw [e4]
      have ne : m' ≠ m := fun z => by
        rcases hr.look k with ⟨m2, _, _, a1, _, a3, _⟩ | ⟨a1, _⟩
        · rw [e5] at a1
          injection a1 with a1
          injection a1 with a1
          rw [z, a1] at h4
          exact h4 a3
        · rw [e5] at a1
          cases a1
      exact .cons h1 (by rw [upd_ne ne]; exact h2) (by rw [vw_own hm]; exact h3) h4 (ih e5)
/-- a list more -/
theorem DeepKV.snoc {H : Hp} {F : List Addr} {kvs : List (Key × V)} {ps : List (PyData × PyData)} {ms : List Addr} {k : Key} {p : Addr} (h : DeepKV H F kvs ps ms) (e1 : valV kvs k = none) (hp : p ∈ F) (e2 : H p = some (.lst [])) (hn : p ∉ ms) : DeepKV H F (kvs ++ [(k, .ref p)]) (dSet1 ps (keyD k) (.list [])) (ms ++ [p]) := by
  induction h with
  | nil => exact .cons hp e2 .nil List.not_mem_nil .nil
  | cons h1 h2 h3 h4 hr ih =>
    rename_i k' m' vs' ds' r' ps' ms'
    have q : k' ≠ k := fun q => by
      rw [valV_pos (p := (k', V.ref m')) (r := r') q] at e1
      cases e1
    have e5 : valV r' k = none := by
      rw [← e1]
      unfold valV
      rw [List.find?_cons, decide_eq_false q]
    have e4 : dSet1 ((keyD k', PyData.list ds') :: ps') (keyD k) (.list []) = (keyD k', PyData.list ds') :: dSet1 ps' (keyD k) (.list []) := by
      conv => lhs; unfold dSet1
      rw [if_neg (by rw [keyEq_key, decide_eq_false q]; exact Bool.false_ne_true)]
    rw [e4]
    rw [List.mem_cons, not_or] at hn
    refine .cons h1 h2 h3 (fun z => ?_) (ih e5 hn.2)
    rcases List.mem_append.mp z with z | z
    · exact h4 z
    · exact hn.1 (List.mem_singleton.mp z).symm
/-- the slots of names that hold nothing hold nothing -/
theorem ER.live {K : Kx} {H : Hp} {F : List Addr} {σ : L2.St} {ρ : Env} (er : ER K H F σ ρ) : ∃ A : Nat → List Addr, (∀ i o d, ρ[i]? = some (some (o, d)) → ∃ v, σ[i]? = some (some v) ∧ Sl K H F o v d (A i)) ∧ (∀ i j, i ≠ j → ∀ a, a ∈ A i → a ∉ A j) ∧ (∀ i a, a ∈ A i → a ∉ K.f0) ∧ ∀ i a, a ∈ A i → a ∈ F := by
  obtain ⟨A, h1, h2, h3⟩ := er.own
  have sub : ∀ i a, a ∈ (match ρ[i]? with | some (some _) => A i | _ => []) → a ∈ A i ∧ ∃ o d, ρ[i]? = some (some (o, d)) := fun i a h => by
    split at h
    · rename_i q e
      exact ⟨h, q.1, q.2, e⟩
    · exact absurd h List.not_mem_nil
  refine ⟨fun i => match ρ[i]? with | some (some _) => A i | _ => [], fun i o d e => ?_, fun i j hij a ha hb => h2 i j hij a (sub i a ha).1 (sub j a hb).1, fun i a ha => h3 i a (sub i a ha).1, fun i a ha => ?_⟩
  · obtain ⟨v, e1, s⟩ := h1 i o d e
    refine ⟨v, e1, ?_⟩
    simp only [e]
    exact s
  · obtain ⟨h, o, d, e⟩ := sub i a ha
    obtain ⟨v, e1, s⟩ := h1 i o d e
    exact s.inF a h
theorem set_same {σ : L2.St} {i : Nat} {v : V} (e : σ[i]? = some (some v)) : σ.set i (some v) = σ := by
  refine List.ext_getElem? fun j => ?_
  by_cases hj : i = j
  · subst hj
    rw [List.getElem?_set_self (List.getElem?_eq_some_iff.mp e).1, e]
  · rw [List.getElem?_set_ne hj]
/-- a dict of lists, held alone: a list more, an item more -/
theorem ER.note {K : Kx} {H : Hp} {F : List Addr} {σ : L2.St} {ρ : Env} (er : ER K H F σ ρ) (h0 : ∀ b ∈ K.f0, b ∈ F) {i : Nat} {ps : List (PyData × PyData)} (e : ρ[i]? = some (some (2, .dict ps))) :
    ∃ l ms kvs, σ[i]? = some (some (.ref l)) ∧ H l = some (.dK kvs) ∧ DeepKV H F kvs ps ms ∧ l ∈ F ∧ l ∉ ms ∧
      (∀ (p : Addr) (k : Key), H p = none → valV kvs k = none → Sv K.f0 H F (upd (upd H p (.lst [])) l (.dK (kvs ++ [(k, .ref p)]))) (p :: F) ∧ ER K (upd (upd H p (.lst [])) l (.dK (kvs ++ [(k, .ref p)]))) (p :: F) σ (ρ.set i (some (2, .dict (dSet1 ps (keyD k) (.list [])))))) ∧
      ∀ (k : Key) (m : Addr) (vs : List V) (ds : List PyData) (v : V) (d : PyData), valV kvs k = some (.ref m) → H m = some (.lst vs) → m ∈ ms → RpAll (vw H F) vs ds → Rp (vw H F) v d →
        Sv K.f0 H F (upd H m (.lst (vs ++ [v]))) F ∧ ER K (upd H m (.lst (vs ++ [v]))) F σ (ρ.set i (some (2, .dict (dSet1 ps (keyD k) (.list (ds ++ [d])))))) := by
  obtain ⟨A, h1, h2, h3, h4⟩ := er.live
  obtain ⟨v, e1, l, ms, kvs, ps', ea, rfl, hl, hlm, ed, hH, dk⟩ := h1 i 2 _ e
  injection ed with ed
  subst ed
  have hi : i < ρ.length := (List.getElem?_eq_some_iff.mp e).1
  have hla : l ∈ A i := by
    rw [ea]
    exact List.mem_cons_self
  refine ⟨l, ms, kvs, e1, hH, dk, hl, hlm, fun p k hp hv => ?_, fun k m vs ds w d hv hm hms r rv => ?_⟩
  · have npF : p ∉ F := er.dm.notin hp
    have nel : l ≠ p := ne_of_none hH hp
    have nep : p ≠ l := Ne.symm nel
    have npm : p ∉ ms := fun z => npF (dk.inF p z)
    have hd1 : ∀ ob u, (upd H p (HO.lst [])) l ≠ some (.frz ob u) := fun ob u z => by
      rw [upd_ne nel, hH] at z
      cases z
    have dm' : Dm (p :: F) (upd (upd H p (.lst [])) l (.dK (kvs ++ [(k, .ref p)]))) := fun a ha => by
      by_cases q : a = l
      · exact ⟨_, by rw [q]; exact upd_same, rfl⟩
      · rw [upd_ne q]
        rcases List.mem_cons.mp ha with rfl | ha
        · exact ⟨_, upd_same, rfl⟩
        · obtain ⟨o, q1, q2⟩ := er.dm a ha
          exact ⟨o, by rw [upd_ne (ne_of_none q1 hp)]; exact q1, q2⟩
    have sv : Sv K.f0 H F (upd (upd H p (.lst [])) l (.dK (kvs ++ [(k, .ref p)]))) (p :: F) := by
      refine ⟨fun b o q i hb => ?_, fun b hb => ?_, fun b hb => List.mem_cons_of_mem _ (h0 b hb), fun a ha => ?_, fun a o u q => ?_, ?_, dm'⟩
      · have n1 : b ≠ l := fun z => hb (by rw [z]; exact hl)
        rw [upd_ne n1, upd_ne (ne_of_none q hp)]
        exact q
      · have n1 : b ≠ l := fun z => h3 i l hla (by rw [← z]; exact hb)
        have n2 : b ≠ p := fun z => npF (by rw [← z]; exact h0 b hb)
        rw [upd_ne n1, upd_ne n2]
      · rcases List.mem_cons.mp ha with rfl | ha
        · exact .inr (Nw.of hp)
        · exact .inl ha
      · have n1 : a ≠ l := fun z => by
          rw [z, hH] at q
          cases q
        rw [upd_ne n1, upd_ne (ne_of_none q hp)]
        exact q
      · refine Nz.put (Nz.put (Nz.refl H) (fun _ _ z => nomatch z) (none_pl hp)) (fun _ _ z => nomatch z) (some_pl (by rw [upd_ne nel]; exact hH) rfl)
    refine ⟨sv, ?_⟩
    have dk2 : DeepKV (upd (upd H p (.lst [])) l (.dK (kvs ++ [(k, .ref p)]))) (p :: F) (kvs ++ [(k, .ref p)]) (dSet1 ps (keyD k) (.list [])) (ms ++ [p]) := by
      refine DeepKV.put (List.mem_cons_of_mem _ hl) (DeepKV.snoc (dk.grow hp) hv List.mem_cons_self upd_same npm) fun z => ?_
      rcases List.mem_append.mp z with z | z
      · exact hlm z
      · exact nel (List.mem_singleton.mp z)
    have er2 := ER.setA (K := K) (H := upd (upd H p (.lst [])) l (.dK (kvs ++ [(k, .ref p)]))) (F := p :: F) (σ := σ) (ρ := ρ) (i := i) (o := 2) (v := .ref l) (d := .dict (dSet1 ps (keyD k) (.list []))) (as := l :: (ms ++ [p])) (A := A) dm' er.len hi (fun j o' d' hj q => by
      obtain ⟨w, q1, q2⟩ := h1 j o' d' q
      exact ⟨w, q1, (q2.grow hp).put (List.mem_cons_of_mem _ hl) hd1 fun z => h2 j i hj l z hla⟩) h2 h3 ⟨l, ms ++ [p], _, _, rfl, rfl, List.mem_cons_of_mem _ hl, fun z => by
        rcases List.mem_append.mp z with z | z
        · exact hlm z
        · exact nel (List.mem_singleton.mp z), rfl, upd_same, dk2⟩ (fun a ha j hj z => by
      rcases List.mem_cons.mp ha with rfl | ha
      · exact h2 j i hj _ z hla
      · rcases List.mem_append.mp ha with ha | ha
        · exact h2 j i hj a z (by rw [ea]; exact List.mem_cons_of_mem _ ha)
        · rw [List.mem_singleton.mp ha] at z
          exact npF (h4 j p z)) fun a ha => by
      rcases List.mem_cons.mp ha with rfl | ha
      · exact h3 i _ hla
      · rcases List.mem_append.mp ha with ha | ha
        · exact h3 i a (by rw [ea]; exact List.mem_cons_of_mem _ ha)
        · rw [List.mem_singleton.mp ha]
          exact fun z => npF (h0 p z)
    rw [set_same e1] at er2
    exact er2
  · have hmF : m ∈ F := dk.inF m hms
    have hma : m ∈ A i := by
      rw [ea]
      exact List.mem_cons_of_mem _ hms
    have hz : ∀ ob u, H m ≠ some (.frz ob u) := fun ob u z => by
      rw [hm] at z
      cases z
    have nml : l ≠ m := fun z => hlm (by rw [z]; exact hms)
    have sv : Sv K.f0 H F (upd H m (.lst (vs ++ [w]))) F := Sv.put er.dm h0 hmF (h3 i m hma) hz (some_pl hm rfl) (fun _ _ z => nomatch z) rfl
    refine ⟨sv, ?_⟩
    have er2 := ER.setA (K := K) (H := upd H m (.lst (vs ++ [w]))) (F := F) (σ := σ) (ρ := ρ) (i := i) (o := 2) (v := .ref l) (d := .dict (dSet1 ps (keyD k) (.list (ds ++ [d])))) (as := l :: ms) (A := A) sv.dm er.len hi (fun j o' d' hj q => by
      obtain ⟨w', q1, q2⟩ := h1 j o' d' q
      exact ⟨w', q1, q2.put hmF hz fun z => h2 j i hj m z hma⟩) h2 h3 ⟨l, ms, _, _, rfl, rfl, hl, hlm, rfl, by rw [upd_ne nml]; exact hH, dk.app hv hm r rv hmF⟩ (fun a ha j hj z => h2 j i hj a z (by rw [ea]; exact ha)) fun a ha => h3 i a (by rw [ea]; exact ha)
    rw [set_same e1] at er2
    exact er2
/-- an empty dict that is held alone -/
theorem ER.deep0 {K : Kx} {H : Hp} {F : List Addr} {σ : L2.St} {ρ : Env} (er : ER K H F σ ρ) {i : Nat} (e : ρ[i]? = some (some (1, .dict []))) : ER K H F σ (ρ.set i (some (2, .dict []))) := by
  obtain ⟨A, h1, h2, h3, h4⟩ := er.live
  obtain ⟨v, e1, l, ea, rfl, hl, hh⟩ := h1 i 1 _ e
  have hi : i < ρ.length := (List.getElem?_eq_some_iff.mp e).1
  rcases hh with ⟨_, _, q, _⟩ | ⟨kvs, ps, q, hH, r⟩
  · cases q
  · injection q with q
    subst q
    cases r
    have er2 := ER.setA (K := K) (H := H) (F := F) (σ := σ) (ρ := ρ) (i := i) (o := 2) (v := .ref l) (d := .dict []) (as := [l]) (A := A) er.dm er.len hi (fun j o' d' hj q => h1 j o' d' q) h2 h3 ⟨l, [], [], [], rfl, rfl, hl, List.not_mem_nil, rfl, hH, .nil⟩ (fun a ha j hj z => h2 j i hj a z (by rw [ea]; exact ha)) fun a ha => h3 i a (by rw [ea]; exact ha)
    rw [set_same e1] at er2
    exact er2
end
end TD
namespace TD
open PySem PySem.Spec PyProof.Rows L2
variable [Tb] [Er]
section
variable {X : Cx} {f0 : List Addr} {c : C}
theorem noteSlot_ne (ρ : Env) (b : Nat) (k x : PyData) (j : Nat) : noteSlot ρ b k x ≠ .err j := by
  unfold noteSlot gd
  intro h
  split at h
  · cases hc : (keyOk k && _ && dOk 8 x && _) <;> rw [hc] at h
    · cases h
    · simp only [cond_true] at h
      split at h
      · rename_i xs _
        cases hd : (decide (xs.length < 1000000) && xs.all (dOk 8)) <;> rw [hd] at h <;> cases h
      · cases h
  · cases h
omit [Tb] [Er] in
theorem dOk_upD : ∀ (n : Nat) (d : PyData), dOk n d = true → dOk (n + 1) d = true
  | n, .none, _ => by cases n <;> rfl
  | n, .bool _, _ => by cases n <;> rfl
  | n, .int _, _ => by cases n <;> rfl
  | n, .str _, _ => by cases n <;> rfl
  | 0, .list _, h => by simp [dOk] at h
  | 0, .tuple _, h => by simp [dOk] at h
  | 0, .dict _, h => by simp [dOk] at h
  | _ + 1, .dict _, h => by simp [dOk] at h
  | n + 1, .list xs, h => by
    have h : xs.all (dOk n) = true := h
    show xs.all (dOk (n + 1)) = true
    exact List.all_eq_true.mpr fun x hx => dOk_upD n x (List.all_eq_true.mp h x hx)
  | n + 1, .tuple xs, h => by
    have h : xs.all (dOk n) = true := h
    show xs.all (dOk (n + 1)) = true
    exact List.all_eq_true.mpr fun x hx => dOk_upD n x (List.all_eq_true.mp h x hx)
omit [Tb] [Er] in
theorem dOk_up9 {d : PyData} (h : dOk 8 d = true) : dOk 9 d = true := dOk_upD 8 d h
omit [Tb] [Er] in
theorem dSet_dSet : ∀ (ps : List (PyData × PyData)) (k v w : PyData), (∀ p ∈ ps, keyEq p.1 k = false) → keyEq k k = true → dSet1 (dSet1 ps k v) k w = dSet1 ps k w
  | [], k, v, w, _, hk => by
    show dSet1 [(k, v)] k w = [(k, w)]
    unfold dSet1
    rw [if_pos hk]
  | p :: r, k, v, w, h, hk => by
    have hp := h p List.mem_cons_self
    have e : ∀ u, dSet1 (p :: r) k u = p :: dSet1 r k u := fun u => by
      conv => lhs; unfold dSet1
      rw [if_neg (by rw [hp]; exact Bool.false_ne_true)]
    rw [e, e]
    conv => lhs; unfold dSet1
    rw [if_neg (by rw [hp]; exact Bool.false_ne_true), dSet_dSet r k v w (fun q hq => h q (List.mem_cons_of_mem _ hq)) hk]
omit [Tb] [Er] in
theorem dGet_no {ps : List (PyData × PyData)} {k : PyData} (h : dGet ps k = none) : ∀ p ∈ ps, keyEq p.1 k = false := by
  unfold dGet at h
  rw [Option.map_eq_none_iff, List.find?_eq_none] at h
  intro p hp
  have := h p hp
  simpa using this
omit [Tb] [Er] in
theorem dSet_same : ∀ {ps : List (PyData × PyData)} {k v : PyData}, dGet ps k = some v → dSet1 ps k v = ps
  | [], _, _, h => by cases h
  | p :: r, k, v, h => by
    unfold dSet1
    unfold dGet at h
    rw [List.find?_cons] at h
    cases q : keyEq p.1 k with
    | true =>
      rw [q] at h
      have e : p.2 = v := Option.some.inj h
      rw [if_pos rfl, ← e]
    | false =>
      rw [q] at h
      rw [if_neg Bool.false_ne_true, dSet_same (show dGet r k = some v from h)]
end
end TD
namespace TD
open PySem PySem.Spec PyProof.Rows L2
variable [Tb] [Er]
section
variable {X : Cx} {f0 : List Addr} {c : C}
theorem s_note {ib ik ix : Nat} {nb nk nx : Str} {p1 p2 p3 p4 p5 p6 p7 p8 p9 p10 pos ap cp ap2 cp2 : Pos} (hu : X.A.units + 70 < cLine) (hb : ∀ p, PE X (.Name nb p) (tVar ib)) (hk : ∀ p, PE X (.Name nk p) (tVar ik)) (hx : ∀ p, PE X (.Name nx p) (tVar ix)) (hl1 : (ap.endLine == cp.line) = true) (hl2 : (ap2.endLine == cp2.line) = true) :
    PS X (.If (.Compare (.Name nx p1) [.NotIn] [.Call (.Attribute (.Name nb p2) "setdefault" ap) [.Name nk p3, .List [] p4] [] cp] p5) [.Expr (.Call (.Attribute (.Subscript (.Name nb p6) (.Name nk p7) p8) "append" ap2) [.Name nx p9] [] cp2) p10] [] pos) (tS (kx X f0) c (.note ib (.var ik) (.var ix))) := by
  have m2 : M2 X (.Name nb p2) "setdefault" ap (.Name nk p3) (.List [] p4) cp := ⟨rfl, rfl, hl1, rfl⟩
  have t1 := pt_cmpR (X := X) (pos := p5) (d_notinn (W := W0) hu) (hx p1) (pe_dsetd (hb p2) (hk p3) (pe_lst (pos := p4) pa_nil) m2) rfl
  have b1 : PE X (.Call (.Attribute (.Subscript (.Name nb p6) (.Name nk p7) p8) "append" ap2) [.Name nx p9] [] cp2) (tBM X.K "list" rAppend (tDGet (tVar ib) (tVar ik)) (tCons (tVar ix) tNil)) :=
    pe_bm PySem.F.plainAttrs_list PySem.F.slot_list_append PySem.F.type_list_append mt_append (pe_dget (by omega) (hb p6) (hk p7) (fun _ _ => rfl)) (pa_cons (hx p9) pa_nil) rfl rfl hl2
  refine (ps_if t1 (pss_one (ps_expr b1 rfl)) pss_nil).imp fun D σ H h => ?_
  obtain ⟨ρ, F, er, h0, n, pf⟩ := h
  obtain ⟨dx, hdx, pf1⟩ := Pf.bindN (show Pf (kx X f0) H F D (nE (ev c (frz ([ik] ++ [ix]) ρ) (.var ix)) >>= fun y => nE (ev c (frz ([ik] ++ [ix]) ρ) (.var ik)) >>= fun z => noteSlot (frz ([ik] ++ [ix]) ρ) ib z y >>= fun ρ' => .ok (.nx ρ')) from pf)
  obtain ⟨dk, hdk, pf2⟩ := Pf.bindN pf1
  obtain ⟨ρ', hst, pf3⟩ := Pf.bind (noteSlot_ne _ _ _ _) pf2
  obtain ⟨F1, er1, s1, u1⟩ := er.frz ([ik] ++ [ix]) h0
  generalize frz ([ik] ++ [ix]) ρ = ρ1 at *
  obtain ⟨vx, ex1, rx⟩ := er1.var hdx u1.r
  obtain ⟨vk, ek1, rk⟩ := er1.var hdk u1.l
  unfold noteSlot at hst
  split at hst
  case h_2 => cases hst
  rename_i o kvs e1
  obtain ⟨hg, hst⟩ := gd_ok hst
  rw [Bool.and_eq_true, Bool.and_eq_true, Bool.and_eq_true] at hg
  obtain ⟨⟨⟨hg1, hg2⟩, hg3⟩, hg4⟩ := hg
  have hg2 := of_decide_eq_true hg2
  obtain ⟨kk, rfl⟩ := key_of_ok hg1
  have hkv := rk.key
  subst hkv
  have hi : ib < ρ1.length := (List.getElem?_eq_some_iff.mp e1).1
  -- the slot is one of lists held alone
  have er2 : ER (kx X f0) H F1 σ (ρ1.set ib (some (2, .dict kvs))) := by
    rw [Bool.or_eq_true, Bool.and_eq_true] at hg4
    rcases hg4 with q | ⟨q, q2⟩
    · have q : o = 2 := by simpa using q
      subst q
      have : ρ1.set ib (some (2, .dict kvs)) = ρ1 := by
        refine List.ext_getElem? fun j => ?_
        by_cases hj : ib = j
        · subst hj
          rw [List.getElem?_set_self hi, e1]
        · rw [List.getElem?_set_ne hj]
      rw [this]
      exact er1
    · have q : o = 1 := by simpa using q
      subst q
      cases kvs with
      | nil => exact er1.deep0 e1
      | cons _ _ => cases q2
  have e2 : (ρ1.set ib (some (2, .dict kvs)))[ib]? = some (some (2, .dict kvs)) := List.getElem?_set_self hi
  obtain ⟨l, ms, kvsH, el, hH, dk, hl, hlm, stepN, stepA⟩ := er2.note s1.sub0 e2
  have ss : ∀ d, (ρ1.set ib (some (2, PyData.dict kvs))).set ib (some (2, d)) = ρ1.set ib (some (2, d)) := fun d => List.set_set ..
  have hln : kvsH.length < sizeLine := by
    have : kvsH.length = kvs.length := by
      have : ∀ {ks : List (Key × V)} {qs : List (PyData × PyData)} {ns : List Addr}, DeepKV H F1 ks qs ns → ks.length = qs.length := by
        intro ks qs ns h
        induction h with
        | nil => rfl
        | cons _ _ _ _ _ ih => rw [List.length_cons, List.length_cons, ih]
      exact this dk
    rw [this]
    have := sizeLine_eq
    omega
  refine ⟨vx, ex1, .ref l, el, l, rfl, .inl ⟨kvsH, .inl hH⟩, kV kk, ek1, Nat.zero_le _, fun p hp => ?_⟩
  have nlp : l ≠ p := ne_of_none hH hp
  refine ⟨kvsH, kk, by rw [upd_ne nlp]; exact hH, rfl, hln, fun v0 hv0 => ?_, fun hv0 => ?_⟩
  · -- it is there
    have g : Gr H (upd H p (.lst [])) := Gr.laid hp fun _ _ z => nomatch z
    have er3 := er2.gr g
    obtain ⟨l', ms', kvs', el', hH', dk', hl', hlm', _, stepA'⟩ := er3.note s1.sub0 e2
    rw [el] at el'
    injection el' with el'
    injection el' with el'
    injection el' with el'
    subst el'
    rw [upd_ne nlp, hH] at hH'
    injection hH' with hH'
    injection hH' with hH'
    subst hH'
    rcases dk'.look kk with ⟨m, vs, ds, a1, a2, a3, a4, a5, a6⟩ | ⟨a1, _⟩
    · rw [hv0] at a1
      injection a1 with a1
      subst a1
      have hds : (dGet kvs (keyD kk)).getD (.list []) = .list ds := by rw [a2]; rfl
      rw [hds] at hst
      obtain ⟨hg5, hst⟩ := gd_ok hst
      rw [Bool.and_eq_true] at hg5
      have hg6 := of_decide_eq_true hg5.1
      have rm : Rp (vw (upd H p (.lst [])) []) (.ref m) (.list ds) := .lst (vw_of List.not_mem_nil a5) (a6.mono (vw_sub fun a ha => absurd ha List.not_mem_nil))
      refine ⟨dx, .list ds, F1, [], rx.gr g, rm, !(ds.any fun z => PyData.eqv z dx), ?_, _, rfl, ?_⟩
      · show notR (gd (dOk 9 dx && ds.all (dOk 8)) (.ok (ds.any fun z => PyData.eqv z dx))) = _
        rw [(show dOk 9 dx = true from dOk_up9 hg3), hg5.2]
        rfl
      · cases hq : ds.any fun z => PyData.eqv z dx with
        | true =>
          rw [hq] at hst
          rw [if_neg (by simp)]
          have hst : ρ1.set ib (some (2, .dict (dSet1 kvs (keyD kk) (.list ds)))) = ρ' := R.ok.inj hst
          rw [dSet_same a2] at hst
          subst hst
          exact pf3 σ _ F1 (s1.trans (Sv.of_gr g er1.dm s1.sub0)) er3
        | false =>
          rw [hq] at hst
          rw [if_pos (by simp)]
          have hst : ρ1.set ib (some (2, .dict (dSet1 kvs (keyD kk) (.list (ds ++ [dx]))))) = ρ' := R.ok.inj hst
          obtain ⟨s4, er4⟩ := stepA' kk m vs ds vx dx hv0 a5 a3 a6 (rx.gr g)
          rw [ss] at er4
          refine ⟨.ref l, el, kV kk, ek1, l, .ref m, rfl, .inl ⟨kvsH, kk, .inl (by rw [upd_ne nlp]; exact hH), rfl, hv0.symm⟩, .inl ⟨rfl, vs, SqL.of a5⟩, vx, ex1, m, vs, vx, rfl, rfl, a5, ?_, ?_⟩
          · rw [a6.length]
            have := sizeLine_eq
            omega
          · rw [hst] at er4
            exact pf3 σ _ F1 (s1.trans ((Sv.of_gr g er1.dm s1.sub0).trans s4)) er4
    · rw [hv0] at a1
      cases a1
  · -- it is not
    have hput : putK kvsH kk (.ref p) = kvsH ++ [(kk, .ref p)] := by
      unfold putK
      rw [if_neg]
      intro z
      obtain ⟨q, hq, hz⟩ := List.any_eq_true.mp z
      unfold valV at hv0
      rw [Option.map_eq_none_iff, List.find?_eq_none] at hv0
      exact hv0 q hq hz
    rw [hput]
    obtain ⟨s3, er3⟩ := stepN p kk hp hv0
    rw [ss] at er3
    have hdn : dGet kvs (keyD kk) = none := by
      rcases dk.look kk with ⟨_, _, _, a1, _⟩ | ⟨_, a1⟩
      · rw [hv0] at a1
        cases a1
      · exact a1
    rw [hdn] at hst
    obtain ⟨hg5, hst⟩ := gd_ok hst
    have hst : ρ1.set ib (some (2, .dict (dSet1 kvs (keyD kk) (.list [dx])))) = ρ' := R.ok.inj hst
    have e3 : (ρ1.set ib (some (2, .dict (dSet1 kvs (keyD kk) (.list [])))))[ib]? = some (some (2, .dict (dSet1 kvs (keyD kk) (.list [])))) := List.getElem?_set_self hi
    have npF : p ∉ F1 := er1.dm.notin hp
    have hH3 : (upd (upd H p (HO.lst [])) l (.dK (kvsH ++ [(kk, .ref p)]))) p = some (.lst []) := by rw [upd_ne (Ne.symm nlp)]; exact upd_same
    have rx3 : Rp (vw (upd (upd H p (.lst [])) l (.dK (kvsH ++ [(kk, .ref p)]))) (p :: F1)) vx dx := by
      rw [vw_own (List.mem_cons_of_mem _ hl)]
      exact rx.mono (same_grow hp)
    obtain ⟨l', ms', kvs', el', hH', dk', hl', hlm', _, stepA'⟩ := er3.note s3.sub0 e3
    rw [el] at el'
    injection el' with el'
    injection el' with el'
    injection el' with el'
    subst el'
    rw [upd_same] at hH'
    injection hH' with hH'
    injection hH' with hH'
    subst hH'
    have hval : valV (kvsH ++ [(kk, V.ref p)]) kk = some (.ref p) := by
      unfold valV at hv0 ⊢
      rw [Option.map_eq_none_iff] at hv0
      rw [List.find?_append, hv0]
      simp
    have hpm : p ∈ ms' := by
      rcases dk'.look kk with ⟨m, _, _, a1, _, a3, _⟩ | ⟨a1, _⟩
      · rw [hval] at a1
        injection a1 with a1
        injection a1 with a1
        rw [a1]
        exact a3
      · rw [hval] at a1
        cases a1
    have rp : Rp (vw (upd (upd H p (.lst [])) l (.dK (kvsH ++ [(kk, .ref p)]))) []) (.ref p) (.list []) := .lst (vw_of List.not_mem_nil hH3) .nil
    refine ⟨dx, .list [], p :: F1, [], rx3, rp, true, ?_, _, rfl, ?_⟩
    · show notR (gd (dOk 9 dx && true) (.ok false)) = _
      rw [(show dOk 9 dx = true from dOk_up9 hg3)]
      rfl
    · dsimp only
      rw [if_pos rfl]
      obtain ⟨s4, er4⟩ := stepA' kk p [] [] vx dx hval hH3 hpm .nil rx3
      refine ⟨.ref l, el, kV kk, ek1, l, .ref p, rfl, .inl ⟨_, kk, .inl upd_same, rfl, hval.symm⟩, .inl ⟨rfl, [], SqL.of hH3⟩, vx, ex1, p, [], vx, rfl, rfl, hH3, ?_, ?_⟩
      · have := sizeLine_eq
        show 0 < _
        omega
      · have e5 : ((ρ1.set ib (some (2, .dict (dSet1 kvs (keyD kk) (.list []))))).set ib (some (2, .dict (dSet1 (dSet1 kvs (keyD kk) (.list [])) (keyD kk) (.list ([] ++ [dx])))))) = ρ' := by
          rw [List.set_set, dSet_dSet kvs (keyD kk) _ _ (dGet_no hdn) (by rw [keyEq_key]; exact decide_eq_true rfl), ← hst]
          rfl
        rw [e5] at er4
        exact pf3 σ _ _ (s1.trans (s3.trans s4)) er4
end
end TD
/-! Targets; names of a tuple or list; comprehensions as values and stored. -/
namespace TD
open PySem PySem.Spec PyProof.Rows L2
variable [Tb] [Er]
section
variable {X : Cx} {f0 : List Addr} {c : C} {tg x y z : Expr} {a b d e : E} {pos pos' : Pos}
/-! ### targets -/
structure NmAt (X : Cx) (i : Nat) (nm : Str) : Prop where
  at' : X.N[i]? = some nm
  loc : Loc X.env.scope nm
  fl : X.fn nm = true ∨ X.env.scope.names.lookup nm = some .local
def NmsAt (X : Cx) : List Nat → List Expr → Prop
  | [], [] => True
  | i :: is, .Name nm _ :: es => NmAt X i nm ∧ NmsAt X is es
  | _, _ => False
theorem sg_names (hN : X.N.Nodup) : ∀ {is : List Nat} {es : List Expr}, NmsAt X is es → PGs X es (gNames is) ∧ (assignEach es X.env).length = is.length ∧ (assignEach es X.env).findIdx? (·.1) = none
  | [], [], _ => ⟨pgs_nil, rfl, rfl⟩
  | i :: is, .Name nm p :: es, h => by
    obtain ⟨h1, h2, h3⟩ := sg_names hN h.2
    refine ⟨pgs_cons (pg_name hN h.1.at' h.1.loc h.1.fl) h1, ?_, ?_⟩
    · show (assignEach es X.env).length + 1 = _
      rw [h2]
      rfl
    · show List.findIdx? (·.1) ((false, assign (.Name nm p) X.env) :: assignEach es X.env) = none
      rw [List.findIdx?_cons]
      simpa using h3
  | [], _ :: _, h => h.elim
  | _ :: _, [], h => h.elim
  | _ :: _, .BoolOp .. :: _, h => h.elim
  | _ :: _, .NamedExpr .. :: _, h => h.elim
  | _ :: _, .BinOp .. :: _, h => h.elim
  | _ :: _, .UnaryOp .. :: _, h => h.elim
  | _ :: _, .Lambda .. :: _, h => h.elim
  | _ :: _, .IfExp .. :: _, h => h.elim
  | _ :: _, .Dict .. :: _, h => h.elim
  | _ :: _, .Set .. :: _, h => h.elim
  | _ :: _, .ListComp .. :: _, h => h.elim
  | _ :: _, .SetComp .. :: _, h => h.elim
  | _ :: _, .DictComp .. :: _, h => h.elim
  | _ :: _, .GeneratorExp .. :: _, h => h.elim
  | _ :: _, .Await .. :: _, h => h.elim
  | _ :: _, .Yield .. :: _, h => h.elim
  | _ :: _, .YieldFrom .. :: _, h => h.elim
  | _ :: _, .Compare .. :: _, h => h.elim
  | _ :: _, .Call .. :: _, h => h.elim
  | _ :: _, .FormattedValue .. :: _, h => h.elim
  | _ :: _, .JoinedStr .. :: _, h => h.elim
  | _ :: _, .Constant .. :: _, h => h.elim
  | _ :: _, .Attribute .. :: _, h => h.elim
  | _ :: _, .Subscript .. :: _, h => h.elim
  | _ :: _, .Starred .. :: _, h => h.elim
  | _ :: _, .List .. :: _, h => h.elim
  | _ :: _, .Tuple .. :: _, h => h.elim
  | _ :: _, .Slice .. :: _, h => h.elim
def TgAt (X : Cx) : T → Expr → Prop
  | .nm i, .Name nm _ => NmAt X i nm
  | .tp is, .Tuple es _ _ => NmsAt X is es
  | _, _ => False
theorem sg_of (hN : X.N.Nodup) (hc : X.calm = true) {t : T} (h : TgAt X t tg) : PG X tg (gT X.K t) := by
  cases t with
  | nm i =>
    cases tg <;> first
      | exact pg_name hN h.at' h.loc h.fl
      | exact h.elim
  | tp is =>
    cases tg <;> first
      | (obtain ⟨h1, h2, h3⟩ := sg_names hN h; exact pg_tup hc h1 h2 h3)
      | exact h.elim
/-! ### a, b = .. -/
theorem sole_tup {es : List Expr} {k : Nat} {p : Pos} (v : Expr) (l : Nat) (env : PySem.Env) : swapsWithSole [.Tuple es k p] v l env = pure false := by
  cases v <;> rfl
theorem s_asgT {is : List Nat} {es : List Expr} {k : Nat} {p : Pos} (hN : X.N.Nodup) (hc : X.calm = true) (h : NmsAt X is es) (he : PE X x (tT (kx X f0) c e)) (hw : swappedStores [.Tuple es k p] x X.env = pure none) : PS X (.Assign [.Tuple es k p] x pos) (tS (kx X f0) c (.asg (.tp is) e)) := by
  obtain ⟨h1, h2, h3⟩ := sg_names hN h
  refine (PS.or (ps_asg (pos := pos) he (pg_tup hc h1 h2 h3) (sole_tup _ _ _) hw) (ps_asg (pos := pos) he (pg_unl hc h1 h2 h3) (sole_tup _ _ _) hw)).imp fun D σ H h => ?_
  obtain ⟨ρ, F, er, h0, n, pf⟩ := h
  obtain ⟨F1, er1, s1, u1⟩ := er.frz (gens e) h0
  have pf : Pf (kx X f0) H F1 D (evT c (frz (gens e) ρ) e >>= fun d => bindA is d (frz (gens e) ρ) >>= fun ρ' => .ok (.nx ρ')) := Pf.sv pf s1
  by_cases hl : ∃ ds, evT c (frz (gens e) ρ) e = .ok (.list ds)
  · obtain ⟨ds, hl⟩ := hl
    refine .inr (tT_of er1 s1.sub0 n u1 pf fun d hd pf v H1 g1 r1 => ?_)
    rw [hl] at hd
    cases hd
    obtain ⟨ρ', hput, pf2⟩ := Pf.bind (bindA_ne _ _ _) pf
    obtain ⟨a, xs, rfl, ha, ra⟩ := r1.list
    obtain ⟨q1, q2⟩ := putAll_er (er1.gr g1) ra hput
    exact ⟨a, xs, rfl, SqL.of ha, q1, gNames_of q1 (pf2 _ H1 F1 (Sv.of_gr g1 er1.dm s1.sub0) q2)⟩
  · refine .inl (tT_of er1 s1.sub0 n u1 pf fun d hd pf v H1 g1 r1 => ?_)
    obtain ⟨ρ', hput, pf2⟩ := Pf.bind (bindA_ne _ _ _) pf
    cases d with
    | tuple ds =>
      refine gT_of (t := .tp is) (er1.gr g1) r1 hput fun σ' er2 _ => ?_
      exact pf2 σ' H1 F1 (Sv.of_gr g1 er1.dm s1.sub0) er2
    | list ds => exact absurd ⟨ds, hd⟩ hl
    | _ => cases hput
theorem s_par {i j : Nat} {n1 n2 : Str} {px py pt pt2 : Pos} {kt k2 : Nat} (hc : X.calm = true) (hN : X.N.Nodup) (hi : X.N[i]? = some n1) (hj : X.N[j]? = some n2) (hij : i ≠ j)
    (hx : X.env.scope.names.lookup n1 = some .local) (hy : X.env.scope.names.lookup n2 = some .local) (ha : SE X f0 c a x) (hb : SE X f0 c b y) (sx : nstar x = true) (sy : nstar y = true)
    (hw : swappedStores [.Tuple [.Name n1 px, .Name n2 py] kt pt] (.Tuple [x, y] k2 pt2) X.env = pure (some [n1, n2])) :
    PS X (.Assign [.Tuple [.Name n1 px, .Name n2 py] kt pt] (.Tuple [x, y] k2 pt2) pos) (tS (kx X f0) c (.par i j a b)) := by
  refine (ps_par hc hN hi hj hij hx hy (sa_cons ha sx (sa_cons hb sy sa_nil)).pa hw (sole_tup _ _ _)).imp fun D σ H h => ?_
  obtain ⟨ρ, F, er, h0, n, pf⟩ := h
  obtain ⟨p, hp, pf⟩ := Pf.bindN (show Pf (kx X f0) H F D (nE (ev c (frz (gens a ++ gens b) ρ) a) >>= fun x => nE (ev c (frz (gens a ++ gens b) ρ) b) >>= fun y => Env.put (frz (gens a ++ gens b) ρ) i 0 x >>= fun ρ1 => Env.put ρ1 j 0 y >>= fun ρ2 => .ok (.nx ρ2)) from pf)
  obtain ⟨q, hq, pf⟩ := Pf.bindN pf
  obtain ⟨ρ1, hp1, pf⟩ := Pf.bind (put_ne _ _ _ _) pf
  obtain ⟨ρ2, hp2, pf⟩ := Pf.bind (put_ne _ _ _ _) pf
  obtain ⟨F1, er1, s1, u1⟩ := er.frz (gens a ++ gens b) h0
  obtain ⟨l1, rfl⟩ := put_ok hp1
  obtain ⟨l2, rfl⟩ := put_ok hp2
  refine tEs_of er1 n (un2 u1) (evs_two hp hq) fun vs H1 g1 r1 => ?_
  obtain ⟨v, w, rfl, rv, rw'⟩ := rpAll2 r1
  exact ⟨v, w, rfl, pf _ H1 F1 (s1.trans (Sv.of_gr g1 er1.dm s1.sub0)) (((er1.gr g1).set0 l1 rv).set0 l2 rw')⟩
/-! ### comprehensions -/
structure SC (X : Cx) (f0 : List Addr) (c : C) (tg : Expr) (it : I) (t : T) (iter : Expr) (scope : Scope) (own : List (Str × Nat)) : Prop where
  calm : X.calm = true
  nd : X.N.Nodup
  it : SI X f0 c tg it iter
  ok : BlkOk X.N X.env.scope scope own
  tg : Blk X scope fun Y => PG Y tg (gT X.K t)
  sl : own.map (·.2) = t.slots
theorem s_cmp0 {elt iter : Expr} {it : I} {t : T} {scope : Scope} {own : List (Str × Nat)} (h : SC X f0 c tg it t iter scope own) (he : Blk X scope fun Y => SE Y f0 c a elt) (he' : Blk X scope fun Y => SE Y f0 c.lock a elt) :
    PE X (.ListComp elt [⟨tg, iter, [], 0⟩] scope pos) (tF (kx X f0) c (.cmp0 a t it)) := by
  refine (pe_lcD (te := tE (kx X f0) c a) (te' := tE (kx X f0) c.lock a) (tt := tYes) (tt' := tYes) h.calm h.nd h.it h.ok h.tg (fun _ _ _ _ _ => pts_nil) (fun _ _ _ _ _ => pts_nil) (fun s H C cl fp => (he s H C cl fp).pe) (fun s H C cl fp => (he' s H C cl fp).pe)).imp fun σ H Q q => ?_
  rw [h.sl]
  exact key_cmp0 q
theorem s_cmp1 {elt iter tst : Expr} {it : I} {t : T} {scope : Scope} {own : List (Str × Nat)} (h : SC X f0 c tg it t iter scope own) (he : Blk X scope fun Y => SE Y f0 c a elt) (he' : Blk X scope fun Y => SE Y f0 c.lock a elt) (hb : Blk X scope fun Y => SE Y f0 c b tst) (hb' : Blk X scope fun Y => SE Y f0 c.lock b tst) :
    PE X (.ListComp elt [⟨tg, iter, [tst], 0⟩] scope pos) (tF (kx X f0) c (.cmp1 a t it b)) := by
  refine (pe_lcD (te := tE (kx X f0) c a) (te' := tE (kx X f0) c.lock a) (tt := tB (tE (kx X f0) c b)) (tt' := tB (tE (kx X f0) c.lock b)) h.calm h.nd h.it h.ok h.tg (fun s H C cl fp => pts_one (hb s H C cl fp).pt) (fun s H C cl fp => pts_one (hb' s H C cl fp).pt) (fun s H C cl fp => (he s H C cl fp).pe) (fun s H C cl fp => (he' s H C cl fp).pe)).imp fun σ H Q q => ?_
  rw [h.sl]
  exact key_cmp1 q
/-! ### name = [..] -/
theorem ps_setD {i : Nat} {nm : Str} {py spos : Pos} {elt iter : Expr} {ifs : List Expr} {scope : Scope} {own : List (Str × Nat)} {it : I} {g : TG} {tt tt' : TT} {te te' : TE} (hn : NmAt X i nm) (hc : X.calm = true) (hN : X.N.Nodup) (hi : SI X f0 c tg it iter) (ok : BlkOk X.N X.env.scope scope own)
    (hsw : ∃ k, swapsWith (.ListComp elt [⟨tg, iter, ifs, 0⟩] scope pos) (some (.Name nm py)) spos.line X.env = pure k ∧ (k = true → X.env.scope.names.lookup nm = some .local))
    (hg : Blk X scope fun Y => PG Y tg g) (ht : Blk X scope fun Y => PTs Y ifs tt) (ht' : Blk X scope fun Y => PTs Y ifs tt') (he : Blk X scope fun Y => PE Y elt te) (he' : Blk X scope fun Y => PE Y elt te') :
    PS X (.Assign [.Name nm py] (.ListComp elt [⟨tg, iter, ifs, 0⟩] scope pos) spos) (tAsg (tLcD (kx X f0) c it g tt tt' te te' (own.map (·.2))) (gName i)) := by
  obtain ⟨k, hk, hl⟩ := hsw
  cases k with
  | false => exact ps_set hN hn.at' hn.loc (pe_lcD hc hN hi ok hg ht ht' he he') hk hn.fl
  | true =>
    refine ⟨fun pins s σ H D I h => ?_⟩
    rcases h with h | ⟨j, e, h⟩
    · exact (ps_setLc hc hN hn.at' (hl rfl) hk hi.pi ok hg ht he hi.st).run pins s σ H D I h
    · exact (ps_lock (ps_setLc hc hN hn.at' (hl rfl) hk (pi_keys (hi.dic j e)) ok hg ht' he' hi.st)).run pins s σ H D I h
theorem swaps_comp {nm : Str} {py : Pos} {elt : Expr} {gs : List Comprehension} {scope : Scope} {l : Nat} {env : PySem.Env} : ∃ k, swapsWith (.ListComp elt gs scope pos) (some (.Name nm py)) l env = pure k ∧ (k = true → env.scope.names.lookup nm = some .local) := by
  refine ⟨_, rfl, fun h => ?_⟩
  rw [Bool.and_eq_true, Bool.and_eq_true, Bool.and_eq_true] at h
  exact beq_iff_eq.mp h.1.1.2
theorem s_setC0 {i : Nat} {nm : Str} {py spos : Pos} {elt iter : Expr} {it : I} {t : T} {scope : Scope} {own : List (Str × Nat)} (hn : NmAt X i nm) (h : SC X f0 c tg it t iter scope own) (he : Blk X scope fun Y => SE Y f0 c a elt) (he' : Blk X scope fun Y => SE Y f0 c.lock a elt) :
    PS X (.Assign [.Name nm py] (.ListComp elt [⟨tg, iter, [], 0⟩] scope pos) spos) (tS (kx X f0) c (.asg (.nm i) (.cmp0 a t it))) := by
  refine (ps_setD (te := tE (kx X f0) c a) (te' := tE (kx X f0) c.lock a) (tt := tYes) (tt' := tYes) hn h.calm h.nd h.it h.ok swaps_comp h.tg (fun _ _ _ _ _ => pts_nil) (fun _ _ _ _ _ => pts_nil) (fun s H C cl fp => (he s H C cl fp).pe) (fun s H C cl fp => (he' s H C cl fp).pe)).imp fun D σ H q => ?_
  have q := key_setF rfl q
  rw [h.sl]
  exact key_cmp0 q
theorem s_setC1 {i : Nat} {nm : Str} {py spos : Pos} {elt iter tst : Expr} {it : I} {t : T} {scope : Scope} {own : List (Str × Nat)} (hn : NmAt X i nm) (h : SC X f0 c tg it t iter scope own) (he : Blk X scope fun Y => SE Y f0 c a elt) (he' : Blk X scope fun Y => SE Y f0 c.lock a elt) (hb : Blk X scope fun Y => SE Y f0 c b tst) (hb' : Blk X scope fun Y => SE Y f0 c.lock b tst) :
    PS X (.Assign [.Name nm py] (.ListComp elt [⟨tg, iter, [tst], 0⟩] scope pos) spos) (tS (kx X f0) c (.asg (.nm i) (.cmp1 a t it b))) := by
  refine (ps_setD (te := tE (kx X f0) c a) (te' := tE (kx X f0) c.lock a) (tt := tB (tE (kx X f0) c b)) (tt' := tB (tE (kx X f0) c.lock b)) hn h.calm h.nd h.it h.ok swaps_comp h.tg (fun s H C cl fp => pts_one (hb s H C cl fp).pt) (fun s H C cl fp => pts_one (hb' s H C cl fp).pt) (fun s H C cl fp => (he s H C cl fp).pe) (fun s H C cl fp => (he' s H C cl fp).pe)).imp fun D σ H q => ?_
  have q := key_setF rfl q
  rw [h.sl]
  exact key_cmp1 q
end
end TD
/-! Methods of texts. -/
namespace TD
open PySem PySem.Spec PyProof.Rows L2
variable [Tb] [Er]
section
variable {X : Cx} {f0 : List Addr} {c : C} {tg x y z : Expr} {a b d e : E} {pos pos' : Pos} {W : Nat → Hp → Prop}
/-- a method of a text -/
def rM (W : Nat → Hp → Prop) (m : M) : V → List V → Hp → VK → Prop := fun x xs H Q => ∃ s ds F, x = .str s ∧ Dm F H ∧ RpAll (vw H F) xs ds ∧ Pk W H F Q (mtD m (.str s) ds)
theorem RpAll.txts {M : Hp} : ∀ {vs : List V} {ds : List PyData} {ys : List Str}, RpAll M vs ds → txtsOf ds = some ys → vs = ys.map V.str
  | _, _, _, .nil, e => by
    cases e
    rfl
  | _, _, ys, .cons (d := d) (ds := ds) r a, e => by
    cases d with
    | str i =>
      rw [txtsOf] at e
      cases q : txtsOf ds with
      | none =>
        rw [q] at e
        cases e
      | some l =>
        rw [q] at e
        cases e
        cases r
        rw [a.txts q]
        rfl
    | _ => cases e
theorem RpAll.strL {M : Hp} : ∀ (ys : List Str), RpAll M (ys.map V.str) (ys.map PyData.str)
  | [] => .nil
  | y :: ys => .cons (.str y) (RpAll.strL ys)
theorem m_join (hc : X.calm = true) : MtR X "str.join" (rM W .join) := by
  intro pins s σ H x xs v us Q I rx rs h
  obtain ⟨a, ds, F, rfl, dm, ra, pk⟩ := h
  match ds, ra, pk with
  | [.str z], ra, pk =>
    obtain ⟨w, rfl, rw'⟩ := rpAll1 ra
    cases rw'.strV
    obtain ⟨t, rfl⟩ := rx
    obtain ⟨u, rfl, ⟨t', rfl⟩⟩ := rs.one
    obtain ⟨hz, pk⟩ := Pk.gdd pk
    have hz := of_decide_eq_true hz
    refine PySem.SC.joinStr (I.ok.hd hc) (PyProof.Rows.joinOk_of ?_) fun h' k t' hk => ⟨.str _, H, I.kept (t' := k) hk, ⟨t', rfl⟩, ?_⟩
    · rw [PyProof.Rows.signs_sumLen, PyProof.Rows.signs_length]
      exact Nat.le_trans hz (by decide)
    · show Q (.str (Builtin.Str.glued a (PyProof.Rows.signs z))) H
      rw [StrLaws.glued_eq_join]
      exact Pk.here pk (.str _)
  | [.list ds], ra, pk =>
    obtain ⟨w, rfl, rw'⟩ := rpAll1 ra
    obtain ⟨p, vs, rfl, h1, h2⟩ := rw'.list
    have pk : Pk W H F Q (op (txtsOf ds) >>= fun ls => gd (decide ((ls.map (·.length)).sum + ls.length * a.length ≤ SZ)) (.ok (.str (Str.join a ls)))) := pk
    cases q : txtsOf ds with
    | none =>
      rw [q] at pk
      exact pk.elim
    | some ys =>
      rw [q] at pk
      obtain ⟨hz, pk⟩ := Pk.gdd (show Pk W H F Q (gd (decide ((ys.map (·.length)).sum + ys.length * a.length ≤ SZ)) (.ok (.str (Str.join a ys)))) from pk)
      have hz := of_decide_eq_true hz
      have e := h2.txts q
      subst e
      refine mt_join pins s σ H _ _ v us Q I rx rs ⟨a, p, ys, rfl, rfl, .inl (SqL.of h1), Nat.le_trans hz (by decide), ?_⟩
      show Q (.str (Builtin.Str.glued a ys)) H
      rw [StrLaws.glued_eq_join]
      exact Pk.here pk (.str _)
  | [.tuple ds], ra, pk =>
    obtain ⟨w, rfl, rw'⟩ := rpAll1 ra
    obtain ⟨p, vs, rfl, h1, h2⟩ := rw'.tuple
    have pk : Pk W H F Q (op (txtsOf ds) >>= fun ls => gd (decide ((ls.map (·.length)).sum + ls.length * a.length ≤ SZ)) (.ok (.str (Str.join a ls)))) := pk
    cases q : txtsOf ds with
    | none =>
      rw [q] at pk
      exact pk.elim
    | some ys =>
      rw [q] at pk
      obtain ⟨hz, pk⟩ := Pk.gdd (show Pk W H F Q (gd (decide ((ys.map (·.length)).sum + ys.length * a.length ≤ SZ)) (.ok (.str (Str.join a ys)))) from pk)
      have hz := of_decide_eq_true hz
      have e := h2.txts q
      subst e
      refine mt_join pins s σ H _ _ v us Q I rx rs ⟨a, p, ys, rfl, rfl, .inr h1.sq, Nat.le_trans hz (by decide), ?_⟩
      show Q (.str (Builtin.Str.glued a ys)) H
      rw [StrLaws.glued_eq_join]
      exact Pk.here pk (.str _)
  | [], _, pk => exact pk.elim
  | [.none], _, pk => exact pk.elim
  | [.bool _], _, pk => exact pk.elim
  | [.int _], _, pk => exact pk.elim
  | [.dict _], _, pk => exact pk.elim
  | d1 :: d2 :: dr, _, pk => cases d1 <;> exact pk.elim
theorem m_count : MtR X "str.count" (rM W .count) := by
  intro pins s σ H x xs v us Q I rx rs h
  obtain ⟨a, ds, F, rfl, dm, ra, pk⟩ := h
  match ds, ra, pk with
  | [.str z], ra, pk =>
    obtain ⟨w, rfl, rw'⟩ := rpAll1 ra
    cases rw'.strV
    exact mt_count pins s σ H _ _ v us Q I rx rs ⟨a, z, rfl, rfl, Pk.here pk (.int _)⟩
  | [], _, pk => exact pk.elim
  | [.none], _, pk => exact pk.elim
  | [.bool _], _, pk => exact pk.elim
  | [.int _], _, pk => exact pk.elim
  | [.list _], _, pk => exact pk.elim
  | [.tuple _], _, pk => exact pk.elim
  | [.dict _], _, pk => exact pk.elim
  | d1 :: d2 :: dr, _, pk => cases d1 <;> exact pk.elim
theorem m_endswith : MtR X "str.endswith" (rM W .endswith) := by
  intro pins s σ H x xs v us Q I rx rs h
  obtain ⟨a, ds, F, rfl, dm, ra, pk⟩ := h
  match ds, ra, pk with
  | [.str z], ra, pk =>
    obtain ⟨w, rfl, rw'⟩ := rpAll1 ra
    cases rw'.strV
    exact mt_endswith pins s σ H _ _ v us Q I rx rs ⟨a, z, rfl, rfl, Pk.here pk (.bl _)⟩
  | [], _, pk => exact pk.elim
  | [.none], _, pk => exact pk.elim
  | [.bool _], _, pk => exact pk.elim
  | [.int _], _, pk => exact pk.elim
  | [.list _], _, pk => exact pk.elim
  | [.tuple _], _, pk => exact pk.elim
  | [.dict _], _, pk => exact pk.elim
  | d1 :: d2 :: dr, _, pk => cases d1 <;> exact pk.elim
theorem m_split : MtR X "str.split" (rM W .split) := by
  intro pins s σ H x xs v us Q I rx rs h
  obtain ⟨a, ds, F, rfl, dm, ra, pk⟩ := h
  match ds, ra, pk with
  | [.str z], ra, pk =>
    obtain ⟨w, rfl, rw'⟩ := rpAll1 ra
    cases rw'.strV
    obtain ⟨hz, pk⟩ := Pk.gdd pk
    obtain ⟨h1, h2⟩ := of_decide_eq_true hz
    refine mt_split pins s σ H _ _ v us Q I rx rs ⟨a, z, rfl, rfl, by simpa using h1, szLe h2, fun p np => ?_⟩
    obtain ⟨g, rn⟩ := Rp.newL dm np (RpAll.strL (Txt.split a z))
    exact pk _ _ g rn
  | [], _, pk => exact pk.elim
  | [.none], _, pk => exact pk.elim
  | [.bool _], _, pk => exact pk.elim
  | [.int _], _, pk => exact pk.elim
  | [.list _], _, pk => exact pk.elim
  | [.tuple _], _, pk => exact pk.elim
  | [.dict _], _, pk => exact pk.elim
  | d1 :: d2 :: dr, _, pk => cases d1 <;> exact pk.elim
theorem m_rstrip : MtR X "str.rstrip" (rM W .rstrip) := by
  intro pins s σ H x xs v us Q I rx rs h
  obtain ⟨a, ds, F, rfl, dm, ra, pk⟩ := h
  match ds, ra, pk with
  | [.str z], ra, pk =>
    obtain ⟨w, rfl, rw'⟩ := rpAll1 ra
    cases rw'.strV
    obtain ⟨hz, pk⟩ := Pk.gdd pk
    have h1 := of_decide_eq_true hz
    exact mt_rstripChars pins s σ H _ _ v us Q I rx rs ⟨a, z, rfl, rfl, szLe h1, Pk.here pk (.str _)⟩
  | [], _, pk => exact pk.elim
  | [.none], _, pk => exact pk.elim
  | [.bool _], _, pk => exact pk.elim
  | [.int _], _, pk => exact pk.elim
  | [.list _], _, pk => exact pk.elim
  | [.tuple _], _, pk => exact pk.elim
  | [.dict _], _, pk => exact pk.elim
  | d1 :: d2 :: dr, _, pk => cases d1 <;> exact pk.elim
/-- the expression: a text's method, of one argument -/
theorem mt_text {m : M} (hm : m = .join ∨ m = .split ∨ m = .rstrip ∨ m = .endswith ∨ m = .count) {p : PyData} {ds : List PyData} (h : ∀ s, p ≠ .str s) : mtD m p ds = .bad := by
  rcases hm with rfl | rfl | rfl | rfl | rfl <;> (cases p <;> first | rfl | exact absurd rfl (h _))
theorem s_mt {m : M} {nm : Str} {r : V → List V → Hp → VK → Prop} {apos cpos : Pos} (hm : m = .join ∨ m = .split ∨ m = .rstrip ∨ m = .endswith ∨ m = .count) (hp : PE X (.Call (.Attribute x nm apos) [y] [] cpos) (tBM X.K "str" (rM W0 m) (tE (kx X f0) c a) (tEs (kx X f0) c (.cons b .nil)))) :
    SE X f0 c (.mt m a (.cons b .nil)) (.Call (.Attribute x nm apos) [y] [] cpos) := by
  refine SE.of (hp.imp fun σ H Q h => ?_) rfl
  obtain ⟨ρ, F, er, n, u, pk⟩ := h
  have u : Un0 (gens a ++ gensL (.cons b .nil)) ρ := by
    rcases hm with rfl | rfl | rfl | rfl | rfl <;> exact u
  obtain ⟨p, hp, pk⟩ := Pk.bind (show Pk W0 H F Q (ev c ρ a >>= fun x => evs c ρ (.cons b .nil) >>= mtD m x) from pk)
  obtain ⟨ds, hds, pk⟩ := Pk.bind pk
  by_cases hs : ∃ s, p = .str s
  · obtain ⟨s, rfl⟩ := hs
    refine tE_of er n u.l hp fun v H1 g1 r1 => ?_
    cases r1.strV
    refine ⟨rfl, tEs_of (er.gr g1) (nl_gr n g1) u.r hds fun vs H2 g2 r2 => ?_⟩
    exact ⟨s, ds, F, rfl, er.dm.gr (g1.trans g2).same, r2, pk.gr (g1.trans g2)⟩
  · rw [mt_text hm fun s z => hs ⟨s, z⟩] at pk
    exact pk.elim
theorem s_join {apos cpos : Pos} (hc : X.calm = true) (ha : SE X f0 c a x) (hb : SE X f0 c b y) (hx : notSup x = true) (hy : nstar y = true) (hl : (apos.endLine == cpos.line) = true) : SE X f0 c (.mt .join a (.cons b .nil)) (.Call (.Attribute x "join" apos) [y] [] cpos) :=
  s_mt (r := rM W0 .join) (.inl rfl) (pe_bm PySem.F.plainAttrs_str PySem.F.slot_str_join PySem.F.type_str_join (m_join hc) ha.pe (sa_cons hb hy sa_nil).pa (base_of hx _ _ _) (few_one hy _ _) hl (star_cons hy _))
theorem s_split {apos cpos : Pos} (ha : SE X f0 c a x) (hb : SE X f0 c b y) (hx : notSup x = true) (hy : nstar y = true) (hl : (apos.endLine == cpos.line) = true) : SE X f0 c (.mt .split a (.cons b .nil)) (.Call (.Attribute x "split" apos) [y] [] cpos) :=
  s_mt (r := rM W0 .split) (.inr (.inl rfl)) (pe_bm PySem.F.plainAttrs_str PySem.F.slot_str_split PySem.F.type_str_split m_split ha.pe (sa_cons hb hy sa_nil).pa (base_of hx _ _ _) (few_one hy _ _) hl (star_cons hy _))
theorem s_rstrip {apos cpos : Pos} (ha : SE X f0 c a x) (hb : SE X f0 c b y) (hx : notSup x = true) (hy : nstar y = true) (hl : (apos.endLine == cpos.line) = true) : SE X f0 c (.mt .rstrip a (.cons b .nil)) (.Call (.Attribute x "rstrip" apos) [y] [] cpos) :=
  s_mt (r := rM W0 .rstrip) (.inr (.inr (.inl rfl))) (pe_bm PySem.F.plainAttrs_str PySem.F.slot_str_rstrip PySem.F.type_str_rstrip m_rstrip ha.pe (sa_cons hb hy sa_nil).pa (base_of hx _ _ _) (few_one hy _ _) hl (star_cons hy _))
theorem s_endswith {apos cpos : Pos} (ha : SE X f0 c a x) (hb : SE X f0 c b y) (hx : notSup x = true) (hy : nstar y = true) (hl : (apos.endLine == cpos.line) = true) : SE X f0 c (.mt .endswith a (.cons b .nil)) (.Call (.Attribute x "endswith" apos) [y] [] cpos) :=
  s_mt (r := rM W0 .endswith) (.inr (.inr (.inr (.inl rfl)))) (pe_bm PySem.F.plainAttrs_str PySem.F.slot_str_endswith PySem.F.type_str_endswith m_endswith ha.pe (sa_cons hb hy sa_nil).pa (base_of hx _ _ _) (few_one hy _ _) hl (star_cons hy _))
theorem s_count {apos cpos : Pos} (ha : SE X f0 c a x) (hb : SE X f0 c b y) (hx : notSup x = true) (hy : nstar y = true) (hl : (apos.endLine == cpos.line) = true) : SE X f0 c (.mt .count a (.cons b .nil)) (.Call (.Attribute x "count" apos) [y] [] cpos) :=
  s_mt (r := rM W0 .count) (.inr (.inr (.inr (.inr rfl)))) (pe_bm PySem.F.plainAttrs_str PySem.F.slot_str_count PySem.F.type_str_count m_count ha.pe (sa_cons hb hy sa_nil).pa (base_of hx _ _ _) (few_one hy _ _) hl (star_cons hy _))
end
end TD
/-! list.index. -/
namespace TD
open PySem PySem.Spec PyProof.Rows L2
variable [Tb] [Er]
section
variable {X : Cx} {f0 : List Addr} {c : C} {tg x y z : Expr} {a b d e : E} {pos pos' : Pos}
omit [Tb] [Er] in
theorem ints_eq : ∀ {ds : List PyData} {ns : List Int}, intsOf ds = some ns → ds = ns.map PyData.int
  | [], ns, h => by
    cases Option.some.inj h
    rfl
  | .int i :: r, ns, h => by
    cases q : intsOf r with
    | none =>
      rw [intsOf, q] at h
      cases h
    | some ms =>
      rw [intsOf, q] at h
      have e : i :: ms = ns := Option.some.inj h
      rw [← e, ints_eq q]
      rfl
  | .none :: r, ns, h => by simp [intsOf] at h
  | .bool _ :: r, ns, h => by simp [intsOf] at h
  | .str _ :: r, ns, h => by simp [intsOf] at h
  | .list _ :: r, ns, h => by simp [intsOf] at h
  | .tuple _ :: r, ns, h => by simp [intsOf] at h
  | .dict _ :: r, ns, h => by simp [intsOf] at h
omit [Tb] [Er] in
theorem plain_ints : ∀ ns : List Int, PyData.plainAll (ns.map PyData.int) = true
  | [] => rfl
  | i :: r => by
    show (PyData.plain (.int i) && PyData.plainAll (r.map PyData.int)) = true
    rw [plain_ints r]
    rfl
theorem s_index {apos cpos : Pos} (hu : X.A.units + 65 < cLine) (ha : SE X f0 c a x) (hb : SE X f0 c b y) (hx : notSup x = true) (hy : nstar y = true) (hl : (apos.endLine == cpos.line) = true) : SE X f0 c (.mt .index a (.cons b .nil)) (.Call (.Attribute x "index" apos) [y] [] cpos) := by
  refine SE.of ((pe_bm PySem.F.plainAttrs_list PySem.F.slot_list_index PySem.F.type_list_index (mt_indexD hu) ha.pe (sa_cons hb hy sa_nil).pa (base_of hx _ _ _) (few_one hy _ _) hl (star_cons hy _)).imp fun σ H Q h => ?_) rfl
  obtain ⟨ρ, F, er, n, u, pk⟩ := h
  have u : Un0 (gens a ++ gensL (.cons b .nil)) ρ := u
  obtain ⟨p, hp, pk⟩ := Pk.bind (show Pk W0 H F Q (ev c ρ a >>= fun x => evs c ρ (.cons b .nil) >>= mtD .index x) from pk)
  obtain ⟨ds, hds, pk⟩ := Pk.bind pk
  match p, ds, pk, hp, hds with
  | .list es, [.int k], pk, hp, hds =>
    obtain ⟨ns, hns, pk2⟩ := Pk.bind (show Pk W0 H F Q (op (intsOf es) >>= fun ns => op ((ns.findIdx? fun z => z == k).map fun i => PyData.int (i : Nat))) from pk)
    have hes := ints_eq (op_ok hns)
    subst hes
    obtain ⟨z, e0, pq⟩ := Pk.opp pk2
    obtain ⟨j, hj, rfl⟩ := Option.map_eq_some_iff.mp e0
    obtain ⟨h1, h2, h3⟩ := List.findIdx?_eq_some_iff_getElem.mp hj
    have hz : ns[j] = k := by simpa using h2
    refine tE_of er n u.l hp fun v H1 g1 r1 => ?_
    obtain ⟨aa, vs, rfl, q1, q2⟩ := r1.list
    refine ⟨.inl ⟨rfl, vs, SqL.of q1⟩, tEs_of (er.gr g1) (nl_gr n g1) u.r hds fun ws H2 g2 r2 => ?_⟩
    obtain ⟨w, rfl, rw'⟩ := rpAll1 r2
    cases rw'.intV
    refine ⟨aa, .int k, .int k, ns.map PyData.int, j, .int k, rfl, rfl, (r1.gr g2).dp (by simpa [PyData.plain] using plain_ints ns), .int k, PySem.W.shaped_ints ns, rfl, ?_, ?_, fun m z' hm hz' => ?_, (pq.gr (g1.trans g2)).here (.int _)⟩
    · rw [List.getElem?_map, List.getElem?_eq_getElem h1, hz]
      rfl
    · exact beq_self_eq_true k
    · have hml : m < ns.length := by omega
      rw [List.getElem?_map, List.getElem?_eq_getElem hml] at hz'
      have e := Option.some.inj (show some (PyData.int ns[m]) = some z' from hz')
      subst e
      have := h3 m hm
      show (ns[m] == k) = false
      simpa using this
  | .list es, [], pk, _, _ => exact pk.elim
  | .list es, .none :: _, pk, _, _ => exact pk.elim
  | .list es, .bool _ :: _, pk, _, _ => exact pk.elim
  | .list es, .str _ :: _, pk, _, _ => exact pk.elim
  | .list es, .list _ :: _, pk, _, _ => exact pk.elim
  | .list es, .tuple _ :: _, pk, _, _ => exact pk.elim
  | .list es, .dict _ :: _, pk, _, _ => exact pk.elim
  | .list es, .int _ :: _ :: _, pk, _, _ => exact pk.elim
  | .none, ds, pk, _, _ => cases ds <;> exact pk.elim
  | .bool _, ds, pk, _, _ => cases ds <;> exact pk.elim
  | .int _, ds, pk, _, _ => cases ds <;> exact pk.elim
  | .str _, ds, pk, _, _ => cases ds <;> exact pk.elim
  | .tuple _, ds, pk, _, _ => cases ds <;> exact pk.elim
  | .dict _, ds, pk, _, _ => cases ds <;> exact pk.elim
end
end TD
/-! dict.get with what is to be told else. -/
namespace TD
open PySem PySem.Spec PyProof.Rows L2
variable [Tb] [Er]
section
variable {X : Cx} {f0 : List Addr} {c : C} {tg x y z : Expr} {a b d e : E} {pos pos' : Pos}
theorem few_two {x y : Expr} (hx : nstar x = true) (hy : nstar y = true) (env : PySem.Env) (cpos : Pos) : ((backTo cpos (starEach [x, y] env)).all (fun x => !x.1) && (backToKw cpos (keywordEach [] env)).all (fun x => x.1.isSome) && decide ([x, y].length + ([] : List Keyword).length + (if ([] : List Keyword).isEmpty then 0 else 1) < 30)) = true := by
  rw [star_cons hx, star_cons hy]
  rfl
theorem evs_inv {ρ : Env} {es : Es} {ds : List PyData} (h : evs c ρ (.cons b es) = .ok ds) : ∃ p ps, ev c ρ b = .ok p ∧ evs c ρ es = .ok ps ∧ ds = p :: ps := by
  have h : (ev c ρ b >>= fun x => evs c ρ es >>= fun xs => R.ok (x :: xs)) = .ok ds := h
  cases h1 : ev c ρ b with
  | ok p =>
    rw [h1] at h
    have h : (evs c ρ es >>= fun xs => R.ok (p :: xs)) = .ok ds := h
    cases h2 : evs c ρ es with
    | ok ps =>
      rw [h2] at h
      cases h
      exact ⟨p, ps, rfl, rfl, rfl⟩
    | err k =>
      rw [h2] at h
      cases h
    | bad =>
      rw [h2] at h
      cases h
  | err k =>
    rw [h1] at h
    cases h
  | bad =>
    rw [h1] at h
    cases h
theorem d_dget2 {H : Hp} {F : List Addr} {x y z : V} {ps : List (PyData × PyData)} {e g : PyData} {Q : VK} (hd : Hd H F x (.dict ps)) (re : Rp (vw H F) y e) (rz : Rp (vw H F) z g) (pk : Pk W0 H F Q (mtD .get (.dict ps) [e, g])) (aa : Addr) (hx : x = .ref aa) :
    ∃ o, DGet H aa y o ∧ Q (o.getD z) H := by
  obtain ⟨a, kvs, h1, ha, ra⟩ := hd.dict
  rw [hx] at h1
  cases h1
  obtain ⟨hk, pk1⟩ := Pk.gdd (show Pk W0 H F Q (gd (keyOk e) (.ok ((dGet ps e).getD g))) from pk)
  obtain ⟨k, rfl⟩ := key_of_ok hk
  cases re.key
  refine ⟨valV kvs k, dget_of (F := F) k ha, ?_⟩
  rcases ra.look k with ⟨v', d', e1, e2, r⟩ | ⟨e1, e2⟩
  · rw [e2] at pk1
    rw [e1]
    exact pk1.here r
  · rw [e2] at pk1
    rw [e1]
    exact pk1.here rz
theorem s_getV {i : Nat} {nm : Str} {p1 apos cpos : Pos} (hu : X.A.units + 1 < cLine) (ha : PE X (.Name nm p1) (tVar i)) (hb : SE X f0 c b y) (hd : SE X f0 c d z) (hy : nstar y = true) (hz : nstar z = true) (hl : (apos.endLine == cpos.line) = true) : SE X f0 c (.mt .get (.var i) (.cons b (.cons d .nil))) (.Call (.Attribute (.Name nm p1) "get" apos) [y, z] [] cpos) := by
  have m : M2 X (.Name nm p1) "get" apos y z cpos := ⟨base_of rfl _ _ _, few_two hy hz _ _, hl, by rw [star_cons hy, star_cons hz]; rfl⟩
  refine SE.of ((pe_dget2 hu ha hb.pe hd.pe m).imp fun σ H Q h => ?_) rfl
  obtain ⟨ρ, F, er, n, u, pk⟩ := h
  have u : Un0 ([] ++ (gens b ++ (gens d ++ []))) ρ := u
  rw [List.nil_append, List.append_nil] at u
  obtain ⟨p, hp, pk⟩ := Pk.bind (show Pk W0 H F Q (Env.get ρ i >>= fun x => evs c ρ (.cons b (.cons d .nil)) >>= mtD .get x) from pk)
  obtain ⟨ds, hds, pk⟩ := Pk.bind pk
  obtain ⟨q, qs, hq, hqs, rfl⟩ := evs_inv hds
  obtain ⟨r, rs, hr, hrs, rfl⟩ := evs_inv hqs
  cases hrs
  obtain ⟨v, e1, hd0⟩ := er.held hp
  cases p with
  | dict ps =>
    obtain ⟨aa, kvs, e2, h1, h2⟩ := (er.heldAt hp e1).dict
    refine ⟨v, e1, aa, e2, .inl ⟨kvs, h1⟩, tE_of er n u.l hq fun w H1 g1 r1 => tE_of (er.gr g1) (nl_gr n g1) u.r hr fun w2 H2 g2 r2 => ?_⟩
    exact d_dget2 ((er.gr (g1.trans g2)).heldAt hp e1) (r1.gr g2) r2 (pk.gr (g1.trans g2)) aa e2
  | _ => exact pk.elim
end
end TD
/-! a tuple, a text, the other way round. -/
namespace TD
open PySem PySem.Spec PyProof.Rows L2
section
variable {prog : Program} {w : World} {A : Around} {E : Value → Shared → Prop} {s : Shared}
theorem back_adjust (n : Nat) : Builtin.Slice.sliceAdjust none none (-1) (n : Int) = ((n : Int) - 1, -1) := rfl
theorem back_places (n : Nat) : Builtin.Slice.slicePlaces ((n : Int) - 1) (-1) (-1) = n := by
  unfold Builtin.Slice.slicePlaces
  rw [if_neg (by decide), show (- -1 : Int) = 1 by decide, Int.ediv_one]
  split <;> omega
theorem back_applied {sl : Addr} {vl vu vs : Value} {n : Nat} {Q : Int × Int × Nat → Shared → Prop} (hs : s.heap.IsSliceOf sl vl vu vs) (pl : IsPart vl none) (pu : IsPart vu none) (ps : IsPart vs (some (-1))) (h : Q ((n : Int) - 1, -1, n) s) : wpAny (model prog w) A (Builtin.Slice.sliceApplied (.ref sl) (pure (n : Int))) Q E s := by
  obtain ⟨ob, g1, g2, g3⟩ := id hs
  unfold Builtin.Slice.sliceApplied Builtin.Slice.sliceFields
  refine wpAny_bind (wpAny_bind (wpAny_field g1 g3 (x := vl) rfl (wpAny_bind (wpAny_field g1 g3 (x := vu) rfl (wpAny_bind (wpAny_field g1 g3 (x := vs) rfl (wpAny_pure ?_)))))))
  refine wpAny_bind (HT.slicePart_ ps ?_)
  show wpAny _ _ (if ((-1 : Int) == 0) = true then _ else _) _ _ s
  rw [if_neg (show ¬ (((-1 : Int) == 0) = true) by decide)]
  refine wpAny_bind (HT.slicePart_ pl (wpAny_bind (HT.slicePart_ pu (wpAny_bind (wpAny_pure ?_)))))
  show wpAny _ _ (match Builtin.Slice.sliceAdjust none none (-1) (n : Int) with | (lo, hi) => pure (lo, (-1 : Int), Builtin.Slice.slicePlaces lo hi (-1))) _ _ s
  rw [back_adjust n]
  show wpAny _ _ (pure ((n : Int) - 1, (-1 : Int), Builtin.Slice.slicePlaces ((n : Int) - 1) (-1) (-1))) _ _ s
  rw [back_places]
  exact wpAny_pure h
theorem filterMap_same {α β : Type} {f g : α → Option β} : ∀ {l : List α}, (∀ x ∈ l, f x = g x) → l.filterMap f = l.filterMap g
  | [], _ => rfl
  | x :: r, h => by
    rw [List.filterMap_cons, List.filterMap_cons, h x List.mem_cons_self, filterMap_same fun y hy => h y (List.mem_cons_of_mem _ hy)]
theorem back_pick (xs : Array Value) : ((List.range xs.size).filterMap fun (m : Nat) => xs[((xs.size : Int) - 1 + (m : Int) * -1).toNat]?).toArray = xs.toList.reverse.toArray := by
  have e : (List.range xs.size).filterMap (fun (m : Nat) => xs[((xs.size : Int) - 1 + (m : Int) * -1).toNat]?) = ((List.range xs.size).map fun k => xs.size - 1 - k).filterMap (xs[·]?) := by
    rw [List.filterMap_map]
    refine filterMap_same fun m hm => ?_
    have := List.mem_range.mp hm
    show xs[((xs.size : Int) - 1 + (m : Int) * -1).toNat]? = xs[xs.size - 1 - m]?
    rw [show ((xs.size : Int) - 1 + (m : Int) * -1).toNat = xs.size - 1 - m by omega]
  rw [e, PySem.W.krv_range, List.filterMap_reverse, PySem.W.krv_all]
theorem back_tuple {t sl : Addr} {items : Array Value} {vl vu vs : Value} {Q : Value → Shared → Prop} (ht : IsTup s.heap t items) (hs : s.heap.IsSliceOf sl vl vu vs) (pl : IsPart vl none) (pu : IsPart vu none) (ps : IsPart vs (some (-1)))
    (h : Q (.ref s.heap.objs.size) { s with heap := s.heap.push { cls := .type "tuple", data := .seq items.toList.reverse.toArray } }) (hz : items.size ≤ sizeLine) : wpAny (model prog w) A (getItem (.ref t) (.ref sl)) Q E s := by
  have hk : sizeOk (.seq items.toList.reverse.toArray) := by
    show items.toList.reverse.toArray.size ≤ sizeLine
    rw [List.size_toArray, List.length_reverse, Array.length_toList]
    exact hz
  obtain ⟨ob, g1, g2, g3⟩ := id hs
  have tS : s.TypeIs (.ref sl) "slice" := ⟨ob, g1, g2⟩
  unfold getItem
  try with_reducible refine wpAny_holding ?_
  first
    | refine wpAny_bind (wpAny_pure ?_)
    | skip
  refine wpAny_bind (wpAny_sequenceKey (ht.typeIs) (by decide) ?_)
  refine wpAny_bind (wpAny_callSpecial?_slot (name := Str.ofString "__getitem__") (ht.typeIs) PyProof.Rows.slot_tuple_getitem
    (wpAny_call_entry PyProof.Rows.slot_tuple_getitem (ht.typeIs) PyProof.Rows.entry_tuple_getitem ?_ (PyProof.Rows.args_tuple_getitem _ _)))
  show wpAny _ _ (Builtin.Tuple.tupleItemsOf (.ref t) >>= fun _ => _) _ _ s
  refine wpAny_bind (PyProof.Rows.tupleItemsOf_ ht (wpAny_bind (wpAny_typeOf tS ?_)))
  rw [if_pos (show _ = _ by decide)]
  refine wpAny_bind (back_applied hs pl pu ps ?_)
  have no : ¬ ((((items.size : Int) - 1 == 0 && (-1 : Int) == 1 && items.size == items.size)) = true) := by
    intro q
    rw [Bool.and_eq_true, Bool.and_eq_true] at q
    exact absurd q.1.2 (by decide)
  show wpAny _ _ (if ((items.size : Int) - 1 == 0 && (-1 : Int) == 1 && items.size == items.size) = true then _ else _) _ _ s
  rw [if_neg no, back_pick]
  first
    | exact wpAny_bind (m := Builtin.Tuple.tupleExact _) (wpAny_newObj_type (wpAny_pure ⟨_, rfl, wpAny_pure h⟩) hk)
    | exact wpAny_bind (m := Builtin.Tuple.tupleExact _) (wpAny_newObj_type (wpAny_bind (wpAny_pure (wpAny_pure ⟨_, rfl, wpAny_pure h⟩))) hk)
    | exact wpAny_bind (wpAny_bind (m := Builtin.Tuple.tupleExact _) (wpAny_newObj_type (wpAny_pure (wpAny_pure ⟨_, rfl, wpAny_pure h⟩)) hk))
    | exact wpAny_bind (wpAny_bind (m := Builtin.Tuple.tupleExact _) (wpAny_newObj_type (wpAny_pure ⟨_, rfl, wpAny_pure h⟩) hk))
end
end TD
namespace TD
open PySem PySem.Spec PyProof.Rows L2
section
variable {prog : Program} {w : World} {A : Around} {E : Value → Shared → Prop} {s : Shared}
theorem back_text (x : Str) (t u : Tok) : sliceMade x t none none (some (-1, u)) = .str ⟨x.cps.toList.reverse.toArray⟩ := by
  unfold sliceMade slicePicked
  rw [if_neg (show ¬ (((((some (-1, u) : Option (Int × Tok)).map (·.1)).getD 1 == 1) && _) = true) by simp)]
  congr 2
  show ((Builtin.Str.strSliceIndices none none (-1) x.length).filterMap (x.cps[·]?)).toArray = _
  have e : Builtin.Str.strSliceIndices none none (-1) x.length = sliceRange ((x.length : Int) - 1) (-1) (-1) := rfl
  rw [e, PySem.W.krv_sliceRange, PySem.W.krv_range, List.filterMap_reverse]
  congr 2
  exact PySem.W.krv_all x.cps
end
variable [Tb] [Er]
section
variable {X : Cx} {f0 : List Addr} {c : C} {tg x y z : Expr} {a b d e : E} {pos pos' : Pos}
/-- a tuple, or a text, the other way round -/
def tRevZ (K : PySem.W.Frag) (te : TE) : TE := fun σ H Q => te σ H fun x H1 => (∃ a xs, x = .ref a ∧ SqT K H1 a xs ∧ NewT H1 xs.reverse Q) ∨ (∃ z : Str, x = .str z ∧ z.length ≤ sizeLine ∧ Q (.str ⟨z.cps.toList.reverse.toArray⟩) H1)
theorem pe_revZ {e : Expr} {te : TE} {k : Nat} {p1 p2 p3 pos : Pos} (he : PE X e te) : PE X (.Subscript e (.Slice none none (some (.UnaryOp .USub (.Constant (.int 1) k p1) p2)) p3) pos) (tRevZ X.K te) := by
  refine ⟨fun pins s σ H Q I h => Subscript_ (thn (he.run pins s σ H _ I h) fun v s1 hh => ?_)⟩
  obtain ⟨xv, H1, I1, r1, q1⟩ := hh
  have hst : PO X (some (.UnaryOp .USub (.Constant (.int 1) k p1) p2)) (tPart (tUn (rU fun i => .int (-i)) (tC (.int 1)))) := po_some (pe_un un_neg pe_int)
  refine wpAny_Slice (thn (po_none.run pins s1 σ H1 (fun o H2 => o = none ∧ H2 = H1) I1 ⟨rfl, rfl⟩) fun vl s2 hh => ?_)
  obtain ⟨l, H2, I2, pl, el, e2⟩ := hh
  subst el e2
  refine thn (po_none.run pins s2 σ H2 (fun o H3 => o = none ∧ H3 = H2) I2 ⟨rfl, rfl⟩) fun vu s3 hh => ?_
  obtain ⟨u, H3, I3, pu, eu, e3⟩ := hh
  subst eu e3
  refine thn (hst.run pins s3 σ H3 (fun o H4 => o = some (-1) ∧ H4 = H3) I3 ⟨1, rfl, -1, rfl, rfl, rfl⟩) fun vs s4 hh => ?_
  obtain ⟨o, H4, I4, ps, eo, e4⟩ := hh
  subst eo e4
  have I5 : Inv X pins σ H4 { s4 with heap := s4.heap.push { cls := .type "slice", data := .fields #[vl, vu, vs] } } := I4.kept (t' := s4.toks) fun b ob q => Heap.get?_push_of_some _ q
  rcases q1 with ⟨a, xs, ex, hx, q⟩ | ⟨z, ex, hzl, q⟩
  · subst ex
    cases r1
    obtain ⟨its, r, ht, hz⟩ := I5.tuple hx
    have hlen := r.length
    show wpAny (model X.prog X.w) X.A (subscriptTail e (.Slice none none (some (.UnaryOp .USub (.Constant (.int 1) k p1) p2)) p3) (.ref a) (.ref s4.heap.objs.size)) (EP X pins σ Q) X.xe _
    refine tail_any (ops := [.ref a, .ref s4.heap.objs.size]) ht.typeIs (PyProof.Rows.slot_tuple_getitem.lookup) ?_ (by with_unfolding_all rfl)
    refine back_tuple ht (Heap.IsSliceOf.new _ vl vu vs) pl pu ps ?_ (by rw [List.size_toArray]; omega)
    exact Inv.newTup (k := s4.toks) I5 r.reverse (by rw [List.length_reverse]; exact hz) q
  · subst ex
    obtain ⟨t, rfl⟩ := r1
    cases pl
    cases pu
    cases ps with
    | int i tk =>
      show wpAny (model X.prog X.w) X.A (subscriptTail e (.Slice none none (some (.UnaryOp .USub (.Constant (.int 1) k p1) p2)) p3) (.str z t) (.ref s4.heap.objs.size)) (EP X pins σ Q) X.xe _
      refine tail_any (ops := [.str z t, .ref s4.heap.objs.size]) (typeIs_str _ z t) (PySem.F.slot_str_getitem.lookup) ?_ (by with_unfolding_all rfl)
      refine wpAny_getItem_str_slice (l := none) (u := none) (st := some (-1, tk)) (Heap.IsSliceOf.new _ _ _ _) rfl ?_
      rw [back_text]
      refine ⟨?_, .str _, H4, I5.tok _, ⟨_, rfl⟩, q⟩
      show (z.cps.toList.reverse.toArray).size ≤ sizeLine
      rw [List.size_toArray, List.length_reverse, Array.length_toList]
      exact hzl
theorem s_rev {k : Nat} {p1 p2 p3 : Pos} (ha : SE X f0 c a x) : SE X f0 c (.rev a) (.Subscript x (.Slice none none (some (.UnaryOp .USub (.Constant (.int 1) k p1) p2)) p3) pos) := by
  refine SE.of ((pe_revZ ha.pe).imp fun σ H Q h => ?_) rfl
  obtain ⟨ρ, F, er, n, u, pk⟩ := h
  obtain ⟨p, hp, pk⟩ := Pk.bind (show Pk W0 H F Q (ev c ρ a >>= fun x => revD x) from pk)
  refine tE_of er n u hp fun v H1 g1 r1 => ?_
  have pk := pk.gr g1
  have dm := er.dm.gr g1.same
  cases p with
  | tuple ds =>
    obtain ⟨a, xs, rfl, h1, h2⟩ := r1.tuple
    refine .inl ⟨a, xs, rfl, h1.sq, fun q o hq ho => ?_⟩
    obtain ⟨g2, r2⟩ := Rp.newT dm hq ho h2.reverse
    exact pk _ _ g2 r2
  | str z =>
    cases r1.strV
    obtain ⟨hz, pk⟩ := Pk.gdd (show Pk W0 H1 F Q (gd (decide ((chs z).length ≤ SZ)) (.ok (tx (chs z).reverse))) from pk)
    refine .inr ⟨z, rfl, ?_, pk.here (.str _)⟩
    have := of_decide_eq_true hz
    exact szLe (by simpa [Str.length] using this)
  | _ => exact pk.elim
end
end TD
/-! enumerate and zip of whatever is walked. -/
namespace PySem
open Sem (wp)
theorem meets_enum_one {v : Value} {o : Obj} {H : Heap → Prop} (B : Begins v o H) :
    Meets (Builtin.«enumerate.__new__» ⟨[.type "enumerate", v], []⟩) (fun _ R s => H s.heap ∧
      R (.ok (.ret (.ref (s.heap.push o).objs.size))) { s with heap := (s.heap.push o).push { cls := .type "enumerate", data := .fields #[.none, .bool false, .ref s.heap.objs.size, rawInt 0, .none, .none] } }) :=
  .of_wp fun prog w A R s h => by
    obtain ⟨hp, g, d, tk, os⟩ := s; obtain ⟨h1, h⟩ := h
    have hsub := sub_enumerate
    have q1 : ∀ {A' : Around} {E : Value → Shared → Prop} {Q : Value → Shared → Prop}, Q (.ref hp.objs.size) ⟨hp.push o, g, d, tk, os⟩ → wpAny (model prog w) A' (pyIter v) Q E ⟨hp, g, d, tk, os⟩ :=
      fun q => B.iter prog w _ _ ⟨hp, g, d, tk, os⟩ _ h1 q
    wp_walk using q1
    refine wpAny_stack_any fun st => wpAny_pure ?_
    split
    · rename_i c _ _ _ _ _
      cases (c == Value.type "enumerate")
      · wp_walk using q1
        exact ⟨_, rfl, h⟩
      · wp_walk using q1
        exact ⟨_, rfl, h⟩
    · wp_walk using q1
      exact ⟨_, rfl, h⟩
theorem enum_one {prog : Program} {w : World} {A : Around} {E : Value → Shared → Prop} {s : Shared} {v : Value} {o : Obj} {H : Heap → Prop} {Q : Value → Shared → Prop} (B : Begins v o H) (h1 : H s.heap)
    (h : ∀ h', IsEnum h' (s.heap.objs.size + 1) s.heap.objs.size 0 .none → h'.get? s.heap.objs.size = some o → h'.objs.size = s.heap.objs.size + 2 →
      (∀ b o, s.heap.get? b = some o → h'.get? b = some o) → Q (.ref (s.heap.objs.size + 1)) { s with heap := h' }) :
    wpAny (model prog w) A (call (.type "enumerate") [v]) Q E s := by
  refine callType_new F.called_enumerate (by decide) (F.typeCall_enumerate_1 _) (F.newCall_enumerate_1 _) (fun obj => F.args_object_init_2 obj _) F.entry_enumerate_new (meets_enum_one B) ⟨h1, ?_⟩
  have hz : (s.heap.push o).objs.size = s.heap.objs.size + 1 := Heap.size_push ..
  show _ ∧ _
  rw [hz]
  have he : IsEnum ((s.heap.push o).push { cls := .type "enumerate", data := .fields #[.none, .bool false, .ref s.heap.objs.size, rawInt 0, .none, .none] }) (s.heap.objs.size + 1) s.heap.objs.size 0 .none := by
    have := Heap.get?_push_size (s.heap.push o) (o := { cls := .type "enumerate", data := .fields #[.none, .bool false, .ref s.heap.objs.size, rawInt 0, .none, .none] }) rfl
    rw [hz] at this; exact this
  refine ⟨⟨_, he, rfl⟩, h _ he (Heap.get?_push_of_some _ (Heap.get?_push_size _ B.free)) (by rw [Heap.size_push, hz]) fun b o x => Heap.get?_push_of_some _ (Heap.get?_push_of_some _ x)⟩
end PySem
namespace TD
open PySem PySem.Spec PyProof.Rows L2
variable [Tb] [Er]
theorem vals_back : ∀ {xs : List V} {us : List Value} {i : Nat} {u : Value}, Vals xs us → us[i]? = some u → ∃ v, RelV v u ∧ xs[i]? = some v
  | _, _, _, _, .nil, e => by simp at e
  | _, _, 0, _, .cons r _, e => by
    simp at e
    subst e
    exact ⟨_, r, rfl⟩
  | _, _, i + 1, u, .cons _ t, e => by
    obtain ⟨v, h1, h2⟩ := vals_back (i := i) (u := u) t (by simpa using e)
    exact ⟨v, h1, by simpa using h2⟩
/-- an iterator at it over a thing that stays as it is -/
structure Src (P : Program) (w : World) (K : PySem.W.Frag) (it : Addr) (bs : List Addr) (n : Nat) (G : Hp → Prop) (Y : Nat → V → Prop) (tn : Nat → Heap → Prop) : Prop where
  obj : ∀ i h, tn i h → ∃ o, h.get? it = some o ∧ ∀ v, o.data ≠ .cell v
  keep : ∀ i h h', tn i h → (∀ o, h.get? it = some o → h'.get? it = some o) → tn i h'
  draws : ∀ (X : Cx), X.K = K → ∀ (pins : List (Addr × Obj)) (σ : L2.St) (H : Hp) (s : Shared), Inv X pins σ H s → G H → ∃ (Pv : Nat → Value → Prop) (St : Nat → Heap → Prop),
    (∀ A : Around, A.handled = none → Draws P w A it (it :: bs) n Pv St) ∧ (∀ i, tn i s.heap → St i s.heap) ∧ (∀ i h', St i h' → tn i h') ∧ ∀ i u, Pv i u → ∃ v, RelV v u ∧ Y i v
section
variable {X : Cx} {P : Program} {w : World} {K : PySem.W.Frag} {it : Addr}
theorem src_list {l : Addr} {xs : List V} (hne : l ≠ it) : Src P w K it [l] xs.length (fun H => SqL K H l xs) (fun i v => xs[i]? = some v) (fun i h => h.IsListIter it l i) where
  obj := fun i h st => let ⟨o, ho, _, hd⟩ := st; ⟨o, ho, fun v q => by rw [hd] at q; cases q⟩
  keep := fun i h h' st k => st.at k
  draws := fun X hK pins σ H s I hq => by
    subst hK
    obtain ⟨its, rv, p, _⟩ := I.list hq
    have hn : its.toArray.size = xs.length := by rw [List.size_toArray, rv.length]
    refine ⟨_, _, fun A hh => hn ▸ Draws.list hh it l hne its.toArray, fun i st => ⟨st, p.isList⟩, fun i h' st => st.1, fun i u hu => ?_⟩
    exact vals_back rv (by simpa using hu)
theorem src_tup {l : Addr} {xs : List V} (hne : l ≠ it) : Src P w K it [l] xs.length (fun H => SqT K H l xs) (fun i v => xs[i]? = some v) (fun i h => h.IsTupleIter it l i) where
  obj := fun i h st => let ⟨o, ho, _, hd⟩ := st; ⟨o, ho, fun v q => by rw [hd] at q; cases q⟩
  keep := fun i h h' st k => st.at k
  draws := fun X hK pins σ H s I hq => by
    subst hK
    obtain ⟨its, rv, p, _⟩ := I.tuple hq
    have hn : its.toArray.size = xs.length := by rw [List.size_toArray, rv.length]
    refine ⟨_, _, fun A hh => hn ▸ Draws.tuple hh it l hne its.toArray, fun i st => ⟨st, p⟩, fun i h' st => st.1, fun i u hu => ?_⟩
    exact vals_back rv (by simpa using hu)
theorem src_str {z : Str} {t : Tok} : Src P w K it [] z.cps.size (fun _ => True) (fun i v => ∃ c, z.cps[i]? = some c ∧ v = .str ⟨#[c]⟩) (fun i h => h.IsStrIter it (strIterType z) z t i) where
  obj := fun i h st => let ⟨o, ho, _, hd⟩ := st; ⟨o, ho, fun v q => by rw [hd] at q; cases q⟩
  keep := fun i h h' st k => let ⟨o, ho, r⟩ := st; ⟨o, k o ho, r⟩
  draws := fun X hK pins σ H s I _ => by
    refine ⟨_, _, fun A hh => Draws.text hh it z t, fun i st => st, fun i h' st => st, fun i u hu => ?_⟩
    obtain ⟨c, u', hc, rfl⟩ := hu
    exact ⟨.str ⟨#[c]⟩, ⟨u', rfl⟩, c, hc, rfl⟩
/-- what may be enumerated, as it stands -/
def SrcV (K : PySem.W.Frag) (x : V) (H : Hp) (n : Nat) (G : Hp → Prop) (Y : Nat → V → Prop) : Prop :=
  (∃ a xs, x = .ref a ∧ SqL K H a xs ∧ n = xs.length ∧ G = (fun H => SqL K H a xs) ∧ Y = fun i v => xs[i]? = some v) ∨
  (∃ a xs, x = .ref a ∧ SqT K H a xs ∧ n = xs.length ∧ G = (fun H => SqT K H a xs) ∧ Y = fun i v => xs[i]? = some v) ∨
  ∃ z, x = .str z ∧ n = z.cps.size ∧ G = (fun _ => True) ∧ Y = fun i v => ∃ c, z.cps[i]? = some c ∧ v = .str ⟨#[c]⟩
theorem src_begin {pins : List (Addr × Obj)} {σ : L2.St} {H : Hp} {s : Shared} {x : V} {u : Value} {n : Nat} {G : Hp → Prop} {Y : Nat → V → Prop} (I : Inv X pins σ H s) (r : RelV x u) (h : SrcV X.K x H n G Y) :
    ∃ (o : Obj) (Hh : Heap → Prop) (bs : List Addr), Begins u o Hh ∧ Hh s.heap ∧ (∀ b ∈ bs, b < s.heap.objs.size) ∧ ∀ it, it ∉ bs → ∃ tn, Src X.prog X.w X.K it bs n G Y tn ∧ ∀ h : Heap, h.get? it = some o → tn 0 h := by
  rcases h with ⟨a, xs, rfl, hq, rfl, rfl, rfl⟩ | ⟨a, xs, rfl, hq, rfl, rfl, rfl⟩ | ⟨z, rfl, rfl, rfl, rfl⟩
  · cases r
    obtain ⟨its, rv, p, _⟩ := I.list hq
    refine ⟨_, _, [a], begins_list a its.toArray, p.isList, fun b hb => ?_, fun it hit => ⟨_, src_list fun z => hit (by rw [z]; simp), fun h e => ⟨_, e, rfl, rfl⟩⟩⟩
    rw [List.mem_singleton.mp hb]
    exact p.lt
  · cases r
    obtain ⟨its, rv, p, _⟩ := I.tuple hq
    refine ⟨_, _, [a], begins_tuple a its.toArray, p, fun b hb => ?_, fun it hit => ⟨_, src_tup fun z => hit (by rw [z]; simp), fun h e => ⟨_, e, rfl, rfl⟩⟩⟩
    rw [List.mem_singleton.mp hb]
    obtain ⟨o, ho, _⟩ := p
    exact Heap.lt_size ho
  · obtain ⟨t, rfl⟩ := r
    exact ⟨_, _, [], begins_text z t, trivial, fun b hb => absurd hb List.not_mem_nil, fun it _ => ⟨_, src_str, fun h e => ⟨_, e, rfl, rfl⟩⟩⟩
/-! ### enumerate -/
def Ites (n : Nat) (G : Hp → Prop) (Y : Nat → V → Prop) : It :=
  ⟨fun i H => i < n ∧ G H, fun i H v H' => ∃ (T : Addr) (o : Obj) (x : V), v = .ref T ∧ H T = none ∧ o.dict = none ∧ H' = upd H T (.frz o (.tup [.int (i : Nat), x])) ∧ Y i x, fun i H => i = n ∧ G H⟩
theorem turn_enumS {elts : List Expr} {kk : Nat} {tpos : Pos} {bs : List Addr} {n : Nat} {G : Hp → Prop} {Y : Nat → V → Prop} {tn : Nat → Heap → Prop} (S : Src P w K it bs n G Y tn) (e : Addr) (hei : e ≠ it) (heb : e ∉ bs) :
    Turn P w K (.Tuple elts kk tpos) (Ites n G Y) [e, it] e (fun i h => (∃ old, IsEnum h e it ((i : Nat) : Int) old) ∧ tn i h) where
  mem := by simp
  obj := fun i h st b hb => by
    obtain ⟨⟨old, he⟩, h2⟩ := st
    have e' : b = e ∨ b = it := by simpa using hb
    rcases e' with z | z
    · rw [z]; exact ⟨_, he, fun v q => nomatch q⟩
    · rw [z]; exact S.obj i h h2
  keep := fun i h h' st k => let ⟨⟨old, he⟩, h2⟩ := st; ⟨⟨old, k e (by simp) _ he⟩, S.keep i h h' h2 fun o q => k it (by simp) o q⟩
  item := by
    intro X hP hw hK hc i pins s σ H E I hf st hg
    subst hP hw
    obtain ⟨⟨old, he⟩, hit⟩ := st
    obtain ⟨hi, hG⟩ := hg
    obtain ⟨Pv, St, D, d1, d2, d3⟩ := S.draws X hK pins σ H s I hG
    have hel : e < s.heap.objs.size := Heap.lt_size he
    have hil : it < s.heap.objs.size := by obtain ⟨_, q, _⟩ := S.obj i _ hit; exact Heap.lt_size q
    have hh : X.A.in1.handled = none := I.ok.hd hc
    refine wpAny_pyNext_enum_itemC (D X.A.in1 hh) he (d1 i hit) hi hei (fun z => by
      rcases List.mem_cons.mp z with z | z
      · exact hei z
      · exact heb z) fun u h' tk hP ho hst hT hsz hk => ?_
    obtain ⟨x, ru, hY⟩ := d3 i u hP
    refine ⟨_, rfl, wpAny_letOwnedTupleGo_enum (s := { s with heap := h', toks := tk + 1 }) ho fun h'' he' sb => ?_⟩
    have hT2 : h''.get? s.heap.objs.size = some { cls := .type "tuple", data := .seq #[.int i tk, u] } := (sb.2 _ (Nat.ne_of_gt hel)).trans hT
    have new : ObjOk X.prog X.w (upd H s.heap.objs.size (.frz { cls := .type "tuple", data := .seq #[.int i tk, u] } (.tup [.int (i : Nat), x]))) h'' s.heap.objs.size (.frz { cls := .type "tuple", data := .seq #[.int i tk, u] } (.tup [.int (i : Nat), x])) :=
      ⟨hT2, by show 2 ≤ sizeLine; decide, [.int i tk, u], .cons ⟨_, rfl⟩ (.cons ru .nil), ⟨_, hT2, rfl, _, rfl⟩⟩
    have I1 : Inv X pins σ (upd H s.heap.objs.size (.frz { cls := .type "tuple", data := .seq #[.int i tk, u] } (.tup [.int (i : Nat), x]))) { s with heap := h'', toks := tk + 1 } :=
      I.turnedNew (ch := [e, it]) (fun b ob hb q => (sb.2 b (fun z => hb (by simp [z]))).trans (hk b ob (fun z => hb (by simp [z])) (fun z => hb (by simp [z])) q)) hf (Nat.le_refl _) new
    refine ⟨.ref s.heap.objs.size, _, I1, rfl, ⟨_, _, x, rfl, I.hok.fresh (Nat.le_refl _), rfl, rfl, hY⟩, ⟨⟨u, ?_⟩, S.keep _ _ _ (d2 _ _ hst) fun o q => (sb.2 it (Ne.symm hei)).trans q⟩, fun b hb => ?_⟩
    · have e1 : ((i + 1 : Nat) : Int) = (i : Int) + 1 := by omega
      rw [e1]; exact he'
    · have hb' : b < s.heap.objs.size := by
        have e' : b = e ∨ b = it := by simpa using hb
        rcases e' with z | z
        · rw [z]; exact hel
        · rw [z]; exact hil
      rw [upd_ne (Nat.ne_of_lt hb')]
      exact (hf b hb).1
  done := by
    intro X hP hw hK hc i pins s σ H E I hf st hg
    subst hP hw
    obtain ⟨⟨old, he⟩, hit⟩ := st
    obtain ⟨rfl, hG⟩ := hg
    obtain ⟨Pv, St, D, d1, d2, d3⟩ := S.draws X hK pins σ H s I hG
    obtain ⟨f0, f1, f2, f3, f4, f5⟩ := hf it (by simp)
    have hh : X.A.in1.handled = none := I.ok.hd hc
    exact wpAny_pyNext_enum_endD (D X.A.in1 hh) he (d1 _ hit) fun h' eb => ⟨rfl, I.turned (t' := s.toks) (fun b o hb q => eb b o hb q) f0 f1 f3 f4 f5⟩
  self := fun A i s Q E st h => let ⟨⟨_, he⟩, _⟩ := st; wpAny_pyIter_enum he h
def iEnS (K : PySem.W.Frag) (ta : TA) : TI := fun σ H R => ta σ H fun vs H1 => ∃ x n G Y, vs = [x] ∧ SrcV K x H1 n G Y ∧ R (Ites n G Y) H1
theorem pi_enS {e : Expr} {ta : TA} {p pos tpos : Pos} {elts : List Expr} {kk : Nat} (hg : Gl X "enumerate") (hm : X.mg "enumerate" = none) (ha : PA X [e] ta) (hs : starEach [e] X.env = [(false, eval e X.env)]) :
    PI X (.Tuple elts kk tpos) (.Call (.Name "enumerate" p) [e] [] pos) (iEnS X.K ta) := by
  refine ⟨fun pins s σ H R I h => ?_⟩
  refine Call_ (ld_blt I hg hm boot_enumerate (PyProof.Rows.callWith_type1 (thn (ha.run pos pins s σ H _ I h) fun us s1 ⟨vs, H1, I1, r1, q1⟩ => ?_) hs rfl))
  obtain ⟨x, n, G, Y, rfl, hv, q⟩ := q1
  cases r1 with
  | cons r rr =>
    cases rr
    obtain ⟨o, Hh, bs, B, h1, hb, k⟩ := src_begin I1 r hv
    have hnb : ∀ j, s1.heap.objs.size + j ∉ bs := fun j z => Nat.lt_irrefl _ (Nat.lt_of_le_of_lt (Nat.le_add_right _ j) (hb _ z))
    obtain ⟨tn, S, t0⟩ := k s1.heap.objs.size (hnb 0)
    refine enum_one B h1 fun h' he hit hsz hk => wpAny_pyIter_enum he ?_
    have I2 : Inv X pins σ H1 { s1 with heap := h' } := I1.kept (t' := s1.toks) hk
    refine ⟨s1.heap.objs.size + 1, [s1.heap.objs.size + 1, s1.heap.objs.size], _, _, H1, rfl, I2, turn_enumS S (s1.heap.objs.size + 1) (Nat.succ_ne_self _) (hnb 1), ⟨⟨.none, he⟩, t0 h' hit⟩, fun b hb => ?_, q⟩
    have e' : b = s1.heap.objs.size + 1 ∨ b = s1.heap.objs.size := by simpa using hb
    have hle : s1.heap.objs.size ≤ b := by
      rcases e' with z | z
      · rw [z]; exact Nat.le_add_right _ _
      · rw [z]; exact Nat.le_refl _
    exact I1.fpOk hle (I1.hok.fresh hle)
/-! ### zip -/
def Itzs (n1 : Nat) (G1 : Hp → Prop) (Y1 : Nat → V → Prop) (n2 : Nat) (G2 : Hp → Prop) (Y2 : Nat → V → Prop) : It :=
  ⟨fun i H => i < n1 ∧ i < n2 ∧ G1 H ∧ G2 H, fun i H v H' => ∃ (T : Addr) (o : Obj) (x y : V), v = .ref T ∧ H T = none ∧ o.dict = none ∧ H' = upd H T (.frz o (.tup [x, y])) ∧ Y1 i x ∧ Y2 i y, fun i H => i ≤ n1 ∧ i ≤ n2 ∧ (i = n1 ∨ i = n2) ∧ G1 H ∧ G2 H⟩
theorem turn_zipS {elts : List Expr} {kk : Nat} {tpos : Pos} {z TI TO i1 i2 : Addr} {b1 b2 : List Addr} {n1 n2 : Nat} {G1 G2 : Hp → Prop} {Y1 Y2 : Nat → V → Prop} {t1 t2 : Nat → Heap → Prop} (D : ZipSep2 z TI TO i1 i2 (i1 :: b1) (i2 :: b2)) (S1 : Src P w K i1 b1 n1 G1 Y1 t1) (S2 : Src P w K i2 b2 n2 G2 Y2 t2) :
    Turn P w K (.Tuple elts kk tpos) (Itzs n1 G1 Y1 n2 G2 Y2) [z, TI, TO, i1, i2] z (fun i h => IsZip h z TI TO .none ∧ IsTupOf2 h TI (.ref i1) (.ref i2) ∧ (∃ x y, IsTupOf2 h TO x y) ∧ t1 i h ∧ t2 i h) where
  mem := by simp
  obj := fun i h st c hc => by
    obtain ⟨hz, hTI, ⟨x, y, hTO⟩, h1, h2⟩ := st
    have e' : c = z ∨ c = TI ∨ c = TO ∨ c = i1 ∨ c = i2 := by simpa using hc
    rcases e' with q | q | q | q | q
    · rw [q]; exact ⟨_, hz, fun v q => nomatch q⟩
    · rw [q]; exact ⟨_, hTI, fun v q => nomatch q⟩
    · rw [q]; exact ⟨_, hTO, fun v q => nomatch q⟩
    · rw [q]; exact S1.obj i h h1
    · rw [q]; exact S2.obj i h h2
  keep := fun i h h' st k => by
    obtain ⟨hz, hTI, ⟨x, y, hTO⟩, h1, h2⟩ := st
    exact ⟨k z (by simp) _ hz, k TI (by simp) _ hTI, ⟨x, y, k TO (by simp) _ hTO⟩, S1.keep _ _ _ h1 fun o q => k i1 (by simp) o q, S2.keep _ _ _ h2 fun o q => k i2 (by simp) o q⟩
  item := by
    intro X hP hw hK hc i pins s σ H E I hf st hg
    subst hP hw
    obtain ⟨hz, hTI, ⟨x0, y0, hTO⟩, h1, h2⟩ := st
    obtain ⟨hi1, hi2, hG1, hG2⟩ := hg
    obtain ⟨Pv1, St1, D1, d11, d12, d13⟩ := S1.draws X hK pins σ H s I hG1
    obtain ⟨Pv2, St2, D2, d21, d22, d23⟩ := S2.draws X hK pins σ H s I hG2
    have hzl : z < s.heap.objs.size := Heap.lt_size hz
    have hh : X.A.in1.handled = none := I.ok.hd hc
    refine wpAny_pyNext_zipD2_item D (D1 X.A.in1 hh) (D2 X.A.in1 hh) hz hTI hTO (d11 i h1) (d21 i h2) hi1 hi2 fun u u2 h' tk p1 p2 z' TO' s1' s2' hT hsz hk => ?_
    obtain ⟨x, ru, hy1⟩ := d13 i u p1
    obtain ⟨y, ru2, hy2⟩ := d23 i u2 p2
    refine ⟨_, rfl, wpAny_letOwnedTupleGo_zip (s := { s with heap := h', toks := tk }) z' fun h'' z'' sb => ?_⟩
    have hT2 : h''.get? s.heap.objs.size = some { cls := .type "tuple", data := .seq #[u, u2] } := (sb.2 _ (Nat.ne_of_gt hzl)).trans hT
    have new : ObjOk X.prog X.w (upd H s.heap.objs.size (.frz { cls := .type "tuple", data := .seq #[u, u2] } (.tup [x, y]))) h'' s.heap.objs.size (.frz { cls := .type "tuple", data := .seq #[u, u2] } (.tup [x, y])) :=
      ⟨hT2, by show 2 ≤ sizeLine; decide, [u, u2], .cons ru (.cons ru2 .nil), ⟨_, hT2, rfl, _, rfl⟩⟩
    have I1 : Inv X pins σ (upd H s.heap.objs.size (.frz { cls := .type "tuple", data := .seq #[u, u2] } (.tup [x, y]))) { s with heap := h'', toks := tk } :=
      I.turnedNew (t' := tk) (ch := [z, TI, TO, i1, i2]) (fun c o hb q => (sb.2 c (fun q' => hb (by simp [q']))).trans (hk c o (fun q' => hb (by simp [q'])) (fun q' => hb (by simp [q'])) (fun q' => hb (by simp [q'])) (fun q' => hb (by simp [q'])) q)) hf (Nat.le_refl _) new
    refine ⟨.ref s.heap.objs.size, _, I1, rfl, ⟨_, _, x, y, rfl, I.hok.fresh (Nat.le_refl _), rfl, rfl, hy1, hy2⟩, ⟨z'', ?_, ⟨u, u2, ?_⟩, ?_, ?_⟩, fun c hcm => ?_⟩
    · exact (sb.2 _ D.TIz).trans (hk _ _ D.TIz D.TITO D.TIi1 D.TIi2 hTI)
    · exact (sb.2 _ D.TOz).trans TO'
    · exact S1.keep _ _ _ (d12 _ _ s1') fun o q => (sb.2 _ (Ne.symm D.zi1)).trans q
    · exact S2.keep _ _ _ (d22 _ _ s2') fun o q => (sb.2 _ (Ne.symm D.zi2)).trans q
    · have hlt : c < s.heap.objs.size := by
        have e' : c = z ∨ c = TI ∨ c = TO ∨ c = i1 ∨ c = i2 := by simpa using hcm
        rcases e' with q | q | q | q | q
        · rw [q]; exact hzl
        · rw [q]; exact Heap.lt_size hTI
        · rw [q]; exact Heap.lt_size hTO
        · rw [q]; obtain ⟨_, e1, _⟩ := S1.obj _ _ h1; exact Heap.lt_size e1
        · rw [q]; obtain ⟨_, e2, _⟩ := S2.obj _ _ h2; exact Heap.lt_size e2
      rw [upd_ne (Nat.ne_of_lt hlt)]
      exact (hf c hcm).1
  done := by
    intro X hP hw hK hc i pins s σ H E I hf st hg
    subst hP hw
    obtain ⟨hz, hTI, ⟨x0, y0, hTO⟩, h1, h2⟩ := st
    obtain ⟨hi1, hi2, hend, hG1, hG2⟩ := hg
    obtain ⟨Pv1, St1, D1, d11, d12, d13⟩ := S1.draws X hK pins σ H s I hG1
    obtain ⟨Pv2, St2, D2, d21, d22, d23⟩ := S2.draws X hK pins σ H s I hG2
    have hh : X.A.in1.handled = none := I.ok.hd hc
    exact wpAny_pyNext_zipD2_end D (D1 X.A.in1 hh) (D2 X.A.in1 hh) hz hTI hTO (d11 i h1) (d21 i h2) hi1 hi2 hend fun h' tk hk => ⟨rfl, I.turnedL (t' := tk) (ch := [z, TI, TO, i1, i2]) (fun c o hb q =>
      hk c o (fun q' => hb (by simp [q'])) (fun q' => hb (by simp [q'])) (fun q' => hb (by simp [q'])) (fun q' => hb (by simp [q'])) q) hf⟩
  self := fun A i s Q E st h => wpAny_pyIter_zip st.1 h
def iZpS (K : PySem.W.Frag) (ta : TA) : TI := fun σ H R => ta σ H fun vs H1 => ∃ x y n1 G1 Y1 n2 G2 Y2, vs = [x, y] ∧ SrcV K x H1 n1 G1 Y1 ∧ SrcV K y H1 n2 G2 Y2 ∧ R (Itzs n1 G1 Y1 n2 G2 Y2) H1
theorem pi_zpS {e e2 : Expr} {ta : TA} {p pos tpos : Pos} {elts : List Expr} {kk : Nat} (hg : Gl X "zip") (hm : X.mg "zip" = none) (ha : PA X [e, e2] ta)
    (hs : starEach [e, e2] X.env = (false, eval e X.env) :: starEach [e2] X.env) (hpl : (backTo pos (starEach [e2] X.env)).any (·.1) = false) :
    PI X (.Tuple elts kk tpos) (.Call (.Name "zip" p) [e, e2] [] pos) (iZpS X.K ta) := by
  refine ⟨fun pins s σ H R I h => ?_⟩
  refine Call_ (ld_blt I hg hm PyProof.Rows.boot_zip (PyProof.Rows.callWith_type1 (thn (ha.run pos pins s σ H _ I h) fun us s1 ⟨vs, H1, I1, r1, q1⟩ => ?_) hs hpl))
  obtain ⟨x, y, n1, G1, Y1, n2, G2, Y2, rfl, v1, v2, q⟩ := q1
  cases r1 with
  | cons r rr =>
    cases rr with
    | cons r' rr =>
      cases rr
      obtain ⟨o1, H1', bs1, B1, h1, hb1, k1⟩ := src_begin I1 r v1
      obtain ⟨o2, H2', bs2, B2, h2, hb2, k2⟩ := src_begin I1 r' v2
      obtain ⟨tn1, S1, t10⟩ := k1 s1.heap.objs.size fun z => Nat.lt_irrefl _ (hb1 _ z)
      obtain ⟨tn2, S2, t20⟩ := k2 (s1.heap.objs.size + 1) fun z => Nat.lt_irrefl _ (Nat.lt_of_le_of_lt (Nat.le_add_right _ 1) (hb2 _ z))
      refine zip_begins2 B1 B2 h1 h2 fun h' hz hTI hTO g1 g2 hsz hk => wpAny_pyIter_zip hz ?_
      have I2 : Inv X pins σ H1 { s1 with heap := h' } := I1.kept (t' := s1.toks) hk
      refine ⟨s1.heap.objs.size + 4, [s1.heap.objs.size + 4, s1.heap.objs.size + 2, s1.heap.objs.size + 3, s1.heap.objs.size, s1.heap.objs.size + 1], _, _, H1, rfl, I2, turn_zipS (zip_sep2 hb1 hb2) S1 S2, ⟨hz, hTI, ⟨_, _, hTO⟩, t10 h' g1, t20 h' g2⟩, fun c hcm => ?_, q⟩
      have e' : c = s1.heap.objs.size + 4 ∨ c = s1.heap.objs.size + 2 ∨ c = s1.heap.objs.size + 3 ∨ c = s1.heap.objs.size ∨ c = s1.heap.objs.size + 1 := by simpa using hcm
      have hle : s1.heap.objs.size ≤ c := by
        rcases e' with z | z | z | z | z
        · rw [z]; exact Nat.le_add_right _ _
        · rw [z]; exact Nat.le_add_right _ _
        · rw [z]; exact Nat.le_add_right _ _
        · rw [z]; exact Nat.le_refl _
        · rw [z]; exact Nat.le_add_right _ _
      exact I1.fpOk hle (I1.hok.fresh hle)
end
end TD
/-! enumerate and zip by data. -/
namespace TD
open PySem PySem.Spec PyProof.Rows L2
variable [Tb] [Er]
section
variable {X : Cx} {f0 : List Addr} {c : C} {tg x y z : Expr} {a b d e : E} {pos pos' : Pos} {W : Nat → Hp → Prop}
theorem src_of {K : PySem.W.Frag} {H : Hp} {F : List Addr} {v : V} {p : PyData} {ds : List PyData} (r : Rp (vw H F) v p) (h : seqD p = .ok ds) : ∃ n G Y, SrcV K v H n G Y ∧ n = ds.length ∧ (∀ H2 F2, Stp H F H2 F2 → G H2) ∧ ∀ (i : Nat) (H2 : Hp) (F2 : List Addr) (x : V) (e : PyData), ds[i]? = some e → Stp H F H2 F2 → Y i x → Rp (vw H2 F2) x e := by
  cases p with
  | list xs =>
    cases h
    cases r with
    | lst h1 h2 =>
      refine ⟨_, _, _, .inl ⟨_, _, rfl, sqL_vw h1, rfl, rfl, rfl⟩, h2.length, fun H2 F2 s => sqL_vw (s.view _ _ h1), fun i H2 F2 x e he s y => ?_⟩
      obtain ⟨d', e', r'⟩ := h2.getV y
      rw [he] at e'
      cases e'
      exact r'.mono s.view
  | tuple xs =>
    cases h
    cases r with
    | tup h1 h2 =>
      refine ⟨_, _, _, .inr (.inl ⟨_, _, rfl, sqT_vw h1, rfl, rfl, rfl⟩), h2.length, fun H2 F2 s => sqT_vw (s.view _ _ h1), fun i H2 F2 x e he s y => ?_⟩
      obtain ⟨d', e', r'⟩ := h2.getV y
      rw [he] at e'
      cases e'
      exact r'.mono s.view
  | str z =>
    cases h
    cases r
    refine ⟨_, _, _, .inr (.inr ⟨z, rfl, rfl, rfl, rfl⟩), by rw [List.length_map, Array.length_toList], fun H2 F2 s => trivial, fun i H2 F2 x e he s y => ?_⟩
    obtain ⟨k, hk, rfl⟩ := y
    rw [List.getElem?_map, Array.getElem?_toList, hk] at he
    cases he
    exact .str _
  | _ => cases h
theorem enmD_get {ds : List PyData} {i : Nat} {d : PyData} (h : (enmD ds)[i]? = some d) : ∃ e, ds[i]? = some e ∧ d = .tuple [.int (i : Int), e] := by
  unfold enmD at h
  rw [List.getElem?_map, List.getElem?_zipIdx] at h
  cases q : ds[i]? with
  | none =>
    rw [q] at h
    cases h
  | some e =>
    rw [q] at h
    have h := Option.some.inj h
    refine ⟨e, rfl, ?_⟩
    rw [← h]
    simp
theorem wd_enm {H : Hp} {F : List Addr} {ds : List PyData} {n : Nat} {G : Hp → Prop} {Y : Nat → V → Prop} (hn : n = ds.length) (hG : ∀ H2 F2, Stp H F H2 F2 → G H2) (hY : ∀ (i : Nat) (H2 : Hp) (F2 : List Addr) (x : V) (e : PyData), ds[i]? = some e → Stp H F H2 F2 → Y i x → Rp (vw H2 F2) x e) : Wd H F (enmD ds) (Ites n G Y) := by
  subst hn
  have hl : (enmD ds).length = ds.length := by
    unfold enmD
    rw [List.length_map, List.length_zipIdx]
  refine ⟨G, fun i H v H' => ∃ (T : Addr) (o : Obj) (x : V), v = .ref T ∧ H T = none ∧ o.dict = none ∧ H' = upd H T (.frz o (.tup [.int (i : Nat), x])) ∧ Y i x, ⟨fun i H hi g => ⟨by rw [← hl]; exact hi, g⟩, fun H g => ⟨hl, g⟩, fun i H x H' _ _ y => y⟩, hG, fun i H2 F2 v H3 p e s dm y => ?_⟩
  obtain ⟨T, ob, x, rfl, nT, nd, rfl, hx⟩ := y
  obtain ⟨q, hq, rfl⟩ := enmD_get e
  exact Rp.newT dm nT nd (.cons (.int _) (.cons (hY i H2 F2 x q hq s hx) .nil))
theorem zipD_get {xs ys : List PyData} {i : Nat} {d : PyData} (h : (zipD xs ys)[i]? = some d) : ∃ e f, xs[i]? = some e ∧ ys[i]? = some f ∧ d = .tuple [e, f] := by
  unfold zipD at h
  rw [List.getElem?_map] at h
  cases q : (xs.zip ys)[i]? with
  | none =>
    rw [q] at h
    cases h
  | some p =>
    rw [q] at h
    cases h
    obtain ⟨h1, h2⟩ := List.getElem?_zip_eq_some.mp q
    exact ⟨p.1, p.2, h1, h2, rfl⟩
theorem wd_zip {H : Hp} {F : List Addr} {xs ys : List PyData} {n1 n2 : Nat} {G1 G2 : Hp → Prop} {Y1 Y2 : Nat → V → Prop} (hn1 : n1 = xs.length) (hG1 : ∀ H2 F2, Stp H F H2 F2 → G1 H2) (hY1 : ∀ (i : Nat) (H2 : Hp) (F2 : List Addr) (x : V) (e : PyData), xs[i]? = some e → Stp H F H2 F2 → Y1 i x → Rp (vw H2 F2) x e)
    (hn2 : n2 = ys.length) (hG2 : ∀ H2 F2, Stp H F H2 F2 → G2 H2) (hY2 : ∀ (i : Nat) (H2 : Hp) (F2 : List Addr) (x : V) (e : PyData), ys[i]? = some e → Stp H F H2 F2 → Y2 i x → Rp (vw H2 F2) x e) : Wd H F (zipD xs ys) (Itzs n1 G1 Y1 n2 G2 Y2) := by
  subst hn1 hn2
  have hl : (zipD xs ys).length = min xs.length ys.length := by
    unfold zipD
    rw [List.length_map, List.length_zip]
  refine ⟨fun H => G1 H ∧ G2 H, fun i H v H' => ∃ (T : Addr) (o : Obj) (x y : V), v = .ref T ∧ H T = none ∧ o.dict = none ∧ H' = upd H T (.frz o (.tup [x, y])) ∧ Y1 i x ∧ Y2 i y, ⟨fun i H hi g => ⟨by omega, by omega, g⟩, fun H g => ⟨by omega, by omega, by omega, g⟩, fun i H x H' _ _ y => y⟩, fun H2 F2 s => ⟨hG1 H2 F2 s, hG2 H2 F2 s⟩, fun i H2 F2 v H3 p e s dm y => ?_⟩
  obtain ⟨T, ob, x, y, rfl, nT, nd, rfl, hx, hy⟩ := y
  obtain ⟨q, f, hq, hf, rfl⟩ := zipD_get e
  exact Rp.newT dm nT nd (.cons (hY1 i H2 F2 x q hq s hx) (.cons (hY2 i H2 F2 y f hf s hy) .nil))
theorem si_enm {p tpos : Pos} {elts : List Expr} {kk : Nat} (hg : Gl X "enumerate") (hm : X.mg "enumerate" = none) (ha : SE X f0 c a x) (hx : nstar x = true) : PI X (.Tuple elts kk tpos) (.Call (.Name "enumerate" p) [x] [] pos) (tI (kx X f0) c (.enm a) false) := by
  refine (pi_enS hg hm (sa_cons ha hx sa_nil).pa (star_cons hx _)).imp fun σ H RR h => ?_
  obtain ⟨ρ, F, l, er, n, u, e, k⟩ := h
  obtain ⟨p, hp, e⟩ := bind_ok (show (ev c ρ a >>= fun d => seqD d >>= fun xs => R.ok (false, enmD xs)) = R.ok (false, l) from e)
  obtain ⟨xs, hxs, e⟩ := bind_ok e
  cases e
  refine tEs_of er n (un1 u) (evs_one hp) fun vs H1 g1 r1 => ?_
  obtain ⟨v, rfl, rv⟩ := rpAll1 r1
  obtain ⟨m, G, Y, h1, h2, h3, h4⟩ := src_of (K := X.K) rv hxs
  exact ⟨v, m, G, Y, rfl, h1, k _ H1 g1 (wd_enm h2 h3 h4)⟩
theorem si_zip {p tpos : Pos} {elts : List Expr} {kk : Nat} (hg : Gl X "zip") (hm : X.mg "zip" = none) (ha : SE X f0 c a x) (hx : nstar x = true) (hb : SE X f0 c b y) (hy : nstar y = true) : PI X (.Tuple elts kk tpos) (.Call (.Name "zip" p) [x, y] [] pos) (tI (kx X f0) c (.zip a b) false) := by
  refine (pi_zpS hg hm (sa_cons ha hx (sa_cons hb hy sa_nil)).pa (star_cons hx _) (star_any (by rw [List.all_cons, hy]; rfl))).imp fun σ H RR h => ?_
  obtain ⟨ρ, F, l, er, n, u, e, k⟩ := h
  obtain ⟨p, hp, e⟩ := bind_ok (show (ev c ρ a >>= fun d => ev c ρ b >>= fun d' => seqD d >>= fun xs => seqD d' >>= fun ys => R.ok (false, zipD xs ys)) = R.ok (false, l) from e)
  obtain ⟨q, hq, e⟩ := bind_ok e
  obtain ⟨xs, hxs, e⟩ := bind_ok e
  obtain ⟨ys, hys, e⟩ := bind_ok e
  cases e
  refine tEs_of er n (un2 u) (evs_two hp hq) fun vs H1 g1 r1 => ?_
  obtain ⟨v, w, rfl, rv, rw'⟩ := rpAll2 r1
  obtain ⟨m, G, Y, h1, h2, h3, h4⟩ := src_of (K := X.K) rv hxs
  obtain ⟨m', G', Y', h1', h2', h3', h4'⟩ := src_of (K := X.K) rw' hys
  exact ⟨v, w, m, G, Y, m', G', Y', rfl, h1, h1', k _ H1 g1 (wd_zip h2 h3 h4 h2' h3' h4')⟩
end
end TD
/-! dict(pairs), min, max, sorted. -/
namespace TD
open PySem PySem.Spec PyProof.Rows L2
variable [Tb] [Er]
section
variable {X : Cx} {f0 : List Addr} {c : C} {tg x y z : Expr} {a b d e : E} {pos pos' : Pos} {W : Nat → Hp → Prop}
/-! ### dict(..) -/
theorem pairOf_ok {d : PyData} {p : PyData × PyData} (h : pairOf d = some p) : ∃ k w, d = .tuple [k, w] ∧ keyOk k = true ∧ p = (k, w) := by
  match d, h with
  | .tuple [k, w], h =>
    have h : (if keyOk k = true then some (k, w) else none) = some p := h
    by_cases hk : keyOk k = true
    · rw [if_pos hk] at h
      cases h
      exact ⟨k, w, rfl, hk, rfl⟩
    · rw [if_neg hk] at h
      cases h
  | .tuple [], h => cases h
  | .tuple [_], h => cases h
  | .tuple (_ :: _ :: _ :: _), h => cases h
  | .none, h => cases h
  | .bool _, h => cases h
  | .int _, h => cases h
  | .str _, h => cases h
  | .list _, h => cases h
  | .dict _, h => cases h
theorem pairs_rp {K : PySem.W.Frag} {H : Hp} {F : List Addr} : ∀ {vs : List V} {xs : List PyData} {ps : List (PyData × PyData)}, RpAll (vw H F) vs xs → pairsOf xs = some ps → ∃ (as : List Addr) (kvs : List (Key × V)), vs = as.map V.ref ∧ Paired (fun p kv => SqT K H p [kV kv.1, kv.2]) as kvs ∧ RpKV (vw H F) kvs ps
  | _, _, _, .nil, e => by
    cases e
    exact ⟨[], [], rfl, .nil, .nil⟩
  | _, _, ps, .cons (v := v) (d := d) (ds := ds) r ra, e => by
    unfold pairsOf at e
    cases q : pairOf d with
    | none =>
      rw [q] at e
      cases e
    | some p =>
      rw [q] at e
      cases q2 : pairsOf ds with
      | none =>
        rw [q2] at e
        cases e
      | some qs =>
        rw [q2] at e
        cases e
        obtain ⟨as, kvs, rfl, h1, h2⟩ := pairs_rp ra q2
        obtain ⟨k, w, rfl, hk, rfl⟩ := pairOf_ok q
        obtain ⟨key, rfl⟩ := key_of_ok hk
        obtain ⟨b, ws, rfl, hb, rb⟩ := r.tuple
        obtain ⟨x, y, rfl, rx, ry⟩ := rpAll2 rb
        rw [rx.key] at hb
        exact ⟨b :: as, (key, y) :: kvs, rfl, .cons hb.sq h1, .cons ry h2⟩
theorem trip_of {pins : List (Addr × Obj)} {σ : L2.St} {H : Hp} {s : Shared} (I : Inv X pins σ H s) : ∀ {as : List Addr} {kvs : List (Key × V)}, Paired (fun p kv => SqT X.K H p [kV kv.1, kv.2]) as kvs →
    ∃ L : List (Key × Value × Value), KV kvs (L.map fun t => (t.1, t.2.2)) ∧ L.length = as.length ∧ ∀ (j : Nat) (t : Key × Value × Value), L[j]? = some t → ∃ b, as[j]? = some b ∧ IsTup s.heap b #[t.2.1, t.2.2] ∧ keyIs t.1 t.2.1 = true
  | _, _, .nil => ⟨[], .nil, rfl, fun j t e => by simp at e⟩
  | _, _, .cons (a := p) (b := kv) h t => by
    obtain ⟨L, r, hl, hp⟩ := trip_of I t
    obtain ⟨its, rv, ht, _⟩ := I.tuple h
    obtain ⟨u, w, ei, ru, rw'⟩ := vals2 rv
    subst ei
    refine ⟨(kv.1, u, w) :: L, .cons ⟨rfl, rw'⟩ r, by rw [List.length_cons, List.length_cons, hl], fun j t e => ?_⟩
    cases j with
    | zero =>
      cases e
      exact ⟨p, rfl, ht, kV_is (P := X.prog) (w := X.w) ru⟩
    | succ j =>
      obtain ⟨b, e1, e2⟩ := hp j t (by simpa using e)
      exact ⟨b, by simpa using e1, e2⟩
theorem RpKV.merge {M : Hp} : ∀ {more : List (Key × V)} {qs : List (PyData × PyData)} {kvs : List (Key × V)} {ps : List (PyData × PyData)}, RpKV M more qs → RpKV M kvs ps → RpKV M (mergeK kvs more) (qs.foldl (fun m p => dPut m p.1 p.2) ps)
  | _, _, _, _, .nil, r => r
  | _, _, kvs, ps, .cons (k := k) (v := v) (d := d) (r := rest) (ps := qs) h a, r => by
    have t := RpKV.merge (more := rest) (qs := qs) (kvs := putK kvs k v) (ps := dPut ps (keyD k) d) a (r.put k h)
    exact t
theorem d_dict (hc : X.calm = true) : CallR X (.type "dict") (rc1 W .dict) := by
  intro pins s σ H xs us Q I r h
  obtain ⟨x, d, F, rfl, dm, rd, nl, pk⟩ := h
  cases d <;> try exact pk.elim
  rename_i ds
  have pk : Pk W H F Q (op ((pairsOf ds).map fun ps => PyData.dict (dictOf ps))) := pk
  cases q : pairsOf ds with
  | none =>
    rw [q] at pk
    exact pk.elim
  | some ps =>
    rw [q] at pk
    obtain ⟨a, vs, rfl, ⟨o, ha, hd⟩, ra⟩ := rd.tuple
    obtain ⟨u, rfl, rx⟩ := vals1 r
    cases rx
    obtain ⟨ho, hz, its, rv, ⟨o', ho', hcl, n, hdt⟩⟩ := I.hok a _ ha
    rw [ho] at ho'
    cases ho'
    obtain ⟨as, kvs, rfl, hp, rk⟩ := pairs_rp (K := X.K) ra q
    have ei := refs_at rv
    subst ei
    obtain ⟨L, kv, hl, hL⟩ := trip_of I hp
    have hn : as.length ≤ sizeLine := by
      rw [List.length_map] at hz
      exact hz
    refine PySem.call_dict_pairs (knd := mixKind X.prog X.w) (kvs := L.map fun t => (t.1, t.2.2)) (PairArg.tuple a (as.map Value.ref).toArray (fun j => (as[j]?).getD 0) (L.map fun t => (t.2.1, t.2.2))) (I.ok.hd hc)
      ⟨⟨o, n, ho, hcl, hd, hdt⟩, ?_, fun j k v e => ?_⟩ ⟨?_, fun i k v e => ?_⟩ ?_ fun h' tk hd' hk => ?_
    · simp [hl]
    · rw [List.getElem?_map] at e
      obtain ⟨t, ht, e⟩ := Option.map_eq_some_iff.mp e
      cases e
      obtain ⟨b, e1, e2, _⟩ := hL j t ht
      have e4 : (as[j]?).getD 0 = b := by rw [e1]; rfl
      refine ⟨by simp [e1], .inl ?_⟩
      show s.heap.IsTuple ((as[j]?).getD 0) _
      rw [e4]
      exact e2
    · rw [List.length_map, List.length_map]
    · have e : (L.map fun t => (t.2.1, t.2.2))[i]? = some (k, v) := e
      rw [List.getElem?_map] at e
      obtain ⟨t, ht, e⟩ := Option.map_eq_some_iff.mp e
      cases e
      obtain ⟨b, _, _, e3⟩ := hL i t ht
      exact ⟨t.1, by rw [List.getElem?_map, ht]; rfl, e3⟩
    · rw [List.length_map, hl]
      exact hn
    · have hm : (s.heap.objs.size == sysModules) = false := beq_eq_false_iff_ne.mpr (Nat.ne_of_gt I.big)
      have hlen : (mergeK [] kvs).length ≤ sizeLine := by
        refine Nat.le_trans (length_mergeK kvs []) ?_
        rw [List.length_nil, Nat.zero_add, kv.length, List.length_map, hl]
        exact hn
      have hf := I.hok.fresh (Nat.le_refl s.heap.objs.size)
      obtain ⟨g, rn⟩ := Rp.newD dm hf (RpKV.merge rk .nil)
      refine ⟨.ref s.heap.objs.size, _, I.laid (t' := tk) (o := .dK (mergeK [] kvs)) (fun b ob e => hk b ob List.not_mem_nil e) (Nat.le_refl _) ⟨hlen, hm, _, KV.merge kv .nil, hd'⟩, rfl, ?_⟩
      exact pk _ _ g rn
end
end TD
/-! min, max, sorted; len of what is held; max of two. -/
namespace TD
open PySem PySem.Spec PyProof.Rows L2
variable [Tb] [Er]
section
variable {X : Cx} {f0 : List Addr} {c : C} {tg x y z : Expr} {a b d e : E} {pos pos' : Pos} {W : Nat → Hp → Prop}
theorem sOk_alike {xs : List PyData} (h : sOk xs = true) : (∀ p ∈ xs, ∀ q ∈ xs, PySem.W.alike p q = true) ∧ (∀ p ∈ xs, p ≠ .none) ∧ PyData.plainAll xs = true ∧ PyData.depthAll xs ≤ 9 ∧ (∀ p ∈ xs, p.depth ≤ 9) := by
  unfold sOk at h
  rw [Bool.and_eq_true, Bool.and_eq_true] at h
  obtain ⟨⟨h1, h2⟩, h3⟩ := h
  obtain ⟨p1, p2⟩ := plainAll_ok h1
  refine ⟨fun p hp q hq => List.all_eq_true.mp (List.all_eq_true.mp h3 p hp) q hq, fun p hp z => ?_, p1, p2, fun p hp => (dOk_plain 9 p (List.all_eq_true.mp h1 p hp)).2⟩
  subst z
  rw [Bool.or_eq_true, Bool.or_eq_true] at h2
  rcases h2 with (h2 | h2) | h2
  · have := List.all_eq_true.mp h2 _ hp
    cases this
  · have := List.all_eq_true.mp h2 _ hp
    cases this
  · have := List.all_eq_true.mp h2 _ hp
    cases this
/-- the picked one among those that stand -/
theorem picked {pins : List (Addr × Obj)} {σ : L2.St} {H : Hp} {s : Shared} {F : List Addr} {vs : List V} {its : List Value} {ds : List PyData} {m : PyData} {i : Nat} {v : Value} {h' : Heap} {bs : List Addr} (I : Inv X pins σ H s) (ra : RpAll (vw H F) vs ds) (rv : Vals vs its) (hp : PyData.plainAll ds = true)
    (hv : its[i]? = some v) (hk : ∀ b o, s.heap.get? b = some o → h'.get? b = some o) (r : Reads h' v m bs) : ∃ w, RelV w v ∧ Rp (vw H F) w m := by
  obtain ⟨w, rw', hw⟩ := vals_back rv hv
  obtain ⟨d, hd, rd⟩ := ra.getV hw
  have hpl : d.plain = true := by
    have key : ∀ (ds : List PyData) (i : Nat), PyData.plainAll ds = true → ds[i]? = some d → d.plain = true := by
      intro ds
      induction ds with
      | nil => intro i _ e; simp at e
      | cons e r ih =>
        intro i hp he
        simp only [PyData.plainAll, Bool.and_eq_true] at hp
        cases i with
        | zero =>
          cases he
          exact hp.1
        | succ i => exact ih i hp.2 (by simpa using he)
    exact key ds i hp hd
  obtain ⟨as, r2⟩ := rd.reads I hpl rw'
  have e := PySem.SeqAt.plain_unique d m v _ _ hpl (PyProof.Rows.Reads.keeps hk r2) r
  subst e
  exact ⟨w, rw', rd⟩
theorem d_min (hc : X.calm = true) (hu : X.A.units + 20 < cLine) : CallR X (.builtin "min") (rc1 W .min) := by
  intro pins s σ H xs us Q I r h
  obtain ⟨x, d, F, rfl, dm, rd, nl, pk⟩ := h
  match d, rd, pk with
  | .list (e :: es), rd, pk =>
    obtain ⟨hg, pk⟩ := Pk.gdd (show Pk W H F Q (gd (sOk (e :: es)) (.ok (PySem.W.minD e es))) from pk)
    obtain ⟨h1, h2, h3, h4, _⟩ := sOk_alike hg
    obtain ⟨a, vs, rfl, ha, ra⟩ := rd.list
    obtain ⟨u, rfl, rx⟩ := vals1 r
    cases rx
    obtain ⟨its, rv, p, hz⟩ := I.list (SqL.of ha)
    obtain ⟨as, rr⟩ := ra.reads I h3 rv
    refine PySem.W.min_list_data (vs := its.toArray) (I.ok.hd hc) p.isList (by simpa using rr) ⟨h1, h2⟩ (by omega) fun i v h' tk bs hv rm hk => ?_
    obtain ⟨w, rw', rm'⟩ := picked I ra rv h3 (by simpa using hv) hk rm
    exact ⟨w, H, I.kept (t' := tk) hk, rw', pk w H (Gr.refl H) rm'⟩
  | .list [], _, pk => exact pk.elim
  | .none, _, pk => exact pk.elim
  | .bool _, _, pk => exact pk.elim
  | .int _, _, pk => exact pk.elim
  | .str _, _, pk => exact pk.elim
  | .tuple _, _, pk => exact pk.elim
  | .dict _, _, pk => exact pk.elim
theorem d_max (hc : X.calm = true) (hu : X.A.units + 20 < cLine) : CallR X (.builtin "max") (rc1 W .max) := by
  intro pins s σ H xs us Q I r h
  obtain ⟨x, d, F, rfl, dm, rd, nl, pk⟩ := h
  match d, rd, pk with
  | .list (e :: es), rd, pk =>
    obtain ⟨hg, pk⟩ := Pk.gdd (show Pk W H F Q (gd (sOk (e :: es)) (.ok (PySem.W.maxD e es))) from pk)
    obtain ⟨h1, h2, h3, h4, _⟩ := sOk_alike hg
    obtain ⟨a, vs, rfl, ha, ra⟩ := rd.list
    obtain ⟨u, rfl, rx⟩ := vals1 r
    cases rx
    obtain ⟨its, rv, p, hz⟩ := I.list (SqL.of ha)
    obtain ⟨as, rr⟩ := ra.reads I h3 rv
    refine PySem.W.max_list_data (vs := its.toArray) (I.ok.hd hc) p.isList (by simpa using rr) ⟨h1, h2⟩ (by omega) fun i v h' tk bs hv rm hk => ?_
    obtain ⟨w, rw', rm'⟩ := picked I ra rv h3 (by simpa using hv) hk rm
    exact ⟨w, H, I.kept (t' := tk) hk, rw', pk w H (Gr.refl H) rm'⟩
  | .list [], _, pk => exact pk.elim
  | .none, _, pk => exact pk.elim
  | .bool _, _, pk => exact pk.elim
  | .int _, _, pk => exact pk.elim
  | .str _, _, pk => exact pk.elim
  | .tuple _, _, pk => exact pk.elim
  | .dict _, _, pk => exact pk.elim
/-! ### sorted -/
theorem leS_trans (a b c : Str) (h1 : (!decide (chs b < chs a)) = true) (h2 : (!decide (chs c < chs b)) = true) : (!decide (chs c < chs a)) = true := by
  rw [Bool.not_eq_true', decide_eq_false_iff_not] at h1 h2 ⊢
  rw [List.not_lt] at h1 h2 ⊢
  exact List.le_trans h1 h2
theorem leS_total (a b : Str) : ((!decide (chs b < chs a)) || !decide (chs a < chs b)) = true := by
  rw [Bool.or_eq_true, Bool.not_eq_true', Bool.not_eq_true', decide_eq_false_iff_not, decide_eq_false_iff_not, List.not_lt, List.not_lt]
  exact List.le_total _ _
theorem leS_anti (a b : Str) (h1 : (!decide (chs b < chs a)) = true) (h2 : (!decide (chs a < chs b)) = true) : a = b := by
  rw [Bool.not_eq_true', decide_eq_false_iff_not, List.not_lt] at h1 h2
  have := List.le_antisymm h1 h2
  obtain ⟨⟨l⟩⟩ := a
  obtain ⟨⟨m⟩⟩ := b
  have : l = m := this
  rw [this]
theorem sortedS_pw : ∀ {ys : List Str}, sortedS ys = true → ys.Pairwise fun a b => (!decide (chs b < chs a)) = true
  | [], _ => .nil
  | y :: r, h => by
    have key : ∀ (p : Str) (r : List Str), risingS p r = true → (p :: r).Pairwise fun a b => (!decide (chs b < chs a)) = true := by
      intro p r
      induction r generalizing p with
      | nil => intro _; exact List.pairwise_singleton _ _
      | cons q r ih =>
        intro h
        have h : (!ltCps q.cps.toList p.cps.toList && risingS q r) = true := h
        rw [Bool.and_eq_true, ltCps_eq] at h
        have t := ih q h.2
        refine List.pairwise_cons.mpr ⟨fun z hz => ?_, t⟩
        rcases List.mem_cons.mp hz with rfl | hz
        · exact h.1
        · exact leS_trans _ _ _ h.1 ((List.pairwise_cons.mp t).1 z hz)
    exact key y r h
theorem sortS_eq {ys ks : List Str} (hp : ys.Perm ks) (hs : sortedS ys = true) : ys = ks.mergeSort fun a b => !decide (chs b < chs a) := by
  refine List.Perm.eq_of_pairwise (le := fun a b => (!decide (chs b < chs a)) = true) (fun a b _ _ h1 h2 => leS_anti a b h1 h2) (sortedS_pw hs) ?_ (hp.trans (List.mergeSort_perm ks _).symm)
  exact List.pairwise_mergeSort (fun a b c => leS_trans a b c) (fun a b => leS_total a b) ks
theorem d_sortedD {H : Hp} {F : List Addr} {kvs : List (Key × V)} {ps : List (PyData × PyData)} {ks : List Str} (r : RpKV (vw H F) kvs ps) (h : txtsOf (ps.map (·.1)) = some ks) : kvs.map (·.1) = ks.map Sum.inr := by
  have key : ∀ (kvs : List (Key × V)) (ks : List Str), (kvs.map fun kv => kV kv.1) = ks.map V.str → kvs.map (·.1) = ks.map Sum.inr := by
    intro kvs
    induction kvs with
    | nil =>
      intro ks e
      cases ks with
      | nil => rfl
      | cons k r => cases e
    | cons kv r ih =>
      intro ks e
      cases ks with
      | nil => cases e
      | cons k t =>
        rw [List.map_cons, List.map_cons] at e
        have e1 := (List.cons.inj e).1
        have e2 := (List.cons.inj e).2
        obtain ⟨kk, v⟩ := kv
        cases kk with
        | inl i => cases e1
        | inr z =>
          cases e1
          rw [List.map_cons, List.map_cons, ih t e2]
  exact key kvs ks (r.keys.txts h)
end
end TD
/-! Lists of tuples are sorted, empty ones among them. -/
namespace TD
open PySem PySem.Spec PyProof.Rows L2 PySem.W PySem.Calls
section
variable {prog : Program} {w : World} {A : Around} {E : Value → Shared → Prop} {s : Shared}
theorem lt_tuples {P : Value → Shared → Prop} {l b : Addr} {xs ys : Array Value} {eq lt : Nat → Bool} (hl : s.heap.IsTuple l xs) (hb : s.heap.IsTuple b ys) (he : ∀ j (h1 : j < xs.size) (h2 : j < ys.size), SeqAt.EqAt A.in1 s xs[j] ys[j] (eq j)) (hr : ∀ j (h1 : j < xs.size) (h2 : j < ys.size), eq j = false → SeqAt.RcLt A.in1 s xs[j] ys[j] (lt j))
    (h : P (.bool (SeqAt.firstLt eq lt (decide (xs.size < ys.size)) (List.range (min xs.size ys.size)))) s) : wpAny (model prog w) A (call (.builtin "tuple.__lt__") [.ref l, .ref b]) P E s := by
  obtain ⟨⟨k1, d1, t1, s1⟩, o1, e1, n1, z1⟩ := hl
  obtain ⟨⟨k2, d2, t2, s2⟩, o2, e2, n2, z2⟩ := hb
  dsimp only at e1 z1 e2 z2
  subst e1 z1 e2 z2
  exact call_meets F.slot_tuple_lt ⟨_, o1, rfl⟩ F.entry_tuple_lt (F.args_tuple_lt_2 _ _) (SeqAt.tuple_ltAt l b xs ys n1 n2 d1 d2 s1 s2 eq lt) ⟨o1, o2, he, hr, h⟩
theorem one_tuples {xs ys : List PyData} {a b : Value} {as bs : List Addr} {P : Bool → Shared → Prop} (ra : Reads s.heap a (.tuple xs) as) (rb : Reads s.heap b (.tuple ys) bs) (hal : alike (.tuple xs) (.tuple ys) = true) (hu : A.units + min (PyData.tuple xs).depth (PyData.tuple ys).depth < cLine)
    (hq : P (dataLt (.tuple xs) (.tuple ys)) s) : wpAny (model prog w) A (oneLt' true a b) P E s := by
  have hal : alikeAll xs ys = true := by simpa [alike] using hal
  cases ra with
  | @tuple l o vs n _ as1 h1 h2 h3 h4 =>
    cases rb with
    | @tuple l' o' us n' _ bs1 k1 k2 k3 k4 =>
      have n1 : vs.size = xs.length := by simpa using SeqAt.ReadsAll.length _ _ _ h4
      have n2 : us.size = ys.length := by simpa using SeqAt.ReadsAll.length _ _ _ k4
      rw [dataLt_tuple, ← firstLt_toks xs ys hal, ← n1, ← n2] at hq
      rw [oneLt'_eq, if_pos rfl]
      refine wpAny_bind (wpAny_cRoomFor (SeqAt.room_here hu) (wpAny_bind (wpAny_callSpecialIfBound?_slot (T := "tuple") ⟨_, h1, h2⟩ F.slot_tuple_lt (lt_tuples (eq := SeqAt.pairEq xs ys) (lt := fun j => dataLt (xs.getD j .none) (ys.getD j .none)) ⟨_, h1, h2, _, h3⟩ ⟨_, k1, k2, _, k3⟩ (fun j j1 j2 => ?_) (fun j j1 j2 hj => ?_) (wpAny_truthy_bool hq)))))
      · have q := eqAt_alikeAll xs ys A.in1 s vs.toList us.toList _ _ h4 k4 hal (SeqAt.room_in hu) j (by simpa using j1) (by simpa using j2)
        simpa using q
      · have q := rcLt_alikeAll xs ys A.in1 s vs.toList us.toList _ _ h4 k4 hal (SeqAt.room_in hu) j (by simpa using j1) (by simpa using j2) hj
        simpa using q
/-- the first items of tuples -/
theorem firsts_run {M : Model} : ∀ {vs : List Value} {ds : List PyData}, EachIs (fun v d => ∃ as, Reads s.heap v d as) vs ds → (∀ d, d ∈ ds → ∃ xs, d = .tuple xs) → ∃ fs : List (Option Value), fs.map (·.isSome) = ds.map notE ∧ fs.length = vs.length ∧ ∀ (P : List (Option Value) → Shared → Prop), P fs s → wpAny M A (vs.mapM firstOfTuple') P E s
  | _, _, .nil, _ => ⟨[], rfl, rfl, fun P h => by rw [List.mapM_nil]; exact wpAny_pure h⟩
  | _, _, .cons (a := v) (b := d) ⟨as, r⟩ t, ht => by
    obtain ⟨fs, h1, h2, h3⟩ := firsts_run (M := M) t fun d hd => ht d (List.mem_cons_of_mem _ hd)
    obtain ⟨xs, rfl⟩ := ht d List.mem_cons_self
    cases r with
    | @tuple a o us n _ _ ho hc hd hr =>
      have hn : us.size = xs.length := by simpa using SeqAt.ReadsAll.length _ _ _ hr
      refine ⟨us[0]? :: fs, ?_, by rw [List.length_cons, List.length_cons, h2], fun P h => ?_⟩
      · rw [List.map_cons, List.map_cons, h1]
        congr 1
        cases xs with
        | nil =>
          rw [Array.getElem?_eq_none (by rw [hn]; exact Nat.zero_le _)]
          rfl
        | cons x r =>
          rw [Array.getElem?_eq_getElem (by rw [hn]; exact Nat.succ_pos _)]
          rfl
      · rw [List.mapM_cons]
        refine wpAny_bind ?_
        rw [kas_first_eq]
        refine wpAny_bind (Looks.here (show Looks M s.heap (typeOf (.ref a)) o.cls from (Looks.ld ho).andThen .now) ?_)
        rw [hc, if_neg (by first | decide | simp)]
        exact wpAny_bind (listItems_at ho hd (wpAny_pure (wpAny_bind (h3 (fun fs' s' => wpAny M A (pure (us[0]? :: fs')) P E s') (wpAny_pure h)))))
theorem sorts_tup {vs : List Value} {ds : List PyData} (e : EachIs (fun v d => ∃ as, Reads s.heap v d as) vs ds) (hal : AllAlike ds) (ht : ∀ d, d ∈ ds → ∃ xs, d = .tuple xs) (hu : ∀ d, d ∈ ds → A.units + d.depth < cLine) : SortsAt prog w A s (dataKind s.heap ds) vs := by
  by_cases hne : ds.all notE = true
  · refine SortsAt.data e hal (.inl fun d hd => ?_) hu
    obtain ⟨xs, rfl⟩ := ht d hd
    have := List.all_eq_true.mp hne _ hd
    match xs, this with
    | x :: r, _ => exact ⟨x, r, rfl⟩
  · refine ⟨fun v hv => ?_, ?_⟩
    · obtain ⟨d, hd, as, r⟩ := e.left v hv
      exact ⟨_, dataKind_some hal hd r⟩
    · have hlt : ∀ kd, (kd = oneType' ∨ kd = general') → H.LtAt prog w A s (dataKind s.heap ds) kd := by
        intro kd hk E x y a b Q ha hb hq
        obtain ⟨d, as, hd, ra, rfl⟩ := dataKind_inv ha
        obtain ⟨d', as', hd', rb, rfl⟩ := dataKind_inv hb
        have hroom : A.units + min d.depth d'.depth < cLine := Nat.lt_of_le_of_lt (Nat.add_le_add_left (Nat.min_le_left _ _) _) (hu d hd)
        obtain ⟨xs, rfl⟩ := ht d hd
        obtain ⟨ys, rfl⟩ := ht d' hd'
        rcases hk with rfl | rfl
        · rw [keyLt'_oneType]
          exact one_tuples ra rb (hal _ hd _ hd') hroom hq
        · show wpAny (model prog w) A (oneLt' false x y) Q E s
          exact oneLt_alike (fun z => nomatch z) ra rb (hal _ hd _ hd') (fun z => nomatch z) hroom hq
      have hnot : ∀ {fs : List (Option Value)}, fs.map (·.isSome) = ds.map notE → (fs.toArray.all fun x => x.isSome) = false := fun {fs} hf => by
        rw [List.all_toArray]
        have e1 : fs.all (fun x => x.isSome) = (fs.map (·.isSome)).all id := by rw [List.all_map]; rfl
        have e2 : ds.all notE = (ds.map notE).all id := by rw [List.all_map]; rfl
        rw [e1, hf, ← e2]
        simpa using hne
      cases ds with
      | nil => exact absurd rfl hne
      | cons d0 dr =>
        obtain ⟨x0, e0⟩ := ht d0 List.mem_cons_self
        subst e0
        cases x0 with
        | nil =>
          refine ⟨oneType', hlt _ (.inl rfl), fun h2 E Q hq => ?_⟩
          rw [kat_kind_eq, List.mapM_toArray, map_eq_pure_bind]
          obtain ⟨fs, f1, f2, f3⟩ := firsts_run (M := model prog w) (A := A) (E := E) e ht
          refine wpAny_bind (wpAny_bind (f3 _ (wpAny_pure ?_)))
          rw [if_neg (by rw [hnot f1]; exact Bool.false_ne_true)]
          cases fs with
          | nil => cases f1
          | cons o fr =>
            have ho : o.isSome = false := (List.cons.inj f1).1
            cases o with
            | some _ => cases ho
            | none =>
              rw [if_neg (by simp)]
              cases e with
              | @cons v _ vr _ r0 er =>
              have hT : ∀ u ∈ v :: vr, Looks (model prog w) s.heap (typeOf u) (Value.type "tuple") := fun u hu' => by
                obtain ⟨d, hd, as, r⟩ := (PySem.W.EachIs.cons r0 er).left u hu'
                obtain ⟨xs, rfl⟩ := ht d hd
                exact looks_reads r
              rw [oneTypeOnly'_eq, List.mapM_toArray, map_eq_pure_bind]
              refine wpAny_bind (wpAny_bind (wpAny_bind (kas_mapM (r := Value.type "tuple") _ (fun u hu' Q' hq' => (hT u hu').here hq') (wpAny_pure ?_))))
              have hall : ((List.map (fun _ => Value.type "tuple") (v :: vr)).toArray.all fun x => x == Value.type "tuple") = true := by
                rw [List.all_toArray, List.all_map]
                exact List.all_eq_true.mpr fun _ _ => beq_self_eq_true _
              have h0 : (List.map (fun _ => Value.type "tuple") (v :: vr)).toArray[0]? = some (Value.type "tuple") := by simp
              rw [h0]
              simp only [hall, if_true]
              exact wpAny_pure (wpAny_pure hq)
        | cons y0 r0 =>
          refine ⟨general', hlt _ (.inr rfl), fun h2 E Q hq => ?_⟩
          rw [kat_kind_eq, List.mapM_toArray, map_eq_pure_bind]
          obtain ⟨fs, f1, f2, f3⟩ := firsts_run (M := model prog w) (A := A) (E := E) e ht
          refine wpAny_bind (wpAny_bind (f3 _ (wpAny_pure ?_)))
          rw [if_neg (by rw [hnot f1]; exact Bool.false_ne_true)]
          cases fs with
          | nil => cases f1
          | cons o fr =>
            have ho : o.isSome = true := (List.cons.inj f1).1
            cases o with
            | none => cases ho
            | some _ =>
              rw [if_pos (by simp)]
              exact wpAny_pure hq
variable {β : Type} {vs : List Value} {bs : List β} {enc : β → PyData} {R : Value → β → Prop}
theorem sorted_tups {l : Addr} {P : Value → Shared → Prop} (hl : s.heap.IsList l vs.toArray) (e : EachIs R vs bs) (er : EachIs (fun v b => ∃ as, Reads s.heap v (enc b) as) vs bs) (hal : AllAlike (bs.map enc)) (ht : ∀ d, d ∈ bs.map enc → ∃ xs, d = .tuple xs) (hL : bs.length ≤ sizeLine)
    (hu : ∀ b, b ∈ bs → A.units + 2 + (enc b).depth < cLine) (h : ∀ out, out.length = bs.length → EachIs R out (bs.mergeSort (dataLe false enc)) → P (.ref (s.heap.objs.size + 1)) { s with heap := sortedAll s.heap vs (List.toArray out) }) :
    wpAny (model prog w) A (call (.builtin "sorted") [.ref l]) P E s := by
  have er2 : EachIs (fun v b => ∃ as, Reads (sortingHeap (copyHeap s.heap vs) (s.heap.objs.size + 1) vs) v (enc b) as) vs bs := er.mono fun _ _ q => by
    obtain ⟨as, r⟩ := q
    exact ⟨as, PyProof.Rows.Reads.keeps (fun _ _ => sorting_copy_old) r⟩
  have ok := sorts_tup (prog := prog) (w := w) (A := A.in1.in1) (s := { s with heap := sortingHeap (copyHeap s.heap vs) (s.heap.objs.size + 1) vs }) (each_map (R := fun v d => ∃ as, Reads (sortingHeap (copyHeap s.heap vs) (s.heap.objs.size + 1) vs) v d as) enc er2) hal ht (bound_map hu)
  refine sorted_vals hl ok (by rw [e.length]; exact hL) (h _ ?_ (sortVals_data false e er2 hal))
  rw [sortVals_length false rfl]
  exact e.length
end
end TD
/-! sorted. -/
namespace TD
open PySem PySem.Spec PyProof.Rows L2
variable [Tb] [Er]
section
variable {X : Cx} {f0 : List Addr} {c : C} {tg x y z : Expr} {a b d e : E} {pos pos' : Pos} {W : Nat → Hp → Prop}
theorem each_of {M : Hp} : ∀ {vs : List V} {us : List Value} {ds : List PyData}, Vals vs us → RpAll M vs ds → PySem.W.EachIs (fun v b => ∃ w, RelV w v ∧ Rp M w b) us ds
  | _, _, _, .nil, .nil => .nil
  | _, _, _, .cons r rs, .cons h hs => .cons ⟨_, r, h⟩ (each_of rs hs)
theorem each_back {M : Hp} : ∀ {us : List Value} {ds : List PyData}, PySem.W.EachIs (fun v b => ∃ w, RelV w v ∧ Rp M w b) us ds → ∃ vs, Vals vs us ∧ RpAll M vs ds
  | _, _, .nil => ⟨[], .nil, .nil⟩
  | _, _, .cons ⟨w, r, h⟩ t => by
    obtain ⟨vs, a, b⟩ := each_back t
    exact ⟨w :: vs, .cons r a, .cons h b⟩
theorem each_reads {pins : List (Addr × Obj)} {σ : L2.St} {H : Hp} {s : Shared} {F : List Addr} (I : Inv X pins σ H s) : ∀ {vs : List V} {us : List Value} {ds : List PyData}, PyData.plainAll ds = true → Vals vs us → RpAll (vw H F) vs ds → PySem.W.EachIs (fun v b => ∃ as, Reads s.heap v (id b) as) us ds
  | _, _, _, _, .nil, .nil => .nil
  | _, _, _, hp, .cons r rs, .cons h hs => by
    simp only [PyData.plainAll, Bool.and_eq_true] at hp
    exact .cons (h.reads I hp.1 r) (each_reads I hp.2 rs hs)
theorem sortable_of {xs : List PyData} (h : sOk xs = true) : (∀ d, d ∈ xs → ∃ ys, d = .tuple ys) ∨ PySem.W.Sortable xs := by
  unfold sOk at h
  rw [Bool.and_eq_true, Bool.and_eq_true, Bool.or_eq_true, Bool.or_eq_true] at h
  obtain ⟨⟨_, h2⟩, _⟩ := h
  rcases h2 with (h2 | h2) | h2
  · refine .inl fun d hd => ?_
    have h3 := List.all_eq_true.mp h2 d hd
    match d, h3 with
    | .tuple r, _ => exact ⟨r, rfl⟩
  · refine .inr (.inr fun d hd => ?_)
    have h3 := List.all_eq_true.mp h2 d hd
    match d, h3 with
    | .int _, _ => exact ⟨(fun z => nomatch z), fun _ z => nomatch z⟩
  · refine .inr (.inr fun d hd => ?_)
    have h3 := List.all_eq_true.mp h2 d hd
    match d, h3 with
    | .str _, _ => exact ⟨(fun z => nomatch z), fun _ z => nomatch z⟩
theorem d_sorted (hc : X.calm = true) (hu : X.A.units + 20 < cLine) : CallR X (.builtin "sorted") (rc1 W .sorted) := by
  intro pins s σ H xs us Q I r h
  obtain ⟨x, d, F, rfl, dm, rd, nl, pk⟩ := h
  cases d <;> try exact pk.elim
  · rename_i ds
    obtain ⟨hg, pk⟩ := Pk.gdd (show Pk W H F Q (gd (sOk ds && decide (ds.length ≤ SZ)) (.ok (.list (srt ds)))) from pk)
    rw [Bool.and_eq_true] at hg
    obtain ⟨hs, hl⟩ := hg
    obtain ⟨h1, h2, h3, h4, h5⟩ := sOk_alike hs
    obtain ⟨a, vs, rfl, ha, ra⟩ := rd.list
    obtain ⟨u, rfl, rx⟩ := vals1 r
    cases rx
    obtain ⟨its, rv, p, hz⟩ := I.list (SqL.of ha)
    have hlen : ds.length ≤ sizeLine := szLe (of_decide_eq_true hl)
    have fin : ∀ out : List Value, out.length = ds.length → PySem.W.EachIs (fun v b => ∃ w, RelV w v ∧ Rp (vw H F) w b) out (ds.mergeSort (PySem.W.dataLe false id)) → EP X pins σ Q (.ref (s.heap.objs.size + 1)) { s with heap := PyProof.Rows.sortedAll s.heap its (List.toArray out) } := fun out ho eo => by
      obtain ⟨ws, w1, w2⟩ := each_back eo
      obtain ⟨n, hn⟩ := PyProof.Rows.sortedAll_at s.heap its out.toArray
      have hws : ws.length ≤ sizeLine := by
        rw [w1.length, ho]
        exact hlen
      have hf := I.hok.fresh (a := s.heap.objs.size + 1) (Nat.le_succ _)
      obtain ⟨g, rn⟩ := Rp.newL dm hf w2
      refine ⟨.ref (s.heap.objs.size + 1), _, I.laid (t' := s.toks) (o := .lst ws) (fun b ob e => PyProof.Rows.sortedAll_old e) (Nat.le_succ _) ⟨hws, out, n, w1, hn⟩, rfl, ?_⟩
      exact pk _ _ g rn
    have hdp : ∀ b ∈ ds, X.A.units + 2 + (id b : PyData).depth < cLine := fun b hb => by
      have := h5 b hb
      show X.A.units + 2 + b.depth < cLine
      omega
    rcases sortable_of hs with ht | ht
    · exact sorted_tups (enc := id) p.isList (each_of rv ra) (each_reads I h3 rv ra) (by rw [List.map_id]; exact h1) (by rw [List.map_id]; exact ht) hlen hdp fin
    · exact PySem.W.sorted_data (enc := id) p.isList (each_of rv ra) (each_reads I h3 rv ra) (by rw [List.map_id]; exact h1) (by rw [List.map_id]; exact ht) hlen hdp fin
  · rename_i ps
    have pk : Pk W H F Q (op (txtsOf (ps.map (·.1))) >>= fun ks => gd (decide (ks.length < 64)) (.ok (.list ((ks.mergeSort fun a b => !decide (chs b < chs a)).map PyData.str)))) := pk
    cases q : txtsOf (ps.map (·.1)) with
    | none =>
      rw [q] at pk
      exact pk.elim
    | some ks =>
      rw [q] at pk
      obtain ⟨h64, pk⟩ := Pk.gdd (show Pk W H F Q (gd (decide (ks.length < 64)) (.ok (.list ((ks.mergeSort fun a b => !decide (chs b < chs a)).map PyData.str)))) from pk)
      obtain ⟨a, kvs, rfl, ha, ra⟩ := rd.dict
      refine call_sortedD hc pins s σ H _ us Q I r ⟨a, kvs, ks, rfl, ha, d_sortedD ra q, of_decide_eq_true h64, fun ys p hp hs np => ?_⟩
      obtain ⟨g, rn⟩ := Rp.newL dm np (RpAll.strL ys)
      rw [← sortS_eq hp hs] at pk
      exact pk _ _ g rn
end
end TD
/-! The context of a def's body; built-in functions by their names. -/
namespace TD
open PySem PySem.Spec PyProof.Rows L2
variable [Tb] [Er]
/-- what is known of the names of a body -/
structure Sx where
  N : List Str
  sc : Scope
  fb : Str → Bool
  gv : Str → Option PyData
  gf : Str → Option Nat
  mx : Str
  /-- the classes of refusals -/
  ge : Str → Option Nat
  /-- a lambda may be made here; _law_told may be asked -/
  lm : Bool
  tl : Bool
def relS (scope sc : Scope) : Scope :=
  { scope with names := scope.names.map fun (n, k) => if (k == .free && sc.kind == .function && sc.names.lookup n == some .cell) then (n, .cell) else (n, k) }
def Sx.blk (S : Sx) (scope : Scope) : Sx := { S with sc := relS scope S.sc, fb := fun x => scope.names.lookup x == some .cell, lm := false, tl := false }
def biL : List Str := ["len", "sum", "abs", "min", "max", "sorted", "all", "any", "list", "tuple", "dict", "int", "str", "range", "enumerate", "zip", "isinstance", "repr", "set", "bool"]
def isBi (x : Str) : Bool := biL.contains x
/-- a drawn number's def -/
def spMix (K : PySem.W.Frag) : Sp := fun vs H Q _ => ∃ (a : Addr) (ns : List Int) (k : Int), vs = [.ref a, .int k] ∧ SqL K H a (ns.map V.int) ∧ 0 ≤ k ∧ k < 1000000 ∧ ∀ H', Gr H H' → Q (.int (mixedF ns k)) H'
structure MixAt (X : Cx) (x : Str) : Prop where
  ex : ∃ (k : Nat) (a : Addr) (fd : FuncData) (ps : List Str), FnOk X.prog X.w X.K X.mg X.base CX0 k a fd ps (spMix X.K) ∧ Room k X.A ∧ X.mg x = some (.ref a) ∧ PySem.W.keepIn X.K (.ref a) = true ∧ Binds X.K fd ps []
/-- lambdas that are made here are kept in a known table -/
structure LamAt (X : Cx) : Prop where
  ex : ∃ c P, LamX.TabB X.base X.mg c P ∧ X.env.code = .ref c ∧ (P, X.env.qual ++ "<lambda>") ∈ Tb.T ∧ ∀ p ∈ Tb.T, p.1 = P → p.2 = X.env.qual ++ "<lambda>"
/-- what _law_told makes of a deed -/
def TTd : (XK → Hp → VK → Prop) → Hp → VK → Prop := fun tl H Q =>
  tl (fun cls d H1 => ∃ k, cls = Tb.cl k ∧ d = none ∧ k < 5 ∧ ∀ (p : Addr) (o : Obj) (H2 : Hp), Gr H1 H2 → Nw H1 p → H2 p = some (.frz o (.tup [.str "refused", .int (k : Int)])) → o.dict = none → Q (.ref p) H2) H
    (fun v H1 => ∀ (p : Addr) (o : Obj), H1 p = none → o.dict = none → Q (.ref p) (upd H1 p (.frz o (.tup [.str "told", v]))))
/-- _law_told is the def that asks a deed -/
structure ToldAt (X : Cx) (S : Sx) (c : C) : Prop where
  ex : ∃ (k : Nat) (g : Addr) (a : Str) (pg : Arguments) (bg : List Stmt) (sg : Scope) (dV kV doc pm cdv ct oc : Value) (an od : Option Addr) (osl : Array (Option Value)) (Ng : List Str), X.mg "_law_told" = some (.ref g) ∧ PySem.W.keepIn X.K (.ref g) = true ∧
    X.K.lookup g = some ⟨oc, od, .func (PySem.W.fnOf "_law_told" "_law_told" pg bg sg dV kV doc pm an cdv ct), osl⟩ ∧ PySem.W.codeIn X.K cdv "_law_told" = true ∧ L2.Binds X.K (PySem.W.fnOf "_law_told" "_law_told" pg bg sg dV kV doc pm an cdv ct) [a] [] ∧ FnScope Ng [a] sg ∧ Ng[0]? = some a ∧ Vis sg a ∧
    (a == ("__debug__" : Str)) = false ∧ (a == ("__classdict__" : Str)) = false ∧ (∀ q, LamX.GivesTo X Ng "_law_told" sg g cdv bg a q TTd) ∧ Room (k + 2) X.A ∧
    (∃ (a : Addr) (fd : FuncData) (ps : List Str), FnOk X.prog X.w X.K X.mg X.base CX0 k a fd ps (spMix X.K) ∧ X.mg S.mx = some (.ref a) ∧ PySem.W.keepIn X.K (.ref a) = true ∧ Binds X.K fd ps []) ∧
    ∀ nm f, S.gf nm = some f → ∃ (a : Addr) (fd : FuncData) (ps : List Str), FnOk X.prog X.w X.K X.mg X.base (L2.CX X.prog X.w) k a fd ps (spC c.call f) ∧ X.mg nm = some (.ref a) ∧ PySem.W.keepIn X.K (.ref a) = true ∧ Binds X.K fd ps []
structure Gd (X : Cx) (S : Sx) (c : C) : Prop where
  N : X.N = S.N
  sc : X.env.scope = S.sc
  kind : S.sc.kind = .function
  fb : ∀ x, X.fn x = S.fb x
  nd : X.N.Nodup
  calm : X.calm = true
  units : X.A.units + 200 < cLine
  gv : ∀ x d, S.gv x = some d → ∃ v u, X.mg x = some u ∧ RelV v u ∧ ∀ M : Hp, Rp M v d
  gf : c.nl = true → ∀ x f, S.gf x = some f → FnAt X c.call x f
  bi : ∀ x, isBi x = true → X.mg x = none
  mx : MixAt X S.mx
  lm : S.lm = true → LamAt X
  tl : S.tl = true → c.nl = true → ToldAt X S c
theorem Gd.lock {X : Cx} {S : Sx} {c : C} (g : Gd X S c) : Gd X S c.lock := ⟨g.N, g.sc, g.kind, g.fb, g.nd, g.calm, g.units, g.gv, (fun z => nomatch z), g.bi, g.mx, g.lm, fun _ z => nomatch z⟩
theorem rel_eq (scope : Scope) (env : PySem.Env) : relabel scope env = relS scope env.scope := rfl
theorem Gd.blk {X : Cx} {S : Sx} {c : C} (g : Gd X S c) {scope : Scope} (hk : scope.kind = .function) (s : Shared) (H : Hp) (C : Addr) (cl : List (Str × Addr)) (fp : List Addr) : Gd (X.blk s H scope (compEnvC scope cl C X.env) fp) (S.blk scope) c where
  N := g.N
  sc := by
    show relabel scope X.env = relS scope S.sc
    rw [rel_eq, g.sc]
  kind := hk
  fb := fun x => rfl
  nd := g.nd
  calm := g.calm
  units := g.units
  gv := g.gv
  gf := fun n x f e => ⟨(g.gf n x f e).ex⟩
  bi := g.bi
  mx := ⟨g.mx.ex⟩
  lm := fun z => nomatch z
  tl := fun z => nomatch z
def Sx.gl (S : Sx) (x : Str) : Bool := S.sc.names.lookup x == some .globalImplicit && !(x == ("__debug__" : Str))
def Sx.vis (S : Sx) (x : Str) : Bool := (S.sc.names.lookup x == some .local || S.sc.names.lookup x == some .cell || S.sc.names.lookup x == some .free) && !(x == ("__debug__" : Str)) && !(x == ("__classdict__" : Str))
section
variable {X : Cx} {S : Sx} {f0 : List Addr} {c : C} {tg x y z : Expr} {a b d e : E} {pos pos' : Pos}
theorem Gd.gl (g : Gd X S c) {x : Str} (h : S.gl x = true) : Gl X x ∧ (x == ("__debug__" : Str)) = false := by
  unfold Sx.gl at h
  rw [Bool.and_eq_true, beq_iff_eq, Bool.not_eq_true'] at h
  refine ⟨?_, h.2⟩
  show X.env.scope.names.lookup x = _
  rw [g.sc]
  exact h.1
theorem Gd.vis (g : Gd X S c) {x : Str} (h : S.vis x = true) : Vis X.env.scope x ∧ (x == ("__debug__" : Str)) = false ∧ (x == ("__classdict__" : Str)) = false := by
  unfold Sx.vis at h
  rw [Bool.and_eq_true, Bool.and_eq_true, Bool.or_eq_true, Bool.or_eq_true, beq_iff_eq, beq_iff_eq, beq_iff_eq, Bool.not_eq_true', Bool.not_eq_true'] at h
  obtain ⟨⟨h1, h2⟩, h3⟩ := h
  refine ⟨?_, h2, h3⟩
  unfold Vis
  rw [g.sc]
  rcases h1 with (h1 | h1) | h1
  · exact .inl h1
  · exact .inr (.inl h1)
  · exact .inr (.inr h1)
/-! ### built-in functions by name -/
def bNm : B → Option Str
  | .len => some "len"
  | .sum => some "sum"
  | .abs => some "abs"
  | .min => some "min"
  | .max => some "max"
  | .sorted => some "sorted"
  | .all => some "all"
  | .any => some "any"
  | .list => some "list"
  | .tuple => some "tuple"
  | .dict => some "dict"
  | .int => some "int"
  | .str => some "str"
  | _ => none
theorem pk_len {H : Hp} {F : List Addr} {Q : VK} {p : PyData} (h : Pk W0 H F Q (lenD p)) : ∃ n, lenD p = .ok (.int n) ∧ Q (.int n) H := by
  cases q : lenD p with
  | ok d =>
    have hd : ∃ n, d = .int n := by
      cases p with
      | str z =>
        cases (gd_ok (show gd (decide ((chs z).length ≤ SZ)) (.ok (.int (chs z).length)) = .ok d from q)).2
        exact ⟨_, rfl⟩
      | list l => cases q; exact ⟨_, rfl⟩
      | tuple l => cases q; exact ⟨_, rfl⟩
      | dict l => cases q; exact ⟨_, rfl⟩
      | _ => cases q
    obtain ⟨n, rfl⟩ := hd
    rw [q] at h
    exact ⟨n, rfl, h _ H (Gr.refl H) (.int _)⟩
  | err k =>
    rw [q] at h
    exact (h H (Gr.refl H)).elim
  | bad =>
    rw [q] at h
    exact h.elim
theorem boot_abs' : bootBuiltins "abs" = some (.builtin "abs") := by decide +kernel
theorem s_bi {B : B} {nm : Str} {p1 : Pos} (g : Gd X S c) (hn : bNm B = some nm) (hg : S.gl nm = true) (ha : SE X f0 c a x) (hx : nstar x = true) (hv : (B == .len && isVar a) = false) : SE X f0 c (.b1 B a) (.Call (.Name nm p1) [x] [] pos) := by
  have hb : X.mg nm = none := by
    refine g.bi nm ?_
    cases B <;> first
      | (cases hn; rfl)
      | cases hn
  obtain ⟨h1, _⟩ := g.gl hg
  have pa := (sa_cons ha hx (sa_nil (f0 := f0) (c := c))).pa
  have hu := g.units
  have st := star_cons (es := []) hx X.env
  cases B <;> cases hn
  · exact s_b1 (pe_callB (d_len (W := W0)) h1 hb boot_len pa (he := st)) hv fun vs H Q h => by
      obtain ⟨v, d, F, rfl, dm, r, _, pk⟩ := h
      obtain ⟨n, e, q⟩ := pk_len pk
      exact ⟨v, d, F, n, rfl, r, e, q⟩
  · exact s_b1 (pe_callB (d_abs (W := W0)) h1 hb boot_abs' pa (he := st)) rfl fun _ _ _ h => h
  · exact s_b1 (pe_callB (d_sum (W := W0) g.calm) h1 hb boot_sum pa (he := st)) rfl fun _ _ _ h => h
  · exact s_b1 (pe_callB (d_min (W := W0) g.calm (by omega)) h1 hb boot_min pa (he := st)) rfl fun _ _ _ h => h
  · exact s_b1 (pe_callB (d_max (W := W0) g.calm (by omega)) h1 hb boot_max pa (he := st)) rfl fun _ _ _ h => h
  · exact s_b1 (pe_callB (d_sorted (W := W0) g.calm (by omega)) h1 hb PyProof.Rows.boot_sorted pa (he := st)) rfl fun _ _ _ h => h
  · exact s_b1 (pe_callTy (d_list (W := W0) g.calm) h1 hb PyProof.Rows.boot_list pa (he := st)) rfl fun _ _ _ h => h
  · exact s_b1 (pe_callTy (d_tuple (W := W0)) h1 hb PyProof.Rows.boot_tuple pa (he := st)) rfl fun _ _ _ h => h
  · exact s_b1 (pe_callTy (d_dict (W := W0) g.calm) h1 hb PyProof.Rows.boot_dict pa (he := st)) rfl fun _ _ _ h => h
  · exact s_b1 (pe_callTy (d_int (W := W0)) h1 hb PyProof.Rows.boot_int pa (he := st)) rfl fun _ _ _ h => h
  · exact s_b1 (pe_callTy (d_str (W := W0)) h1 hb PyProof.Rows.boot_str pa (he := st)) rfl fun _ _ _ h => h
  · exact s_b1 (pe_callB (d_all (W := W0) g.calm) h1 hb boot_all pa (he := st)) rfl fun _ _ _ h => h
  · exact s_b1 (pe_callB (d_any (W := W0) g.calm) h1 hb boot_any pa (he := st)) rfl fun _ _ _ h => h
/-- len of what a name holds -/
theorem s_lenV {i : Nat} {nm : Str} {p1 p2 : Pos} (g : Gd X S c) (hg : S.gl "len" = true) (hn : PE X (.Name nm p2) (tVar i)) : SE X f0 c (.b1 .len (.var i)) (.Call (.Name "len" p1) [.Name nm p2] [] pos) := by
  obtain ⟨h1, _⟩ := g.gl hg
  refine SE.of ((pe_callB (d_len (W := W0)) h1 (g.bi _ rfl) boot_len (pa_cons hn pa_nil)).imp fun σ H Q h => ?_) rfl
  obtain ⟨ρ, F, er, n, u, pk⟩ := h
  obtain ⟨p, hp, pk⟩ := Pk.bind (show Pk W0 H F Q (Env.get ρ i >>= fun x => gd (c.nl || !needX .len x) (b1D .len x)) from pk)
  obtain ⟨_, pk⟩ := Pk.gdd pk
  obtain ⟨m, e, q⟩ := pk_len pk
  obtain ⟨v, e1, hd⟩ := er.held hp
  exact ⟨v, e1, v, p, [], m, rfl, hd.wide, e, q⟩
/-- max(i, j) -/
theorem s_mx {p1 : Pos} (g : Gd X S c) (hg : S.gl "max" = true) (ha : SE X f0 c a x) (hb : SE X f0 c b y) (hx : nstar x = true) (hy : nstar y = true) : SE X f0 c (.mx a b) (.Call (.Name "max" p1) [x, y] [] pos) := by
  obtain ⟨h1, _⟩ := g.gl hg
  refine SE.of ((pe_callB (call_max2 g.calm) h1 (g.bi _ rfl) boot_max (sa_cons ha hx (sa_cons hb hy sa_nil)).pa (he := star_cons hx _) (hpl := star_any (by rw [List.all_cons, hy]; rfl))).imp fun σ H Q h => ?_) rfl
  obtain ⟨ρ, F, er, n, u, pk⟩ := h
  obtain ⟨p, hp, pk⟩ := Pk.bind (show Pk W0 H F Q (ev c ρ a >>= fun x => intOf x >>= fun i => ev c ρ b >>= fun y => intOf y >>= fun j => R.ok (.int (if j > i then j else i))) from pk)
  obtain ⟨i, hi, pk⟩ := Pk.bind pk
  obtain ⟨q, hq, pk⟩ := Pk.bind pk
  obtain ⟨j, hj, pk⟩ := Pk.bind pk
  cases intOf_ok hi
  cases intOf_ok hj
  refine tEs_of er n (un2 u) (evs_two hp hq) fun vs H1 g1 r1 => ?_
  obtain ⟨v, w, rfl, rv, rw'⟩ := rpAll2 r1
  cases rv.intV
  cases rw'.intV
  exact ⟨i, j, rfl, (pk.gr g1).here (.int _)⟩
omit [Tb] [Er] in
theorem intsOf_map : ∀ ns : List Int, intsOf (ns.map PyData.int) = some ns
  | [] => rfl
  | t :: r => by
    show (intsOf (r.map PyData.int)).map (t :: ·) = _
    rw [intsOf_map r]
    rfl
/-- a drawn number -/
theorem s_mix {i : Nat} {nm : Str} {p1 p2 : Pos} (g : Gd X S c) (hg : S.gl S.mx = true) (hn : PE X (.Name nm p2) (tVar i)) (ha : SE X f0 c a x) (hx : nstar x = true) : SE X f0 c (.mix i a) (.Call (.Name S.mx p1) [.Name nm p2, x] [] pos) := by
  obtain ⟨h1, h2⟩ := g.gl hg
  obtain ⟨k, fa, fd, ps, Fk, hr, hm, hk, hb⟩ := g.mx.ex
  refine SE.of ((pe_call Fk hr h1 hm hk hb .nil pass0 (pa_cons hn (sa_cons ha hx (sa_nil (f0 := f0) (c := c))).pa) h2 rfl (star_any (by rw [List.all_cons, hx]; rfl))).imp fun σ H Q h => ?_) rfl
  obtain ⟨ρ, F, er, n, u, pk⟩ := h
  obtain ⟨p, hp, pk⟩ := Pk.bind (show Pk W0 H F Q (ev c ρ a >>= fun k => mixE ρ i k) from pk)
  have fin : ∀ {v : V} {ns : List Int} {m : Int}, σ[i]? = some (some v) → p = .int m → (∀ H1, Gr H H1 → ∃ aa, v = .ref aa ∧ SqL X.K H1 aa (ns.map V.int)) → 0 ≤ m ∧ m < 1000000 → (∀ H1, Gr H H1 → Q (.int (mixedF ns m)) H1) → tCall (spMix X.K) [] E0 (tCons (tVar i) (tEs (kx X f0) c (.cons a .nil))) σ H Q := by
    intro v ns m e1 em sq hm hq
    subst em
    refine ⟨v, e1, tEs_of er n (un1 u) (evs_one hp) fun vs H1 g1 r1 => ?_⟩
    obtain ⟨w, rfl, rw'⟩ := rpAll1 r1
    cases rw'.intV
    obtain ⟨aa, rfl, hs⟩ := sq H1 g1
    exact ⟨aa, ns, m, rfl, hs, hm.1, hm.2, fun H' g' => hq H' (g1.trans g')⟩
  unfold mixE at pk
  split at pk
  · rename_i ds m e1
    obtain ⟨hm, pk2⟩ := Pk.gdd pk
    cases q : intsOf ds with
    | none =>
      rw [q] at pk2
      exact pk2.elim
    | some ns =>
      rw [q] at pk2
      obtain ⟨A, o1, _, _⟩ := er.own
      obtain ⟨v, e2, s⟩ := o1 i 0 _ e1
      obtain ⟨aa, vs, rfl, h3, h4⟩ := s.2.list
      have h4 := h4.ints q
      subst h4
      exact fin e2 rfl (fun H1 g1 => ⟨aa, rfl, SqL.of (g1.same _ _ h3 rfl)⟩) (of_decide_eq_true hm) fun H1 g1 => pk2 _ H1 g1 (.int _)
  · rename_i ds m e1
    obtain ⟨hm, pk2⟩ := Pk.gdd pk
    cases q : intsOf ds with
    | none =>
      rw [q] at pk2
      exact pk2.elim
    | some ns =>
      rw [q] at pk2
      obtain ⟨A, o1, _, _⟩ := er.own
      obtain ⟨v, e2, s⟩ := o1 i 3 _ e1
      obtain ⟨_, aa, ns', rfl, hd, fz⟩ := s
      cases hd
      have he := intsOf_map ns'
      rw [he] at q
      cases q
      exact fin e2 rfl (fun H1 g1 => ⟨aa, rfl, (fz.gr g1).sq⟩) (of_decide_eq_true hm) fun H1 g1 => pk2 _ H1 g1 (.int _)
  · exact pk.elim
end
end TD
/-! Lambdas. -/
namespace TD
open PySem PySem.Spec PyProof.Rows L2
variable [Tb] [Er]
section
variable {X : Cx} {S : Sx} {f0 : List Addr} {c : C} {tg x y z : Expr} {a b d e : E} {pos pos' : Pos} {pins : List (Addr × Obj)} {σ : L2.St} {H : Hp} {s : Shared}
/-- the object of a lambda -/
abbrev lamO (X : Cx) (ps : Arguments) (bd : Expr) (sc : Scope) (pm : Value) (k : Addr) (tv : Value) : Obj := PySem.W.kla_obj "<lambda>" (X.env.qual ++ "<lambda>") ps bd sc (cloFrom X.env.cells sc.names []) pm k tv
/-- a table that holds one more -/
theorem gr_tab {q : Str} {P k : Addr} {ps more : Array Value} (hP : H P = some (.tbl ps)) (nk : H k = none) (hu : ∀ p ∈ Tb.T, p.1 = P → p.2 = q) (ht : TriplesOk (ps ++ more).toList) (hc : ∀ pos cv, codeAmong pos (ps ++ more).toList = some cv → codeAmong pos ps.toList = some cv ∨ cv = .ref k) : Gr H (upd (upd H P (.tbl (ps ++ more))) k (LamX.CodeO k q)) := by
  have hPk : P ≠ k := ne_of_none hP nk
  have keep : ∀ b o, H b = some o → isT o = false → upd (upd H P (.tbl (ps ++ more))) k (LamX.CodeO k q) b = some o := fun b o h i => by
    have h1 : b ≠ k := ne_of_none h nk
    have h2 : b ≠ P := fun z => by
      rw [z, hP] at h
      cases h
      cases i
    rw [upd_ne h1, upd_ne h2]
    exact h
  refine ⟨keep, ⟨fun b o u h => ?_, fun t p hp => ?_⟩⟩
  · by_cases h1 : b = k
    · rw [h1, upd_same] at h
      cases h
    · by_cases h2 : b = P
      · rw [upd_ne h1, h2, upd_same] at h
        cases h
      · rw [upd_ne h1, upd_ne h2] at h
        exact h
  · obtain ⟨qs, t1, t2, t3⟩ := t p hp
    by_cases h2 : p.1 = P
    · rw [h2, hP] at t1
      cases t1
      rw [hu p hp h2] at t3
      rw [hu p hp h2, h2]
      refine ⟨_, by rw [upd_ne hPk]; exact upd_same, ht, fun ps' cv hcv => ?_⟩
      rcases hc ps' cv hcv with w | w
      · obtain ⟨j, w1, w2⟩ := t3 ps' cv w
        exact ⟨j, w1, keep _ _ w2 rfl⟩
      · exact ⟨k, w, upd_same⟩
    · refine ⟨qs, ?_, t2, fun ps' cv hcv => ?_⟩
      · rw [upd_ne (ne_of_none t1 nk), upd_ne h2]
        exact t1
      · obtain ⟨j, w1, w2⟩ := t3 ps' cv hcv
        exact ⟨j, w1, keep _ _ w2 rfl⟩
theorem lam_new {ps : Arguments} {bd : Expr} {sc : Scope} {E Q : Value → Shared → Prop} (I : Inv X pins σ H s) (L : LamAt X) (nl : NL H) (hd : defaultsOf ps X.env = ([], [])) (hf : ∀ y ∈ sc.names, y.2 = .free → ∃ c, X.env.cells.lookup y.1 = some c)
    (fin : ∀ (f k : Addr) (pm tv : Value) (H1 : Hp) (s1 : Shared), Inv X pins σ H1 s1 → Gr H H1 → s1.heap.get? f = some (lamO X ps bd sc pm k tv) → H1 f = none → f ∉ frs X.stack → H1 k = some (LamX.CodeO k (X.env.qual ++ "<lambda>")) → X.base.objs.size ≤ f → Q (.ref f) s1) :
    wpAny (model X.prog X.w) X.A (eval (.Lambda ps bd sc pos) X.env) Q E s := by
  obtain ⟨k0, P, TB, hk, hm, hu⟩ := L.ex
  obtain ⟨tab, hP, tOk, tIn⟩ := nl.tb _ hm
  have out : ∀ f, s.heap.objs.size ≤ f → f ∉ frs X.stack := fun f le w => (List.mem_cons.mp (I.stkSub _ w)).elim (fun q => by
    have w2 := I.lt
    rw [← q] at w2
    exact absurd (Nat.lt_of_lt_of_le w2 le) (Nat.lt_irrefl _)) (I.nofs le)
  have hPh : s.heap.get? P = some { cls := .none, data := .fields tab } := I.hok P _ hP
  refine PySem.W.kla_eval hd ?_
  cases q : codeAmong pos tab.toList with
  | some cv =>
    obtain ⟨k, rfl, hco⟩ := tIn pos cv q
    refine PySem.W.kla_makeFunctionHit (mg := X.mg) (c := k0) (P := P) (ps := tab) (closure_ok hf) I.ok.glob (I.mod.glob.keeps I.bk) hk (TB.code.keeps I.bk) hPh tOk q (TB.bm.keeps I.bk) fun tv h1 tk up le => ?_
    exact fin h1.objs.size k _ tv H _ (I.kept fun b o w => Heap.get?_push_of_some _ (up b o w)) (Gr.refl H) (Heap.get?_push_size _ rfl) (I.hok.fresh le) (out _ le) hco (Nat.le_trans I.env0.bsz le)
  | none =>
    refine PySem.W.kla_makeFunction (mg := X.mg) (c := k0) (P := P) (ps := tab) (closure_ok hf) I.ok.glob (I.mod.glob.keeps I.bk) hk (TB.code.keeps I.bk) hPh tOk q TB.gP (TB.bm.keeps I.bk) fun k tv h1 tk up ge lt rec htb => ?_
    obtain ⟨k', oc, vs, t, w, w1, w2, w3⟩ := rec
    cases w
    have le : s.heap.objs.size ≤ h1.objs.size := Nat.le_trans ge (Nat.le_of_lt lt)
    have nk : H k = none := I.hok.fresh ge
    have eL : (tab ++ #[rawInt pos.line, rawInt pos.col, .ref k]).toList = tab.toList ++ [rawInt pos.line, rawInt pos.col, .ref k] := by simp
    have gr := gr_tab (more := #[rawInt pos.line, rawInt pos.col, .ref k]) hP nk hu (by rw [eL]; exact PySem.TriplesOk_snoc _ _ _ _ tOk) fun p' cv hcv => LamX.among_app _ tOk (by rw [← eL]; exact hcv)
    refine fin h1.objs.size k _ tv _ _ (LamX.inv_table (t' := tk) (h' := h1.push (lamO X ps bd sc ((X.mg "__name__").getD .none) k tv)) I hP (fun b o ne w => Heap.get?_push_of_some _ (up b o ne w)) (Heap.get?_push_of_some _ htb) ge ⟨oc, vs, t, Heap.get?_push_of_some _ w1, w2, w3⟩) gr (Heap.get?_push_size _ rfl) ?_ (out _ le) upd_same (Nat.le_trans I.env0.bsz le)
    have n1 : h1.objs.size ≠ k := by omega
    have n2 : h1.objs.size ≠ P := Nat.ne_of_gt (Nat.lt_of_lt_of_le (Heap.lt_size hPh) le)
    rw [upd_ne n1, upd_ne n2]
    exact I.hok.fresh le
/-- what a deed's reading is asked for -/
def tDeed (t : XK → TE) : TE := fun σ H Q => NL H ∧ ∀ H1, Gr H H1 → TTd (fun E H' Q' => t E σ H' Q') H1 Q
/-- _law_told(lambda: body) -/
theorem pe_deed {ps : Arguments} {bd : Expr} {sc : Scope} {t : XK → TE} {p lpos : Pos} (T : ToldAt X S c) (L : LamAt X) (hg : Gl X "_law_told") (LS : LamX.LamS X.env.scope sc) (hd : defaultsOf ps X.env = ([], []))
    (hbind : ∀ (q : Str) (cl : List (Str × Addr)) (pm cv tv : Value), bindArgs (PySem.W.kla_fn "<lambda>" q ps bd sc cl pm cv tv) ⟨[], []⟩ = pure [])
    (hbody : ∀ k, (∃ (a : Addr) (fd : FuncData) (ps : List Str), FnOk X.prog X.w X.K X.mg X.base CX0 k a fd ps (spMix X.K) ∧ X.mg S.mx = some (.ref a) ∧ PySem.W.keepIn X.K (.ref a) = true ∧ Binds X.K fd ps []) → (∀ nm f, S.gf nm = some f → ∃ (a : Addr) (fd : FuncData) (ps : List Str), FnOk X.prog X.w X.K X.mg X.base (L2.CX X.prog X.w) k a fd ps (spC c.call f) ∧ X.mg nm = some (.ref a) ∧ PySem.W.keepIn X.K (.ref a) = true ∧ Binds X.K fd ps []) → ∀ (A : Around) (outer : List PySem.Env) (s : Shared) (H : Hp) (E : XK) (f c' : Addr), Room k (A.deeper (LamX.lamEnv X sc s.heap.objs.size f c')) → PE (LamX.lamCx X A outer s H E sc f c') bd (t E)) :
    PE X (.Call (.Name "_law_told" p) [.Lambda ps bd sc lpos] [] pos) (tDeed t) := by
  obtain ⟨k, g, a, pg, bg, sg, dV, kV, doc, pm, cdv, ct, oc, an, od, osl, Ng, hm, hk, lk, hcg, hb, Sg, hN, hv, ha1, ha2, hG, hr, hmx, hgf⟩ := T.ex
  refine ⟨fun pins s σ H Q I w => ?_⟩
  obtain ⟨nl, w⟩ := w
  refine wpAny_Call_Name_kw (ld_glob I hg hm (PySem.W.callWith_K (h₀ := X.base) I.ok.mod.kin hk ?_ (by rfl) (by rfl)) (by decide))
  show wpAny _ _ (spliced ((false, eval (.Lambda ps bd sc lpos) X.env) :: backTo pos (starEach [] X.env))) _ _ s
  refine Calls.spliced_cons (lam_new I L nl hd (LS.has I.ok) fun f k' pm' tv H1 s1 I1 g1 hf hfn hfr hco _ => Calls.spliced_nil ⟨I1.kIn, ?_⟩)
  have run : codeAny (model X.prog X.w) X.A (.call (.ref g) ⟨[.ref f], []⟩) (CR C8.CX0 X.stack X.prog X.w H1 s1 Q C8.E0) s1 := by
    refine LamX.run_ofS (N := Ng) (ps := [a]) (us := [.ref f]) (vs := [.ref f]) lk hcg Sg hr I1.env0 (hb s1 [.ref f] I1.kIn rfl) (.cons rfl .nil) rfl fun hr' => ?_
    obtain ⟨t', u1, u2⟩ := hG (X.env.qual ++ "<lambda>") f k' s1 H1 Q (fun E H' Q' => t E σ H' Q') (fun W pn xe E p1 p2 tk hW => LamX.pe_act (i := 0) I1 LS hf hfn hfr (hbind _ _ _ _ _) tk hW hr' (fun A outer s H hr2 => hbody k hmx hgf A outer s H E f k' hr2) hN hv ha1 ha2) hco (w H1 g1)
    exact ⟨t', u1.nox, u2⟩
  refine wpAny_call (codeAny_mono run fun r s2 hq => ?_)
  match r, hq with
  | .ok (.ret u), hq => exact I1.after hq
def Sx.lam (S : Sx) (sc : Scope) : Sx := { S with sc := sc, fb := fun _ => false, lm := false, tl := false }
theorem Gd.lam (g : Gd X S c) {sc : Scope} (hk : sc.kind = .function) {k : Nat} {A : Around} {outer : List PySem.Env} {s : Shared} {H : Hp} {E : XK} {f c' : Addr} (hr : Room k (A.deeper (LamX.lamEnv X sc s.heap.objs.size f c')))
    (hmx : ∃ (a : Addr) (fd : FuncData) (ps : List Str), FnOk X.prog X.w X.K X.mg X.base CX0 k a fd ps (spMix X.K) ∧ X.mg S.mx = some (.ref a) ∧ PySem.W.keepIn X.K (.ref a) = true ∧ Binds X.K fd ps [])
    (hgf : ∀ nm f, S.gf nm = some f → ∃ (a : Addr) (fd : FuncData) (ps : List Str), FnOk X.prog X.w X.K X.mg X.base (L2.CX X.prog X.w) k a fd ps (spC c.call f) ∧ X.mg nm = some (.ref a) ∧ PySem.W.keepIn X.K (.ref a) = true ∧ Binds X.K fd ps []) : Gd (LamX.lamCx X A outer s H E sc f c') (S.lam sc) c where
  N := g.N
  sc := rfl
  kind := hk
  fb := fun _ => rfl
  nd := g.nd
  calm := rfl
  units := by
    have := hr.un
    show (A.deeper (LamX.lamEnv X sc s.heap.objs.size f c')).units + 200 < cLine
    omega
  gv := g.gv
  gf := fun _ nm f e => by
    obtain ⟨a, fd, ps, h1, h2, h3, h4⟩ := hgf nm f e
    exact ⟨k, a, fd, ps, h1, hr, h2, h3, h4⟩
  bi := g.bi
  mx := by
    obtain ⟨a, fd, ps, h1, h2, h3, h4⟩ := hmx
    exact ⟨k, a, fd, ps, h1, hr, h2, h3, h4⟩
  lm := fun z => nomatch z
  tl := fun z => nomatch z
/-- a deed: one call of a def -/
theorem s_told {f : Nat} {es : Es} {ys : List Expr} {nm : Str} {ps : Arguments} {sc : Scope} {p lpos q1 q2 : Pos} (g : Gd X S c) (hl : S.lm = true) (ht : S.tl = true) (hgl : S.gl "_law_told" = true) (LS : LamX.LamS S.sc sc) (hd : ∀ env, defaultsOf ps env = ([], []))
    (hbind : ∀ (q : Str) (bd : Expr) (cl : List (Str × Addr)) (pm cv tv : Value), bindArgs (PySem.W.kla_fn "<lambda>" q ps bd sc cl pm cv tv) ⟨[], []⟩ = pure [])
    (hgn : (S.lam sc).gl nm = true) (hf : S.gf nm = some f) (ho : one1 es = false) (hs : ∀ {Y : Cx}, Gd Y (S.lam sc) c → SA Y f0 c es (y :: ys)) :
    SE X f0 c (.told f es) (.Call (.Name "_law_told" p) [.Lambda ps (.Call (.Name nm q1) (y :: ys) [] q2) sc lpos] [] pos) := by
  by_cases hn : c.nl = true
  · refine SE.of ((pe_deed (t := fun E => @tT _ ⟨fun k H' => E (Tb.cl k) none H'⟩ (kx X f0) c (.fn f es)) (g.tl ht hn) (g.lm hl) (g.gl hgl).1 (by rw [g.sc]; exact LS) (hd _) (fun q => hbind q _) (fun k hmx hgf A outer s H E f' c' hr => ?_)).imp fun σ H Q h => ?_) rfl
    · have gl := g.lam (outer := outer) (H := H) (E := E) LS.kind hr hmx hgf
      letI : Er := ⟨fun k H' => E (Tb.cl k) none H'⟩
      refine st_fn (X := LamX.lamCx X A outer s H E sc f' c') (gl.gf hn nm f hf) ?_ (gl.gl hgn).1 (gl.gl hgn).2 ho (hs gl)
      refine passes_call (W := fun cls d _ H => E cls d H) (takes_of rfl rfl rfl rfl) fun cls d σ H z => ?_
      obtain ⟨k, rfl, rfl, z⟩ := z
      exact z
    · obtain ⟨ρ, F, er, n, u, pk⟩ := h
      obtain ⟨ds, hds, pk⟩ := Pk.bind (show Pk W0 H F Q (evs c ρ es >>= fun xs => gd c.nl (toldR (c.call f xs))) from pk)
      obtain ⟨_, pk⟩ := Pk.gdd pk
      refine ⟨n hn, fun H1 g1 => ⟨ρ, F, er.gr g1, nl_gr n g1, u, ?_⟩⟩
      rw [evT_fn ho, hds]
      show Pk _ H1 F _ (gd c.nl (c.call f ds))
      rw [hn]
      show Pk _ H1 F _ (c.call f ds)
      cases q : c.call f ds with
      | ok d =>
        rw [q] at pk
        intro v H2 g2 r2 p' o hp' ho'
        have dm2 := er.dm.gr (g1.trans g2).same
        obtain ⟨g3, r3⟩ := Rp.newT dm2 hp' ho' (.cons (.str "told") (.cons r2 .nil))
        exact pk _ _ (g1.trans (g2.trans g3)) r3
      | err k =>
        rw [q] at pk
        obtain ⟨h5, pk⟩ := Pk.gdd (show Pk W0 H F Q (gd (decide (k < 5)) (.ok (.tuple [.str "refused", .int (k : Int)]))) from pk)
        intro H2 g2
        refine ⟨k, rfl, rfl, of_decide_eq_true h5, fun p' o H3 g3 nw e3 ho' => ?_⟩
        refine pk _ _ (g1.trans (g2.trans g3)) (.tup (xs := [.str "refused", .int (k : Int)]) ?_ (.cons (.str _) (.cons (.int _) .nil)))
        rw [vw_of ((er.dm.gr (g1.trans g2).same).nw nw) e3, stp_tupF ho']
      | bad =>
        rw [q] at pk
        exact pk.elim
  · have bad : ∀ σ H Q, tE (kx X f0) c (.told f es) σ H Q → False := fun σ H Q t => by
      obtain ⟨ρ, F, er, n, u, pk⟩ := t
      obtain ⟨ds, hds, pk⟩ := Pk.bind (show Pk W0 H F Q (evs c ρ es >>= fun xs => gd c.nl (toldR (c.call f xs))) from pk)
      exact hn (Pk.gdd pk).1
    exact SE.of ⟨fun pins s σ H Q I t => (bad σ H Q t).elim⟩ rfl
/-! ### isinstance -/
def tyD : PyData → String
  | .none => "NoneType"
  | .bool _ => "bool"
  | .int _ => "int"
  | .str _ => "str"
  | .list _ => "list"
  | .tuple _ => "tuple"
  | .dict _ => "dict"
theorem Rp.tyx {K : PySem.W.Frag} {H : Hp} {F : List Addr} {v : V} {d : PyData} (r : Rp (vw H F) v d) : TyX K H v (.type (tyD d)) := by
  cases r with
  | non => exact .base .non
  | bl b => exact .base (.bl b)
  | int i => exact .base (.int i)
  | str x => exact .base (.str x)
  | lst h _ => exact .base (.lst (ex_vw h fun _ => stp_lst))
  | tup h _ =>
    obtain ⟨o, e, _⟩ := tupAt_vw h
    exact .fTuple e
  | dct h _ =>
    rcases rdD_vw h with e | ⟨o, e⟩
    · exact .base (.dK e)
    · exact .fDict e
theorem kit_isi {K : PySem.W.Frag} {t : Nat} {T : Str} {n : String} (d : PyData) (h : (t = 0 ∧ n = "int") ∨ (t = 1 ∧ n = "bool") ∨ (t = 2 ∧ n = "str") ∨ (t = 3 ∧ n = "tuple") ∨ (t = 4 ∧ n = "list")) : PySem.W.kitOne K (.type (tyD d)) (.type n) = some (isiD t d) := by
  rcases h with ⟨rfl, rfl⟩ | ⟨rfl, rfl⟩ | ⟨rfl, rfl⟩ | ⟨rfl, rfl⟩ | ⟨rfl, rfl⟩ <;> cases d <;> (refine kit_ty ?_; dsimp only [tyD, isiD]; decide +kernel)
theorem s_isi {t : Nat} {T : Str} {n : String} {p1 p2 : Pos} (g : Gd X S c) (hg : S.gl "isinstance" = true) (hT : S.gl T = true) (hb : isBi T = true) (hv : bootBuiltins T = some (.type n)) (hn : (t = 0 ∧ n = "int") ∨ (t = 1 ∧ n = "bool") ∨ (t = 2 ∧ n = "str") ∨ (t = 3 ∧ n = "tuple") ∨ (t = 4 ∧ n = "list")) (hnm : T ≠ "__name__") (ha : SE X f0 c a x) (hx : nstar x = true) : SE X f0 c (.b1 (.isi t) a) (.Call (.Name "isinstance" p1) [x, .Name T p2] [] pos) := by
  obtain ⟨h1, _⟩ := g.gl hg
  obtain ⟨h2, h3⟩ := g.gl hT
  refine SE.of ((pe_callB call_isi h1 (g.bi _ rfl) PyProof.Rows.boot_isinstance (pa_cons ha.pe (pa_cons (pe_bltn (v := .ty n) h2 (g.bi T hb) hv rfl hnm h3) pa_nil) (star_cons hx _)) (he := star_cons hx _)).imp fun σ H Q h => ?_) rfl
  obtain ⟨ρ, F, er, n', u, pk⟩ := h
  have u : Un0 (cond (B.isi t == .len && isVar a) [] (gens a)) ρ := u
  obtain ⟨p, hp, pk⟩ := Pk.bind (show Pk W0 H F Q (ev c ρ a >>= fun x => gd (c.nl || !needX (.isi t) x) (b1D (.isi t) x)) from pk)
  obtain ⟨_, pk⟩ := Pk.gdd pk
  refine tE_of er n' u hp fun v H1 g1 r1 => ⟨v, .ty n, .type (tyD p), .type n, isiD t p, rfl, .ty n, r1.tyx, kit_isi (T := T) p hn, ?_⟩
  exact (pk.gr g1).here (.bl _)
end
end TD
/-! sorted(texts, key=lambda t: (len(t), t)). -/
namespace TD
open PySem PySem.Spec PyProof.Rows L2
variable [Tb] [Er]
section
variable {X : Cx} {pins : List (Addr × Obj)} {σ : L2.St} {H : Hp} {s : Shared}
/-- a name's value, all else as it was -/
theorem nm_load {i : Nat} {x : Str} {v : V} (J : Inv X pins σ H s) (hN : X.N[i]? = some x) (hk : X.env.scope.names.lookup x = some .local) (e : σ[i]? = some (some v)) (hd : (x == ("__debug__" : Str)) = false) :
    ∃ u, RelV v u ∧ ∀ {Q E : Value → Shared → Prop} {pos : Pos}, Q u s → wpAny (model X.prog X.w) X.A (eval (.Name x pos) X.env) Q E s := by
  obtain ⟨m, hn, hl⟩ := J.loc
  obtain ⟨u, r, l⟩ := hl i x v hN e (.inl hk)
  refine ⟨u, r, fun {Q E pos} q => ?_⟩
  rcases l with ⟨k1, k2⟩ | ⟨k1, _⟩
  · exact wpAny_Name (wpAny_loadName_local J.ok.kind k1 hn k2 q) hd
  · rcases k1 with k1 | k1 <;> rw [show X.env.scope.names.lookup x = _ from k1] at hk <;> cases hk
theorem clo_none (cells : List (Str × Addr)) : ∀ (ns : List (Str × NameKind)) (acc : List (Str × Addr)), (∀ y ∈ ns, y.2 ≠ .free) → cloFrom cells ns acc = acc
  | [], _, _ => rfl
  | (n, k) :: r, acc, h => by
    have hk : (k == NameKind.free) = false := beq_eq_false_iff_ne.mpr (h (n, k) List.mem_cons_self)
    unfold cloFrom
    rw [hk]
    exact clo_none cells r acc fun y hy => h y (List.mem_cons_of_mem _ hy)
theorem frames_up {h h' base : Heap} (k : ∀ b o, h.get? b = some o → h'.get? b = some o) : ∀ {l : List PySem.Env}, h.FunFrames base l → h'.FunFrames base l
  | [], _ => trivial
  | _ :: _, ⟨a, ⟨L, o, b1, b2, b3, b4⟩, c⟩ => ⟨a, ⟨L, o, b1, b2, k _ _ b3, b4⟩, frames_up k c⟩
/-- what a callee wants, nothing of the heap told -/
theorem env_up {A : Around} {h' : Heap} {tk : Nat} (I : Inv X pins σ H s) (k : ∀ b o, s.heap.get? b = some o → h'.get? b = some o) (hf : A.frames = X.A.frames) (hz : X.base.objs.size ≤ h'.objs.size) : Env0 X.prog X.w X.K X.mg X.base A X.stack { s with heap := h', toks := tk } (fun _ => none) := by
  have e := I.env0
  exact ⟨hf.trans e.frames, e.mod, fun b o q => ⟨k _ _ (e.bs b o q).1, rfl⟩, hz, frames_up k e.funs, fun _ _ => rfl, fun b o q => (nomatch q), e.bare⟩
/-- the key of a text -/
abbrev keyX (nt : Str) (p1 p2 p3 p4 p5 : Pos) (k : Nat) : Expr := .Tuple [.Call (.Name "len" p1) [.Name nt p2] [] p3, .Name nt p4] k p5
theorem key_turn {f c' : Addr} {qual nt : Str} {params : Arguments} {scope : Scope} {pm ctv : Value} {p1 p2 p3 p4 p5 : Pos} {kk : Nat} {A : Around} {outer : List PySem.Env} {x : Str} {t : Tok} (e0 : Env0 X.prog X.w X.K X.mg X.base A outer s (fun _ => none)) (hd : A.handled = none) (hroom : A.depth < recursionLimit)
    (ho : s.heap.get? f = some (PySem.W.kla_obj "<lambda>" qual params (keyX nt p1 p2 p3 p4 p5 kk) scope [] pm c' ctv)) (hcd : s.heap.CodeRec (.ref c') qual) (S : FnScope [nt] [nt] scope) (hgl : scope.names.lookup ("len" : Str) = some .globalImplicit) (hloc : scope.names.lookup nt = some .local) (hnd : (nt == ("__debug__" : Str)) = false)
    (hm : X.mg "len" = none) (hbind : bindArgs (PySem.W.kla_fn "<lambda>" qual params (keyX nt p1 p2 p3 p4 p5 kk) scope [] pm (.ref c') ctv) ⟨[.str x t], []⟩ = pure [(nt, .str x t)]) (hz : x.length ≤ sizeLine) :
    wpAny (model X.prog X.w) A (call (.ref f) [.str x t]) (PySem.W.KeyPure (keyL x) s) (fun _ _ => False) s := by
  refine wpAny_call (codeAny_mono (R := fun r s' => match r with | .ok (.ret u) => PySem.W.KeyPure (keyL x) s u s' | _ => False) ?_ fun r s' hq => ?_)
  · have lim : s.heap.NoLimit := e0.mod.nolimit.keeps fun b o e => (e0.bs b o e).1
    refine PySem.W.kla_callFunE hroom ho rfl S.co S.gen rfl hcd ?_
    rw [hbind]
    have hkind : ∀ y ∈ [(nt, Value.str x t)], scope.names.lookup y.1 = some .local ∨ (scope.names.lookup y.1 = some .cell ∧ ((cellsFrom (s.heap.objs.size + 1) scope.names []).lookup y.1).isSome = true) := fun y hy => by
      rw [List.mem_singleton.mp hy]
      exact .inl hloc
    refine wpAny_pure (wpAny_newFunctionEnv_cells S.kind hkind fun env he s1 x1 => ?_)
    subst he
    refine ⟨lim.keeps x1.toInCall.keep, ?_⟩
    show codeAny _ _ (.expr (keyX nt p1 p2 p3 p4 p5 kk) (envOfC qual scope s.heap.objs.size f (.ref c'))) _ _
    refine PySem.W.kla_codeExpr ?_
    have J : Inv (cxOf CX0 X.prog X.w X.K X.mg X.base [nt] qual scope f (.ref c') A outer s (fun _ => none) E0) [] (L2.start [nt] [.str x]) (fun _ => none) s1 := inv_start (us := [.str x t]) (vs := [.str x]) S hd e0 rfl (.cons ⟨_, rfl⟩ .nil) x1
    obtain ⟨h1, tk, rfl, kp⟩ := x1.done
    obtain ⟨u, ru, ld⟩ := nm_load (i := 0) J rfl hloc rfl hnd
    obtain ⟨tu, rfl⟩ := ru
    obtain ⟨u2, ru2, ld2⟩ := nm_load (i := 0) (J.tok (tk + 1 + 1)) rfl hloc rfl hnd
    obtain ⟨tu2, rfl⟩ := ru2
    refine wpAny_Tuple_spliced ?_
    show wpAny _ _ (spliced [(false, eval (.Call (.Name "len" p1) [.Name nt p2] [] p3) (envOfC qual scope s.heap.objs.size f (.ref c'))), (false, eval (.Name nt p4) (envOfC qual scope s.heap.objs.size f (.ref c')))]) _ _ _
    refine Calls.spliced_cons (wpAny_Call_Name_kw (ld_blt J hgl hm boot_len ?_))
    refine PyProof.Rows.callWith_builtin1 (Calls.spliced_cons (ld (Calls.spliced_nil (len_str (by have := sizeLine_eq; omega) ?_)))) rfl rfl
    refine Calls.spliced_cons (ld2 (Calls.spliced_nil ⟨by have := sizeLine_eq; show 2 ≤ _; omega, ?_⟩))
    refine ⟨_, _, rfl, fun b o q => Heap.get?_push_of_some _ (kp b o q), ?_⟩
    refine .tuple (Heap.get?_push_size _ rfl) rfl rfl ?_
    exact .cons (.int _ _) (.cons (.str _ _) .nil)
  · cases r with
    | error e => exact hq.elim
    | ok fl =>
      cases fl with
      | ret u => exact hq
      | next => exact hq.elim
      | brk => exact hq.elim
      | cont => exact hq.elim
end
end TD
namespace TD
open PySem PySem.Spec PyProof.Rows L2
variable [Tb] [Er]
section
variable {X : Cx} {f0 : List Addr} {c : C} {S : Sx} {x : Expr} {a : E} {pos : Pos}
omit [Tb] [Er] in
theorem each_strs : ∀ {ss : List Str} {us : List Value}, Vals (ss.map V.str) us → PySem.W.EachIs (fun (v : Value) (z : Str) => ∃ t, v = .str z t) us ss
  | [], us, r => by
    cases r
    exact .nil
  | z :: ss, us, r => by
    cases r with
    | cons r1 r2 => exact .cons r1 (each_strs r2)
omit [Tb] [Er] in
theorem strs_each : ∀ {ss : List Str} {us : List Value}, PySem.W.EachIs (fun (v : Value) (z : Str) => ∃ t, v = .str z t) us ss → Vals (ss.map V.str) us
  | [], us, r => by
    cases r
    exact .nil
  | z :: ss, us, r => by
    cases r with
    | cons r1 r2 => exact .cons r1 (strs_each r2)
omit [Tb] [Er] in
theorem txts_eq : ∀ {ds : List PyData} {ss : List Str}, txtsOf ds = some ss → ds = ss.map PyData.str
  | [], ss, h => by
    cases Option.some.inj h
    rfl
  | .str i :: r, ss, h => by
    cases q : txtsOf r with
    | none =>
      rw [txtsOf, q] at h
      cases h
    | some ms =>
      rw [txtsOf, q] at h
      have e : i :: ms = ss := Option.some.inj h
      rw [← e, txts_eq q]
      rfl
  | .none :: r, ss, h => by simp [txtsOf] at h
  | .bool _ :: r, ss, h => by simp [txtsOf] at h
  | .int _ :: r, ss, h => by simp [txtsOf] at h
  | .list _ :: r, ss, h => by simp [txtsOf] at h
  | .tuple _ :: r, ss, h => by simp [txtsOf] at h
  | .dict _ :: r, ss, h => by simp [txtsOf] at h
theorem rp_strs {M : Hp} : ∀ {ss : List Str} {vs : List V}, RpAll M vs (ss.map PyData.str) → vs = ss.map V.str
  | [], vs, r => by
    cases r
    rfl
  | z :: ss, vs, r => by
    cases r with
    | cons r1 r2 =>
      cases r1
      rw [rp_strs r2]
      rfl
theorem strs_rp {M : Hp} : ∀ ss : List Str, RpAll M (ss.map V.str) (ss.map PyData.str)
  | [] => .nil
  | z :: ss => .cons (.str z) (strs_rp ss)
theorem al_key (ss : List Str) : PySem.W.AllAlike (ss.map keyL) := fun d hd d' hd' => by
  obtain ⟨z, _, rfl⟩ := List.mem_map.mp hd
  obtain ⟨z', _, rfl⟩ := List.mem_map.mp hd'
  rfl
theorem sb_key (ss : List Str) : PySem.W.Sortable (ss.map keyL) := .inl fun d hd => by
  obtain ⟨z, _, rfl⟩ := List.mem_map.mp hd
  exact ⟨_, _, rfl⟩
theorem s_sortk {ps : Arguments} {sc : Scope} {nt : Str} {p1 p2 p3 p4 p5 lp kp p : Pos} {kk : Nat} (g : Gd X S c) (hl : S.lm = true) (hgs : S.gl "sorted" = true) (ha : SE X f0 c a x) (hx : nstar x = true) (hdef : ∀ env, defaultsOf ps env = ([], []))
    (hbind : ∀ (q : Str) (bd : Expr) (cl : List (Str × Addr)) (pm cv tv u : Value), bindArgs (PySem.W.kla_fn "<lambda>" q ps bd sc cl pm cv tv) ⟨[u], []⟩ = pure [(nt, u)]) (FS : FnScope [nt] [nt] sc) (hgl : sc.names.lookup ("len" : Str) = some .globalImplicit) (hloc : sc.names.lookup nt = some .local) (hnd : (nt == ("__debug__" : Str)) = false) :
    SE X f0 c (.b1 .sortk a) (.Call (.Name "sorted" p) [x] [⟨some "key", .Lambda ps (keyX nt p1 p2 p3 p4 p5 kk) sc lp, kp⟩] pos) := by
  refine SE.of ⟨fun pins s σ H Q I h => ?_⟩ rfl
  obtain ⟨ρ, F, er, n, u, pk⟩ := h
  have u : Un0 (gens a) ρ := u
  obtain ⟨q, hq, pk⟩ := Pk.bind (show Pk W0 H F Q (ev c ρ a >>= fun x => gd (c.nl || !needX .sortk x) (b1D .sortk x)) from pk)
  obtain ⟨hnl, pk⟩ := Pk.gdd pk
  have hnl2 : c.nl = true := by
    rw [Bool.or_eq_true] at hnl
    rcases hnl with z | z
    · exact z
    · cases z
  have hlist : ∃ xs, q = .list xs := by
    cases q with
    | list xs => exact ⟨xs, rfl⟩
    | _ => exact pk.elim
  obtain ⟨xs, rfl⟩ := hlist
  obtain ⟨ss, hss, pk2⟩ := Pk.bind (show Pk W0 H F Q (op (txtsOf xs) >>= fun ls => gd (decide (ls.length ≤ SZ) && ls.all fun z => decide (z.length ≤ SZ)) (.ok (.list ((ls.mergeSort (PySem.W.dataLe false keyL)).map PyData.str)))) from pk)
  have hxs := txts_eq (op_ok hss)
  subst hxs
  obtain ⟨hsz, pk3⟩ := Pk.gdd pk2
  rw [Bool.and_eq_true] at hsz
  obtain ⟨hsz, hszA⟩ := hsz
  have hsz := of_decide_eq_true hsz
  obtain ⟨hg1, _⟩ := g.gl hgs
  refine wpAny_Call_Name_kw (ld_blt I hg1 (g.bi _ rfl) PyProof.Rows.boot_sorted ?_)
  have pa := (sa_cons ha hx (sa_nil (f0 := f0) (c := c))).pa
  refine PyProof.Rows.callWith_kw (thn (pa.run pos pins s σ H (fun vs H1 => Gr H H1 ∧ RpAll (vw H1 F) vs [.list (ss.map PyData.str)]) I (tEs_of er n (un1 u) (evs_one hq) fun vs H1 g1 r1 => ⟨g1, r1⟩)) fun us s1 hh => ?_) (by rw [star_cons hx]; rfl) (by rw [star_cons hx]; rfl) rfl rfl
  obtain ⟨vs, H1, I1, rv, g1, r1⟩ := hh
  obtain ⟨v, rfl, rv1⟩ := rpAll1 r1
  obtain ⟨la, ws, rfl, hla, rws⟩ := rv1.list
  have hws := rp_strs rws
  subst hws
  obtain ⟨u1, rfl, ru⟩ := vals1 rv
  cases ru
  show wpAny _ _ (evalAll [do let v ← eval (.Lambda ps (keyX nt p1 p2 p3 p4 p5 kk) sc lp) X.env; standAt pos; pure v]) _ _ s1
  refine wpAny_evalAll_cons (wpAny_bind (lam_new I1 (g.lm hl) (g1.nl (n hnl2)) (hdef _) (fun y hy z => absurd z (FS.nofree y hy)) fun f k pm tv H2 s2 I2 g2 hf hfn hfr hco hfb => wpAny_bind (wpAny_standAt (wpAny_pure (wpAny_evalAll_nil ?_)))))
  show wpAny _ _ (call (.builtin "sorted") [.ref la] [(Str.ofString "key", .ref f)]) _ _ s2
  have hla2 : H2 la = some (.lst (ss.map V.str)) := g2.same _ _ hla rfl
  obtain ⟨its, riv, hisl, hzl⟩ := I2.list (SqL.of hla2)
  have hclo : cloFrom X.env.cells sc.names [] = [] := clo_none _ _ _ FS.nofree
  obtain ⟨⟨oc, cvs, ct, hoc, hdc, hvc⟩, _, _⟩ := I2.hok k _ hco
  obtain ⟨kx', _, _, _, _, Rm, _⟩ := g.mx.ex
  have kept : ∀ {h' : Heap}, (∀ b o, s2.heap.get? b = some o → h'.get? b = some o) → X.base.objs.size ≤ h'.objs.size := fun {h'} kp => Nat.le_of_lt (Nat.lt_of_le_of_lt hfb (Heap.lt_size (kp f _ hf)))
  have hun := g.units
  have hdp := Rm.dp
  refine PySem.W.sorted_key_data (vs := its) (bs := ss) (R := fun (v : Value) (z : Str) => ∃ t, v = .str z t) (b := false) keyL hisl.isList (each_strs riv) (al_key ss) (sb_key ss) (szLe hsz) (fun z _ => ?_) (PyProof.Rows.ksk_s1 _ _) (fun _ => PyProof.Rows.ksk_l1 _ _) (fun _ => PyProof.Rows.ksk_t1 _ _) (fun v z rz hz h' tk kp => ?_) fun out cc h' tk kp fr hnew hol heach => ?_
  · show X.A.units + 2 + 1 < cLine
    omega
  · obtain ⟨t, rfl⟩ := rz
    have hzl' : z.length ≤ sizeLine := szLe (of_decide_eq_true (List.all_eq_true.mp hszA z hz))
    refine key_turn (X := X) (qual := X.env.qual ++ "<lambda>") (p1 := p1) (p2 := p2) (p3 := p3) (p4 := p4) (p5 := p5) (kk := kk) (s := { s2 with heap := h', toks := tk }) (outer := X.stack) (env_up I2 kp rfl (kept kp)) (I2.ok.hd g.calm) (by show X.A.depth < _; omega) (pm := pm) (ctv := tv) (c' := k) ?_ ?_ FS hgl hloc hnd (g.bi _ rfl) (hbind _ _ _ _ _ _ _) hzl'
    · have := kp f _ hf
      unfold lamO at this
      rw [hclo] at this
      exact this
    · exact ⟨k, oc, cvs, ct, rfl, kp _ _ hoc, hdc, hvc⟩
  · have hfr2 : H2 (s2.heap.objs.size + 1) = none := I2.hok.fresh (Nat.le_succ _)
    have dm2 := er.dm.gr (g1.trans g2).same
    obtain ⟨g3, r3⟩ := Rp.newL (xs := (ss.mergeSort (PySem.W.dataLe false keyL)).map V.str) dm2 hfr2 (strs_rp _)
    refine ⟨.ref (s2.heap.objs.size + 1), _, I2.laid (t' := tk) (o := .lst ((ss.mergeSort (PySem.W.dataLe false keyL)).map V.str)) kp (Nat.le_succ _) ⟨?_, out, cc, strs_each heach, hnew⟩, rfl, pk3 _ _ ((g1.trans g2).trans g3) r3⟩
    rw [List.length_map, List.length_mergeSort]
    exact szLe hsz
end
end TD
/-! The checker of expressions. -/
namespace TD
open PySem PySem.Spec PyProof.Rows L2
variable [Tb] [Er]
def notSet : Expr → Bool
  | .Set _ _ _ => false
  | _ => true
theorem notSet_st {x : Expr} (h : notSet x = true) (env : PySem.Env) (v : Value) : foldedSetIterable x env v = pure v := by
  cases x <;> first
    | rfl
    | cases h
def ckC (d : PyData) : Const → Bool
  | .none => match d with | .none => true | _ => false
  | .bool b => match d with | .bool b' => b == b' | _ => false
  | .int i => match d with | .int i' => decide (i = i') | _ => false
  | .str s => match d with | .str s' => decide (s = s') | _ => false
  | _ => false
def Sx.nm (S : Sx) (i : Nat) (nm : Str) : Bool := S.N[i]? == some nm && S.vis nm
def Sx.tgt (S : Sx) (i : Nat) (nm : Str) : Bool := S.N[i]? == some nm && (S.sc.names.lookup nm == some .local || (S.sc.names.lookup nm == some .cell && S.fb nm))
def ckNs (S : Sx) : List Nat → List Expr → Bool
  | [], [] => true
  | i :: is, .Name nm _ :: es => S.tgt i nm && ckNs S is es
  | _, _ => false
def ckT (S : Sx) : T → Expr → Bool
  | .nm i, .Name nm _ => S.tgt i nm
  | .tp is, .Tuple es _ _ => ckNs S is es
  | _, _ => false
def isTupE : Expr → Bool
  | .Tuple _ _ _ => true
  | _ => false
def mtNm : M → Option Str
  | .join => some "join"
  | .split => some "split"
  | .rstrip => some "rstrip"
  | .endswith => some "endswith"
  | .count => some "count"
  | .index => some "index"
  | _ => none
def eqD : PyData → PyData → Bool
  | .none, .none => true
  | .bool a, .bool b => a == b
  | .int a, .int b => decide (a = b)
  | .str a, .str b => decide (a = b)
  | _, _ => false
theorem eqD_eq {a b : PyData} (h : eqD a b = true) : a = b := by
  cases a <;> cases b <;> first
    | rfl
    | (have := of_decide_eq_true h; rw [this])
    | (have := beq_iff_eq.mp h; rw [this])
    | cases h
def ownOk (N : List Str) (scope : Scope) : List Nat → Bool
  | is => is.all (fun i => decide (i < N.length))
/-- the own names of a comprehension, by its targets -/
def ownL (N : List Str) (is : List Nat) : List (Str × Nat) := is.map fun i => ((N[i]?).getD "", i)
def blkC (N : List Str) (sc scope : Scope) (own : List (Str × Nat)) : Bool :=
  decide (scope.kind = .function) && scope.names.all (fun y => decide (scope.names.lookup y.1 = some y.2)) && own.all (fun p => decide (N[p.2]? = some p.1)) &&
  scope.names.all (fun y => !decide (y.2 = .free) || decide (sc.names.lookup y.1 = some .cell) || decide (sc.names.lookup y.1 = some .free)) &&
  scope.names.all (fun y => !(decide (y.2 = .local) || decide (y.2 = .cell)) || decide (y.1 ∈ own.map (·.1)) || !decide (y.1 ∈ N))
theorem blk_of {N : List Str} {sc scope : Scope} {own : List (Str × Nat)} (h : blkC N sc scope own = true) : BlkOk N sc scope own := by
  unfold blkC at h
  simp only [Bool.and_eq_true, List.all_eq_true, decide_eq_true_eq, Bool.or_eq_true, Bool.not_eq_true', decide_eq_false_iff_not] at h
  obtain ⟨⟨⟨⟨h1, h2⟩, h3⟩, h4⟩, h5⟩ := h
  refine ⟨h1, h2, h3, fun y hy e => ?_, fun y hy e => ?_⟩
  · rcases h4 y hy with (q | q) | q
    · exact absurd e q
    · exact .inl q
    · exact .inr q
  · rcases h5 y hy with (q | q) | q
    · have q : ¬ (y.2 = .local ∨ y.2 = .cell) := by
        intro z
        rcases z with z | z
        · simp [z] at q
        · simp [z] at q
      exact absurd e q
    · exact .inl q
    · exact .inr q
/-! ### the shapes of expressions -/
def dName : Expr → Option Str
  | .Name nm _ => some nm
  | _ => none
def dConst : Expr → Option Const
  | .Constant k _ _ => some k
  | _ => none
def dBin : Expr → Option (Expr × Operator × Expr)
  | .BinOp x o y _ => some (x, o, y)
  | _ => none
def dUn : Expr → Option (Bool × Expr)
  | .UnaryOp .USub x _ => some (false, x)
  | .UnaryOp .Not x _ => some (true, x)
  | _ => none
def dBool : Expr → Option (BoolOp × List Expr)
  | .BoolOp o xs _ => some (o, xs)
  | _ => none
def dCmp : Expr → Option (Expr × List CmpOp × List Expr)
  | .Compare x os ys _ => some (x, os, ys)
  | _ => none
def dTup : Expr → Option (List Expr)
  | .Tuple xs _ _ => some xs
  | _ => none
def dLst : Expr → Option (List Expr)
  | .List xs _ => some xs
  | _ => none
def dDic : Expr → Bool
  | .Dict [] [] _ => true
  | _ => false
def dSub : Expr → Option (Expr × Expr)
  | .Subscript x y _ => some (x, y)
  | _ => none
def dSlc : Expr → Option (Option Expr × Option Expr)
  | .Slice lo hi none _ => some (lo, hi)
  | _ => none
def dRev : Expr → Option Expr
  | .Subscript x (.Slice none none (some (.UnaryOp .USub (.Constant (.int 1) _ _) _)) _) _ => some x
  | _ => none
theorem dRev_ok {x y : Expr} (h : dRev x = some y) : ∃ k p1 p2 p3 p, x = .Subscript y (.Slice none none (some (.UnaryOp .USub (.Constant (.int 1) k p1) p2)) p3) p := by
  unfold dRev at h
  split at h
  · cases h
    exact ⟨_, _, _, _, _, rfl⟩
  · cases h
def dCall : Expr → Option (Str × List Expr)
  | .Call (.Name nm _) xs [] _ => some (nm, xs)
  | _ => none
def dMeth : Expr → Option (Expr × Str × Bool × List Expr)
  | .Call (.Attribute x nm ap) xs [] cp => some (x, nm, ap.endLine == cp.line, xs)
  | _ => none
def dComp : Expr → Option (Expr × Expr × Expr × List Expr × Scope)
  | .ListComp x [⟨tg, iter, ifs, 0⟩] scope _ => some (x, tg, iter, ifs, scope)
  | _ => none
def isiNm : B → Option Str
  | .isi 0 => some "int"
  | .isi 1 => some "bool"
  | .isi 2 => some "str"
  | .isi 3 => some "tuple"
  | .isi 4 => some "list"
  | _ => none
def dIsi : Expr → Option (Expr × Str)
  | .Call (.Name nm _) [y, .Name t _] [] _ => if nm = "isinstance" then some (y, t) else none
  | _ => none
theorem dIsi_ok {x y : Expr} {t : Str} (h : dIsi x = some (y, t)) : ∃ p q r, x = .Call (.Name "isinstance" p) [y, .Name t q] [] r := by
  unfold dIsi at h
  split at h
  · split at h
    · rename_i e
      cases h
      subst e
      exact ⟨_, _, _, rfl⟩
    · cases h
  · cases h
def oneArg : Arguments → Option Str
  | ⟨[], [⟨a, none, _⟩], none, [], [], none, []⟩ => some a
  | _ => none
theorem oneArg_ok {ps : Arguments} {a : Str} (h : oneArg ps = some a) : ∃ p, ps = ⟨[], [⟨a, none, p⟩], none, [], [], none, []⟩ := by
  unfold oneArg at h
  split at h
  · cases h
    exact ⟨_, rfl⟩
  · cases h
def dSortk : Expr → Option (Expr × Str × Scope)
  | .Call (.Name nm _) [y] [⟨some kw, .Lambda ps (.Tuple [.Call (.Name ln _) [.Name nt _] [] _, .Name nt2 _] _ _) sc _, _⟩] _ => if nm = "sorted" ∧ kw = "key" ∧ ln = "len" ∧ nt2 = nt ∧ oneArg ps = some nt then some (y, nt, sc) else none
  | _ => none
theorem dSortk_ok {x y : Expr} {nt : Str} {sc : Scope} (h : dSortk x = some (y, nt, sc)) : ∃ pa p p1 p2 p3 p4 p5 lp kp kk pos, x = .Call (.Name "sorted" p) [y] [⟨some "key", .Lambda ⟨[], [⟨nt, none, pa⟩], none, [], [], none, []⟩ (keyX nt p1 p2 p3 p4 p5 kk) sc lp, kp⟩] pos := by
  unfold dSortk at h
  split at h
  · split at h
    · rename_i e
      obtain ⟨rfl, rfl, rfl, rfl, e5⟩ := e
      cases h
      obtain ⟨pa, rfl⟩ := oneArg_ok e5
      exact ⟨_, _, _, _, _, _, _, _, _, _, _, rfl⟩
    · cases h
  · cases h
theorem bind_one (nt : Str) (pa : Pos) (q : Str) (bd : Expr) (sc : Scope) (cl : List (Str × Addr)) (pm cv tv u : Value) :
    bindArgs (PySem.W.kla_fn "<lambda>" q ⟨[], [⟨nt, none, pa⟩], none, [], [], none, []⟩ bd sc cl pm cv tv) ⟨[u], []⟩ = pure [(nt, u)] := by
  unfold bindArgs
  simp [PySem.W.kla_fn, List.lookup, seqItems?]
  rfl
def fsB (nt : Str) (sc : Scope) : Bool := decide (sc.kind = .function) && !sc.isCoroutine && !sc.isGenerator && sc.names.all (fun y => !decide (y.2 = .free)) && decide (sc.names.lookup nt = some .local) && decide (sc.names.lookup ("len" : Str) = some .globalImplicit) && !(nt == ("__debug__" : Str))
theorem fsB_ok {nt : Str} {sc : Scope} (h : fsB nt sc = true) : FnScope [nt] [nt] sc ∧ sc.names.lookup ("len" : Str) = some .globalImplicit ∧ sc.names.lookup nt = some .local ∧ (nt == ("__debug__" : Str)) = false := by
  unfold fsB at h
  simp only [Bool.and_eq_true, decide_eq_true_eq, Bool.not_eq_true', List.all_eq_true, decide_eq_false_iff_not] at h
  obtain ⟨⟨⟨⟨⟨⟨h1, h2⟩, h3⟩, h4⟩, h5⟩, h6⟩, h7⟩ := h
  exact ⟨⟨h1, h2, h3, by simp, rfl, fun x hx => by rw [List.mem_singleton.mp hx]; exact .inl h5, h4⟩, h6, h5, h7⟩
def noArgs : Arguments → Bool
  | ⟨[], [], none, [], [], none, []⟩ => true
  | _ => false
theorem noArgs_ok {a : Arguments} (h : noArgs a = true) : a = ⟨[], [], none, [], [], none, []⟩ := by
  unfold noArgs at h
  split at h
  · rfl
  · cases h
def dTold : Expr → Option (Str × List Expr × Scope)
  | .Call (.Name nt _) [.Lambda ps (.Call (.Name nm _) ys [] _) sc _] [] _ => if nt = "_law_told" ∧ noArgs ps = true then some (nm, ys, sc) else none
  | _ => none
theorem dTold_ok {x : Expr} {nm : Str} {ys : List Expr} {sc : Scope} (h : dTold x = some (nm, ys, sc)) : ∃ p q1 q2 l r, x = .Call (.Name "_law_told" p) [.Lambda ⟨[], [], none, [], [], none, []⟩ (.Call (.Name nm q1) ys [] q2) sc l] [] r := by
  unfold dTold at h
  split at h
  · split at h
    · rename_i e
      obtain ⟨e1, e2⟩ := e
      cases h
      subst e1
      have e3 := noArgs_ok e2
      subst e3
      exact ⟨_, _, _, _, _, rfl⟩
    · cases h
  · cases h
theorem dName_ok {x : Expr} {nm : Str} (h : dName x = some nm) : ∃ p, x = .Name nm p := by
  cases x <;> first
    | (cases h; exact ⟨_, rfl⟩)
    | cases h
theorem dConst_ok {x : Expr} {k : Const} (h : dConst x = some k) : ∃ j p, x = .Constant k j p := by
  cases x <;> first
    | (cases h; exact ⟨_, _, rfl⟩)
    | cases h
theorem dBin_ok {x a b : Expr} {o : Operator} (h : dBin x = some (a, o, b)) : ∃ p, x = .BinOp a o b p := by
  cases x <;> first
    | (cases h; exact ⟨_, rfl⟩)
    | cases h
theorem dUn_ok {x a : Expr} {k : Bool} (h : dUn x = some (k, a)) : ∃ p, x = .UnaryOp (if k = true then .Not else .USub) a p := by
  unfold dUn at h
  split at h
  · cases h
    exact ⟨_, rfl⟩
  · cases h
    exact ⟨_, rfl⟩
  · cases h
theorem dBool_ok {x : Expr} {o : BoolOp} {xs : List Expr} (h : dBool x = some (o, xs)) : ∃ p, x = .BoolOp o xs p := by
  cases x <;> first
    | (cases h; exact ⟨_, rfl⟩)
    | cases h
theorem dCmp_ok {x a : Expr} {os : List CmpOp} {ys : List Expr} (h : dCmp x = some (a, os, ys)) : ∃ p, x = .Compare a os ys p := by
  cases x <;> first
    | (cases h; exact ⟨_, rfl⟩)
    | cases h
theorem dTup_ok {x : Expr} {xs : List Expr} (h : dTup x = some xs) : ∃ k p, x = .Tuple xs k p := by
  cases x <;> first
    | (cases h; exact ⟨_, _, rfl⟩)
    | cases h
theorem dLst_ok {x : Expr} {xs : List Expr} (h : dLst x = some xs) : ∃ p, x = .List xs p := by
  cases x <;> first
    | (cases h; exact ⟨_, rfl⟩)
    | cases h
theorem dDic_ok {x : Expr} (h : dDic x = true) : ∃ p, x = .Dict [] [] p := by
  unfold dDic at h
  split at h
  · exact ⟨_, rfl⟩
  · cases h
theorem dSub_ok {x a b : Expr} (h : dSub x = some (a, b)) : ∃ p, x = .Subscript a b p := by
  cases x <;> first
    | (cases h; exact ⟨_, rfl⟩)
    | cases h
theorem dSlc_ok {x : Expr} {lo hi : Option Expr} (h : dSlc x = some (lo, hi)) : ∃ p, x = .Slice lo hi none p := by
  unfold dSlc at h
  split at h
  · cases h
    exact ⟨_, rfl⟩
  · cases h
theorem dCall_ok {x : Expr} {nm : Str} {xs : List Expr} (h : dCall x = some (nm, xs)) : ∃ p q, x = .Call (.Name nm p) xs [] q := by
  unfold dCall at h
  split at h
  · cases h
    exact ⟨_, _, rfl⟩
  · cases h
theorem dMeth_ok {x a : Expr} {nm : Str} {k : Bool} {xs : List Expr} (h : dMeth x = some (a, nm, k, xs)) : ∃ p q, x = .Call (.Attribute a nm p) xs [] q ∧ (p.endLine == q.line) = k := by
  unfold dMeth at h
  split at h
  · cases h
    exact ⟨_, _, rfl, rfl⟩
  · cases h
theorem dComp_ok {x a tg iter : Expr} {ifs : List Expr} {scope : Scope} (h : dComp x = some (a, tg, iter, ifs, scope)) : ∃ p, x = .ListComp a [⟨tg, iter, ifs, 0⟩] scope p := by
  unfold dComp at h
  split at h
  · cases h
    exact ⟨_, rfl⟩
  · cases h
mutual
def ckE (S : Sx) : E → Expr → Bool
  | .var i, x => (dName x).any (S.nm i)
  | .cst d, x => match dConst x with
    | some k => ckC d k
    | none => (dName x).any fun nm => S.gl nm && (S.gv nm).any fun d' => eqD d' d
  | .bin o a b, x => match dBin x with
    | some (y, o', z) => decide (o = o') && binOk o && ckE S a y && ckE S b z
    | none => false
  | .neg a, x => match dUn x with
    | some (k, y) => !k && ckE S a y
    | none => false
  | .not a, x => match dUn x with
    | some (k, y) => k && ckE S a y
    | none => false
  | .one a, _ => false
  | .and a b, x => match dBool x with
    | some (.And, y :: z :: r) => ckE S a y && ckW S b .And (z :: r)
    | _ => false
  | .or a b, x => match dBool x with
    | some (.Or, y :: z :: r) => ckE S a y && ckW S b .Or (z :: r)
    | _ => false
  | .cmp o a b, x => match dCmp x with
    | some (y, [o'], [z]) => decide (o = o') && ckE S a y && ckE S b z && (cmpOk o || (inOp o && notSet z))
    | _ => false
  | .chn o o1 a b d, x => match dCmp x with
    | some (y, [o', o1'], [z, w]) => decide (o = o') && decide (o1 = o1') && cmpOk o && cmpOk o1 && ckE S a y && ckE S b z && ckE S d w
    | _ => false
  | .tup es, x => match dTup x with
    | some xs => ckEs S es xs && decide (xs.length ≤ 1000)
    | none => false
  | .lst es, x => match dLst x with
    | some xs => ckEs S es xs && decide (xs.length ≤ 1000)
    | none => false
  | .dic, x => dDic x
  | .idx a i, x => match dSub x with
    | some (y, z) => ckE S a y && ckE S i z && nslice z
    | none => false
  | .slc a lo hi, x => match dSub x with
    | some (y, z) => match dSlc z with
      | some (l, h) => ckE S a y && (match l with | none => isNon lo | some l => !isNon lo && ckE S lo l) && (match h with | none => isNon hi | some l => !isNon hi && ckE S hi l)
      | none => false
    | none => false
  | .non, _ => false
  | .rev a, x => (dRev x).any fun y => ckE S a y
  | .fn f es, x => match dCall x with
    | some (nm, y :: ys) => S.gl nm && decide (S.gf nm = some f) && ckEs S es (y :: ys)
    | _ => false
  | .b1 b a, x => (match dCall x with
    | some (nm, [y]) => decide (bNm b = some nm) && S.gl nm && ckE S a y && nstar y
    | _ => false) || (match dIsi x with
    | some (y, t) => decide (isiNm b = some t) && S.gl "isinstance" && S.gl t && ckE S a y && nstar y
    | none => false) || (match dSortk x with
    | some (y, nt, sc) => decide (b = .sortk) && S.lm && S.gl "sorted" && ckE S a y && nstar y && fsB nt sc
    | none => false)
  | .mx a b, x => match dCall x with
    | some (nm, [y, z]) => decide (nm = "max") && S.gl nm && ckE S a y && ckE S b z && nstar y && nstar z
    | _ => false
  | .mt m a (.cons b .nil), x => match dMeth x with
    | some (y, nm, k, [z]) => decide (mtNm m = some nm) && k && ckE S a y && ckE S b z && notSup y && nstar z
    | _ => false
  | .mt m a (.cons b (.cons d .nil)), x => match dMeth x with
    | some (y, nm, k, [z, w]) => decide (m = .get) && decide (nm = "get") && k && isVar a && ckE S a y && ckE S b z && ckE S d w && nstar z && nstar w
    | _ => false
  | .mt _ _ _, _ => false
  | .told f es, x => match dTold x with
    | some (nm, y :: ys, sc) => S.lm && S.tl && S.gl "_law_told" && LamX.lamSB S.sc sc && (S.lam sc).gl nm && decide (S.gf nm = some f) && !one1 es && ckEs (S.lam sc) es (y :: ys)
    | _ => false
  | .mix i k, x => match dCall x with
    | some (nm, [y, z]) => decide (nm = S.mx) && S.gl nm && (dName y).any (S.nm i) && ckE S k z && nstar z
    | _ => false
  | .cmp0 elt t it, x => match dComp x with
    | some (y, tg, iter, [], scope) => ckI S it tg iter && blkC S.N S.sc scope (ownL S.N t.slots) && ckT (S.blk scope) t tg && ckE (S.blk scope) elt y
    | _ => false
  | .cmp1 elt t it b, x => match dComp x with
    | some (y, tg, iter, [z], scope) => ckI S it tg iter && blkC S.N S.sc scope (ownL S.N t.slots) && ckT (S.blk scope) t tg && ckE (S.blk scope) elt y && ckE (S.blk scope) b z
    | _ => false
termination_by structural e => e
def ckW (S : Sx) : E → BoolOp → List Expr → Bool
  | .one a, _, [x] => ckE S a x
  | .and a b, .And, x :: y :: r => ckE S a x && ckW S b .And (y :: r)
  | .or a b, .Or, x :: y :: r => ckE S a x && ckW S b .Or (y :: r)
  | _, _, _ => false
termination_by structural e => e
def ckEs (S : Sx) : Es → List Expr → Bool
  | .nil, [] => true
  | .cons a es, x :: xs => ckE S a x && nstar x && ckEs S es xs
  | _, _ => false
termination_by structural e => e
def ckI (S : Sx) : I → Expr → Expr → Bool
  | .val e, _, x => ckE S e x && notSet x
  | .rng1 a, _, x => match dCall x with
    | some (nm, [y]) => decide (nm = "range") && S.gl nm && ckE S a y && nstar y
    | _ => false
  | .rng2 a b, _, x => match dCall x with
    | some (nm, [y, z]) => decide (nm = "range") && S.gl nm && ckE S a y && nstar y && ckE S b z && nstar z
    | _ => false
  | .enm a, tg, x => match dCall x with
    | some (nm, [y]) => decide (nm = "enumerate") && S.gl nm && ckE S a y && nstar y && isTupE tg
    | _ => false
  | .zip a b, tg, x => match dCall x with
    | some (nm, [y, z]) => decide (nm = "zip") && S.gl nm && ckE S a y && nstar y && ckE S b z && nstar z && isTupE tg
    | _ => false
termination_by structural e => e
end
end TD
/-! What the checker passes is read by the evaluator. -/
namespace TD
open PySem PySem.Spec PyProof.Rows L2
variable [Tb] [Er]
section
variable {X : Cx} {S : Sx} {f0 : List Addr} {c : C} {x y z : Expr} {a b d e : E}
theorem any_ok {α : Type} {o : Option α} {f : α → Bool} (h : o.any f = true) : ∃ a, o = some a ∧ f a = true := by
  cases o with
  | none => cases h
  | some a => exact ⟨a, rfl, h⟩
theorem and_ok {p q : Bool} (h : (p && q) = true) : p = true ∧ q = true := by
  rw [Bool.and_eq_true] at h
  exact h
theorem Gd.var (g : Gd X S c) {i : Nat} {nm : Str} {p : Pos} (h : S.nm i nm = true) : PE X (.Name nm p) (tVar i) ∧ SE X f0 c (.var i) (.Name nm p) := by
  obtain ⟨h1, h2⟩ := and_ok h
  obtain ⟨v1, v2, v3⟩ := g.vis h2
  have hi : X.N[i]? = some nm := by
    rw [g.N]
    exact beq_iff_eq.mp h1
  exact ⟨pe_var hi v1 v2 v3, s_var hi v1 v2 v3⟩
theorem Gd.tgt (g : Gd X S c) {i : Nat} {nm : Str} (h : S.tgt i nm = true) : NmAt X i nm := by
  obtain ⟨h1, h2⟩ := and_ok h
  rw [Bool.or_eq_true] at h2
  refine ⟨by rw [g.N]; exact beq_iff_eq.mp h1, ?_, ?_⟩
  · unfold L2.Loc
    rw [g.sc]
    rcases h2 with h2 | h2
    · exact .inl (beq_iff_eq.mp h2)
    · exact .inr (beq_iff_eq.mp (and_ok h2).1)
  · rw [g.fb, g.sc]
    rcases h2 with h2 | h2
    · exact .inr (beq_iff_eq.mp h2)
    · exact .inl (and_ok h2).2
theorem Gd.nms (g : Gd X S c) : ∀ {is : List Nat} {es : List Expr}, ckNs S is es = true → NmsAt X is es
  | [], [], _ => trivial
  | i :: is, e :: es, h => by
    cases e <;> first
      | (obtain ⟨h1, h2⟩ := and_ok h; exact ⟨g.tgt h1, g.nms h2⟩)
      | cases h
  | [], _ :: _, h => nomatch h
  | _ :: _, [], h => nomatch h
theorem Gd.tg (g : Gd X S c) {t : T} {tg : Expr} (h : ckT S t tg = true) : TgAt X t tg := by
  cases t with
  | nm i =>
    cases tg <;> first
      | exact g.tgt h
      | cases h
  | tp is =>
    cases tg <;> first
      | exact g.nms h
      | cases h
theorem ck_const {k : Const} {j : Nat} {p : Pos} {d : PyData} (h : ckC d k = true) : SE X f0 c (.cst d) (.Constant k j p) := by
  cases k with
  | none =>
    cases d <;> first
      | exact s_c pe_non (fun _ => .non) rfl
      | cases h
  | bool b =>
    cases d <;> first
      | (cases beq_iff_eq.mp h; exact s_c pe_bl (fun _ => .bl _) rfl)
      | cases h
  | int i =>
    cases d <;> first
      | (cases of_decide_eq_true h; exact s_c pe_int (fun _ => .int _) rfl)
      | cases h
  | str i =>
    cases d <;> first
      | (cases of_decide_eq_true h; exact s_c pe_str (fun _ => .str _) rfl)
      | cases h
  | _ => cases h
theorem Gd.sc_ (g : Gd X S c) {tg iter : Expr} {it : I} {t : T} {scope : Scope} (hi : SI X f0 c tg it iter) (hb : blkC S.N S.sc scope (ownL S.N t.slots) = true) (ht : ckT (S.blk scope) t tg = true) : SC X f0 c tg it t iter scope (ownL S.N t.slots) := by
  have ok := blk_of hb
  refine ⟨g.calm, g.nd, hi, ?_, fun s H C cl fp => ?_, ?_⟩
  · rw [g.N, g.sc]
    exact ok
  · have gb := g.blk ok.kind s H C cl fp
    exact sg_of gb.nd gb.calm (gb.tg ht)
  · unfold ownL
    rw [List.map_map]
    exact List.map_id _
/-- an iterable that is no dict's name -/
theorem si_of {tg iter : Expr} {it : I} (hp : PI X tg iter (tI (kx X f0) c it false)) (hd : ∀ i, it ≠ .val (.var i)) (hs : notSet iter = true) : SI X f0 c tg it iter := ⟨hp, fun i e => absurd e (hd i), fun v => notSet_st hs _ v⟩
theorem isTup_ok {tg : Expr} (h : isTupE tg = true) : ∃ es k p, tg = .Tuple es k p := by
  cases tg <;> first
    | exact ⟨_, _, _, rfl⟩
    | cases h
end
mutual
theorem ckE_ok : ∀ (e : E) {X : Cx} {S : Sx} {f0 : List Addr} {c : C} {x : Expr}, Gd X S c → ckE S e x = true → SE X f0 c e x
  | .var i, X, S, f0, c, x, g, h => by
    obtain ⟨nm, h1, h2⟩ := any_ok (show (dName x).any (S.nm i) = true from h)
    obtain ⟨p, rfl⟩ := dName_ok h1
    exact (g.var h2).2
  | .cst d, X, S, f0, c, x, g, h => by
    have h : (match dConst x with | some k => ckC d k | none => (dName x).any fun nm => S.gl nm && (S.gv nm).any fun d' => eqD d' d) = true := h
    cases q : dConst x with
    | some k =>
      rw [q] at h
      obtain ⟨j, p, rfl⟩ := dConst_ok q
      exact ck_const h
    | none =>
      rw [q] at h
      obtain ⟨nm, h1, h2⟩ := any_ok h
      obtain ⟨p, rfl⟩ := dName_ok h1
      obtain ⟨h3, h4⟩ := and_ok h2
      obtain ⟨d', h5, h6⟩ := any_ok h4
      cases eqD_eq h6
      obtain ⟨v, u, m1, m2, m3⟩ := g.gv nm _ h5
      obtain ⟨g1, g2⟩ := g.gl h3
      exact s_c (pe_glob g1 m1 m2 g2) m3 rfl
  | .bin o a b, X, S, f0, c, x, g, h => by
    have h : (match dBin x with | some (y, o', z) => decide (o = o') && binOk o && ckE S a y && ckE S b z | none => false) = true := h
    cases q : dBin x with
    | none =>
      rw [q] at h
      cases h
    | some p =>
      obtain ⟨y, o', z⟩ := p
      rw [q] at h
      obtain ⟨h, h4⟩ := and_ok h
      obtain ⟨h, h3⟩ := and_ok h
      obtain ⟨h1, h2⟩ := and_ok h
      cases of_decide_eq_true h1
      obtain ⟨p, rfl⟩ := dBin_ok q
      exact s_bin h2 (ckE_ok a g h3) (ckE_ok b g h4)
  | .neg a, X, S, f0, c, x, g, h => by
    have h : (match dUn x with | some (k, y) => !k && ckE S a y | none => false) = true := h
    cases q : dUn x with
    | none =>
      rw [q] at h
      cases h
    | some p =>
      obtain ⟨k, y⟩ := p
      rw [q] at h
      obtain ⟨h1, h2⟩ := and_ok h
      cases k with
      | true => cases h1
      | false =>
        obtain ⟨p, rfl⟩ := dUn_ok q
        exact s_neg (ckE_ok a g h2)
  | .not a, X, S, f0, c, x, g, h => by
    have h : (match dUn x with | some (k, y) => k && ckE S a y | none => false) = true := h
    cases q : dUn x with
    | none =>
      rw [q] at h
      cases h
    | some p =>
      obtain ⟨k, y⟩ := p
      rw [q] at h
      obtain ⟨h1, h2⟩ := and_ok h
      cases k with
      | false => cases h1
      | true =>
        obtain ⟨p, rfl⟩ := dUn_ok q
        exact s_not (ckE_ok a g h2)
  | .one a, X, S, f0, c, x, g, h => nomatch (show false = true from h)
  | .and a b, X, S, f0, c, x, g, h => by
    have h : (match dBool x with | some (.And, y :: z :: r) => ckE S a y && ckW S b .And (z :: r) | _ => false) = true := h
    split at h
    · rename_i y z r q
      obtain ⟨h1, h2⟩ := and_ok h
      obtain ⟨p, rfl⟩ := dBool_ok q
      have w := s_and (ckE_ok a g h1) (ckW_ok b (f0 := f0) (pos := p) g h2)
      exact w.se
    · cases h
  | .or a b, X, S, f0, c, x, g, h => by
    have h : (match dBool x with | some (.Or, y :: z :: r) => ckE S a y && ckW S b .Or (z :: r) | _ => false) = true := h
    split at h
    · rename_i y z r q
      obtain ⟨h1, h2⟩ := and_ok h
      obtain ⟨p, rfl⟩ := dBool_ok q
      have w := s_or (ckE_ok a g h1) (ckW_ok b (f0 := f0) (pos := p) g h2)
      exact w.se
    · cases h
  | .cmp o a b, X, S, f0, c, x, g, h => by
    have h : (match dCmp x with | some (y, [o'], [z]) => decide (o = o') && ckE S a y && ckE S b z && (cmpOk o || (inOp o && notSet z)) | _ => false) = true := h
    split at h
    · rename_i y o' z q
      obtain ⟨h, h4⟩ := and_ok h
      obtain ⟨h, h3⟩ := and_ok h
      obtain ⟨h1, h2⟩ := and_ok h
      cases of_decide_eq_true h1
      obtain ⟨p, rfl⟩ := dCmp_ok q
      have u := g.units
      have ha := ckE_ok a (f0 := f0) g h2
      by_cases ho : cmpOk o = true
      · exact s_cmp (by omega) ho ha (ckE_ok b g h3)
      · rw [Bool.or_eq_true] at h4
        obtain ⟨h5, h6⟩ := and_ok (h4.resolve_left ho)
        have hm : ∀ o, behindInMarks o z = false := fun o => by
          cases z <;> first
            | rfl
            | cases h6
        by_cases hv : isVar b = true
        · have hvar : ∃ i, b = .var i := by
            cases b <;> first
              | exact ⟨_, rfl⟩
              | cases hv
          obtain ⟨i, rfl⟩ := hvar
          obtain ⟨nm, q1, q2⟩ := any_ok (show (dName z).any (S.nm i) = true from h3)
          obtain ⟨p2, rfl⟩ := dName_ok q1
          have hn := (g.var (f0 := f0) (p := p2) q2).1
          cases o <;> first
            | exact s_inV (by omega) ha hn
            | exact s_ninV (by omega) ha hn
            | cases h5
        · have hb := ckE_ok b (f0 := f0) g h3
          have hv : isVar b = false := by
            cases q : isVar b
            · rfl
            · exact absurd q hv
          have hgn : ∀ o, gens (.cmp o a b) = gens a ++ gens b := fun o => by
            show gens a ++ cond (inOp o && isVar b) [] (gens b) = _
            rw [hv, Bool.and_false]
            rfl
          cases o <;> first
            | exact s_in (by omega) ha hb (hgn _) (hm _)
            | exact s_nin (by omega) ha hb (hgn _) (hm _)
            | cases h5
    · cases h
  | .chn o o1 a b d, X, S, f0, c, x, g, h => by
    have h : (match dCmp x with | some (y, [o', o1'], [z, w]) => decide (o = o') && decide (o1 = o1') && cmpOk o && cmpOk o1 && ckE S a y && ckE S b z && ckE S d w | _ => false) = true := h
    split at h
    · rename_i y o' o1' z w q
      obtain ⟨h, h7⟩ := and_ok h
      obtain ⟨h, h6⟩ := and_ok h
      obtain ⟨h, h5⟩ := and_ok h
      obtain ⟨h, h4⟩ := and_ok h
      obtain ⟨h, h3⟩ := and_ok h
      obtain ⟨h1, h2⟩ := and_ok h
      cases of_decide_eq_true h1
      cases of_decide_eq_true h2
      obtain ⟨p, rfl⟩ := dCmp_ok q
      have u := g.units
      exact s_chn (by omega) h3 h4 (ckE_ok a g h5) (ckE_ok b g h6) (ckE_ok d g h7)
    · cases h
  | .tup es, X, S, f0, c, x, g, h => by
    have h : (match dTup x with | some xs => ckEs S es xs && decide (xs.length ≤ 1000) | none => false) = true := h
    split at h
    · rename_i xs q
      obtain ⟨h1, h2⟩ := and_ok h
      obtain ⟨k, p, rfl⟩ := dTup_ok q
      exact s_tup (ckEs_ok es g h1) (of_decide_eq_true h2)
    · cases h
  | .lst es, X, S, f0, c, x, g, h => by
    have h : (match dLst x with | some xs => ckEs S es xs && decide (xs.length ≤ 1000) | none => false) = true := h
    split at h
    · rename_i xs q
      obtain ⟨h1, h2⟩ := and_ok h
      obtain ⟨p, rfl⟩ := dLst_ok q
      exact s_lst (ckEs_ok es g h1) (of_decide_eq_true h2)
    · cases h
  | .dic, X, S, f0, c, x, g, h => by
    obtain ⟨p, rfl⟩ := dDic_ok (show dDic x = true from h)
    exact s_dic
  | .idx a i, X, S, f0, c, x, g, h => by
    have h : (match dSub x with | some (y, z) => ckE S a y && ckE S i z && nslice z | none => false) = true := h
    split at h
    · rename_i y z q
      obtain ⟨h, h3⟩ := and_ok h
      obtain ⟨h1, h2⟩ := and_ok h
      obtain ⟨p, rfl⟩ := dSub_ok q
      have u := g.units
      by_cases hv : isVar a = true
      · have hvar : ∃ i, a = .var i := by
          cases a <;> first
            | exact ⟨_, rfl⟩
            | cases hv
        obtain ⟨j, rfl⟩ := hvar
        obtain ⟨nm, q1, q2⟩ := any_ok (show (dName y).any (S.nm j) = true from h1)
        obtain ⟨p2, rfl⟩ := dName_ok q1
        exact s_idxV (by omega) (g.var (f0 := f0) (p := p2) q2).1 (ckE_ok i g h2) h3
      · have hv : isVar a = false := by
          cases q : isVar a
          · rfl
          · exact absurd q hv
        exact s_idx (by omega) (ckE_ok a g h1) (ckE_ok i g h2) hv h3
    · cases h
  | .slc a lo hi, X, S, f0, c, x, g, h => by
    have h : (match dSub x with
      | some (y, z) => match dSlc z with
        | some (l, h) => ckE S a y && (match l with | none => isNon lo | some l => !isNon lo && ckE S lo l) && (match h with | none => isNon hi | some l => !isNon hi && ckE S hi l)
        | none => false
      | none => false) = true := h
    split at h
    · rename_i y z q
      split at h
      · rename_i l k q2
        obtain ⟨h, h3⟩ := and_ok h
        obtain ⟨h1, h2⟩ := and_ok h
        obtain ⟨p, rfl⟩ := dSub_ok q
        obtain ⟨p2, rfl⟩ := dSlc_ok q2
        have o1 : PO X l (tO (kx X f0) c lo) := by
          cases l with
          | none =>
            have : lo = .non := by
              cases lo <;> first
                | rfl
                | cases h2
            subst this
            exact so_none
          | some l =>
            obtain ⟨t1, t2⟩ := and_ok h2
            exact so_some (ckE_ok lo g t2) (by simpa using t1)
        have o2 : PO X k (tO (kx X f0) c hi) := by
          cases k with
          | none =>
            have : hi = .non := by
              cases hi <;> first
                | rfl
                | cases h3
            subst this
            exact so_none
          | some l =>
            obtain ⟨t1, t2⟩ := and_ok h3
            exact so_some (ckE_ok hi g t2) (by simpa using t1)
        exact s_slc (ckE_ok a g h1) o1 o2
      · cases h
    · cases h
  | .non, X, S, f0, c, x, g, h => nomatch (show false = true from h)
  | .rev a, X, S, f0, c, x, g, h => by
    obtain ⟨y, h1, h2⟩ := any_ok (show ((dRev x).any fun y => ckE S a y) = true from h)
    obtain ⟨k, p1, p2, p3, p, rfl⟩ := dRev_ok h1
    exact s_rev (ckE_ok a g h2)
  | .fn f es, X, S, f0, c, x, g, h => by
    have h : (match dCall x with | some (nm, y :: ys) => S.gl nm && decide (S.gf nm = some f) && ckEs S es (y :: ys) | _ => false) = true := h
    split at h
    · rename_i nm y ys q
      obtain ⟨h, h3⟩ := and_ok h
      obtain ⟨h1, h2⟩ := and_ok h
      obtain ⟨p, p2, rfl⟩ := dCall_ok q
      obtain ⟨g1, g2⟩ := g.gl h1
      by_cases hn : c.nl = true
      · exact s_fn (g.gf hn nm f (of_decide_eq_true h2)) g1 g2 (ckEs_ok es g h3)
      · have bad : ∀ σ H Q, tE (kx X f0) c (.fn f es) σ H Q → False := fun σ H Q t => by
          obtain ⟨ρ, F, er, n, u, pk⟩ := t
          obtain ⟨ds, hds, pk⟩ := Pk.bind (show Pk W0 H F Q (evs c ρ es >>= fun xs => gd c.nl (c.call f xs)) from pk)
          obtain ⟨nl, _⟩ := Pk.gdd pk
          exact hn nl
        exact SE.of ⟨fun pins s σ H Q I t => (bad σ H Q t).elim⟩ rfl
    · cases h
  | .b1 b a, X, S, f0, c, x, g, h => by
    have h : ((match dCall x with | some (nm, [y]) => decide (bNm b = some nm) && S.gl nm && ckE S a y && nstar y | _ => false) || (match dIsi x with | some (y, t) => decide (isiNm b = some t) && S.gl "isinstance" && S.gl t && ckE S a y && nstar y | none => false) || (match dSortk x with | some (y, nt, sc) => decide (b = .sortk) && S.lm && S.gl "sorted" && ckE S a y && nstar y && fsB nt sc | none => false)) = true := h
    rw [Bool.or_eq_true, Bool.or_eq_true] at h
    rcases h with (h | h) | h
    case inr =>
      split at h
      · rename_i y nt sc q
        obtain ⟨h, h6⟩ := and_ok h
        obtain ⟨h, h5⟩ := and_ok h
        obtain ⟨h, h4⟩ := and_ok h
        obtain ⟨h, h3⟩ := and_ok h
        obtain ⟨h1, h2⟩ := and_ok h
        cases of_decide_eq_true h1
        obtain ⟨pa, p, p1, p2, p3, p4, p5, lp, kp, kk, pos, rfl⟩ := dSortk_ok q
        obtain ⟨f1, f2, f3, f4⟩ := fsB_ok h6
        exact s_sortk g h2 h3 (ckE_ok a g h4) h5 (fun _ => rfl) (fun _ _ _ _ _ _ _ => bind_one _ _ _ _ _ _ _ _ _ _) f1 f2 f3 f4
      · cases h
    case inl.inr =>
      split at h
      · rename_i y t q
        obtain ⟨h, h5⟩ := and_ok h
        obtain ⟨h, h4⟩ := and_ok h
        obtain ⟨h, h3⟩ := and_ok h
        obtain ⟨h1, h2⟩ := and_ok h
        obtain ⟨p, p2, p3, rfl⟩ := dIsi_ok q
        have hn := of_decide_eq_true h1
        have ha := ckE_ok a (f0 := f0) g h4
        match b, hn with
        | .isi 0, hn => cases hn; exact s_isi (n := "int") g h2 h3 rfl PyProof.Rows.boot_int (.inl ⟨rfl, rfl⟩) (by decide) ha h5
        | .isi 1, hn => cases hn; exact s_isi (n := "bool") g h2 h3 rfl (by decide +kernel) (.inr (.inl ⟨rfl, rfl⟩)) (by decide) ha h5
        | .isi 2, hn => cases hn; exact s_isi (n := "str") g h2 h3 rfl PyProof.Rows.boot_str (.inr (.inr (.inl ⟨rfl, rfl⟩))) (by decide) ha h5
        | .isi 3, hn => cases hn; exact s_isi (n := "tuple") g h2 h3 rfl PyProof.Rows.boot_tuple (.inr (.inr (.inr (.inl ⟨rfl, rfl⟩)))) (by decide) ha h5
        | .isi 4, hn => cases hn; exact s_isi (n := "list") g h2 h3 rfl PyProof.Rows.boot_list (.inr (.inr (.inr (.inr ⟨rfl, rfl⟩)))) (by decide) ha h5
      · cases h
    split at h
    · rename_i nm y q
      obtain ⟨h, h4⟩ := and_ok h
      obtain ⟨h, h3⟩ := and_ok h
      obtain ⟨h1, h2⟩ := and_ok h
      obtain ⟨p, p2, rfl⟩ := dCall_ok q
      by_cases hv : (b == .len && isVar a) = true
      · obtain ⟨v1, v2⟩ := and_ok hv
        have hvar : ∃ i, a = .var i := by
          cases a <;> first
            | exact ⟨_, rfl⟩
            | cases v2
        obtain ⟨j, rfl⟩ := hvar
        have e1 : b = .len := by simpa using v1
        subst e1
        have e2 : nm = "len" := (Option.some.inj (of_decide_eq_true h1)).symm
        subst e2
        obtain ⟨n2, q1, q2⟩ := any_ok (show (dName y).any (S.nm j) = true from h3)
        obtain ⟨p3, rfl⟩ := dName_ok q1
        exact s_lenV g h2 (g.var (f0 := f0) (p := p3) q2).1
      · have hv : (b == .len && isVar a) = false := by
          cases q : (b == B.len && isVar a)
          · rfl
          · exact absurd q hv
        exact s_bi g (of_decide_eq_true h1) h2 (ckE_ok a g h3) h4 hv
    · cases h
  | .mx a b, X, S, f0, c, x, g, h => by
    have h : (match dCall x with | some (nm, [y, z]) => decide (nm = "max") && S.gl nm && ckE S a y && ckE S b z && nstar y && nstar z | _ => false) = true := h
    split at h
    · rename_i nm y z q
      obtain ⟨h, h6⟩ := and_ok h
      obtain ⟨h, h5⟩ := and_ok h
      obtain ⟨h, h4⟩ := and_ok h
      obtain ⟨h, h3⟩ := and_ok h
      obtain ⟨h1, h2⟩ := and_ok h
      obtain ⟨p, p2, rfl⟩ := dCall_ok q
      cases of_decide_eq_true h1
      exact s_mx g h2 (ckE_ok a g h3) (ckE_ok b g h4) h5 h6
    · cases h
  | .mt m a .nil, X, S, f0, c, x, g, h => nomatch (show false = true from h)
  | .mt m a (.cons _ (.cons _ (.cons _ _))), X, S, f0, c, x, g, h => nomatch (show false = true from h)
  | .mt m a (.cons b (.cons d .nil)), X, S, f0, c, x, g, h => by
    have h : (match dMeth x with | some (y, nm, k, [z, w]) => decide (m = .get) && decide (nm = "get") && k && isVar a && ckE S a y && ckE S b z && ckE S d w && nstar z && nstar w | _ => false) = true := h
    split at h
    · rename_i y nm k z w q
      obtain ⟨h, h9⟩ := and_ok h
      obtain ⟨h, h8⟩ := and_ok h
      obtain ⟨h, h7⟩ := and_ok h
      obtain ⟨h, h6⟩ := and_ok h
      obtain ⟨h, h5⟩ := and_ok h
      obtain ⟨h, h4⟩ := and_ok h
      obtain ⟨h, h3⟩ := and_ok h
      obtain ⟨h1, h2⟩ := and_ok h
      cases of_decide_eq_true h1
      cases of_decide_eq_true h2
      obtain ⟨p, p2, rfl, hl⟩ := dMeth_ok q
      rw [h3] at hl
      have u := g.units
      have hvar : ∃ i, a = .var i := by
        cases a <;> first
          | exact ⟨_, rfl⟩
          | cases h4
      obtain ⟨j, rfl⟩ := hvar
      obtain ⟨nm, q1, q2⟩ := any_ok (show (dName y).any (S.nm j) = true from h5)
      obtain ⟨p3, rfl⟩ := dName_ok q1
      exact s_getV (by omega) (g.var (f0 := f0) (p := p3) q2).1 (ckE_ok b g h6) (ckE_ok d g h7) h8 h9 hl
    · cases h
  | .mt m a (.cons b .nil), X, S, f0, c, x, g, h => by
    have h : (match dMeth x with | some (y, nm, k, [z]) => decide (mtNm m = some nm) && k && ckE S a y && ckE S b z && notSup y && nstar z | _ => false) = true := h
    split at h
    · rename_i y nm k z q
      obtain ⟨h, h6⟩ := and_ok h
      obtain ⟨h, h5⟩ := and_ok h
      obtain ⟨h, h4⟩ := and_ok h
      obtain ⟨h, h3⟩ := and_ok h
      obtain ⟨h1, h2⟩ := and_ok h
      obtain ⟨p, p2, rfl, hl⟩ := dMeth_ok q
      rw [h2] at hl
      have hn := of_decide_eq_true h1
      have ha := ckE_ok a (f0 := f0) g h3
      have hb := ckE_ok b (f0 := f0) g h4
      cases m with
      | join =>
        cases Option.some.inj hn
        exact s_join g.calm ha hb h5 h6 hl
      | split =>
        cases Option.some.inj hn
        exact s_split ha hb h5 h6 hl
      | rstrip =>
        cases Option.some.inj hn
        exact s_rstrip ha hb h5 h6 hl
      | endswith =>
        cases Option.some.inj hn
        exact s_endswith ha hb h5 h6 hl
      | count =>
        cases Option.some.inj hn
        exact s_count ha hb h5 h6 hl
      | index =>
        cases Option.some.inj hn
        have u := g.units
        exact s_index (by omega) ha hb h5 h6 hl
      | _ => cases hn
    · cases h
  | .told f es, X, S, f0, c, x, g, h => by
    have h : (match dTold x with | some (nm, y :: ys, sc) => S.lm && S.tl && S.gl "_law_told" && LamX.lamSB S.sc sc && (S.lam sc).gl nm && decide (S.gf nm = some f) && !one1 es && ckEs (S.lam sc) es (y :: ys) | _ => false) = true := h
    split at h
    · rename_i nm y ys sc q
      obtain ⟨h, h8⟩ := and_ok h
      obtain ⟨h, h7⟩ := and_ok h
      obtain ⟨h, h6⟩ := and_ok h
      obtain ⟨h, h5⟩ := and_ok h
      obtain ⟨h, h4⟩ := and_ok h
      obtain ⟨h, h3⟩ := and_ok h
      obtain ⟨h1, h2⟩ := and_ok h
      obtain ⟨p, q1, q2, l, r, rfl⟩ := dTold_ok q
      exact s_told g h1 h2 h3 (LamX.lamS_by h4) (fun _ => rfl) (fun _ _ _ _ _ _ => rfl) h5 (of_decide_eq_true h6) (by simpa using h7) fun gy => ckEs_ok es gy h8
    · cases h
  | .mix i k, X, S, f0, c, x, g, h => by
    have h : (match dCall x with | some (nm, [y, z]) => decide (nm = S.mx) && S.gl nm && (dName y).any (S.nm i) && ckE S k z && nstar z | _ => false) = true := h
    split at h
    · rename_i nm y z q
      obtain ⟨h, h5⟩ := and_ok h
      obtain ⟨h, h4⟩ := and_ok h
      obtain ⟨h, h3⟩ := and_ok h
      obtain ⟨h1, h2⟩ := and_ok h
      obtain ⟨p, p2, rfl⟩ := dCall_ok q
      have e1 := of_decide_eq_true h1
      subst e1
      obtain ⟨n2, q1, q2⟩ := any_ok h3
      obtain ⟨p3, rfl⟩ := dName_ok q1
      exact s_mix g h2 (g.var (f0 := f0) (p := p3) q2).1 (ckE_ok k g h4) h5
    · cases h
  | .cmp0 elt t it, X, S, f0, c, x, g, h => by
    have h : (match dComp x with | some (y, tg, iter, [], scope) => ckI S it tg iter && blkC S.N S.sc scope (ownL S.N t.slots) && ckT (S.blk scope) t tg && ckE (S.blk scope) elt y | _ => false) = true := h
    split at h
    · rename_i y tg iter scope q
      obtain ⟨h, h4⟩ := and_ok h
      obtain ⟨h, h3⟩ := and_ok h
      obtain ⟨h1, h2⟩ := and_ok h
      obtain ⟨p, rfl⟩ := dComp_ok q
      have sc := g.sc_ (ckI_ok it (f0 := f0) g h1) h2 h3
      have hk := (blk_of h2).kind
      exact SE.of ((s_cmp0 sc (fun s H C cl fp => ckE_ok elt (g.blk hk s H C cl fp) h4) (fun s H C cl fp => ckE_ok elt (g.lock.blk hk s H C cl fp) h4)).imp fun σ H Q t => tF_tE t) rfl
    · cases h
  | .cmp1 elt t it b, X, S, f0, c, x, g, h => by
    have h : (match dComp x with | some (y, tg, iter, [z], scope) => ckI S it tg iter && blkC S.N S.sc scope (ownL S.N t.slots) && ckT (S.blk scope) t tg && ckE (S.blk scope) elt y && ckE (S.blk scope) b z | _ => false) = true := h
    split at h
    · rename_i y tg iter z scope q
      obtain ⟨h, h5⟩ := and_ok h
      obtain ⟨h, h4⟩ := and_ok h
      obtain ⟨h, h3⟩ := and_ok h
      obtain ⟨h1, h2⟩ := and_ok h
      obtain ⟨p, rfl⟩ := dComp_ok q
      have sc := g.sc_ (ckI_ok it (f0 := f0) g h1) h2 h3
      have hk := (blk_of h2).kind
      exact SE.of ((s_cmp1 sc (fun s H C cl fp => ckE_ok elt (g.blk hk s H C cl fp) h4) (fun s H C cl fp => ckE_ok elt (g.lock.blk hk s H C cl fp) h4) (fun s H C cl fp => ckE_ok b (g.blk hk s H C cl fp) h5) (fun s H C cl fp => ckE_ok b (g.lock.blk hk s H C cl fp) h5)).imp fun σ H Q t => tF_tE t) rfl
    · cases h
termination_by structural e => e
theorem ckW_ok : ∀ (e : E) {X : Cx} {S : Sx} {f0 : List Addr} {c : C} {op : BoolOp} {xs : List Expr} {pos : Pos}, Gd X S c → ckW S e op xs = true → SW X f0 c e (.BoolOp op xs pos)
  | .one a, X, S, f0, c, op, [x], pos, g, h => s_one (ckE_ok a g h)
  | .and a b, X, S, f0, c, .And, x :: y :: r, pos, g, h => by
    obtain ⟨h1, h2⟩ := and_ok (show (ckE S a x && ckW S b .And (y :: r)) = true from h)
    exact s_and (ckE_ok a g h1) (ckW_ok b g h2)
  | .or a b, X, S, f0, c, .Or, x :: y :: r, pos, g, h => by
    obtain ⟨h1, h2⟩ := and_ok (show (ckE S a x && ckW S b .Or (y :: r)) = true from h)
    exact s_or (ckE_ok a g h1) (ckW_ok b g h2)
  | .one a, _, _, _, _, op, [], _, _, h => by cases op <;> cases h
  | .one a, _, _, _, _, op, _ :: _ :: _, _, _, h => by cases op <;> cases h
  | .and a b, _, _, _, _, op, [], _, _, h => by cases op <;> cases h
  | .and a b, _, _, _, _, op, [_], _, _, h => by cases op <;> cases h
  | .and a b, _, _, _, _, .Or, _ :: _ :: _, _, _, h => by cases h
  | .or a b, _, _, _, _, op, [], _, _, h => by cases op <;> cases h
  | .or a b, _, _, _, _, op, [_], _, _, h => by cases op <;> cases h
  | .or a b, _, _, _, _, .And, _ :: _ :: _, _, _, h => by cases h
  | .var _, _, _, _, _, op, xs, _, _, h => by cases op <;> (rcases xs with _ | ⟨_, _ | ⟨_, _⟩⟩) <;> cases h
  | .cst _, _, _, _, _, op, xs, _, _, h => by cases op <;> (rcases xs with _ | ⟨_, _ | ⟨_, _⟩⟩) <;> cases h
  | .bin _ _ _, _, _, _, _, op, xs, _, _, h => by cases op <;> (rcases xs with _ | ⟨_, _ | ⟨_, _⟩⟩) <;> cases h
  | .neg _, _, _, _, _, op, xs, _, _, h => by cases op <;> (rcases xs with _ | ⟨_, _ | ⟨_, _⟩⟩) <;> cases h
  | .not _, _, _, _, _, op, xs, _, _, h => by cases op <;> (rcases xs with _ | ⟨_, _ | ⟨_, _⟩⟩) <;> cases h
  | .cmp _ _ _, _, _, _, _, op, xs, _, _, h => by cases op <;> (rcases xs with _ | ⟨_, _ | ⟨_, _⟩⟩) <;> cases h
  | .chn _ _ _ _ _, _, _, _, _, op, xs, _, _, h => by cases op <;> (rcases xs with _ | ⟨_, _ | ⟨_, _⟩⟩) <;> cases h
  | .tup _, _, _, _, _, op, xs, _, _, h => by cases op <;> (rcases xs with _ | ⟨_, _ | ⟨_, _⟩⟩) <;> cases h
  | .lst _, _, _, _, _, op, xs, _, _, h => by cases op <;> (rcases xs with _ | ⟨_, _ | ⟨_, _⟩⟩) <;> cases h
  | .dic, _, _, _, _, op, xs, _, _, h => by cases op <;> (rcases xs with _ | ⟨_, _ | ⟨_, _⟩⟩) <;> cases h
  | .idx _ _, _, _, _, _, op, xs, _, _, h => by cases op <;> (rcases xs with _ | ⟨_, _ | ⟨_, _⟩⟩) <;> cases h
  | .slc _ _ _, _, _, _, _, op, xs, _, _, h => by cases op <;> (rcases xs with _ | ⟨_, _ | ⟨_, _⟩⟩) <;> cases h
  | .non, _, _, _, _, op, xs, _, _, h => by cases op <;> (rcases xs with _ | ⟨_, _ | ⟨_, _⟩⟩) <;> cases h
  | .rev _, _, _, _, _, op, xs, _, _, h => by cases op <;> (rcases xs with _ | ⟨_, _ | ⟨_, _⟩⟩) <;> cases h
  | .fn _ _, _, _, _, _, op, xs, _, _, h => by cases op <;> (rcases xs with _ | ⟨_, _ | ⟨_, _⟩⟩) <;> cases h
  | .b1 _ _, _, _, _, _, op, xs, _, _, h => by cases op <;> (rcases xs with _ | ⟨_, _ | ⟨_, _⟩⟩) <;> cases h
  | .mx _ _, _, _, _, _, op, xs, _, _, h => by cases op <;> (rcases xs with _ | ⟨_, _ | ⟨_, _⟩⟩) <;> cases h
  | .mt _ _ _, _, _, _, _, op, xs, _, _, h => by cases op <;> (rcases xs with _ | ⟨_, _ | ⟨_, _⟩⟩) <;> cases h
  | .told _ _, _, _, _, _, op, xs, _, _, h => by cases op <;> (rcases xs with _ | ⟨_, _ | ⟨_, _⟩⟩) <;> cases h
  | .mix _ _, _, _, _, _, op, xs, _, _, h => by cases op <;> (rcases xs with _ | ⟨_, _ | ⟨_, _⟩⟩) <;> cases h
  | .cmp0 _ _ _, _, _, _, _, op, xs, _, _, h => by cases op <;> (rcases xs with _ | ⟨_, _ | ⟨_, _⟩⟩) <;> cases h
  | .cmp1 _ _ _ _, _, _, _, _, op, xs, _, _, h => by cases op <;> (rcases xs with _ | ⟨_, _ | ⟨_, _⟩⟩) <;> cases h
termination_by structural e => e
theorem ckEs_ok : ∀ (es : Es) {X : Cx} {S : Sx} {f0 : List Addr} {c : C} {xs : List Expr}, Gd X S c → ckEs S es xs = true → SA X f0 c es xs
  | .nil, X, S, f0, c, [], g, h => sa_nil
  | .cons a es, X, S, f0, c, x :: xs, g, h => by
    obtain ⟨h, h3⟩ := and_ok (show (ckE S a x && nstar x && ckEs S es xs) = true from h)
    obtain ⟨h1, h2⟩ := and_ok h
    exact sa_cons (ckE_ok a g h1) h2 (ckEs_ok es g h3)
  | .nil, _, _, _, _, _ :: _, _, h => nomatch (show false = true from h)
  | .cons _ _, _, _, _, _, [], _, h => nomatch (show false = true from h)
termination_by structural e => e
theorem ckI_ok : ∀ (it : I) {X : Cx} {S : Sx} {f0 : List Addr} {c : C} {tg x : Expr}, Gd X S c → ckI S it tg x = true → SI X f0 c tg it x
  | .val e, X, S, f0, c, tg, x, g, h => by
    obtain ⟨h1, h2⟩ := and_ok (show (ckE S e x && notSet x) = true from h)
    refine ⟨si_val (ckE_ok e g h1), fun i q => ?_, fun v => notSet_st h2 _ v⟩
    cases q
    obtain ⟨nm, q1, q2⟩ := any_ok (show (dName x).any (S.nm i) = true from h1)
    obtain ⟨p, rfl⟩ := dName_ok q1
    exact (g.var (f0 := f0) (p := p) q2).1
  | .rng1 a, X, S, f0, c, tg, x, g, h => by
    have h : (match dCall x with | some (nm, [y]) => decide (nm = "range") && S.gl nm && ckE S a y && nstar y | _ => false) = true := h
    split at h
    · rename_i nm y q
      obtain ⟨h, h4⟩ := and_ok h
      obtain ⟨h, h3⟩ := and_ok h
      obtain ⟨h1, h2⟩ := and_ok h
      obtain ⟨p, p2, rfl⟩ := dCall_ok q
      cases of_decide_eq_true h1
      exact si_of (si_rng1 (g.gl h2).1 (g.bi _ rfl) (ckE_ok a g h3) h4) (fun i z => nomatch z) rfl
    · cases h
  | .rng2 a b, X, S, f0, c, tg, x, g, h => by
    have h : (match dCall x with | some (nm, [y, z]) => decide (nm = "range") && S.gl nm && ckE S a y && nstar y && ckE S b z && nstar z | _ => false) = true := h
    split at h
    · rename_i nm y z q
      obtain ⟨h, h6⟩ := and_ok h
      obtain ⟨h, h5⟩ := and_ok h
      obtain ⟨h, h4⟩ := and_ok h
      obtain ⟨h, h3⟩ := and_ok h
      obtain ⟨h1, h2⟩ := and_ok h
      obtain ⟨p, p2, rfl⟩ := dCall_ok q
      cases of_decide_eq_true h1
      exact si_of (si_rng2 (g.gl h2).1 (g.bi _ rfl) (ckE_ok a g h3) h4 (ckE_ok b g h5) h6) (fun i z => nomatch z) rfl
    · cases h
  | .enm a, X, S, f0, c, tg, x, g, h => by
    have h : (match dCall x with | some (nm, [y]) => decide (nm = "enumerate") && S.gl nm && ckE S a y && nstar y && isTupE tg | _ => false) = true := h
    split at h
    · rename_i nm y q
      obtain ⟨h, h5⟩ := and_ok h
      obtain ⟨h, h4⟩ := and_ok h
      obtain ⟨h, h3⟩ := and_ok h
      obtain ⟨h1, h2⟩ := and_ok h
      obtain ⟨p, p2, rfl⟩ := dCall_ok q
      cases of_decide_eq_true h1
      obtain ⟨es, k, p3, rfl⟩ := isTup_ok h5
      exact si_of (si_enm (g.gl h2).1 (g.bi _ rfl) (ckE_ok a g h3) h4) (fun i z => nomatch z) rfl
    · cases h
  | .zip a b, X, S, f0, c, tg, x, g, h => by
    have h : (match dCall x with | some (nm, [y, z]) => decide (nm = "zip") && S.gl nm && ckE S a y && nstar y && ckE S b z && nstar z && isTupE tg | _ => false) = true := h
    split at h
    · rename_i nm y z q
      obtain ⟨h, h7⟩ := and_ok h
      obtain ⟨h, h6⟩ := and_ok h
      obtain ⟨h, h5⟩ := and_ok h
      obtain ⟨h, h4⟩ := and_ok h
      obtain ⟨h, h3⟩ := and_ok h
      obtain ⟨h1, h2⟩ := and_ok h
      obtain ⟨p, p2, rfl⟩ := dCall_ok q
      cases of_decide_eq_true h1
      obtain ⟨es, k, p3, rfl⟩ := isTup_ok h7
      exact si_of (si_zip (g.gl h2).1 (g.bi _ rfl) (ckE_ok a g h3) h4 (ckE_ok b g h5) h6) (fun i z => nomatch z) rfl
    · cases h
termination_by structural e => e
end
end TD
/-! The checker of statements. -/
namespace TD
open PySem PySem.Spec PyProof.Rows L2
variable [Tb] [Er]
def isStar : Expr → Bool
  | .Starred _ _ => true
  | _ => false
def dNmL (sc : Scope) (line : Nat) : Expr → Option Str
  | .Name id pos => if sc.names.lookup id == some .local && pos.line == line then some id else none
  | _ => none
/-- the stores of a pair of names -/
def swB (sc : Scope) (ts vs : List Expr) : Option (Option (List Str)) :=
  if !(ts.length == 2 || ts.length == 3) || vs.length != ts.length then some none
  else if vs.any isStar then some none
  else
    let line := (ts.head?.map (·.pos.line)).getD 0
    let names := ts.filterMap (dNmL sc line)
    if names.length != ts.length || names.eraseDups.length != names.length then some none
    else if vs.all (foldedForSure 8) then some none
    else if vs.all (constantsAlone 8) then none
    else some (some names)
theorem swB_ok {ts vs : List Expr} {k k2 : Nat} {p p2 : Pos} {env : PySem.Env} {r : Option (List Str)} (hk : env.scope.kind = .function) (h : swB env.scope ts vs = some r) : swappedStores [.Tuple ts k p] (.Tuple vs k2 p2) env = pure r := by
  have hb : env.blockKind = .function := by
    unfold Env.blockKind
    rw [hk]
    rfl
  have hst : (vs.any fun | .Starred .. => true | _ => false) = vs.any isStar := by
    congr 1
  have hnm : (ts.filterMap fun
      | .Name id pos => if env.kindOf id == some .local && pos.line == (ts.head?.map (·.pos.line)).getD 0 then some id else none
      | _ => none) = ts.filterMap (dNmL env.scope ((ts.head?.map (·.pos.line)).getD 0)) := by
    congr 1
  unfold swappedStores
  simp only [hb]
  unfold swB at h
  by_cases c1 : (!(ts.length == 2 || ts.length == 3) || vs.length != ts.length) = true
  · rw [if_pos c1] at h
    cases h
    simp only [c1, Bool.true_or, if_true]
  · rw [if_neg c1] at h
    have c1' : (!(ts.length == 2 || ts.length == 3) || vs.length != ts.length) = false := by simpa using c1
    simp only [c1', Bool.false_or, show ((ScopeKind.function != ScopeKind.function) = true) = False from by simp, if_false]
    by_cases c2 : vs.any isStar = true
    · rw [if_pos c2] at h
      cases h
      exact if_pos c2
    · rw [if_neg c2] at h
      refine Eq.trans (if_neg c2) ?_
      dsimp only at h
      by_cases c3 : ((ts.filterMap (dNmL env.scope ((ts.head?.map (·.pos.line)).getD 0))).length != ts.length || (ts.filterMap (dNmL env.scope ((ts.head?.map (·.pos.line)).getD 0))).eraseDups.length != (ts.filterMap (dNmL env.scope ((ts.head?.map (·.pos.line)).getD 0))).length) = true
      · rw [if_pos c3] at h
        cases h
        exact if_pos c3
      · rw [if_neg c3] at h
        refine Eq.trans (if_neg c3) ?_
        by_cases c4 : vs.all (foldedForSure 8) = true
        · rw [if_pos c4] at h
          cases h
          exact if_pos c4
        · rw [if_neg c4] at h
          refine Eq.trans (if_neg c4) ?_
          by_cases c5 : vs.all (constantsAlone 8) = true
          · rw [if_pos c5] at h
            cases h
          · rw [if_neg c5] at h
            cases h
            refine Eq.trans (if_neg c5) ?_
            rfl
end TD
/-! The checker of statements, and what it passes. -/
namespace TD
open PySem PySem.Spec PyProof.Rows L2
variable [Tb] [Er]
/-! ### the shapes of statements -/
def dAsg : Stmt → Option (Expr × Expr)
  | .Assign [t] x _ => some (t, x)
  | _ => none
def dExp : Stmt → Option Expr
  | .Expr x _ => some x
  | _ => none
def dRet : Stmt → Option Expr
  | .Return (some x) _ => some x
  | _ => none
def dIf : Stmt → Option (Expr × List Stmt × List Stmt)
  | .If x a b _ => some (x, a, b)
  | _ => none
def dFor : Stmt → Option (Expr × Expr × List Stmt)
  | .For t x b [] _ => some (t, x, b)
  | _ => none
def dCont : Stmt → Bool
  | .Continue _ => true
  | _ => false
def dPass : Stmt → Bool
  | .Pass _ => true
  | _ => false
def dRse : Stmt → Option Str
  | .Raise (some (.Call (.Name nm _) [.Constant (.str _) _ _] [] _)) none _ => some nm
  | _ => none
theorem dRse_ok {st : Stmt} {nm : Str} (h : dRse st = some nm) : ∃ m j p p2 q pos, st = .Raise (some (.Call (.Name nm p) [.Constant (.str m) j p2] [] q)) none pos := by
  unfold dRse at h
  split at h
  · cases h
    exact ⟨_, _, _, _, _, _, rfl⟩
  · cases h
/-- if x not in b.setdefault(k, []): b[k].append(x) -/
def dNote : Stmt → Option (Str × Str × Str)
  | .If (.Compare (.Name nx _) [.NotIn] [.Call (.Attribute (.Name nb _) sd ap) [.Name nk _, .List [] _] [] cp] _) [.Expr (.Call (.Attribute (.Subscript (.Name nb2 _) (.Name nk2 _) _) apn ap2) [.Name nx2 _] [] cp2) _] [] _ =>
    if sd = "setdefault" ∧ apn = "append" ∧ nb2 = nb ∧ nk2 = nk ∧ nx2 = nx ∧ (ap.endLine == cp.line) = true ∧ (ap2.endLine == cp2.line) = true then some (nb, nk, nx) else none
  | _ => none
theorem dNote_ok {st : Stmt} {nb nk nx : Str} (h : dNote st = some (nb, nk, nx)) : ∃ p1 p2 p3 p4 p5 p6 p7 p8 p9 p10 pos ap cp ap2 cp2, st = .If (.Compare (.Name nx p1) [.NotIn] [.Call (.Attribute (.Name nb p2) "setdefault" ap) [.Name nk p3, .List [] p4] [] cp] p5) [.Expr (.Call (.Attribute (.Subscript (.Name nb p6) (.Name nk p7) p8) "append" ap2) [.Name nx p9] [] cp2) p10] [] pos ∧ (ap.endLine == cp.line) = true ∧ (ap2.endLine == cp2.line) = true := by
  unfold dNote at h
  split at h
  · split at h
    · rename_i e
      obtain ⟨rfl, rfl, rfl, rfl, rfl, h1, h2⟩ := e
      cases h
      exact ⟨_, _, _, _, _, _, _, _, _, _, _, _, _, _, _, rfl, h1, h2⟩
    · cases h
  · cases h
/-- what is known of refusals in a body -/
structure Gs (X : Cx) (S : Sx) : Prop where
  own : PassesOwn (model X.prog X.w) X.A X.env X.xe
  er : Passes (L2.CX X.prog X.w) X EW
  tk : Takes X (fun cls d _ H' => EW cls d H')
  rs : ∀ nm k, S.ge nm = some k → S.gl nm = true → ∀ (m : Str) (j : Nat) (p p2 pos : Pos), PMk X (.Call (.Name nm p) [.Constant (.str m) j p2] [] pos) (fun _ H Q => Q (Tb.cl k) none H)
def okT : E → Bool
  | .fn _ (.cons (.fn _ gs) .nil) => !one1 gs
  | _ => true
def okTI : I → Bool
  | .enm e => okT e
  | _ => true
theorem dAsg_ok {st : Stmt} {t x : Expr} (h : dAsg st = some (t, x)) : ∃ p, st = .Assign [t] x p := by
  unfold dAsg at h
  split at h
  · cases h
    exact ⟨_, rfl⟩
  · cases h
theorem dExp_ok {st : Stmt} {x : Expr} (h : dExp st = some x) : ∃ p, st = .Expr x p := by
  unfold dExp at h
  split at h
  · cases h
    exact ⟨_, rfl⟩
  · cases h
theorem dRet_ok {st : Stmt} {x : Expr} (h : dRet st = some x) : ∃ p, st = .Return (some x) p := by
  unfold dRet at h
  split at h
  · cases h
    exact ⟨_, rfl⟩
  · cases h
theorem dIf_ok {st : Stmt} {x : Expr} {a b : List Stmt} (h : dIf st = some (x, a, b)) : ∃ p, st = .If x a b p := by
  unfold dIf at h
  split at h
  · cases h
    exact ⟨_, rfl⟩
  · cases h
theorem dFor_ok {st : Stmt} {t x : Expr} {b : List Stmt} (h : dFor st = some (t, x, b)) : ∃ p, st = .For t x b [] p := by
  unfold dFor at h
  split at h
  · cases h
    exact ⟨_, rfl⟩
  · cases h
theorem dCont_ok {st : Stmt} (h : dCont st = true) : ∃ p, st = .Continue p := by
  unfold dCont at h
  split at h
  · exact ⟨_, rfl⟩
  · cases h
theorem dPass_ok {st : Stmt} (h : dPass st = true) : ∃ p, st = .Pass p := by
  unfold dPass at h
  split at h
  · exact ⟨_, rfl⟩
  · cases h
/-- a value stored under a name -/
def ckA (S : Sx) (e : E) (x : Expr) : Bool := okT e && ckE S e x && (isComp x == (match e with | .cmp0 _ _ _ => true | .cmp1 _ _ _ _ => true | _ => false))
def noSwap (S : Sx) (t x : Expr) : Bool := match dTup t, dTup x with
  | some ts, some vs => decide (swB S.sc ts vs = some none)
  | some _, none => true
  | none, _ => false
def ckP (S : Sx) (i j : Nat) (t x : Expr) : Option (Expr × Expr) := match dTup t, dTup x with
  | some [t1, t2], some [x1, x2] => match dName t1, dName t2 with
    | some n1, some n2 => if decide (S.N[i]? = some n1) && decide (S.N[j]? = some n2) && decide (i ≠ j) && decide (S.sc.names.lookup n1 = some .local) && decide (S.sc.names.lookup n2 = some .local) && nstar x1 && nstar x2 && decide (swB S.sc [t1, t2] [x1, x2] = some (some [n1, n2])) then some (x1, x2) else none
    | _, _ => none
  | _, _ => none
def ckM (S : Sx) (i : Nat) (m : Str) (x : Expr) : Option Expr := match dMeth x with
  | some (o, nm, true, [y]) => if decide (nm = m) && (dName o).any (S.nm i) && nstar y then some y else none
  | _ => none
mutual
def ckS (S : Sx) : TD.S → Stmt → Bool
  | .asg (.nm i) e, st => match dAsg st with
    | some (t, x) => (dName t).any (S.tgt i) && ckA S e x
    | none => false
  | .asg (.tp is) e, st => match dAsg st with
    | some (t, x) => okT e && (dTup t).any (ckNs S is) && noSwap S t x && ckE S e x
    | none => false
  | .par i j a b, st => match dAsg st with
    | some (t, x) => (ckP S i j t x).any fun p => ckE S a p.1 && ckE S b p.2
    | none => false
  | .seti i k e, st => match dAsg st with
    | some (t, x) => (dSub t).any fun p => (dName p.1).any (S.nm i) && ckE S k p.2 && nslice p.2 && ckE S e x && !isComp x
    | none => false
  | .app i e, st => (dExp st).any fun x => (ckM S i "append" x).any (ckE S e)
  | .ext i e, st => (dExp st).any fun x => (ckM S i "extend" x).any (ckE S e)
  | .note b k x, st => match k, x with
    | .var k, .var x => (dNote st).any fun t => S.nm b t.1 && S.nm k t.2.1 && S.nm x t.2.2
    | _, _ => false
  | .exp e, st => okT e && (dExp st).any fun x => ckE S e x && !isComp x
  | .ret e, st => okT e && (dRet st).any (ckE S e)
  | .ife e a b, st => match dIf st with
    | some (x, l1, l2) => ckE S e x && ckSs S a l1 && ckSs S b l2
    | none => false
  | .fore t it b, st => match dFor st with
    | some (tg, x, body) => okTI it && ckI S it tg x && ckT S t tg && ckSs S b body
    | none => false
  | .cont, st => dCont st
  | .pass, st => dPass st
  | .rse k, st => (dRse st).any fun nm => decide (S.ge nm = some k) && S.gl nm
termination_by structural s => s
def ckSs (S : Sx) : Ss → List Stmt → Bool
  | .nil, [] => true
  | .cons s r, st :: l => ckS S s st && ckSs S r l
  | _, _ => false
termination_by structural s => s
end
section
variable {X : Cx} {S : Sx} {f0 : List Addr} {c : C} {x y z : Expr} {a b d e : E}
theorem ckTT (g : Gd X S c) (hp : Gs X S) (ho : okT e = true) (h : ckE S e x = true) : PE X x (tT (kx X f0) c e) := by
  by_cases hf : isFn e = true
  · cases e with
    | fn f es =>
      have hc : (match dCall x with | some (nm, y :: ys) => S.gl nm && decide (S.gf nm = some f) && ckEs S es (y :: ys) | _ => false) = true := h
      by_cases hn : c.nl = true
      · split at hc
        · rename_i nm y ys q
          obtain ⟨hc, h3⟩ := and_ok hc
          obtain ⟨h1, h2⟩ := and_ok hc
          obtain ⟨p, p2, rfl⟩ := dCall_ok q
          obtain ⟨g1, g2⟩ := g.gl h1
          have F := g.gf hn nm f (of_decide_eq_true h2)
          by_cases h1o : one1 es = true
          · cases es with
            | nil => cases h1o
            | cons e r => cases e <;> first
              | (cases h1o; done)
              | (cases r <;> first
                | (cases h1o; done)
                | (rename_i f2 gs
                   cases ys with
                   | cons _ _ =>
                     obtain ⟨_, hz⟩ := and_ok (show (ckE S (.fn f2 gs) y && nstar y && false) = true from h3)
                     cases hz
                   | nil =>
                     obtain ⟨h3, _⟩ := and_ok (show (ckE S (.fn f2 gs) y && nstar y && true) = true from h3)
                     obtain ⟨h3, _⟩ := and_ok h3
                     have hd : (match dCall y with | some (nm, y :: ys) => S.gl nm && decide (S.gf nm = some f2) && ckEs S gs (y :: ys) | _ => false) = true := h3
                     split at hd
                     · rename_i nm2 y2 ys2 q2
                       obtain ⟨hd, k3⟩ := and_ok hd
                       obtain ⟨k1, k2⟩ := and_ok hd
                       obtain ⟨p3, p4, rfl⟩ := dCall_ok q2
                       obtain ⟨g3, g4⟩ := g.gl k1
                       exact st_fn2 F (g.gf hn nm2 f2 (of_decide_eq_true k2)) hp.er g1 g2 g3 g4 (by simpa [okT] using ho) (ckEs_ok gs g k3)
                     · cases hd))
          · exact st_fn F hp.er g1 g2 (by simpa using h1o) (ckEs_ok es g h3)
        · cases hc
      · refine ⟨fun pins s σ H Q I t => ?_⟩
        exfalso
        obtain ⟨ρ, F, er, n, u, pk⟩ := t
        have hn : c.nl = false := by simpa using hn
        have key : ∀ (es : Es) (f : Nat), evT c ρ (.fn f es) = .bad := by
          intro es f
          by_cases h1o : one1 es = true
          · cases es with
            | nil => cases h1o
            | cons e r => cases e <;> first
              | (cases h1o; done)
              | (cases r <;> first
                | (cases h1o; done)
                | (rename_i f2 gs
                   show (nE (evs c ρ gs) >>= fun xs => gd c.nl (c.call f2 xs) >>= fun y => gd c.nl (c.call f [y])) = .bad
                   rw [hn]
                   cases evs c ρ gs <;> rfl))
          · rw [evT_fn (by simpa using h1o), hn]
            cases evs c ρ es <;> rfl
        rw [key] at pk
        exact pk
    | _ => cases hf
  · exact st_of (ckE_ok e g h) (by simpa using hf)
theorem s_rse {k : Nat} {m nm : Str} {j : Nat} {p p2 q pos : Pos} (g : Gd X S c) (hp : Gs X S) (h1 : S.ge nm = some k) (h2 : S.gl nm = true) : PS X (.Raise (some (.Call (.Name nm p) [.Constant (.str m) j p2] [] q)) none pos) (tS (kx X f0) c (.rse k)) := by
  refine (ps_raise g.calm hp.tk (hp.rs nm k h1 h2 m j p p2 q)).imp fun D σ H h => ?_
  obtain ⟨ρ, F, er, h0, n, pf⟩ := h
  exact ⟨k, rfl, rfl, pf H F (Sv.of_gr (Gr.refl H) er.dm h0)⟩
theorem si_enmT {p tpos : Pos} {elts : List Expr} {kk : Nat} (hg : Gl X "enumerate") (hm : X.mg "enumerate" = none) (ha : PE X x (tT (kx X f0) c a)) (hx : nstar x = true) : PI X (.Tuple elts kk tpos) (.Call (.Name "enumerate" p) [x] [] pos') (tIT (kx X f0) c (.enm a)) := by
  refine (pi_enS hg hm (pa_cons ha pa_nil (star_cons hx _)) (star_cons hx _)).imp fun σ H RR h => ?_
  obtain ⟨ρ, F, er, n, u, pk⟩ := h
  have pk : PkI H F RR (evT c ρ a >>= fun d => nE (seqD d) >>= fun l => R.ok (false, enmD l)) := pk
  refine ⟨ρ, F, er, n, u, ?_⟩
  cases q : evT c ρ a with
  | ok d =>
    rw [q] at pk
    have pk : PkI H F RR (nE (seqD d) >>= fun l => R.ok (false, enmD l)) := pk
    cases hd : seqD d with
    | ok xs =>
      rw [hd] at pk
      intro v H1 g1 rv
      obtain ⟨m, G, Y, h1, h2, h3, h4⟩ := src_of (K := X.K) rv hd
      exact ⟨v, m, G, Y, rfl, h1, pk _ H1 g1 (wd_enm h2 h3 h4)⟩
    | err k =>
      rw [hd] at pk
      exact pk.elim
    | bad =>
      rw [hd] at pk
      exact pk.elim
  | err k =>
    rw [q] at pk
    exact pk
  | bad =>
    rw [q] at pk
    exact pk.elim
theorem ckIT {tg : Expr} {it : I} (g : Gd X S c) (hp : Gs X S) (ho : okTI it = true) (h : ckI S it tg x = true) : PI X tg x (tIT (kx X f0) c it) := by
  by_cases he : isEnm it = true
  · cases it with
    | enm a =>
      have h : (match dCall x with | some (nm, [y]) => decide (nm = "enumerate") && S.gl nm && ckE S a y && nstar y && isTupE tg | _ => false) = true := h
      split at h
      · rename_i nm y q
        obtain ⟨h, h5⟩ := and_ok h
        obtain ⟨h, h4⟩ := and_ok h
        obtain ⟨h, h3⟩ := and_ok h
        obtain ⟨h1, h2⟩ := and_ok h
        obtain ⟨p, p2, rfl⟩ := dCall_ok q
        cases of_decide_eq_true h1
        obtain ⟨es, k, p3, rfl⟩ := isTup_ok h5
        exact si_enmT (g.gl h2).1 (g.bi _ rfl) (ckTT g hp ho h3) h4
      · cases h
    | _ => cases he
  · exact sit_of (ckI_ok it (f0 := f0) g h).pi (by simpa using he)
/-- a name's store -/
theorem ckA_ok {i : Nat} {nm : Str} {p pos : Pos} (g : Gd X S c) (hp : Gs X S) (ht : S.tgt i nm = true) (h : ckA S e x = true) : PS X (.Assign [.Name nm p] x pos) (tS (kx X f0) c (.asg (.nm i) e)) := by
  have hn := g.tgt ht
  obtain ⟨h, h2⟩ := and_ok h
  obtain ⟨h0, h1⟩ := and_ok h
  have h2 := beq_iff_eq.mp h2
  have plainA : ∀ (e : E), okT e = true → fresh e = false → ckE S e x = true → isComp x = false → PS X (.Assign [.Name nm p] x pos) (tS (kx X f0) c (.asg (.nm i) e)) := fun e h0 hf h1 h2 => s_set g.nd hn.at' hn.loc hn.fl hf (ckTT g hp h0 h1) h2
  cases e with
  | lst es =>
    have hc : (match dLst x with | some xs => ckEs S es xs && decide (xs.length ≤ 1000) | none => false) = true := h1
    split at hc
    · rename_i xs q
      obtain ⟨k1, k2⟩ := and_ok hc
      obtain ⟨p2, rfl⟩ := dLst_ok q
      exact s_setF g.nd hn.at' hn.loc hn.fl rfl (f_lst (ckEs_ok es g k1) (of_decide_eq_true k2)) rfl
    · cases hc
  | dic =>
    obtain ⟨p2, rfl⟩ := dDic_ok (show dDic x = true from h1)
    exact s_setF g.nd hn.at' hn.loc hn.fl rfl f_dic rfl
  | bin o a b =>
    by_cases ho : o = .Add
    · subst ho
      have hc : (match dBin x with | some (y, o', z) => decide (Operator.Add = o') && binOk .Add && ckE S a y && ckE S b z | none => false) = true := h1
      cases q : dBin x with
      | none =>
        rw [q] at hc
        cases hc
      | some t =>
        obtain ⟨y, o', z⟩ := t
        rw [q] at hc
        obtain ⟨hc, k4⟩ := and_ok hc
        obtain ⟨hc, k3⟩ := and_ok hc
        obtain ⟨k1, k2⟩ := and_ok hc
        cases of_decide_eq_true k1
        obtain ⟨p2, rfl⟩ := dBin_ok q
        exact s_setF g.nd hn.at' hn.loc hn.fl rfl (f_add (ckE_ok a g k3) (ckE_ok b g k4)) rfl
    · refine plainA _ rfl ?_ h1 h2
      cases o <;> first
        | rfl
        | exact absurd rfl ho
  | cmp0 elt t it =>
    have hc : (match dComp x with | some (y, tg, iter, [], scope) => ckI S it tg iter && blkC S.N S.sc scope (ownL S.N t.slots) && ckT (S.blk scope) t tg && ckE (S.blk scope) elt y | _ => false) = true := h1
    split at hc
    · rename_i y tg iter scope q
      obtain ⟨hc, k4⟩ := and_ok hc
      obtain ⟨hc, k3⟩ := and_ok hc
      obtain ⟨k1, k2⟩ := and_ok hc
      obtain ⟨p2, rfl⟩ := dComp_ok q
      have sc := g.sc_ (ckI_ok it (f0 := f0) g k1) k2 k3
      have hk := (blk_of k2).kind
      exact s_setC0 hn sc (fun s H C cl fp => ckE_ok elt (g.blk hk s H C cl fp) k4) (fun s H C cl fp => ckE_ok elt (g.lock.blk hk s H C cl fp) k4)
    · cases hc
  | cmp1 elt t it b =>
    have hc : (match dComp x with | some (y, tg, iter, [z], scope) => ckI S it tg iter && blkC S.N S.sc scope (ownL S.N t.slots) && ckT (S.blk scope) t tg && ckE (S.blk scope) elt y && ckE (S.blk scope) b z | _ => false) = true := h1
    split at hc
    · rename_i y tg iter z scope q
      obtain ⟨hc, k5⟩ := and_ok hc
      obtain ⟨hc, k4⟩ := and_ok hc
      obtain ⟨hc, k3⟩ := and_ok hc
      obtain ⟨k1, k2⟩ := and_ok hc
      obtain ⟨p2, rfl⟩ := dComp_ok q
      have sc := g.sc_ (ckI_ok it (f0 := f0) g k1) k2 k3
      have hk := (blk_of k2).kind
      exact s_setC1 hn sc (fun s H C cl fp => ckE_ok elt (g.blk hk s H C cl fp) k4) (fun s H C cl fp => ckE_ok elt (g.lock.blk hk s H C cl fp) k4) (fun s H C cl fp => ckE_ok b (g.blk hk s H C cl fp) k5) (fun s H C cl fp => ckE_ok b (g.lock.blk hk s H C cl fp) k5)
    · cases hc
  | var _ => exact plainA _ h0 rfl h1 h2
  | cst _ => exact plainA _ h0 rfl h1 h2
  | neg _ => exact plainA _ h0 rfl h1 h2
  | not _ => exact plainA _ h0 rfl h1 h2
  | one _ => exact plainA _ h0 rfl h1 h2
  | and _ _ => exact plainA _ h0 rfl h1 h2
  | or _ _ => exact plainA _ h0 rfl h1 h2
  | cmp _ _ _ => exact plainA _ h0 rfl h1 h2
  | chn _ _ _ _ _ => exact plainA _ h0 rfl h1 h2
  | tup _ => exact plainA _ h0 rfl h1 h2
  | idx _ _ => exact plainA _ h0 rfl h1 h2
  | slc _ _ _ => exact plainA _ h0 rfl h1 h2
  | non => exact plainA _ h0 rfl h1 h2
  | rev _ => exact plainA _ h0 rfl h1 h2
  | fn _ _ => exact plainA _ h0 rfl h1 h2
  | b1 _ _ => exact plainA _ h0 rfl h1 h2
  | mx _ _ => exact plainA _ h0 rfl h1 h2
  | mt _ _ _ => exact plainA _ h0 rfl h1 h2
  | mix _ _ => exact plainA _ h0 rfl h1 h2
  | told _ _ => exact plainA _ h0 rfl h1 h2
theorem Gd.knd (g : Gd X S c) : X.env.scope.kind = .function := by
  rw [g.sc]
  exact g.kind
theorem noSwap_ok {es : List Expr} {k : Nat} {p : Pos} (g : Gd X S c) (h : noSwap S (.Tuple es k p) x = true) : swappedStores [.Tuple es k p] x X.env = pure none := by
  unfold noSwap at h
  cases q : dTup x with
  | none =>
    cases x <;> first
      | rfl
      | cases q
  | some vs =>
    rw [q] at h
    obtain ⟨k2, p2, rfl⟩ := dTup_ok q
    refine swB_ok g.knd ?_
    rw [g.sc]
    exact of_decide_eq_true h
theorem ckM_ok {i : Nat} {m : Str} (h : ckM S i m x = some y) : ∃ nm p q r, x = .Call (.Attribute (.Name nm p) m q) [y] [] r ∧ (q.endLine == r.line) = true ∧ S.nm i nm = true ∧ nstar y = true := by
  unfold ckM at h
  split at h
  · rename_i o nm y' q
    split at h
    · rename_i hc
      cases h
      obtain ⟨hc, k3⟩ := and_ok hc
      obtain ⟨k1, k2⟩ := and_ok hc
      cases of_decide_eq_true k1
      obtain ⟨n2, q1, q2⟩ := any_ok k2
      obtain ⟨p1, rfl⟩ := dName_ok q1
      obtain ⟨p, r, rfl, hl⟩ := dMeth_ok q
      exact ⟨n2, p1, p, r, rfl, hl, q2, k3⟩
    · cases h
  · cases h
theorem notComp {x : Expr} (h : (!isComp x) = true) : isComp x = false := by simpa using h
end
mutual
theorem ckS_ok : ∀ (s : TD.S) {X : Cx} {S : Sx} {f0 : List Addr} {c : C} {st : Stmt}, Gd X S c → Gs X S → ckS S s st = true → PS X st (tS (kx X f0) c s)
  | .asg (.nm i) e, X, S, f0, c, st, g, hp, h => by
    have h : (match dAsg st with | some (t, x) => (dName t).any (S.tgt i) && ckA S e x | none => false) = true := h
    split at h
    · rename_i t x q
      obtain ⟨h1, h2⟩ := and_ok h
      obtain ⟨nm, q1, q2⟩ := any_ok h1
      obtain ⟨p, rfl⟩ := dName_ok q1
      obtain ⟨pos, rfl⟩ := dAsg_ok q
      exact ckA_ok g hp q2 h2
    · cases h
  | .asg (.tp is) e, X, S, f0, c, st, g, hp, h => by
    have h : (match dAsg st with | some (t, x) => okT e && (dTup t).any (ckNs S is) && noSwap S t x && ckE S e x | none => false) = true := h
    split at h
    · rename_i t x q
      obtain ⟨h, h3⟩ := and_ok h
      obtain ⟨h, h2⟩ := and_ok h
      obtain ⟨h0, h1⟩ := and_ok h
      obtain ⟨es, q1, q2⟩ := any_ok h1
      obtain ⟨k, p, rfl⟩ := dTup_ok q1
      obtain ⟨pos, rfl⟩ := dAsg_ok q
      exact s_asgT g.nd g.calm (g.nms q2) (ckTT g hp h0 h3) (noSwap_ok g h2)
    · cases h
  | .par i j a b, X, S, f0, c, st, g, hp, h => by
    have h : (match dAsg st with | some (t, x) => (ckP S i j t x).any fun p => ckE S a p.1 && ckE S b p.2 | none => false) = true := h
    split at h
    · rename_i t x q
      obtain ⟨⟨x1, x2⟩, q1, h⟩ := any_ok h
      obtain ⟨k1, k2⟩ := and_ok h
      obtain ⟨pos, rfl⟩ := dAsg_ok q
      unfold ckP at q1
      split at q1
      · rename_i t1 t2 y1 y2 r1 r2
        split at q1
        · rename_i n1 n2 r3 r4
          split at q1
          · rename_i hc
            cases q1
            obtain ⟨hc, m8⟩ := and_ok hc
            obtain ⟨hc, m7⟩ := and_ok hc
            obtain ⟨hc, m6⟩ := and_ok hc
            obtain ⟨hc, m5⟩ := and_ok hc
            obtain ⟨hc, m4⟩ := and_ok hc
            obtain ⟨hc, m3⟩ := and_ok hc
            obtain ⟨m1, m2⟩ := and_ok hc
            obtain ⟨p1, rfl⟩ := dName_ok r3
            obtain ⟨p2, rfl⟩ := dName_ok r4
            obtain ⟨k3, p3, rfl⟩ := dTup_ok r1
            obtain ⟨k4, p4, rfl⟩ := dTup_ok r2
            refine s_par g.calm g.nd (by rw [g.N]; exact of_decide_eq_true m1) (by rw [g.N]; exact of_decide_eq_true m2) (of_decide_eq_true m3) (by rw [g.sc]; exact of_decide_eq_true m4) (by rw [g.sc]; exact of_decide_eq_true m5) (ckE_ok a g k1) (ckE_ok b g k2) m6 m7 (swB_ok g.knd ?_)
            rw [g.sc]
            exact of_decide_eq_true m8
          · cases q1
        · cases q1
      · cases q1
    · cases h
  | .seti i k e, X, S, f0, c, st, g, hp, h => by
    have h : (match dAsg st with | some (t, x) => (dSub t).any fun p => (dName p.1).any (S.nm i) && ckE S k p.2 && nslice p.2 && ckE S e x && !isComp x | none => false) = true := h
    split at h
    · rename_i t x q
      obtain ⟨⟨o, y⟩, q1, h⟩ := any_ok h
      obtain ⟨h, h5⟩ := and_ok h
      obtain ⟨h, h4⟩ := and_ok h
      obtain ⟨h, h3⟩ := and_ok h
      obtain ⟨h1, h2⟩ := and_ok h
      obtain ⟨nm, q2, q3⟩ := any_ok h1
      obtain ⟨p, rfl⟩ := dName_ok q2
      obtain ⟨p2, rfl⟩ := dSub_ok q1
      obtain ⟨pos, rfl⟩ := dAsg_ok q
      have u := g.units
      exact s_seti (by omega) (g.var (f0 := f0) (p := p) q3).1 (ckE_ok k g h2) (ckE_ok e g h4) h3 (notComp h5)
    · cases h
  | .app i e, X, S, f0, c, st, g, hp, h => by
    obtain ⟨x, q, h'⟩ := any_ok (show ((dExp st).any fun x => (ckM S i "append" x).any (ckE S e)) = true from h)
    obtain ⟨y, q1, h2⟩ := any_ok h'
    obtain ⟨pos, rfl⟩ := dExp_ok q
    obtain ⟨nm, p, ap, cp, rfl, hl, hn, hs⟩ := ckM_ok q1
    exact s_app (g.var (f0 := f0) (p := p) hn).1 (ckE_ok e g h2) hs hl
  | .ext i e, X, S, f0, c, st, g, hp, h => by
    obtain ⟨x, q, h'⟩ := any_ok (show ((dExp st).any fun x => (ckM S i "extend" x).any (ckE S e)) = true from h)
    obtain ⟨y, q1, h2⟩ := any_ok h'
    obtain ⟨pos, rfl⟩ := dExp_ok q
    obtain ⟨nm, p, ap, cp, rfl, hl, hn, hs⟩ := ckM_ok q1
    exact s_ext (g.var (f0 := f0) (p := p) hn).1 (ckE_ok e g h2) hs hl
  | .note b k x, X, S, f0, c, st, g, hp, h => by
    have h : (match (generalizing := false) k, x with | .var k, .var x => (dNote st).any fun t => S.nm b t.1 && S.nm k t.2.1 && S.nm x t.2.2 | _, _ => false) = true := h
    split at h
    · rename_i k x
      obtain ⟨⟨nb, nk, nx⟩, q, h⟩ := any_ok h
      obtain ⟨h, h3⟩ := and_ok h
      obtain ⟨h1, h2⟩ := and_ok h
      obtain ⟨p1, p2, p3, p4, p5, p6, p7, p8, p9, p10, pos, ap, cp, ap2, cp2, rfl, hl1, hl2⟩ := dNote_ok q
      have u := g.units
      exact s_note (by omega) (fun p => (g.var (f0 := f0) (p := p) h1).1) (fun p => (g.var (f0 := f0) (p := p) h2).1) (fun p => (g.var (f0 := f0) (p := p) h3).1) hl1 hl2
    · cases h
  | .exp e, X, S, f0, c, st, g, hp, h => by
    obtain ⟨h0, h⟩ := and_ok (show (okT e && (dExp st).any fun x => ckE S e x && !isComp x) = true from h)
    obtain ⟨x, q, h⟩ := any_ok h
    obtain ⟨h1, h2⟩ := and_ok h
    obtain ⟨pos, rfl⟩ := dExp_ok q
    exact s_exp (ckTT g hp h0 h1) (swaps_no (notComp h2) _ _ _)
  | .ret e, X, S, f0, c, st, g, hp, h => by
    obtain ⟨h0, h⟩ := and_ok (show (okT e && (dRet st).any (ckE S e)) = true from h)
    obtain ⟨x, q, h⟩ := any_ok h
    obtain ⟨pos, rfl⟩ := dRet_ok q
    exact s_ret (ckTT g hp h0 h)
  | .ife e a b, X, S, f0, c, st, g, hp, h => by
    have h : (match dIf st with | some (x, l1, l2) => ckE S e x && ckSs S a l1 && ckSs S b l2 | none => false) = true := h
    split at h
    · rename_i x l1 l2 q
      obtain ⟨h, h3⟩ := and_ok h
      obtain ⟨h1, h2⟩ := and_ok h
      obtain ⟨pos, rfl⟩ := dIf_ok q
      exact s_if (ckE_ok e g h1) (ckSs_ok a g hp h2) (ckSs_ok b g hp h3)
    · cases h
  | .fore t it b, X, S, f0, c, st, g, hp, h => by
    have h : (match dFor st with | some (tg, x, body) => okTI it && ckI S it tg x && ckT S t tg && ckSs S b body | none => false) = true := h
    split at h
    · rename_i tg x body q
      obtain ⟨h, h3⟩ := and_ok h
      obtain ⟨h, h2⟩ := and_ok h
      obtain ⟨h0, h1⟩ := and_ok h
      obtain ⟨pos, rfl⟩ := dFor_ok q
      exact s_for hp.own g.calm (ckI_ok it g h1) (ckIT g hp h0 h1) (sg_of g.nd g.calm (g.tg h2)) (ckSs_ok b g hp h3) (ckSs_ok b g.lock hp h3)
    · cases h
  | .cont, X, S, f0, c, st, g, hp, h => by
    obtain ⟨p, rfl⟩ := dCont_ok (show dCont st = true from h)
    exact s_cont
  | .pass, X, S, f0, c, st, g, hp, h => by
    obtain ⟨p, rfl⟩ := dPass_ok (show dPass st = true from h)
    exact s_pass
  | .rse k, X, S, f0, c, st, g, hp, h => by
    obtain ⟨nm, q, h⟩ := any_ok (show ((dRse st).any fun nm => decide (S.ge nm = some k) && S.gl nm) = true from h)
    obtain ⟨h1, h2⟩ := and_ok h
    obtain ⟨m, j, p, p2, q', pos, rfl⟩ := dRse_ok q
    exact s_rse g hp (of_decide_eq_true h1) h2
termination_by structural s => s
theorem ckSs_ok : ∀ (s : Ss) {X : Cx} {S : Sx} {f0 : List Addr} {c : C} {l : List Stmt}, Gd X S c → Gs X S → ckSs S s l = true → PSs X l (tSs (kx X f0) c s)
  | .nil, X, S, f0, c, [], g, hp, h => ss_nil
  | .cons s r, X, S, f0, c, st :: l, g, hp, h => by
    obtain ⟨h1, h2⟩ := and_ok (show (ckS S s st && ckSs S r l) = true from h)
    exact ss_cons (ckS_ok s g hp h1) (ckSs_ok r g hp h2)
  | .nil, _, _, _, _, _ :: _, _, _, h => nomatch (show false = true from h)
  | .cons _ _, _, _, _, _, [], _, _, h => nomatch (show false = true from h)
termination_by structural s => s
end
end TD
/-! A def that asks for less of the heap; the end where tables are kept. -/
namespace TD
open PySem PySem.Spec PyProof.Rows L2
/-- a list, a list that stands still, a table -/
def solo : HO → Bool
  | .lst _ => true
  | .frz _ (.lst _) => true
  | .tbl _ => true
  | _ => false
theorem solo_cases {o : HO} (i : solo o = true) : (∃ xs, o = .lst xs) ∨ (∃ ob xs, o = .frz ob (.lst xs)) ∨ ∃ ps, o = .tbl ps := by
  cases o with
  | lst xs => exact .inl ⟨xs, rfl⟩
  | tbl ps => exact .inr (.inr ⟨ps, rfl⟩)
  | frz ob u =>
    cases u with
    | lst xs => exact .inr (.inl ⟨ob, xs, rfl⟩)
    | _ => cases i
  | _ => cases i
theorem solo_ok {P : Program} {w : World} {H H' : Hp} {h : Heap} {a : Addr} {o : HO} (i : solo o = true) (x : ObjOk P w H h a o) : ObjOk P w H' h a o := by
  rcases solo_cases i with ⟨xs, rfl⟩ | ⟨ob, xs, rfl⟩ | ⟨ps, rfl⟩
  · exact x
  · exact x
  · exact x
/-- what was there, what was lent as it came back -/
def back (H H1 : Hp) (b : Addr) : Option HO → Option HO
  | none => H b
  | some (.tbl _) => H1 b
  | some (.frz o u) => some (.frz o u)
  | some _ => none
section
variable {P : Program} {w : World} {K : PySem.W.Frag} {mg : Str → Option Value} {base : Heap} {CX : CXT} {k : Nat} {f : Addr} {fd : FuncData} {ps : List Str} {sp sp' : Sp}
theorem un_less {outer : List PySem.Env} {H H0 H1 : Hp} {h h1 : Heap} (sub : ∀ b o, H0 b = some o → H b = some o ∧ solo o = true) (frf : ∀ b ∈ frs outer, H b = none) (hok0 : HOk P w H h) (un : Un (frs outer) [] H0 H1 h h1) (hok : HOk P w H1 h1) :
    Un (frs outer) [] H (fun b => back H H1 b (H0 b)) h h1 ∧ HOk P w (fun b => back H H1 b (H0 b)) h1 := by
  have none0 : ∀ b, H b = none → H0 b = none := fun b e => by
    cases z : H0 b with
    | none => rfl
    | some o =>
      rw [(sub b o z).1] at e
      cases e
  have out : ∀ b u, H b = some u → solo u = false → H0 b = none := fun b u e i => by
    cases z : H0 b with
    | none => rfl
    | some o =>
      obtain ⟨z1, z2⟩ := sub b o z
      rw [z1] at e
      cases e
      rw [i] at z2
      cases z2
  have nofs : ∀ b u, H b = some u → b ∉ frs outer := fun b u e z => by
    rw [frf b z] at e
    cases e
  refine ⟨⟨fun b o e n => un.keep b o e (none0 b n), fun b o e n => un.slot b o e (none0 b n), fun b o e n hx => ?_, un.there, fun b xs e => ?_, fun b o u e => ?_, fun b ps e => ?_⟩, fun b o e => ?_⟩
  · show back H H1 b (H0 b) = none
    rw [none0 b n]
    exact n
  · show back H H1 b (H0 b) = _
    rw [out b _ e rfl]
    exact e
  · show back H H1 b (H0 b) = _
    cases z : H0 b with
    | none => exact e
    | some x =>
      have z1 := (sub b x z).1
      rw [z1] at e
      have e := Option.some.inj e
      subst e
      rfl
  · show ∃ more, back H H1 b (H0 b) = _
    cases z : H0 b with
    | none => exact ⟨#[], by rw [Array.append_empty]; exact e⟩
    | some x =>
      have z1 := (sub b x z).1
      rw [z1] at e
      have e := Option.some.inj e
      subst e
      exact un.tbls b ps z
  · have e : back H H1 b (H0 b) = some o := e
    cases z : H0 b with
    | none =>
      rw [z] at e
      have e : H b = some o := e
      refine (hok0 b o e).stay (fun d x hd qd => ?_) (fun d hd => ?_) fun d xs hd => ?_
      · rcases hd with hd | hd
        · rw [hd] at qd ⊢
          exact un.keep b x qd z (nofs b o e) List.not_mem_nil
        · exact un.keep d x qd (out d _ hd rfl) (nofs d _ hd) List.not_mem_nil
      · show back H H1 d (H0 d) = _
        rw [out d _ hd rfl]
        exact hd
      · show back H H1 d (H0 d) = _
        rw [out d _ hd rfl]
        exact hd
    | some x =>
      rw [z] at e
      rcases solo_cases (sub b x z).2 with ⟨xs, rfl⟩ | ⟨ob, xs, rfl⟩ | ⟨ps, rfl⟩
      · cases e
      · have e := Option.some.inj e
        subst e
        exact solo_ok rfl (hok b _ (un.frzs b ob _ z))
      · obtain ⟨more, hm⟩ := un.tbls b ps z
        have e : H1 b = some o := e
        rw [hm] at e
        have e := Option.some.inj e
        subst e
        exact solo_ok rfl (hok b _ hm)
theorem fn_less (F : FnOk P w K mg base CX k f fd ps sp) (hX : ∀ outer H s e s', CX outer H s E0 e s' → False) (len : ∀ vs H Q E, sp' vs H Q E → vs.length = ps.length)
    (hl : ∀ vs H Q E, sp' vs H Q E → ∃ H0 : Hp, (∀ b o, H0 b = some o → H b = some o ∧ solo o = true) ∧ sp vs H0 (fun v _ => ∀ H', Q v H') E0) : FnOk P w K mg base CX k f fd ps sp' := by
  refine ⟨len, fun A outer s H args us vs Q E hr he hb hv hs => ?_⟩
  obtain ⟨H0, sub, q⟩ := hl vs H Q E hs
  have none0 : ∀ b, H b = none → H0 b = none := fun b e => by
    cases z : H0 b with
    | none => rfl
    | some o =>
      rw [(sub b o z).1] at e
      cases e
  have he0 : Env0 P w K mg base A outer s H0 := ⟨he.frames, he.mod, fun b o e => ⟨(he.bs b o e).1, none0 b (he.bs b o e).2⟩, he.bsz, he.funs, fun b hb => none0 b (he.frf b hb), fun a o e => solo_ok (sub a o e).2 (he.hok a o (sub a o e).1), he.bare⟩
  refine codeAny_mono (F.run A outer s H0 args us vs (fun v _ => ∀ H', Q v H') E0 hr he0 hb hv q) fun r s' hq => ?_
  cases r with
  | error e => exact (hX outer H0 s e s' hq).elim
  | ok fl =>
    cases fl with
    | ret u =>
      obtain ⟨v, H1, os, bare, un, hok, rv, qv⟩ := hq
      obtain ⟨un2, hok2⟩ := un_less sub he.frf he.hok un hok
      exact ⟨v, _, os, bare, un2, hok2, rv, qv _⟩
    | _ => exact (show False from hq).elim
end
/-! ### the end -/
/-- the tables of the defs that make lambdas are empty behind the top -/
theorem walk_tabs {l : PySem.W.OpenLaw} {n k : Nat} {q : Program} {loose : List Str} {XP : (Str → Option Value) → Heap → Prop} {YP : World → Heap → Prop} {d : DefRec} {K : Params → PySem.W.Frag} {CX : World → CXT} {x : Str}
    (hn : l.most = some n) (hn2 : n ≤ sizeLine) (hdf : d.params.defaults = []) (hr : Room k callerA) (hY : ∀ (w : World) (h : Heap), YP w h → (K w.params).In h)
    (F : ∀ (w : World) (mg : Str → Option Value) (fa : Addr) (h : Heap), YP w h → (K w.params).In h → h.Ns mainGlobals mg → mg d.name = some (.ref fa) → (∀ (y : Str) (f : Addr), ((recsOf q).any fun e => e.name == y) = true → mg y = some (.ref f) → LamX.OwnTab (K w.params) f h) → LamX.LawAtS l w (K w.params) (CX w) k n x mg fa h)
    (hCX : ∀ (w : World) (H : Hp) (s : Shared) (e : Value) (s' : Shared), CX w [] H s (fun _ _ _ => False) e s' → False) :
    PySem.W.WalkO q loose XP YP l.row.toRowW d [] (fun f vs => PySem.call f vs) := by
  refine Att.attach_callB hn hdf fun w s0 s1 mg mb fa o pm cd doc a vs ns G Y ho hd hcd hmg hobj hints hlen hbits hg => ?_
  have KX := hY w _ Y
  have own : ∀ (y : Str) (f : Addr), ((recsOf q).any fun e => e.name == y) = true → mg y = some (.ref f) → LamX.OwnTab (K w.params) f s1.heap := by
    intro y f hy hf c P o1 fd1 e dd vs1 sl m1 m2 m3 m4 m5
    obtain ⟨r, hr1, hr2⟩ := List.any_eq_true.mp hy
    obtain ⟨a', o', fd', c', P', t1, t2, t3, t4, t5, t6⟩ := G.T.tab r hr1
    rw [beq_iff_eq.mp hr2, hf] at t1
    cases t1
    rw [KX _ _ m1] at t2
    cases t2
    rw [m2] at t3
    cases t3
    rw [m3] at t4
    cases t4
    obtain ⟨⟨oc, vc, w1, _, w3, w4⟩, hP⟩ := t6
    rw [KX _ _ m4] at w1
    cases w1
    cases w3
    rw [m5] at w4
    cases w4
    exact hP
  obtain ⟨fd, cs, sp, hT, nT, C, hb, hsp, hF⟩ := F w mg fa _ Y KX G.T.g hmg own
  exact LamX.law_callTs KX G.T.g G.T.b G.T.builtins G.T.nolimit hg hT nT C G.T.bmain hobj hints (Nat.le_trans hlen hn2) hr hF hb (fun H hH hS => hsp H a ns hlen hbits hH hS) fun H e s' => hCX w H s1 e s'
end TD
/-! Defs: what each promises; the law. -/
namespace TD
open PySem PySem.Spec PyProof.Rows L2
variable [Tb]
/-- a def: its name, its text, its parameters, its form here, whether it makes lambdas -/
structure Dfn where
  code : Nat
  x : Str
  st : Stmt
  ps : List Str
  fn : Fn
  lm : Bool := false
def gfOf (ds : List Dfn) (x : Str) : Option Nat := (ds.find? fun d => decide (d.x = x)).map (·.code)
def tbOf (ds : List Dfn) : Tab := fun f => (ds.find? fun d => decide (d.code = f)).map (·.fn)
def sxOf (ds : List Dfn) (gv : Str → Option PyData) (ge : Str → Option Nat) (N : List Str) (sc : Scope) (lm tl : Bool) : Sx := ⟨N, sc, fun _ => true, gv, gfOf ds, "_law_mixed", ge, lm, tl⟩
def scB (N P : List Str) (sc : Scope) : Bool :=
  decide (sc.kind = .function) && !sc.isCoroutine && !sc.isGenerator && decide N.Nodup && decide (N.take P.length = P) && P.all (fun x => decide (sc.names.lookup x = some .local ∨ sc.names.lookup x = some .cell)) && sc.names.all fun y => decide (y.2 ≠ .free)
omit [Tb] in
theorem scB_ok {N P : List Str} {sc : Scope} (h : scB N P sc = true) : FnScope N P sc := by
  unfold scB at h
  simp only [Bool.and_eq_true, Bool.not_eq_true', decide_eq_true_eq, List.all_eq_true] at h
  obtain ⟨⟨⟨⟨⟨⟨a1, a2⟩, a3⟩, a4⟩, a5⟩, a6⟩, a7⟩ := h
  exact ⟨a1, a2, a3, a4, a5, a6, a7⟩
def okD (ds : List Dfn) (gv : Str → Option PyData) (ge : Str → Option Nat) (d : Dfn) : Bool :=
  scB d.fn.names d.ps (defScope d.st) && decide (d.fn.np = d.ps.length) && ckSs (sxOf ds gv ge d.fn.names (defScope d.st) d.lm false) d.fn.body (defBody d.st)
/-- a def where it stands, its code object known -/
structure FunC (K : PySem.W.Frag) (x : Str) (st : Stmt) (f : Addr) (fd : FuncData) (cdv : Value) : Prop where
  ex : ∃ (oc : Value) (od : Option Addr) (kV doc pm : Value) (an : Option Addr) (ct : Value) (osl : Array (Option Value)), fd = PySem.W.fnOf x x (defArgs st) (defBody st) (defScope st) .none kV doc pm an cdv ct ∧ K.lookup f = some ⟨oc, od, .func fd, osl⟩ ∧ PySem.W.codeIn K cdv x = true
  kp : PySem.W.keepIn K (.ref f) = true
omit [Tb] in
theorem func_mk {K : PySem.W.Frag} {x : Str} {st : Stmt} {f : Addr} {oc : Value} {od an : Option Addr} {osl : Array (Option Value)} {kV doc pm cdv ct : Value} (l : K.lookup f = some ⟨oc, od, .func (PySem.W.fnOf x x (defArgs st) (defBody st) (defScope st) .none kV doc pm an cdv ct), osl⟩)
    (c : PySem.W.codeIn K cdv x = true) (k : PySem.W.keepIn K (.ref f) = true) : FunC K x st f (PySem.W.fnOf x x (defArgs st) (defBody st) (defScope st) .none kV doc pm an cdv ct) cdv := ⟨⟨oc, od, kV, doc, pm, an, ct, osl, rfl, l, c⟩, k⟩
/-- the place of a def's lambdas -/
def LamC (base : Heap) (mg : Str → Option Value) (x : Str) (cdv : Value) : Prop := ∃ c P, cdv = .ref c ∧ LamX.TabB base mg c P ∧ (P, (x ++ ".<locals>.") ++ "<lambda>") ∈ Tb.T ∧ ∀ p ∈ Tb.T, p.1 = P → p.2 = (x ++ ".<locals>.") ++ "<lambda>"
/-- the class of a refusal -/
def ClsC (K : PySem.W.Frag) (mg : Str → Option Value) (nm : Str) (k : Nat) : Prop := ∃ C, mg nm = some (.ref C) ∧ Tb.cl k = .ref C ∧ PySem.W.excIn K C [.type "ValueError", .type "Exception", .type "BaseException", .type "object"] "ValueError.__new__" = true ∧ PySem.W.keepIn K (.ref C) = true ∧
  PySem.W.subIn K (.ref C) (.type "BaseException") = some true ∧ PySem.W.typeIn K (.ref C) = some (.type "type")
/-- what the top has written -/
structure Tops (K : PySem.W.Frag) (mg : Str → Option Value) (base : Heap) (ds : List Dfn) (gv : Str → Option PyData) (ge : Str → Option Nat) : Prop where
  df : ∀ d ∈ ds, ∃ fa fd cdv, FunC K d.x d.st fa fd cdv ∧ mg d.x = some (.ref fa) ∧ Binds K fd d.ps [] ∧ (d.lm = true → LamC base mg d.x cdv)
  gv : ∀ x p, gv x = some p → ∃ v u, mg x = some u ∧ RelV v u ∧ ∀ M : Hp, Rp M v p
  bi : ∀ x, isBi x = true → mg x = none
  ge : ∀ x k, ge x = some k → ClsC K mg x k
section
variable {P : Program} {w : World} {K : PySem.W.Frag} {mg : Str → Option Value} {base : Heap} {ds : List Dfn} {gv : Str → Option PyData} {ge : Str → Option Nat}
omit [Tb] in
theorem gf_mem {x : Str} {f : Nat} (h : gfOf ds x = some f) : ∃ d, d ∈ ds ∧ d.x = x ∧ d.code = f := by
  unfold gfOf at h
  obtain ⟨d, h1, h2⟩ := Option.map_eq_some_iff.mp h
  have h3 := List.find?_some h1
  exact ⟨d, List.mem_of_find?_eq_some h1, of_decide_eq_true h3, h2⟩
omit [Tb] in
theorem tb_mem : ∀ {ds : List Dfn} {d : Dfn}, (ds.map (·.code)).Nodup → d ∈ ds → tbOf ds d.code = some d.fn
  | e :: ds, d, hn, hd => by
    rw [List.map_cons, List.nodup_cons] at hn
    unfold tbOf
    rw [List.find?_cons]
    rcases List.mem_cons.mp hd with rfl | hd
    · rw [decide_eq_true rfl]
      rfl
    · have hne : ¬ e.code = d.code := fun z => hn.1 (by rw [z]; exact List.mem_map.mpr ⟨d, hd, rfl⟩)
      rw [decide_eq_false hne]
      exact tb_mem hn.2 hd
omit [Tb] in
theorem startE_len {n : Nat} {ps : List PyData} (h : ps.length ≤ n) : (startE n ps).length = n := by
  unfold startE
  rw [List.length_append, List.length_map, List.length_replicate]
  omega
theorem start_er {H : Hp} {F f0 : List Addr} {N : List Str} {vs : List V} {ps : List PyData} (dm : Dm F H) (r : RpAll (vw H F) vs ps) (hl : ps.length ≤ N.length) : ER ⟨K, f0⟩ H F (L2.start N vs) (startE N.length ps) := by
  have hv := r.length
  refine ⟨dm, ?_, fun _ => [], fun i o d e => ?_, fun i j _ a ha => absurd ha List.not_mem_nil, fun i a ha => absurd ha List.not_mem_nil⟩
  · rw [startE_len hl]
    unfold L2.start
    rw [List.length_append, List.length_map, List.length_replicate]
    omega
  · unfold startE at e
    by_cases hi : i < ps.length
    · rw [List.getElem?_append_left (by rw [List.length_map]; exact hi), List.getElem?_map, List.getElem?_eq_getElem hi] at e
      cases e
      obtain ⟨v, e1, rv⟩ := r.get (List.getElem?_eq_getElem hi)
      refine ⟨v, ?_, rfl, rv⟩
      unfold L2.start
      rw [List.getElem?_append_left (by rw [List.length_map, hv]; exact hi), List.getElem?_map, e1]
      rfl
    · rw [List.getElem?_append_right (by rw [List.length_map]; omega)] at e
      rw [List.getElem?_replicate] at e
      split at e
      · cases e
      · cases e
omit [Tb] in
theorem Dm.nil (H : Hp) : Dm [] H := fun a ha => absurd ha List.not_mem_nil
theorem Sv.gr {H H' : Hp} {F F' : List Addr} (s : Sv F H F H' F') : Gr H H' := ⟨fun b o e i => by
  by_cases hb : b ∈ F
  · rw [s.base b hb]
    exact e
  · exact s.keep b o e i hb, s.nz⟩
theorem run_pf [Er] {K : Kx} {H : Hp} {F : List Addr} {Q : VK} {c : C} {fn : Fn} {ps : List PyData} (hk : K.f0 = F) (h : Pk Er.W H F Q (run c fn ps)) : ps.length = fn.np ∧ Pf K H F { nx := fun _ H' => Q .non H', rt := Q } (exs c (startE fn.names.length ps) fn.body) := by
  obtain ⟨h1, h⟩ := Pk.gdW (show Pk Er.W H F Q (gd (decide (ps.length = fn.np)) (exs c (startE fn.names.length ps) fn.body >>= fun fl => match fl with | .rt d => R.ok d | .nx _ => R.ok .none | .ct _ => R.bad)) from h)
  refine ⟨of_decide_eq_true h1, ?_⟩
  cases hf : exs c (startE fn.names.length ps) fn.body with
  | ok fl =>
    rw [hf] at h
    cases fl with
    | nx ρ => exact fun σ' H' F' s er => h .non H' (by rw [hk] at s; exact s.gr) .non
    | ct ρ => exact h.elim
    | rt d => exact fun v H' F' s r => h v H' (by rw [hk] at s; exact s.gr) (by rw [hk] at r; exact r)
  | err k =>
    rw [hf] at h
    exact fun H' F' s => h H' (by rw [hk] at s; exact s.gr)
  | bad =>
    rw [hf] at h
    exact h.elim
/-- a def that may be refused, its code object known -/
theorem FunC.okX {x : Str} {st : Stmt} {f : Addr} {fd : FuncData} {cdv : Value} {N ps : List Str} {k : Nat} {sp : Sp} (F : FunC K x st f fd cdv) (S : FnScope N ps (defScope st)) (len : ∀ vs H Q E, sp vs H Q E → vs.length = ps.length)
    (hbody : ∀ (A : Around) (outer : List PySem.Env) (s : Shared) (H : Hp) (vs : List V) (Q : VK) (E : XK), Room k (A.deeper (envOfC x (defScope st) s.heap.objs.size f cdv)) → sp vs H Q E →
      ∃ t, PSs (cxOf (L2.CX P w) P w K mg base N x (defScope st) f cdv A outer s H E) (defBody st) t ∧ t { nx := fun _ H' => Q .non H', rt := Q } (start N vs) H) : FnOk P w K mg base (L2.CX P w) (k + 1) f fd ps sp := by
  obtain ⟨oc, od, kV, doc, pm, an, ct, osl, rfl, lk, hcd⟩ := F.ex
  exact fn_of lk hcd S len hbody
abbrev MixF (P : Program) (w : World) (K : PySem.W.Frag) (mg : Str → Option Value) (base : Heap) : Prop := ∃ (a : Addr) (fd : FuncData) (ps : List Str), FnOk P w K mg base CX0 3 a fd ps (spMix K) ∧ mg "_law_mixed" = some (.ref a) ∧ PySem.W.keepIn K (.ref a) = true ∧ Binds K fd ps []
/-- the refusals of a body by its caller's wish -/
abbrev erOf (E : XK) : Er := ⟨fun k H' => E (Tb.cl k) none H'⟩
theorem gs_of {N : List Str} {x : Str} {st : Stmt} {fa : Addr} {cdv : Value} {A : Around} {outer : List PySem.Env} {s : Shared} {H : Hp} {E : XK} {S : Sx} (T : Tops K mg base ds gv ge) (hS : S.ge = ge) (hsc : S.sc = defScope st) :
    @Gs _ (erOf E) (cxOf (L2.CX P w) P w K mg base N x (defScope st) fa cdv A outer s H E) S := by
  letI : Er := erOf E
  have hw : ∀ (cls : Value) (d : Option Addr) (σ : L2.St) (H : Hp), EW cls d H → E cls d H := fun cls d σ H z => by
    obtain ⟨k, rfl, rfl, z⟩ := z
    exact z
  refine ⟨passes_of rfl, passes_call (W := fun cls d _ H => E cls d H) (takes_of rfl rfl rfl rfl) hw, ?_, fun nm k e hg m j p p2 pos => ?_⟩
  · refine Takes.imp (W := fun cls d _ H => E cls d H) (takes_of rfl rfl rfl rfl) hw
  · rw [hS] at e
    obtain ⟨C, h1, h2, h3, h4, h5, h6⟩ := T.ge nm k e
    rw [h2]
    unfold Sx.gl at hg
    rw [Bool.and_eq_true, beq_iff_eq, Bool.not_eq_true', hsc] at hg
    exact pmk_own PySem.F.excBase_ValueError h3 h1 h4 (raises_own h5 h6) hg.1 hg.2
theorem gd_of [Er] {N : List Str} {x : Str} {st : Stmt} {fa : Addr} {cdv : Value} {A : Around} {outer : List PySem.Env} {s : Shared} {H : Hp} {E : XK} {ps : List Str} {n k : Nat} {lm tl : Bool} (T : Tops K mg base ds gv ge) (S : FnScope N ps (defScope st)) (hr : Room k (A.deeper (envOfC x (defScope st) s.heap.objs.size fa cdv)))
    (hk : n + 3 ≤ k) (hmx : MixF P w K mg base) (hlm : lm = true → LamC base mg x cdv)
    (htl : tl = true → ToldAt (cxOf (L2.CX P w) P w K mg base N x (defScope st) fa cdv A outer s H E) (sxOf ds gv ge N (defScope st) lm tl) ⟨callN (tbOf ds) n, true⟩)
    (ih : ∀ d, d ∈ ds → ∀ fa fd cdv, FunC K d.x d.st fa fd cdv → (d.lm = true → LamC base mg d.x cdv) → FnOk P w K mg base (L2.CX P w) (n + 3) fa fd d.ps (spC (callN (tbOf ds) n) d.code)) :
    Gd (cxOf (L2.CX P w) P w K mg base N x (defScope st) fa cdv A outer s H E) (sxOf ds gv ge N (defScope st) lm tl) ⟨callN (tbOf ds) n, true⟩ where
  N := rfl
  sc := rfl
  kind := S.kind
  fb := fun x => rfl
  nd := S.nd
  calm := rfl
  units := by
    have := hr.un
    show (A.deeper (envOfC x (defScope st) s.heap.objs.size fa cdv)).units + 200 < cLine
    omega
  gv := T.gv
  gf := fun _ y f e => by
    obtain ⟨d, h1, h2, rfl⟩ := gf_mem e
    obtain ⟨a, fd, cv, F, hm, hb, hl⟩ := T.df d h1
    refine ⟨n + 3, a, fd, d.ps, ih d h1 a fd cv F hl, hr.mono hk, ?_, F.kp, hb⟩
    rw [← h2]
    exact hm
  bi := T.bi
  mx := by
    obtain ⟨a, fd, ps, h1, h2, h3, h4⟩ := hmx
    exact ⟨3, a, fd, ps, h1, hr.mono (by omega), h2, h3, h4⟩
  lm := fun z => by
    obtain ⟨c, P, rfl, h1, h2, h3⟩ := hlm z
    exact ⟨c, P, h1, rfl, h2, h3⟩
  tl := fun z _ => htl z
theorem fn_all (T : Tops K mg base ds gv ge) (hmx : MixF P w K mg base) (ok : ds.all (okD ds gv ge) = true) (nd : (ds.map (·.code)).Nodup) :
    ∀ (n : Nat) (d : Dfn), d ∈ ds → ∀ fa fd cdv, FunC K d.x d.st fa fd cdv → (d.lm = true → LamC base mg d.x cdv) → FnOk P w K mg base (L2.CX P w) (n + 3) fa fd d.ps (spC (callN (tbOf ds) n) d.code)
  | 0, d, hm, fa, fd, cdv, F, hl => by
    obtain ⟨h, h3⟩ := Bool.and_eq_true_iff.mp (List.all_eq_true.mp ok d hm)
    obtain ⟨h1, h2⟩ := Bool.and_eq_true_iff.mp h
    refine F.okX (scB_ok h1) (fun vs H Q E h => ?_) (fun A outer s H vs Q E hr h => ?_)
    · obtain ⟨_, _, _, _, _, h⟩ := h
      exact h.elim
    · obtain ⟨_, _, _, _, _, h⟩ := h
      exact h.elim
  | n + 1, d, hm, fa, fd, cdv, F, hl => by
    obtain ⟨h, h3⟩ := Bool.and_eq_true_iff.mp (List.all_eq_true.mp ok d hm)
    obtain ⟨h1, h2⟩ := Bool.and_eq_true_iff.mp h
    have S := scB_ok h1
    have hnp := of_decide_eq_true h2
    have hcall : ∀ ps, callN (tbOf ds) (n + 1) d.code ps = run ⟨callN (tbOf ds) n, true⟩ d.fn ps := fun ps => by
      show (match tbOf ds d.code with | some fn => run ⟨callN (tbOf ds) n, true⟩ fn ps | none => R.bad) = _
      rw [tb_mem nd hm]
    have hps : d.ps.length ≤ d.fn.names.length := by
      have := congrArg List.length S.pre
      rw [List.length_take] at this
      omega
    refine F.okX S (fun vs H Q E h => ?_) (fun A outer s H vs Q E hr h => ?_)
    · letI : Er := erOf E
      obtain ⟨ps, F, _, _, r, h⟩ := h
      rw [hcall] at h
      obtain ⟨e, _⟩ := run_pf (K := ⟨K, F⟩) rfl h
      rw [r.length, e, hnp]
    · letI : Er := erOf E
      obtain ⟨ps, F, dm, nl, r, h⟩ := h
      rw [hcall] at h
      obtain ⟨e, pf⟩ := run_pf (K := ⟨K, F⟩) rfl h
      have g := gd_of (P := P) (w := w) (outer := outer) (H := H) (E := E) (tl := false) T S hr (by omega : n + 3 ≤ n + 1 + 2) hmx hl (fun z => nomatch z) (fn_all T hmx ok nd n)
      refine ⟨_, ckSs_ok d.fn.body (f0 := F) g (gs_of T rfl rfl) h3, startE d.fn.names.length ps, F, start_er dm r (by omega), fun b hb => hb, fun _ => nl, pf⟩
/-! ### the law -/
def lawE (N : List Str) (ns : List Int) : Env := some (3, .list (ns.map PyData.int)) :: List.replicate (N.length - 1) none
def lawOk (tb : Tab) (n : Nat) (N : List Str) (bd : Ss) (ns : List Int) : Prop := exs ⟨callN tb n, true⟩ (lawE N ns) bd = .ok (.rt (.bool true))
def spLaw (K : PySem.W.Frag) (tb : Tab) (n : Nat) (N : List Str) (bd : Ss) : Sp := fun vs H Q _ => ∃ (a : Addr) (ns : List Int), vs = [.ref a] ∧ FzL K H [] a (ns.map V.int) ∧ NL H ∧ lawOk tb n N bd ns ∧ ∀ H', Q (.bl true) H'
theorem law_ok {N : List Str} {bd : Ss} {st : Stmt} {n : Nat} {lm tl : Bool} (T : Tops K mg base ds gv ge) (hmx : MixF P w K mg base)
    (ok : ds.all (okD ds gv ge) = true) (nd : (ds.map (·.code)).Nodup) (hs : scB N ["script"] (defScope st) = true) (hc : ckSs (sxOf ds gv ge N (defScope st) lm tl) bd (defBody st) = true) {fa : Addr} {fd : FuncData} {cdv : Value} (F : FunC K "law" st fa fd cdv) (hlm : lm = true → LamC base mg "law" cdv)
    (htl : tl = true → ∀ (A : Around) (outer : List PySem.Env) (s : Shared) (H : Hp) (E : XK), Room (n + 5) (A.deeper (envOfC "law" (defScope st) s.heap.objs.size fa cdv)) → ToldAt (cxOf (L2.CX P w) P w K mg base N "law" (defScope st) fa cdv A outer s H E) (sxOf ds gv ge N (defScope st) lm tl) ⟨callN (tbOf ds) n, true⟩) :
    FnOk P w K mg base (L2.CX P w) (n + 6) fa fd ["script"] (spLaw K (tbOf ds) n N bd) := by
  have S := scB_ok hs
  refine F.okX S (fun vs H Q E h => ?_) (fun A outer s H vs Q E hr h => ?_)
  · obtain ⟨a, ns, rfl, _⟩ := h
    rfl
  · obtain ⟨a, ns, rfl, fz, nl, lo, q⟩ := h
    letI : Er := erOf E
    have g := gd_of (P := P) (w := w) (outer := outer) (H := H) (E := E) T S hr (by omega : n + 3 ≤ n + 5) hmx hlm (fun z => htl z A outer s H E hr) (fn_all T hmx ok nd n)
    refine ⟨_, ckSs_ok bd (f0 := []) g (gs_of T rfl rfl) hc, lawE N ns, [], ⟨Dm.nil H, ?_, fun _ => [], fun i o d e => ?_, fun i j _ a ha => absurd ha List.not_mem_nil, fun i a ha => absurd ha List.not_mem_nil⟩, fun b hb => hb, fun _ => nl, ?_⟩
    · unfold lawE L2.start
      simp only [List.length_cons, List.length_replicate, List.length_append, List.length_map, List.length_nil]
      omega
    · unfold lawE at e
      cases i with
      | zero =>
        cases e
        exact ⟨.ref a, rfl, rfl, a, ns, rfl, rfl, fz⟩
      | succ i =>
        rw [List.getElem?_cons_succ, List.getElem?_replicate] at e
        split at e
        · cases e
        · cases e
    · have lo : exs ⟨callN (tbOf ds) n, true⟩ (lawE N ns) bd = .ok (.rt (.bool true)) := lo
      rw [lo]
      intro v H' F' s r
      rw [r.bool]
      exact q H'
omit [Tb] in
theorem bi_all (h : ∀ y ∈ biL, mg y = none) : ∀ x, isBi x = true → mg x = none := fun x e => h x (List.contains_iff_mem.mp e)
omit [Tb] in
theorem gv_all : ∀ {l : List (Str × PyData)}, (∀ q ∈ l, ∃ v u, mg q.1 = some u ∧ RelV v u ∧ ∀ M : Hp, Rp M v q.2) → ∀ x p, l.lookup x = some p → ∃ v u, mg x = some u ∧ RelV v u ∧ ∀ M : Hp, Rp M v p
  | [], _, x, p, e => nomatch e
  | (y, q) :: l, h, x, p, e => by
    rw [List.lookup_cons] at e
    by_cases hx : (x == y) = true
    · rw [hx] at e
      cases e
      rw [beq_iff_eq.mp hx]
      exact h (y, q) List.mem_cons_self
    · rw [show (x == y) = false from by simpa using hx] at e
      exact gv_all (fun q hq => h q (List.mem_cons_of_mem _ hq)) x p e
/-- what is asked of the script and the tables alone -/
def spEnd (K : PySem.W.Frag) (cs : List Addr) (tb : Tab) (n : Nat) (N : List Str) (bd : Ss) : Sp := fun vs H Q _ => ∃ (a : Addr) (ns : List Int), vs = [.ref a] ∧ SqL K H a (ns.map V.int) ∧ (∀ p ∈ cs, H p = some (.tbl #[])) ∧ lawOk tb n N bd ns ∧ ∀ H', Q (.bl true) H'
theorem fn_end {N : List Str} {bd : Ss} {n k : Nat} {fa : Addr} {fd : FuncData} {cs : List Addr} (hT : ∀ p ∈ Tb.T, p.1 ∈ cs) (F : FnOk P w K mg base (L2.CX P w) k fa fd ["script"] (spLaw K (tbOf ds) n N bd)) : FnOk P w K mg base (L2.CX P w) k fa fd ["script"] (spEnd K cs (tbOf ds) n N bd) := by
  refine fn_less F (fun outer H s e s' z => ?_) (fun vs H Q E h => ?_) fun vs H Q E h => ?_
  · obtain ⟨_, _, _, _, _, _, _, _, _, _, _, _, z⟩ := z
    exact z.elim
  · obtain ⟨a, ns, rfl, _⟩ := h
    rfl
  · obtain ⟨a, ns, rfl, hs, ht, lo, q⟩ := h
    have tabs : ∀ H0 : Hp, (∀ p ∈ cs, H0 p = some (.tbl #[])) → LamX.Tabs Tb.T H0 := fun H0 h p hp => LamX.TabS.nil (h p.1 (hT p hp))
    have na : ∀ p ∈ cs, ∀ u, H a = some u → (∀ ps, u ≠ .tbl ps) → p ≠ a := fun p hp u e n z => by
      subst z
      exact n _ (Option.some.inj (e.symm.trans (ht p hp)))
    rcases hs with (h | ⟨o, h⟩) | h
    · refine ⟨fun b => if b = a then H a else if b ∈ cs then H b else none, fun b o e => ?_, a, ns, rfl, .inr (.inr ⟨List.not_mem_nil, ?_⟩), ⟨fun b o u e => ?_, tabs _ fun p hp => ?_⟩, lo, fun _ => q⟩
      · (try dsimp only at e)
        split at e
        · rename_i hb
          rw [hb]
          refine ⟨e, ?_⟩
          rw [h] at e
          cases e
          rfl
        · split at e
          · rename_i hb
            refine ⟨e, ?_⟩
            rw [ht b hb] at e
            cases e
            rfl
          · cases e
      · (try dsimp only)
        rw [if_pos rfl]
        exact h
      · (try dsimp only at e)
        split at e
        · rw [h] at e
          cases e
        · split at e
          · rename_i hb
            rw [ht b hb] at e
            cases e
          · cases e
      · (try dsimp only)
        rw [if_neg (na p hp _ h fun _ z => nomatch z), if_pos hp]
        exact ht p hp
    · refine ⟨fun b => if b = a then H a else if b ∈ cs then H b else none, fun b o e => ?_, a, ns, rfl, .inl ⟨o, ?_⟩, ⟨fun b o u e => ?_, tabs _ fun p hp => ?_⟩, lo, fun _ => q⟩
      · (try dsimp only at e)
        split at e
        · rename_i hb
          rw [hb]
          refine ⟨e, ?_⟩
          rw [h] at e
          cases e
          rfl
        · split at e
          · rename_i hb
            refine ⟨e, ?_⟩
            rw [ht b hb] at e
            cases e
            rfl
          · cases e
      · (try dsimp only)
        rw [if_pos rfl]
        exact h
      · (try dsimp only at e)
        split at e
        · rw [h] at e
          cases e
        · split at e
          · rename_i hb
            rw [ht b hb] at e
            cases e
          · cases e
      · (try dsimp only)
        rw [if_neg (na p hp _ h fun _ z => nomatch z), if_pos hp]
        exact ht p hp
    · refine ⟨fun b => if b ∈ cs then H b else none, fun b o e => ?_, a, ns, rfl, .inr (.inl h), ⟨fun b o u e => ?_, tabs _ fun p hp => ?_⟩, lo, fun _ => q⟩
      · (try dsimp only at e)
        split at e
        · rename_i hb
          refine ⟨e, ?_⟩
          rw [ht b hb] at e
          cases e
          rfl
        · cases e
      · (try dsimp only at e)
        split at e
        · rename_i hb
          rw [ht b hb] at e
          cases e
        · cases e
      · (try dsimp only)
        rw [if_pos hp]
        exact ht p hp
end
end TD
/-! What _law_told asks of the library. -/
namespace TD
open PySem PySem.Spec PyProof.Rows L2
/-! ### list.count of flat things -/
def rCountF (K : PySem.W.Frag) : V → List V → Hp → VK → Prop := fun x xs H Q => ∃ (a : Addr) (ys : List V) (y : V), x = V.ref a ∧ xs = [y] ∧ SqL K H a ys ∧ flatV y = true ∧ ys.all flatV = true ∧ Q (.int ((ys.countP fun z => eqV z y : Nat) : Int)) H
theorem countP_flat {y : V} : ∀ {ys : List V} {us : List Value}, Vals ys us → ys.all flatV = true → us.countP (eqU y) = ys.countP fun z => eqV z y
  | _, _, .nil, _ => rfl
  | z :: ys, u :: us, .cons r t, f => by
    rw [List.all_cons, Bool.and_eq_true] at f
    rw [List.countP_cons, List.countP_cons, countP_flat t f.2, eqU_of r f.1]
theorem mt_countF {X : Cx} : MtR X "list.count" (rCountF X.K) := by
  intro pins s σ H x xs v us Q I rx rxs h
  obtain ⟨a, ys, y, rfl, rfl, hs, fy, fys, q⟩ := h
  cases rx
  cases rxs with
  | cons ru rt =>
    rename_i u ut
    cases rt
    obtain ⟨its, rv, ⟨⟨cls, dd, data, sl⟩, n, ho, hc, hdn, hd⟩, hlen⟩ := I.list hs
    simp only at hc hd
    subst hc hd
    refine call_meets PySem.F.slot_list_count ⟨_, ho, rfl⟩ PySem.F.entry_list_count (PySem.F.args_list_count_2 _ _)
      (SeqAt.list_countAt a its.toArray n dd sl u (eqU y)) ⟨ho, fun z hz => mem_eqAt ru fy rv fys z (by simpa using hz), ?_⟩
    have ec : its.toArray.toList.countP (eqU y) = ys.countP fun z => eqV z y := countP_flat rv fys
    refine ⟨.int _, H, I.tok _, ⟨s.toks, ?_⟩, q⟩
    rw [ec]
/-- the frame's slots are as many as its names when an exception comes -/
theorem takes_len {X : Cx} {W : WX} (t : Takes X W) : Takes X (fun c d σ H => σ.length = X.N.length → W c d σ H) := fun u s' ⟨a, B, sI, pins, σ, H, cls, d, e, I, nb, up, sky, na, os, ag, w⟩ =>
  t u s' ⟨a, B, sI, pins, σ, H, cls, d, e, I, nb, up, sky, na, os, ag, w I.len⟩
theorem FnOk.up {P : Program} {w : World} {K : PySem.W.Frag} {mg : Str → Option Value} {base : Heap} {CX : CXT} {k j : Nat} {f : Addr} {fd : FuncData} {ps : List Str} {sp : Sp} (F : FnOk P w K mg base CX k f fd ps sp) (h : k ≤ j) : FnOk P w K mg base CX j f fd ps sp :=
  ⟨F.len, fun A outer s H args us vs Q E hr he hb hv hs => F.run A outer s H args us vs Q E (hr.mono h) he hb hv hs⟩
/-- the same with any wish behind it -/
theorem pe_post {X : Cx} {e : Expr} {t : TE} (h : PE X e t) : PE X e (fun σ H Q => ∃ Q0 : VK, t σ H Q0 ∧ ∀ v H', Q0 v H' → Q v H') := ⟨fun pins s σ H Q I ⟨Q0, h0, k⟩ => wpAny_mono (h.run pins s σ H Q0 I h0) (fun v s' ⟨x, H1, I1, r1, q⟩ => ⟨x, H1, I1, r1, k _ _ q⟩) (fun _ _ z => z)⟩
theorem none_upd {H : Hp} {p b : Addr} {o : HO} (h : upd H p o b = none) : b ≠ p ∧ H b = none := by
  by_cases e : b = p
  · subst e
    rw [upd_same] at h
    cases h
  · rw [upd_ne e] at h
    exact ⟨e, h⟩
theorem Gr.over [Tb] {H H1 : Hp} {p : Addr} {o : HO} (g : Gr H H1) (n : H p = none) (hf : ∀ ob u, o ≠ .frz ob (.dK u)) (hp : ∀ x, H1 p = some x → plO x = true) : Gr H (upd H1 p o) :=
  ⟨fun b x e i => by rw [upd_ne (ne_of_none e n)]; exact g.same b x e i, g.nz.put hf hp⟩
variable [Tb]
/-- the classes of refusals, as _law_told asks them -/
structure ToldK (K : PySem.W.Frag) (mg : Str → Option Value) : Prop where
  ex : ∃ CS c0 c1 c2 c3 c4 : Addr, mg "TapError" = some (.ref CS) ∧ mg "NoNumber" = some (.ref c0) ∧ mg "NoName" = some (.ref c1) ∧ mg "NoCalls" = some (.ref c2) ∧ mg "NoDeal" = some (.ref c3) ∧ mg "NoText" = some (.ref c4) ∧ ∀ k, k < 5 → ∃ D, Tb.cl k = .ref D ∧ ExcC K D ∧
    PySem.W.exmOne K (.ref D) (.ref CS) = some true ∧ PySem.W.kitOne K (.ref D) (.type "ValueError") = some true ∧ PySem.W.kitOne K (.ref D) (.ref c0) = some (k == 0) ∧ PySem.W.kitOne K (.ref D) (.ref c1) = some (k == 1) ∧ PySem.W.kitOne K (.ref D) (.ref c2) = some (k == 2) ∧
    PySem.W.kitOne K (.ref D) (.ref c3) = some (k == 3) ∧ PySem.W.kitOne K (.ref D) (.ref c4) = some (k == 4)
def kindsV (k : Nat) : List V := [.bl (k == 0), .bl (k == 1), .bl (k == 2), .bl (k == 3), .bl (k == 4)]
omit [Tb] in
theorem kinds_count {k : Nat} (h : k < 5) : (kindsV k).countP (fun z => eqV z (.bl true)) = 1 := by
  match k, h with
  | 0, _ => rfl
  | 1, _ => rfl
  | 2, _ => rfl
  | 3, _ => rfl
  | 4, _ => rfl
omit [Tb] in
theorem kinds_index {k : Nat} (h : k < 5) : ∃ z, (kindsV k)[k]? = some z ∧ eqV z (.bl true) = true ∧ ∀ (m : Nat) (z' : V), m < k → (kindsV k)[m]? = some z' → eqV z' (.bl true) = false := by
  match k, h with
  | 0, _ => exact ⟨_, rfl, rfl, fun m z h _ => absurd h (Nat.not_lt_zero m)⟩
  | 1, _ => exact ⟨_, rfl, rfl, fun m z h e => by match m, h with | 0, _ => cases e; rfl⟩
  | 2, _ => exact ⟨_, rfl, rfl, fun m z h e => by match m, h with | 0, _ => cases e; rfl | 1, _ => cases e; rfl⟩
  | 3, _ => exact ⟨_, rfl, rfl, fun m z h e => by match m, h with | 0, _ => cases e; rfl | 1, _ => cases e; rfl | 2, _ => cases e; rfl⟩
  | 4, _ => exact ⟨_, rfl, rfl, fun m z h e => by match m, h with | 0, _ => cases e; rfl | 1, _ => cases e; rfl | 2, _ => cases e; rfl | 3, _ => cases e; rfl⟩
section
variable {P : Program} {w : World} {K : PySem.W.Frag} {mg : Str → Option Value} {base : Heap} {ds : List Dfn} {gv : Str → Option PyData} {ge : Str → Option Nat}
theorem told_at {N : List Str} {st stg : Stmt} {n : Nat} {lm : Bool} {fa g : Addr} {cdv cdg : Value} {fdg : FuncData} {A : Around} {outer : List PySem.Env} {s : Shared} {H : Hp} {E : XK} (T : Tops K mg base ds gv ge) (hmx : MixF P w K mg base) (ok : ds.all (okD ds gv ge) = true) (nd : (ds.map (·.code)).Nodup)
    (F : FunC K "_law_told" stg g fdg cdg) (hb : Binds K fdg ["deed"] []) (hm : mg "_law_told" = some (.ref g)) (S : FnScope ["deed", "found", "e", "kinds"] ["deed"] (defScope stg)) (hv : Vis (defScope stg) "deed")
    (hG : ∀ X : Cx, X.K = K → X.mg = mg → ∀ q, LamX.GivesTo X ["deed", "found", "e", "kinds"] "_law_told" (defScope stg) g cdg (defBody stg) "deed" q TTd)
    (hr : Room (n + 5) (A.deeper (envOfC "law" (defScope st) s.heap.objs.size fa cdv))) : ToldAt (cxOf (L2.CX P w) P w K mg base N "law" (defScope st) fa cdv A outer s H E) (sxOf ds gv ge N (defScope st) lm true) ⟨callN (tbOf ds) n, true⟩ := by
  obtain ⟨oc, od, kV, doc, pm, an, ct, osl, rfl, lk, hcd⟩ := F.ex
  refine ⟨n + 3, g, "deed", defArgs stg, defBody stg, defScope stg, .none, kV, doc, pm, cdg, ct, oc, an, od, osl, _, hm, F.kp, lk, hcd, hb, S, rfl, hv, rfl, rfl, hG _ rfl rfl, hr, ?_, fun nm f e => ?_⟩
  · obtain ⟨a, fd, ps, h1, h2, h3, h4⟩ := hmx
    exact ⟨a, fd, ps, FnOk.up h1 (by omega), h2, h3, h4⟩
  · obtain ⟨d, h1, h2, rfl⟩ := gf_mem e
    obtain ⟨a, fd, cv, F, hm, hb, hl⟩ := T.df d h1
    exact ⟨a, fd, d.ps, fn_all T hmx ok nd n d h1 a fd cv F hl, by rw [← h2]; exact hm, F.kp, hb⟩
theorem ge_all : ∀ {l : List (Str × Nat)}, (∀ q ∈ l, ClsC K mg q.1 q.2) → ∀ x k, l.lookup x = some k → ClsC K mg x k
  | [], _, x, k, e => nomatch e
  | (y, q) :: l, h, x, k, e => by
    rw [List.lookup_cons] at e
    by_cases hx : (x == y) = true
    · rw [hx] at e
      cases e
      rw [beq_iff_eq.mp hx]
      exact h (y, q) List.mem_cons_self
    · rw [show (x == y) = false from by simpa using hx] at e
      exact ge_all (fun q hq => h q (List.mem_cons_of_mem _ hq)) x k e
omit [Tb] in
theorem cx_false {outer : List PySem.Env} {H : Hp} {s s' : Shared} {e : Value} (z : L2.CX P w outer H s (fun _ _ _ => False) e s') : False := by
  obtain ⟨_, _, _, _, _, _, _, _, _, _, _, _, z⟩ := z
  exact z.elim
end
end TD
namespace TD
open PySem
def f_is_whole : Fn := ⟨3, ["thing", "low", "high"],
  (.cons (.ret (.and (.b1 (.isi 0) (.var 0)) (.and (.not (.b1 (.isi 1) (.var 0))) (.one (.chn .LtE .LtE (.var 1) (.var 0) (.var 2)))))) .nil)⟩
def f_is_number : Fn := ⟨1, ["thing", "count"],
  (.cons (.ife (.or (.not (.b1 (.isi 3) (.var 0))) (.one (.not (.chn .LtE .LtE (.cst (.int 1)) (.b1 .len (.var 0)) (.cst (.int 3)))))) (.cons (.ret (.cst (.bool false))) .nil) .nil) (.cons (.ret (.b1 .all (.cmp0 (.fn 0 (.cons (.var 1) (.cons (.cst (.int 1)) (.cons (.cst (.int 4)) .nil)))) (.nm 1) (.val (.var 0))))) .nil))⟩
def f_is_name : Fn := ⟨1, ["thing", "sign"],
  (.cons (.ret (.and (.b1 (.isi 2) (.var 0)) (.and (.chn .LtE .LtE (.cst (.int 1)) (.b1 .len (.var 0)) (.cst (.int 4))) (.one (.b1 .all (.cmp0 (.cmp .In (.var 1) (.cst (.str "abcdefghijklmnopqrstuvwxyz"))) (.nm 1) (.val (.var 0)))))))) .nil)⟩
def f_is_pair : Fn := ⟨1, ["thing"],
  (.cons (.ret (.and (.b1 (.isi 3) (.var 0)) (.one (.cmp .Eq (.b1 .len (.var 0)) (.cst (.int 2)))))) .nil)⟩
def f_rises : Fn := ⟨1, ["row", "one", "other"],
  (.cons (.ret (.b1 .all (.cmp0 (.cmp .Lt (.var 1) (.var 2)) (.tp [1, 2]) (.zip (.slc (.var 0) .non (.neg (.cst (.int 1)))) (.slc (.var 0) (.cst (.int 1)) .non))))) .nil)⟩
def f_are_calls : Fn := ⟨3, ["lot", "wait", "thing", "part"],
  (.cons (.ife (.or (.not (.b1 (.isi 3) (.var 2))) (.one (.cmp .Gt (.b1 .len (.var 2)) (.cst (.int 3))))) (.cons (.ret (.cst (.bool false))) .nil) .nil) (.cons (.ife (.not (.b1 .all (.cmp0 (.and (.fn 3 (.cons (.var 3) .nil)) (.and (.b1 (.isi 2) (.idx (.var 3) (.cst (.int 0)))) (.one (.fn 0 (.cons (.idx (.var 3) (.cst (.int 1))) (.cons (.cst (.int 0)) (.cons (.var 1) .nil))))))) (.nm 3) (.val (.var 2))))) (.cons (.ret (.cst (.bool false))) .nil) .nil) (.cons (.ife (.or (.not (.b1 .all (.cmp0 (.cmp .In (.idx (.var 3) (.cst (.int 0))) (.b1 .dict (.var 0))) (.nm 3) (.val (.var 2))))) (.one (.not (.fn 4 (.cons (.cmp0 (.idx (.var 3) (.cst (.int 0))) (.nm 3) (.val (.var 2))) .nil))))) (.cons (.ret (.cst (.bool false))) .nil) .nil) (.cons (.ret (.or (.cmp .Eq (.b1 .len (.var 2)) (.cst (.int 0))) (.one (.cmp .Eq (.b1 .min (.cmp0 (.idx (.var 3) (.cst (.int 1))) (.nm 3) (.val (.var 2)))) (.cst (.int 0)))))) .nil))))⟩
def f__law_drawn : Fn := ⟨2, ["number", "k", "drawn"],
  (.cons (.asg (.nm 2) (.bin .Mod (.bin .Mult (.bin .Add (.bin .Add (.var 0) (.bin .Mult (.cst (.int 104729)) (.var 1))) (.cst (.int 17))) (.cst (.int 69621))) (.cst (.int 2147483647)))) (.cons (.ret (.bin .Mod (.bin .Add (.bin .Add (.bin .Mult (.var 2) (.var 2)) (.bin .Mult (.cst (.int 3)) (.var 2))) (.var 1)) (.cst (.int 2147483629)))) .nil))⟩
def f__law_number : Fn := ⟨2, ["number", "most", "k"],
  (.cons (.ret (.b1 .tuple (.cmp0 (.bin .Add (.cst (.int 1)) (.bin .Mod (.bin .FloorDiv (.fn 7 (.cons (.var 0) (.cons (.var 2) .nil))) (.cst (.int 16))) (.cst (.int 4)))) (.nm 2) (.rng1 (.bin .Add (.cst (.int 1)) (.bin .Mod (.bin .FloorDiv (.var 0) (.cst (.int 16))) (.var 1))))))) .nil)⟩
def f__law_lot : Fn := ⟨3, ["number", "boxes", "most", "found", "numbers", "k", "name", "one"],
  (.cons (.asg (.nm 3) .dic) (.cons (.asg (.nm 4) (.lst .nil)) (.cons (.fore (.tp [5, 6]) (.enm (.slc (.tup (.cons (.cst (.str "a")) (.cons (.cst (.str "b")) (.cons (.cst (.str "box")) (.cons (.cst (.str "c")) (.cons (.cst (.str "zz")) (.cons (.cst (.str "zzzz")) .nil))))))) .non (.bin .Add (.cst (.int 1)) (.bin .Mod (.bin .FloorDiv (.var 0) (.cst (.int 16))) (.var 1))))) (.cons (.asg (.nm 7) (.fn 8 (.cons (.fn 7 (.cons (.var 0) (.cons (.bin .Add (.cst (.int 20)) (.var 5)) .nil))) (.cons (.var 2) .nil)))) (.cons (.ife (.cmp .NotIn (.var 7) (.var 4)) (.cons (.app 4 (.var 7)) (.cons (.seti 3 (.var 6) (.var 7)) .nil)) .nil) .nil))) (.cons (.ret (.b1 .tuple (.cmp0 (.tup (.cons (.var 6) (.cons (.idx (.var 3) (.var 6)) .nil))) (.nm 6) (.val (.b1 .sorted (.var 3)))))) .nil))))⟩
def f__law_beats : Fn := ⟨1, ["number", "found", "count"],
  (.cons (.asg (.nm 1) (.cst (.str ""))) (.cons (.fore (.nm 2) (.val (.var 0)) (.cons (.asg (.nm 1) (.bin .Add (.bin .Add (.var 1) (.bin .Mult (.cst (.str "000")) (.b1 .int (.cmp .NotEq (.var 1) (.cst (.str "")))))) (.slc (.bin .Mult (.cst (.str "10")) (.var 2)) .non (.neg (.cst (.int 1)))))) .nil)) (.cons (.ret (.var 1)) .nil)))⟩
def f__law_heard : Fn := ⟨2, ["lot", "calls", "book", "found", "name", "begin", "text", "at", "sign"],
  (.cons (.asg (.nm 2) (.b1 .dict (.var 0))) (.cons (.asg (.nm 3) (.lst .nil)) (.cons (.fore (.tp [4, 5]) (.val (.var 1)) (.cons (.asg (.nm 6) (.bin .Add (.bin .Mult (.cst (.str "0")) (.var 5)) (.fn 10 (.cons (.idx (.var 2) (.var 4)) .nil)))) (.cons (.asg (.nm 3) (.bin .Add (.var 3) (.bin .Mult (.lst (.cons (.cst (.str "0")) .nil)) (.bin .Sub (.b1 .len (.var 6)) (.b1 .len (.var 3)))))) (.cons (.fore (.tp [7, 8]) (.enm (.var 6)) (.cons (.ife (.cmp .Eq (.var 8) (.cst (.str "1"))) (.cons (.seti 3 (.var 7) (.cst (.str "1"))) .nil) .nil) .nil)) .nil)))) (.cons (.ret (.mt .join (.cst (.str "")) (.cons (.var 3) .nil))) .nil))))⟩
def f__law_calls : Fn := ⟨3, ["lot", "number", "wait", "names", "begins", "k", "box", "name", "begin"],
  (.cons (.asg (.nm 3) (.slc (.cmp1 (.idx (.var 6) (.cst (.int 0))) (.tp [5, 6]) (.enm (.var 0)) (.cmp .Eq (.bin .Mod (.bin .FloorDiv (.fn 7 (.cons (.var 1) (.cons (.bin .Add (.cst (.int 40)) (.var 5)) .nil))) (.cst (.int 16))) (.cst (.int 2))) (.cst (.int 0)))) .non (.cst (.int 3)))) (.cons (.asg (.nm 4) (.cmp0 (.bin .Mod (.bin .FloorDiv (.fn 7 (.cons (.var 1) (.cons (.bin .Add (.cst (.int 60)) (.var 5)) .nil))) (.cst (.int 16))) (.bin .Add (.var 2) (.cst (.int 1)))) (.nm 5) (.rng1 (.b1 .len (.var 3))))) (.cons (.ret (.b1 .tuple (.cmp0 (.tup (.cons (.var 7) (.cons (.bin .Sub (.var 8) (.b1 .min (.var 4))) .nil))) (.tp [7, 8]) (.zip (.var 3) (.var 4))))) .nil)))⟩
def f__law_spoilt : Fn := ⟨3, ["thing", "number", "deep", "some", "at", "part"],
  (.cons (.ife (.and (.cmp .Gt (.var 2) (.cst (.int 0))) (.and (.b1 (.isi 3) (.var 0)) (.and (.cmp .Gt (.b1 .len (.var 0)) (.cst (.int 0))) (.one (.cmp .Gt (.bin .Mod (.var 1) (.cst (.int 6))) (.cst (.int 0))))))) (.cons (.asg (.nm 4) (.bin .Mod (.bin .FloorDiv (.var 1) (.cst (.int 6))) (.b1 .len (.var 0)))) (.cons (.asg (.nm 5) (.fn 13 (.cons (.idx (.var 0) (.var 4)) (.cons (.bin .FloorDiv (.fn 7 (.cons (.var 1) (.cons (.var 2) .nil))) (.cst (.int 4))) (.cons (.bin .Sub (.var 2) (.cst (.int 1))) .nil))))) (.cons (.ret (.bin .Add (.bin .Add (.slc (.var 0) .non (.var 4)) (.tup (.cons (.var 5) .nil))) (.slc (.var 0) (.bin .Add (.var 4) (.cst (.int 1))) .non))) .nil))) .nil) (.cons (.ife (.and (.b1 (.isi 3) (.var 0)) (.and (.cmp .Gt (.b1 .len (.var 0)) (.cst (.int 0))) (.one (.cmp .Eq (.bin .Mod (.bin .FloorDiv (.var 1) (.cst (.int 6))) (.cst (.int 2))) (.cst (.int 0)))))) (.cons (.ret (.idx (.lst (.cons (.b1 .list (.var 0)) (.cons (.slc (.var 0) .non (.neg (.cst (.int 1)))) (.cons (.bin .Add (.var 0) (.slc (.var 0) (.neg (.cst (.int 1))) .non)) (.cons (.slc (.var 0) (.cst (.int 1)) .non) (.cons (.rev (.var 0)) (.cons (.tup .nil) .nil))))))) (.bin .Mod (.bin .FloorDiv (.var 1) (.cst (.int 12))) (.cst (.int 6))))) .nil) .nil) (.cons (.ife (.and (.b1 (.isi 2) (.var 0)) (.one (.cmp .Eq (.bin .Mod (.bin .FloorDiv (.var 1) (.cst (.int 6))) (.cst (.int 2))) (.cst (.int 0))))) (.cons (.ret (.idx (.lst (.cons (.bin .Add (.var 0) (.cst (.str "a"))) (.cons (.slc (.var 0) (.cst (.int 1)) .non) (.cons (.bin .Add (.var 0) (.cst (.str "1"))) (.cons (.mt .upper (.var 0) .nil) (.cons (.bin .Mult (.var 0) (.cst (.int 2))) (.cons (.rev (.var 0)) .nil))))))) (.bin .Mod (.bin .FloorDiv (.var 1) (.cst (.int 12))) (.cst (.int 6))))) .nil) .nil) (.cons (.ife (.and (.b1 (.isi 0) (.var 0)) (.one (.cmp .Eq (.bin .Mod (.bin .FloorDiv (.var 1) (.cst (.int 6))) (.cst (.int 2))) (.cst (.int 0))))) (.cons (.ret (.idx (.lst (.cons (.b1 .str (.var 0)) (.cons (.bin .Sub (.cst (.int 0)) (.var 0)) (.cons (.bin .Add (.var 0) (.cst (.int 1))) (.cons (.cmp .Eq (.var 0) (.cst (.int 1))) (.cons (.bin .Sub (.var 0) (.cst (.int 1))) (.cons (.bin .Add (.var 0) (.cst (.int 60))) .nil))))))) (.bin .Mod (.bin .FloorDiv (.var 1) (.cst (.int 12))) (.cst (.int 6))))) .nil) .nil) (.cons (.asg (.nm 3) (.lst (.cons (.cst .none) (.cons (.cst (.bool true)) (.cons (.cst (.bool false)) (.cons (.cst (.int 0)) (.cons (.cst (.int 1)) (.cons (.cst (.int 4)) (.cons (.cst (.int 5)) (.cons (.cst (.int 12)) (.cons (.cst (.int 13)) (.cons (.neg (.cst (.int 1))) (.cons (.cst (.int 2)) (.cons (.cst (.str "")) (.cons (.cst (.str "a")) (.cons (.cst (.str "zz")) (.cons (.cst (.str "abcde")) (.cons (.cst (.str "A")) (.cons (.tup (.cons (.cst (.int 1)) (.cons (.cst (.int 2)) .nil))) (.cons (.tup .nil) (.cons (.lst .nil) (.cons (.tup (.cons (.cst (.str "a")) (.cons (.tup (.cons (.cst (.int 1)) .nil)) .nil))) .nil)))))))))))))))))))))) (.cons (.ret (.idx (.var 3) (.bin .Mod (.bin .FloorDiv (.var 1) (.cst (.int 6))) (.cst (.int 20))))) .nil))))))⟩
def f__law_whole : Fn := ⟨3, ["thing", "low", "high"],
  (.cons (.ret (.and (.b1 (.isi 0) (.var 0)) (.and (.not (.b1 (.isi 1) (.var 0))) (.one (.chn .LtE .LtE (.var 1) (.var 0) (.var 2)))))) .nil)⟩
def f__law_is_number : Fn := ⟨1, ["thing", "count"],
  (.cons (.ife (.or (.not (.b1 (.isi 3) (.var 0))) (.one (.not (.chn .LtE .LtE (.cst (.int 1)) (.b1 .len (.var 0)) (.cst (.int 3)))))) (.cons (.ret (.cst (.bool false))) .nil) .nil) (.cons (.ret (.cmp .Eq (.cmp1 (.var 1) (.nm 1) (.val (.var 0)) (.not (.fn 14 (.cons (.var 1) (.cons (.cst (.int 1)) (.cons (.cst (.int 4)) .nil)))))) (.lst .nil))) .nil))⟩
def f__law_is_pair : Fn := ⟨1, ["thing"],
  (.cons (.ret (.and (.b1 (.isi 3) (.var 0)) (.one (.cmp .Eq (.b1 .len (.var 0)) (.cst (.int 2)))))) .nil)⟩
def f__law_edges : Fn := ⟨1, ["number", "few", "boxes", "found", "k"],
  (.cons (.asg (.nm 1) (.bin .Mod (.var 0) (.cst (.int 3)))) (.cons (.asg (.nm 2) (.b1 .tuple (.cmp0 (.tup (.cons (.idx (.cst (.str "abcdefgh")) (.var 4)) (.cons (.tup (.cons (.bin .Add (.cst (.int 1)) (.bin .Mod (.var 4) (.cst (.int 4)))) (.cons (.bin .Add (.cst (.int 1)) (.bin .FloorDiv (.var 4) (.cst (.int 4)))) .nil))) .nil))) (.nm 4) (.rng1 (.bin .Add (.cst (.int 5)) (.var 1)))))) (.cons (.asg (.nm 3) (.lst (.cons (.bin .Mult (.tup (.cons (.cst (.int 1)) .nil)) (.bin .Add (.cst (.int 2)) (.var 1))) (.cons (.tup (.cons (.var 1) (.cons (.cst (.int 2)) .nil))) (.cons (.tup (.cons (.cst (.int 2)) (.cons (.bin .Add (.cst (.int 3)) (.var 1)) .nil))) (.cons (.tup .nil) (.cons (.var 2) (.cons (.tup (.cons (.tup (.cons (.bin .Add (.slc (.cst (.str "abcd")) .non (.bin .Add (.cst (.int 2)) (.var 1))) (.cst (.str "e"))) (.cons (.tup (.cons (.cst (.int 1)) .nil)) .nil))) .nil)) (.cons (.tup .nil) .nil))))))))) (.cons (.ret (.bin .Add (.var 3) (.lst (.cons (.tup (.cons (.tup (.cons (.cst (.str "a")) (.cons (.tup (.cons (.cst (.int 1)) .nil)) .nil))) (.cons (.tup (.cons (.cst (.str "b")) (.cons (.tup (.cons (.bin .Add (.cst (.int 1)) (.bin .FloorDiv (.var 1) (.cst (.int 2)))) .nil)) .nil))) .nil))) (.cons (.tup (.cons (.tup (.cons (.cst (.str "b")) (.cons (.tup (.cons (.cst (.int 1)) .nil)) .nil))) (.cons (.tup (.cons (.cst (.str "a")) (.cons (.tup (.cons (.cst (.int 2)) .nil)) .nil))) .nil))) (.cons (.tup (.cons (.tup (.cons (.cst (.str "a1")) (.cons (.tup (.cons (.cst (.int 1)) .nil)) .nil))) .nil)) .nil)))))) .nil))))⟩
def f_beats : Fn := ⟨1, ["number", "count"],
  (.cons (.ret (.mt .join (.cst (.str "000")) (.cons (.cmp0 (.mt .join (.cst (.str "0")) (.cons (.bin .Mult (.cst (.str "1")) (.var 1)) .nil)) (.nm 1) (.val (.var 0))) .nil))) .nil)⟩
def f_taps : Fn := ⟨1, ["number"],
  (.cons (.ret (.b1 .sum (.var 0))) .nil)⟩
def f_long : Fn := ⟨1, ["number"],
  (.cons (.ret (.b1 .len (.fn 20 (.cons (.var 0) .nil)))) .nil)⟩
def f_all_of : Fn := ⟨1, ["many", "found", "turn", "longer", "number", "count"],
  (.cons (.asg (.nm 1) (.lst (.cons (.tup .nil) .nil))) (.cons (.fore (.nm 2) (.rng1 (.var 0)) (.cons (.asg (.nm 3) (.lst .nil)) (.cons (.fore (.nm 4) (.val (.var 1)) (.cons (.ext 3 (.cmp0 (.bin .Add (.var 4) (.tup (.cons (.var 5) .nil))) (.nm 5) (.rng2 (.cst (.int 1)) (.bin .Add (.cst (.int 4)) (.cst (.int 1)))))) .nil)) (.cons (.asg (.nm 1) (.var 3)) .nil)))) (.cons (.ret (.var 1)) .nil)))⟩
def f_all_numbers : Fn := ⟨2, ["most", "most_taps", "found", "many", "number"],
  (.cons (.asg (.nm 2) (.lst .nil)) (.cons (.fore (.nm 3) (.rng2 (.cst (.int 1)) (.bin .Add (.var 0) (.cst (.int 1)))) (.cons (.ext 2 (.cmp1 (.var 4) (.nm 4) (.val (.fn 23 (.cons (.var 3) .nil))) (.cmp .LtE (.fn 21 (.cons (.var 4) .nil)) (.var 1)))) .nil)) (.cons (.ret (.b1 .tuple (.b1 .sorted (.var 2)))) .nil)))⟩
def f_number_of : Fn := ⟨1, ["text", "number"],
  (.cons (.fore (.nm 1) (.val (.fn 24 (.cons (.cst (.int 3)) (.cons (.bin .Mult (.cst (.int 3)) (.cst (.int 4))) .nil)))) (.cons (.ife (.cmp .Eq (.fn 20 (.cons (.var 1) .nil)) (.var 0)) (.cons (.ret (.var 1)) .nil) .nil) .nil)) (.cons (.rse 0) .nil))⟩
def f__law_places_in : Fn := ⟨2, ["bent_one", "bent_way", "bent_ways", "bent_at", "bent_part"],
  (.cons (.asg (.nm 2) (.lst (.cons (.var 1) .nil))) (.cons (.ife (.b1 (.isi 3) (.var 0)) (.cons (.fore (.tp [3, 4]) (.enm (.var 0)) (.cons (.asg (.nm 2) (.bin .Add (.var 2) (.fn 27 (.cons (.var 4) (.cons (.bin .Add (.var 1) (.tup (.cons (.var 3) .nil))) .nil))))) .nil)) .nil) .nil) (.cons (.ret (.var 2)) .nil)))⟩
def f__law_otherwise : Fn := ⟨2, ["bent_one", "bent_number", "bent_some"],
  (.cons (.ife (.b1 (.isi 3) (.var 0)) (.cons (.asg (.nm 2) (.lst (.cons (.b1 .list (.var 0)) (.cons (.b1 .list (.var 0)) (.cons (.bin .Add (.var 0) (.slc (.var 0) .non (.cst (.int 1)))) .nil))))) (.cons (.ret (.idx (.bin .Add (.var 2) (.lst (.cons (.slc (.var 0) (.cst (.int 1)) .non) (.cons (.lst (.cons (.var 0) .nil)) .nil)))) (.bin .Mod (.var 1) (.cst (.int 5))))) .nil)) .nil) (.cons (.ife (.b1 (.isi 1) (.var 0)) (.cons (.ret (.idx (.lst (.cons (.b1 .int (.var 0)) (.cons (.cst .none) (.cons (.b1 .str (.var 0)) .nil)))) (.bin .Mod (.var 1) (.cst (.int 3))))) .nil) .nil) (.cons (.ife (.b1 (.isi 0) (.var 0)) (.cons (.asg (.nm 2) (.lst (.cons (.cst (.bool true)) (.cons (.cst .none) (.cons (.b1 .str (.var 0)) (.cons (.tup (.cons (.var 0) .nil)) .nil)))))) (.cons (.ret (.idx (.bin .Add (.var 2) (.lst (.cons (.bin .Sub (.neg (.cst (.int 1))) (.var 0)) .nil))) (.bin .Mod (.var 1) (.cst (.int 5))))) .nil)) .nil) (.cons (.ret (.idx (.lst (.cons (.cst .none) (.cons (.tup (.cons (.var 0) .nil)) (.cons (.lst (.cons (.var 0) .nil)) (.cons (.cst (.str "")) (.cons (.cst (.int 0)) .nil)))))) (.bin .Mod (.var 1) (.cst (.int 5))))) .nil))))⟩
def f__law_once : Fn := ⟨1, ["script", "number", "lot", "wait", "calls", "one", "thing", "some", "name", "got"],
  (.cons (.asg (.nm 1) (.mix 0 (.cst (.int 0)))) (.cons (.asg (.nm 2) (.fn 9 (.cons (.mix 0 (.cst (.int 1))) (.cons (.cst (.int 6)) (.cons (.cst (.int 3)) .nil))))) (.cons (.asg (.nm 3) (.bin .Mod (.bin .FloorDiv (.var 1) (.cst (.int 16))) (.cst (.int 13)))) (.cons (.asg (.nm 4) (.fn 12 (.cons (.var 2) (.cons (.mix 0 (.cst (.int 2))) (.cons (.var 3) .nil))))) (.cons (.asg (.nm 5) (.fn 8 (.cons (.mix 0 (.cst (.int 3))) (.cons (.cst (.int 3)) .nil)))) (.cons (.ife (.or (.cmp .IsNot (.fn 5 (.cons (.var 2) .nil)) (.cst (.bool true))) (.or (.cmp .IsNot (.fn 6 (.cons (.var 2) (.cons (.var 3) (.cons (.var 4) .nil)))) (.cst (.bool true))) (.one (.cmp .IsNot (.fn 1 (.cons (.var 5) .nil)) (.cst (.bool true)))))) (.cons (.ret (.cst (.bool false))) .nil) .nil) (.cons (.asg (.nm 6) (.var 2)) (.cons (.ife (.cmp .Gt (.bin .Mod (.var 1) (.cst (.int 3))) (.cst (.int 0))) (.cons (.asg (.nm 6) (.fn 30 (.cons (.var 6) (.cons (.mix 0 (.cst (.int 4))) (.cons (.bin .Mod (.bin .FloorDiv (.var 1) (.cst (.int 512))) (.cst (.int 4))) .nil))))) (.cons (.asg (.nm 4) (.fn 30 (.cons (.var 4) (.cons (.mix 0 (.cst (.int 5))) (.cons (.bin .Mod (.bin .FloorDiv (.var 1) (.cst (.int 4096))) (.cst (.int 3))) .nil))))) (.cons (.asg (.nm 5) (.fn 30 (.cons (.var 5) (.cons (.mix 0 (.cst (.int 6))) (.cons (.bin .Mod (.bin .FloorDiv (.var 1) (.cst (.int 32768))) (.cst (.int 2))) .nil))))) .nil))) .nil) (.cons (.fore (.nm 7) (.val (.bin .Add (.fn 19 (.cons (.mix 0 (.cst (.int 7))) .nil)) (.lst (.cons (.var 6) (.cons (.var 5) .nil))))) (.cons (.asg (.nm 9) (.lst (.cons (.fn 5 (.cons (.var 7) .nil)) (.cons (.fn 1 (.cons (.var 7) .nil)) .nil)))) (.cons (.ife (.cmp .NotEq (.b1 .repr (.var 9)) (.b1 .repr (.lst (.cons (.fn 17 (.cons (.var 7) .nil)) (.cons (.fn 15 (.cons (.var 7) .nil)) .nil))))) (.cons (.ret (.cst (.bool false))) .nil) .nil) .nil))) (.cons (.asg (.nm 8) (.idx (.idx (.var 2) (.cst (.int 0))) (.cst (.int 0)))) (.cons (.fore (.nm 7) (.val (.tup (.cons (.var 4) (.cons (.tup (.cons (.tup (.cons (.var 8) (.cons (.var 3) .nil))) .nil)) (.cons (.tup (.cons (.tup (.cons (.var 8) (.cons (.cst (.int 0)) .nil))) (.cons (.tup (.cons (.var 8) (.cons (.cst (.int 0)) .nil))) .nil))) (.cons (.tup (.cons (.tup (.cons (.var 8) (.cons (.cst (.int 0)) .nil))) .nil)) (.cons (.tup (.cons (.tup (.cons (.cst (.str "zzzzz")) (.cons (.cst (.int 0)) .nil))) .nil)) (.cons (.tup (.cons (.tup (.cons (.var 8) (.cons (.cst (.bool true)) .nil))) .nil)) .nil)))))))) (.cons (.asg (.nm 9) (.fn 6 (.cons (.var 2) (.cons (.var 3) (.cons (.var 7) .nil))))) (.cons (.ife (.or (.not (.b1 (.isi 1) (.var 9))) (.one (.cmp .NotEq (.var 9) (.fn 18 (.cons (.var 2) (.cons (.var 3) (.cons (.var 7) .nil))))))) (.cons (.ret (.cst (.bool false))) .nil) .nil) .nil))) (.cons (.ret (.cst (.bool true))) .nil))))))))))))⟩
def f_number_for : Fn := ⟨2, ["lot", "name"],
  (.cons (.ife (.cmp .NotIn (.var 1) (.b1 .dict (.var 0))) (.cons (.rse 1) .nil) .nil) (.cons (.ret (.idx (.b1 .dict (.var 0)) (.var 1))) .nil))⟩
def f_heard : Fn := ⟨2, ["lot", "calls", "times", "name", "begin", "at", "sign", "time"],
  (.cons (.asg (.nm 2) .dic) (.cons (.fore (.tp [3, 4]) (.val (.var 1)) (.cons (.fore (.tp [5, 6]) (.enm (.fn 20 (.cons (.fn 32 (.cons (.var 0) (.cons (.var 3) .nil))) .nil))) (.cons (.ife (.cmp .Eq (.var 6) (.cst (.str "1"))) (.cons (.seti 2 (.bin .Add (.var 4) (.var 5)) (.cst (.bool true))) .nil) .nil) .nil)) .nil)) (.cons (.ret (.mt .join (.cst (.str "")) (.cons (.cmp0 (.idx (.lst (.cons (.cst (.str "0")) (.cons (.cst (.str "1")) .nil))) (.b1 .int (.cmp .In (.var 7) (.var 2)))) (.nm 7) (.rng1 (.bin .Add (.b1 .max (.bin .Add (.b1 .list (.var 2)) (.lst (.cons (.neg (.cst (.int 1))) .nil)))) (.cst (.int 1))))) .nil))) .nil)))⟩
def f_alone : Fn := ⟨2, ["lot", "name"],
  (.cons (.ret (.fn 33 (.cons (.var 0) (.cons (.tup (.cons (.tup (.cons (.var 1) (.cons (.cst (.int 0)) .nil))) .nil)) .nil)))) .nil)⟩
def f_calls_from : Fn := ⟨4, ["lot", "first", "many", "wait", "found", "at", "rests", "begin", "rest"],
  (.cons (.asg (.nm 4) (.lst (.cons (.tup .nil) .nil))) (.cons (.ife (.cmp .Eq (.var 2) (.cst (.int 0))) (.cons (.ret (.var 4)) .nil) .nil) (.cons (.fore (.nm 5) (.rng2 (.var 1) (.b1 .len (.var 0))) (.cons (.asg (.nm 6) (.fn 35 (.cons (.var 0) (.cons (.bin .Add (.var 5) (.cst (.int 1))) (.cons (.bin .Sub (.var 2) (.cst (.int 1))) (.cons (.var 3) .nil)))))) (.cons (.fore (.nm 7) (.rng1 (.bin .Add (.var 3) (.cst (.int 1)))) (.cons (.ext 4 (.cmp0 (.bin .Add (.tup (.cons (.tup (.cons (.idx (.idx (.var 0) (.var 5)) (.cst (.int 0))) (.cons (.var 7) .nil))) .nil)) (.var 8)) (.nm 8) (.val (.var 6)))) .nil)) .nil))) (.cons (.ret (.var 4)) .nil))))⟩
def f_all_calls : Fn := ⟨3, ["lot", "many", "wait", "some", "calls", "call"],
  (.cons (.asg (.nm 3) (.fn 35 (.cons (.var 0) (.cons (.cst (.int 0)) (.cons (.var 1) (.cons (.var 2) .nil)))))) (.cons (.ret (.b1 .tuple (.b1 .sorted (.cmp1 (.var 4) (.nm 4) (.val (.var 3)) (.or (.cmp .Eq (.b1 .len (.var 4)) (.cst (.int 0))) (.one (.cmp .Eq (.b1 .min (.cmp0 (.idx (.var 5) (.cst (.int 1))) (.nm 5) (.val (.var 4)))) (.cst (.int 0))))))))) .nil))⟩
def f__law_every : Fn := ⟨3, ["lot", "many", "wait", "found", "layer", "turn", "longer", "calls", "name", "number", "begin", "call"],
  (.cons (.asg (.nm 3) (.lst (.cons (.tup .nil) .nil))) (.cons (.asg (.nm 4) (.lst (.cons (.tup .nil) .nil))) (.cons (.fore (.nm 5) (.rng1 (.var 1)) (.cons (.asg (.nm 6) (.lst .nil)) (.cons (.fore (.nm 7) (.val (.var 4)) (.cons (.fore (.tp [8, 9]) (.val (.var 0)) (.cons (.ife (.or (.cmp .Eq (.var 7) (.tup .nil)) (.one (.cmp .Gt (.var 8) (.idx (.idx (.var 7) (.neg (.cst (.int 1)))) (.cst (.int 0)))))) (.cons (.ext 6 (.cmp0 (.bin .Add (.var 7) (.tup (.cons (.tup (.cons (.var 8) (.cons (.var 10) .nil))) .nil))) (.nm 10) (.rng1 (.bin .Add (.var 2) (.cst (.int 1)))))) .nil) .nil) .nil)) .nil)) (.cons (.asg (.nm 4) (.var 6)) (.cons (.asg (.nm 3) (.bin .Add (.var 3) (.var 4))) .nil))))) (.cons (.ret (.b1 .sorted (.cmp1 (.var 7) (.nm 7) (.val (.var 3)) (.or (.cmp .Eq (.var 7) (.tup .nil)) (.one (.cmp .Eq (.b1 .min (.cmp0 (.idx (.var 11) (.cst (.int 1))) (.nm 11) (.val (.var 7)))) (.cst (.int 0)))))))) .nil))))⟩
def f_may_be : Fn := ⟨4, ["lot", "many", "wait", "text", "calls"],
  (.cons (.ret (.b1 .tuple (.cmp1 (.var 4) (.nm 4) (.val (.fn 36 (.cons (.var 0) (.cons (.var 1) (.cons (.var 2) .nil))))) (.cmp .Eq (.fn 33 (.cons (.var 0) (.cons (.var 4) .nil))) (.var 3))))) .nil)⟩
def f_names_of : Fn := ⟨1, ["calls", "name", "begin"],
  (.cons (.ret (.b1 .tuple (.cmp0 (.var 1) (.tp [1, 2]) (.val (.var 0))))) .nil)⟩
def f_need_calls : Fn := ⟨4, ["lot", "many", "wait", "text", "some", "calls"],
  (.cons (.asg (.nm 4) (.cmp0 (.fn 39 (.cons (.var 5) .nil)) (.nm 5) (.val (.fn 38 (.cons (.var 0) (.cons (.var 1) (.cons (.var 2) (.cons (.var 3) .nil)))))))) (.cons (.ife (.cmp .Eq (.b1 .len (.var 4)) (.cst (.int 0))) (.cons (.rse 2) .nil) .nil) (.cons (.ret (.var 4)) .nil)))⟩
def f_surely : Fn := ⟨4, ["lot", "many", "wait", "text", "some", "name", "number", "names"],
  (.cons (.asg (.nm 4) (.fn 40 (.cons (.var 0) (.cons (.var 1) (.cons (.var 2) (.cons (.var 3) .nil)))))) (.cons (.ret (.b1 .tuple (.cmp1 (.var 5) (.tp [5, 6]) (.val (.var 0)) (.b1 .all (.cmp0 (.cmp .In (.var 5) (.var 7)) (.nm 7) (.val (.var 4))))))) .nil))⟩
def f_possibly : Fn := ⟨4, ["lot", "many", "wait", "text", "some", "name", "number", "names"],
  (.cons (.asg (.nm 4) (.fn 40 (.cons (.var 0) (.cons (.var 1) (.cons (.var 2) (.cons (.var 3) .nil)))))) (.cons (.ret (.b1 .tuple (.cmp1 (.var 5) (.tp [5, 6]) (.val (.var 0)) (.b1 .any (.cmp0 (.cmp .In (.var 5) (.var 7)) (.nm 7) (.val (.var 4))))))) .nil))⟩
def f_off : Fn := ⟨2, ["one", "other", "size", "here", "there"],
  (.cons (.asg (.nm 2) (.mx (.b1 .len (.var 0)) (.b1 .len (.var 1)))) (.cons (.asg (.nm 0) (.bin .Add (.var 0) (.bin .Mult (.cst (.str "0")) (.bin .Sub (.var 2) (.b1 .len (.var 0)))))) (.cons (.asg (.nm 1) (.bin .Add (.var 1) (.bin .Mult (.cst (.str "0")) (.bin .Sub (.var 2) (.b1 .len (.var 1)))))) (.cons (.ret (.b1 .len (.cmp1 (.cst (.int 1)) (.tp [3, 4]) (.zip (.var 0) (.var 1)) (.cmp .NotEq (.var 3) (.var 4))))) .nil))))⟩
def f_nearest : Fn := ⟨4, ["lot", "many", "wait", "text", "calls"],
  (.cons (.ret (.b1 .min (.cmp0 (.tup (.cons (.fn 43 (.cons (.var 3) (.cons (.fn 33 (.cons (.var 0) (.cons (.var 4) .nil))) .nil))) (.cons (.var 4) .nil))) (.nm 4) (.val (.fn 36 (.cons (.var 0) (.cons (.var 1) (.cons (.var 2) .nil)))))))) .nil)⟩
def f__law_off : Fn := ⟨2, ["one", "other", "size", "here", "there", "at"],
  (.cons (.asg (.nm 2) (.mx (.b1 .len (.var 0)) (.b1 .len (.var 1)))) (.cons (.asg (.nm 3) (.bin .Add (.var 0) (.bin .Mult (.cst (.str "0")) (.bin .Sub (.var 2) (.b1 .len (.var 0)))))) (.cons (.asg (.nm 4) (.bin .Add (.var 1) (.bin .Mult (.cst (.str "0")) (.bin .Sub (.var 2) (.b1 .len (.var 1)))))) (.cons (.ret (.b1 .len (.cmp1 (.var 5) (.nm 5) (.rng1 (.var 2)) (.cmp .NotEq (.idx (.var 3) (.var 5)) (.idx (.var 4) (.var 5)))))) .nil))))⟩
def f__law_has_all : Fn := ⟨4, ["lot", "calls", "names", "text", "name", "rest", "part", "call", "at", "begin"],
  (.cons (.fore (.nm 4) (.val (.var 2)) (.cons (.asg (.nm 5) (.b1 .tuple (.cmp1 (.var 7) (.nm 7) (.val (.var 1)) (.cmp .NotEq (.idx (.var 7) (.cst (.int 0))) (.var 4))))) (.cons (.ife (.cmp .Gt (.b1 .min (.bin .Add (.cmp0 (.var 9) (.tp [7, 9]) (.val (.var 5))) (.lst (.cons (.cst (.int 99)) .nil)))) (.cst (.int 0))) (.cons .cont .nil) .nil) (.cons (.asg (.nm 6) (.fn 33 (.cons (.var 0) (.cons (.var 5) .nil)))) (.cons (.ife (.cmp .NotEq (.cmp1 (.var 8) (.nm 8) (.rng1 (.b1 .len (.var 6))) (.and (.cmp .Eq (.idx (.var 6) (.var 8)) (.cst (.str "1"))) (.one (.cmp .NotEq (.idx (.var 3) (.var 8)) (.cst (.str "1")))))) (.lst .nil)) (.cons (.ret (.cst (.bool false))) .nil) .nil) .nil))))) (.cons (.ret (.cst (.bool true))) .nil))⟩
def f_lots_by_text : Fn := ⟨3, ["lot", "many", "wait", "book", "calls", "text", "names"],
  (.cons (.asg (.nm 3) .dic) (.cons (.fore (.nm 4) (.val (.fn 36 (.cons (.var 0) (.cons (.var 1) (.cons (.var 2) .nil))))) (.cons (.asg (.nm 5) (.fn 33 (.cons (.var 0) (.cons (.var 4) .nil)))) (.cons (.asg (.nm 6) (.fn 39 (.cons (.var 4) .nil))) (.cons (.note 3 (.var 5) (.var 6)) .nil)))) (.cons (.ret (.var 3)) .nil)))⟩
def f_clashing_texts : Fn := ⟨1, ["book", "text"],
  (.cons (.ret (.b1 .sortk (.cmp1 (.var 1) (.nm 1) (.val (.var 0)) (.cmp .Gt (.b1 .len (.idx (.var 0) (.var 1))) (.cst (.int 1)))))) .nil)⟩
def f_clash : Fn := ⟨3, ["lot", "many", "wait", "book", "some"],
  (.cons (.asg (.nm 3) (.fn 47 (.cons (.var 0) (.cons (.var 1) (.cons (.var 2) .nil))))) (.cons (.asg (.nm 4) (.fn 48 (.cons (.var 3) .nil))) (.cons (.ife (.cmp .Eq (.b1 .len (.var 4)) (.cst (.int 0))) (.cons (.ret (.cst .none)) .nil) .nil) (.cons (.ret (.bin .Add (.tup (.cons (.idx (.var 4) (.cst (.int 0))) .nil)) (.b1 .tuple (.slc (.b1 .sorted (.idx (.var 3) (.idx (.var 4) (.cst (.int 0))))) .non (.cst (.int 2)))))) .nil))))⟩
def f_clashes : Fn := ⟨3, ["lot", "many", "wait"],
  (.cons (.ret (.b1 .len (.fn 48 (.cons (.fn 47 (.cons (.var 0) (.cons (.var 1) (.cons (.var 2) .nil)))) .nil)))) .nil)⟩
def f_are_apart : Fn := ⟨3, ["lot", "many", "wait"],
  (.cons (.ret (.cmp .Is (.fn 49 (.cons (.var 0) (.cons (.var 1) (.cons (.var 2) .nil)))) (.cst .none))) .nil)⟩
def f_most_apart : Fn := ⟨2, ["lot", "wait", "many"],
  (.cons (.ret (.b1 .max (.bin .Add (.lst (.cons (.cst (.int 0)) .nil)) (.cmp1 (.var 2) (.nm 2) (.rng2 (.cst (.int 1)) (.bin .Add (.cst (.int 3)) (.cst (.int 1)))) (.fn 51 (.cons (.var 0) (.cons (.var 2) (.cons (.var 1) .nil)))))))) .nil)⟩
def f_room : Fn := ⟨4, ["lot", "many", "wait", "most", "held", "found", "number", "name"],
  (.cons (.asg (.nm 4) (.cmp0 (.var 6) (.tp [7, 6]) (.val (.var 0)))) (.cons (.asg (.nm 5) (.lst .nil)) (.cons (.fore (.nm 6) (.val (.fn 24 (.cons (.var 3) (.cons (.cst (.int 12)) .nil)))) (.cons (.ife (.and (.cmp .NotIn (.var 6) (.var 4)) (.one (.fn 51 (.cons (.bin .Add (.var 0) (.tup (.cons (.tup (.cons (.cst (.str "zzzzz")) (.cons (.var 6) .nil))) .nil))) (.cons (.var 1) (.cons (.var 2) .nil)))))) (.cons (.app 5 (.var 6)) .nil) .nil) .nil)) (.cons (.ret (.b1 .tuple (.var 5))) .nil))))⟩
def f_needless : Fn := ⟨3, ["lot", "many", "wait", "found", "name", "number", "box"],
  (.cons (.ife (.fn 51 (.cons (.var 0) (.cons (.var 1) (.cons (.var 2) .nil)))) (.cons (.ret (.tup .nil)) .nil) .nil) (.cons (.asg (.nm 3) (.tup .nil)) (.cons (.fore (.tp [4, 5]) (.val (.var 0)) (.cons (.ife (.fn 51 (.cons (.b1 .tuple (.cmp1 (.var 6) (.nm 6) (.val (.var 0)) (.cmp .NotEq (.idx (.var 6) (.cst (.int 0))) (.var 4)))) (.cons (.var 1) (.cons (.var 2) .nil)))) (.cons (.asg (.nm 3) (.bin .Add (.var 3) (.tup (.cons (.var 4) .nil)))) .nil) .nil) .nil)) (.cons (.ret (.var 3)) .nil))))⟩
def f__law_made_calls : Fn := ⟨4, ["lot", "number", "wait", "many", "calls"],
  (.cons (.asg (.nm 4) (.slc (.fn 12 (.cons (.var 0) (.cons (.var 1) (.cons (.var 2) .nil)))) .non (.var 3))) (.cons (.ife (.cmp .NotEq (.var 4) (.tup .nil)) (.cons (.asg (.nm 4) (.bin .Add (.tup (.cons (.tup (.cons (.idx (.idx (.var 4) (.cst (.int 0))) (.cst (.int 0))) (.cons (.cst (.int 0)) .nil))) .nil)) (.slc (.var 4) (.cst (.int 1)) .non))) .nil) .nil) (.cons (.ret (.var 4)) .nil)))⟩
def f__law_turned_rows : Fn := ⟨1, ["rows", "row"],
  (.cons (.ret (.b1 .tuple (.cmp0 (.bin .Add (.tup (.cons (.fn 56 (.cons (.idx (.var 1) (.cst (.int 0))) .nil)) .nil)) (.slc (.var 1) (.cst (.int 1)) .non)) (.nm 1) (.val (.var 0))))) .nil)⟩
def f__law_chosen : Fn := ⟨2, ["size", "few", "found", "k"],
  (.cons (.asg (.nm 2) (.cst (.int 1))) (.cons (.fore (.nm 3) (.rng1 (.var 1)) (.cons (.asg (.nm 2) (.bin .FloorDiv (.bin .Mult (.var 2) (.bin .Sub (.var 0) (.var 3))) (.bin .Add (.var 3) (.cst (.int 1))))) .nil)) (.cons (.ret (.var 2)) .nil)))⟩
def f__law_text : Fn := ⟨1, ["number", "k"],
  (.cons (.ret (.mt .join (.cst (.str "")) (.cons (.cmp0 (.idx (.cst (.str "0010110100")) (.bin .Mod (.bin .FloorDiv (.fn 7 (.cons (.var 0) (.cons (.var 1) .nil))) (.cst (.int 16))) (.cst (.int 10)))) (.nm 1) (.rng1 (.bin .Mod (.bin .FloorDiv (.var 0) (.cst (.int 16))) (.cst (.int 12))))) .nil))) .nil)⟩
def f_long_wait : Fn := ⟨2, ["lot", "many", "some", "wait"],
  (.cons (.asg (.nm 2) (.cmp1 (.var 3) (.nm 3) (.rng1 (.bin .Add (.cst (.int 12)) (.cst (.int 1)))) (.fn 51 (.cons (.var 0) (.cons (.var 1) (.cons (.var 3) .nil)))))) (.cons (.ife (.cmp .Eq (.b1 .len (.var 2)) (.cst (.int 0))) (.cons (.ret (.cst .none)) .nil) .nil) (.cons (.ret (.b1 .max (.var 2))) .nil)))⟩
def f__law_is_clash : Fn := ⟨4, ["lot", "many", "wait", "told", "text", "one", "other", "names", "calls", "call"],
  (.cons (.asg (.tp [4, 5, 6]) (.var 3)) (.cons (.asg (.nm 7) (.cmp0 (.b1 .tuple (.cmp0 (.idx (.var 9) (.cst (.int 0))) (.nm 9) (.val (.var 8)))) (.nm 8) (.val (.fn 38 (.cons (.var 0) (.cons (.var 1) (.cons (.var 2) (.cons (.var 4) .nil)))))))) (.cons (.ife (.or (.cmp .NotIn (.var 5) (.var 7)) (.or (.cmp .NotIn (.var 6) (.var 7)) (.one (.not (.cmp .Lt (.var 5) (.var 6)))))) (.cons (.ret (.cst (.bool false))) .nil) .nil) (.cons (.ret (.cmp .NotEq (.fn 41 (.cons (.var 0) (.cons (.var 1) (.cons (.var 2) (.cons (.var 4) .nil))))) (.fn 42 (.cons (.var 0) (.cons (.var 1) (.cons (.var 2) (.cons (.var 4) .nil))))))) .nil))))⟩
def f_cost : Fn := ⟨1, ["numbers", "number"],
  (.cons (.ret (.b1 .sum (.cmp0 (.fn 21 (.cons (.var 1) .nil)) (.nm 1) (.val (.var 0))))) .nil)⟩
def f_named : Fn := ⟨1, ["numbers", "at", "number"],
  (.cons (.ret (.b1 .tuple (.cmp0 (.tup (.cons (.idx (.cst (.str "abcdefghijklmnopqrstuvwxyz")) (.var 1)) (.cons (.var 2) .nil))) (.tp [1, 2]) (.enm (.var 0))))) .nil)⟩
def f_choices : Fn := ⟨2, ["some", "boxes", "found", "at", "rest"],
  (.cons (.ife (.cmp .Eq (.var 1) (.cst (.int 0))) (.cons (.ret (.lst (.cons (.tup .nil) .nil))) .nil) .nil) (.cons (.asg (.nm 2) (.lst .nil)) (.cons (.fore (.nm 3) (.rng1 (.b1 .len (.var 0))) (.cons (.ext 2 (.cmp0 (.bin .Add (.tup (.cons (.idx (.var 0) (.var 3)) .nil)) (.var 4)) (.nm 4) (.val (.fn 65 (.cons (.slc (.var 0) (.bin .Add (.var 3) (.cst (.int 1))) .non) (.cons (.bin .Sub (.var 1) (.cst (.int 1))) .nil)))))) .nil)) (.cons (.ret (.var 2)) .nil))))⟩
def f_by_cost : Fn := ⟨3, ["boxes", "most", "most_taps", "numbers"],
  (.cons (.ret (.b1 .sorted (.cmp0 (.tup (.cons (.fn 63 (.cons (.var 3) .nil)) (.cons (.var 3) .nil))) (.nm 3) (.val (.fn 65 (.cons (.fn 24 (.cons (.var 1) (.cons (.var 2) .nil))) (.cons (.var 0) .nil))))))) .nil)⟩
def f_dealt : Fn := ⟨5, ["boxes", "many", "wait", "most", "most_taps", "taps_here", "numbers"],
  (.cons (.fore (.tp [5, 6]) (.val (.fn 66 (.cons (.var 0) (.cons (.var 3) (.cons (.var 4) .nil))))) (.cons (.ife (.fn 51 (.cons (.fn 64 (.cons (.var 6) .nil)) (.cons (.var 1) (.cons (.var 2) .nil)))) (.cons (.ret (.var 6)) .nil) .nil) .nil)) (.cons (.rse 3) .nil))⟩
def f_bars : Fn := ⟨5, ["boxes", "many", "wait", "most", "most_taps", "few", "pair"],
  (.cons (.asg (.nm 5) (.fn 63 (.cons (.fn 67 (.cons (.var 0) (.cons (.var 1) (.cons (.var 2) (.cons (.var 3) (.cons (.var 4) .nil)))))) .nil))) (.cons (.ret (.b1 .len (.cmp1 (.var 6) (.nm 6) (.val (.fn 66 (.cons (.var 0) (.cons (.var 3) (.cons (.var 4) .nil))))) (.cmp .Lt (.idx (.var 6) (.cst (.int 0))) (.var 5))))) .nil))⟩
def f__law_choices : Fn := ⟨2, ["some", "boxes", "found", "at", "rest"],
  (.cons (.ife (.cmp .Eq (.var 1) (.cst (.int 0))) (.cons (.ret (.lst (.cons (.tup .nil) .nil))) .nil) .nil) (.cons (.asg (.nm 2) (.lst .nil)) (.cons (.fore (.nm 3) (.rng1 (.b1 .len (.var 0))) (.cons (.asg (.nm 2) (.bin .Add (.var 2) (.cmp0 (.bin .Add (.tup (.cons (.idx (.var 0) (.var 3)) .nil)) (.var 4)) (.nm 4) (.val (.fn 69 (.cons (.slc (.var 0) (.bin .Add (.var 3) (.cst (.int 1))) .non) (.cons (.bin .Sub (.var 1) (.cst (.int 1))) .nil))))))) .nil)) (.cons (.ret (.var 2)) .nil))))⟩
def f__law_told_of : Fn := ⟨4, ["lot", "many", "wait", "text", "found", "first", "last", "at", "sign", "now"],
  (.cons (.asg (.nm 4) (.lst .nil)) (.cons (.asg (.nm 5) (.cst .none)) (.cons (.asg (.nm 6) (.cst .none)) (.cons (.fore (.tp [7, 8]) (.enm (.var 3)) (.cons (.ife (.cmp .Eq (.var 8) (.cst (.str "1"))) (.cons (.ife (.cmp .Is (.var 5) (.cst .none)) (.cons (.asg (.nm 5) (.var 7)) .nil) .nil) (.cons (.asg (.nm 6) (.var 7)) .nil)) .nil) (.cons (.ife (.and (.cmp .IsNot (.var 5) (.cst .none)) (.one (.cmp .Eq (.var 7) (.bin .Add (.var 6) (.cst (.int 30)))))) (.cons (.app 4 (.tup (.cons (.var 7) (.cons (.tup (.cons (.var 5) (.cons (.fn 38 (.cons (.var 0) (.cons (.var 1) (.cons (.var 2) (.cons (.slc (.var 3) (.var 5) (.bin .Add (.var 6) (.cst (.int 1)))) .nil))))) .nil))) .nil)))) (.cons (.asg (.nm 5) (.cst .none)) .nil)) .nil) .nil))) (.cons (.asg (.nm 9) (.cst (.str ""))) (.cons (.ife (.cmp .IsNot (.var 5) (.cst .none)) (.cons (.asg (.nm 9) (.slc (.var 3) (.var 5) (.bin .Add (.var 6) (.cst (.int 1))))) .nil) .nil) (.cons (.ret (.tup (.cons (.var 4) (.cons (.var 9) .nil)))) .nil)))))))⟩
def f_lot_text : Fn := ⟨1, ["lot", "name", "number", "count"],
  (.cons (.ret (.mt .join (.cst (.str "")) (.cons (.cmp0 (.bin .Add (.bin .Add (.bin .Add (.var 1) (.cst (.str "="))) (.mt .join (.cst (.str "-")) (.cons (.cmp0 (.b1 .str (.var 3)) (.nm 3) (.val (.var 2))) .nil))) (.cst (.str "\n"))) (.tp [1, 2]) (.val (.var 0))) .nil))) .nil)⟩
def f_calls_text : Fn := ⟨1, ["calls", "name", "begin"],
  (.cons (.ret (.mt .join (.cst (.str " ")) (.cons (.cmp0 (.bin .Add (.bin .Add (.var 1) (.cst (.str "@"))) (.b1 .str (.var 2))) (.tp [1, 2]) (.val (.var 0))) .nil))) .nil)⟩
def f_need : Fn := ⟨1, ["good"],
  (.cons (.ife (.not (.var 0)) (.cons (.rse 4) .nil) .nil) .nil)⟩
def f_number_in : Fn := ⟨1, ["word", "sign"],
  (.cons (.exp (.fn 79 (.cons (.and (.chn .LtE .LtE (.cst (.int 1)) (.b1 .len (.var 0)) (.cst (.int 2))) (.one (.b1 .all (.cmp0 (.cmp .In (.var 1) (.cst (.str "0123456789"))) (.nm 1) (.val (.var 0)))))) .nil))) (.cons (.ret (.b1 .int (.var 0))) .nil))⟩
def f_pair_by : Fn := ⟨2, ["text", "sign", "words"],
  (.cons (.asg (.nm 2) (.mt .split (.var 0) (.cons (.var 1) .nil))) (.cons (.exp (.fn 79 (.cons (.cmp .Eq (.b1 .len (.var 2)) (.cst (.int 2))) .nil))) (.cons (.ret (.var 2)) .nil)))⟩
def f_box_of : Fn := ⟨1, ["row", "name", "counts", "word"],
  (.cons (.asg (.tp [1, 2]) (.fn 81 (.cons (.var 0) (.cons (.cst (.str "=")) .nil)))) (.cons (.ret (.tup (.cons (.var 1) (.cons (.b1 .tuple (.cmp0 (.fn 80 (.cons (.var 3) .nil)) (.nm 3) (.val (.mt .split (.var 2) (.cons (.cst (.str "-")) .nil))))) .nil)))) .nil))⟩
def f_read_lot : Fn := ⟨1, ["text", "rows", "found", "row"],
  (.cons (.asg (.nm 1) (.mt .split (.var 0) (.cons (.cst (.str "\n")) .nil))) (.cons (.exp (.fn 79 (.cons (.cmp .Eq (.idx (.var 1) (.neg (.cst (.int 1)))) (.cst (.str ""))) .nil))) (.cons (.asg (.nm 2) (.b1 .tuple (.cmp0 (.fn 82 (.cons (.var 3) .nil)) (.nm 3) (.val (.slc (.var 1) .non (.neg (.cst (.int 1)))))))) (.cons (.exp (.fn 79 (.cons (.and (.fn 5 (.cons (.var 2) .nil)) (.one (.cmp .Eq (.fn 77 (.cons (.var 2) .nil)) (.var 0)))) .nil))) (.cons (.ret (.var 2)) .nil)))))⟩
def f_call_of : Fn := ⟨1, ["word", "name", "begin"],
  (.cons (.asg (.tp [1, 2]) (.fn 81 (.cons (.var 0) (.cons (.cst (.str "@")) .nil)))) (.cons (.ret (.tup (.cons (.var 1) (.cons (.fn 80 (.cons (.var 2) .nil)) .nil)))) .nil))⟩
def f_read_calls : Fn := ⟨3, ["lot", "wait", "text", "found", "word"],
  (.cons (.asg (.nm 3) (.tup .nil)) (.cons (.ife (.cmp .NotEq (.var 2) (.cst (.str ""))) (.cons (.asg (.nm 3) (.b1 .tuple (.cmp0 (.fn 84 (.cons (.var 4) .nil)) (.nm 4) (.val (.mt .split (.var 2) (.cons (.cst (.str " ")) .nil)))))) .nil) .nil) (.cons (.exp (.fn 79 (.cons (.and (.fn 6 (.cons (.var 0) (.cons (.var 1) (.cons (.var 3) .nil)))) (.one (.cmp .Eq (.fn 78 (.cons (.var 3) .nil)) (.var 2)))) .nil))) (.cons (.ret (.var 3)) .nil))))⟩
def f_marks : Fn := ⟨2, ["text", "begin", "sign"],
  (.cons (.ret (.bin .Add (.bin .Add (.bin .Mult (.cst (.str ".")) (.var 1)) (.mt .join (.cst (.str "")) (.cons (.cmp0 (.idx (.lst (.cons (.cst (.str ".")) (.cons (.cst (.str "|")) .nil))) (.b1 .int (.cmp .Eq (.var 2) (.cst (.str "1"))))) (.nm 2) (.val (.var 0))) .nil))) (.cst (.str "\n")))) .nil)⟩
def f_picture : Fn := ⟨2, ["lot", "calls", "rows", "name", "begin"],
  (.cons (.asg (.nm 2) (.cmp0 (.fn 86 (.cons (.fn 20 (.cons (.fn 32 (.cons (.var 0) (.cons (.var 3) .nil))) .nil)) (.cons (.var 4) .nil))) (.tp [3, 4]) (.val (.var 1)))) (.cons (.ret (.bin .Add (.mt .join (.cst (.str "")) (.cons (.var 2) .nil)) (.fn 86 (.cons (.fn 33 (.cons (.var 0) (.cons (.var 1) .nil))) (.cons (.cst (.int 0)) .nil))))) .nil))⟩
def f__law_changed : Fn := ⟨2, ["text", "number", "at", "sign"],
  (.cons (.asg (.nm 2) (.bin .Mod (.bin .FloorDiv (.var 1) (.cst (.int 16))) (.bin .Add (.b1 .len (.var 0)) (.cst (.int 1))))) (.cons (.asg (.nm 3) (.idx (.cst (.str "012459-=@ab \n")) (.bin .Mod (.bin .FloorDiv (.var 1) (.cst (.int 4096))) (.cst (.int 13))))) (.cons (.ife (.cmp .Eq (.bin .Mod (.var 1) (.cst (.int 4))) (.cst (.int 0))) (.cons (.ret (.bin .Add (.bin .Add (.slc (.var 0) .non (.var 2)) (.var 3)) (.slc (.var 0) (.var 2) .non))) .nil) .nil) (.cons (.ife (.cmp .Eq (.bin .Mod (.var 1) (.cst (.int 4))) (.cst (.int 1))) (.cons (.ret (.bin .Add (.slc (.var 0) .non (.var 2)) (.slc (.var 0) (.bin .Add (.var 2) (.cst (.int 1))) .non))) .nil) .nil) (.cons (.ife (.cmp .Eq (.bin .Mod (.var 1) (.cst (.int 4))) (.cst (.int 2))) (.cons (.ret (.bin .Add (.bin .Add (.slc (.var 0) .non (.var 2)) (.var 3)) (.slc (.var 0) (.bin .Add (.var 2) (.cst (.int 1))) .non))) .nil) .nil) (.cons (.ret (.bin .Add (.slc (.var 0) .non (.var 2)) (.slc (.var 0) (.bin .Add (.var 2) (.bin .Mod (.bin .FloorDiv (.var 1) (.cst (.int 64))) (.cst (.int 9)))) .non))) .nil))))))⟩
def f__law_all : Fn := ⟨3, ["lot", "calls", "text", "told"],
  (.cons (.asg (.nm 3) (.tup (.cons (.fn 33 (.cons (.var 0) (.cons (.var 1) .nil))) (.cons (.fn 36 (.cons (.var 0) (.cons (.cst (.int 1)) (.cons (.cst (.int 4)) .nil)))) (.cons (.fn 38 (.cons (.var 0) (.cons (.cst (.int 2)) (.cons (.cst (.int 2)) (.cons (.var 2) .nil))))) .nil))))) (.cons (.asg (.nm 3) (.bin .Add (.var 3) (.tup (.cons (.fn 44 (.cons (.var 0) (.cons (.cst (.int 1)) (.cons (.cst (.int 3)) (.cons (.var 2) .nil))))) (.cons (.fn 49 (.cons (.var 0) (.cons (.cst (.int 2)) (.cons (.cst (.int 2)) .nil)))) (.cons (.fn 54 (.cons (.var 0) (.cons (.cst (.int 2)) (.cons (.cst (.int 1)) .nil)))) .nil)))))) (.cons (.asg (.nm 3) (.bin .Add (.var 3) (.tup (.cons (.fn 60 (.cons (.var 0) (.cons (.cst (.int 1)) .nil))) (.cons (.fn 53 (.cons (.var 0) (.cons (.cst (.int 1)) (.cons (.cst (.int 2)) (.cons (.cst (.int 1)) .nil))))) (.cons (.fn 20 (.cons (.idx (.idx (.var 0) (.cst (.int 0))) (.cst (.int 1))) .nil)) .nil)))))) (.cons (.asg (.nm 3) (.bin .Add (.var 3) (.tup (.cons (.fn 78 (.cons (.var 1) .nil)) (.cons (.fn 83 (.cons (.fn 77 (.cons (.var 0) .nil)) .nil)) (.cons (.fn 87 (.cons (.var 0) (.cons (.var 1) .nil))) .nil)))))) (.cons (.ret (.bin .Add (.var 3) (.tup (.cons (.fn 67 (.cons (.cst (.int 1)) (.cons (.cst (.int 2)) (.cons (.cst (.int 2)) (.cons (.cst (.int 1)) (.cons (.cst (.int 3)) .nil)))))) .nil)))) .nil)))))⟩
def f__law_bent : Fn := ⟨2, ["text", "number", "at", "sign", "rows", "row", "ahead", "later", "some", "twice"],
  (.cons (.asg (.nm 2) (.bin .Mod (.var 1) (.bin .Add (.b1 .len (.var 0)) (.cst (.int 1))))) (.cons (.asg (.nm 3) (.idx (.cst (.str "0123459=-@ abcxz\n")) (.bin .Mod (.bin .FloorDiv (.var 1) (.cst (.int 512))) (.cst (.int 17))))) (.cons (.asg (.nm 4) (.mt .split (.var 0) (.cons (.cst (.str "\n")) .nil))) (.cons (.asg (.nm 5) (.bin .Mod (.bin .FloorDiv (.var 1) (.cst (.int 16384))) (.b1 .len (.var 4)))) (.cons (.par 6 7 (.slc (.var 0) .non (.var 2)) (.slc (.var 0) (.bin .Add (.var 2) (.cst (.int 1))) .non)) (.cons (.asg (.nm 8) (.lst (.cons (.bin .Add (.bin .Add (.var 6) (.var 3)) (.slc (.var 0) (.var 2) .non)) (.cons (.bin .Add (.var 6) (.var 7)) (.cons (.bin .Add (.bin .Add (.var 6) (.var 3)) (.var 7)) .nil))))) (.cons (.asg (.nm 9) (.bin .Add (.bin .Add (.slc (.var 4) .non (.var 5)) (.slc (.var 4) (.var 5) (.bin .Add (.var 5) (.cst (.int 1))))) (.slc (.var 4) (.var 5) .non))) (.cons (.app 8 (.mt .join (.cst (.str "\n")) (.cons (.var 9) .nil))) (.cons (.app 8 (.mt .join (.cst (.str "\n")) (.cons (.bin .Add (.slc (.var 4) .non (.var 5)) (.slc (.var 4) (.bin .Add (.var 5) (.cst (.int 1))) .non)) .nil))) (.cons (.ret (.idx (.var 8) (.bin .Mod (.bin .FloorDiv (.var 1) (.cst (.int 1048576))) (.cst (.int 5))))) .nil))))))))))⟩
def f__law_read : Fn := ⟨3, ["kind", "lot", "text"],
  (.cons (.ife (.cmp .Eq (.var 0) (.cst (.int 0))) (.cons (.ret (.fn 83 (.cons (.var 2) .nil))) .nil) .nil) (.cons (.ret (.fn 85 (.cons (.var 1) (.cons (.cst (.int 6)) (.cons (.var 2) .nil))))) .nil))⟩
def f__law_good : Fn := ⟨4, ["kind", "lot", "thing", "text"],
  (.cons (.ife (.cmp .Eq (.var 0) (.cst (.int 0))) (.cons (.ret (.and (.cmp .Is (.fn 5 (.cons (.var 2) .nil)) (.cst (.bool true))) (.one (.cmp .Eq (.fn 77 (.cons (.var 2) .nil)) (.var 3))))) .nil) .nil) (.cons (.ret (.and (.cmp .Is (.fn 6 (.cons (.var 1) (.cons (.cst (.int 6)) (.cons (.var 2) .nil)))) (.cst (.bool true))) (.one (.cmp .Eq (.fn 78 (.cons (.var 2) .nil)) (.var 3))))) .nil))⟩
end TD
/-! Plain facts about the evaluator, and what the drawing defs answer. -/
namespace TD
open PySem
theorem collect_all {f : PyData → R (Option PyData)} {g : PyData → PyData} : ∀ {l : List PyData}, (∀ x ∈ l, f x = .ok (some (g x))) → collect f l = .ok (l.map g)
  | [], _ => rfl
  | x :: l, h => by
    show (f x >>= fun r => collect f l >>= fun rs => R.ok (match r with | some y => y :: rs | none => rs)) = _
    rw [h x List.mem_cons_self, collect_all fun y hy => h y (List.mem_cons_of_mem _ hy)]
    rfl
theorem collect_fil {f : PyData → R (Option PyData)} {p : PyData → Bool} {g : PyData → PyData} : ∀ {l : List PyData}, (∀ x ∈ l, f x = .ok (cond (p x) (some (g x)) none)) → collect f l = .ok ((l.filter p).map g)
  | [], _ => rfl
  | x :: l, h => by
    show (f x >>= fun r => collect f l >>= fun rs => R.ok (match r with | some y => y :: rs | none => rs)) = _
    rw [h x List.mem_cons_self, collect_fil fun y hy => h y (List.mem_cons_of_mem _ hy), List.filter_cons]
    cases p x <;> rfl
theorem callN_at {tb : Tab} {f n : Nat} {fn : Fn} (h : tb f = some fn) (ds : List PyData) : callN tb (n + 1) f ds = run ⟨callN tb n, true⟩ fn ds := by
  show (match tb f with | some fn => run ⟨callN tb n, true⟩ fn ds | none => R.bad) = _
  rw [h]
theorem gd_t {α : Type} {b : Bool} {r : R α} (h : b = true) : gd b r = r := by
  rw [h]
  rfl
/-! ### drawn numbers -/
def drawnF (a k : Int) : Int :=
  let d := (a + 104729 * k + 17) * 69621 % 2147483647
  (d * d + 3 * d + k) % 2147483629
theorem drawnF_lt (a k : Int) : 0 ≤ drawnF a k ∧ drawnF a k < 2147483629 := ⟨Int.emod_nonneg _ (by decide), Int.emod_lt_of_pos _ (by decide)⟩
theorem mul_ok {i j : Int} (h : (-(2 ^ 64) < i ∧ i < 2 ^ 64) ∨ (-(2 ^ 64) < j ∧ j < 2 ^ 64)) : opMul (.int i) (.int j) = .ok (.int (i * j)) := gd_t (decide_eq_true h)
theorem mod_ok {i j : Int} (h : 0 < j) : opMod (.int i) (.int j) = .ok (.int (i % j)) := gd_t (decide_eq_true h)
theorem div_ok {i j : Int} (h : 0 < j ∧ j < 1073741824) : opDiv (.int i) (.int j) = .ok (.int (i / j)) := gd_t (decide_eq_true h)
/-! ### one step after another -/
section
variable {c : C} {ρ ρ' ρ1 : Env} {a b d e : E} {x y z p q : PyData}
theorem ev_bin {o : Operator} (h1 : ev c ρ a = .ok x) (h2 : ev c ρ b = .ok y) (h3 : binD o x y = .ok z) : ev c ρ (.bin o a b) = .ok z := by
  show (ev c ρ a >>= fun x => ev c ρ b >>= fun y => binD o x y) = _
  rw [h1, h2]
  exact h3
theorem ev_fn {f : Nat} {es : Es} {xs : List PyData} (hn : c.nl = true) (h1 : evs c ρ es = .ok xs) (h2 : c.call f xs = .ok z) : ev c ρ (.fn f es) = .ok z := by
  show (evs c ρ es >>= fun xs => gd c.nl (c.call f xs)) = _
  rw [h1, hn]
  exact h2
theorem evs_c {es : Es} {xs : List PyData} (h1 : ev c ρ e = .ok x) (h2 : evs c ρ es = .ok xs) : evs c ρ (.cons e es) = .ok (x :: xs) := by
  show (ev c ρ e >>= fun x => evs c ρ es >>= fun xs => R.ok (x :: xs)) = _
  rw [h1, h2]
  rfl
theorem ev_tup {es : Es} {xs : List PyData} (h1 : evs c ρ es = .ok xs) : ev c ρ (.tup es) = .ok (.tuple xs) := by
  show (evs c ρ es >>= fun xs => R.ok (PyData.tuple xs)) = _
  rw [h1]
  rfl
theorem ev_lst {es : Es} {xs : List PyData} (h1 : evs c ρ es = .ok xs) : ev c ρ (.lst es) = .ok (.list xs) := by
  show (evs c ρ es >>= fun xs => R.ok (PyData.list xs)) = _
  rw [h1]
  rfl
theorem ev_b1 {k : B} (h1 : ev c ρ a = .ok x) (hn : (c.nl || !needX k x) = true) (h2 : b1D k x = .ok z) : ev c ρ (.b1 k a) = .ok z := by
  show (ev c ρ a >>= fun x => gd (c.nl || !needX k x) (b1D k x)) = _
  rw [h1]
  show gd (c.nl || !needX k x) (b1D k x) = _
  rw [hn]
  exact h2
theorem ev_mt {m : M} {es : Es} {xs : List PyData} (h1 : ev c ρ a = .ok x) (h2 : evs c ρ es = .ok xs) (h3 : mtD m x xs = .ok z) : ev c ρ (.mt m a es) = .ok z := by
  show (ev c ρ a >>= fun x => evs c ρ es >>= fun xs => mtD m x xs) = _
  rw [h1, h2]
  exact h3
theorem ev_idx (h1 : ev c ρ a = .ok x) (h2 : ev c ρ b = .ok y) (h3 : idxD x y = .ok z) : ev c ρ (.idx a b) = .ok z := by
  show (ev c ρ a >>= fun x => ev c ρ b >>= fun y => idxD x y) = _
  rw [h1, h2]
  exact h3
theorem ev_slc {l h : Option Int} {lo hi : E} (h1 : ev c ρ a = .ok x) (h2 : ev c ρ lo = .ok y) (h3 : partD (isNon lo) y = .ok l) (h4 : ev c ρ hi = .ok p) (h5 : partD (isNon hi) p = .ok h) (h6 : slcD x l h = .ok z) : ev c ρ (.slc a lo hi) = .ok z := by
  show (ev c ρ a >>= fun x => ev c ρ lo >>= fun y => partD (isNon lo) y >>= fun l => ev c ρ hi >>= fun p => partD (isNon hi) p >>= fun h => slcD x l h) = _
  rw [h1, h2]
  show (partD (isNon lo) y >>= fun l => ev c ρ hi >>= fun p => partD (isNon hi) p >>= fun h => slcD x l h) = _
  rw [h3, h4]
  show (partD (isNon hi) p >>= fun h => slcD x l h) = _
  rw [h5]
  exact h6
theorem ev_cmpE {o : CmpOp} {k : Bool} (h1 : ev c ρ a = .ok x) (h2 : ev c ρ b = .ok y) (h3 : cmpB o x y = .ok k) : ev c ρ (.cmp o a b) = .ok (.bool k) := by
  show (ev c ρ a >>= fun x => ev c ρ b >>= fun y => cmpB o x y >>= fun k => R.ok (PyData.bool k)) = _
  rw [h1, h2]
  show (cmpB o x y >>= fun k => R.ok (PyData.bool k)) = _
  rw [h3]
  rfl
theorem ev_andT (h1 : ev c ρ a = .ok (.bool true)) (h2 : ev c ρ b = .ok z) : ev c ρ (.and a b) = .ok z := by
  show (ev c ρ a >>= fun x => boolD x >>= fun k => match k with | true => ev c ρ b | false => R.ok (PyData.bool false)) = _
  rw [h1]
  exact h2
theorem ev_andF (h1 : ev c ρ a = .ok (.bool false)) : ev c ρ (.and a b) = .ok (.bool false) := by
  show (ev c ρ a >>= fun x => boolD x >>= fun k => match k with | true => ev c ρ b | false => R.ok (PyData.bool false)) = _
  rw [h1]
  rfl
theorem ev_orT (h1 : ev c ρ a = .ok (.bool true)) : ev c ρ (.or a b) = .ok (.bool true) := by
  show (ev c ρ a >>= fun x => boolD x >>= fun k => match k with | true => R.ok (PyData.bool true) | false => ev c ρ b) = _
  rw [h1]
  rfl
theorem ev_orF (h1 : ev c ρ a = .ok (.bool false)) (h2 : ev c ρ b = .ok z) : ev c ρ (.or a b) = .ok z := by
  show (ev c ρ a >>= fun x => boolD x >>= fun k => match k with | true => R.ok (PyData.bool true) | false => ev c ρ b) = _
  rw [h1]
  exact h2
theorem ev_one (h : ev c ρ a = .ok z) : ev c ρ (.one a) = .ok z := h
/-- a comprehension, each turn's answer told -/
theorem ev_cmp0 {t : T} {it : I} {l : List PyData} {g : PyData → PyData} (h1 : evi c ρ it = .ok (false, l)) (h2 : ∀ x ∈ l, ∃ ρ', bindT t x (wipeE ρ t.slots) = .ok ρ' ∧ ev c ρ' a = .ok (g x)) (h3 : l.length ≤ SZ) : ev c ρ (.cmp0 a t it) = .ok (.list (l.map g)) := by
  show (evi c ρ it >>= fun p => collect (fun x => do
      let ρ' ← bindT t x (wipeE ρ t.slots)
      let y ← ev (if p.1 then c.lock else c) ρ' a
      R.ok (some y)) p.2 >>= fun xs => gd (decide (p.2.length ≤ SZ)) (R.ok (PyData.list xs))) = _
  rw [h1]
  show (collect (fun x => do
      let ρ' ← bindT t x (wipeE ρ t.slots)
      let y ← ev c ρ' a
      R.ok (some y)) l >>= fun xs => gd (decide (l.length ≤ SZ)) (R.ok (PyData.list xs))) = _
  rw [collect_all (g := g) fun x hx => ?_, decide_eq_true h3]
  · rfl
  · obtain ⟨ρ', e1, e2⟩ := h2 x hx
    rw [e1]
    show (ev c ρ' a >>= fun y => R.ok (some y)) = _
    rw [e2]
    rfl
theorem ev_cmp1 {t : T} {it : I} {l : List PyData} {g : PyData → PyData} {k : PyData → Bool} (h1 : evi c ρ it = .ok (false, l)) (h2 : ∀ x ∈ l, ∃ ρ', bindT t x (wipeE ρ t.slots) = .ok ρ' ∧ ev c ρ' b = .ok (.bool (k x)) ∧ (k x = true → ev c ρ' a = .ok (g x))) (h3 : l.length ≤ SZ) : ev c ρ (.cmp1 a t it b) = .ok (.list ((l.filter k).map g)) := by
  show (evi c ρ it >>= fun p => collect (fun x => do
      let ρ' ← bindT t x (wipeE ρ t.slots)
      match ← boolD (← ev (if p.1 then c.lock else c) ρ' b) with
      | true => do R.ok (some (← ev (if p.1 then c.lock else c) ρ' a))
      | false => R.ok none) p.2 >>= fun xs => gd (decide (p.2.length ≤ SZ)) (R.ok (PyData.list xs))) = _
  rw [h1]
  show (collect (fun x => do
      let ρ' ← bindT t x (wipeE ρ t.slots)
      match ← boolD (← ev c ρ' b) with
      | true => do R.ok (some (← ev c ρ' a))
      | false => R.ok none) l >>= fun xs => gd (decide (l.length ≤ SZ)) (R.ok (PyData.list xs))) = _
  rw [collect_fil (g := g) (p := k) fun x hx => ?_, decide_eq_true h3]
  · rfl
  · obtain ⟨ρ', e1, e2, e3⟩ := h2 x hx
    rw [e1]
    show (ev c ρ' b >>= fun q => boolD q >>= fun q => match q with | true => (ev c ρ' a >>= fun y => R.ok (some y)) | false => R.ok none) = _
    rw [e2]
    cases q : k x with
    | false => rfl
    | true =>
      show (ev c ρ' a >>= fun y => R.ok (some y)) = _
      rw [e3 q]
      rfl
theorem it_val {l : List PyData} (h1 : ev c ρ a = .ok x) (h2 : dictKeys x = none) (h3 : walkD x = .ok l) : evi c ρ (.val a) = .ok (false, l) := by
  show (ev c ρ a >>= fun d => match dictKeys d with | some ks => gd (c.nl && isVar a) (R.ok (true, ks)) | none => walkD d >>= fun l => R.ok (false, l)) = _
  rw [h1]
  show (match dictKeys x with | some ks => gd (c.nl && isVar a) (R.ok (true, ks)) | none => walkD x >>= fun l => R.ok (false, l)) = _
  rw [h2]
  show (walkD x >>= fun l => R.ok (false, l)) = _
  rw [h3]
  rfl
theorem it_rng {n : Int} (h1 : ev c ρ a = .ok (.int n)) (hn : -1000000 ≤ n ∧ n ≤ 1000000) : evi c ρ (.rng1 a) = .ok (false, (List.range n.toNat).map fun (k : Nat) => .int (k : Int)) := by
  show (ev c ρ a >>= fun d => intOf d >>= fun i => rngD 0 i >>= fun l => R.ok (false, l)) = _
  rw [h1]
  show (rngD 0 n >>= fun l => R.ok (false, l)) = _
  unfold rngD
  rw [decide_eq_true (by omega)]
  show R.ok (false, (List.range (n - 0).toNat).map fun (k : Nat) => PyData.int (0 + (k : Int))) = _
  rw [Int.sub_zero]
  congr 3
  funext k
  rw [Int.zero_add]
theorem it_enm {l : List PyData} (h1 : ev c ρ a = .ok x) (h3 : seqD x = .ok l) : evi c ρ (.enm a) = .ok (false, enmD l) := by
  show (ev c ρ a >>= fun d => seqD d >>= fun l => R.ok (false, enmD l)) = _
  rw [h1]
  show (seqD x >>= fun l => R.ok (false, enmD l)) = _
  rw [h3]
  rfl
theorem it_zip {l m : List PyData} (h1 : ev c ρ a = .ok x) (h2 : ev c ρ b = .ok y) (h3 : seqD x = .ok l) (h4 : seqD y = .ok m) : evi c ρ (.zip a b) = .ok (false, zipD l m) := by
  show (ev c ρ a >>= fun d => ev c ρ b >>= fun e => seqD d >>= fun l => seqD e >>= fun m => R.ok (false, zipD l m)) = _
  rw [h1, h2]
  show (seqD x >>= fun l => seqD y >>= fun m => R.ok (false, zipD l m)) = _
  rw [h3, h4]
  rfl
/-! statements -/
theorem xs_nx {s : S} {r : Ss} {fl : R Fl} (h1 : ex c ρ s = .ok (.nx ρ')) (h2 : exs c ρ' r = fl) : exs c ρ (.cons s r) = fl := by
  show (ex c ρ s >>= fun fl => match fl with | .nx ρ' => exs c ρ' r | .ct ρ' => R.ok (Fl.ct ρ') | .rt d => R.ok (Fl.rt d)) = _
  rw [h1]
  exact h2
theorem xs_rt {s : S} {r : Ss} (h1 : ex c ρ s = .ok (.rt x)) : exs c ρ (.cons s r) = .ok (.rt x) := by
  show (ex c ρ s >>= fun fl => match fl with | .nx ρ' => exs c ρ' r | .ct ρ' => R.ok (Fl.ct ρ') | .rt d => R.ok (Fl.rt d)) = _
  rw [h1]
  rfl
theorem xs_ct {s : S} {r : Ss} (h1 : ex c ρ s = .ok (.ct ρ')) : exs c ρ (.cons s r) = .ok (.ct ρ') := by
  show (ex c ρ s >>= fun fl => match fl with | .nx ρ' => exs c ρ' r | .ct ρ' => R.ok (Fl.ct ρ') | .rt d => R.ok (Fl.rt d)) = _
  rw [h1]
  rfl
theorem x_ret (h1 : ev c (frz (gens e) ρ) e = .ok x) : ex c ρ (.ret e) = .ok (.rt x) := by
  show (evT c (frz (gens e) ρ) e >>= fun d => R.ok (Fl.rt d)) = _
  rw [evT_ok h1]
  rfl
theorem x_asg {i : Nat} (h1 : ev c (frz (gens e) ρ) e = .ok x) (h2 : Env.put (frz (gens e) ρ) i (ownOf e x) x = .ok ρ') : ex c ρ (.asg (.nm i) e) = .ok (.nx ρ') := by
  show (evT c (frz (gens e) ρ) e >>= fun d => Env.put (frz (gens e) ρ) i (ownOf e d) d >>= fun ρ' => R.ok (Fl.nx ρ')) = _
  rw [evT_ok h1]
  show (Env.put (frz (gens e) ρ) i (ownOf e x) x >>= fun ρ' => R.ok (Fl.nx ρ')) = _
  rw [h2]
  rfl
theorem x_if {k : Bool} {s1 s2 : Ss} {fl : R Fl} (h1 : ev c (frz (gens e) ρ) e = .ok (.bool k)) (h2 : exs c (frz (gens e) ρ) (cond k s1 s2) = fl) : ex c ρ (.ife e s1 s2) = fl := by
  show (nE (ev c (frz (gens e) ρ) e) >>= fun d => boolD d >>= fun k => match k with | true => exs c (frz (gens e) ρ) s1 | false => exs c (frz (gens e) ρ) s2) = _
  rw [nE_of h1]
  cases k <;> exact h2
theorem x_app {i : Nat} (h1 : ev c (frz (gens e) ρ) e = .ok x) (h2 : appSlot (frz (gens e) ρ) i [x] = .ok ρ') : ex c ρ (.app i e) = .ok (.nx ρ') := by
  show (nE (ev c (frz (gens e) ρ) e) >>= fun d => appSlot (frz (gens e) ρ) i [d] >>= fun ρ' => R.ok (Fl.nx ρ')) = _
  rw [nE_of h1]
  show (appSlot (frz (gens e) ρ) i [x] >>= fun ρ' => R.ok (Fl.nx ρ')) = _
  rw [h2]
  rfl
theorem x_seti {i : Nat} {k : E} (h1 : ev c (frz (gens k ++ gens e) ρ) e = .ok x) (h2 : ev c (frz (gens k ++ gens e) ρ) k = .ok y) (h3 : setSlot (frz (gens k ++ gens e) ρ) i y x = .ok ρ') : ex c ρ (.seti i k e) = .ok (.nx ρ') := by
  show (nE (ev c (frz (gens k ++ gens e) ρ) e) >>= fun x => nE (ev c (frz (gens k ++ gens e) ρ) k) >>= fun y => setSlot (frz (gens k ++ gens e) ρ) i y x >>= fun ρ' => R.ok (Fl.nx ρ')) = _
  rw [nE_of h1, nE_of h2]
  show (setSlot (frz (gens k ++ gens e) ρ) i y x >>= fun ρ' => R.ok (Fl.nx ρ')) = _
  rw [h3]
  rfl
theorem eviT_ok {it : I} {p : Bool × List PyData} (h : evi c ρ it = .ok p) : eviT c ρ it = .ok p := by
  cases it with
  | enm e =>
    obtain ⟨d, h1, h2⟩ := ok_of_bind (show (ev c ρ e >>= fun d => seqD d >>= fun l => R.ok (false, enmD l)) = .ok p from h)
    obtain ⟨l, h3, h4⟩ := ok_of_bind h2
    show (evT c ρ e >>= fun d => nE (seqD d) >>= fun l => R.ok (false, enmD l)) = _
    rw [evT_ok h1]
    show (nE (seqD d) >>= fun l => R.ok (false, enmD l)) = _
    rw [nE_of h3]
    exact h4
  | _ => exact nE_of h
theorem x_for {t : T} {it : I} {bd : Ss} {l : List PyData} {fl : R Fl} (h1 : evi c (frz (gensI it) ρ) it = .ok (false, l)) (h2 : loop (fun x ρ' => do let ρ1 ← bindT t x ρ'; exs c ρ1 bd) (frz (gensI it) ρ) l (frz (gensI it) ρ) = fl) : ex c ρ (.fore t it bd) = fl := by
  show (eviT c (frz (gensI it) ρ) it >>= fun p => cond p.1 (nE (loop (fun x ρ' => do let ρ1 ← bindT t x ρ'; exs c.lock ρ1 bd) (frz (gensI it) ρ) p.2 (frz (gensI it) ρ))) (loop (fun x ρ' => do let ρ1 ← bindT t x ρ'; exs c ρ1 bd) (frz (gensI it) ρ) p.2 (frz (gensI it) ρ))) = _
  rw [eviT_ok h1]
  exact h2
/-- a loop that goes through: J tells the environment by the items that are done -/
theorem loop_inv {f : PyData → Env → R Fl} {ρ0 : Env} (J : List PyData → Env → Prop) : ∀ {l : List PyData} (done : List PyData) {ρ : Env}, J done ρ → (∀ dn x ρ, (∃ r, dn ++ x :: r = done ++ l) → J dn ρ → ∃ ρ', (f x ρ = .ok (.nx ρ') ∨ f x ρ = .ok (.ct ρ')) ∧ J (dn ++ [x]) (restr ρ0 ρ')) → ∃ ρ', loop f ρ0 l ρ = .ok (.nx ρ') ∧ J (done ++ l) ρ'
  | [], done, ρ, h, _ => ⟨ρ, rfl, by rw [List.append_nil]; exact h⟩
  | x :: l, done, ρ, h, st => by
    obtain ⟨ρ', h1, h2⟩ := st done x ρ ⟨l, rfl⟩ h
    obtain ⟨ρ2, h3, h4⟩ := loop_inv J (l := l) (done ++ [x]) h2 fun dn y r hr hj => st dn y r (by obtain ⟨t, e⟩ := hr; exact ⟨t, by rw [e, List.append_assoc]; rfl⟩) hj
    refine ⟨ρ2, ?_, by rw [List.append_assoc] at h4; exact h4⟩
    show (f x ρ >>= fun fl => match fl with | .nx ρ' => loop f ρ0 l (restr ρ0 ρ') | .ct ρ' => loop f ρ0 l (restr ρ0 ρ') | .rt v => R.ok (Fl.rt v)) = _
    rcases h1 with h1 | h1
    · rw [h1]
      exact h3
    · rw [h1]
      exact h3
theorem run_rt {fn : Fn} {ds : List PyData} (h0 : ds.length = fn.np) (h1 : exs c (startE fn.names.length ds) fn.body = .ok (.rt x)) : run c fn ds = .ok x := by
  show gd (decide (ds.length = fn.np)) (exs c (startE fn.names.length ds) fn.body >>= fun fl => match fl with | .rt d => R.ok d | .nx _ => R.ok PyData.none | .ct _ => R.bad) = _
  rw [decide_eq_true h0, h1]
  rfl
end
theorem drawn_ok {tb : Tab} (h : tb 7 = some f__law_drawn) (n : Nat) (a k : Int) : callN tb (n + 1) 7 [.int a, .int k] = .ok (.int (drawnF a k)) := by
  rw [callN_at h]
  have d0 : ∀ j : Int, (-(2 ^ 64) < (a + 104729 * k + 17) * 69621 % 2147483647 ∧ (a + 104729 * k + 17) * 69621 % 2147483647 < 2 ^ 64) ∨ (-(2 ^ 64) < j ∧ j < 2 ^ 64) := fun j => by
    have h1 := Int.emod_nonneg ((a + 104729 * k + 17) * 69621) (show (2147483647 : Int) ≠ 0 by decide)
    have h2 := Int.emod_lt_of_pos ((a + 104729 * k + 17) * 69621) (show (0 : Int) < 2147483647 by decide)
    exact .inl ⟨by omega, by omega⟩
  refine run_rt rfl (xs_nx (x_asg (ev_bin (ev_bin (ev_bin (ev_bin rfl (ev_bin rfl rfl (mul_ok (.inl ⟨by decide, by decide⟩))) rfl) rfl rfl) rfl (mul_ok (.inr ⟨by decide, by decide⟩))) rfl (mod_ok (by decide))) rfl) (xs_rt (x_ret ?_)))
  exact ev_bin (ev_bin (ev_bin (ev_bin rfl rfl (mul_ok (d0 _))) (ev_bin rfl rfl (mul_ok (.inl ⟨by decide, by decide⟩))) rfl) rfl rfl) rfl (mod_ok (by decide))
end TD
/-! Numbers, beats. -/
namespace TD
open PySem
def numD (ns : List Int) : PyData := .tuple (ns.map PyData.int)
def numF (a most : Int) : List Int := (List.range (1 + a / 16 % most).toNat).map fun (k : Nat) => 1 + drawnF a (k : Int) / 16 % 4
theorem number_ok {tb : Tab} (h7 : tb 7 = some f__law_drawn) (h8 : tb 8 = some f__law_number) (n : Nat) (a most : Int) (hm : 0 < most) (hm2 : most ≤ 1000) : callN tb (n + 2) 8 [.int a, .int most] = .ok (numD (numF a most)) := by
  rw [callN_at h8]
  have b1 := Int.emod_nonneg (a / 16) (show most ≠ 0 by omega)
  have b2 := Int.emod_lt_of_pos (a / 16) hm
  refine Eq.trans (run_rt rfl (xs_rt (x_ret (ev_b1 (ev_cmp0 (g := fun x => match x with | .int k => .int (1 + drawnF a k / 16 % 4) | x => x) (it_rng (n := 1 + a / 16 % most) (ev_bin rfl (ev_bin (ev_bin rfl rfl (div_ok ⟨by decide, by decide⟩)) rfl (mod_ok hm)) rfl) ⟨by omega, by omega⟩) ?t ?l) rfl rfl)))) ?_
  case t =>
    intro x hx
    obtain ⟨k, _, rfl⟩ := List.mem_map.mp hx
    exact ⟨_, rfl, ev_bin rfl (ev_bin (ev_bin (ev_fn rfl (evs_c rfl (evs_c rfl rfl)) (drawn_ok h7 n a k)) rfl (div_ok ⟨by decide, by decide⟩)) rfl (mod_ok (by decide))) rfl⟩
  case l =>
    rw [List.length_map, List.length_range]
    show (1 + a / 16 % most).toNat ≤ 16000000
    omega
  · unfold numD numF
    rw [List.map_map, List.map_map]
    rfl
theorem numF_ok (a most : Int) (hm : 0 < most) : (numF a most).length = (1 + a / 16 % most).toNat ∧ (∀ c ∈ numF a most, 1 ≤ c ∧ c ≤ 4) ∧ 1 ≤ (numF a most).length ∧ (numF a most).length ≤ most.toNat := by
  have b1 := Int.emod_nonneg (a / 16) (show most ≠ 0 by omega)
  have b2 := Int.emod_lt_of_pos (a / 16) hm
  have hl : (numF a most).length = (1 + a / 16 % most).toNat := by
    unfold numF
    rw [List.length_map, List.length_range]
  refine ⟨hl, fun c hc => ?_, by omega, by omega⟩
  obtain ⟨k, _, rfl⟩ := List.mem_map.mp hc
  have e1 := Int.emod_nonneg (drawnF a k / 16) (show (4 : Int) ≠ 0 by decide)
  have e2 := Int.emod_lt_of_pos (drawnF a k / 16) (show (0 : Int) < 4 by decide)
  omega
/-! ### texts -/
def sT (l : List Nat) : Str := ⟨l.toArray⟩
theorem chs_sT (l : List Nat) : chs (sT l) = l := by simp [chs, sT]
theorem len_sT (l : List Nat) : (sT l).length = l.length := by simp [sT, Str.length]
theorem sT_inj {l m : List Nat} (h : sT l = sT m) : l = m := by
  have := congrArg chs h
  rw [chs_sT, chs_sT] at this
  exact this
theorem tx_sT (l : List Nat) : tx l = .str (sT l) := rfl
theorem sT_app (l m : List Nat) : sT l ++ sT m = sT (l ++ m) := by
  show (⟨l.toArray ++ m.toArray⟩ : Str) = ⟨(l ++ m).toArray⟩
  rw [List.append_toArray]
def joinN (sep : List Nat) : List (List Nat) → List Nat
  | [] => []
  | [x] => x
  | x :: y :: r => x ++ sep ++ joinN sep (y :: r)
theorem join_sT (sep : List Nat) : ∀ xs : List (List Nat), Str.join (sT sep) (xs.map sT) = sT (joinN sep xs)
  | [] => rfl
  | [x] => rfl
  | x :: y :: r => by
    show sT x ++ sT sep ++ Str.join (sT sep) ((y :: r).map sT) = sT (x ++ sep ++ joinN sep (y :: r))
    rw [join_sT sep (y :: r), sT_app, sT_app]
theorem signs_sT (l : List Nat) : PyProof.Rows.signs (sT l) = (l.map fun c => [c]).map sT := by
  rw [List.map_map]
  unfold PyProof.Rows.signs sT
  rfl
theorem txts_sT : ∀ xs : List (List Nat), txtsOf (xs.map tx) = some (xs.map sT)
  | [] => rfl
  | x :: r => by
    show (txtsOf (r.map tx)).map (sT x :: ·) = _
    rw [txts_sT r]
    rfl
theorem lens_sT (xs : List (List Nat)) : (((xs.map sT).map fun s : Str => s.length)).sum = (xs.map List.length).sum := by
  rw [List.map_map]
  have : (fun s : Str => s.length) ∘ sT = List.length := funext fun x => len_sT x
  rw [this]
/-- sep.join(text) -/
theorem join_txt (sep l : List Nat) (h : l.length + l.length * sep.length ≤ SZ) : mtD .join (tx sep) [tx l] = .ok (tx (joinN sep (l.map fun c => [c]))) := by
  show gd (decide ((sT l).length + (sT l).length * (sT sep).length ≤ SZ)) (R.ok (PyData.str (Str.join (sT sep) (PyProof.Rows.signs (sT l))))) = _
  rw [len_sT, len_sT, decide_eq_true h, signs_sT, join_sT]
  rfl
/-- sep.join(list of texts) -/
theorem join_lst (sep : List Nat) (xs : List (List Nat)) (h : (xs.map List.length).sum + xs.length * sep.length ≤ SZ) : mtD .join (tx sep) [.list (xs.map tx)] = .ok (tx (joinN sep xs)) := by
  show (op (txtsOf (xs.map tx)) >>= fun ls => gd (decide ((ls.map (·.length)).sum + ls.length * (sT sep).length ≤ SZ)) (R.ok (PyData.str (Str.join (sT sep) ls)))) = _
  rw [txts_sT]
  show gd (decide (((xs.map sT).map fun s : Str => s.length).sum + (xs.map sT).length * (sT sep).length ≤ SZ)) (R.ok (PyData.str (Str.join (sT sep) (xs.map sT)))) = _
  rw [lens_sT, List.length_map, len_sT, decide_eq_true h, join_sT]
  rfl
theorem s_0 : ("0" : Str) = sT [48] := by rfl
theorem s_1 : ("1" : Str) = sT [49] := by rfl
theorem s_000 : ("000" : Str) = sT [48, 48, 48] := by rfl
theorem s_e : ("" : Str) = sT [] := by rfl
/-! ### beats -/
def beatL (c : Int) : List Nat := joinN [48] ((rep c [49]).map fun s => [s])
def beatsL (ns : List Int) : List Nat := joinN [48, 48, 48] (ns.map beatL)
theorem rep_len (c : Int) (l : List Nat) : (rep c l).length = c.toNat * l.length := by
  unfold rep
  rw [List.length_flatten, List.map_replicate, List.sum_replicate_nat]
theorem joinN_len (sep : List Nat) : ∀ xs : List (List Nat), (joinN sep xs).length ≤ (xs.map List.length).sum + xs.length * sep.length
  | [] => Nat.zero_le _
  | [x] => by
    simp only [joinN, List.map_cons, List.map_nil, List.sum_cons, List.sum_nil]
    omega
  | x :: y :: r => by
    have := joinN_len sep (y :: r)
    simp only [joinN, List.length_append, List.map_cons, List.sum_cons, List.length_cons, Nat.succ_mul] at this ⊢
    omega
theorem ones_sum : ∀ l : List Nat, ((l.map fun s => [s]).map List.length).sum = l.length
  | [] => rfl
  | x :: r => by
    rw [List.map_cons, List.map_cons, List.sum_cons, ones_sum r, List.length_cons]
    show 1 + r.length = r.length + 1
    omega
theorem beatL_len (c : Int) : (beatL c).length ≤ 2 * c.toNat := by
  have := joinN_len [48] ((rep c [49]).map fun s => [s])
  rw [ones_sum, List.length_map, rep_len] at this
  unfold beatL
  simp at this ⊢
  omega
theorem sum_le {b : Nat} : ∀ {l : List Nat}, (∀ x ∈ l, x ≤ b) → l.sum ≤ l.length * b
  | [], _ => by simp
  | x :: r, h => by
    have h1 := h x List.mem_cons_self
    have h2 := sum_le fun y hy => h y (List.mem_cons_of_mem _ hy)
    simp only [List.sum_cons, List.length_cons, Nat.succ_mul]
    omega
/-- counts that are not too many nor too great -/
def small (ns : List Int) : Prop := ns.length ≤ 1000 ∧ ∀ c ∈ ns, 0 ≤ c ∧ c ≤ 1000
theorem beatsL_len {ns : List Int} (h : small ns) : (beatsL ns).length ≤ 2003 * ns.length := by
  have h1 := joinN_len [48, 48, 48] (ns.map beatL)
  have h2 : ((ns.map beatL).map List.length).sum ≤ ns.length * 2000 := by
    have := sum_le (b := 2000) (l := (ns.map beatL).map List.length) fun x hx => by
      obtain ⟨y, hy, rfl⟩ := List.mem_map.mp hx
      obtain ⟨c, hc, rfl⟩ := List.mem_map.mp hy
      have h3 := beatL_len c
      have h4 := h.2 c hc
      omega
    simpa using this
  rw [List.length_map] at h1
  unfold beatsL
  have h3 : ([48, 48, 48] : List Nat).length = 3 := rfl
  rw [h3] at h1
  omega
theorem beats_ok {tb : Tab} (h : tb 20 = some f_beats) (n : Nat) {ns : List Int} (hs : small ns) : callN tb (n + 1) 20 [numD ns] = .ok (tx (beatsL ns)) := by
  rw [callN_at h]
  have hlen := hs.1
  refine Eq.trans (run_rt rfl (xs_rt (x_ret (ev_mt rfl (evs_c (ev_cmp0 (g := fun x => match x with | .int k => tx (beatL k) | x => x) (it_val rfl rfl rfl) ?t ?l) rfl) (z := tx (beatsL ns)) ?j)))) rfl
  case t =>
    intro x hx
    obtain ⟨k, hk, rfl⟩ := List.mem_map.mp hx
    have hb := hs.2 k hk
    refine ⟨_, rfl, ev_mt rfl (evs_c (ev_bin (z := tx (rep k [49])) rfl rfl ?_) rfl) ?_⟩
    · exact gd_t (decide_eq_true ⟨by omega, by omega, by show 1 * k.toNat ≤ 16000000; omega⟩)
    · refine join_txt [48] (rep k [49]) ?_
      rw [rep_len]
      show k.toNat * 1 + k.toNat * 1 * 1 ≤ 16000000
      omega
  case l =>
    rw [List.length_map]
    show _ ≤ 16000000
    omega
  case j =>
    have e : ((ns.map PyData.int).map fun x => match x with | .int k => tx (beatL k) | x => x) = (ns.map beatL).map tx := by
      rw [List.map_map, List.map_map]
      rfl
    rw [e]
    refine join_lst [48, 48, 48] (ns.map beatL) ?_
    have h2 : ((ns.map beatL).map List.length).sum ≤ ns.length * 2000 := by
      have := sum_le (b := 2000) (l := (ns.map beatL).map List.length) fun x hx => by
        obtain ⟨y, hy, rfl⟩ := List.mem_map.mp hx
        obtain ⟨c, hc, rfl⟩ := List.mem_map.mp hy
        have h3 := beatL_len c
        have h4 := hs.2 c hc
        omega
      simpa using this
    rw [List.length_map]
    show _ + ns.length * 3 ≤ 16000000
    omega
end TD
/-! Lots, calls, what is heard. -/
namespace TD
open PySem
abbrev Box := Str × List Int
def boxD (b : Box) : PyData := .tuple [.str b.1, numD b.2]
def lotD (lot : List Box) : PyData := .tuple (lot.map boxD)
def callD (c : Str × Int) : PyData := .tuple [.str c.1, .int c.2]
def callsD (cs : List (Str × Int)) : PyData := .tuple (cs.map callD)
def numOk (ns : List Int) : Prop := 1 ≤ ns.length ∧ ns.length ≤ 3 ∧ ∀ c ∈ ns, 1 ≤ c ∧ c ≤ 4
structure LotOk (lot : List Box) : Prop where
  nd : (lot.map (·.1)).Nodup
  nums : ∀ b ∈ lot, numOk b.2
theorem numOk.small {ns : List Int} (h : numOk ns) : small ns := ⟨by have := h.2.1; omega, fun c hc => by have := h.2.2 c hc; omega⟩
/-! ### dicts of lots -/
theorem pairs_lot : ∀ lot : List Box, pairsOf (lot.map boxD) = some (lot.map fun b => (PyData.str b.1, numD b.2))
  | [] => rfl
  | b :: r => by
    show (pairOf (boxD b)).bind (fun p => (pairsOf (r.map boxD)).map (p :: ·)) = _
    rw [pairs_lot r]
    rfl
theorem dPut_new {kvs : List (PyData × PyData)} {k v : PyData} (h : ∀ p ∈ kvs, keyEq p.1 k = false) : dPut kvs k v = kvs ++ [(k, v)] := by
  unfold dPut
  rw [if_neg]
  intro z
  obtain ⟨p, hp, q⟩ := List.any_eq_true.mp z
  rw [h p hp] at q
  cases q
theorem dict_lot : ∀ (lot done : List Box), (done.map (·.1) ++ lot.map (·.1)).Nodup → (lot.map fun b => (PyData.str b.1, numD b.2)).foldl (fun m p => dPut m p.1 p.2) (done.map fun b => (PyData.str b.1, numD b.2)) = (done ++ lot).map fun b => (PyData.str b.1, numD b.2)
  | [], done, _ => by
    rw [List.append_nil]
    rfl
  | b :: r, done, h => by
    have hn : b.1 ∉ done.map (·.1) := by
      intro hm
      rw [List.map_cons] at h
      have := (List.nodup_append.mp h).2.2 _ hm b.1 List.mem_cons_self
      exact this rfl
    show (r.map fun b => (PyData.str b.1, numD b.2)).foldl (fun m p => dPut m p.1 p.2) (dPut (done.map fun b => (PyData.str b.1, numD b.2)) (.str b.1) (numD b.2)) = _
    rw [dPut_new, show (done.map fun b => (PyData.str b.1, numD b.2)) ++ [(PyData.str b.1, numD b.2)] = ((done ++ [b]).map fun b => (PyData.str b.1, numD b.2)) from by rw [List.map_append]; rfl, dict_lot r (done ++ [b]), List.append_assoc]
    · rfl
    · rw [List.map_append, List.append_assoc]
      exact h
    · intro p hp
      obtain ⟨d, hd, rfl⟩ := List.mem_map.mp hp
      show decide (d.1 = b.1) = false
      exact decide_eq_false fun z => hn (List.mem_map.mpr ⟨d, hd, z⟩)
theorem dictD_lot {lot : List Box} (h : (lot.map (·.1)).Nodup) : b1D .dict (lotD lot) = .ok (.dict (lot.map fun b => (PyData.str b.1, numD b.2))) := by
  show op ((pairsOf (lot.map boxD)).map fun ps => PyData.dict (dictOf ps)) = _
  rw [pairs_lot]
  show R.ok (PyData.dict (dictOf _)) = _
  unfold dictOf
  have := dict_lot lot [] (by simpa using h)
  rw [List.map_nil] at this
  rw [this]
  rfl
theorem dGet_lot : ∀ {lot : List Box} {nm : Str} {ns : List Int}, (lot.map (·.1)).Nodup → (nm, ns) ∈ lot → dGet (lot.map fun b => (PyData.str b.1, numD b.2)) (.str nm) = some (numD ns)
  | b :: r, nm, ns, hn, hm => by
    unfold dGet
    rw [List.map_cons, List.find?_cons]
    rw [List.map_cons, List.nodup_cons] at hn
    by_cases he : b.1 = nm
    · rw [show keyEq (PyData.str b.1) (.str nm) = true from decide_eq_true he]
      rcases List.mem_cons.mp hm with rfl | hm
      · rfl
      · exact absurd (List.mem_map.mpr ⟨_, hm, rfl⟩) (by rw [← he] ; exact hn.1)
    · rw [show keyEq (PyData.str b.1) (.str nm) = false from decide_eq_false he]
      rcases List.mem_cons.mp hm with rfl | hm
      · exact absurd rfl he
      · exact dGet_lot hn.2 hm
theorem number_for_ok {tb : Tab} (h : tb 32 = some f_number_for) (n : Nat) {lot : List Box} {nm : Str} {ns : List Int} (hl : LotOk lot) (hm : (nm, ns) ∈ lot) : callN tb (n + 1) 32 [lotD lot, .str nm] = .ok (numD ns) := by
  rw [callN_at h]
  have hg := dGet_lot hl.nd hm
  refine run_rt rfl (xs_nx (x_if (k := false) (ev_cmpE rfl (ev_b1 rfl rfl (dictD_lot hl.nd)) ?_) rfl) (xs_rt (x_ret (ev_idx (ev_b1 rfl rfl (dictD_lot hl.nd)) rfl ?_))))
  · show notR (gd true (R.ok (dGet _ (.str nm)).isSome)) = _
    rw [hg]
    rfl
  · show gd true (op (dGet _ (.str nm))) = _
    rw [hg]
    rfl
/-! ### times -/
def tapsIn (b : Int) (l : List Nat) : List Int := ((l.zipIdx.filter fun p => p.1 == 49).map fun p => b + (p.2 : Int))
def tapsOf (cs : List (Int × List Nat)) : List Int := cs.flatMap fun c => tapsIn c.1 c.2
theorem mem_tapsIn {b t : Int} {l : List Nat} : t ∈ tapsIn b l ↔ ∃ i : Nat, l[i]? = some 49 ∧ t = b + (i : Int) := by
  unfold tapsIn
  constructor
  · intro h
    obtain ⟨p, hp, rfl⟩ := List.mem_map.mp h
    obtain ⟨h1, h2⟩ := List.mem_filter.mp hp
    have h3 := List.mem_zipIdx_iff_getElem?.mp h1
    have h4 : p.1 = 49 := by simpa using h2
    exact ⟨p.2, by rw [h3, h4], rfl⟩
  · rintro ⟨i, h1, rfl⟩
    exact List.mem_map.mpr ⟨(49, i), List.mem_filter.mpr ⟨List.mem_zipIdx_iff_getElem?.mpr h1, rfl⟩, rfl⟩
theorem mem_tapsOf {cs : List (Int × List Nat)} {t : Int} : t ∈ tapsOf cs ↔ ∃ c ∈ cs, ∃ i : Nat, c.2[i]? = some 49 ∧ t = c.1 + (i : Int) := by
  unfold tapsOf
  rw [List.mem_flatMap]
  constructor
  · rintro ⟨c, hc, h⟩
    exact ⟨c, hc, mem_tapsIn.mp h⟩
  · rintro ⟨c, hc, h⟩
    exact ⟨c, hc, mem_tapsIn.mpr h⟩
/-- the dict of the times ks -/
def timesD (ks : List Int) : List (PyData × PyData) := ks.map fun t => (PyData.int t, PyData.bool true)
theorem times_get : ∀ (ks : List Int) (t : Int), (dGet (timesD ks) (.int t)).isSome = decide (t ∈ ks)
  | [], t => rfl
  | k :: r, t => by
    unfold dGet timesD
    rw [List.map_cons, List.find?_cons]
    by_cases he : k = t
    · rw [show keyEq (PyData.int k) (.int t) = true from decide_eq_true he, decide_eq_true (by rw [he]; exact List.mem_cons_self)]
      rfl
    · rw [show keyEq (PyData.int k) (.int t) = false from decide_eq_false he]
      have := times_get r t
      unfold dGet timesD at this
      rw [this]
      by_cases hm : t ∈ r
      · rw [decide_eq_true hm, decide_eq_true (List.mem_cons_of_mem _ hm)]
      · rw [decide_eq_false hm, decide_eq_false fun z => (List.mem_cons.mp z).elim (fun q => he q.symm) hm]
theorem times_put (ks : List Int) (t : Int) : dPut (timesD ks) (.int t) (.bool true) = timesD (if t ∈ ks then ks else ks ++ [t]) := by
  unfold dPut
  by_cases hm : t ∈ ks
  · rw [if_pos hm, if_pos]
    · unfold timesD
      rw [List.map_map]
      refine List.map_congr_left fun k _ => ?_
      show (if keyEq (PyData.int k) (.int t) = true then (PyData.int k, PyData.bool true) else (PyData.int k, PyData.bool true)) = _
      split <;> rfl
    · exact List.any_eq_true.mpr ⟨(.int t, .bool true), List.mem_map.mpr ⟨t, hm, rfl⟩, decide_eq_true rfl⟩
  · rw [if_neg hm, if_neg]
    · unfold timesD
      rw [List.map_append]
      rfl
    · intro z
      obtain ⟨p, hp, q⟩ := List.any_eq_true.mp z
      obtain ⟨k, hk, rfl⟩ := List.mem_map.mp hp
      have : k = t := of_decide_eq_true q
      exact hm (by rw [← this]; exact hk)
end TD
/-! What is heard. -/
namespace TD
open PySem
theorem eqv_tx (l m : List Nat) : PyData.eqv (tx l) (tx m) = decide (l = m) := by
  show (sT l == sT m) = _
  by_cases h : l = m
  · rw [h, decide_eq_true rfl]
    exact beq_self_eq_true _
  · rw [decide_eq_false h]
    exact beq_eq_false_iff_ne.mpr fun z => h (sT_inj z)
theorem eq_tx (l m : List Nat) : cmpB .Eq (tx l) (tx m) = .ok (decide (l = m)) := by
  show gd true (R.ok (PyData.eqv (tx l) (tx m))) = _
  rw [eqv_tx]
  rfl
theorem ne_tx (l m : List Nat) : cmpB .NotEq (tx l) (tx m) = .ok (!decide (l = m)) := by
  show notR (gd true (R.ok (PyData.eqv (tx l) (tx m)))) = _
  rw [eqv_tx]
  rfl
theorem tx_inj {l m : List Nat} (h : tx l = tx m) : l = m := sT_inj (PyData.str.inj h)
/-! ### the greatest, the least -/
theorem alike_ints (ns : List Int) : sOk (ns.map PyData.int) = true := by
  unfold sOk
  rw [Bool.and_eq_true, Bool.and_eq_true]
  refine ⟨⟨List.all_eq_true.mpr fun x hx => ?_, ?_⟩, List.all_eq_true.mpr fun x hx => List.all_eq_true.mpr fun y hy => ?_⟩
  · obtain ⟨n, _, rfl⟩ := List.mem_map.mp hx
    rfl
  · rw [Bool.or_eq_true, Bool.or_eq_true]
    refine .inl (.inr (List.all_eq_true.mpr fun x hx => ?_))
    obtain ⟨n, _, rfl⟩ := List.mem_map.mp hx
    rfl
  · obtain ⟨n, _, rfl⟩ := List.mem_map.mp hx
    obtain ⟨m, _, rfl⟩ := List.mem_map.mp hy
    rfl
theorem max_ints (n : Int) (ns : List Int) : b1D .max (.list ((n :: ns).map PyData.int)) = .ok (.int (ns.foldl max n)) := by
  show gd (sOk (((n :: ns)).map PyData.int)) (R.ok (PySem.W.maxD (.int n) (ns.map PyData.int))) = _
  rw [alike_ints, PySem.W.maxD_ints]
  rfl
theorem min_ints (n : Int) (ns : List Int) : b1D .min (.list ((n :: ns).map PyData.int)) = .ok (.int (ns.foldl min n)) := by
  show gd (sOk (((n :: ns)).map PyData.int)) (R.ok (PySem.W.minD (.int n) (ns.map PyData.int))) = _
  rw [alike_ints, PySem.W.minD_ints]
  rfl
theorem fmax_ge : ∀ (ns : List Int) (n : Int), n ≤ ns.foldl max n ∧ ∀ x ∈ ns, x ≤ ns.foldl max n
  | [], n => ⟨Int.le_refl _, fun x hx => absurd hx List.not_mem_nil⟩
  | y :: r, n => by
    obtain ⟨h1, h2⟩ := fmax_ge r (max n y)
    have h3 := Int.le_max_left n y
    have h4 := Int.le_max_right n y
    refine ⟨Int.le_trans h3 h1, fun x hx => ?_⟩
    rcases List.mem_cons.mp hx with rfl | hx
    · exact Int.le_trans h4 h1
    · exact h2 x hx
theorem fmax_mem : ∀ (ns : List Int) (n : Int), ns.foldl max n = n ∨ ns.foldl max n ∈ ns
  | [], n => .inl rfl
  | y :: r, n => by
    rcases fmax_mem r (max n y) with h | h
    · show r.foldl max (max n y) = n ∨ r.foldl max (max n y) ∈ y :: r
      rw [h]
      by_cases hle : n ≤ y
      · rw [Int.max_eq_right hle]
        exact .inr List.mem_cons_self
      · rw [Int.max_eq_left (by omega)]
        exact .inl rfl
    · exact .inr (List.mem_cons_of_mem _ h)
/-- the greatest of the times, -1 if there are none -/
def mx (ts : List Int) : Int := ts.foldl max (-1)
theorem fmax_eq {ks ts : List Int} {m n : Int} (h : ∀ t, t ∈ n :: ks ↔ t ∈ m :: ts) : ks.foldl max n = ts.foldl max m := by
  obtain ⟨a1, a2⟩ := fmax_ge ks n
  obtain ⟨b1, b2⟩ := fmax_ge ts m
  have c1 : ks.foldl max n ∈ n :: ks := (fmax_mem ks n).elim (fun e => by rw [e]; exact List.mem_cons_self) fun e => List.mem_cons_of_mem _ e
  have c2 : ts.foldl max m ∈ m :: ts := (fmax_mem ts m).elim (fun e => by rw [e]; exact List.mem_cons_self) fun e => List.mem_cons_of_mem _ e
  have d1 : ks.foldl max n ≤ ts.foldl max m := by
    rcases List.mem_cons.mp ((h _).mp c1) with e | e
    · rw [e]
      exact b1
    · exact b2 _ e
  have d2 : ts.foldl max m ≤ ks.foldl max n := by
    rcases List.mem_cons.mp ((h _).mpr c2) with e | e
    · rw [e]
      exact a1
    · exact a2 _ e
  omega
/-- what is heard of the times ts -/
def hearL (ts : List Int) : List Nat := (List.range (mx ts + 1).toNat).map fun (t : Nat) => if (t : Int) ∈ ts then 49 else 48
theorem hearL_congr {ks ts : List Int} (h : ∀ t, t ∈ ks ↔ t ∈ ts) : hearL ks = hearL ts := by
  unfold hearL
  have e : mx ks = mx ts := fmax_eq fun t => by rw [List.mem_cons, List.mem_cons, h]
  rw [e]
  refine List.map_congr_left fun t _ => ?_
  simp only [h]
/-- the times of calls of a lot -/
def timesOf (lot : List Box) (cs : List (Str × Int)) (t : Int) : Prop := ∃ c ∈ cs, ∃ ns, (c.1, ns) ∈ lot ∧ ∃ i : Nat, (beatsL ns)[i]? = some 49 ∧ t = c.2 + (i : Int)
structure CallsOk (lot : List Box) (cs : List (Str × Int)) : Prop where
  few : cs.length ≤ 100
  box : ∀ c ∈ cs, ∃ ns, (c.1, ns) ∈ lot
  beg : ∀ c ∈ cs, -1000 ≤ c.2 ∧ c.2 ≤ 1000
theorem mem_enm {l : List Nat} {i : Nat} {p : PyData} : p ∈ enmD (l.map fun c => tx [c]) ↔ ∃ (j c : Nat), l[j]? = some c ∧ p = .tuple [.int (j : Int), tx [c]] := by
  unfold enmD
  constructor
  · intro h
    obtain ⟨q, hq, rfl⟩ := List.mem_map.mp h
    have h1 := List.mem_zipIdx_iff_getElem?.mp hq
    rw [List.getElem?_map] at h1
    obtain ⟨c, hc, e⟩ := Option.map_eq_some_iff.mp h1
    exact ⟨q.2, c, hc, by rw [← e]⟩
  · rintro ⟨j, c, hc, rfl⟩
    exact List.mem_map.mpr ⟨(tx [c], j), List.mem_zipIdx_iff_getElem?.mpr (by rw [List.getElem?_map, hc]; rfl), rfl⟩
end TD
/-! heard answers. -/
namespace TD
open PySem
section
variable {tb : Tab}
structure HasH (tb : Tab) : Prop where
  h20 : tb 20 = some f_beats
  h32 : tb 32 = some f_number_for
  h33 : tb 33 = some f_heard
theorem hBody (c : C) (lot cs : PyData) (nm : Str) (b : Int) (ks : List Int) (j k : Nat) (d0 : PyData) (hk : ks.length < 1000000) :
    ∃ ρ', (do let ρ1 ← bindT (.tp [5, 6]) (.tuple [.int (j : Int), tx [k]]) [some (0, lot), some (0, cs), some (1, .dict (timesD ks)), some (0, .str nm), some (0, .int b), none, none, none]
              exs c ρ1 (.cons (.ife (.cmp .Eq (.var 6) (.cst (.str "1"))) (.cons (.seti 2 (.bin .Add (.var 4) (.var 5)) (.cst (.bool true))) .nil) .nil) .nil)) = .ok (.nx ρ') ∧
      restr [some (0, lot), some (0, cs), some (1, d0), some (0, .str nm), some (0, .int b), none, none, none] ρ' = [some (0, lot), some (0, cs), some (1, .dict (timesD (if k = 49 then (if b + (j : Int) ∈ ks then ks else ks ++ [b + (j : Int)]) else ks))), some (0, .str nm), some (0, .int b), none, none, none] := by
  by_cases h : k = 49
  · rw [if_pos h, ← times_put]
    refine ⟨[some (0, lot), some (0, cs), some (1, .dict (dPut (timesD ks) (.int (b + (j : Int))) (.bool true))), some (0, .str nm), some (0, .int b), some (0, .int (j : Int)), some (0, tx [k]), none], ?_, rfl⟩
    refine xs_nx (x_if (k := true) (ev_cmpE rfl rfl (Eq.trans (eq_tx [k] [49]) (by rw [h]; rfl))) (xs_nx (x_seti rfl rfl ?_) rfl)) rfl
    exact gd_t (by rw [Bool.and_eq_true]; exact ⟨rfl, decide_eq_true (by unfold timesD; rw [List.length_map]; show _ < 16000000; omega)⟩)
  · rw [if_neg h]
    refine ⟨[some (0, lot), some (0, cs), some (1, .dict (timesD ks)), some (0, .str nm), some (0, .int b), some (0, .int (j : Int)), some (0, tx [k]), none], ?_, rfl⟩
    exact xs_nx (x_if (k := false) (ev_cmpE rfl rfl (Eq.trans (eq_tx [k] [49]) (by rw [decide_eq_false (by simpa using h)]))) rfl) rfl
theorem beat_mem {l : List Nat} {dn : List PyData} {j k : Nat} (h : ∃ r, dn ++ PyData.tuple [.int (j : Int), tx [k]] :: r = enmD (l.map fun c => tx [c])) : l[j]? = some k := by
  obtain ⟨r, e⟩ := h
  have : PyData.tuple [.int (j : Int), tx [k]] ∈ enmD (l.map fun c => tx [c]) := by
    rw [← e]
    simp
  obtain ⟨j', c, h1, h2⟩ := (mem_enm (i := 0)).mp this
  injection h2 with h2
  injection h2 with a b
  injection a with a
  injection b with b _
  have e1 : j = j' := by omega
  have e2 := tx_inj b
  injection e2 with e2 _
  rw [e1, e2]
  exact h1
/-- one call's beats -/
theorem hInner (c : C) (lot cs : PyData) (nm : Str) (b : Int) (l : List Nat) (ks0 : List Int) (hl : ks0.length + l.length < 1000000) :
    ∃ ks, (∀ t, t ∈ ks ↔ t ∈ ks0 ∨ t ∈ tapsIn b l) ∧ ks.length ≤ ks0.length + l.length ∧
      loop (fun x ρ' => do let ρ1 ← bindT (.tp [5, 6]) x ρ'; exs c ρ1 (.cons (.ife (.cmp .Eq (.var 6) (.cst (.str "1"))) (.cons (.seti 2 (.bin .Add (.var 4) (.var 5)) (.cst (.bool true))) .nil) .nil) .nil))
        [some (0, lot), some (0, cs), some (1, .dict (timesD ks0)), some (0, .str nm), some (0, .int b), none, none, none] (enmD (l.map fun c => tx [c])) [some (0, lot), some (0, cs), some (1, .dict (timesD ks0)), some (0, .str nm), some (0, .int b), none, none, none]
      = .ok (.nx [some (0, lot), some (0, cs), some (1, .dict (timesD ks)), some (0, .str nm), some (0, .int b), none, none, none]) := by
  have hlen : (enmD (l.map fun c => tx [c])).length = l.length := by
    unfold enmD
    rw [List.length_map, List.length_zipIdx, List.length_map]
  obtain ⟨ρ', h1, h2⟩ := loop_inv (f := fun x ρ' => do let ρ1 ← bindT (.tp [5, 6]) x ρ'; exs c ρ1 (.cons (.ife (.cmp .Eq (.var 6) (.cst (.str "1"))) (.cons (.seti 2 (.bin .Add (.var 4) (.var 5)) (.cst (.bool true))) .nil) .nil) .nil))
    (ρ0 := [some (0, lot), some (0, cs), some (1, .dict (timesD ks0)), some (0, .str nm), some (0, .int b), none, none, none])
    (fun dn ρ => ∃ ks, ρ = [some (0, lot), some (0, cs), some (1, .dict (timesD ks)), some (0, .str nm), some (0, .int b), none, none, none] ∧ ks.length ≤ ks0.length + dn.length ∧ dn.length ≤ l.length ∧ ∀ t, t ∈ ks ↔ t ∈ ks0 ∨ ∃ i : Nat, PyData.tuple [.int (i : Int), tx [49]] ∈ dn ∧ t = b + (i : Int))
    (l := enmD (l.map fun c => tx [c])) [] (ρ := [some (0, lot), some (0, cs), some (1, .dict (timesD ks0)), some (0, .str nm), some (0, .int b), none, none, none])
    ⟨ks0, rfl, Nat.le_refl _, Nat.zero_le _, fun t => ⟨.inl, fun z => z.elim id fun ⟨i, q, _⟩ => absurd q List.not_mem_nil⟩⟩ (by
    rintro dn x ρ ⟨r, hr⟩ ⟨ks, rfl, k1, k2, k3⟩
    rw [List.nil_append] at hr
    have hx : x ∈ enmD (l.map fun c => tx [c]) := by
      rw [← hr]
      simp
    have hdl : dn.length + 1 ≤ l.length := by
      rw [← hlen, ← hr]
      simp
    obtain ⟨j, k, hj, rfl⟩ := (mem_enm (i := 0)).mp hx
    obtain ⟨ρ', e1, e2⟩ := hBody c lot cs nm b ks j k (.dict (timesD ks0)) (by omega)
    refine ⟨ρ', .inl e1, _, e2, ?_, ?_, fun t => ?_⟩
    · rw [List.length_append]
      show _ ≤ ks0.length + (dn.length + 1)
      split
      · split
        · omega
        · rw [List.length_append]
          show ks.length + 1 ≤ _
          omega
      · omega
    · rw [List.length_append]
      exact hdl
    · have key : (∃ i : Nat, PyData.tuple [.int (i : Int), tx [49]] ∈ dn ++ [PyData.tuple [.int (j : Int), tx [k]]] ∧ t = b + (i : Int)) ↔ (∃ i : Nat, PyData.tuple [.int (i : Int), tx [49]] ∈ dn ∧ t = b + (i : Int)) ∨ (k = 49 ∧ t = b + (j : Int)) := by
        constructor
        · rintro ⟨i, hi, rfl⟩
          rcases List.mem_append.mp hi with hi | hi
          · exact .inl ⟨i, hi, rfl⟩
          · have hi := List.mem_singleton.mp hi
            injection hi with hi
            injection hi with a1 a2
            injection a1 with a1
            injection a2 with a2 _
            have e := tx_inj a2
            injection e with e _
            exact .inr ⟨e.symm, by rw [a1]⟩
        · rintro (⟨i, hi, rfl⟩ | ⟨rfl, rfl⟩)
          · exact ⟨i, List.mem_append_left _ hi, rfl⟩
          · exact ⟨j, List.mem_append_right _ (List.mem_singleton.mpr rfl), rfl⟩
      rw [key]
      by_cases h49 : k = 49
      · rw [if_pos h49]
        by_cases hm : b + (j : Int) ∈ ks
        · rw [if_pos hm, k3]
          constructor
          · rintro (q | q)
            · exact .inl q
            · exact .inr (.inl q)
          · rintro (q | q | ⟨_, rfl⟩)
            · exact .inl q
            · exact .inr q
            · exact (k3 _).mp hm
        · rw [if_neg hm, List.mem_append, k3, List.mem_singleton]
          constructor
          · rintro ((q | q) | q)
            · exact .inl q
            · exact .inr (.inl q)
            · exact .inr (.inr ⟨h49, q⟩)
          · rintro (q | q | ⟨_, q⟩)
            · exact .inl (.inl q)
            · exact .inl (.inr q)
            · exact .inr q
      · rw [if_neg h49, k3]
        constructor
        · rintro (q | q)
          · exact .inl q
          · exact .inr (.inl q)
        · rintro (q | q | ⟨q, _⟩)
          · exact .inl q
          · exact .inr q
          · exact absurd q h49)
  obtain ⟨ks, rfl, k1, k2, k3⟩ := h2
  rw [List.nil_append, hlen] at k1
  refine ⟨ks, fun t => ?_, k1, h1⟩
  rw [k3, mem_tapsIn, List.nil_append]
  constructor
  · rintro (q | ⟨i, hi, rfl⟩)
    · exact .inl q
    · obtain ⟨j, c', e1, e2⟩ := (mem_enm (i := 0)).mp hi
      injection e2 with e2
      injection e2 with a1 a2
      injection a1 with a1
      injection a2 with a2 _
      have e := tx_inj a2
      injection e with e _
      exact .inr ⟨j, by rw [e1, ← e], by rw [a1]⟩
  · rintro (q | ⟨i, hi, rfl⟩)
    · exact .inl q
    · exact .inr ⟨i, (mem_enm (i := 0)).mpr ⟨i, 49, hi, rfl⟩, rfl⟩
end
end TD
/-! heard answers. -/
namespace TD
open PySem
def numOf (lot : List Box) (nm : Str) : List Int := ((lot.find? fun b => decide (b.1 = nm)).map (·.2)).getD []
theorem numOf_eq : ∀ {lot : List Box} {nm : Str} {ns : List Int}, (lot.map (·.1)).Nodup → (nm, ns) ∈ lot → numOf lot nm = ns
  | b :: r, nm, ns, hn, hm => by
    rw [List.map_cons, List.nodup_cons] at hn
    unfold numOf
    rw [List.find?_cons]
    by_cases he : b.1 = nm
    · rw [decide_eq_true he]
      rcases List.mem_cons.mp hm with rfl | hm
      · rfl
      · exact absurd (List.mem_map.mpr ⟨_, hm, rfl⟩) (by rw [← he]; exact hn.1)
    · rw [decide_eq_false he]
      rcases List.mem_cons.mp hm with rfl | hm
      · exact absurd rfl he
      · exact numOf_eq hn.2 hm
def beatsOf (lot : List Box) (nm : Str) : List Nat := beatsL (numOf lot nm)
def timesL (lot : List Box) (cs : List (Str × Int)) : List Int := cs.flatMap fun c => tapsIn c.2 (beatsOf lot c.1)
theorem seq_tx (l : List Nat) : seqD (tx l) = .ok (l.map fun c => tx [c]) := by
  show R.ok ((chs (sT l)).map fun c => tx [c]) = _
  rw [chs_sT]
theorem beatsOf_len {lot : List Box} (hl : LotOk lot) {nm : Str} {ns : List Int} (hm : (nm, ns) ∈ lot) : (beatsOf lot nm).length ≤ 6009 := by
  unfold beatsOf
  rw [numOf_eq hl.nd hm]
  have h1 : (beatsL ns).length ≤ 2003 * ns.length := beatsL_len (hl.nums _ hm).small
  have h2 : ns.length ≤ 3 := (hl.nums _ hm).2.1
  omega
section
variable {tb : Tab}
theorem beats_of (h : HasH tb) (n : Nat) {lot : List Box} (hl : LotOk lot) {nm : Str} {ns : List Int} (hm : (nm, ns) ∈ lot) : callN tb (n + 1) 20 [numD ns] = .ok (tx (beatsOf lot nm)) := by
  unfold beatsOf
  rw [numOf_eq hl.nd hm]
  exact beats_ok h.h20 n (hl.nums _ hm).small
theorem heard_ok (h : HasH tb) (n : Nat) {lot : List Box} (hl : LotOk lot) {cs : List (Str × Int)} (hc : CallsOk lot cs) : callN tb (n + 2) 33 [lotD lot, callsD cs] = .ok (tx (hearL (timesL lot cs))) := by
  rw [callN_at h.h33]
  obtain ⟨ρ', l1, ks, rfl, k1, k2, k3⟩ := loop_inv (f := fun x ρ' => do
      let ρ1 ← bindT (.tp [3, 4]) x ρ'
      exs ⟨callN tb (n + 1), true⟩ ρ1 (.cons (.fore (.tp [5, 6]) (.enm (.fn 20 (.cons (.fn 32 (.cons (.var 0) (.cons (.var 3) .nil))) .nil))) (.cons (.ife (.cmp .Eq (.var 6) (.cst (.str "1"))) (.cons (.seti 2 (.bin .Add (.var 4) (.var 5)) (.cst (.bool true))) .nil) .nil) .nil)) .nil))
    (ρ0 := [some (0, lotD lot), some (0, callsD cs), some (1, .dict (timesD [])), none, none, none, none, none])
    (fun dn ρ => ∃ ks, ρ = [some (0, lotD lot), some (0, callsD cs), some (1, .dict (timesD ks)), none, none, none, none, none] ∧ ks.length ≤ dn.length * 6009 ∧ dn.length ≤ cs.length ∧ ∀ t, t ∈ ks ↔ ∃ c, callD c ∈ dn ∧ c ∈ cs ∧ t ∈ tapsIn c.2 (beatsOf lot c.1))
    (l := cs.map callD) [] (ρ := [some (0, lotD lot), some (0, callsD cs), some (1, .dict (timesD [])), none, none, none, none, none])
    ⟨[], rfl, Nat.zero_le _, Nat.zero_le _, fun t => ⟨fun z => absurd z List.not_mem_nil, fun ⟨c, q, _⟩ => absurd q List.not_mem_nil⟩⟩ (by
    rintro dn x ρ ⟨r, hr⟩ ⟨ks, rfl, k1, k2, k3⟩
    rw [List.nil_append] at hr
    have hx : x ∈ cs.map callD := by
      rw [← hr]
      simp
    have hdl : dn.length + 1 ≤ cs.length := by
      have := congrArg List.length hr
      simp at this
      omega
    obtain ⟨c, hcm, rfl⟩ := List.mem_map.mp hx
    obtain ⟨ns, hm⟩ := hc.box c hcm
    have hb := beatsOf_len hl hm
    have hf := hc.few
    obtain ⟨ks', e1, e2, e3⟩ := hInner ⟨callN tb (n + 1), true⟩ (lotD lot) (callsD cs) c.1 c.2 (beatsOf lot c.1) ks (by omega)
    refine ⟨[some (0, lotD lot), some (0, callsD cs), some (1, .dict (timesD ks')), some (0, .str c.1), some (0, .int c.2), none, none, none], .inl ?_, ks', rfl, ?_, ?_, fun t => ?_⟩
    · exact xs_nx (x_for (it_enm (ev_fn rfl (evs_c (ev_fn rfl (evs_c rfl (evs_c rfl rfl)) (number_for_ok h.h32 n hl hm)) rfl) (beats_of h n hl hm)) (seq_tx _)) e3) rfl
    · rw [List.length_append]
      show ks'.length ≤ (dn.length + 1) * 6009
      omega
    · rw [List.length_append]
      exact hdl
    · rw [e1, k3]
      constructor
      · rintro (⟨c', q1, q2, q3⟩ | q)
        · exact ⟨c', List.mem_append_left _ q1, q2, q3⟩
        · exact ⟨c, List.mem_append_right _ (List.mem_singleton.mpr rfl), hcm, q⟩
      · rintro ⟨c', q1, q2, q3⟩
        rcases List.mem_append.mp q1 with q1 | q1
        · exact .inl ⟨c', q1, q2, q3⟩
        · have q1 := List.mem_singleton.mp q1
          injection q1 with q1
          injection q1 with a1 a2
          injection a1 with a1
          injection a2 with a2 _
          injection a2 with a2
          rw [a1, a2] at q3
          exact .inr q3)
  rw [List.nil_append] at k3
  have hmem : ∀ t, t ∈ ks ↔ t ∈ timesL lot cs := fun t => by
    rw [k3]
    unfold timesL
    rw [List.mem_flatMap]
    constructor
    · rintro ⟨c, _, q2, q3⟩
      exact ⟨c, q2, q3⟩
    · rintro ⟨c, q2, q3⟩
      exact ⟨c, List.mem_map.mpr ⟨c, q2, rfl⟩, q2, q3⟩
  rw [← hearL_congr hmem]
  rw [List.nil_append, List.length_map] at k1
  have hf := hc.few
  -- the greatest
  have hmx : b1D .max (.list (ks.map PyData.int ++ [PyData.int (-1)])) = .ok (.int (mx ks)) := by
    cases ks with
    | nil => exact max_ints (-1) []
    | cons k r =>
      have e := max_ints k (r ++ [-1])
      rw [List.map_cons, List.map_append] at e
      refine Eq.trans e ?_
      have e2 : (r ++ [-1]).foldl max k = mx (k :: r) := fmax_eq fun t => by
        simp only [List.mem_cons, List.mem_append, List.mem_singleton, List.not_mem_nil, or_false]
        constructor
        · rintro (q | q | q)
          · exact .inr (.inl q)
          · exact .inr (.inr q)
          · exact .inl q
        · rintro (q | q | q)
          · exact .inr (.inr q)
          · exact .inl q
          · exact .inr (.inl q)
      rw [e2]
  have hbd : -1 ≤ mx ks ∧ mx ks ≤ 10000 := by
    refine ⟨(fmax_ge ks (-1)).1, ?_⟩
    rcases fmax_mem ks (-1) with q | q
    · show mx ks ≤ 10000
      unfold mx
      rw [q]
      decide
    · obtain ⟨c, _, q2, q3⟩ := (k3 _).mp q
      obtain ⟨i, q4, q5⟩ := mem_tapsIn.mp q3
      obtain ⟨ns, hm⟩ := hc.box c q2
      have h1 := beatsOf_len hl hm
      have h2 := (hc.beg c q2).2
      have h3 := (List.getElem?_eq_some_iff.mp q4).1
      have q5 : mx ks = c.2 + (i : Int) := q5
      omega
  have hkey : (timesD ks).map (·.1) = ks.map PyData.int := by
    unfold timesD
    rw [List.map_map]
    rfl
  refine run_rt rfl (xs_nx (x_asg rfl rfl) (xs_nx (x_for (it_val rfl rfl rfl) l1) (xs_rt (x_ret ?_))))
  refine ev_mt rfl (evs_c (ev_cmp0 (g := fun x => match x with | .int k => tx [if k ∈ ks then 49 else 48] | x => x) (it_rng (n := mx ks + 1) (ev_bin (ev_b1 (ev_bin (x := .list (ks.map PyData.int)) (z := .list (ks.map PyData.int ++ [PyData.int (-1)])) (ev_b1 rfl rfl ?qa) (ev_lst (evs_c rfl rfl)) ?qb) rfl hmx) rfl rfl) ⟨by omega, by omega⟩) ?qt ?ql) rfl) ?qj
  case qa =>
    show R.ok (PyData.list ((timesD ks).map (·.1))) = _
    rw [hkey]
  case qb =>
    refine gd_t (decide_eq_true ?_)
    rw [List.length_map]
    show ks.length + 1 ≤ 16000000
    omega
  case qt =>
    intro x hx
    obtain ⟨k, hk, rfl⟩ := List.mem_map.mp hx
    refine ⟨_, rfl, ev_idx (y := .int (if (k : Int) ∈ ks then 1 else 0)) rfl (ev_b1 (ev_cmpE (k := decide ((k : Int) ∈ ks)) rfl rfl ?_) rfl ?_) ?_⟩
    · show gd true (R.ok (dGet (timesD ks) (.int (k : Int))).isSome) = _
      rw [times_get]
      rfl
    · by_cases hm : (k : Int) ∈ ks
      · rw [decide_eq_true hm, if_pos hm]
        rfl
      · rw [decide_eq_false hm, if_neg hm]
        rfl
    · by_cases hm : (k : Int) ∈ ks
      · show idxD _ (.int (if (k : Int) ∈ ks then 1 else 0)) = .ok (tx [if (k : Int) ∈ ks then 49 else 48])
        rw [if_pos hm, if_pos hm]
        rfl
      · show idxD _ (.int (if (k : Int) ∈ ks then 1 else 0)) = .ok (tx [if (k : Int) ∈ ks then 49 else 48])
        rw [if_neg hm, if_neg hm]
        rfl
  case ql =>
    rw [List.length_map, List.length_range]
    show _ ≤ 16000000
    omega
  case qj =>
    have e : (((List.range (mx ks + 1).toNat).map fun (k : Nat) => PyData.int (k : Int)).map fun x => match x with | .int k => tx [if k ∈ ks then 49 else 48] | x => x) = ((hearL ks).map fun s => [s]).map tx := by
      unfold hearL
      rw [List.map_map, List.map_map, List.map_map]
      rfl
    rw [e]
    have e2 : joinN [] ((hearL ks).map fun s => [s]) = hearL ks := by
      generalize hearL ks = l
      induction l with
      | nil => rfl
      | cons a r ih =>
        cases r with
        | nil => rfl
        | cons b t =>
          show [a] ++ [] ++ joinN [] ((b :: t).map fun s => [s]) = _
          rw [ih]
          rfl
    refine Eq.trans (join_lst [] ((hearL ks).map fun s => [s]) ?_) (by rw [e2])
    rw [ones_sum, List.length_map]
    unfold hearL
    rw [List.length_map, List.length_range]
    show _ ≤ 16000000
    simp
    omega
end
end TD
/-! A drawn lot. -/
namespace TD
open PySem
def nameL : List Str := ["a", "b", "box", "c", "zz", "zzzz"]
theorem nameL_nd : nameL.Nodup := by decide +kernel
theorem nameL_pw : nameL.Pairwise fun a b => (!decide (chs b < chs a)) = true := by decide +kernel
theorem eqv_nums : ∀ (a b : List Int), PyData.eqvAll (a.map PyData.int) (b.map PyData.int) = decide (a = b)
  | [], [] => rfl
  | [], _ :: _ => rfl
  | _ :: _, [] => rfl
  | x :: a, y :: b => by
    show ((x == y) && PyData.eqvAll (a.map PyData.int) (b.map PyData.int)) = _
    rw [eqv_nums a b]
    by_cases h : x = y
    · subst h
      by_cases h2 : a = b
      · subst h2
        simp
      · simp [h2]
    · simp [h]
theorem eqv_numD (a b : List Int) : PyData.eqv (numD a) (numD b) = decide (a = b) := eqv_nums a b
theorem dOk_numD (k : Nat) (a : List Int) : dOk (k + 1) (numD a) = true := by
  show (a.map PyData.int).all (dOk k) = true
  refine List.all_eq_true.mpr fun x hx => ?_
  obtain ⟨n, _, rfl⟩ := List.mem_map.mp hx
  cases k <;> rfl
theorem names_cut {m : Int} (h1 : 1 ≤ m) (h2 : m ≤ 6) : slcD (.tuple (nameL.map PyData.str)) none (some m) = .ok (.tuple ((nameL.take m.toNat).map PyData.str)) := by
  have : m = 1 ∨ m = 2 ∨ m = 3 ∨ m = 4 ∨ m = 5 ∨ m = 6 := by omega
  rcases this with rfl | rfl | rfl | rfl | rfl | rfl <;> rfl
theorem enm_at {L : List PyData} {dn r : List PyData} {x : PyData} (h : dn ++ x :: r = enmD L) : ∃ d, L[dn.length]? = some d ∧ x = .tuple [.int (dn.length : Int), d] := by
  have e : (enmD L)[dn.length]? = some x := by
    rw [← h, List.getElem?_append_right (Nat.le_refl _), Nat.sub_self]
    rfl
  unfold enmD at e
  rw [List.getElem?_map, List.getElem?_zipIdx] at e
  cases q : L[dn.length]? with
  | none =>
    rw [q] at e
    cases e
  | some d =>
    rw [q] at e
    have e := Option.some.inj e
    refine ⟨d, rfl, ?_⟩
    rw [← e]
    simp
theorem enmD_len (L : List PyData) : (enmD L).length = L.length := by
  unfold enmD
  rw [List.length_map, List.length_zipIdx]
/-- what a drawn lot is -/
structure Drawn (lot : List Box) (boxes : Nat) : Prop where
  ok : LotOk lot
  sub : (lot.map (·.1)).Sublist nameL
  nn : (lot.map (·.2)).Nodup
  one : 1 ≤ lot.length
  few : lot.length ≤ boxes
theorem txts_strs : ∀ ks : List Str, txtsOf (ks.map PyData.str) = some ks
  | [] => rfl
  | k :: r => by
    show (txtsOf (r.map PyData.str)).map (k :: ·) = _
    rw [txts_strs r]
    rfl
structure HasL (tb : Tab) : Prop where
  h7 : tb 7 = some f__law_drawn
  h8 : tb 8 = some f__law_number
  h9 : tb 9 = some f__law_lot
theorem lot_ok {tb : Tab} (h : HasL tb) (n : Nat) (a boxes most : Int) (hb : 0 < boxes) (hb6 : boxes ≤ 6) (hm : 0 < most) (hm3 : most ≤ 3) : ∃ lot, Drawn lot boxes.toNat ∧ callN tb (n + 3) 9 [.int a, .int boxes, .int most] = .ok (lotD lot) := by
  have m1 := Int.emod_nonneg (a / 16) (show boxes ≠ 0 by omega)
  have m2 := Int.emod_lt_of_pos (a / 16) hb
  obtain ⟨ρ', l1, lot, rfl, j1, j2, j3, j4, j5⟩ := loop_inv (f := fun x ρ' => do
      let ρ1 ← bindT (.tp [5, 6]) x ρ'
      exs ⟨callN tb (n + 2), true⟩ ρ1 (.cons (.asg (.nm 7) (.fn 8 (.cons (.fn 7 (.cons (.var 0) (.cons (.bin .Add (.cst (.int 20)) (.var 5)) .nil))) (.cons (.var 2) .nil)))) (.cons (.ife (.cmp .NotIn (.var 7) (.var 4)) (.cons (.app 4 (.var 7)) (.cons (.seti 3 (.var 6) (.var 7)) .nil)) .nil) .nil)))
    (ρ0 := [some (0, .int a), some (0, .int boxes), some (0, .int most), some (1, .dict []), some (1, .list []), none, none, none])
    (fun dn ρ => ∃ lot : List Box, ρ = [some (0, .int a), some (0, .int boxes), some (0, .int most), some (1, .dict (lot.map fun b => (PyData.str b.1, numD b.2))), some (1, .list (lot.map fun b => numD b.2)), none, none, none] ∧
      (lot.map (·.1)).Sublist ((nameL.take (1 + a / 16 % boxes).toNat).take dn.length) ∧ (∀ b ∈ lot, numOk b.2) ∧ (lot.map (·.2)).Nodup ∧ (1 ≤ dn.length → 1 ≤ lot.length) ∧ dn.length ≤ (nameL.take (1 + a / 16 % boxes).toNat).length)
    (l := enmD ((nameL.take (1 + a / 16 % boxes).toNat).map PyData.str)) [] (ρ := [some (0, .int a), some (0, .int boxes), some (0, .int most), some (1, .dict []), some (1, .list []), none, none, none])
    ⟨[], rfl, List.nil_sublist _, fun b hb => absurd hb List.not_mem_nil, List.nodup_nil, fun z => absurd z (by decide), Nat.zero_le _⟩ (by
    rintro dn x ρ ⟨r, hr⟩ ⟨lot, rfl, j1, j2, j3, j4, j5⟩
    rw [List.nil_append] at hr
    obtain ⟨d, hd, rfl⟩ := enm_at hr
    rw [List.getElem?_map] at hd
    obtain ⟨nm, hnm, rfl⟩ := Option.map_eq_some_iff.mp hd
    have hlt : dn.length < (nameL.take (1 + a / 16 % boxes).toNat).length := (List.getElem?_eq_some_iff.mp hnm).1
    have hns := numF_ok (drawnF a (20 + (dn.length : Int))) most hm
    have hlt6 : (nameL.take (1 + a / 16 % boxes).toNat).length ≤ 6 := by
      rw [List.length_take]
      exact Nat.min_le_right _ _
    have hlotlen : lot.length ≤ 6 := by
      have := j1.length_le
      rw [List.length_map, List.length_take] at this
      omega
    have hnew : nm ∉ lot.map (·.1) := fun z => by
      have z2 := j1.subset z
      have hn2 : (nameL.take (1 + a / 16 % boxes).toNat).Nodup := (List.take_sublist _ _).nodup nameL_nd
      rw [← List.take_append_drop dn.length (nameL.take (1 + a / 16 % boxes).toNat)] at hn2
      rw [List.drop_eq_getElem_cons hlt] at hn2
      have he : (nameL.take (1 + a / 16 % boxes).toNat)[dn.length] = nm := (List.getElem?_eq_some_iff.mp hnm).2
      rw [he] at hn2
      exact (List.nodup_append.mp hn2).2.2 nm z2 nm List.mem_cons_self rfl
    have hany : ((lot.map fun b => numD b.2).any fun z => PyData.eqv z (numD (numF (drawnF a (20 + (dn.length : Int))) most))) = decide (numF (drawnF a (20 + (dn.length : Int))) most ∈ lot.map (·.2)) := by
      rw [List.any_map]
      by_cases hin : numF (drawnF a (20 + (dn.length : Int))) most ∈ lot.map (·.2)
      · rw [decide_eq_true hin]
        obtain ⟨b, hb1, hb2⟩ := List.mem_map.mp hin
        exact List.any_eq_true.mpr ⟨b, hb1, by show PyData.eqv (numD b.2) (numD (numF (drawnF a (20 + (dn.length : Int))) most)) = true; rw [eqv_numD, decide_eq_true hb2]⟩
      · rw [decide_eq_false hin]
        refine List.any_eq_false.mpr fun b hb1 hb2 => hin ?_
        have hb2 : PyData.eqv (numD b.2) (numD (numF (drawnF a (20 + (dn.length : Int))) most)) = true := hb2
        rw [eqv_numD] at hb2
        exact List.mem_map.mpr ⟨b, hb1, of_decide_eq_true hb2⟩
    have hone : ex ⟨callN tb (n + 2), true⟩ [some (0, .int a), some (0, .int boxes), some (0, .int most), some (1, .dict (lot.map fun b => (PyData.str b.1, numD b.2))), some (1, .list (lot.map fun b => numD b.2)), some (0, .int (dn.length : Int)), some (0, .str nm), none]
        (.asg (.nm 7) (.fn 8 (.cons (.fn 7 (.cons (.var 0) (.cons (.bin .Add (.cst (.int 20)) (.var 5)) .nil))) (.cons (.var 2) .nil)))) = .ok (.nx [some (0, .int a), some (0, .int boxes), some (0, .int most), some (1, .dict (lot.map fun b => (PyData.str b.1, numD b.2))), some (1, .list (lot.map fun b => numD b.2)), some (0, .int (dn.length : Int)), some (0, .str nm), some (0, numD (numF (drawnF a (20 + (dn.length : Int))) most))]) :=
      x_asg (ev_fn rfl (evs_c (ev_fn rfl (evs_c rfl (evs_c (ev_bin rfl rfl rfl) rfl)) (drawn_ok h.h7 (n + 1) a (20 + (dn.length : Int)))) (evs_c rfl rfl)) (number_ok h.h7 h.h8 n _ most hm (by omega))) rfl
    have hcmp : cmpB .NotIn (numD (numF (drawnF a (20 + (dn.length : Int))) most)) (.list (lot.map fun b => numD b.2)) = .ok (!decide (numF (drawnF a (20 + (dn.length : Int))) most ∈ lot.map (·.2))) := by
      show notR (gd (dOk 9 (numD _) && (lot.map fun b => numD b.2).all (dOk 8)) (R.ok _)) = _
      rw [dOk_numD, show (lot.map fun b => numD b.2).all (dOk 8) = true from List.all_eq_true.mpr fun x hx => by
        obtain ⟨b, _, rfl⟩ := List.mem_map.mp hx
        exact dOk_numD _ _, hany]
      rfl
    by_cases hin : numF (drawnF a (20 + (dn.length : Int))) most ∈ lot.map (·.2)
    · refine ⟨_, .inl (xs_nx hone (xs_nx (x_if (k := false) (ev_cmpE rfl rfl (Eq.trans hcmp (by rw [decide_eq_true hin]; rfl))) rfl) rfl)), lot, rfl, ?_, j2, j3, fun _ => ?_, ?_⟩
      · refine j1.trans ?_
        rw [List.length_append]
        exact List.take_sublist_take_left (Nat.le_add_right _ _)
      · obtain ⟨b, hb1, _⟩ := List.mem_map.mp hin
        exact List.length_pos_of_mem hb1
      · rw [List.length_append]
        exact hlt
    · refine ⟨[some (0, .int a), some (0, .int boxes), some (0, .int most), some (1, .dict ((lot ++ [(nm, numF (drawnF a (20 + (dn.length : Int))) most)]).map fun b => (PyData.str b.1, numD b.2))), some (1, .list ((lot ++ [(nm, numF (drawnF a (20 + (dn.length : Int))) most)]).map fun b => numD b.2)), some (0, .int (dn.length : Int)), some (0, .str nm), some (0, numD (numF (drawnF a (20 + (dn.length : Int))) most))],
        .inl (xs_nx hone (xs_nx (x_if (k := true) (ev_cmpE rfl rfl (Eq.trans hcmp (by rw [decide_eq_false hin]; rfl))) (xs_nx (x_app rfl (ρ' := [some (0, .int a), some (0, .int boxes), some (0, .int most), some (1, .dict (lot.map fun b => (PyData.str b.1, numD b.2))), some (1, .list ((lot ++ [(nm, numF (drawnF a (20 + (dn.length : Int))) most)]).map fun b => numD b.2)), some (0, .int (dn.length : Int)), some (0, .str nm), some (0, numD (numF (drawnF a (20 + (dn.length : Int))) most))]) ?_) (xs_nx (x_seti rfl rfl ?_) rfl))) rfl)), _, rfl, ?_, fun b hb => ?_, ?_, fun _ => ?_, ?_⟩
      · refine Eq.trans (gd_t (decide_eq_true ?_)) ?_
        · rw [List.length_map]
          show lot.length + 1 < 16000000
          omega
        · rw [List.map_append]
          rfl
      · refine Eq.trans (gd_t ?_) ?_
        · rw [Bool.and_eq_true]
          refine ⟨rfl, decide_eq_true ?_⟩
          rw [List.length_map]
          show lot.length < 16000000
          omega
        · rw [dPut_new]
          · simp only [List.map_append]
            rfl
          · intro p hp
            obtain ⟨b, hb1, rfl⟩ := List.mem_map.mp hp
            exact decide_eq_false fun z => hnew (List.mem_map.mpr ⟨b, hb1, z⟩)
      · rw [List.length_append, List.map_append]
        show (lot.map (·.1) ++ [nm]).Sublist (List.take (dn.length + 1) _)
        rw [List.take_add_one, hnm]
        exact List.Sublist.append j1 (List.Sublist.refl _)
      · rcases List.mem_append.mp hb with hb | hb
        · exact j2 b hb
        · rw [List.mem_singleton.mp hb]
          refine ⟨hns.2.2.1, ?_, hns.2.1⟩
          have := hns.2.2.2
          show (numF _ most).length ≤ 3
          omega
      · rw [List.map_append]
        refine List.nodup_append.mpr ⟨j3, List.nodup_cons.mpr ⟨List.not_mem_nil, List.nodup_nil⟩, fun x hx y hy => ?_⟩
        rw [List.mem_singleton.mp hy]
        exact fun z => hin (by have z : x = numF (drawnF a (20 + (dn.length : Int))) most := z; rw [← z]; exact hx)
      · rw [List.length_append]
        exact Nat.le_add_left _ _
      · rw [List.length_append]
        exact hlt)
  rw [List.nil_append, enmD_len, List.length_map] at j1 j4 j5
  rw [List.take_length] at j1
  have hsub : (lot.map (·.1)).Sublist nameL := j1.trans (List.take_sublist _ _)
  have hnd : (lot.map (·.1)).Nodup := hsub.nodup nameL_nd
  have hpw : (lot.map (·.1)).Pairwise fun a b => (!decide (chs b < chs a)) = true := nameL_pw.sublist hsub
  have hlen : (nameL.take (1 + a / 16 % boxes).toNat).length = (1 + a / 16 % boxes).toNat := by
    rw [List.length_take]
    show min _ 6 = _
    omega
  have hl6 : lot.length ≤ (1 + a / 16 % boxes).toNat := by
    have := j1.length_le
    rw [List.length_map, hlen] at this
    exact this
  refine ⟨lot, ⟨⟨hnd, j2⟩, hsub, j3, j4 (by omega), by omega⟩, ?_⟩
  rw [callN_at h.h9]
  have hks : (lot.map fun b => (PyData.str b.1, numD b.2)).map (·.1) = (lot.map (·.1)).map PyData.str := by
    rw [List.map_map, List.map_map]
    rfl
  refine Eq.trans (run_rt rfl (xs_nx (x_asg rfl rfl) (xs_nx (x_asg rfl rfl) (xs_nx (x_for (it_enm (ev_slc (l := none) (h := some (1 + a / 16 % boxes)) rfl rfl rfl (ev_bin rfl (ev_bin (ev_bin rfl rfl (div_ok ⟨by decide, by decide⟩)) rfl (mod_ok hb)) rfl) rfl (names_cut (by omega) (by omega))) rfl) l1) (xs_rt (x_ret (ev_b1 (ev_cmp0 (l := (lot.map (·.1)).map PyData.str) (g := fun x => match x with | .str k => boxD (k, numOf lot k) | x => x) (it_val (x := .list ((lot.map (·.1)).map PyData.str)) (ev_b1 rfl rfl ?qs) rfl rfl) ?qt ?ql) rfl rfl))))))) ?_
  case qs =>
    show (op (txtsOf ((lot.map fun b => (PyData.str b.1, numD b.2)).map (·.1))) >>= fun ks => gd (decide (ks.length < 64)) (R.ok (PyData.list ((ks.mergeSort fun a b => !decide (chs b < chs a)).map PyData.str)))) = _
    rw [hks, txts_strs]
    show gd (decide ((lot.map (·.1)).length < 64)) (R.ok (PyData.list (((lot.map (·.1)).mergeSort fun a b => !decide (chs b < chs a)).map PyData.str))) = _
    rw [List.mergeSort_of_pairwise hpw, List.length_map, decide_eq_true (by omega)]
    rfl
  case qt =>
    intro x hx
    obtain ⟨k, hk, rfl⟩ := List.mem_map.mp hx
    obtain ⟨b, hb1, rfl⟩ := List.mem_map.mp hk
    refine ⟨_, rfl, ev_tup (evs_c rfl (evs_c (ev_idx rfl rfl ?_) rfl))⟩
    show gd true (op (dGet (lot.map fun b => (PyData.str b.1, numD b.2)) (.str b.1))) = _
    rw [dGet_lot hnd (show (b.1, b.2) ∈ lot from hb1), numOf_eq hnd (show (b.1, b.2) ∈ lot from hb1)]
    rfl
  case ql =>
    rw [List.length_map, List.length_map]
    show _ ≤ 16000000
    omega
  · unfold lotD
    rw [List.map_map, List.map_map]
    congr 2
    refine List.map_congr_left fun b hb1 => ?_
    show boxD (b.1, numOf lot b.1) = boxD b
    rw [numOf_eq hnd (show (b.1, b.2) ∈ lot from hb1)]
end TD
/-! Drawn calls. -/
namespace TD
open PySem
theorem cut_take {α : Type} (xs : List α) (k : Nat) : cut xs none (some (k : Int)) = xs.take k := by
  unfold cut
  rw [HT.sIx_none, HT.sIx_nat, List.drop_zero, Nat.sub_zero]
  by_cases h : k ≤ xs.length
  · rw [Nat.min_eq_left h]
  · rw [Nat.min_eq_right (by omega), List.take_length, List.take_of_length_le (by omega)]
theorem cut_drop {α : Type} (xs : List α) (k : Nat) : cut xs (some (k : Int)) none = xs.drop k := by
  unfold cut
  rw [HT.sIx_none, HT.sIx_nat]
  by_cases h : k ≤ xs.length
  · rw [Nat.min_eq_left h, List.take_of_length_le (by rw [List.length_drop]; omega)]
  · rw [Nat.min_eq_right (by omega), List.drop_length, List.drop_of_length_le (by omega), List.take_nil]
theorem enm_lot (lot : List Box) : enmD (lot.map boxD) = lot.zipIdx.map fun p => .tuple [.int (p.2 : Int), boxD p.1] := by
  unfold enmD
  rw [List.zipIdx_map, List.map_map]
  rfl
theorem fmin_le : ∀ (ns : List Int) (n : Int), ns.foldl min n ≤ n ∧ ∀ x ∈ ns, ns.foldl min n ≤ x
  | [], n => ⟨Int.le_refl _, fun x hx => absurd hx List.not_mem_nil⟩
  | y :: r, n => by
    obtain ⟨h1, h2⟩ := fmin_le r (min n y)
    have h3 := Int.min_le_left n y
    have h4 := Int.min_le_right n y
    refine ⟨Int.le_trans h1 h3, fun x hx => ?_⟩
    rcases List.mem_cons.mp hx with rfl | hx
    · exact Int.le_trans h1 h4
    · exact h2 x hx
theorem fmin_mem : ∀ (ns : List Int) (n : Int), ns.foldl min n = n ∨ ns.foldl min n ∈ ns
  | [], n => .inl rfl
  | y :: r, n => by
    rcases fmin_mem r (min n y) with h | h
    · show r.foldl min (min n y) = n ∨ r.foldl min (min n y) ∈ y :: r
      rw [h]
      by_cases hle : n ≤ y
      · rw [Int.min_eq_left hle]
        exact .inl rfl
      · rw [Int.min_eq_right (by omega)]
        exact .inr List.mem_cons_self
    · exact .inr (List.mem_cons_of_mem _ h)
/-- the least of the numbers, 0 if there are none -/
def mnI : List Int → Int
  | [] => 0
  | n :: r => r.foldl min n
theorem mnI_le {ns : List Int} {x : Int} (h : x ∈ ns) : mnI ns ≤ x := by
  cases ns with
  | nil => exact absurd h List.not_mem_nil
  | cons n r =>
    rcases List.mem_cons.mp h with rfl | h
    · exact (fmin_le r _).1
    · exact (fmin_le r n).2 x h
theorem mnI_mem {ns : List Int} (h : ns ≠ []) : mnI ns ∈ ns := by
  cases ns with
  | nil => exact absurd rfl h
  | cons n r =>
    rcases fmin_mem r n with e | e
    · show r.foldl min n ∈ n :: r
      rw [e]
      exact List.mem_cons_self
    · exact List.mem_cons_of_mem _ e
theorem min_of {ns : List Int} (h : ns ≠ []) : b1D .min (.list (ns.map PyData.int)) = .ok (.int (mnI ns)) := by
  cases ns with
  | nil => exact absurd rfl h
  | cons n r => exact min_ints n r
structure HasC (tb : Tab) : Prop where
  h7 : tb 7 = some f__law_drawn
  h12 : tb 12 = some f__law_calls
/-- what drawn calls are -/
structure DrawnC (lot : List Box) (wait : Int) (cs : List (Str × Int)) : Prop where
  few : cs.length ≤ 3
  sub : (cs.map (·.1)).Sublist (lot.map (·.1))
  beg : ∀ c ∈ cs, 0 ≤ c.2 ∧ c.2 ≤ wait
  zero : cs ≠ [] → ∃ c ∈ cs, c.2 = 0
abbrev eNames : E := .slc (.cmp1 (.idx (.var 6) (.cst (.int 0))) (.tp [5, 6]) (.enm (.var 0)) (.cmp .Eq (.bin .Mod (.bin .FloorDiv (.fn 7 (.cons (.var 1) (.cons (.bin .Add (.cst (.int 40)) (.var 5)) .nil))) (.cst (.int 16))) (.cst (.int 2))) (.cst (.int 0)))) .non (.cst (.int 3))
abbrev eBegins : E := .cmp0 (.bin .Mod (.bin .FloorDiv (.fn 7 (.cons (.var 1) (.cons (.bin .Add (.cst (.int 60)) (.var 5)) .nil))) (.cst (.int 16))) (.bin .Add (.var 2) (.cst (.int 1)))) (.nm 5) (.rng1 (.b1 .len (.var 3)))
abbrev eCalls : E := .b1 .tuple (.cmp0 (.tup (.cons (.var 7) (.cons (.bin .Sub (.var 8) (.b1 .min (.var 4))) .nil))) (.tp [7, 8]) (.zip (.var 3) (.var 4)))
def namesF (lot : List Box) (a : Int) : List Str := ((lot.zipIdx.filter fun p => decide (drawnF a (40 + (p.2 : Int)) / 16 % 2 = 0)).map fun p => p.1.1).take 3
theorem names_ev {tb : Tab} (h : HasC tb) (n : Nat) {lot : List Box} (hlot : lot.length ≤ 100) (a wait : Int) :
    ev ⟨callN tb (n + 1), true⟩ [some (0, lotD lot), some (0, .int a), some (0, .int wait), none, none, none, none, none, none] eNames = .ok (.list ((namesF lot a).map PyData.str)) := by
  refine ev_slc (l := none) (h := some 3) (x := .list (((lot.zipIdx.filter fun p => decide (drawnF a (40 + (p.2 : Int)) / 16 % 2 = 0)).map fun p => PyData.str p.1.1))) ?_ rfl rfl rfl rfl ?_
  · refine Eq.trans (ev_cmp1 (l := lot.zipIdx.map fun p => .tuple [.int (p.2 : Int), boxD p.1]) (k := fun x => match x with | .tuple [.int k, _] => decide (drawnF a (40 + k) / 16 % 2 = 0) | _ => false) (g := fun x => match x with | .tuple [_, .tuple [nm, _]] => nm | x => x) ?_ ?_ ?_) ?_
    · rw [← enm_lot]
      exact it_enm rfl rfl
    · intro x hx
      obtain ⟨p, hp, rfl⟩ := List.mem_map.mp hx
      refine ⟨[some (0, lotD lot), some (0, .int a), some (0, .int wait), none, none, some (0, .int (p.2 : Int)), some (0, boxD p.1), none, none], rfl, ev_cmpE (k := decide (drawnF a (40 + (p.2 : Int)) / 16 % 2 = 0)) (ev_bin (ev_bin (ev_fn rfl (evs_c rfl (evs_c (ev_bin rfl rfl rfl) rfl)) (drawn_ok h.h7 n a (40 + (p.2 : Int)))) rfl (div_ok ⟨by decide, by decide⟩)) rfl (mod_ok (by decide))) rfl ?_, fun _ => rfl⟩
      rfl
    · rw [List.length_map, List.length_zipIdx]
      show _ ≤ 16000000
      omega
    · rw [List.filter_map, List.map_map]
      rfl
  · have := cut_take (((lot.zipIdx.filter fun p => decide (drawnF a (40 + (p.2 : Int)) / 16 % 2 = 0)).map fun p => PyData.str p.1.1)) 3
    refine Eq.trans (congrArg (fun l => R.ok (PyData.list l)) this) ?_
    unfold namesF
    rw [List.map_take, List.map_map]
    rfl
def beginsF (m : Nat) (a wait : Int) : List Int := (List.range m).map fun (k : Nat) => drawnF a (60 + (k : Int)) / 16 % (wait + 1)
theorem begins_ev {tb : Tab} (h : HasC tb) (n : Nat) {lot : PyData} {o : Nat} (ho : o = 0 ∨ o = 1) (names : List Str) (hn : names.length ≤ 100) (a wait : Int) (hw : 0 ≤ wait) :
    ev ⟨callN tb (n + 1), true⟩ [some (0, lot), some (0, .int a), some (0, .int wait), some (o, .list (names.map PyData.str)), none, none, none, none, none] eBegins = .ok (.list ((beginsF names.length a wait).map PyData.int)) := by
  have hg : ev ⟨callN tb (n + 1), true⟩ [some (0, lot), some (0, .int a), some (0, .int wait), some (o, .list (names.map PyData.str)), none, none, none, none, none] (.b1 .len (.var 3)) = .ok (.int (names.length : Int)) := by
    refine ev_b1 (x := .list (names.map PyData.str)) ?_ rfl ?_
    · rcases ho with rfl | rfl <;> rfl
    · show R.ok (PyData.int ((names.map PyData.str).length : Nat)) = _
      rw [List.length_map]
  refine Eq.trans (ev_cmp0 (g := fun x => match x with | .int k => .int (drawnF a (60 + k) / 16 % (wait + 1)) | x => x) (it_rng hg ⟨by omega, by omega⟩) ?_ ?_) ?_
  · intro x hx
    obtain ⟨k, _, rfl⟩ := List.mem_map.mp hx
    refine ⟨[some (0, lot), some (0, .int a), some (0, .int wait), some (o, .list (names.map PyData.str)), none, some (0, .int (k : Int)), none, none, none], rfl, ev_bin (ev_bin (ev_fn rfl (evs_c rfl (evs_c (ev_bin rfl rfl rfl) rfl)) (drawn_ok h.h7 n a (60 + (k : Int)))) rfl (div_ok ⟨by decide, by decide⟩)) (ev_bin rfl rfl rfl) (mod_ok (by omega))⟩
  · rw [List.length_map, List.length_range]
    show _ ≤ 16000000
    omega
  · unfold beginsF
    rw [List.map_map, List.map_map, Int.toNat_natCast]
    rfl
end TD
/-! Drawn calls answer. -/
namespace TD
open PySem
theorem zip_enc : ∀ (names : List Str) (bs : List Int), zipD (names.map PyData.str) (bs.map PyData.int) = (names.zip bs).map callD
  | [], _ => rfl
  | _ :: _, [] => rfl
  | a :: r, b :: t => by
    show PyData.tuple [.str a, .int b] :: zipD (r.map PyData.str) (t.map PyData.int) = _
    rw [zip_enc r t]
    rfl
theorem calls_ev {c : C} (hc : c.nl = true) {lot a w : PyData} (names : List Str) (bs : List Int) (hn : names.length ≤ 100) :
    ev c [some (0, lot), some (0, a), some (0, w), some (0, .list (names.map PyData.str)), some (0, .list (bs.map PyData.int)), none, none, none, none] eCalls = .ok (callsD ((names.zip bs).map fun p => (p.1, p.2 - mnI bs))) := by
  refine ev_b1 (x := .list (((names.zip bs).map fun p => (p.1, p.2 - mnI bs)).map callD)) ?_ (by rw [hc]; rfl) rfl
  refine Eq.trans (ev_cmp0 (l := (names.zip bs).map callD) (g := fun x => match x with | .tuple [nm, .int k] => .tuple [nm, .int (k - mnI bs)] | x => x) ?_ ?_ ?_) ?_
  · rw [← zip_enc]
    exact it_zip rfl rfl rfl rfl
  · intro x hx
    obtain ⟨p, hp, rfl⟩ := List.mem_map.mp hx
    have hne : bs ≠ [] := List.ne_nil_of_mem (List.of_mem_zip hp).2
    refine ⟨[some (0, lot), some (0, a), some (0, w), some (0, .list (names.map PyData.str)), some (0, .list (bs.map PyData.int)), none, none, some (0, .str p.1), some (0, .int p.2)], rfl, ev_tup (evs_c rfl (evs_c (ev_bin rfl (ev_b1 rfl (by rw [hc]; rfl) (min_of hne)) rfl) rfl))⟩
  · rw [List.length_map, List.length_zip]
    show _ ≤ 16000000
    omega
  · rw [List.map_map, List.map_map]
    rfl
theorem calls_ok {tb : Tab} (h : HasC tb) (n : Nat) {lot : List Box} (hlot : lot.length ≤ 100) (a wait : Int) (hw : 0 ≤ wait) : ∃ cs, DrawnC lot wait cs ∧ callN tb (n + 2) 12 [lotD lot, .int a, .int wait] = .ok (callsD cs) := by
  have hn3 : (namesF lot a).length ≤ 3 := by
    unfold namesF
    rw [List.length_take]
    exact Nat.min_le_left _ _
  have hbl : (beginsF (namesF lot a).length a wait).length = (namesF lot a).length := by
    unfold beginsF
    rw [List.length_map, List.length_range]
  have hsub : (namesF lot a).Sublist (lot.map (·.1)) := by
    refine (List.take_sublist _ _).trans ?_
    have e2 : lot.map (·.1) = lot.zipIdx.map fun p => p.1.1 := by
      rw [show (fun p : Box × Nat => p.1.1) = (fun b : Box => b.1) ∘ Prod.fst from rfl, ← List.map_map, List.zipIdx_map_fst]
    rw [e2]
    exact List.Sublist.map _ List.filter_sublist
  have hbs : ∀ b ∈ beginsF (namesF lot a).length a wait, 0 ≤ b ∧ b ≤ wait := fun b hb => by
    obtain ⟨k, _, rfl⟩ := List.mem_map.mp hb
    have e1 := Int.emod_nonneg (drawnF a (60 + (k : Int)) / 16) (show wait + 1 ≠ 0 by omega)
    have e2 := Int.emod_lt_of_pos (drawnF a (60 + (k : Int)) / 16) (show 0 < wait + 1 by omega)
    omega
  have h1 := names_ev h n hlot a wait
  have h2 := fun (o : Nat) (ho : o = 0 ∨ o = 1) => begins_ev h n (lot := lotD lot) ho (namesF lot a) (by omega) a wait hw
  have h3 := calls_ev (c := ⟨callN tb (n + 1), true⟩) rfl (lot := lotD lot) (a := .int a) (w := .int wait) (namesF lot a) (beginsF (namesF lot a).length a wait) (by omega)
  revert h1 h2 h3 hsub hbs hbl hn3
  generalize namesF lot a = names
  generalize beginsF names.length a wait = bs
  intro hn3 hbl hsub hbs h1 h2 h3
  refine ⟨(names.zip bs).map fun p => (p.1, p.2 - mnI bs), ⟨?_, ?_, fun c hc => ?_, fun h0 => ?_⟩, ?_⟩
  · rw [List.length_map, List.length_zip]
    omega
  · rw [List.map_map]
    have e : ((fun x : Str × Int => x.1) ∘ fun p : Str × Int => (p.1, p.2 - mnI bs)) = Prod.fst := rfl
    rw [e, List.map_fst_zip (by omega)]
    exact hsub
  · obtain ⟨p, hp, rfl⟩ := List.mem_map.mp hc
    have hm := (List.of_mem_zip hp).2
    have h1 := hbs _ hm
    have h2 := mnI_le hm
    have h3 : 0 ≤ mnI bs := (hbs _ (mnI_mem (List.ne_nil_of_mem hm))).1
    show 0 ≤ p.2 - mnI bs ∧ p.2 - mnI bs ≤ wait
    omega
  · have hb : bs ≠ [] := fun z => h0 (by rw [z, List.zip_nil_right]; rfl)
    have hm := mnI_mem hb
    have e : (names.zip bs).map Prod.snd = bs := List.map_snd_zip (by omega)
    have hm2 : mnI bs ∈ (names.zip bs).map Prod.snd := by
      rw [e]
      exact hm
    obtain ⟨p, hp, hq⟩ := List.mem_map.mp hm2
    exact ⟨_, List.mem_map.mpr ⟨p, hp, rfl⟩, by show p.2 - mnI bs = 0; omega⟩
  · rw [callN_at h.h12]
    refine run_rt rfl ?_
    refine xs_nx (ρ' := [some (0, lotD lot), some (0, .int a), some (0, .int wait), some (0, .list (names.map PyData.str)), none, none, none, none, none]) (x_asg h1 rfl) ?_
    refine xs_nx (ρ' := [some (0, lotD lot), some (0, .int a), some (0, .int wait), some (0, .list (names.map PyData.str)), some (1, .list (bs.map PyData.int)), none, none, none, none]) (x_asg (h2 0 (.inl rfl)) rfl) ?_
    exact xs_rt (x_ret h3)
/-- what made calls are -/
structure Made (lot : List Box) (wait : Int) (cs : List (Str × Int)) : Prop where
  few : cs.length ≤ 3
  sub : (cs.map (·.1)).Sublist (lot.map (·.1))
  beg : ∀ c ∈ cs, 0 ≤ c.2 ∧ c.2 ≤ wait
  fst : ∀ c r, cs = c :: r → c.2 = 0
theorem dOk_calls (k : Nat) (cs : List (Str × Int)) : dOk (k + 2) (callsD cs) = true := by
  show (cs.map callD).all (dOk (k + 1)) = true
  refine List.all_eq_true.mpr fun x hx => ?_
  obtain ⟨c, _, rfl⟩ := List.mem_map.mp hx
  cases k <;> rfl
theorem ne_none (cs : List (Str × Int)) : cmpB .NotEq (callsD cs) (.tuple []) = .ok (!cs.isEmpty) := by
  show notR (gd (dOk 9 (callsD cs) && true) (R.ok (PyData.eqvAll (cs.map callD) []))) = _
  rw [dOk_calls]
  cases cs <;> rfl
theorem eq_none (cs : List (Str × Int)) : cmpB .Eq (callsD cs) (.tuple []) = .ok cs.isEmpty := by
  show gd (dOk 9 (callsD cs) && true) (R.ok (PyData.eqvAll (cs.map callD) [])) = _
  rw [dOk_calls]
  cases cs <;> rfl
theorem idx_0 (x : PyData) (xs : List PyData) : idxD (.tuple (x :: xs)) (.int 0) = .ok x := by
  show op (L2.atI (x :: xs) ((0 : Nat) : Int)) = _
  rw [L2.atI_nat (j := 0) rfl]
  rfl
theorem made_ok {tb : Tab} (h : HasC tb) (h55 : tb 55 = some f__law_made_calls) (n : Nat) {lot : List Box} (hlot : lot.length ≤ 100) (a wait : Int) (hw : 0 ≤ wait) : ∃ cs, Made lot wait cs ∧ callN tb (n + 3) 55 [lotD lot, .int a, .int wait, .int 3] = .ok (callsD cs) := by
  obtain ⟨cs, d, e⟩ := calls_ok h n hlot a wait hw
  have h1 : ev ⟨callN tb (n + 2), true⟩ [some (0, lotD lot), some (0, .int a), some (0, .int wait), some (0, .int 3), none] (.slc (.fn 12 (.cons (.var 0) (.cons (.var 1) (.cons (.var 2) .nil)))) .non (.var 3)) = .ok (callsD cs) := by
    refine ev_slc (l := none) (h := some 3) (ev_fn rfl (evs_c rfl (evs_c rfl (evs_c rfl rfl))) e) rfl rfl rfl rfl ?_
    refine Eq.trans (congrArg (fun l => R.ok (PyData.tuple l)) (cut_take (cs.map callD) 3)) ?_
    rw [List.take_of_length_le (by rw [List.length_map]; exact d.few)]
    rfl
  rw [callN_at h55]
  cases cs with
  | nil =>
    refine ⟨[], ⟨Nat.zero_le _, List.nil_sublist _, fun c hc => absurd hc List.not_mem_nil, fun c r z => nomatch z⟩, ?_⟩
    refine run_rt rfl (xs_nx (ρ' := [some (0, lotD lot), some (0, .int a), some (0, .int wait), some (0, .int 3), some (0, callsD [])]) (x_asg h1 rfl) (xs_nx (x_if (k := false) (ev_cmpE rfl rfl (ne_none [])) rfl) (xs_rt (x_ret rfl))))
  | cons c r =>
    refine ⟨(c.1, 0) :: r, ⟨d.few, d.sub, fun x hx => ?_, fun x t z => ?_⟩, ?_⟩
    · rcases List.mem_cons.mp hx with rfl | hx
      · exact ⟨Int.le_refl _, hw⟩
      · exact d.beg x (List.mem_cons_of_mem _ hx)
    · cases z
      rfl
    · refine run_rt rfl (xs_nx (ρ' := [some (0, lotD lot), some (0, .int a), some (0, .int wait), some (0, .int 3), some (0, callsD (c :: r))]) (x_asg h1 rfl) (xs_nx (ρ' := [some (0, lotD lot), some (0, .int a), some (0, .int wait), some (0, .int 3), some (0, callsD ((c.1, 0) :: r))]) (x_if (k := true) (ev_cmpE rfl rfl (ne_none (c :: r))) (xs_nx (x_asg (x := callsD ((c.1, 0) :: r)) (ev_bin (y := callsD r) (ev_tup (evs_c (ev_tup (evs_c (ev_idx (x := callD c) (z := .str c.1) (ev_idx rfl rfl (idx_0 _ _)) rfl (idx_0 _ _)) (evs_c rfl rfl))) rfl)) (ev_slc (l := some 1) (h := none) rfl rfl rfl rfl rfl ?_) ?_) rfl) rfl)) (xs_rt (x_ret rfl))))
      · exact congrArg (fun l => R.ok (PyData.tuple l)) (cut_drop ((c :: r).map callD) 1)
      · refine gd_t (decide_eq_true ?_)
        have := d.few
        rw [List.length_map]
        show 1 + r.length ≤ 16000000
        have : r.length + 1 ≤ 3 := this
        omega
end TD
/-! Plain facts about beats and what is heard. -/
namespace TD
open PySem
/-- a text of taps and quiet that begins and ends with a tap -/
structure Tapped (l : List Nat) : Prop where
  hd : l[0]? = some 49
  lt : ∀ x, l.getLast? = some x → x = 49
  ne : l ≠ []
  al : ∀ x ∈ l, x = 48 ∨ x = 49
theorem Tapped.app {l m s : List Nat} (a : Tapped l) (b : Tapped m) (hs : ∀ x ∈ s, x = 48 ∨ x = 49) : Tapped (l ++ s ++ m) := by
  refine ⟨?_, fun x hx => ?_, ?_, fun x hx => ?_⟩
  · cases l with
    | nil => exact absurd rfl a.ne
    | cons y r => exact a.hd
  · rw [List.getLast?_append] at hx
    cases q : m.getLast? with
    | none => exact absurd (List.getLast?_eq_none_iff.mp q) b.ne
    | some y =>
      rw [q] at hx
      cases hx
      exact b.lt _ q
  · intro z
    have z := List.append_eq_nil_iff.mp z
    exact b.ne z.2
  · rcases List.mem_append.mp hx with hx | hx
    · rcases List.mem_append.mp hx with hx | hx
      · exact a.al x hx
      · exact hs x hx
    · exact b.al x hx
theorem tapped_join {s : List Nat} (hs : ∀ x ∈ s, x = 48 ∨ x = 49) : ∀ {xs : List (List Nat)}, xs ≠ [] → (∀ x ∈ xs, Tapped x) → Tapped (joinN s xs)
  | [], h, _ => absurd rfl h
  | [x], _, h => h x List.mem_cons_self
  | x :: y :: r, _, h => Tapped.app (h x List.mem_cons_self) (tapped_join hs (List.cons_ne_nil _ _) fun z hz => h z (List.mem_cons_of_mem _ hz)) hs
theorem tapped_one : Tapped [49] := ⟨rfl, fun x h => by cases h; rfl, List.cons_ne_nil _ _, fun x h => by rw [List.mem_singleton.mp h]; exact .inr rfl⟩
theorem tapped_beat {c : Int} (h : 1 ≤ c) : Tapped (beatL c) := by
  refine tapped_join (fun x hx => by rw [List.mem_singleton.mp hx]; exact .inl rfl) ?_ fun x hx => ?_
  · intro z
    have := congrArg List.length z
    rw [List.length_map, rep_len] at this
    simp at this
    omega
  · obtain ⟨y, hy, rfl⟩ := List.mem_map.mp hx
    unfold rep at hy
    obtain ⟨l, hl, hy⟩ := List.mem_flatten.mp hy
    rw [List.eq_of_mem_replicate hl] at hy
    rw [List.mem_singleton.mp hy]
    exact tapped_one
theorem tapped_beats {ns : List Int} (h : numOk ns) : Tapped (beatsL ns) := by
  refine tapped_join (fun x hx => ?_) ?_ fun x hx => ?_
  · simp at hx
    exact .inl hx
  · intro z
    have := congrArg List.length z
    rw [List.length_map] at this
    have h1 := h.1
    rw [this] at h1
    exact absurd h1 (by decide)
  · obtain ⟨c, hc, rfl⟩ := List.mem_map.mp hx
    exact tapped_beat (h.2.2 c hc).1
theorem tapped_of {lot : List Box} (hl : LotOk lot) {nm : Str} {ns : List Int} (hm : (nm, ns) ∈ lot) : Tapped (beatsOf lot nm) := by
  unfold beatsOf
  rw [numOf_eq hl.nd hm]
  exact tapped_beats (hl.nums _ hm)
/-! ### what is heard -/
theorem hearL_len (ts : List Int) : (hearL ts).length = (mx ts + 1).toNat := by
  unfold hearL
  rw [List.length_map, List.length_range]
theorem hearL_get {ts : List Int} {i : Nat} (h : i < (mx ts + 1).toNat) : (hearL ts)[i]? = some (if (i : Int) ∈ ts then 49 else 48) := by
  unfold hearL
  rw [List.getElem?_map, List.getElem?_range h]
  rfl
theorem mx_ge {ts : List Int} {t : Int} (h : t ∈ ts) : t ≤ mx ts := (fmax_ge ts (-1)).2 t h
theorem mx_lo (ts : List Int) : -1 ≤ mx ts := (fmax_ge ts (-1)).1
theorem mx_eq {ts : List Int} {m : Int} (h1 : m ∈ ts) (h2 : ∀ t ∈ ts, t ≤ m) (h3 : -1 ≤ m) : mx ts = m := by
  have a := mx_ge h1
  rcases fmax_mem ts (-1) with e | e
  · have e : mx ts = -1 := e
    omega
  · have := h2 _ e
    have e : mx ts ≤ m := this
    omega
theorem hear_tap {ts : List Int} {i : Nat} : (hearL ts)[i]? = some 49 ↔ (i : Int) ∈ ts := by
  constructor
  · intro h
    have hi : i < (mx ts + 1).toNat := by
      have := (List.getElem?_eq_some_iff.mp h).1
      rw [hearL_len] at this
      exact this
    rw [hearL_get hi] at h
    by_cases hm : (i : Int) ∈ ts
    · exact hm
    · rw [if_neg hm] at h
      cases h
  · intro h
    have := mx_ge h
    rw [hearL_get (by omega), if_pos h]
theorem last_at {l : List Nat} (h : Tapped l) : l[l.length - 1]? = some 49 := by
  cases q : l.getLast? with
  | none => exact absurd (List.getLast?_eq_none_iff.mp q) h.ne
  | some x =>
    rw [← List.getLast?_eq_getElem?, q, h.lt x q]
theorem mx_taps {b : Int} {l : List Nat} (h : Tapped l) (hb : 0 ≤ b) : mx (tapsIn b l) = b + (l.length : Int) - 1 := by
  have hp := List.length_pos_iff.mpr h.ne
  refine mx_eq (mem_tapsIn.mpr ⟨l.length - 1, last_at h, by omega⟩) (fun t ht => ?_) (by omega)
  obtain ⟨i, hi, rfl⟩ := mem_tapsIn.mp ht
  have := (List.getElem?_eq_some_iff.mp hi).1
  omega
theorem hear_self {l : List Nat} (h : Tapped l) : hearL (tapsIn 0 l) = l := by
  have hm := mx_taps h (Int.le_refl 0)
  have hp := List.length_pos_iff.mpr h.ne
  refine List.ext_getElem? fun i => ?_
  by_cases hi : i < l.length
  · rw [hearL_get (by omega), List.getElem?_eq_getElem hi]
    by_cases ht : (i : Int) ∈ tapsIn 0 l
    · rw [if_pos ht]
      obtain ⟨j, hj, e⟩ := mem_tapsIn.mp ht
      have : j = i := by omega
      subst this
      rw [List.getElem?_eq_getElem hi] at hj
      rw [hj]
    · rw [if_neg ht]
      rcases h.al _ (List.getElem_mem hi) with e | e
      · rw [e]
      · exact absurd (mem_tapsIn.mpr ⟨i, by rw [List.getElem?_eq_getElem hi, e], by omega⟩) ht
  · rw [List.getElem?_eq_none (by rw [hearL_len]; omega), List.getElem?_eq_none (by omega)]
end TD
/-! Steps of the evaluator, found by themselves. -/
namespace TD
open PySem
section
variable {c : C} {ρ ρ' ρ1 : Env} {a b d e : E} {x y z p q : PyData}
theorem ev_varE {i : Nat} (h : Env.get ρ i = .ok x) : ev c ρ (.var i) = .ok x := h
theorem ev_cstE : ev c ρ (.cst x) = .ok x := rfl
theorem ev_nonE : ev c ρ .non = .ok .none := rfl
theorem ev_dicE : ev c ρ .dic = .ok (.dict []) := rfl
theorem ev_notE {k : Bool} (h : ev c ρ a = .ok (.bool k)) : ev c ρ (.not a) = .ok (.bool (!k)) := by
  show (ev c ρ a >>= fun d => boolD d >>= fun k => R.ok (PyData.bool (!k))) = _
  rw [h]
  rfl
theorem ev_negE {i : Int} (h : ev c ρ a = .ok (.int i)) : ev c ρ (.neg a) = .ok (.int (-i)) := by
  show (ev c ρ a >>= fun d => negD d) = _
  rw [h]
  rfl
theorem ev_andE {k m : Bool} (h1 : ev c ρ a = .ok (.bool k)) (h2 : k = true → ev c ρ b = .ok (.bool m)) : ev c ρ (.and a b) = .ok (.bool (k && m)) := by
  cases k with
  | true => exact ev_andT h1 (h2 rfl)
  | false => exact ev_andF h1
theorem ev_orE {k m : Bool} (h1 : ev c ρ a = .ok (.bool k)) (h2 : k = false → ev c ρ b = .ok (.bool m)) : ev c ρ (.or a b) = .ok (.bool (k || m)) := by
  cases k with
  | true => exact ev_orT h1
  | false => exact ev_orF h1 (h2 rfl)
theorem ev_chnE {o o' : CmpOp} {k m : Bool} (ha : ev c ρ a = .ok x) (hb : ev c ρ b = .ok y) (h1 : cmpB o x y = .ok k) (hd : k = true → ev c ρ d = .ok z) (h2 : k = true → cmpB o' y z = .ok m) : ev c ρ (.chn o o' a b d) = .ok (.bool (k && m)) := by
  show (ev c ρ a >>= fun x => ev c ρ b >>= fun y => cmpB o x y >>= fun k => match k with | true => (ev c ρ d >>= fun z => cmpB o' y z >>= fun m => R.ok (PyData.bool m)) | false => R.ok (PyData.bool false)) = _
  rw [ha, hb]
  show (cmpB o x y >>= fun k => match k with | true => (ev c ρ d >>= fun z => cmpB o' y z >>= fun m => R.ok (PyData.bool m)) | false => R.ok (PyData.bool false)) = _
  rw [h1]
  cases k with
  | false => rfl
  | true =>
    show (ev c ρ d >>= fun z => cmpB o' y z >>= fun m => R.ok (PyData.bool m)) = _
    rw [hd rfl]
    show (cmpB o' y z >>= fun m => R.ok (PyData.bool m)) = _
    rw [h2 rfl]
    rfl
theorem evs_n : evs c ρ .nil = .ok [] := rfl
theorem ev_mxE {i j : Int} (h1 : ev c ρ a = .ok (.int i)) (h2 : ev c ρ b = .ok (.int j)) : ev c ρ (.mx a b) = .ok (.int (max i j)) := by
  show (ev c ρ a >>= fun x => intOf x >>= fun i => ev c ρ b >>= fun y => intOf y >>= fun j => R.ok (PyData.int (if j > i then j else i))) = _
  rw [h1]
  show (ev c ρ b >>= fun y => intOf y >>= fun j => R.ok (PyData.int (if j > i then j else i))) = _
  rw [h2]
  show R.ok (PyData.int (if j > i then j else i)) = _
  congr 2
  split <;> omega
theorem ev_cmp0M {α : Type} {t : T} {it : I} {L : List α} {enc g : α → PyData} (h1 : evi c ρ it = .ok (false, L.map enc)) (hl : L.length ≤ SZ) (h2 : ∀ y, y ∈ L → ∃ ρ', bindT t (enc y) (wipeE ρ t.slots) = .ok ρ' ∧ ev c ρ' a = .ok (g y)) : ev c ρ (.cmp0 a t it) = .ok (.list (L.map g)) := by
  show (evi c ρ it >>= fun p => collect (fun x => do
      let ρ' ← bindT t x (wipeE ρ t.slots)
      let y ← ev (if p.1 then c.lock else c) ρ' a
      R.ok (some y)) p.2 >>= fun xs => gd (decide (p.2.length ≤ SZ)) (R.ok (PyData.list xs))) = _
  rw [h1]
  show (collect (fun x => do
      let ρ' ← bindT t x (wipeE ρ t.slots)
      let y ← ev c ρ' a
      R.ok (some y)) (L.map enc) >>= fun xs => gd (decide ((L.map enc).length ≤ SZ)) (R.ok (PyData.list xs))) = _
  rw [List.length_map, decide_eq_true hl]
  have key : ∀ M : List α, (∀ y ∈ M, y ∈ L) → collect (fun x => do
      let ρ' ← bindT t x (wipeE ρ t.slots)
      let y ← ev c ρ' a
      R.ok (some y)) (M.map enc) = .ok (M.map g) := by
    intro M
    induction M with
    | nil => intro _; rfl
    | cons y r ih =>
      intro hM
      obtain ⟨ρ', e1, e2⟩ := h2 y (hM y List.mem_cons_self)
      show ((bindT t (enc y) (wipeE ρ t.slots) >>= fun ρ' => ev c ρ' a >>= fun y => R.ok (some y)) >>= fun o => collect _ (r.map enc) >>= fun rs => R.ok (match o with | some y => y :: rs | none => rs)) = _
      rw [ih fun z hz => hM z (List.mem_cons_of_mem _ hz), e1]
      show ((ev c ρ' a >>= fun y => R.ok (some y)) >>= fun o => R.ok (match o with | some z => z :: r.map g | none => r.map g)) = _
      rw [e2]
      rfl
  rw [key L fun y hy => hy]
  rfl
theorem ev_cmp1M {α : Type} {t : T} {it : I} {L : List α} {enc g : α → PyData} {k : α → Bool} (h1 : evi c ρ it = .ok (false, L.map enc)) (hl : L.length ≤ SZ) (h2 : ∀ y, y ∈ L → ∃ ρ', bindT t (enc y) (wipeE ρ t.slots) = .ok ρ' ∧ ev c ρ' b = .ok (.bool (k y)) ∧ (k y = true → ev c ρ' a = .ok (g y))) : ev c ρ (.cmp1 a t it b) = .ok (.list ((L.filter k).map g)) := by
  show (evi c ρ it >>= fun p => collect (fun x => do
      let ρ' ← bindT t x (wipeE ρ t.slots)
      match ← boolD (← ev (if p.1 then c.lock else c) ρ' b) with
      | true => do R.ok (some (← ev (if p.1 then c.lock else c) ρ' a))
      | false => R.ok none) p.2 >>= fun xs => gd (decide (p.2.length ≤ SZ)) (R.ok (PyData.list xs))) = _
  rw [h1]
  show (collect (fun x => do
      let ρ' ← bindT t x (wipeE ρ t.slots)
      match ← boolD (← ev c ρ' b) with
      | true => do R.ok (some (← ev c ρ' a))
      | false => R.ok none) (L.map enc) >>= fun xs => gd (decide ((L.map enc).length ≤ SZ)) (R.ok (PyData.list xs))) = _
  rw [List.length_map, decide_eq_true hl]
  have key : ∀ M : List α, (∀ y ∈ M, y ∈ L) → collect (fun x => do
      let ρ' ← bindT t x (wipeE ρ t.slots)
      match ← boolD (← ev c ρ' b) with
      | true => do R.ok (some (← ev c ρ' a))
      | false => R.ok none) (M.map enc) = .ok ((M.filter k).map g) := by
    intro M
    induction M with
    | nil => intro _; rfl
    | cons y r ih =>
      intro hM
      obtain ⟨ρ', e1, e2, e3⟩ := h2 y (hM y List.mem_cons_self)
      show ((bindT t (enc y) (wipeE ρ t.slots) >>= fun ρ' => ev c ρ' b >>= fun d => boolD d >>= fun k => match k with | true => (ev c ρ' a >>= fun y => R.ok (some y)) | false => R.ok none) >>= fun o => collect _ (r.map enc) >>= fun rs => R.ok (match o with | some y => y :: rs | none => rs)) = _
      rw [ih fun z hz => hM z (List.mem_cons_of_mem _ hz), e1]
      show ((ev c ρ' b >>= fun d => boolD d >>= fun k => match k with | true => (ev c ρ' a >>= fun y => R.ok (some y)) | false => R.ok none) >>= fun o => R.ok (match o with | some z => z :: (r.filter k).map g | none => (r.filter k).map g)) = _
      rw [e2, List.filter_cons]
      cases q : k y with
      | false => rfl
      | true =>
        show ((ev c ρ' a >>= fun y => R.ok (some y)) >>= fun o => R.ok (match o with | some z => z :: (r.filter k).map g | none => (r.filter k).map g)) = _
        rw [e3 q]
        rfl
  rw [key L fun y hy => hy]
  rfl
theorem it_rng2 {lo hi : Int} (h1 : ev c ρ a = .ok (.int lo)) (h2 : ev c ρ b = .ok (.int hi)) (hn : -1000000 ≤ lo ∧ lo ≤ 1000000 ∧ -1000000 ≤ hi ∧ hi ≤ 1000000) : evi c ρ (.rng2 a b) = .ok (false, (List.range (hi - lo).toNat).map fun (k : Nat) => .int (lo + (k : Int))) := by
  show (ev c ρ a >>= fun d => intOf d >>= fun i => ev c ρ b >>= fun d => intOf d >>= fun j => rngD i j >>= fun l => R.ok (false, l)) = _
  rw [h1]
  show (ev c ρ b >>= fun d => intOf d >>= fun j => rngD lo j >>= fun l => R.ok (false, l)) = _
  rw [h2]
  show (rngD lo hi >>= fun l => R.ok (false, l)) = _
  unfold rngD
  rw [decide_eq_true (by omega)]
  rfl
theorem x_asgT {is : List Nat} (h1 : ev c (frz (gens e) ρ) e = .ok x) (h2 : bindA is x (frz (gens e) ρ) = .ok ρ') : ex c ρ (.asg (.tp is) e) = .ok (.nx ρ') := by
  show (evT c (frz (gens e) ρ) e >>= fun d => bindA is d (frz (gens e) ρ) >>= fun ρ' => R.ok (Fl.nx ρ')) = _
  rw [evT_ok h1]
  show (bindA is x (frz (gens e) ρ) >>= fun ρ' => R.ok (Fl.nx ρ')) = _
  rw [h2]
  rfl
theorem x_par {i j : Nat} (h1 : ev c (frz (gens a ++ gens b) ρ) a = .ok x) (h2 : ev c (frz (gens a ++ gens b) ρ) b = .ok y) (h3 : Env.put (frz (gens a ++ gens b) ρ) i 0 x = .ok ρ1) (h4 : Env.put ρ1 j 0 y = .ok ρ') : ex c ρ (.par i j a b) = .ok (.nx ρ') := by
  show (nE (ev c (frz (gens a ++ gens b) ρ) a) >>= fun x => nE (ev c (frz (gens a ++ gens b) ρ) b) >>= fun y => Env.put (frz (gens a ++ gens b) ρ) i 0 x >>= fun ρ1 => Env.put ρ1 j 0 y >>= fun ρ' => R.ok (Fl.nx ρ')) = _
  rw [nE_of h1, nE_of h2]
  show (Env.put (frz (gens a ++ gens b) ρ) i 0 x >>= fun ρ1 => Env.put ρ1 j 0 y >>= fun ρ' => R.ok (Fl.nx ρ')) = _
  rw [h3]
  show (Env.put ρ1 j 0 y >>= fun ρ' => R.ok (Fl.nx ρ')) = _
  rw [h4]
  rfl
theorem x_ext {i : Nat} {xs : List PyData} (h1 : ev c (frz (gens e) ρ) e = .ok (.list xs)) (h2 : appSlot (frz (gens e) ρ) i xs = .ok ρ') : ex c ρ (.ext i e) = .ok (.nx ρ') := by
  show (nE (ev c (frz (gens e) ρ) e) >>= fun d => listOf d >>= fun l => appSlot (frz (gens e) ρ) i l >>= fun ρ' => R.ok (Fl.nx ρ')) = _
  rw [nE_of h1]
  show (appSlot (frz (gens e) ρ) i xs >>= fun ρ' => R.ok (Fl.nx ρ')) = _
  rw [h2]
  rfl
theorem x_exp (h1 : ev c (frz (gens e) ρ) e = .ok x) : ex c ρ (.exp e) = .ok (.nx (frz (gens e) ρ)) := by
  show (evT c (frz (gens e) ρ) e >>= fun d => R.ok (Fl.nx (frz (gens e) ρ))) = _
  rw [evT_ok h1]
  rfl
/-- a loop whose turns change a state -/
theorem loop_fold {α σ : Type} {f : PyData → Env → R Fl} {ρ0 : Env} {enc : α → PyData} (st : σ → Env) (step : σ → α → σ) (J : σ → List α → Prop) : ∀ {L : List α} {s : σ}, J s L → (∀ s y r, J s (y :: r) → J (step s y) r ∧ ∃ ρ', (f (enc y) (st s) = .ok (.nx ρ') ∨ f (enc y) (st s) = .ok (.ct ρ')) ∧ restr ρ0 ρ' = st (step s y)) → loop f ρ0 (L.map enc) (st s) = .ok (.nx (st (L.foldl step s))) ∧ J (L.foldl step s) []
  | [], s, h, _ => ⟨rfl, h⟩
  | y :: r, s, h, hs => by
    obtain ⟨h1, ρ', h2, h3⟩ := hs s y r h
    obtain ⟨h4, h5⟩ := loop_fold st step J (L := r) h1 hs
    refine ⟨?_, h5⟩
    show (f (enc y) (st s) >>= fun fl => match fl with | .nx ρ' => loop f ρ0 (r.map enc) (restr ρ0 ρ') | .ct ρ' => loop f ρ0 (r.map enc) (restr ρ0 ρ') | .rt v => R.ok (Fl.rt v)) = _
    rcases h2 with h2 | h2
    · rw [h2]
      show loop f ρ0 (r.map enc) (restr ρ0 ρ') = _
      rw [h3]
      exact h4
    · rw [h2]
      show loop f ρ0 (r.map enc) (restr ρ0 ρ') = _
      rw [h3]
      exact h4
/-- a loop whose turns leave all as it was -/
theorem loop_same {α : Type} {f : PyData → Env → R Fl} {ρ0 : Env} {enc : α → PyData} : ∀ {L : List α}, (∀ y, y ∈ L → ∃ ρ', (f (enc y) ρ0 = .ok (.nx ρ') ∨ f (enc y) ρ0 = .ok (.ct ρ')) ∧ restr ρ0 ρ' = ρ0) → loop f ρ0 (L.map enc) ρ0 = .ok (.nx ρ0)
  | [], _ => rfl
  | y :: r, hs => by
    obtain ⟨ρ', h2, h3⟩ := hs y List.mem_cons_self
    have h4 := loop_same (L := r) fun z hz => hs z (List.mem_cons_of_mem _ hz)
    show (f (enc y) ρ0 >>= fun fl => match fl with | .nx ρ' => loop f ρ0 (r.map enc) (restr ρ0 ρ') | .ct ρ' => loop f ρ0 (r.map enc) (restr ρ0 ρ') | .rt v => R.ok (Fl.rt v)) = _
    rcases h2 with h2 | h2
    · rw [h2]
      show loop f ρ0 (r.map enc) (restr ρ0 ρ') = _
      rw [h3]
      exact h4
    · rw [h2]
      show loop f ρ0 (r.map enc) (restr ρ0 ρ') = _
      rw [h3]
      exact h4
end
end TD
/-! Statements run forward. -/
namespace TD
open PySem
structure Wp (x : R Fl) (Q : R Fl → Prop) : Prop where
  h : Q x
def thn (c : C) (r : Ss) (Q : R Fl → Prop) : R Fl → Prop
  | .ok (.nx ρ) => Wp (exs c ρ r) Q
  | x => Q x
/-- a turn's end -/
def trn (J : Env → Prop) (ρ0 : Env) (Q : R Fl → Prop) : R Fl → Prop
  | .ok (.nx ρ) => J (restr ρ0 ρ)
  | .ok (.ct ρ) => J (restr ρ0 ρ)
  | x => Q x
section
variable {c : C} {ρ ρ2 ρ1 : Env} {a b d e : E} {x y z p q : PyData} {Q : R Fl → Prop} {r : Ss} {i j : Nat}
theorem wp_eq {v : R Fl} (h : Wp (exs c ρ r) fun x => x = v) : exs c ρ r = v := h.h
theorem wp_bind {s : S} {k : R Fl} (h1 : ex c ρ s = k) (h2 : thn c r Q k) : Wp (exs c ρ (.cons s r)) Q := by
  refine ⟨?_⟩
  show Q (ex c ρ s >>= fun fl => match fl with | .nx ρ' => exs c ρ' r | .ct ρ' => R.ok (Fl.ct ρ') | .rt d => R.ok (Fl.rt d))
  rw [h1]
  match k, h2 with
  | .ok (.nx ρ), h2 => exact h2.h
  | .ok (.ct ρ), h2 => exact h2
  | .ok (.rt d), h2 => exact h2
  | .err k, h2 => exact h2
  | .bad, h2 => exact h2
theorem wp_nil (h : Q (.ok (.nx ρ))) : Wp (exs c ρ .nil) Q := ⟨h⟩
theorem wp_asg (hf : frz (gens e) ρ = ρ2) (h1 : ev c ρ2 e = .ok x) (h2 : Env.put ρ2 i (ownOf e x) x = .ok ρ1) (h3 : Wp (exs c ρ1 r) Q) : Wp (exs c ρ (.cons (.asg (.nm i) e) r)) Q :=
  wp_bind (k := .ok (.nx ρ1)) (x_asg (by rw [hf]; exact h1) (by rw [hf]; exact h2)) h3
theorem wp_asgT {is : List Nat} (hf : frz (gens e) ρ = ρ2) (h1 : ev c ρ2 e = .ok x) (h2 : bindA is x ρ2 = .ok ρ1) (h3 : Wp (exs c ρ1 r) Q) : Wp (exs c ρ (.cons (.asg (.tp is) e) r)) Q :=
  wp_bind (k := .ok (.nx ρ1)) (x_asgT (by rw [hf]; exact h1) (by rw [hf]; exact h2)) h3
theorem wp_par {ρ3 : Env} (hf : frz (gens a ++ gens b) ρ = ρ2) (h1 : ev c ρ2 a = .ok x) (h2 : ev c ρ2 b = .ok y) (h3 : Env.put ρ2 i 0 x = .ok ρ3) (h4 : Env.put ρ3 j 0 y = .ok ρ1) (h5 : Wp (exs c ρ1 r) Q) : Wp (exs c ρ (.cons (.par i j a b) r)) Q :=
  wp_bind (k := .ok (.nx ρ1)) (x_par (by rw [hf]; exact h1) (by rw [hf]; exact h2) (by rw [hf]; exact h3) h4) h5
theorem wp_seti {k : E} (hf : frz (gens k ++ gens e) ρ = ρ2) (h1 : ev c ρ2 e = .ok x) (h2 : ev c ρ2 k = .ok y) (h3 : setSlot ρ2 i y x = .ok ρ1) (h4 : Wp (exs c ρ1 r) Q) : Wp (exs c ρ (.cons (.seti i k e) r)) Q :=
  wp_bind (k := .ok (.nx ρ1)) (x_seti (by rw [hf]; exact h1) (by rw [hf]; exact h2) (by rw [hf]; exact h3)) h4
theorem wp_app (hf : frz (gens e) ρ = ρ2) (h1 : ev c ρ2 e = .ok x) (h2 : appSlot ρ2 i [x] = .ok ρ1) (h3 : Wp (exs c ρ1 r) Q) : Wp (exs c ρ (.cons (.app i e) r)) Q :=
  wp_bind (k := .ok (.nx ρ1)) (x_app (by rw [hf]; exact h1) (by rw [hf]; exact h2)) h3
theorem wp_ext {xs : List PyData} (hf : frz (gens e) ρ = ρ2) (h1 : ev c ρ2 e = .ok (.list xs)) (h2 : appSlot ρ2 i xs = .ok ρ1) (h3 : Wp (exs c ρ1 r) Q) : Wp (exs c ρ (.cons (.ext i e) r)) Q :=
  wp_bind (k := .ok (.nx ρ1)) (x_ext (by rw [hf]; exact h1) (by rw [hf]; exact h2)) h3
theorem wp_exp (hf : frz (gens e) ρ = ρ2) (h1 : ev c ρ2 e = .ok x) (h3 : Wp (exs c ρ2 r) Q) : Wp (exs c ρ (.cons (.exp e) r)) Q :=
  wp_bind (k := .ok (.nx (frz (gens e) ρ))) (x_exp (by rw [hf]; exact h1)) (by rw [hf]; exact h3)
theorem wp_ret (hf : frz (gens e) ρ = ρ2) (h1 : ev c ρ2 e = .ok x) (h3 : Q (.ok (.rt x))) : Wp (exs c ρ (.cons (.ret e) r)) Q :=
  wp_bind (k := .ok (.rt x)) (x_ret (by rw [hf]; exact h1)) h3
theorem wp_cont (h3 : Q (.ok (.ct ρ))) : Wp (exs c ρ (.cons .cont r)) Q := wp_bind (k := .ok (.ct ρ)) rfl h3
theorem wp_pass (h3 : Wp (exs c ρ r) Q) : Wp (exs c ρ (.cons .pass r)) Q := wp_bind (k := .ok (.nx ρ)) rfl h3
theorem wp_rse {k : Nat} (h3 : Q (.err k)) : Wp (exs c ρ (.cons (.rse k) r)) Q := wp_bind (k := .err k) rfl h3
theorem wp_if {k : Bool} {s1 s2 : Ss} (hf : frz (gens e) ρ = ρ2) (h1 : ev c ρ2 e = .ok (.bool k)) (h2 : k = true → Wp (exs c ρ2 s1) (thn c r Q)) (h3 : k = false → Wp (exs c ρ2 s2) (thn c r Q)) : Wp (exs c ρ (.cons (.ife e s1 s2) r)) Q := by
  refine wp_bind (x_if (by rw [hf]; exact h1) rfl) ?_
  rw [hf]
  cases k with
  | true => exact (h2 rfl).h
  | false => exact (h3 rfl).h
/-- a loop: J tells the environment by the items that are done -/
theorem wp_for {α : Type} {t : T} {it : I} {bd : Ss} {L : List α} {enc : α → PyData} (J : List α → Env → Prop) (hf : frz (gensI it) ρ = ρ2) (h1 : evi c ρ2 it = .ok (false, L.map enc)) (h0 : J [] ρ2) (hs : ∀ dn y rs ρ', L = dn ++ y :: rs → J dn ρ' → ∃ ρ3, bindT t (enc y) ρ' = .ok ρ3 ∧ Wp (exs c ρ3 bd) (trn (J (dn ++ [y])) ρ2 Q)) (hd : ∀ ρ', J L ρ' → Wp (exs c ρ' r) Q) : Wp (exs c ρ (.cons (.fore t it bd) r)) Q := by
  refine wp_bind (x_for (by rw [hf]; exact h1) rfl) ?_
  rw [hf]
  have key : ∀ (M dn : List α) (ρ' : Env), L = dn ++ M → J dn ρ' → thn c r Q (loop (fun x ρ' => do let ρ1 ← bindT t x ρ'; exs c ρ1 bd) ρ2 (M.map enc) ρ') := by
    intro M
    induction M with
    | nil =>
      intro dn ρ' e j
      rw [List.append_nil] at e
      exact hd ρ' (by rw [e]; exact j)
    | cons y M ih =>
      intro dn ρ' e j
      obtain ⟨ρ3, b1, b2⟩ := hs dn y M ρ' e j
      have ih' := fun ρ'' (j' : J (dn ++ [y]) ρ'') => ih (dn ++ [y]) ρ'' (by rw [e, List.append_assoc]; rfl) j'
      show thn c r Q ((bindT t (enc y) ρ' >>= fun ρ1 => exs c ρ1 bd) >>= fun fl => match fl with | .nx ρ' => loop (fun x ρ' => do let ρ1 ← bindT t x ρ'; exs c ρ1 bd) ρ2 (M.map enc) (restr ρ2 ρ') | .ct ρ' => loop (fun x ρ' => do let ρ1 ← bindT t x ρ'; exs c ρ1 bd) ρ2 (M.map enc) (restr ρ2 ρ') | .rt v => R.ok (Fl.rt v))
      rw [b1]
      show thn c r Q (exs c ρ3 bd >>= fun fl => match fl with | .nx ρ' => loop (fun x ρ' => do let ρ1 ← bindT t x ρ'; exs c ρ1 bd) ρ2 (M.map enc) (restr ρ2 ρ') | .ct ρ' => loop (fun x ρ' => do let ρ1 ← bindT t x ρ'; exs c ρ1 bd) ρ2 (M.map enc) (restr ρ2 ρ') | .rt v => R.ok (Fl.rt v))
      have b2 := b2.h
      revert b2
      match exs c ρ3 bd with
      | .ok (.nx ρ4) => exact fun b2 => ih' _ b2
      | .ok (.ct ρ4) => exact fun b2 => ih' _ b2
      | .ok (.rt v) => exact fun b2 => b2
      | .err k => exact fun b2 => b2
      | .bad => exact fun b2 => b2
  exact key L [] ρ2 rfl h0
/-- a loop that leaves all as it was -/
theorem wp_forS {α : Type} {t : T} {it : I} {bd : Ss} {L : List α} {enc : α → PyData} (hf : frz (gensI it) ρ = ρ2) (h1 : evi c ρ2 it = .ok (false, L.map enc)) (hs : ∀ y, y ∈ L → ∃ ρ3, bindT t (enc y) ρ2 = .ok ρ3 ∧ Wp (exs c ρ3 bd) (trn (· = ρ2) ρ2 Q)) (hd : Wp (exs c ρ2 r) Q) : Wp (exs c ρ (.cons (.fore t it bd) r)) Q :=
  wp_for (fun _ ρ' => ρ' = ρ2) hf h1 rfl (fun dn y rs ρ' e j => by
    rw [j]
    exact hs y (by rw [e]; simp)) (fun ρ' j => by rw [j]; exact hd)
theorem run_of {fn : Fn} {ds : List PyData} {v : PyData} (h0 : ds.length = fn.np) (h1 : Wp (exs c (startE fn.names.length ds) fn.body) fun x => x = .ok (.rt v)) : run c fn ds = .ok v := run_rt h0 h1.h
theorem run_err {fn : Fn} {ds : List PyData} {k : Nat} (h0 : ds.length = fn.np) (h1 : Wp (exs c (startE fn.names.length ds) fn.body) fun x => x = .err k) : run c fn ds = .err k := by
  show gd (decide (ds.length = fn.np)) (exs c (startE fn.names.length ds) fn.body >>= fun fl => match fl with | .rt d => R.ok d | .nx _ => R.ok PyData.none | .ct _ => R.bad) = _
  have h1 : exs c (startE fn.names.length ds) fn.body = .err k := h1.h
  rw [decide_eq_true h0, h1]
  rfl
end
end TD
/-! The operators by kinds. -/
namespace TD
open PySem
theorem dOk_up : ∀ (n : Nat) (d : PyData), dOk n d = true → dOk (n + 1) d = true
  | n, .none, _ => by cases n <;> rfl
  | n, .bool _, _ => by cases n <;> rfl
  | n, .int _, _ => by cases n <;> rfl
  | n, .str _, _ => by cases n <;> rfl
  | 0, .list _, h => by simp [dOk] at h
  | 0, .tuple _, h => by simp [dOk] at h
  | 0, .dict _, h => by simp [dOk] at h
  | _ + 1, .dict _, h => by simp [dOk] at h
  | n + 1, .list xs, h => by
    have h : xs.all (dOk n) = true := h
    show xs.all (dOk (n + 1)) = true
    exact List.all_eq_true.mpr fun x hx => dOk_up n x (List.all_eq_true.mp h x hx)
  | n + 1, .tuple xs, h => by
    have h : xs.all (dOk n) = true := h
    show xs.all (dOk (n + 1)) = true
    exact List.all_eq_true.mpr fun x hx => dOk_up n x (List.all_eq_true.mp h x hx)
theorem dOk_le {n m : Nat} {d : PyData} (h : n ≤ m) (hd : dOk n d = true) : dOk m d = true := by
  induction h with
  | refl => exact hd
  | step _ ih => exact dOk_up _ _ ih
/-- values of a kind: told apart, not deep -/
structure Nice {α : Type} (enc : α → PyData) (n : Nat) : Prop where
  eqv : ∀ a b, PyData.eqv (enc a) (enc b) = true ↔ a = b
  dk : ∀ a, dOk n (enc a) = true
theorem nice_int : Nice PyData.int 0 := ⟨fun a b => by show (a == b) = true ↔ _; exact beq_iff_eq, fun _ => rfl⟩
theorem nice_bool : Nice PyData.bool 0 := ⟨fun a b => by cases a <;> cases b <;> decide, fun _ => rfl⟩
theorem nice_str : Nice PyData.str 0 := ⟨fun a b => by show (a == b) = true ↔ _; exact beq_iff_eq, fun _ => rfl⟩
theorem nice_tx : Nice tx 0 := ⟨fun a b => by rw [eqv_tx]; exact decide_eq_true_iff, fun _ => rfl⟩
section
variable {α β : Type} {e : α → PyData} {f : β → PyData} {n m : Nat}
theorem Nice.inj (h : Nice e n) {a b : α} (x : e a = e b) : a = b := (h.eqv a b).mp (by rw [x]; exact (h.eqv b b).mpr rfl)
theorem Nice.all (h : Nice e n) : ∀ xs ys : List α, PyData.eqvAll (xs.map e) (ys.map e) = true ↔ xs = ys
  | [], [] => by simp [PyData.eqvAll]
  | [], _ :: _ => by simp [PyData.eqvAll]
  | _ :: _, [] => by simp [PyData.eqvAll]
  | x :: xs, y :: ys => by
    show (PyData.eqv (e x) (e y) && PyData.eqvAll (xs.map e) (ys.map e)) = true ↔ _
    rw [Bool.and_eq_true, h.eqv, h.all xs ys]
    simp
theorem nice_tup (h : Nice e n) : Nice (fun l : List α => PyData.tuple (l.map e)) (n + 1) := ⟨fun a b => h.all a b, fun a => by
  show (a.map e).all (dOk n) = true
  exact List.all_eq_true.mpr fun x hx => by
    obtain ⟨y, _, rfl⟩ := List.mem_map.mp hx
    exact h.dk y⟩
theorem nice_lst (h : Nice e n) : Nice (fun l : List α => PyData.list (l.map e)) (n + 1) := ⟨fun a b => h.all a b, fun a => by
  show (a.map e).all (dOk n) = true
  exact List.all_eq_true.mpr fun x hx => by
    obtain ⟨y, _, rfl⟩ := List.mem_map.mp hx
    exact h.dk y⟩
theorem nice_pair (h : Nice e n) (g : Nice f m) : Nice (fun p : α × β => PyData.tuple [e p.1, f p.2]) (max n m + 1) := ⟨fun a b => by
  show (PyData.eqv (e a.1) (e b.1) && (PyData.eqv (f a.2) (f b.2) && true)) = true ↔ _
  rw [Bool.and_eq_true, Bool.and_eq_true, h.eqv, g.eqv]
  constructor
  · rintro ⟨x, y, _⟩
    exact Prod.ext x y
  · rintro rfl
    exact ⟨rfl, rfl, rfl⟩, fun a => by
  show (dOk (max n m) (e a.1) && (dOk (max n m) (f a.2) && true)) = true
  rw [dOk_le (Nat.le_max_left n m) (h.dk _), dOk_le (Nat.le_max_right n m) (g.dk _)]
  rfl⟩
theorem nice_num : Nice numD 1 := nice_tup nice_int
theorem nice_call : Nice callD 1 := nice_pair nice_str nice_int
theorem nice_calls : Nice callsD 2 := nice_tup nice_call
theorem nice_box : Nice boxD 2 := nice_pair nice_str nice_num
theorem nice_lot : Nice lotD 3 := nice_tup nice_box
variable [DecidableEq α]
theorem Nice.dec (h : Nice e n) (a b : α) : PyData.eqv (e a) (e b) = decide (a = b) := by
  by_cases x : a = b
  · rw [decide_eq_true x]
    exact (h.eqv a b).mpr x
  · rw [decide_eq_false x]
    cases q : PyData.eqv (e a) (e b) with
    | false => rfl
    | true => exact absurd ((h.eqv a b).mp q) x
theorem o_eq (h : Nice e n) (hn : n ≤ 9) (a b : α) : cmpB .Eq (e a) (e b) = .ok (decide (a = b)) := by
  show gd (dOk 9 (e a) && dOk 9 (e b)) (R.ok (PyData.eqv (e a) (e b))) = _
  rw [dOk_le hn (h.dk a), dOk_le hn (h.dk b), h.dec]
  rfl
theorem o_ne (h : Nice e n) (hn : n ≤ 9) (a b : α) : cmpB .NotEq (e a) (e b) = .ok (!decide (a = b)) := by
  show notR (gd (dOk 9 (e a) && dOk 9 (e b)) (R.ok (PyData.eqv (e a) (e b)))) = _
  rw [dOk_le hn (h.dk a), dOk_le hn (h.dk b), h.dec]
  rfl
theorem in_any (h : Nice e n) (a : α) : ∀ L : List α, (L.map e).any (fun z => PyData.eqv z (e a)) = decide (a ∈ L)
  | [] => rfl
  | x :: L => by
    rw [List.map_cons, List.any_cons, in_any h a L, h.dec]
    by_cases q : x = a
    · subst q
      rw [decide_eq_true rfl, decide_eq_true (List.mem_cons_self : x ∈ x :: L)]
      rfl
    · rw [decide_eq_false q, Bool.false_or]
      by_cases p : a ∈ L
      · rw [decide_eq_true p, decide_eq_true (List.mem_cons_of_mem _ p)]
      · rw [decide_eq_false p, decide_eq_false fun z => (List.mem_cons.mp z).elim (fun w => q w.symm) p]
theorem dk_all (h : Nice e n) (hn : n ≤ 8) (L : List α) : (L.map e).all (dOk 8) = true := List.all_eq_true.mpr fun x hx => by
  obtain ⟨y, _, rfl⟩ := List.mem_map.mp hx
  exact dOk_le hn (h.dk y)
theorem o_in (h : Nice e n) (hn : n ≤ 8) (a : α) (L : List α) : cmpB .In (e a) (.list (L.map e)) = .ok (decide (a ∈ L)) := by
  show gd (dOk 9 (e a) && (L.map e).all (dOk 8)) (R.ok ((L.map e).any fun z => PyData.eqv z (e a))) = _
  rw [dOk_le (Nat.le_succ_of_le hn) (h.dk a), dk_all h hn, in_any h]
  rfl
theorem o_nin (h : Nice e n) (hn : n ≤ 8) (a : α) (L : List α) : cmpB .NotIn (e a) (.list (L.map e)) = .ok (!decide (a ∈ L)) := by
  show notR (cmpB .In (e a) (.list (L.map e))) = _
  rw [o_in h hn]
  rfl
theorem o_inT (h : Nice e n) (hn : n ≤ 8) (a : α) (L : List α) : cmpB .In (e a) (.tuple (L.map e)) = .ok (decide (a ∈ L)) := by
  show gd (dOk 9 (e a) && (L.map e).all (dOk 8)) (R.ok ((L.map e).any fun z => PyData.eqv z (e a))) = _
  rw [dOk_le (Nat.le_succ_of_le hn) (h.dk a), dk_all h hn, in_any h]
  rfl
theorem o_ninT (h : Nice e n) (hn : n ≤ 8) (a : α) (L : List α) : cmpB .NotIn (e a) (.tuple (L.map e)) = .ok (!decide (a ∈ L)) := by
  show notR (cmpB .In (e a) (.tuple (L.map e))) = _
  rw [o_inT h hn]
  rfl
end
/-! ints -/
theorem o_addI (i j : Int) : binD .Add (.int i) (.int j) = .ok (.int (i + j)) := rfl
theorem o_subI (i j : Int) : binD .Sub (.int i) (.int j) = .ok (.int (i - j)) := rfl
theorem o_mulI {i j : Int} (h : (-(2 ^ 64) < i ∧ i < 2 ^ 64) ∨ (-(2 ^ 64) < j ∧ j < 2 ^ 64)) : binD .Mult (.int i) (.int j) = .ok (.int (i * j)) := mul_ok h
theorem o_divI {i j : Int} (h : 0 < j ∧ j < 1073741824) : binD .FloorDiv (.int i) (.int j) = .ok (.int (i / j)) := div_ok h
theorem o_modI {i j : Int} (h : 0 < j) : binD .Mod (.int i) (.int j) = .ok (.int (i % j)) := mod_ok h
theorem o_eqI (i j : Int) : cmpB .Eq (.int i) (.int j) = .ok (decide (i = j)) := o_eq nice_int (by decide) i j
theorem o_neI (i j : Int) : cmpB .NotEq (.int i) (.int j) = .ok (!decide (i = j)) := o_ne nice_int (by decide) i j
theorem o_ltI (i j : Int) : cmpB .Lt (.int i) (.int j) = .ok (decide (i < j)) := rfl
theorem o_gtI (i j : Int) : cmpB .Gt (.int i) (.int j) = .ok (decide (j < i)) := rfl
theorem o_leI (i j : Int) : cmpB .LtE (.int i) (.int j) = .ok (decide (i ≤ j)) := by
  show R.ok (!decide (j < i)) = _
  congr 1
  by_cases h : i ≤ j
  · rw [decide_eq_true h, decide_eq_false (by omega)]
    rfl
  · rw [decide_eq_false h, decide_eq_true (by omega)]
    rfl
theorem o_geI (i j : Int) : cmpB .GtE (.int i) (.int j) = .ok (decide (j ≤ i)) := by
  show R.ok (!decide (i < j)) = _
  congr 1
  by_cases h : j ≤ i
  · rw [decide_eq_true h, decide_eq_false (by omega)]
    rfl
  · rw [decide_eq_false h, decide_eq_true (by omega)]
    rfl
theorem o_eqB (a b : Bool) : cmpB .Eq (.bool a) (.bool b) = .ok (a == b) := rfl
theorem o_neB (a b : Bool) : cmpB .NotEq (.bool a) (.bool b) = .ok (!(a == b)) := rfl
/-! texts -/
theorem o_addT {l m : List Nat} (h : l.length + m.length ≤ SZ) : binD .Add (tx l) (tx m) = .ok (tx (l ++ m)) := by
  show gd (decide ((chs (sT l)).length + (chs (sT m)).length ≤ SZ)) (R.ok (tx (chs (sT l) ++ chs (sT m)))) = _
  rw [chs_sT, chs_sT, decide_eq_true h]
  rfl
theorem o_mulT {l : List Nat} {k : Int} (h : k ≤ 100000 ∧ -100000 ≤ k ∧ l.length * k.toNat ≤ SZ) : binD .Mult (tx l) (.int k) = .ok (tx (rep k l)) := by
  show gd (decide (k ≤ 100000 ∧ -100000 ≤ k ∧ (chs (sT l)).length * k.toNat ≤ SZ)) (R.ok (tx (rep k (chs (sT l))))) = _
  rw [chs_sT, decide_eq_true h]
  rfl
theorem o_eqT (l m : List Nat) : cmpB .Eq (tx l) (tx m) = .ok (decide (l = m)) := eq_tx l m
theorem o_neT (l m : List Nat) : cmpB .NotEq (tx l) (tx m) = .ok (!decide (l = m)) := ne_tx l m
theorem o_lenT {l : List Nat} (h : l.length ≤ SZ) : b1D .len (tx l) = .ok (.int (l.length : Int)) := by
  show gd (decide ((chs (sT l)).length ≤ SZ)) (R.ok (PyData.int ((chs (sT l)).length : Nat))) = _
  rw [chs_sT, decide_eq_true h]
  rfl
theorem o_slcT {l : List Nat} {lo hi : Option Int} (h : l.length ≤ SZ) : slcD (tx l) lo hi = .ok (tx (cut l lo hi)) := by
  show gd (decide ((chs (sT l)).length ≤ SZ)) (R.ok (tx (cut (chs (sT l)) lo hi))) = _
  rw [chs_sT, decide_eq_true h]
  rfl
theorem o_idxT {l : List Nat} {i : Int} {c : Nat} (hl : l.length ≤ SZ) (h : L2.atI l i = some c) : idxD (tx l) (.int i) = .ok (tx [c]) := by
  show gd (decide ((chs (sT l)).length ≤ SZ)) (op ((L2.atI (chs (sT l)) i).map fun c => tx [c])) = _
  rw [chs_sT, decide_eq_true hl, h]
  rfl
theorem o_inTx (c : Nat) (l : List Nat) : cmpB .In (tx [c]) (tx l) = .ok (decide (c ∈ l)) := by
  show (match chs (sT [c]) with | [c] => R.ok (decide (c ∈ chs (sT l))) | _ => R.bad) = _
  rw [chs_sT, chs_sT]
/-! lists, tuples -/
section
variable {α : Type} {e : α → PyData}
theorem o_lenL (L : List PyData) : b1D .len (.list L) = .ok (.int (L.length : Int)) := rfl
theorem o_lenU (L : List PyData) : b1D .len (.tuple L) = .ok (.int (L.length : Int)) := rfl
theorem o_lenLM (L : List α) : b1D .len (.list (L.map e)) = .ok (.int (L.length : Int)) := by rw [o_lenL, List.length_map]
theorem o_lenUM (L : List α) : b1D .len (.tuple (L.map e)) = .ok (.int (L.length : Int)) := by rw [o_lenU, List.length_map]
theorem o_lenC (cs : List (Str × Int)) : b1D .len (callsD cs) = .ok (.int (cs.length : Int)) := o_lenUM cs
theorem o_lenLot (cs : List Box) : b1D .len (lotD cs) = .ok (.int (cs.length : Int)) := o_lenUM cs
theorem o_lenN (cs : List Int) : b1D .len (numD cs) = .ok (.int (cs.length : Int)) := o_lenUM cs
theorem o_addL {xs ys : List PyData} (h : xs.length + ys.length ≤ SZ) : binD .Add (.list xs) (.list ys) = .ok (.list (xs ++ ys)) := gd_t (decide_eq_true h)
theorem o_addU {xs ys : List PyData} (h : xs.length + ys.length ≤ SZ) : binD .Add (.tuple xs) (.tuple ys) = .ok (.tuple (xs ++ ys)) := gd_t (decide_eq_true h)
theorem o_addC {a b : List (Str × Int)} (h : a.length + b.length ≤ SZ) : binD .Add (callsD a) (callsD b) = .ok (callsD (a ++ b)) := by
  refine Eq.trans (o_addU (by rw [List.length_map, List.length_map]; exact h)) ?_
  rw [← List.map_append]
  rfl
theorem o_slcL (xs : List PyData) (lo hi : Option Int) : slcD (.list xs) lo hi = .ok (.list (cut xs lo hi)) := rfl
theorem o_slcU (xs : List PyData) (lo hi : Option Int) : slcD (.tuple xs) lo hi = .ok (.tuple (cut xs lo hi)) := rfl
theorem cut_map {β : Type} (g : α → β) (xs : List α) (lo hi : Option Int) : cut (xs.map g) lo hi = (cut xs lo hi).map g := by
  unfold cut
  rw [List.length_map, List.map_take, List.map_drop]
theorem o_slcC (cs : List (Str × Int)) (lo hi : Option Int) : slcD (callsD cs) lo hi = .ok (callsD (cut cs lo hi)) := by
  refine Eq.trans (o_slcU _ lo hi) ?_
  rw [cut_map]
  rfl
theorem o_slcLot (cs : List Box) (lo hi : Option Int) : slcD (lotD cs) lo hi = .ok (lotD (cut cs lo hi)) := by
  refine Eq.trans (o_slcU _ lo hi) ?_
  rw [cut_map]
  rfl
theorem o_slcN (cs : List Int) (lo hi : Option Int) : slcD (numD cs) lo hi = .ok (numD (cut cs lo hi)) := by
  refine Eq.trans (o_slcU _ lo hi) ?_
  rw [cut_map]
  rfl
theorem o_eqC (a b : List (Str × Int)) : cmpB .Eq (callsD a) (callsD b) = .ok (decide (a = b)) := o_eq nice_calls (by decide) a b
theorem o_neC (a b : List (Str × Int)) : cmpB .NotEq (callsD a) (callsD b) = .ok (!decide (a = b)) := o_ne nice_calls (by decide) a b
theorem o_eqC0 (a : List (Str × Int)) : cmpB .Eq (callsD a) (.tuple []) = .ok (decide (a = [])) := o_eq nice_calls (by decide) a []
theorem o_neC0 (a : List (Str × Int)) : cmpB .NotEq (callsD a) (.tuple []) = .ok (!decide (a = [])) := o_ne nice_calls (by decide) a []
theorem o_eqN (a b : List Int) : cmpB .Eq (numD a) (numD b) = .ok (decide (a = b)) := o_eq nice_num (by decide) a b
theorem o_neN (a b : List Int) : cmpB .NotEq (numD a) (numD b) = .ok (!decide (a = b)) := o_ne nice_num (by decide) a b
theorem o_eqLot (a b : List Box) : cmpB .Eq (lotD a) (lotD b) = .ok (decide (a = b)) := o_eq nice_lot (by decide) a b
theorem o_neLot (a b : List Box) : cmpB .NotEq (lotD a) (lotD b) = .ok (!decide (a = b)) := o_ne nice_lot (by decide) a b
theorem o_neL0 (L : List α) (he : ∀ a, dOk 8 (e a) = true) : cmpB .NotEq (.list (L.map e)) (.list []) = .ok (!L.isEmpty) := by
  show notR (gd ((L.map e).all (dOk 8) && true) (R.ok (PyData.eqvAll (L.map e) []))) = _
  rw [show (L.map e).all (dOk 8) = true from List.all_eq_true.mpr fun x hx => by
    obtain ⟨y, _, rfl⟩ := List.mem_map.mp hx
    exact he y]
  cases L <;> rfl
theorem o_eqL0 (L : List α) (he : ∀ a, dOk 8 (e a) = true) : cmpB .Eq (.list (L.map e)) (.list []) = .ok L.isEmpty := by
  show gd ((L.map e).all (dOk 8) && true) (R.ok (PyData.eqvAll (L.map e) [])) = _
  rw [show (L.map e).all (dOk 8) = true from List.all_eq_true.mpr fun x hx => by
    obtain ⟨y, _, rfl⟩ := List.mem_map.mp hx
    exact he y]
  cases L <;> rfl
end
/-! constants -/
section
variable {c : C} {ρ : Env}
theorem c_1 : ev c ρ (.cst (.str "1")) = .ok (tx [49]) := rfl
theorem c_0 : ev c ρ (.cst (.str "0")) = .ok (tx [48]) := rfl
theorem c_e : ev c ρ (.cst (.str "")) = .ok (tx []) := rfl
theorem c_000 : ev c ρ (.cst (.str "000")) = .ok (tx [48, 48, 48]) := rfl
theorem c_tup0 : ev c ρ (.tup .nil) = .ok (.tuple []) := rfl
theorem c_lst0 : ev c ρ (.lst .nil) = .ok (.list []) := rfl
theorem ev_mixE {i : Nat} {ns : List Int} {k : Int} {a : E} (h : ρ[i]? = some (some (3, .list (ns.map PyData.int)))) (ha : ev c ρ a = .ok (.int k)) (hk : 0 ≤ k ∧ k < 1000000) : ev c ρ (.mix i a) = .ok (.int (mixedF ns k)) := by
  show (ev c ρ a >>= fun d => mixE ρ i d) = _
  rw [ha]
  show mixE ρ i (.int k) = _
  unfold mixE
  rw [h]
  show gd (decide (0 ≤ k ∧ k < 1000000)) (op ((intsOf (ns.map PyData.int)).map fun ns => PyData.int (mixedF ns k))) = _
  rw [decide_eq_true hk, intsOf_map]
  rfl
end
/-! how a slot is held -/
theorem own_int (e : E) (i : Int) : ownOf e (.int i) = 0 := by unfold ownOf; cases fresh e <;> rfl
theorem own_bool (e : E) (i : Bool) : ownOf e (.bool i) = 0 := by unfold ownOf; cases fresh e <;> rfl
theorem own_none (e : E) : ownOf e .none = 0 := by unfold ownOf; cases fresh e <;> rfl
theorem own_str (e : E) (i : Str) : ownOf e (.str i) = 0 := by unfold ownOf; cases fresh e <;> rfl
theorem own_tx (e : E) (i : List Nat) : ownOf e (tx i) = 0 := own_str e _
theorem own_tup (e : E) (i : List PyData) : ownOf e (.tuple i) = 0 := by unfold ownOf; cases fresh e <;> rfl
theorem own_calls (e : E) (i : List (Str × Int)) : ownOf e (callsD i) = 0 := own_tup e _
theorem own_call (e : E) (i : Str × Int) : ownOf e (callD i) = 0 := own_tup e _
theorem own_lot (e : E) (i : List Box) : ownOf e (lotD i) = 0 := own_tup e _
theorem own_box (e : E) (i : Box) : ownOf e (boxD i) = 0 := own_tup e _
theorem own_num (e : E) (i : List Int) : ownOf e (numD i) = 0 := own_tup e _
theorem own_lst (e : E) (i : List PyData) : ownOf e (.list i) = cond (fresh e) 1 0 := by unfold ownOf; cases fresh e <;> rfl
theorem own_dct (e : E) (i : List (PyData × PyData)) : ownOf e (.dict i) = cond (fresh e) 1 0 := by unfold ownOf; cases fresh e <;> rfl
theorem thn_nx {c : C} {ρ : Env} {r : Ss} {Q : R Fl → Prop} (h : Wp (exs c ρ r) Q) : thn c r Q (.ok (.nx ρ)) := h
end TD
/-! Finite cases, counted out. -/
namespace TD
open PySem
mutual
def sameD : PyData → PyData → Bool
  | .none, .none => true
  | .bool a, .bool b => a == b
  | .int a, .int b => decide (a = b)
  | .str a, .str b => decide (chs a = chs b)
  | .tuple a, .tuple b => sameL a b
  | .list a, .list b => sameL a b
  | _, _ => false
def sameL : List PyData → List PyData → Bool
  | [], [] => true
  | a :: r, b :: s => sameD a b && sameL r s
  | _, _ => false
end
theorem chs_inj {a b : Str} (h : chs a = chs b) : a = b := by
  cases a with
  | mk x =>
    cases b with
    | mk y =>
      have h : x.toList = y.toList := h
      rw [Array.ext' h]
mutual
theorem sameD_eq : ∀ (a b : PyData), sameD a b = true → a = b
  | .none, b, h => by cases b <;> first | rfl | cases h
  | .bool a, b, h => by
    cases b <;> first
      | (cases h; done)
      | (rw [beq_iff_eq.mp (show (a == _) = true from h)])
  | .int a, b, h => by
    cases b <;> first
      | (cases h; done)
      | (rw [of_decide_eq_true (show decide (a = _) = true from h)])
  | .str a, b, h => by
    cases b <;> first
      | (cases h; done)
      | (rw [chs_inj (of_decide_eq_true (show decide (chs a = chs _) = true from h))])
  | .tuple a, b, h => by
    cases b <;> first
      | (cases h; done)
      | (rw [sameL_eq a _ (show sameL a _ = true from h)])
  | .list a, b, h => by
    cases b <;> first
      | (cases h; done)
      | (rw [sameL_eq a _ (show sameL a _ = true from h)])
  | .dict a, b, h => by cases b <;> cases h
theorem sameL_eq : ∀ (a b : List PyData), sameL a b = true → a = b
  | [], [], _ => rfl
  | [], b :: s, h => by cases h
  | a :: r, [], h => by cases h
  | a :: r, b :: s, h => by
    have h : (sameD a b && sameL r s) = true := h
    rw [Bool.and_eq_true] at h
    rw [sameD_eq a b h.1, sameL_eq r s h.2]
end
def isOk (r : R PyData) (d : PyData) : Bool := match r with
  | .ok x => sameD x d
  | _ => false
theorem isOk_eq {r : R PyData} {d : PyData} (h : isOk r d = true) : r = .ok d := by
  cases r with
  | ok x => rw [sameD_eq x d h]
  | err k => cases h
  | bad => cases h
/-! ### the 84 numbers -/
def c4 : List Int := [1, 2, 3, 4]
def all84 : List (List Int) := c4.flatMap fun a => [a] :: c4.flatMap fun b => [a, b] :: c4.map fun c => [a, b, c]
theorem in_c4 {a : Int} (h : 1 ≤ a ∧ a ≤ 4) : a ∈ c4 := by
  have : a = 1 ∨ a = 2 ∨ a = 3 ∨ a = 4 := by omega
  rcases this with rfl | rfl | rfl | rfl <;> decide
theorem in_84 {n : List Int} (h : numOk n) : n ∈ all84 := by
  obtain ⟨h1, h2, h3⟩ := h
  match n, h1, h2, h3 with
  | [a], _, _, h3 => exact List.mem_flatMap.mpr ⟨a, in_c4 (h3 a (by simp)), List.mem_cons_self⟩
  | [a, b], _, _, h3 => exact List.mem_flatMap.mpr ⟨a, in_c4 (h3 a (by simp)), List.mem_cons_of_mem _ (List.mem_flatMap.mpr ⟨b, in_c4 (h3 b (by simp)), List.mem_cons_self⟩)⟩
  | [a, b, c], _, _, h3 => exact List.mem_flatMap.mpr ⟨a, in_c4 (h3 a (by simp)), List.mem_cons_of_mem _ (List.mem_flatMap.mpr ⟨b, in_c4 (h3 b (by simp)), List.mem_cons_of_mem _ (List.mem_map.mpr ⟨c, in_c4 (h3 c (by simp)), rfl⟩)⟩)⟩
  | [], h1, _, _ => exact absurd h1 (by decide)
  | a :: b :: c :: d :: r, _, h2, _ =>
    simp only [List.length_cons] at h2
    omega
theorem beats_nd : (all84.map beatsL).Nodup := by decide +kernel
theorem filter_find {α β : Type} [DecidableEq β] (f : α → β) (t : β) : ∀ {L : List α}, (L.map f).Nodup → L.filter (fun y => decide (f y = t)) = (L.find? fun y => decide (f y = t)).toList
  | [], _ => rfl
  | y :: r, h => by
    rw [List.map_cons, List.nodup_cons] at h
    rw [List.filter_cons, List.find?_cons]
    by_cases e : f y = t
    · rw [decide_eq_true e]
      simp only [if_true]
      have : r.filter (fun y => decide (f y = t)) = [] := List.filter_eq_nil_iff.mpr fun z hz => by
        intro q
        refine h.1 ?_
        rw [e, ← of_decide_eq_true q]
        exact List.mem_map.mpr ⟨z, hz, rfl⟩
      rw [this]
      rfl
    · rw [decide_eq_false e]
      simp only [Bool.false_eq_true, if_false]
      exact filter_find f t h.2
end TD
/-! Sorted numbers; a loop that looks for one. -/
namespace TD
open PySem
theorem toks_num : ∀ (a b : List Int), PySem.W.keyToksAll (a.map PyData.int) = PySem.W.keyToksAll (b.map PyData.int) → a = b
  | [], [], _ => rfl
  | [], b :: s, h => by
    have h : ([.inl 0] : List (Int ⊕ List Nat)) = .inl 1 :: (PySem.W.keyToks (.int b) ++ PySem.W.keyToksAll (s.map PyData.int)) := h
    injection h with h1 h2
    injection h1 with h1
    exact absurd h1 (by decide)
  | a :: r, [], h => by
    have h : (.inl 1 :: (PySem.W.keyToks (.int a) ++ PySem.W.keyToksAll (r.map PyData.int)) : List (Int ⊕ List Nat)) = [.inl 0] := h
    injection h with h1 h2
    injection h1 with h1
    exact absurd h1 (by decide)
  | a :: r, b :: s, h => by
    have h : (.inl 1 :: .inl a :: PySem.W.keyToksAll (r.map PyData.int) : List (Int ⊕ List Nat)) = .inl 1 :: .inl b :: PySem.W.keyToksAll (s.map PyData.int) := h
    injection h with h1 h2
    injection h2 with h2 h3
    injection h2 with h2
    rw [h2, toks_num r s h3]
theorem dle_total : PySem.W.TotalLe dle := PySem.W.sortLe_total (PyProof.Rows.listOrd PyProof.Rows.itemOrd) false fun b => PySem.W.keyToks (id b)
theorem dle_anti {a b : List Int} (h1 : dle (numD a) (numD b) = true) (h2 : dle (numD b) (numD a) = true) : a = b := by
  refine toks_num a b ?_
  have h1 : (!PyProof.Rows.lexLt PyProof.Rows.itemOrd (PySem.W.keyToks (numD b)) (PySem.W.keyToks (numD a))) = true := h1
  have h2 : (!PyProof.Rows.lexLt PyProof.Rows.itemOrd (PySem.W.keyToks (numD a)) (PySem.W.keyToks (numD b))) = true := h2
  rw [Bool.not_eq_true'] at h1 h2
  exact (PyProof.Rows.listOrd PyProof.Rows.itemOrd).total _ _ h2 h1
theorem srt_num {xs ys : List (List Int)} (p : xs.Perm ys) (h : ys.Pairwise fun a b => dle (numD a) (numD b) = true) : srt (xs.map numD) = ys.map numD := by
  refine List.Perm.eq_of_pairwise (le := fun a b => dle a b = true) (fun a b ha hb h1 h2 => ?_) ?_ ?_ ((List.mergeSort_perm _ _).trans (p.map numD))
  · obtain ⟨x, hx, rfl⟩ := List.mem_map.mp (List.mem_mergeSort.mp ha)
    obtain ⟨y, hy, rfl⟩ := List.mem_map.mp hb
    rw [dle_anti h1 h2]
  · exact List.pairwise_mergeSort (fun a b c => dle_total.trans a b c) (fun a b => (Bool.or_eq_true _ _).mpr (dle_total.total a b)) _
  · exact List.pairwise_map.mpr h
theorem alike_num (a b : List Int) : PySem.W.alike (numD a) (numD b) = true := by
  show PySem.W.alikeAll (a.map PyData.int) (b.map PyData.int) = true
  induction a generalizing b with
  | nil => cases b <;> rfl
  | cons x r ih =>
    cases b with
    | nil => rfl
    | cons y s =>
      show (PySem.W.alike (.int x) (.int y) && PySem.W.alikeAll (r.map PyData.int) (s.map PyData.int)) = true
      rw [ih s]
      rfl
theorem sOk_num (xs : List (List Int)) : sOk (xs.map numD) = true := by
  unfold sOk
  rw [Bool.and_eq_true, Bool.and_eq_true, Bool.or_eq_true, Bool.or_eq_true]
  refine ⟨⟨List.all_eq_true.mpr fun x hx => ?_, .inl (.inl (List.all_eq_true.mpr fun x hx => ?_))⟩, List.all_eq_true.mpr fun x hx => List.all_eq_true.mpr fun y hy => ?_⟩
  · obtain ⟨a, _, rfl⟩ := List.mem_map.mp hx
    exact dOk_le (show 1 ≤ 9 by decide) (nice_num.dk a)
  · obtain ⟨a, _, rfl⟩ := List.mem_map.mp hx
    rfl
  · obtain ⟨a, _, rfl⟩ := List.mem_map.mp hx
    obtain ⟨b, _, rfl⟩ := List.mem_map.mp hy
    exact alike_num a b
theorem sort_num {xs ys : List (List Int)} (p : xs.Perm ys) (h : ys.Pairwise fun a b => dle (numD a) (numD b) = true) (hl : xs.length ≤ SZ) : b1D .sorted (.list (xs.map numD)) = .ok (.list (ys.map numD)) := by
  show gd (sOk (xs.map numD) && decide ((xs.map numD).length ≤ SZ)) (R.ok (PyData.list (srt (xs.map numD)))) = _
  rw [sOk_num, List.length_map, decide_eq_true hl, srt_num p h]
  rfl
theorem all84_pw : all84.Pairwise fun a b => dle (numD a) (numD b) = true := by decide +kernel
def n1 : List (List Int) := c4.map fun a => [a]
def n2 : List (List Int) := n1.flatMap fun a => c4.map fun b => a ++ [b]
def n3 : List (List Int) := n2.flatMap fun a => c4.map fun b => a ++ [b]
def nums : Nat → List (List Int)
  | 0 => n1
  | 1 => n2
  | _ => n3
theorem nums_perm : ∀ m < 4, ((List.range m).flatMap nums).Perm (all84.filter fun y => decide (y.length ≤ m)) := by decide +kernel
theorem nums_in : ∀ k < 3, ∀ y ∈ nums k, y ∈ all84 := by decide +kernel
/-- a loop that looks for one -/
theorem loop_find {α : Type} {f : PyData → Env → R Fl} {ρ0 : Env} {enc g : α → PyData} {p : α → Bool} : ∀ {L : List α}, (∀ y, y ∈ L → (p y = true → f (enc y) ρ0 = .ok (.rt (g y))) ∧ (p y = false → ∃ ρ', f (enc y) ρ0 = .ok (.nx ρ') ∧ restr ρ0 ρ' = ρ0)) →
    loop f ρ0 (L.map enc) ρ0 = (L.find? p).elim (.ok (.nx ρ0)) fun y => .ok (.rt (g y))
  | [], _ => rfl
  | y :: r, hs => by
    obtain ⟨h1, h2⟩ := hs y List.mem_cons_self
    show (f (enc y) ρ0 >>= fun fl => match fl with | .nx ρ' => loop f ρ0 (r.map enc) (restr ρ0 ρ') | .ct ρ' => loop f ρ0 (r.map enc) (restr ρ0 ρ') | .rt v => R.ok (Fl.rt v)) = _
    rw [List.find?_cons]
    cases q : p y with
    | true =>
      rw [h1 q]
      rfl
    | false =>
      obtain ⟨ρ', h3, h4⟩ := h2 q
      rw [h3]
      show loop f ρ0 (r.map enc) (restr ρ0 ρ') = _
      rw [h4]
      exact loop_find fun z hz => hs z (List.mem_cons_of_mem _ hz)
end TD
/-! taps, long, all_of, all_numbers, number_of. -/
namespace TD
open PySem
local macro_rules
  | `(tactic| trivial) => `(tactic| first
    | with_reducible assumption
    | with_reducible exact c_1 | with_reducible exact c_0 | with_reducible exact c_e | with_reducible exact c_000 | with_reducible exact c_tup0 | with_reducible exact c_lst0
    | with_reducible exact ev_cstE
    | with_reducible exact ev_nonE
    | with_reducible exact ev_dicE
    | ((with_reducible apply ev_varE); exact rfl)
    | ((with_reducible apply ev_bin); trivial; trivial; trivial)
    | ((with_reducible apply ev_negE); trivial)
    | ((with_reducible apply ev_notE); trivial)
    | ((with_reducible apply ev_one); trivial)
    | ((with_reducible apply ev_andE); trivial; intro _; trivial)
    | ((with_reducible apply ev_orE); trivial; intro _; trivial)
    | ((with_reducible apply ev_cmpE); trivial; trivial; trivial)
    | ((with_reducible apply ev_chnE); trivial; trivial; trivial; (intro _; trivial); (intro _; trivial))
    | ((with_reducible apply ev_tup); trivial)
    | ((with_reducible apply ev_lst); trivial)
    | ((with_reducible apply ev_idx); trivial; trivial; trivial)
    | ((with_reducible apply ev_slc); trivial; trivial; exact rfl; trivial; exact rfl; trivial)
    | ((with_reducible apply ev_fn); exact rfl; trivial; trivial)
    | ((with_reducible apply ev_b1); trivial; exact rfl; trivial)
    | ((with_reducible apply ev_mxE); trivial; trivial)
    | ((with_reducible apply ev_mt); trivial; trivial; trivial)
    | ((with_reducible apply ev_mixE); exact rfl; trivial; exact ⟨by decide, by decide⟩)
    | with_reducible exact evs_n
    | ((with_reducible apply evs_c); trivial; trivial)
    | ((with_reducible apply it_val); trivial; exact rfl; exact rfl)
    | ((with_reducible apply it_enm); trivial; exact rfl)
    | with_reducible exact o_addI _ _ | with_reducible exact o_subI _ _ | with_reducible exact o_divI ⟨by decide, by decide⟩ | with_reducible exact o_modI (by decide)
    | with_reducible exact o_eqI _ _ | with_reducible exact o_neI _ _ | with_reducible exact o_ltI _ _ | with_reducible exact o_gtI _ _ | with_reducible exact o_leI _ _ | with_reducible exact o_geI _ _
    | with_reducible exact o_eqB _ _ | with_reducible exact o_neB _ _
    | with_reducible exact o_eqT _ _ | with_reducible exact o_neT _ _ | with_reducible exact o_inTx _ _
    | with_reducible exact o_lenC _ | with_reducible exact o_lenLot _ | with_reducible exact o_lenN _ | with_reducible exact o_lenLM _ | with_reducible exact o_lenUM _ | with_reducible exact o_lenL _ | with_reducible exact o_lenU _
    | with_reducible exact o_eqC0 _ | with_reducible exact o_neC0 _ | with_reducible exact o_eqC _ _ | with_reducible exact o_neC _ _ | with_reducible exact o_eqN _ _ | with_reducible exact o_neN _ _ | with_reducible exact o_eqLot _ _ | with_reducible exact o_neLot _ _
    | with_reducible exact o_slcC _ _ _ | with_reducible exact o_slcLot _ _ _ | with_reducible exact o_slcN _ _ _
    | with_reducible exact o_addT (by first | assumption | omega) | with_reducible exact o_lenT (by first | assumption | omega) | with_reducible exact o_slcT (by first | assumption | omega)
    | fail "stuck")
local macro_rules
  | `(tactic| simp_wf) => `(tactic| (simp only [startE, frz, frz1, gens, gensL, gensI, isVar, inOp, cond_true, cond_false, Bool.and_true, Bool.and_false, Bool.true_and, Bool.false_and, List.append_nil, List.nil_append, List.cons_append, List.getElem?_cons_succ, List.getElem?_cons_zero, List.set_cons_succ, List.set_cons_zero, Env.put, gd_true, List.length_cons, List.length_nil, Nat.reduceAdd, Nat.reduceLT, decide_true, bindT, bindA, putAll, R.ok_bind, wipeE, T.slots, own_int, own_bool, own_none, own_tx, own_str, own_calls, own_call, own_lot, own_box, own_num, own_tup, own_lst, own_dct, fresh, restr, List.map_cons, List.map_nil, List.replicate, Nat.reduceSub, beq_self_eq_true]; try exact rfl))
local macro_rules
  | `(tactic| decreasing_trivial) => `(tactic| first
    | ((with_reducible apply wp_asg); simp_wf; trivial; simp_wf)
    | ((with_reducible apply wp_asgT); simp_wf; trivial; simp_wf)
    | ((with_reducible apply wp_par); simp_wf; trivial; trivial; simp_wf; simp_wf)
    | ((with_reducible apply wp_exp); simp_wf; trivial)
    | ((with_reducible apply wp_ret); simp_wf; trivial)
    | ((with_reducible apply wp_if); simp_wf; trivial)
    | with_reducible refine wp_cont ?_
    | (refine wp_nil (thn_nx ?_))
    | with_reducible refine wp_nil ?_)
structure HasN (tb : Tab) : Prop where
  b : tb 20 = some f_beats
  t : tb 21 = some f_taps
  l : tb 22 = some f_long
  o : tb 23 = some f_all_of
  n : tb 24 = some f_all_numbers
  f : tb 25 = some f_number_of
theorem sum_num (y : List Int) : b1D .sum (numD y) = .ok (.int y.sum) := by
  show op ((intsOf (y.map PyData.int)).map fun ns => PyData.int ns.sum) = _
  rw [intsOf_map]
  rfl
theorem taps_ok {tb : Tab} (h : HasN tb) (n : Nat) (y : List Int) : callN tb (n + 1) 21 [numD y] = .ok (.int y.sum) := by
  rw [callN_at h.t]
  refine run_of rfl ?_
  unfold f_taps
  simp_wf
  have e := sum_num y
  decreasing_trivial
  rfl
theorem long_ok {tb : Tab} (h : HasN tb) (n : Nat) {y : List Int} (hs : numOk y) : callN tb (n + 2) 22 [numD y] = .ok (.int ((beatsL y).length : Int)) := by
  rw [callN_at h.l]
  refine run_of rfl ?_
  have e := beats_ok (tb := tb) h.b n hs.small
  have z := beatsL_len hs.small
  have z2 := hs.2.1
  have e2 : b1D .len (tx (beatsL y)) = .ok (.int ((beatsL y).length : Int)) := o_lenT (by have : SZ = 16000000 := rfl; omega)
  unfold f_long
  simp_wf
  decreasing_trivial
  rfl
theorem all_of_ok {tb : Tab} (h : HasN tb) (n : Nat) : ∀ k : Nat, k < 3 → callN tb (n + 1) 23 [.int (1 + (k : Int))] = .ok (.list ((nums k).map numD)) := by
  intro k hk
  rw [callN_at h.o]
  match k, hk with
  | 0, _ => kernel_rfl
  | 1, _ => kernel_rfl
  | 2, _ => kernel_rfl
theorem num_small {y : List Int} (h : y ∈ all84) : numOk y := by
  have : ∀ y ∈ all84, 1 ≤ y.length ∧ y.length ≤ 3 ∧ ∀ c ∈ y, 1 ≤ c ∧ c ≤ 4 := by decide +kernel
  exact this y h
def numsF (m : Nat) (few : Int) : List (List Int) := all84.filter fun y => decide (y.length ≤ m) && decide (y.sum ≤ few)
theorem nums_len (k : Nat) : (nums k).length ≤ 64 := by
  match k with
  | 0 => decide +kernel
  | 1 => decide +kernel
  | k + 2 => exact (show n3.length ≤ 64 by decide +kernel)
theorem app_at {ρ : Env} {i : Nat} {xs ys : List PyData} (h : ρ[i]? = some (some (1, .list xs))) (hl : xs.length + ys.length < SZ) : appSlot ρ i ys = .ok (ρ.set i (some (1, .list (xs ++ ys)))) := by
  unfold appSlot
  rw [h]
  show gd (decide (xs.length + ys.length < SZ)) (R.ok _) = _
  rw [decide_eq_true hl]
  rfl
theorem flat_len {α β : Type} {f : α → List β} {b : Nat} (h : ∀ a, (f a).length ≤ b) : ∀ l : List α, (l.flatMap f).length ≤ l.length * b
  | [] => Nat.zero_le _
  | a :: r => by
    rw [List.flatMap_cons, List.length_append, List.length_cons, Nat.succ_mul]
    have := flat_len h r
    have := h a
    omega
theorem all_numbers_ok {tb : Tab} (h : HasN tb) (n : Nat) {m : Nat} (hm : m ≤ 3) (few : Int) : callN tb (n + 2) 24 [.int (m : Int), .int few] = .ok (.tuple ((numsF m few).map numD)) := by
  rw [callN_at h.n]
  refine run_of rfl ?_
  unfold f_all_numbers
  simp only [List.length_cons, List.length_nil, Nat.reduceAdd, Nat.reduceSub, List.replicate, startE, List.map_cons, List.map_nil, List.cons_append, List.nil_append]
  decreasing_trivial
  have e1 : ((m : Int) + 1 - 1).toNat = m := by omega
  refine wp_for (L := List.range m) (enc := fun k : Nat => PyData.int (1 + (k : Int))) (fun dn ρ' => ρ' = [some (0, .int (m : Int)), some (0, .int few), some (1, .list ((dn.flatMap fun k => (nums k).filter fun y => decide (y.sum ≤ few)).map numD)), none, none]) (by simp_wf) ?_ rfl ?_ ?_
  · have e := it_rng2 (c := ⟨callN tb (n + 1), true⟩) (ρ := [some (0, .int (m : Int)), some (0, .int few), some (1, .list []), none, none]) (a := .cst (.int 1)) (b := .bin .Add (.var 0) (.cst (.int 1))) (lo := 1) (hi := (m : Int) + 1) (by trivial) (by trivial) (by omega)
    rw [e1] at e
    exact e
  · intro dn k rs ρ' hL j
    subst j
    have hk : k < m := by
      have : k ∈ List.range m := by rw [hL]; simp
      exact List.mem_range.mp this
    refine ⟨_, by simp_wf, ?_⟩
    have fl : ∀ k : Nat, ((nums k).filter fun y => decide (y.sum ≤ few)).length ≤ 64 := fun k => Nat.le_trans (List.length_filter_le _ _) (nums_len k)
    have hdn : dn.length ≤ 3 := by
      have := congrArg List.length hL
      rw [List.length_range, List.length_append] at this
      omega
    have f1 := flat_len fl dn
    have f2 := fl k
    refine wp_ext (xs := ((nums k).filter fun y => decide (y.sum ≤ few)).map numD) (by simp_wf) ?_ (app_at rfl (by rw [List.length_map, List.length_map]; exact Nat.lt_of_le_of_lt (Nat.add_le_add f1 f2) (by have : SZ = 16000000 := rfl; omega))) (wp_nil ?_)
    · have e23 := all_of_ok h n k (by omega)
      refine ev_cmp1M (L := nums k) (enc := numD) (by trivial) (Nat.le_trans (nums_len k) (by decide)) fun y hy => ?_
      have e21 := taps_ok h n y
      refine ⟨_, by simp_wf, by trivial, fun _ => by trivial⟩
    · show restr _ _ = _
      simp only [List.set_cons_succ, List.set_cons_zero, restr]
      rw [List.flatMap_append, List.map_append, List.flatMap_cons, List.flatMap_nil, List.append_nil]
  · intro ρ' j
    subst j
    have hp : (((List.range m).flatMap fun k => (nums k).filter fun y => decide (y.sum ≤ few))).Perm (numsF m few) := by
      have e : ((List.range m).flatMap fun k => (nums k).filter fun y => decide (y.sum ≤ few)) = ((List.range m).flatMap nums).filter fun y => decide (y.sum ≤ few) := by
        rw [List.filter_flatMap]
      rw [e]
      unfold numsF
      rw [show (all84.filter fun y => decide (y.length ≤ m) && decide (y.sum ≤ few)) = (all84.filter fun y => decide (y.length ≤ m)).filter fun y => decide (y.sum ≤ few) from by rw [List.filter_filter]; congr 1; funext y; rw [Bool.and_comm]]
      exact (nums_perm m (by omega)).filter _
    have hpw : (numsF m few).Pairwise fun a b => dle (numD a) (numD b) = true := all84_pw.filter _
    have hlen : ((List.range m).flatMap fun k => (nums k).filter fun y => decide (y.sum ≤ few)).length ≤ SZ := by
      have := flat_len (b := 64) (fun k => Nat.le_trans (List.length_filter_le (fun y : List Int => decide (y.sum ≤ few)) _) (nums_len k)) (List.range m)
      rw [List.length_range] at this
      have : SZ = 16000000 := rfl
      omega
    have e1 := sort_num hp hpw hlen
    have e2 : b1D .tuple (.list ((numsF m few).map numD)) = .ok (.tuple ((numsF m few).map numD)) := rfl
    decreasing_trivial
    rfl
/-- the number that sounds so -/
def numBy (t : List Nat) : Option (List Int) := all84.find? fun y => decide (beatsL y = t)
theorem nums_all : numsF 3 12 = all84 := by decide +kernel
theorem number_of_ok {tb : Tab} (h : HasN tb) (n : Nat) (t : List Nat) : callN tb (n + 3) 25 [tx t] = (numBy t).elim (.err 0) fun y => .ok (numD y) := by
  rw [callN_at h.f]
  have key : exs ⟨callN tb (n + 2), true⟩ [some (0, tx t), none] f_number_of.body = (numBy t).elim (R.err 0) fun y => R.ok (Fl.rt (numD y)) := by
    have e24 : callN tb (n + 2) 24 [.int 3, .int 12] = .ok (.tuple (all84.map numD)) := by
      have := all_numbers_ok h n (m := 3) (by decide) 12
      rw [nums_all] at this
      exact this
    have em : binD .Mult (.int 3) (.int 4) = .ok (.int 12) := rfl
    have hl : ex ⟨callN tb (n + 2), true⟩ [some (0, tx t), none] (.fore (.nm 1) (.val (.fn 24 (.cons (.cst (.int 3)) (.cons (.bin .Mult (.cst (.int 3)) (.cst (.int 4))) .nil)))) (.cons (.ife (.cmp .Eq (.fn 20 (.cons (.var 1) .nil)) (.var 0)) (.cons (.ret (.var 1)) .nil) .nil) .nil)) =
        (numBy t).elim (.ok (.nx [some (0, tx t), none])) fun y => .ok (.rt (numD y)) := by
      refine x_for (l := all84.map numD) (by trivial) ?_
      refine loop_find (enc := numD) (g := numD) (p := fun y => decide (beatsL y = t)) (L := all84) fun y hy => ?_
      have eb := beats_ok (tb := tb) h.b (n + 1) (num_small hy).small
      have hb : ev ⟨callN tb (n + 2), true⟩ [some (0, tx t), some (0, numD y)] (.cmp .Eq (.fn 20 (.cons (.var 1) .nil)) (.var 0)) = .ok (.bool (decide (beatsL y = t))) := by trivial
      have st : ∀ r, exs ⟨callN tb (n + 2), true⟩ [some (0, tx t), some (0, numD y)] (.cons (.ife (.cmp .Eq (.fn 20 (.cons (.var 1) .nil)) (.var 0)) (.cons (.ret (.var 1)) .nil) .nil) .nil) = r → ((bindT (.nm 1) (numD y) (frz (gensI (.val (.fn 24 (.cons (.cst (.int 3)) (.cons (.bin .Mult (.cst (.int 3)) (.cst (.int 4))) .nil))))) [some (0, tx t), none])) >>= fun ρ1 => exs ⟨callN tb (n + 2), true⟩ ρ1 (.cons (.ife (.cmp .Eq (.fn 20 (.cons (.var 1) .nil)) (.var 0)) (.cons (.ret (.var 1)) .nil) .nil) .nil)) = r := fun r z => z
      refine ⟨fun q => st _ (xs_rt (x_if (k := true) (hb.trans (congrArg (fun z => R.ok (PyData.bool z)) q)) (xs_rt (x_ret rfl)))), fun q => ⟨[some (0, tx t), some (0, numD y)], st _ (xs_nx (x_if (k := false) (hb.trans (congrArg (fun z => R.ok (PyData.bool z)) q)) rfl) rfl), rfl⟩⟩
    show (ex ⟨callN tb (n + 2), true⟩ [some (0, tx t), none] _ >>= fun fl => match fl with | .nx ρ' => exs ⟨callN tb (n + 2), true⟩ ρ' (.cons (.rse 0) .nil) | .ct ρ' => R.ok (Fl.ct ρ') | .rt d => R.ok (Fl.rt d)) = _
    rw [hl]
    cases numBy t <;> rfl
  show gd true (exs ⟨callN tb (n + 2), true⟩ [some (0, tx t), none] f_number_of.body >>= fun fl => match fl with | .rt d => R.ok d | .nx _ => R.ok PyData.none | .ct _ => R.bad) = _
  rw [key]
  cases numBy t <;> rfl
end TD
/-! Things that may be sorted. -/
namespace TD
open PySem
/-! what is new -/
theorem fresh_lst (es : Es) : fresh (.lst es) = true := rfl
theorem fresh_dic  : fresh (.dic) = true := rfl
theorem fresh_cmp0 (e : E) (t : T) (i : I) : fresh (.cmp0 e t i) = true := rfl
theorem fresh_cmp1 (e : E) (t : T) (i : I) (b : E) : fresh (.cmp1 e t i b) = true := rfl
theorem fresh_add (a b : E) : fresh (.bin .Add a b) = true := rfl
theorem fresh_sub (a b : E) : fresh (.bin .Sub a b) = false := rfl
theorem fresh_mul (a b : E) : fresh (.bin .Mult a b) = false := rfl
theorem fresh_div (a b : E) : fresh (.bin .FloorDiv a b) = false := rfl
theorem fresh_mod (a b : E) : fresh (.bin .Mod a b) = false := rfl
theorem fresh_var (i : Nat) : fresh (.var i) = false := rfl
theorem fresh_cst (d : PyData) : fresh (.cst d) = false := rfl
theorem fresh_fn (f : Nat) (es : Es) : fresh (.fn f es) = false := rfl
theorem fresh_b1 (b : B) (a : E) : fresh (.b1 b a) = false := rfl
theorem fresh_idx (a b : E) : fresh (.idx a b) = false := rfl
theorem fresh_slc (a b c : E) : fresh (.slc a b c) = false := rfl
theorem fresh_mt (m : M) (a : E) (es : Es) : fresh (.mt m a es) = false := rfl
theorem fresh_tup (es : Es) : fresh (.tup es) = false := rfl
theorem fresh_told (f : Nat) (es : Es) : fresh (.told f es) = false := rfl
theorem fresh_mix (i : Nat) (a : E) : fresh (.mix i a) = false := rfl
theorem fresh_mx (a b : E) : fresh (.mx a b) = false := rfl
theorem fresh_rev (a : E) : fresh (.rev a) = false := rfl
theorem fresh_cmp (o : CmpOp) (a b : E) : fresh (.cmp o a b) = false := rfl
theorem fresh_and (a b : E) : fresh (.and a b) = false := rfl
theorem fresh_or (a b : E) : fresh (.or a b) = false := rfl
theorem fresh_not (a : E) : fresh (.not a) = false := rfl
theorem bl_abs : (B.abs == B.len) = false := rfl
theorem bl_sum : (B.sum == B.len) = false := rfl
theorem bl_min : (B.min == B.len) = false := rfl
theorem bl_max : (B.max == B.len) = false := rfl
theorem bl_sorted : (B.sorted == B.len) = false := rfl
theorem bl_list : (B.list == B.len) = false := rfl
theorem bl_tuple : (B.tuple == B.len) = false := rfl
theorem bl_dict : (B.dict == B.len) = false := rfl
theorem bl_int : (B.int == B.len) = false := rfl
theorem bl_str : (B.str == B.len) = false := rfl
theorem bl_repr : (B.repr == B.len) = false := rfl
theorem bl_all : (B.all == B.len) = false := rfl
theorem bl_any : (B.any == B.len) = false := rfl
theorem bl_sset : (B.sset == B.len) = false := rfl
theorem bl_lset : (B.lset == B.len) = false := rfl
theorem bl_sortk : (B.sortk == B.len) = false := rfl
theorem bl_isi (t : Nat) : (B.isi t == B.len) = false := rfl
theorem ml_join : (M.join == M.get) = false := rfl
theorem ml_split : (M.split == M.get) = false := rfl
theorem ml_count : (M.count == M.get) = false := rfl
theorem ml_index : (M.index == M.get) = false := rfl
theorem ml_replace : (M.replace == M.get) = false := rfl
theorem ml_rstrip : (M.rstrip == M.get) = false := rfl
theorem ml_upper : (M.upper == M.get) = false := rfl
theorem ml_endswith : (M.endswith == M.get) = false := rfl
theorem ml_lcount : (M.lcount == M.get) = false := rfl
theorem toks_sep {x y : PyData} (ha : PySem.W.alike x y = true) (h : PySem.W.keyToks x = PySem.W.keyToks y) : PyData.eqv x y = true := by
  cases q : PyData.eqv x y with
  | true => rfl
  | false =>
    have z := (PySem.W.toks_eqv x y ha).2 q [.inl 0] [.inl 1]
    rw [h, PySem.W.lex_pre, PyProof.Rows.lex_irrefl] at z
    exact absurd z (by decide +kernel)
/-- of one kind, so that they may be sorted -/
structure Ordd {α : Type} (e : α → PyData) (n : Nat) : Prop where
  nice : Nice e n
  al : ∀ a b, PySem.W.alike (e a) (e b) = true
def Knd {α : Type} (e : α → PyData) : Prop := (∀ a, isTup (e a) = true) ∨ (∀ a, isInt (e a) = true) ∨ (∀ a, isStr (e a) = true)
section
variable {α β : Type} {e : α → PyData} {f : β → PyData} {n m : Nat}
theorem alike_all (h : ∀ a b : α, PySem.W.alike (e a) (e b) = true) : ∀ xs ys : List α, PySem.W.alikeAll (xs.map e) (ys.map e) = true
  | [], ys => by cases ys <;> rfl
  | _ :: _, [] => rfl
  | x :: xs, y :: ys => by
    show (PySem.W.alike (e x) (e y) && PySem.W.alikeAll (xs.map e) (ys.map e)) = true
    rw [h, alike_all h xs ys]
    rfl
theorem ordd_int : Ordd PyData.int 0 := ⟨nice_int, fun _ _ => rfl⟩
theorem ordd_str : Ordd PyData.str 0 := ⟨nice_str, fun _ _ => rfl⟩
theorem ordd_tx : Ordd tx 0 := ⟨nice_tx, fun _ _ => rfl⟩
theorem ordd_tup (h : Ordd e n) : Ordd (fun l : List α => PyData.tuple (l.map e)) (n + 1) := ⟨nice_tup h.nice, fun a b => alike_all h.al a b⟩
theorem ordd_pair (h : Ordd e n) (g : Ordd f m) : Ordd (fun p : α × β => PyData.tuple [e p.1, f p.2]) (max n m + 1) := ⟨nice_pair h.nice g.nice, fun a b => by
  show (PySem.W.alike (e a.1) (e b.1) && (PySem.W.alike (f a.2) (f b.2) && true)) = true
  rw [h.al, g.al]
  rfl⟩
theorem ordd_num : Ordd numD 1 := ordd_tup ordd_int
theorem ordd_call : Ordd callD 1 := ordd_pair ordd_str ordd_int
theorem ordd_calls : Ordd callsD 2 := ordd_tup ordd_call
theorem ordd_box : Ordd boxD 2 := ordd_pair ordd_str ordd_num
theorem ordd_lot : Ordd lotD 3 := ordd_tup ordd_box
theorem knd_num : Knd numD := .inl fun _ => rfl
theorem knd_calls : Knd callsD := .inl fun _ => rfl
theorem knd_box : Knd boxD := .inl fun _ => rfl
theorem knd_int : Knd PyData.int := .inr (.inl fun _ => rfl)
theorem knd_str : Knd PyData.str := .inr (.inr fun _ => rfl)
theorem knd_tx : Knd tx := .inr (.inr fun _ => rfl)
theorem Ordd.anti (h : Ordd e n) {a b : α} (h1 : dle (e a) (e b) = true) (h2 : dle (e b) (e a) = true) : a = b := by
  refine (h.nice.eqv a b).mp (toks_sep (h.al a b) ?_)
  have h1 : (!PyProof.Rows.lexLt PyProof.Rows.itemOrd (PySem.W.keyToks (e b)) (PySem.W.keyToks (e a))) = true := h1
  have h2 : (!PyProof.Rows.lexLt PyProof.Rows.itemOrd (PySem.W.keyToks (e a)) (PySem.W.keyToks (e b))) = true := h2
  rw [Bool.not_eq_true'] at h1 h2
  exact (PyProof.Rows.listOrd PyProof.Rows.itemOrd).total _ _ h2 h1
def leE (e : α → PyData) (a b : α) : Bool := dle (e a) (e b)
theorem leE_trans (a b c : α) (h1 : leE e a b = true) (h2 : leE e b c = true) : leE e a c = true := dle_total.trans _ _ _ h1 h2
theorem leE_total (a b : α) : (leE e a b || leE e b a) = true := (Bool.or_eq_true _ _).mpr (dle_total.total _ _)
theorem leE_refl (a : α) : leE e a a = true := by
  have := leE_total (e := e) a a
  rw [Bool.or_self] at this
  exact this
/-- sorted -/
def sortE (e : α → PyData) (xs : List α) : List α := xs.mergeSort (leE e)
theorem sortE_perm (xs : List α) : (sortE e xs).Perm xs := List.mergeSort_perm _ _
theorem sortE_pw (xs : List α) : (sortE e xs).Pairwise fun a b => leE e a b = true := List.pairwise_mergeSort leE_trans leE_total xs
theorem mem_sortE {xs : List α} {a : α} : a ∈ sortE e xs ↔ a ∈ xs := (sortE_perm xs).mem_iff
theorem sortE_len (xs : List α) : (sortE e xs).length = xs.length := (sortE_perm xs).length_eq
theorem sortE_eq (h : Ordd e n) {xs ys : List α} (p : xs.Perm ys) (q : ys.Pairwise fun a b => leE e a b = true) : sortE e xs = ys :=
  List.Perm.eq_of_pairwise (le := fun a b => leE e a b = true) (fun a b _ _ h1 h2 => h.anti h1 h2) (sortE_pw xs) q ((sortE_perm xs).trans p)
theorem sortE_congr (h : Ordd e n) {xs ys : List α} (p : xs.Perm ys) : sortE e xs = sortE e ys := sortE_eq h (p.trans (sortE_perm ys).symm) (sortE_pw ys)
theorem srt_map (xs : List α) : srt (xs.map e) = (sortE e xs).map e := (List.map_mergeSort (r := leE e) (s := dle) (f := e) (fun _ _ _ _ => rfl)).symm
theorem sOk_of (h : Ordd e n) (hn : n ≤ 9) (k : Knd e) (xs : List α) : sOk (xs.map e) = true := by
  unfold sOk
  rw [Bool.and_eq_true, Bool.and_eq_true, Bool.or_eq_true, Bool.or_eq_true]
  refine ⟨⟨List.all_eq_true.mpr fun x hx => ?_, ?_⟩, List.all_eq_true.mpr fun x hx => List.all_eq_true.mpr fun y hy => ?_⟩
  · obtain ⟨a, _, rfl⟩ := List.mem_map.mp hx
    exact dOk_le hn (h.nice.dk a)
  · rcases k with k | k | k
    · refine .inl (.inl (List.all_eq_true.mpr fun x hx => ?_))
      obtain ⟨a, _, rfl⟩ := List.mem_map.mp hx
      exact k a
    · refine .inl (.inr (List.all_eq_true.mpr fun x hx => ?_))
      obtain ⟨a, _, rfl⟩ := List.mem_map.mp hx
      exact k a
    · refine .inr (List.all_eq_true.mpr fun x hx => ?_)
      obtain ⟨a, _, rfl⟩ := List.mem_map.mp hx
      exact k a
  · obtain ⟨a, _, rfl⟩ := List.mem_map.mp hx
    obtain ⟨b, _, rfl⟩ := List.mem_map.mp hy
    exact h.al a b
theorem sort_ok (h : Ordd e n) (hn : n ≤ 9) (k : Knd e) {xs : List α} (hl : xs.length ≤ SZ) : b1D .sorted (.list (xs.map e)) = .ok (.list ((sortE e xs).map e)) := by
  show gd (sOk (xs.map e) && decide ((xs.map e).length ≤ SZ)) (R.ok (PyData.list (srt (xs.map e)))) = _
  rw [sOk_of h hn k, List.length_map, decide_eq_true hl, srt_map]
  rfl
/-! the least -/
def minE (e : α → PyData) (x : α) (xs : List α) : α := xs.foldl (fun a y => if PySem.W.dataLt (e y) (e a) then y else a) x
theorem minD_map (e : α → PyData) : ∀ (xs : List α) (x : α), PySem.W.minD (e x) (xs.map e) = e (minE e x xs)
  | [], _ => rfl
  | y :: r, x => by
    have ih := minD_map e r (if PySem.W.dataLt (e y) (e x) then y else x)
    show PySem.W.minD (if PySem.W.dataLt (e y) (e x) then e y else e x) (r.map e) = _
    rw [show (if PySem.W.dataLt (e y) (e x) then e y else e x) = e (if PySem.W.dataLt (e y) (e x) then y else x) from by split <;> rfl, ih]
    rfl
theorem min_ok (h : Ordd e n) (hn : n ≤ 9) (k : Knd e) (x : α) (xs : List α) : b1D .min (.list ((x :: xs).map e)) = .ok (e (minE e x xs)) := by
  show gd (sOk ((x :: xs).map e)) (R.ok (PySem.W.minD (e x) (xs.map e))) = _
  rw [sOk_of h hn k, minD_map]
  rfl
theorem leE_lt (a b : α) : leE e a b = !PySem.W.dataLt (e b) (e a) := rfl
theorem lt_leE {a b : α} (h : PySem.W.dataLt (e a) (e b) = true) : leE e a b = true := by
  have := leE_total (e := e) a b
  rw [leE_lt b a, h] at this
  simpa using this
theorem minE_le : ∀ (xs : List α) (x : α), leE e (minE e x xs) x = true ∧ ∀ y ∈ xs, leE e (minE e x xs) y = true
  | [], x => ⟨leE_refl x, fun y hy => absurd hy List.not_mem_nil⟩
  | y :: r, x => by
    obtain ⟨h1, h2⟩ := minE_le r (if PySem.W.dataLt (e y) (e x) then y else x)
    have e0 : minE e x (y :: r) = minE e (if PySem.W.dataLt (e y) (e x) then y else x) r := rfl
    rw [e0]
    have hx : leE e (if PySem.W.dataLt (e y) (e x) then y else x) x = true := by
      split
      · rename_i q
        exact lt_leE q
      · exact leE_refl x
    have hy : leE e (if PySem.W.dataLt (e y) (e x) then y else x) y = true := by
      split
      · exact leE_refl y
      · rename_i q
        rw [leE_lt]
        simpa using q
    refine ⟨leE_trans _ _ _ h1 hx, fun z hz => ?_⟩
    rcases List.mem_cons.mp hz with rfl | hz
    · exact leE_trans _ _ _ h1 hy
    · exact h2 z hz
theorem minE_mem : ∀ (xs : List α) (x : α), minE e x xs ∈ x :: xs
  | [], x => List.mem_cons_self
  | y :: r, x => by
    have e0 : minE e x (y :: r) = minE e (if PySem.W.dataLt (e y) (e x) then y else x) r := rfl
    rw [e0]
    rcases List.mem_cons.mp (minE_mem r (if PySem.W.dataLt (e y) (e x) then y else x)) with q | q
    · rw [q]
      split
      · exact List.mem_cons_of_mem _ List.mem_cons_self
      · exact List.mem_cons_self
    · exact List.mem_cons_of_mem _ (List.mem_cons_of_mem _ q)
end
end TD
/-! All calls, by two ways. -/
namespace TD
open PySem
abbrev Cl := Str × Int
/-- calls of up to so many boxes, from a box on -/
def pickC (ns : List Str) (w : Nat) : Nat → Nat → List (List Cl)
  | 0, _ => [[]]
  | m + 1, f => [] :: (List.range (ns.length - f)).flatMap fun k => (List.range (w + 1)).flatMap fun (b : Nat) => (pickC ns w m (f + k + 1)).map fun r => (ns.getD (f + k) "", (b : Int)) :: r
theorem sub_at {α : Type} {a : α} {l : List α} : ∀ {L : List α}, (a :: l).Sublist L → ∃ k, k < L.length ∧ L[k]? = some a ∧ l.Sublist (L.drop (k + 1))
  | [], h => by cases h
  | b :: L, h => by
    cases h with
    | cons _ h =>
      obtain ⟨k, h1, h2, h3⟩ := sub_at h
      exact ⟨k + 1, by simp only [List.length_cons]; omega, h2, h3⟩
    | cons_cons _ h => exact ⟨0, by simp, rfl, h⟩
theorem at_sub {α : Type} {a : α} {l : List α} : ∀ {L : List α} {k : Nat}, L[k]? = some a → l.Sublist (L.drop (k + 1)) → (a :: l).Sublist L
  | [], _, h, _ => by simp at h
  | b :: L, 0, h, s => by
    have e := Option.some.inj (show some b = some a from h)
    subst e
    exact s.cons_cons b
  | b :: L, k + 1, h, s => (at_sub (L := L) (k := k) h s).cons b
theorem mem_pick (ns : List Str) (w : Nat) : ∀ (m f : Nat) (cs : List Cl), cs ∈ pickC ns w m f ↔ cs.length ≤ m ∧ (cs.map (·.1)).Sublist (ns.drop f) ∧ ∀ c ∈ cs, 0 ≤ c.2 ∧ c.2 ≤ (w : Int)
  | 0, f, cs => by
    constructor
    · intro h
      cases List.mem_singleton.mp h
      exact ⟨Nat.le_refl 0, List.nil_sublist _, fun c hc => absurd hc List.not_mem_nil⟩
    · rintro ⟨h, _, _⟩
      cases cs with
      | nil => exact List.mem_singleton.mpr rfl
      | cons c r => simp at h
  | m + 1, f, [] => by
    constructor
    · intro _
      exact ⟨Nat.zero_le _, List.nil_sublist _, fun c hc => absurd hc List.not_mem_nil⟩
    · intro _
      exact List.mem_cons_self
  | m + 1, f, c :: r => by
    show c :: r ∈ [] :: (List.range (ns.length - f)).flatMap (fun k => (List.range (w + 1)).flatMap fun (b : Nat) => (pickC ns w m (f + k + 1)).map fun r => (ns.getD (f + k) "", (b : Int)) :: r) ↔ _
    rw [List.mem_cons, List.mem_flatMap]
    constructor
    · rintro (h | ⟨k, hk, h⟩)
      · cases h
      · obtain ⟨b, hb, h⟩ := List.mem_flatMap.mp h
        obtain ⟨r', hr, e⟩ := List.mem_map.mp h
        cases e
        obtain ⟨h1, h2, h3⟩ := (mem_pick ns w m (f + k + 1) r).mp hr
        have hk := List.mem_range.mp hk
        have hb := List.mem_range.mp hb
        refine ⟨Nat.succ_le_succ h1, ?_, fun c hc => ?_⟩
        · rw [List.map_cons]
          refine at_sub (k := k) ?_ ?_
          · rw [List.getElem?_drop]
            rw [List.getD_eq_getElem?_getD]
            rw [List.getElem?_eq_getElem (by omega)]
            rfl
          · rw [List.drop_drop]
            exact h2
        · rcases List.mem_cons.mp hc with rfl | hc
          · exact ⟨by simp, by show (b : Int) ≤ _; omega⟩
          · exact h3 c hc
    · rintro ⟨h1, h2, h3⟩
      right
      rw [List.map_cons] at h2
      obtain ⟨k, k1, k2, k3⟩ := sub_at h2
      rw [List.length_drop] at k1
      rw [List.getElem?_drop] at k2
      rw [List.drop_drop] at k3
      have hc := h3 c List.mem_cons_self
      refine ⟨k, List.mem_range.mpr k1, List.mem_flatMap.mpr ⟨c.2.toNat, List.mem_range.mpr (by omega), List.mem_map.mpr ⟨r, (mem_pick ns w m (f + k + 1) r).mpr ⟨Nat.le_of_succ_le_succ h1, k3, fun d hd => h3 d (List.mem_cons_of_mem _ hd)⟩, ?_⟩⟩⟩
      rw [List.getD_eq_getElem?_getD, k2]
      show (c.1, ((c.2.toNat : Nat) : Int)) :: r = c :: r
      rw [Int.toNat_of_nonneg hc.1]
theorem pick_nd {ns : List Str} (hn : ns.Nodup) (w : Nat) : ∀ (m f : Nat), (pickC ns w m f).Nodup
  | 0, f => List.pairwise_singleton _ _
  | m + 1, f => by
    show ([] :: (List.range (ns.length - f)).flatMap (fun k => (List.range (w + 1)).flatMap fun (b : Nat) => (pickC ns w m (f + k + 1)).map fun r => (ns.getD (f + k) "", (b : Int)) :: r)).Nodup
    rw [List.nodup_cons]
    constructor
    · intro h
      obtain ⟨k, _, h⟩ := List.mem_flatMap.mp h
      obtain ⟨b, _, h⟩ := List.mem_flatMap.mp h
      obtain ⟨r, _, e⟩ := List.mem_map.mp h
      cases e
    · refine List.pairwise_flatMap.mpr ⟨fun k _ => List.pairwise_flatMap.mpr ⟨fun b _ => ?_, ?_⟩, ?_⟩
      · refine List.pairwise_map.mpr ((pick_nd hn w m (f + k + 1)).imp fun h e => h ?_)
        cases e
        rfl
      · refine List.nodup_range.imp fun {a b} h x hx y hy e => ?_
        obtain ⟨r, _, rfl⟩ := List.mem_map.mp hx
        obtain ⟨t, _, rfl⟩ := List.mem_map.mp hy
        injection e with e1 e2
        injection e1 with e3 e4
        exact h (by omega)
      · have hr : (List.range (ns.length - f)).Pairwise fun a b => a ≠ b ∧ a < ns.length - f ∧ b < ns.length - f := by
          refine List.Pairwise.imp_of_mem (fun {a b} ha hb h => ⟨h, List.mem_range.mp ha, List.mem_range.mp hb⟩) (List.nodup_range (n := ns.length - f))
        refine hr.imp fun {a b} h x hx y hy e => ?_
        obtain ⟨i, _, hx⟩ := List.mem_flatMap.mp hx
        obtain ⟨j, _, hy⟩ := List.mem_flatMap.mp hy
        obtain ⟨r, _, rfl⟩ := List.mem_map.mp hx
        obtain ⟨t, _, rfl⟩ := List.mem_map.mp hy
        injection e with e1 e2
        injection e1 with e3 e4
        obtain ⟨h1, h2, h3⟩ := h
        rw [List.getD_eq_getElem?_getD, List.getD_eq_getElem?_getD, List.getElem?_eq_getElem (show f + a < ns.length by omega), List.getElem?_eq_getElem (show f + b < ns.length by omega)] at e3
        have := (List.getElem_inj hn).mp (show ns[f + a] = ns[f + b] from e3)
        omega
/-! ### layer by layer -/
def ltS (a b : Str) : Prop := chs a < chs b
instance (a b : Str) : Decidable (ltS a b) := inferInstanceAs (Decidable (chs a < chs b))
def okNext (cs : List Cl) (nm : Str) : Bool := match cs.getLast? with
  | none => true
  | some c => decide (ltS c.1 nm)
def stepC (ns : List Str) (w : Nat) (cs : List Cl) : List (List Cl) := ns.flatMap fun nm => if okNext cs nm then (List.range (w + 1)).map fun (b : Nat) => cs ++ [(nm, (b : Int))] else []
def layerC (ns : List Str) (w : Nat) : Nat → List (List Cl)
  | 0 => [[]]
  | k + 1 => (layerC ns w k).flatMap (stepC ns w)
def everyC (ns : List Str) (w m : Nat) : List (List Cl) := (List.range (m + 1)).flatMap (layerC ns w)
theorem ltS_trans {a b c : Str} (h1 : ltS a b) (h2 : ltS b c) : ltS a c := List.lt_trans h1 h2
theorem ltS_irrefl (a : Str) : ¬ ltS a a := List.lt_irrefl _
theorem mem_layer (ns : List Str) (w : Nat) : ∀ (k : Nat) (cs : List Cl), cs ∈ layerC ns w k ↔ cs.length = k ∧ (cs.map (·.1)).Pairwise ltS ∧ ∀ c ∈ cs, c.1 ∈ ns ∧ 0 ≤ c.2 ∧ c.2 ≤ (w : Int)
  | 0, cs => by
    constructor
    · intro h
      cases List.mem_singleton.mp h
      exact ⟨rfl, .nil, fun c hc => absurd hc List.not_mem_nil⟩
    · rintro ⟨h, _, _⟩
      cases List.eq_nil_of_length_eq_zero h
      exact List.mem_singleton.mpr rfl
  | k + 1, cs => by
    show cs ∈ (layerC ns w k).flatMap (stepC ns w) ↔ _
    rw [List.mem_flatMap]
    constructor
    · rintro ⟨i, hi, h⟩
      obtain ⟨h1, h2, h3⟩ := (mem_layer ns w k i).mp hi
      obtain ⟨nm, hn, h⟩ := List.mem_flatMap.mp h
      cases q : okNext i nm with
      | false =>
        rw [q] at h
        exact absurd h List.not_mem_nil
      | true =>
        rw [q] at h
        obtain ⟨b, hb, rfl⟩ := List.mem_map.mp (show cs ∈ (List.range (w + 1)).map fun (b : Nat) => i ++ [(nm, (b : Int))] from h)
        have hb := List.mem_range.mp hb
        refine ⟨by rw [List.length_append, h1]; rfl, ?_, fun c hc => ?_⟩
        · rw [List.map_append]
          refine List.pairwise_append.mpr ⟨h2, List.pairwise_singleton _ _, fun x hx y hy => ?_⟩
          cases List.mem_singleton.mp (show y ∈ [nm] from hy)
          have hl : ∃ r c, i = r ++ [c] := by
            rcases List.eq_nil_or_concat i with e | ⟨r, c, e⟩
            · rw [e] at hx
              exact absurd hx List.not_mem_nil
            · exact ⟨r, c, by rw [e]; simp⟩
          obtain ⟨r, c, e⟩ := hl
          have hq : ltS c.1 nm := by
            unfold okNext at q
            rw [e, List.getLast?_concat] at q
            exact of_decide_eq_true q
          rw [e, List.map_append] at hx h2
          rcases List.mem_append.mp hx with hx | hx
          · exact ltS_trans ((List.pairwise_append.mp h2).2.2 x hx c.1 (List.mem_singleton.mpr rfl)) hq
          · cases List.mem_singleton.mp (show x ∈ [c.1] from hx)
            exact hq
        · rcases List.mem_append.mp hc with hc | hc
          · exact h3 c hc
          · cases List.mem_singleton.mp hc
            exact ⟨hn, by simp, by show (b : Int) ≤ _; omega⟩
    · rintro ⟨h1, h2, h3⟩
      rcases List.eq_nil_or_concat cs with e | ⟨r, c, e⟩
      · rw [e] at h1
        cases h1
      · rw [List.concat_eq_append] at e
        subst e
        rw [List.length_append] at h1
        rw [List.map_append] at h2
        obtain ⟨p1, _, p3⟩ := List.pairwise_append.mp h2
        have hc := h3 c (by simp)
        refine ⟨r, (mem_layer ns w k r).mpr ⟨by simpa using h1, p1, fun d hd => h3 d (List.mem_append_left _ hd)⟩, List.mem_flatMap.mpr ⟨c.1, hc.1, ?_⟩⟩
        have q : okNext r c.1 = true := by
          unfold okNext
          cases q : r.getLast? with
          | none => rfl
          | some d =>
            have hd : d ∈ r := List.mem_of_getLast? q
            exact decide_eq_true (p3 d.1 (List.mem_map.mpr ⟨d, hd, rfl⟩) c.1 (List.mem_singleton.mpr rfl))
        rw [q]
        show r ++ [c] ∈ (List.range (w + 1)).map fun (b : Nat) => r ++ [(c.1, (b : Int))]
        refine List.mem_map.mpr ⟨c.2.toNat, List.mem_range.mpr (by omega), ?_⟩
        rw [Int.toNat_of_nonneg hc.2.1]
theorem step_nd {ns : List Str} (hn : ns.Nodup) (w : Nat) (cs : List Cl) : (stepC ns w cs).Nodup := by
  refine List.pairwise_flatMap.mpr ⟨fun nm _ => ?_, hn.imp fun {a b} h x hx y hy e => ?_⟩
  · split
    · refine List.pairwise_map.mpr (List.nodup_range.imp fun h e => h ?_)
      have := List.append_cancel_left e
      injection this with e1 _
      injection e1 with _ e2
      omega
    · exact .nil
  · split at hx
    · split at hy
      · obtain ⟨i, _, rfl⟩ := List.mem_map.mp hx
        obtain ⟨j, _, rfl⟩ := List.mem_map.mp hy
        have := List.append_cancel_left e
        injection this with e1 _
        injection e1 with e2 _
        exact h e2
      · exact absurd hy List.not_mem_nil
    · exact absurd hx List.not_mem_nil
theorem mem_step {ns : List Str} {w : Nat} {cs x : List Cl} (h : x ∈ stepC ns w cs) : ∃ c, x = cs ++ [c] := by
  obtain ⟨nm, _, h⟩ := List.mem_flatMap.mp h
  split at h
  · obtain ⟨b, _, rfl⟩ := List.mem_map.mp h
    exact ⟨_, rfl⟩
  · exact absurd h List.not_mem_nil
theorem layer_nd {ns : List Str} (hn : ns.Nodup) (w : Nat) : ∀ k, (layerC ns w k).Nodup
  | 0 => List.pairwise_singleton _ _
  | k + 1 => by
    refine List.pairwise_flatMap.mpr ⟨fun cs _ => step_nd hn w cs, (layer_nd hn w k).imp fun {a b} h x hx y hy e => ?_⟩
    obtain ⟨c, rfl⟩ := mem_step hx
    obtain ⟨d, rfl⟩ := mem_step hy
    have := (List.append_inj' e rfl).1
    exact h this
theorem every_nd {ns : List Str} (hn : ns.Nodup) (w m : Nat) : (everyC ns w m).Nodup := by
  refine List.pairwise_flatMap.mpr ⟨fun k _ => layer_nd hn w k, List.nodup_range.imp fun {a b} h x hx y hy e => ?_⟩
  have h1 := ((mem_layer ns w a x).mp hx).1
  have h2 := ((mem_layer ns w b y).mp hy).1
  rw [e] at h1
  exact h (h1.symm.trans h2)
theorem mem_every (ns : List Str) (w m : Nat) (cs : List Cl) : cs ∈ everyC ns w m ↔ cs.length ≤ m ∧ (cs.map (·.1)).Pairwise ltS ∧ ∀ c ∈ cs, c.1 ∈ ns ∧ 0 ≤ c.2 ∧ c.2 ≤ (w : Int) := by
  unfold everyC
  rw [List.mem_flatMap]
  constructor
  · rintro ⟨k, hk, h⟩
    obtain ⟨h1, h2, h3⟩ := (mem_layer ns w k cs).mp h
    have := List.mem_range.mp hk
    exact ⟨by omega, h2, h3⟩
  · rintro ⟨h1, h2, h3⟩
    exact ⟨cs.length, List.mem_range.mpr (by omega), (mem_layer ns w cs.length cs).mpr ⟨rfl, h2, h3⟩⟩
/-- of rising names: sublists are the rising rows of them -/
theorem sub_iff : ∀ {ns : List Str}, ns.Pairwise ltS → ∀ l : List Str, l.Sublist ns ↔ l.Pairwise ltS ∧ ∀ a ∈ l, a ∈ ns
  | [], _, l => by
    constructor
    · intro h
      cases List.sublist_nil.mp h
      exact ⟨.nil, fun a ha => absurd ha List.not_mem_nil⟩
    · rintro ⟨_, h⟩
      cases l with
      | nil => exact .slnil
      | cons a r => exact absurd (h a List.mem_cons_self) List.not_mem_nil
  | n :: ns, hp, l => by
    constructor
    · intro h
      exact ⟨hp.sublist h, fun a ha => h.subset ha⟩
    · rintro ⟨h1, h2⟩
      rw [List.pairwise_cons] at hp
      cases l with
      | nil => exact List.nil_sublist _
      | cons a r =>
        rw [List.pairwise_cons] at h1
        have hr : ∀ b ∈ r, b ∈ ns := fun b hb => by
          rcases List.mem_cons.mp (h2 b (List.mem_cons_of_mem _ hb)) with e | e
          · subst e
            have h3 := h1.1 b hb
            rcases List.mem_cons.mp (h2 a List.mem_cons_self) with e | e
            · rw [e] at h3
              exact absurd h3 (ltS_irrefl _)
            · exact absurd (ltS_trans h3 (hp.1 a e)) (ltS_irrefl _)
          · exact e
        rcases List.mem_cons.mp (h2 a List.mem_cons_self) with e | e
        · subst e
          exact ((sub_iff hp.2 r).mpr ⟨h1.2, hr⟩).cons_cons a
        · refine ((sub_iff hp.2 (a :: r)).mpr ⟨List.pairwise_cons.mpr h1, fun b hb => ?_⟩).cons n
          rcases List.mem_cons.mp hb with rfl | hb
          · exact e
          · exact hr b hb
theorem pick_perm {ns : List Str} (hp : ns.Pairwise ltS) (w m : Nat) : (pickC ns w m 0).Perm (everyC ns w m) := by
  have nd : ns.Nodup := hp.imp fun h e => by
    rw [e] at h
    exact ltS_irrefl _ h
  refine (List.perm_ext_iff_of_nodup (pick_nd nd w m 0) (every_nd nd w m)).mpr fun cs => ?_
  rw [mem_pick, mem_every, List.drop_zero, sub_iff hp]
  constructor
  · rintro ⟨h1, ⟨h2, h3⟩, h4⟩
    exact ⟨h1, h2, fun c hc => ⟨h3 c.1 (List.mem_map.mpr ⟨c, hc, rfl⟩), h4 c hc⟩⟩
  · rintro ⟨h1, h2, h3⟩
    refine ⟨h1, ⟨h2, fun a ha => ?_⟩, fun c hc => (h3 c hc).2⟩
    obtain ⟨c, hc, rfl⟩ := List.mem_map.mp ha
    exact (h3 c hc).1
/-- the first one begins at once -/
def at0 (cs : List Cl) : Bool := decide (cs = []) || decide (mnI (cs.map (·.2)) = 0)
/-- all calls of up to so many boxes -/
def allC (ns : List Str) (w m : Nat) : List (List Cl) := sortE callsD ((pickC ns w m 0).filter at0)
theorem all_every {ns : List Str} (hp : ns.Pairwise ltS) (w m : Nat) : sortE callsD ((everyC ns w m).filter at0) = allC ns w m := sortE_congr ordd_calls ((pick_perm hp w m).symm.filter _)
theorem mem_allC {ns : List Str} {w m : Nat} {cs : List Cl} : cs ∈ allC ns w m ↔ (cs.length ≤ m ∧ (cs.map (·.1)).Sublist ns ∧ ∀ c ∈ cs, 0 ≤ c.2 ∧ c.2 ≤ (w : Int)) ∧ at0 cs = true := by
  unfold allC
  rw [mem_sortE, List.mem_filter, mem_pick, List.drop_zero]
theorem nameL_lt : nameL.Pairwise ltS := by decide +kernel
theorem Drawn.lt {lot : List Box} {b : Nat} (h : Drawn lot b) : (lot.map (·.1)).Pairwise ltS := nameL_lt.sublist h.sub
/-! how many they are -/
theorem flat_le {α β : Type} {f : α → List β} {b : Nat} : ∀ {l : List α}, (∀ a ∈ l, (f a).length ≤ b) → (l.flatMap f).length ≤ l.length * b
  | [], _ => Nat.zero_le _
  | a :: r, h => by
    rw [List.flatMap_cons, List.length_append, List.length_cons, Nat.succ_mul]
    have := flat_le (l := r) fun x hx => h x (List.mem_cons_of_mem _ hx)
    have := h a List.mem_cons_self
    omega
def szC (n w : Nat) : Nat → Nat
  | 0 => 1
  | m + 1 => 1 + n * ((w + 1) * szC n w m)
theorem pick_len (ns : List Str) (w : Nat) : ∀ (m f : Nat), (pickC ns w m f).length ≤ szC ns.length w m
  | 0, f => Nat.le_refl 1
  | m + 1, f => by
    show ((List.range (ns.length - f)).flatMap (fun k => (List.range (w + 1)).flatMap fun (b : Nat) => (pickC ns w m (f + k + 1)).map fun r => (ns.getD (f + k) "", (b : Int)) :: r)).length + 1 ≤ 1 + ns.length * ((w + 1) * szC ns.length w m)
    have h := flat_le (l := List.range (ns.length - f)) (b := (w + 1) * szC ns.length w m) (f := fun k => (List.range (w + 1)).flatMap fun (b : Nat) => (pickC ns w m (f + k + 1)).map fun r => (ns.getD (f + k) "", (b : Int)) :: r) fun k _ => by
      have h := flat_le (l := List.range (w + 1)) (b := szC ns.length w m) (f := fun (b : Nat) => (pickC ns w m (f + k + 1)).map fun r => (ns.getD (f + k) "", (b : Int)) :: r) fun b _ => by
        rw [List.length_map]
        exact pick_len ns w m (f + k + 1)
      rw [List.length_range] at h
      exact h
    rw [List.length_range] at h
    have h2 := Nat.mul_le_mul_right ((w + 1) * szC ns.length w m) (Nat.sub_le ns.length f)
    omega
theorem szC_mono {n n' w w' : Nat} (hn : n ≤ n') (hw : w ≤ w') : ∀ {m m' : Nat}, m ≤ m' → szC n w m ≤ szC n' w' m'
  | 0, 0, _ => Nat.le_refl _
  | 0, m' + 1, _ => Nat.le_add_right 1 _
  | m + 1, 0, h => absurd h (by omega)
  | m + 1, m' + 1, h => by
    have ih := szC_mono hn hw (show m ≤ m' by omega)
    exact Nat.add_le_add_left (Nat.mul_le_mul hn (Nat.mul_le_mul (by omega) ih)) 1
end TD
/-! calls_from, all_calls. -/
namespace TD
open PySem
local macro_rules
  | `(tactic| infer_instance) => `(tactic| first
    | with_reducible assumption
    | with_reducible exact c_1 | with_reducible exact c_0 | with_reducible exact c_e | with_reducible exact c_000 | with_reducible exact c_tup0 | with_reducible exact c_lst0
    | with_reducible exact ev_cstE
    | with_reducible exact ev_nonE
    | with_reducible exact ev_dicE
    | ((with_reducible apply ev_varE); exact rfl)
    | ((with_reducible apply ev_bin); infer_instance; infer_instance; infer_instance)
    | ((with_reducible apply ev_negE); infer_instance)
    | ((with_reducible apply ev_notE); infer_instance)
    | ((with_reducible apply ev_one); infer_instance)
    | ((with_reducible apply ev_andE); infer_instance; intro _; infer_instance)
    | ((with_reducible apply ev_orE); infer_instance; intro _; infer_instance)
    | ((with_reducible apply ev_cmpE); infer_instance; infer_instance; infer_instance)
    | ((with_reducible apply ev_chnE); infer_instance; infer_instance; infer_instance; (intro _; infer_instance); (intro _; infer_instance))
    | ((with_reducible apply ev_tup); infer_instance)
    | ((with_reducible apply ev_lst); infer_instance)
    | ((with_reducible apply ev_idx); infer_instance; infer_instance; infer_instance)
    | ((with_reducible apply ev_slc); infer_instance; infer_instance; exact rfl; infer_instance; exact rfl; infer_instance)
    | ((with_reducible apply ev_fn); exact rfl; infer_instance; infer_instance)
    | ((with_reducible apply ev_b1); infer_instance; exact rfl; infer_instance)
    | ((with_reducible apply ev_mxE); infer_instance; infer_instance)
    | ((with_reducible apply ev_mt); infer_instance; infer_instance; infer_instance)
    | ((with_reducible apply ev_mixE); exact rfl; infer_instance; exact ⟨by decide, by decide⟩)
    | with_reducible exact evs_n
    | ((with_reducible apply evs_c); infer_instance; infer_instance)
    | ((with_reducible apply it_val); infer_instance; exact rfl; exact rfl)
    | ((with_reducible apply it_enm); infer_instance; exact rfl)
    | with_reducible exact o_addI _ _ | with_reducible exact o_subI _ _ | with_reducible exact o_divI ⟨by decide, by decide⟩ | with_reducible exact o_modI (by decide)
    | with_reducible exact o_eqI _ _ | with_reducible exact o_neI _ _ | with_reducible exact o_ltI _ _ | with_reducible exact o_gtI _ _ | with_reducible exact o_leI _ _ | with_reducible exact o_geI _ _
    | with_reducible exact o_eqB _ _ | with_reducible exact o_neB _ _
    | with_reducible exact o_eqT _ _ | with_reducible exact o_neT _ _ | with_reducible exact o_inTx _ _
    | with_reducible exact o_lenC _ | with_reducible exact o_lenLot _ | with_reducible exact o_lenN _ | with_reducible exact o_lenLM _ | with_reducible exact o_lenUM _ | with_reducible exact o_lenL _ | with_reducible exact o_lenU _
    | with_reducible exact o_eqC0 _ | with_reducible exact o_neC0 _ | with_reducible exact o_eqC _ _ | with_reducible exact o_neC _ _ | with_reducible exact o_eqN _ _ | with_reducible exact o_neN _ _ | with_reducible exact o_eqLot _ _ | with_reducible exact o_neLot _ _
    | with_reducible exact o_slcC _ _ _ | with_reducible exact o_slcLot _ _ _ | with_reducible exact o_slcN _ _ _
    | with_reducible exact o_addT (by first | assumption | omega) | with_reducible exact o_lenT (by first | assumption | omega) | with_reducible exact o_slcT (by first | assumption | omega)
    | fail "stuck")
local macro_rules
  | `(tactic| simp_wf) => `(tactic| (simp only [startE, frz, frz1, gens, gensL, gensI, isVar, inOp, bl_abs, bl_sum, bl_min, bl_max, bl_sorted, bl_list, bl_tuple, bl_dict, bl_int, bl_str, bl_repr, bl_all, bl_any, bl_sset, bl_lset, bl_sortk, bl_isi, ml_join, ml_split, ml_count, ml_index, ml_replace, ml_rstrip, ml_upper, ml_endswith, ml_lcount, cond_true, cond_false, Bool.and_true, Bool.and_false, Bool.true_and, Bool.false_and, List.append_nil, List.nil_append, List.cons_append, List.getElem?_cons_succ, List.getElem?_cons_zero, List.set_cons_succ, List.set_cons_zero, Env.put, gd_true, List.length_cons, List.length_nil, Nat.reduceAdd, Nat.reduceLT, decide_true, bindT, bindA, putAll, R.ok_bind, wipeE, T.slots, own_int, own_bool, own_none, own_tx, own_str, own_calls, own_call, own_lot, own_box, own_num, own_tup, own_lst, own_dct, fresh_lst, fresh_dic, fresh_cmp0, fresh_cmp1, fresh_add, fresh_sub, fresh_mul, fresh_div, fresh_mod, fresh_var, fresh_cst, fresh_fn, fresh_b1, fresh_idx, fresh_slc, fresh_mt, fresh_tup, fresh_told, fresh_mix, fresh_mx, fresh_rev, fresh_cmp, fresh_and, fresh_or, fresh_not, restr, List.map_cons, List.map_nil, List.replicate, Nat.reduceSub, beq_self_eq_true]; try (first | with_reducible exact rfl | exact rfl)))
local macro_rules
  | `(tactic| decreasing_trivial) => `(tactic| first
    | ((with_reducible apply wp_asg); simp_wf; infer_instance; simp_wf)
    | ((with_reducible apply wp_asgT); simp_wf; infer_instance; simp_wf)
    | ((with_reducible apply wp_par); simp_wf; infer_instance; infer_instance; simp_wf; simp_wf)
    | ((with_reducible apply wp_exp); simp_wf; infer_instance)
    | ((with_reducible apply wp_ret); simp_wf; infer_instance)
    | ((with_reducible apply wp_if); simp_wf; infer_instance)
    | with_reducible refine wp_cont ?_
    | (refine wp_nil (thn_nx ?_))
    | with_reducible refine wp_nil ?_)
local macro_rules
  | `(tactic| clean_wf) => `(tactic| simp only [startE, List.length_cons, List.length_nil, Nat.reduceAdd, Nat.reduceSub, List.replicate, List.map_cons, List.map_nil, List.cons_append, List.nil_append])
theorem get_put {ρ : Env} {j : Nat} {x : PyData} (hj : j < ρ.length) : Env.get ((ρ.set j none).set j (some (0, x))) j = .ok x := by
  unfold Env.get
  rw [List.getElem?_set_self (by rw [List.length_set]; exact hj)]
  rfl
theorem bind_nm {ρ : Env} {j : Nat} (hj : j < ρ.length) (x : PyData) : bindT (.nm j) x (wipeE ρ (T.nm j).slots) = .ok ((ρ.set j none).set j (some (0, x))) := by
  show gd (decide (j < (ρ.set j none).length)) (R.ok ((ρ.set j none).set j (some (0, x)))) = _
  rw [List.length_set, decide_eq_true hj]
  rfl
theorem ev_begins {c : C} {ρ : Env} {i j : Nat} {cs : List Cl} (hi : Env.get ρ i = .ok (callsD cs)) (hj : j < ρ.length) (hl : cs.length ≤ SZ) : ev c ρ (.cmp0 (.idx (.var j) (.cst (.int 1))) (.nm j) (.val (.var i))) = .ok (.list ((cs.map (·.2)).map PyData.int)) := by
  have e := ev_cmp0M (c := c) (ρ := ρ) (a := .idx (.var j) (.cst (.int 1))) (t := .nm j) (it := .val (.var i)) (L := cs) (enc := callD) (g := fun y => PyData.int y.2) (it_val (ev_varE hi) rfl rfl) hl fun y _ => ⟨_, bind_nm hj _, ev_idx (ev_varE (get_put hj)) rfl rfl⟩
  rw [List.map_map]
  exact e
theorem ev_minb {c : C} {ρ : Env} {i j : Nat} {cs : List Cl} (hi : Env.get ρ i = .ok (callsD cs)) (hj : j < ρ.length) (hl : cs.length ≤ SZ) (h0 : cs ≠ []) : ev c ρ (.b1 .min (.cmp0 (.idx (.var j) (.cst (.int 1))) (.nm j) (.val (.var i)))) = .ok (.int (mnI (cs.map (·.2)))) :=
  ev_b1 (ev_begins hi hj hl) (by rw [show needX .min _ = false from rfl]; simp) (min_of (by simpa using h0))
theorem idx_lot {lot : List Box} {k : Nat} (h : k < lot.length) : idxD (lotD lot) (.int (k : Int)) = .ok (boxD lot[k]) := by
  show op (L2.atI (lot.map boxD) (k : Int)) = _
  rw [L2.atI_nat (show (lot.map boxD)[k]? = some (boxD lot[k]) by rw [List.getElem?_map, List.getElem?_eq_getElem h]; rfl)]
  rfl
theorem pick2_len {ns : List Str} {w m : Nat} {d2 : List Nat} (hd : d2.length ≤ 13) (h : ∀ f, (pickC ns w m f).length ≤ 6163) (f : Nat) (nm : Str) : (d2.flatMap fun (b : Nat) => (pickC ns w m f).map fun r => (nm, (b : Int)) :: r).length ≤ 80119 := by
  refine Nat.le_trans (flat_le (b := 6163) fun b _ => ?_) (Nat.mul_le_mul_right 6163 hd)
  rw [List.length_map]
  exact h f
theorem pick3_len {ns : List Str} {w m f : Nat} {dn : List Nat} (hd : dn.length ≤ 5) (hw : w ≤ 12) (h : ∀ f, (pickC ns w m f).length ≤ 6163) : (dn.flatMap fun k => (List.range (w + 1)).flatMap fun (b : Nat) => (pickC ns w m (f + k + 1)).map fun r => (ns.getD (f + k) "", (b : Int)) :: r).length ≤ 500000 :=
  Nat.le_trans (flat_le (b := 80119) fun k _ => pick2_len (by rw [List.length_range]; omega) h _ _) (Nat.le_trans (Nat.mul_le_mul_right 80119 hd) (by decide))
theorem calls_from_ok {tb : Tab} (h : tb 35 = some f_calls_from) {lot : List Box} (hlot : lot.length ≤ 6) {w : Nat} (hw : w ≤ 12) : ∀ (m : Nat), m ≤ 3 → ∀ (d f : Nat), m < d → f ≤ 1000 → callN tb d 35 [lotD lot, .int (f : Int), .int (m : Int), .int (w : Int)] = .ok (.list ((pickC (lot.map (·.1)) w m f).map callsD))
  | m, hm, 0, f, hd, _ => absurd hd (by omega)
  | 0, hm, d + 1, f, hd, _ => by
    rw [callN_at h]
    refine run_of rfl ?_
    unfold f_calls_from
    clean_wf
    decreasing_trivial
    have c0 : cmpB .Eq (.int ((0 : Nat) : Int)) (.int 0) = .ok true := rfl
    refine wp_if (k := true) (by simp_wf) (by infer_instance) (fun _ => ?_) (fun z => nomatch z)
    refine wp_ret (by simp_wf) (by infer_instance) rfl
  | m + 1, hm, d + 1, f, hd, hf => by
    rw [callN_at h]
    refine run_of rfl ?_
    unfold f_calls_from
    clean_wf
    decreasing_trivial
    have c0 : cmpB .Eq (.int ((m + 1 : Nat) : Int)) (.int 0) = .ok false := by
      rw [o_eqI, decide_eq_false (by omega)]
    refine wp_if (k := false) (by simp_wf) (by infer_instance) (fun z => nomatch z) (fun _ => wp_nil (thn_nx ?_))
    have hns : (lot.map (·.1)).length = lot.length := List.length_map _
    have b6 : szC lot.length w m ≤ 6163 := szC_mono hlot hw (show m ≤ 2 by omega)
    have b7 : ∀ f, (pickC (lot.map (·.1)) w m f).length ≤ 6163 := fun f => Nat.le_trans (pick_len _ w m f) (by rw [hns]; exact b6)
    have sz : SZ = 16000000 := rfl
    refine wp_for (L := List.range (lot.length - f)) (enc := fun k : Nat => PyData.int ((f : Int) + (k : Int))) (fun dn ρ' => ρ' = [some (0, lotD lot), some (0, .int (f : Int)), some (0, .int ((m + 1 : Nat) : Int)), some (0, .int (w : Int)), some (1, .list (([] :: dn.flatMap fun k => (List.range (w + 1)).flatMap fun (b : Nat) => (pickC (lot.map (·.1)) w m (f + k + 1)).map fun r => ((lot.map (·.1)).getD (f + k) "", (b : Int)) :: r).map callsD)), none, none, none, none]) (by simp_wf) ?_ ?_ ?_ ?_
    · have e := it_rng2 (c := ⟨callN tb d, true⟩) (ρ := [some (0, lotD lot), some (0, .int (f : Int)), some (0, .int ((m + 1 : Nat) : Int)), some (0, .int (w : Int)), some (1, .list [.tuple []]), none, none, none, none]) (a := .var 1) (b := .b1 .len (.var 0)) (lo := (f : Int)) (hi := (lot.length : Int)) (by infer_instance) (by infer_instance) (by omega)
      rw [show ((lot.length : Int) - (f : Int)).toNat = lot.length - f by omega] at e
      exact e
    · rfl
    · intro dn k rs ρ' hL j
      subst j
      have hk : k < lot.length - f := by
        have : k ∈ List.range (lot.length - f) := by rw [hL]; simp
        exact List.mem_range.mp this
      have hdn : dn.length ≤ 5 := by
        have := congrArg List.length hL
        simp only [List.length_range, List.length_append, List.length_cons] at this
        omega
      have rcs : callN tb d 35 [lotD lot, .int ((f : Int) + (k : Int) + 1), .int (((m + 1 : Nat) : Int) - 1), .int (w : Int)] = .ok (.list ((pickC (lot.map (·.1)) w m (f + k + 1)).map callsD)) := by
        have := calls_from_ok h hlot hw m (by omega) d (f + k + 1) (by omega) (by omega)
        rw [show ((f + k + 1 : Nat) : Int) = (f : Int) + (k : Int) + 1 by omega, show ((m : Nat) : Int) = ((m + 1 : Nat) : Int) - 1 by omega] at this
        exact this
      have i1 : idxD (lotD lot) (.int ((f : Int) + (k : Int))) = .ok (boxD (lot[f + k]'(by omega))) := by
        rw [show (f : Int) + (k : Int) = ((f + k : Nat) : Int) by omega]
        exact idx_lot (by omega)
      have i2 : (lot.map (·.1)).getD (f + k) "" = (lot[f + k]'(by omega)).1 := by
        rw [List.getD_eq_getElem?_getD, List.getElem?_map, List.getElem?_eq_getElem (by omega)]
        rfl
      have f1 : (dn.flatMap fun k => (List.range (w + 1)).flatMap fun (b : Nat) => (pickC (lot.map (·.1)) w m (f + k + 1)).map fun r => ((lot.map (·.1)).getD (f + k) "", (b : Int)) :: r).length ≤ 500000 := pick3_len hdn hw b7
      generalize hF : (dn.flatMap fun k => (List.range (w + 1)).flatMap fun (b : Nat) => (pickC (lot.map (·.1)) w m (f + k + 1)).map fun r => ((lot.map (·.1)).getD (f + k) "", (b : Int)) :: r) = F at f1
      have b8 := b7 (f + k + 1)
      refine ⟨_, by simp_wf, ?_⟩
      decreasing_trivial
      refine wp_for (L := List.range (w + 1)) (enc := fun b : Nat => PyData.int (b : Int)) (fun d2 ρ' => ρ' = [some (0, lotD lot), some (0, .int (f : Int)), some (0, .int ((m + 1 : Nat) : Int)), some (0, .int (w : Int)), some (1, .list (([] :: (F ++ d2.flatMap fun (b : Nat) => (pickC (lot.map (·.1)) w m (f + k + 1)).map fun r => ((lot.map (·.1)).getD (f + k) "", (b : Int)) :: r)).map callsD)), some (0, .int ((f : Int) + (k : Int))), some (0, .list ((pickC (lot.map (·.1)) w m (f + k + 1)).map callsD)), none, none]) (by simp_wf) ?_ ?_ ?_ ?_
      · have e := it_rng (c := ⟨callN tb d, true⟩) (ρ := [some (0, lotD lot), some (0, .int (f : Int)), some (0, .int ((m + 1 : Nat) : Int)), some (0, .int (w : Int)), some (1, .list (([] :: F).map callsD)), some (0, .int ((f : Int) + (k : Int))), some (0, .list ((pickC (lot.map (·.1)) w m (f + k + 1)).map callsD)), none, none]) (a := .bin .Add (.var 3) (.cst (.int 1))) (n := (w : Int) + 1) (by infer_instance) (by omega)
        rw [show ((w : Int) + 1).toNat = w + 1 by omega] at e
        exact e
      · rw [List.flatMap_nil, List.append_nil]
        rfl
      · intro d2 b rs2 ρ' hL2 j
        subst j
        have hd2 : d2.length ≤ 13 := by
          have := congrArg List.length hL2
          simp only [List.length_range, List.length_append, List.length_cons] at this
          omega
        have f2 : (d2.flatMap fun (b : Nat) => (pickC (lot.map (·.1)) w m (f + k + 1)).map fun r => ((lot.map (·.1)).getD (f + k) "", (b : Int)) :: r).length ≤ 80119 := pick2_len hd2 b7 _ _
        refine ⟨_, by simp_wf, ?_⟩
        refine wp_ext (xs := ((pickC (lot.map (·.1)) w m (f + k + 1)).map fun r => ((lot.map (·.1)).getD (f + k) "", (b : Int)) :: r).map callsD) (by simp_wf) ?_ (app_at rfl ?_) (wp_nil ?_)
        · rw [List.map_map]
          refine ev_cmp0M (L := pickC (lot.map (·.1)) w m (f + k + 1)) (enc := callsD) (by infer_instance) (by omega) fun r hr => ?_
          have hrl := ((mem_pick _ w m _ r).mp hr).1
          refine ⟨_, by simp_wf, ?_⟩
          have i3 : idxD (boxD (lot[f + k]'(by omega))) (.int 0) = .ok (.str (lot[f + k]'(by omega)).1) := rfl
          have a1 : binD .Add (.tuple [.tuple [.str (lot[f + k]'(by omega)).1, .int (b : Int)]]) (callsD r) = .ok (callsD (((lot.map (·.1)).getD (f + k) "", (b : Int)) :: r)) := by
            rw [i2]
            exact o_addC (a := [((lot[f + k]'(by omega)).1, (b : Int))]) (by simp only [List.length_cons, List.length_nil]; omega)
          show ev _ _ _ = .ok (callsD (_ :: r))
          infer_instance
        · simp only [List.length_map, List.length_cons, List.length_append]
          omega
        · show restr _ _ = _
          simp only [List.set_cons_succ, List.set_cons_zero, restr, List.flatMap_append, List.map_cons, List.map_append, List.flatMap_cons, List.flatMap_nil, List.append_nil, List.cons_append, List.append_assoc]
      · intro ρ' j
        subst j
        refine wp_nil ?_
        show restr _ _ = _
        simp only [restr]
        rw [List.flatMap_append, hF, List.flatMap_cons, List.flatMap_nil, List.append_nil]
    · intro ρ' j
      subst j
      refine wp_ret (by simp_wf) (by infer_instance) ?_
      show R.ok (Fl.rt _) = R.ok (Fl.rt _)
      rw [show pickC (lot.map (·.1)) w (m + 1) f = [] :: (List.range ((lot.map (·.1)).length - f)).flatMap fun k => (List.range (w + 1)).flatMap fun (b : Nat) => (pickC (lot.map (·.1)) w m (f + k + 1)).map fun r => ((lot.map (·.1)).getD (f + k) "", (b : Int)) :: r from rfl, hns, List.map_cons]
theorem at0_iff (cs : List Cl) (h : cs ≠ []) : at0 cs = decide (mnI (cs.map (·.2)) = 0) := by
  unfold at0
  rw [decide_eq_false h, Bool.false_or]
theorem all_calls_ok {tb : Tab} (h : tb 35 = some f_calls_from) (h6 : tb 36 = some f_all_calls) {lot : List Box} (hlot : lot.length ≤ 6) {w : Nat} (hw : w ≤ 12) {m : Nat} (hm : m ≤ 3) {d : Nat} (hd : m + 1 < d) : callN tb d 36 [lotD lot, .int (m : Int), .int (w : Int)] = .ok (.tuple ((allC (lot.map (·.1)) w m).map callsD)) := by
  match d, hd with
  | d + 1, hd =>
    rw [callN_at h6]
    refine run_of rfl ?_
    unfold f_all_calls
    clean_wf
    have e35 : callN tb d 35 [lotD lot, .int 0, .int (m : Int), .int (w : Int)] = .ok (.list ((pickC (lot.map (·.1)) w m 0).map callsD)) := calls_from_ok h hlot hw m hm d 0 (by omega) (by omega)
    decreasing_trivial
    have hns : (lot.map (·.1)).length = lot.length := List.length_map _
    have hl : (pickC (lot.map (·.1)) w m 0).length ≤ 500000 := Nat.le_trans (pick_len _ w m 0) (by rw [hns]; exact Nat.le_trans (szC_mono hlot hw hm) (by decide))
    have sz : SZ = 16000000 := rfl
    have e1 : ev ⟨callN tb d, true⟩ [some (0, lotD lot), some (0, .int (m : Int)), some (0, .int (w : Int)), some (0, .list ((pickC (lot.map (·.1)) w m 0).map callsD)), none, none] (.cmp1 (.var 4) (.nm 4) (.val (.var 3)) (.or (.cmp .Eq (.b1 .len (.var 4)) (.cst (.int 0))) (.one (.cmp .Eq (.b1 .min (.cmp0 (.idx (.var 5) (.cst (.int 1))) (.nm 5) (.val (.var 4)))) (.cst (.int 0)))))) = .ok (.list (((pickC (lot.map (·.1)) w m 0).filter at0).map callsD)) := by
      refine ev_cmp1M (L := pickC (lot.map (·.1)) w m 0) (enc := callsD) ?_ ?_ fun cs hc => ?_
      · infer_instance
      · omega
      · have hcl := ((mem_pick _ w m _ cs).mp hc).1
        refine ⟨_, by simp_wf, ?_, fun _ => by infer_instance⟩
        by_cases q : cs = []
        · subst q
          exact ev_orT (ev_cmpE (k := true) (by infer_instance) (by infer_instance) rfl)
        · rw [at0_iff cs q]
          have c1 : cmpB .Eq (.int (cs.length : Int)) (.int 0) = .ok false := by
            rw [o_eqI, decide_eq_false]
            intro z
            exact q (List.eq_nil_of_length_eq_zero (by omega))
          refine ev_orF (by infer_instance) (ev_one (ev_cmpE (ev_minb rfl (show 5 < 6 by decide) (by omega) q) (by infer_instance) (o_eqI _ _)))
    have hfl : ((pickC (lot.map (·.1)) w m 0).filter at0).length ≤ SZ := Nat.le_trans (List.length_filter_le _ _) (by omega)
    have e2 := sort_ok ordd_calls (by decide) knd_calls hfl
    refine wp_ret (by simp_wf) (ev_b1 (ev_b1 e1 rfl e2) rfl rfl) ?_
    rfl
end TD
/-! _law_every. -/
namespace TD
open PySem
local macro_rules
  | `(tactic| infer_instance) => `(tactic| first
    | with_reducible assumption
    | with_reducible exact c_1 | with_reducible exact c_0 | with_reducible exact c_e | with_reducible exact c_000 | with_reducible exact c_tup0 | with_reducible exact c_lst0
    | with_reducible exact ev_cstE
    | with_reducible exact ev_nonE
    | with_reducible exact ev_dicE
    | ((with_reducible apply ev_varE); exact rfl)
    | ((with_reducible apply ev_bin); infer_instance; infer_instance; infer_instance)
    | ((with_reducible apply ev_negE); infer_instance)
    | ((with_reducible apply ev_notE); infer_instance)
    | ((with_reducible apply ev_one); infer_instance)
    | ((with_reducible apply ev_andE); infer_instance; intro _; infer_instance)
    | ((with_reducible apply ev_orE); infer_instance; intro _; infer_instance)
    | ((with_reducible apply ev_cmpE); infer_instance; infer_instance; infer_instance)
    | ((with_reducible apply ev_chnE); infer_instance; infer_instance; infer_instance; (intro _; infer_instance); (intro _; infer_instance))
    | ((with_reducible apply ev_tup); infer_instance)
    | ((with_reducible apply ev_lst); infer_instance)
    | ((with_reducible apply ev_idx); infer_instance; infer_instance; infer_instance)
    | ((with_reducible apply ev_slc); infer_instance; infer_instance; exact rfl; infer_instance; exact rfl; infer_instance)
    | ((with_reducible apply ev_fn); exact rfl; infer_instance; infer_instance)
    | ((with_reducible apply ev_b1); infer_instance; exact rfl; infer_instance)
    | ((with_reducible apply ev_mxE); infer_instance; infer_instance)
    | ((with_reducible apply ev_mt); infer_instance; infer_instance; infer_instance)
    | ((with_reducible apply ev_mixE); exact rfl; infer_instance; exact ⟨by decide, by decide⟩)
    | with_reducible exact evs_n
    | ((with_reducible apply evs_c); infer_instance; infer_instance)
    | ((with_reducible apply it_val); infer_instance; exact rfl; exact rfl)
    | ((with_reducible apply it_enm); infer_instance; exact rfl)
    | with_reducible exact o_addI _ _ | with_reducible exact o_subI _ _ | with_reducible exact o_divI ⟨by decide, by decide⟩ | with_reducible exact o_modI (by decide)
    | with_reducible exact o_eqI _ _ | with_reducible exact o_neI _ _ | with_reducible exact o_ltI _ _ | with_reducible exact o_gtI _ _ | with_reducible exact o_leI _ _ | with_reducible exact o_geI _ _
    | with_reducible exact o_eqB _ _ | with_reducible exact o_neB _ _
    | with_reducible exact o_eqT _ _ | with_reducible exact o_neT _ _ | with_reducible exact o_inTx _ _
    | with_reducible exact o_lenC _ | with_reducible exact o_lenLot _ | with_reducible exact o_lenN _ | with_reducible exact o_lenLM _ | with_reducible exact o_lenUM _ | with_reducible exact o_lenL _ | with_reducible exact o_lenU _
    | with_reducible exact o_eqC0 _ | with_reducible exact o_neC0 _ | with_reducible exact o_eqC _ _ | with_reducible exact o_neC _ _ | with_reducible exact o_eqN _ _ | with_reducible exact o_neN _ _ | with_reducible exact o_eqLot _ _ | with_reducible exact o_neLot _ _
    | with_reducible exact o_slcC _ _ _ | with_reducible exact o_slcLot _ _ _ | with_reducible exact o_slcN _ _ _
    | with_reducible exact o_addT (by first | assumption | omega) | with_reducible exact o_lenT (by first | assumption | omega) | with_reducible exact o_slcT (by first | assumption | omega)
    | fail "stuck")
local macro_rules
  | `(tactic| simp_wf) => `(tactic| (simp only [startE, frz, frz1, gens, gensL, gensI, isVar, inOp, bl_abs, bl_sum, bl_min, bl_max, bl_sorted, bl_list, bl_tuple, bl_dict, bl_int, bl_str, bl_repr, bl_all, bl_any, bl_sset, bl_lset, bl_sortk, bl_isi, ml_join, ml_split, ml_count, ml_index, ml_replace, ml_rstrip, ml_upper, ml_endswith, ml_lcount, cond_true, cond_false, Bool.and_true, Bool.and_false, Bool.true_and, Bool.false_and, List.append_nil, List.nil_append, List.cons_append, List.getElem?_cons_succ, List.getElem?_cons_zero, List.set_cons_succ, List.set_cons_zero, Env.put, gd_true, List.length_cons, List.length_nil, Nat.reduceAdd, Nat.reduceLT, decide_true, bindT, bindA, putAll, R.ok_bind, wipeE, T.slots, own_int, own_bool, own_none, own_tx, own_str, own_calls, own_call, own_lot, own_box, own_num, own_tup, own_lst, own_dct, fresh_lst, fresh_dic, fresh_cmp0, fresh_cmp1, fresh_add, fresh_sub, fresh_mul, fresh_div, fresh_mod, fresh_var, fresh_cst, fresh_fn, fresh_b1, fresh_idx, fresh_slc, fresh_mt, fresh_tup, fresh_told, fresh_mix, fresh_mx, fresh_rev, fresh_cmp, fresh_and, fresh_or, fresh_not, restr, List.map_cons, List.map_nil, List.replicate, Nat.reduceSub, beq_self_eq_true]; try (first | with_reducible exact rfl | exact rfl)))
local macro_rules
  | `(tactic| decreasing_trivial) => `(tactic| first
    | ((with_reducible apply wp_asg); simp_wf; infer_instance; simp_wf)
    | ((with_reducible apply wp_asgT); simp_wf; infer_instance; simp_wf)
    | ((with_reducible apply wp_par); simp_wf; infer_instance; infer_instance; simp_wf; simp_wf)
    | ((with_reducible apply wp_exp); simp_wf; infer_instance)
    | ((with_reducible apply wp_ret); simp_wf; infer_instance)
    | ((with_reducible apply wp_if); simp_wf; infer_instance)
    | with_reducible refine wp_cont ?_
    | (refine wp_nil (thn_nx ?_))
    | with_reducible refine wp_nil ?_)
local macro_rules
  | `(tactic| clean_wf) => `(tactic| simp only [startE, List.length_cons, List.length_nil, Nat.reduceAdd, Nat.reduceSub, List.replicate, List.map_cons, List.map_nil, List.cons_append, List.nil_append])
theorem getLast_snoc {α : Type} {cs : List α} {c : α} {r : List α} (h : cs = r ++ [c]) : cs.getLast? = some c := by
  rw [h, List.getLast?_concat]
theorem atI_last {α : Type} (r : List α) (c : α) : L2.atI (r ++ [c]) (-1) = some c := by
  unfold L2.atI
  have h : L2.ixN (r ++ [c]).length (-1) = some r.length := by
    rw [List.length_append]
    show L2.ixN (r.length + 1) (-1) = _
    unfold L2.ixN
    simp
    try omega
  rw [h]
  simp
theorem idx_last (r : List Cl) (c : Cl) : idxD (callsD (r ++ [c])) (.int (-1)) = .ok (callD c) := by
  show op (L2.atI ((r ++ [c]).map callD) (-1)) = _
  rw [List.map_append, List.map_cons, List.map_nil, atI_last]
  rfl
theorem o_gtS (a b : Str) : cmpB .Gt (.str a) (.str b) = .ok (decide (ltS b a)) := rfl
theorem ev_next {c : C} {ρ : Env} {i j : Nat} {cs : List Cl} {nm : Str} (hi : Env.get ρ i = .ok (callsD cs)) (hj : Env.get ρ j = .ok (.str nm)) : ev c ρ (.or (.cmp .Eq (.var i) (.tup .nil)) (.one (.cmp .Gt (.var j) (.idx (.idx (.var i) (.neg (.cst (.int 1)))) (.cst (.int 0)))))) = .ok (.bool (okNext cs nm)) := by
  rcases List.eq_nil_or_concat cs with e | ⟨r, x, e⟩
  · subst e
    exact ev_orT (ev_cmpE (ev_varE hi) c_tup0 (o_eqC0 []))
  · rw [List.concat_eq_append] at e
    have q : decide (cs = []) = false := decide_eq_false (by rw [e]; simp)
    have e2 : okNext cs nm = decide (ltS x.1 nm) := by
      unfold okNext
      rw [getLast_snoc e]
    rw [e2]
    refine ev_orF ?_ (ev_one (ev_cmpE (ev_varE hj) (ev_idx (x := callD x) (ev_idx (ev_varE hi) (ev_negE ev_cstE) ?_) ev_cstE ?_) (o_gtS nm x.1)))
    · refine ev_cmpE (ev_varE hi) c_tup0 ?_
      rw [o_eqC0, q]
    · rw [e]
      exact idx_last r x
    · rfl
theorem layer_len (ns : List Str) (w : Nat) : ∀ k, (layerC ns w k).length ≤ (ns.length * (w + 1)) ^ k
  | 0 => Nat.le_refl 1
  | k + 1 => by
    show ((layerC ns w k).flatMap (stepC ns w)).length ≤ _
    rw [Nat.pow_succ]
    refine Nat.le_trans (flat_le (b := ns.length * (w + 1)) fun cs _ => ?_) (Nat.mul_le_mul_right _ (layer_len ns w k))
    refine flat_le fun nm _ => ?_
    split
    · rw [List.length_map, List.length_range]
      exact Nat.le_refl _
    · exact Nat.zero_le _
theorem layer_78 {ns : List Str} {w k : Nat} (hn : ns.length ≤ 6) (hw : w ≤ 12) (hk : k ≤ 3) : (layerC ns w k).length ≤ 474552 := by
  refine Nat.le_trans (layer_len ns w k) ?_
  have h1 : ns.length * (w + 1) ≤ 78 := Nat.mul_le_mul hn (show w + 1 ≤ 13 by omega)
  have h2 : (ns.length * (w + 1)) ^ k ≤ 78 ^ k := Nat.pow_le_pow_left h1 k
  exact Nat.le_trans h2 (Nat.pow_le_pow_right (n := 78) (by decide) hk)
theorem every_78 {ns : List Str} {w k : Nat} (hn : ns.length ≤ 6) (hw : w ≤ 12) (hk : k ≤ 3) : (everyC ns w k).length ≤ 1900000 := by
  refine Nat.le_trans (flat_le (b := 474552) fun j hj => layer_78 hn hw ?_) ?_
  · have := List.mem_range.mp hj
    omega
  · rw [List.length_range]
    exact Nat.le_trans (Nat.mul_le_mul_right 474552 (show k + 1 ≤ 4 by omega)) (by decide)
/-- what one box adds to calls -/
def stepB (w : Nat) (cs : List Cl) (nm : Str) : List (List Cl) := if okNext cs nm then (List.range (w + 1)).map fun (b : Nat) => cs ++ [(nm, (b : Int))] else []
theorem stepB_len {w : Nat} {cs : List Cl} {nm : Str} (hw : w ≤ 12) : (stepB w cs nm).length ≤ 13 := by
  unfold stepB
  split
  · rw [List.length_map, List.length_range]
    omega
  · exact Nat.zero_le _
theorem step_eq (lot : List Box) (w : Nat) (cs : List Cl) : stepC (lot.map (·.1)) w cs = lot.flatMap fun b => stepB w cs b.1 := by
  unfold stepC
  rw [List.flatMap_map]
  rfl
theorem every_ok {tb : Tab} (h : tb 37 = some f__law_every) {lot : List Box} (hlot : lot.length ≤ 6) (hp : (lot.map (·.1)).Pairwise ltS) {w : Nat} (hw : w ≤ 12) {m : Nat} (hm : m ≤ 3) (d : Nat) : callN tb (d + 1) 37 [lotD lot, .int (m : Int), .int (w : Int)] = .ok (.list ((allC (lot.map (·.1)) w m).map callsD)) := by
  rw [callN_at h]
  refine run_of rfl ?_
  unfold f__law_every
  clean_wf
  have hns : (lot.map (·.1)).length ≤ 6 := by
    rw [List.length_map]
    exact hlot
  decreasing_trivial
  decreasing_trivial
  refine wp_for (L := List.range m) (enc := fun k : Nat => PyData.int (k : Int)) (fun dn ρ' => ∃ o, (o = 0 ∨ o = 1) ∧ ρ' = [some (0, lotD lot), some (0, .int (m : Int)), some (0, .int (w : Int)), some (1, .list ((everyC (lot.map (·.1)) w dn.length).map callsD)), some (o, .list ((layerC (lot.map (·.1)) w dn.length).map callsD)), none, none, none, none, none, none, none]) (by simp_wf) ?_ ⟨1, .inr rfl, rfl⟩ ?_ ?_
  · have e := it_rng (c := ⟨callN tb d, true⟩) (ρ := [some (0, lotD lot), some (0, .int (m : Int)), some (0, .int (w : Int)), some (1, .list [.tuple []]), some (1, .list [.tuple []]), none, none, none, none, none, none, none]) (a := .var 1) (n := (m : Int)) (ev_varE rfl) (by omega)
    rw [Int.toNat_natCast] at e
    exact e
  · rintro dn k rs ρ' hL ⟨o, ho, rfl⟩
    have hk : dn.length < m := by
      have := congrArg List.length hL
      simp only [List.length_range, List.length_append, List.length_cons] at this
      omega
    have l1 := layer_78 (k := dn.length) hns hw (by omega)
    have l2 := layer_78 (k := dn.length + 1) hns hw (by omega)
    have l3 := every_78 (k := dn.length) hns hw (by omega)
    refine ⟨_, by simp_wf, ?_⟩
    decreasing_trivial
    refine wp_for (L := layerC (lot.map (·.1)) w dn.length) (enc := callsD) (ρ2 := [some (0, lotD lot), some (0, .int (m : Int)), some (0, .int (w : Int)), some (1, .list ((everyC (lot.map (·.1)) w dn.length).map callsD)), some (0, .list ((layerC (lot.map (·.1)) w dn.length).map callsD)), some (0, .int (k : Int)), some (1, .list []), none, none, none, none, none]) (fun d2 ρ' => ρ' = [some (0, lotD lot), some (0, .int (m : Int)), some (0, .int (w : Int)), some (1, .list ((everyC (lot.map (·.1)) w dn.length).map callsD)), some (0, .list ((layerC (lot.map (·.1)) w dn.length).map callsD)), some (0, .int (k : Int)), some (1, .list ((d2.flatMap (stepC (lot.map (·.1)) w)).map callsD)), none, none, none, none, none]) ?_ ?_ rfl ?_ ?_
    · rcases ho with rfl | rfl <;> simp_wf
    · infer_instance
    · intro d2 cs r2 ρ' hL2 j
      subst j
      have hd2 : d2.length < 474552 := by
        have := congrArg List.length hL2
        simp only [List.length_append, List.length_cons] at this
        omega
      have hcs : cs ∈ layerC (lot.map (·.1)) w dn.length := by
        rw [hL2]
        simp
      have hcl := ((mem_layer _ w _ cs).mp hcs).1
      have f1 : (d2.flatMap (stepC (lot.map (·.1)) w)).length ≤ 37015056 / 78 * 78 ∧ (d2 ++ [cs]).flatMap (stepC (lot.map (·.1)) w) = d2.flatMap (stepC (lot.map (·.1)) w) ++ stepC (lot.map (·.1)) w cs ∧ ((d2 ++ [cs]).flatMap (stepC (lot.map (·.1)) w)).length ≤ 474552 := by
        have e1 : (d2 ++ [cs]).flatMap (stepC (lot.map (·.1)) w) = d2.flatMap (stepC (lot.map (·.1)) w) ++ stepC (lot.map (·.1)) w cs := by
          rw [List.flatMap_append, List.flatMap_cons, List.flatMap_nil, List.append_nil]
        have e2 : (layerC (lot.map (·.1)) w (dn.length + 1)).length = ((d2 ++ [cs]).flatMap (stepC (lot.map (·.1)) w)).length + (r2.flatMap (stepC (lot.map (·.1)) w)).length := by
          rw [show layerC (lot.map (·.1)) w (dn.length + 1) = (layerC (lot.map (·.1)) w dn.length).flatMap (stepC (lot.map (·.1)) w) from rfl, hL2, show d2 ++ cs :: r2 = (d2 ++ [cs]) ++ r2 by simp, List.flatMap_append, List.length_append]
        have e3 : (d2.flatMap (stepC (lot.map (·.1)) w)).length ≤ ((d2 ++ [cs]).flatMap (stepC (lot.map (·.1)) w)).length := by
          rw [e1, List.length_append]
          exact Nat.le_add_right _ _
        have e4 : ((d2 ++ [cs]).flatMap (stepC (lot.map (·.1)) w)).length ≤ 474552 := by
          generalize ((d2 ++ [cs]).flatMap (stepC (lot.map (·.1)) w)).length = A at *
          omega
        exact ⟨Nat.le_trans e3 (Nat.le_trans e4 (by decide)), e1, e4⟩
      obtain ⟨_, f2, f3⟩ := f1
      generalize hF : d2.flatMap (stepC (lot.map (·.1)) w) = F at f2 f3
      have f4 : F.length ≤ 474552 := by
        rw [f2, List.length_append] at f3
        omega
      refine ⟨_, by simp_wf, ?_⟩
      refine wp_for (L := lot) (enc := boxD) (ρ2 := [some (0, lotD lot), some (0, .int (m : Int)), some (0, .int (w : Int)), some (1, .list ((everyC (lot.map (·.1)) w dn.length).map callsD)), some (0, .list ((layerC (lot.map (·.1)) w dn.length).map callsD)), some (0, .int (k : Int)), some (1, .list (F.map callsD)), some (0, callsD cs), none, none, none, none]) (fun d3 ρ' => ρ' = [some (0, lotD lot), some (0, .int (m : Int)), some (0, .int (w : Int)), some (1, .list ((everyC (lot.map (·.1)) w dn.length).map callsD)), some (0, .list ((layerC (lot.map (·.1)) w dn.length).map callsD)), some (0, .int (k : Int)), some (1, .list ((F ++ d3.flatMap fun b => stepB w cs b.1).map callsD)), some (0, callsD cs), none, none, none, none]) ?_ ?_ ?_ ?_ ?_
      · simp_wf
      · infer_instance
      · rw [List.flatMap_nil, List.append_nil]
      · intro d3 b r3 ρ' hL3 j
        subst j
        have hd3 : d3.length ≤ 6 := by
          have := congrArg List.length hL3
          simp only [List.length_append, List.length_cons] at this
          omega
        have f5 : (d3.flatMap fun b => stepB w cs b.1).length ≤ 78 := Nat.le_trans (flat_le (b := 13) fun b _ => stepB_len hw) (Nat.mul_le_mul_right 13 hd3)
        have e9 : (d3 ++ [b]).flatMap (fun b => stepB w cs b.1) = d3.flatMap (fun b => stepB w cs b.1) ++ stepB w cs b.1 := by
          rw [List.flatMap_append, List.flatMap_cons, List.flatMap_nil, List.append_nil]
        generalize d3.flatMap (fun b => stepB w cs b.1) = G at f5 e9
        refine ⟨_, rfl, ?_⟩
        refine wp_if (k := okNext cs b.1) (by simp_wf) ?_ (fun q => ?_) (fun q => ?_)
        · exact ev_next rfl rfl
        · have e10 : stepB w cs b.1 = (List.range (w + 1)).map fun (b' : Nat) => cs ++ [(b.1, (b' : Int))] := by
            unfold stepB
            rw [q]
            rfl
          refine wp_ext (xs := (stepB w cs b.1).map callsD) (by simp_wf) ?_ (app_at rfl ?_) (wp_nil (thn_nx (wp_nil ?_)))
          · rw [e10, List.map_map]
            refine ev_cmp0M (L := List.range (w + 1)) (enc := fun b : Nat => PyData.int (b : Int)) ?_ ?_ fun b' hb' => ?_
            · have e := it_rng (c := ⟨callN tb d, true⟩) (ρ := [some (0, lotD lot), some (0, .int (m : Int)), some (0, .int (w : Int)), some (1, .list ((everyC (lot.map (·.1)) w dn.length).map callsD)), some (0, .list ((layerC (lot.map (·.1)) w dn.length).map callsD)), some (0, .int (k : Int)), some (1, .list ((F ++ G).map callsD)), some (0, callsD cs), some (0, .str b.1), some (0, numD b.2), none, none]) (a := .bin .Add (.var 2) (.cst (.int 1))) (n := (w : Int) + 1) (ev_bin (ev_varE rfl) ev_cstE (o_addI _ _)) (by omega)
              rw [show ((w : Int) + 1).toNat = w + 1 by omega] at e
              exact e
            · rw [List.length_range]
              show w + 1 ≤ 16000000
              omega
            · refine ⟨_, rfl, ?_⟩
              exact ev_bin (ev_varE rfl) (ev_tup (evs_c (ev_tup (evs_c (ev_varE rfl) (evs_c (ev_varE rfl) evs_n))) evs_n)) (o_addC (b := [(b.1, (b' : Int))]) (show cs.length + 1 ≤ 16000000 by omega))
          · have := stepB_len (cs := cs) (nm := b.1) hw
            rw [List.length_map, List.length_map, List.length_append]
            show _ < 16000000
            omega
          · show restr _ _ = _
            simp only [List.set_cons_succ, List.set_cons_zero, restr, e9, List.map_append, List.append_assoc]
        · have e10 : stepB w cs b.1 = [] := by
            unfold stepB
            rw [q]
            rfl
          refine wp_nil (thn_nx (wp_nil ?_))
          show restr _ _ = _
          simp only [restr, e9, e10, List.append_nil]
      · intro ρ' j
        subst j
        refine wp_nil ?_
        show restr _ _ = _
        simp only [restr]
        rw [f2, step_eq]
    · intro ρ' j
      subst j
      decreasing_trivial
      have hE : everyC (lot.map (·.1)) w (dn.length + 1) = everyC (lot.map (·.1)) w dn.length ++ layerC (lot.map (·.1)) w (dn.length + 1) := by
        unfold everyC
        rw [List.range_succ, List.flatMap_append, List.flatMap_cons, List.flatMap_nil, List.append_nil]
      have ad : binD .Add (.list ((everyC (lot.map (·.1)) w dn.length).map callsD)) (.list (((layerC (lot.map (·.1)) w dn.length).flatMap (stepC (lot.map (·.1)) w)).map callsD)) = .ok (.list ((everyC (lot.map (·.1)) w (dn.length + 1)).map callsD)) := by
        rw [hE, List.map_append]
        refine o_addL ?_
        rw [List.length_map, List.length_map]
        show _ + (layerC (lot.map (·.1)) w (dn.length + 1)).length ≤ 16000000
        omega
      decreasing_trivial
      refine wp_nil ⟨0, .inl rfl, ?_⟩
      simp only [restr, List.length_append, List.length_cons, List.length_nil, Nat.zero_add]
      rfl
  · rintro ρ' ⟨o, ho, rfl⟩
    rw [List.length_range]
    have hl : (everyC (lot.map (·.1)) w m).length ≤ SZ := Nat.le_trans (every_78 hns hw hm) (by decide)
    have e1 : ∀ o : Nat, ev ⟨callN tb d, true⟩ [some (0, lotD lot), some (0, .int (m : Int)), some (0, .int (w : Int)), some (0, .list ((everyC (lot.map (·.1)) w m).map callsD)), some (o, .list ((layerC (lot.map (·.1)) w m).map callsD)), none, none, none, none, none, none, none] (.cmp1 (.var 7) (.nm 7) (.val (.var 3)) (.or (.cmp .Eq (.var 7) (.tup .nil)) (.one (.cmp .Eq (.b1 .min (.cmp0 (.idx (.var 11) (.cst (.int 1))) (.nm 11) (.val (.var 7)))) (.cst (.int 0)))))) = .ok (.list (((everyC (lot.map (·.1)) w m).filter at0).map callsD)) := by
      intro o
      refine ev_cmp1M (L := everyC (lot.map (·.1)) w m) (enc := callsD) ?_ hl fun cs hc => ?_
      · infer_instance
      · have hcl := ((mem_every _ w m cs).mp hc).1
        refine ⟨_, by simp_wf, ?_, fun _ => ?_⟩
        · by_cases q : cs = []
          · subst q
            exact ev_orT (ev_cmpE (ev_varE rfl) c_tup0 (o_eqC0 []))
          · rw [at0_iff cs q]
            have c1 : cmpB .Eq (callsD cs) (.tuple []) = .ok false := by
              rw [o_eqC0, decide_eq_false q]
            exact ev_orF (ev_cmpE (ev_varE rfl) c_tup0 c1) (ev_one (ev_cmpE (ev_minb rfl (show 11 < 12 by decide) (show cs.length ≤ 16000000 by omega) q) ev_cstE (o_eqI _ _)))
        · infer_instance
    have e2 := sort_ok ordd_calls (by decide) knd_calls (Nat.le_trans (List.length_filter_le at0 _) hl)
    rw [all_every hp] at e2
    refine wp_ret (by simp_wf) (ev_b1 (e1 o) rfl e2) ?_
    rfl
end TD
/-! _law_heard. -/
namespace TD
open PySem
local macro_rules
  | `(tactic| infer_instance) => `(tactic| first
    | with_reducible assumption
    | with_reducible exact c_1 | with_reducible exact c_0 | with_reducible exact c_e | with_reducible exact c_000 | with_reducible exact c_tup0 | with_reducible exact c_lst0
    | with_reducible exact ev_cstE
    | with_reducible exact ev_nonE
    | with_reducible exact ev_dicE
    | ((with_reducible apply ev_varE); exact rfl)
    | ((with_reducible apply ev_bin); infer_instance; infer_instance; infer_instance)
    | ((with_reducible apply ev_negE); infer_instance)
    | ((with_reducible apply ev_notE); infer_instance)
    | ((with_reducible apply ev_one); infer_instance)
    | ((with_reducible apply ev_andE); infer_instance; intro _; infer_instance)
    | ((with_reducible apply ev_orE); infer_instance; intro _; infer_instance)
    | ((with_reducible apply ev_cmpE); infer_instance; infer_instance; infer_instance)
    | ((with_reducible apply ev_chnE); infer_instance; infer_instance; infer_instance; (intro _; infer_instance); (intro _; infer_instance))
    | ((with_reducible apply ev_tup); infer_instance)
    | ((with_reducible apply ev_lst); infer_instance)
    | ((with_reducible apply ev_idx); infer_instance; infer_instance; infer_instance)
    | ((with_reducible apply ev_slc); infer_instance; infer_instance; exact rfl; infer_instance; exact rfl; infer_instance)
    | ((with_reducible apply ev_fn); exact rfl; infer_instance; infer_instance)
    | ((with_reducible apply ev_b1); infer_instance; exact rfl; infer_instance)
    | ((with_reducible apply ev_mxE); infer_instance; infer_instance)
    | ((with_reducible apply ev_mt); infer_instance; infer_instance; infer_instance)
    | ((with_reducible apply ev_mixE); exact rfl; infer_instance; exact ⟨by decide, by decide⟩)
    | with_reducible exact evs_n
    | ((with_reducible apply evs_c); infer_instance; infer_instance)
    | ((with_reducible apply it_val); infer_instance; exact rfl; exact rfl)
    | ((with_reducible apply it_enm); infer_instance; exact rfl)
    | with_reducible exact o_addI _ _ | with_reducible exact o_subI _ _ | with_reducible exact o_divI ⟨by decide, by decide⟩ | with_reducible exact o_modI (by decide)
    | with_reducible exact o_eqI _ _ | with_reducible exact o_neI _ _ | with_reducible exact o_ltI _ _ | with_reducible exact o_gtI _ _ | with_reducible exact o_leI _ _ | with_reducible exact o_geI _ _
    | with_reducible exact o_eqB _ _ | with_reducible exact o_neB _ _
    | with_reducible exact o_eqT _ _ | with_reducible exact o_neT _ _ | with_reducible exact o_inTx _ _
    | with_reducible exact o_lenC _ | with_reducible exact o_lenLot _ | with_reducible exact o_lenN _ | with_reducible exact o_lenLM _ | with_reducible exact o_lenUM _ | with_reducible exact o_lenL _ | with_reducible exact o_lenU _
    | with_reducible exact o_eqC0 _ | with_reducible exact o_neC0 _ | with_reducible exact o_eqC _ _ | with_reducible exact o_neC _ _ | with_reducible exact o_eqN _ _ | with_reducible exact o_neN _ _ | with_reducible exact o_eqLot _ _ | with_reducible exact o_neLot _ _
    | with_reducible exact o_slcC _ _ _ | with_reducible exact o_slcLot _ _ _ | with_reducible exact o_slcN _ _ _
    | with_reducible exact o_addT (by first | assumption | omega) | with_reducible exact o_lenT (by first | assumption | omega) | with_reducible exact o_slcT (by first | assumption | omega)
    | fail "stuck")
local macro_rules
  | `(tactic| simp_wf) => `(tactic| (simp only [startE, frz, frz1, gens, gensL, gensI, isVar, inOp, bl_abs, bl_sum, bl_min, bl_max, bl_sorted, bl_list, bl_tuple, bl_dict, bl_int, bl_str, bl_repr, bl_all, bl_any, bl_sset, bl_lset, bl_sortk, bl_isi, ml_join, ml_split, ml_count, ml_index, ml_replace, ml_rstrip, ml_upper, ml_endswith, ml_lcount, cond_true, cond_false, Bool.and_true, Bool.and_false, Bool.true_and, Bool.false_and, List.append_nil, List.nil_append, List.cons_append, List.getElem?_cons_succ, List.getElem?_cons_zero, List.set_cons_succ, List.set_cons_zero, Env.put, gd_true, List.length_cons, List.length_nil, Nat.reduceAdd, Nat.reduceLT, decide_true, bindT, bindA, putAll, R.ok_bind, wipeE, T.slots, own_int, own_bool, own_none, own_tx, own_str, own_calls, own_call, own_lot, own_box, own_num, own_tup, own_lst, own_dct, fresh_lst, fresh_dic, fresh_cmp0, fresh_cmp1, fresh_add, fresh_sub, fresh_mul, fresh_div, fresh_mod, fresh_var, fresh_cst, fresh_fn, fresh_b1, fresh_idx, fresh_slc, fresh_mt, fresh_tup, fresh_told, fresh_mix, fresh_mx, fresh_rev, fresh_cmp, fresh_and, fresh_or, fresh_not, restr, List.map_cons, List.map_nil, List.replicate, Nat.reduceSub, beq_self_eq_true]; try (first | with_reducible exact rfl | exact rfl)))
local macro_rules
  | `(tactic| decreasing_trivial) => `(tactic| first
    | ((with_reducible apply wp_asg); simp_wf; infer_instance; simp_wf)
    | ((with_reducible apply wp_asgT); simp_wf; infer_instance; simp_wf)
    | ((with_reducible apply wp_par); simp_wf; infer_instance; infer_instance; simp_wf; simp_wf)
    | ((with_reducible apply wp_exp); simp_wf; infer_instance)
    | ((with_reducible apply wp_ret); simp_wf; infer_instance)
    | ((with_reducible apply wp_if); simp_wf; infer_instance)
    | with_reducible refine wp_cont ?_
    | (refine wp_nil (thn_nx ?_))
    | with_reducible refine wp_nil ?_)
local macro_rules
  | `(tactic| clean_wf) => `(tactic| simp only [startE, List.length_cons, List.length_nil, Nat.reduceAdd, Nat.reduceSub, List.replicate, List.map_cons, List.map_nil, List.cons_append, List.nil_append])
theorem join_ones : ∀ l : List Nat, joinN [] (l.map fun s => [s]) = l
  | [] => rfl
  | [a] => rfl
  | a :: b :: t => by
    show [a] ++ [] ++ joinN [] ((b :: t).map fun s => [s]) = _
    rw [join_ones (b :: t)]
    rfl
theorem mx_app (ts us : List Int) : mx (ts ++ us) = max (mx ts) (mx us) := by
  have a1 := mx_lo (ts ++ us)
  have a2 : mx (ts ++ us) ≤ max (mx ts) (mx us) := by
    rcases fmax_mem (ts ++ us) (-1) with q | q
    · have := mx_lo ts
      show (ts ++ us).foldl max (-1) ≤ _
      omega
    · rcases List.mem_append.mp q with q | q
      · have : mx (ts ++ us) ≤ mx ts := mx_ge q
        omega
      · have : mx (ts ++ us) ≤ mx us := mx_ge q
        omega
  have a3 : mx ts ≤ mx (ts ++ us) := by
    rcases fmax_mem ts (-1) with q | q
    · show ts.foldl max (-1) ≤ _
      omega
    · exact mx_ge (List.mem_append_left _ q)
  have a4 : mx us ≤ mx (ts ++ us) := by
    rcases fmax_mem us (-1) with q | q
    · show us.foldl max (-1) ≤ _
      omega
    · exact mx_ge (List.mem_append_right _ q)
  omega
/-- taps of T laid over P, as far as n -/
def ovl (P T : List Nat) (n : Nat) : List Nat := (List.range P.length).map fun i => if i < n ∧ T[i]? = some 49 then 49 else P.getD i 48
theorem ovl_len (P T : List Nat) (n : Nat) : (ovl P T n).length = P.length := by
  unfold ovl
  rw [List.length_map, List.length_range]
theorem ovl_get {P T : List Nat} {n i : Nat} (h : i < P.length) : (ovl P T n)[i]? = some (if i < n ∧ T[i]? = some 49 then 49 else P.getD i 48) := by
  unfold ovl
  rw [List.getElem?_map, List.getElem?_range h]
  rfl
theorem ovl_zero (P T : List Nat) : ovl P T 0 = P := by
  refine List.ext_getElem? fun i => ?_
  by_cases h : i < P.length
  · rw [ovl_get h, if_neg (by omega), List.getElem?_eq_getElem h, List.getD_eq_getElem?_getD, List.getElem?_eq_getElem h]
    rfl
  · rw [List.getElem?_eq_none (by rw [ovl_len]; omega), List.getElem?_eq_none (by omega)]
theorem ovl_yes {P T : List Nat} {n : Nat} (h : T[n]? = some 49) : (ovl P T n).set n 49 = ovl P T (n + 1) := by
  refine List.ext_getElem? fun i => ?_
  by_cases hi : i < P.length
  · by_cases e : n = i
    · subst e
      rw [List.getElem?_set_self (by rw [ovl_len]; exact hi), ovl_get hi, if_pos ⟨by omega, h⟩]
    · rw [List.getElem?_set_ne e, ovl_get hi, ovl_get hi]
      congr 1
      by_cases q : T[i]? = some 49
      · by_cases z : i < n
        · rw [if_pos ⟨z, q⟩, if_pos ⟨by omega, q⟩]
        · rw [if_neg (fun y => z y.1), if_neg (fun y => by have := y.1; omega)]
      · rw [if_neg (fun y => q y.2), if_neg (fun y => q y.2)]
  · rw [List.getElem?_eq_none (by rw [List.length_set, ovl_len]; omega), List.getElem?_eq_none (by rw [ovl_len]; omega)]
theorem ovl_no {P T : List Nat} {n : Nat} (h : T[n]? ≠ some 49) : ovl P T (n + 1) = ovl P T n := by
  unfold ovl
  refine List.map_congr_left fun i _ => ?_
  by_cases q : T[i]? = some 49
  · by_cases z : i < n
    · rw [if_pos ⟨Nat.lt_succ_of_lt z, q⟩, if_pos ⟨z, q⟩]
    · have : i ≠ n := fun e => by
        rw [e] at q
        exact h q
      rw [if_neg (fun y => by have := y.1; omega), if_neg (fun y => z y.1)]
  · rw [if_neg (fun y => q y.2), if_neg (fun y => q y.2)]
theorem hear_pad (ts : List Int) (n i : Nat) : (hearL ts ++ List.replicate n 48).getD i 48 = if (i : Int) ∈ ts then 49 else 48 := by
  rw [List.getD_eq_getElem?_getD]
  by_cases h : i < (hearL ts).length
  · rw [List.getElem?_append_left h, hearL_get (by rw [← hearL_len]; exact h)]
    rfl
  · rw [List.getElem?_append_right (by omega), if_neg]
    · rw [List.getElem?_replicate]
      split <;> rfl
    · intro z
      have := mx_ge z
      rw [hearL_len] at h
      omega
theorem tap_at {b i : Nat} {l : List Nat} : (List.replicate b 48 ++ l)[i]? = some 49 ↔ (i : Int) ∈ tapsIn (b : Int) l := by
  rw [mem_tapsIn]
  by_cases h : i < b
  · rw [List.getElem?_append_left (by rw [List.length_replicate]; exact h), List.getElem?_replicate, if_pos h]
    constructor
    · intro z
      exact absurd (Option.some.inj z) (by decide)
    · rintro ⟨j, _, e⟩
      omega
  · rw [List.getElem?_append_right (by rw [List.length_replicate]; omega), List.length_replicate]
    constructor
    · intro z
      exact ⟨i - b, z, by omega⟩
    · rintro ⟨j, h1, e⟩
      rw [show i - b = j by omega]
      exact h1
theorem hear_ovl {ts : List Int} {b : Nat} {l : List Nat} (h : Tapped l) : ovl (hearL ts ++ List.replicate ((List.replicate b 48 ++ l).length - (hearL ts).length) 48) (List.replicate b 48 ++ l) (List.replicate b 48 ++ l).length = hearL (ts ++ tapsIn (b : Int) l) := by
  have e1 := mx_taps (b := (b : Int)) h (by omega)
  have e2 := mx_app ts (tapsIn (b : Int) l)
  have e3 := hearL_len (ts ++ tapsIn (b : Int) l)
  have e4 := hearL_len ts
  have e5 := mx_lo ts
  have e6 : 1 ≤ l.length := by
    have := h.3
    cases l with
    | nil => exact absurd rfl this
    | cons x r => simp
  have eT : (List.replicate b 48 ++ l).length = b + l.length := by
    rw [List.length_append, List.length_replicate]
  have eL : (hearL ts ++ List.replicate ((List.replicate b 48 ++ l).length - (hearL ts).length) 48).length = (hearL (ts ++ tapsIn (b : Int) l)).length := by
    rw [List.length_append, List.length_replicate, eT, e3, e4, e2, e1]
    omega
  refine List.ext_getElem? fun i => ?_
  by_cases hi : i < (hearL (ts ++ tapsIn (b : Int) l)).length
  · rw [ovl_get (by rw [eL]; exact hi), hear_pad, hearL_get (by rw [← e3]; exact hi)]
    congr 1
    by_cases q : (i : Int) ∈ tapsIn (b : Int) l
    · have q2 := tap_at.mpr q
      rw [if_pos ⟨(List.getElem?_eq_some_iff.mp q2).1, q2⟩, if_pos (List.mem_append_right _ q)]
    · rw [if_neg (fun y => q (tap_at.mp y.2))]
      by_cases z : (i : Int) ∈ ts
      · rw [if_pos z, if_pos (List.mem_append_left _ z)]
      · rw [if_neg z, if_neg]
        intro y
        rcases List.mem_append.mp y with y | y
        · exact z y
        · exact q y
  · rw [List.getElem?_eq_none (by rw [ovl_len, eL]; omega), List.getElem?_eq_none (by omega)]
theorem lbeats_all : ∀ tb : Tab, tb 10 = some f__law_beats → ∀ n y, y ∈ all84 → callN tb (n + 1) 10 [numD y] = .ok (tx (beatsL y)) := by
  intro tb h n y hy
  rw [callN_at h]
  have key : (all84.all fun y => isOk (run ⟨fun _ _ => .bad, true⟩ f__law_beats [numD y]) (tx (beatsL y))) = true := by decide +kernel
  have k2 := isOk_eq (List.all_eq_true.mp key y hy)
  rw [← k2]
  rfl
theorem times_snoc (lot : List Box) (dn : List Cl) (c : Cl) : timesL lot (dn ++ [c]) = timesL lot dn ++ tapsIn c.2 (beatsOf lot c.1) := by
  unfold timesL
  rw [List.flatMap_append, List.flatMap_cons, List.flatMap_nil, List.append_nil]
theorem enm_tx (T : List Nat) : enmD (T.map fun c => tx [c]) = T.zipIdx.map fun p => PyData.tuple [.int (p.2 : Int), tx [p.1]] := by
  unfold enmD
  rw [List.zipIdx_map, List.map_map]
  rfl
theorem zip_at {T : List Nat} {d : List (Nat × Nat)} {p : Nat × Nat} {r : List (Nat × Nat)} (h : T.zipIdx = d ++ p :: r) : p.2 = d.length ∧ T[d.length]? = some p.1 := by
  have e : T.zipIdx[d.length]? = some p := by
    rw [h, List.getElem?_append_right (Nat.le_refl _), Nat.sub_self]
    rfl
  rw [List.getElem?_zipIdx] at e
  obtain ⟨c, h1, h2⟩ := Option.map_eq_some_iff.mp e
  rw [← h2]
  exact ⟨by simp, h1⟩
theorem set_at {ρ : Env} {i j : Nat} {xs : List PyData} {x : PyData} (h : ρ[i]? = some (some (1, .list xs))) (hj : j < xs.length) : setSlot ρ i (.int (j : Int)) x = .ok (ρ.set i (some (1, .list (xs.set j x)))) := by
  unfold setSlot
  rw [h]
  show (op (L2.ixN xs.length (j : Int)) >>= fun j => R.ok (ρ.set i (some (1, PyData.list (xs.set j x))))) = _
  have : L2.ixN xs.length (j : Int) = some j := by
    unfold L2.ixN
    simp [hj]
  rw [this]
  rfl
theorem rep_one (k : Int) (c : Nat) : rep k [c] = List.replicate k.toNat c := by
  unfold rep
  induction k.toNat with
  | zero => rfl
  | succ n ih =>
    rw [List.replicate_succ, List.flatten_cons, ih]
    rfl
theorem rep_oneD (k : Int) (x : PyData) : rep k [x] = List.replicate k.toNat x := by
  unfold rep
  induction k.toNat with
  | zero => rfl
  | succ n ih =>
    rw [List.replicate_succ, List.flatten_cons, ih]
    rfl
theorem lheard_ok {tb : Tab} (h10 : tb 10 = some f__law_beats) (h11 : tb 11 = some f__law_heard) (n : Nat) {lot : List Box} (hl : LotOk lot) {cs : List Cl} (hc : CallsOk lot cs) (h0 : ∀ c ∈ cs, 0 ≤ c.2) : callN tb (n + 2) 11 [lotD lot, callsD cs] = .ok (tx (hearL (timesL lot cs))) := by
  rw [callN_at h11]
  refine run_of rfl ?_
  unfold f__law_heard
  clean_wf
  have ed := dictD_lot hl.nd
  have sz : SZ = 16000000 := rfl
  refine wp_asg (x := .dict (lot.map fun b => (PyData.str b.1, numD b.2))) (by simp_wf) (ev_b1 (ev_varE rfl) rfl ed) (by simp_wf) ?_
  decreasing_trivial
  have hbd : ∀ dn : List Cl, (∀ c ∈ dn, c ∈ cs) → (hearL (timesL lot dn)).length ≤ 10000 := by
    intro dn hd
    rw [hearL_len]
    have : mx (timesL lot dn) ≤ 9999 := by
      rcases fmax_mem (timesL lot dn) (-1) with q | q
      · show (timesL lot dn).foldl max (-1) ≤ 9999
        omega
      · obtain ⟨c, q2, q3⟩ := List.mem_flatMap.mp q
        obtain ⟨i, q4, q5⟩ := mem_tapsIn.mp q3
        obtain ⟨ns, hm⟩ := hc.box c (hd c q2)
        have h1 := beatsOf_len hl hm
        have h2 := (hc.beg c (hd c q2)).2
        have h3 := (List.getElem?_eq_some_iff.mp q4).1
        have q5 : mx (timesL lot dn) = c.2 + (i : Int) := q5
        omega
    omega
  refine wp_for (L := cs) (enc := callD) (ρ2 := [some (0, lotD lot), some (0, callsD cs), some (0, .dict (lot.map fun b => (PyData.str b.1, numD b.2))), some (1, .list []), none, none, none, none, none]) (fun dn ρ' => ρ' = [some (0, lotD lot), some (0, callsD cs), some (0, .dict (lot.map fun b => (PyData.str b.1, numD b.2))), some (1, .list ((hearL (timesL lot dn)).map fun c => tx [c])), none, none, none, none, none]) ?_ ?_ ?_ ?_ ?_
  · simp_wf
  · infer_instance
  · rfl
  · intro dn c rs ρ' hL j
    subst j
    have hcm : c ∈ cs := by
      rw [hL]
      simp
    obtain ⟨ns, hm⟩ := hc.box c hcm
    have hb := hc.beg c hcm
    have hb0 := h0 c hcm
    have hn := hl.nums _ hm
    have e10 : callN tb (n + 1) 10 [numD ns] = .ok (tx (beatsOf lot c.1)) := by
      unfold beatsOf
      rw [numOf_eq hl.nd hm]
      exact lbeats_all tb h10 n ns (in_84 hn)
    have hbl := beatsOf_len hl hm
    have htap : Tapped (beatsOf lot c.1) := tapped_of hl hm
    have hF := hbd dn (fun x hx => by rw [hL]; exact List.mem_append_left _ hx)
    have eg : idxD (.dict (lot.map fun b => (PyData.str b.1, numD b.2))) (.str c.1) = .ok (numD ns) := by
      show gd true (op (dGet _ (.str c.1))) = _
      rw [dGet_lot hl.nd hm]
      rfl
    have eT := times_snoc lot dn c
    have eH := hear_ovl (ts := timesL lot dn) (b := c.2.toNat) htap
    rw [Int.toNat_of_nonneg hb0, ← eT] at eH
    generalize hearL (timesL lot (dn ++ [c])) = W at eH ⊢
    generalize hearL (timesL lot dn) = F at eH hF
    generalize beatsOf lot c.1 = bt at eH hbl e10
    have em : binD .Mult (tx [48]) (.int c.2) = .ok (tx (List.replicate c.2.toNat 48)) := by
      rw [o_mulT ⟨by omega, by omega, by show 1 * c.2.toNat ≤ 16000000; omega⟩, rep_one]
    have ea : binD .Add (tx (List.replicate c.2.toNat 48)) (tx bt) = .ok (tx (List.replicate c.2.toNat 48 ++ bt)) := o_addT (by rw [List.length_replicate]; omega)
    have hTl : (List.replicate c.2.toNat 48 ++ bt).length ≤ 7100 := by
      rw [List.length_append, List.length_replicate]
      omega
    refine ⟨[some (0, lotD lot), some (0, callsD cs), some (0, .dict (lot.map fun b => (PyData.str b.1, numD b.2))), some (1, .list (F.map fun c => tx [c])), some (0, .str c.1), some (0, .int c.2), none, none, none], rfl, ?_⟩
    refine wp_asg (x := tx (List.replicate c.2.toNat 48 ++ bt)) (by simp_wf) ?_ (by simp_wf) ?_
    · exact ev_bin (ev_bin c_0 (ev_varE rfl) em) (ev_fn rfl (evs_c (ev_idx (ev_varE rfl) (ev_varE rfl) eg) evs_n) e10) ea
    generalize List.replicate c.2.toNat 48 ++ bt = T at eH hTl
    have ei : b1D .len (tx T) = .ok (.int (T.length : Int)) := o_lenT (by omega)
    have er : binD .Mult (.list [tx [48]]) (.int ((T.length : Int) - (F.length : Int))) = .ok (.list ((List.replicate (T.length - F.length) 48).map fun c => tx [c])) := by
      show gd (decide ((T.length : Int) - (F.length : Int) ≤ 100000 ∧ -100000 ≤ (T.length : Int) - (F.length : Int) ∧ 1 * ((T.length : Int) - (F.length : Int)).toNat ≤ SZ)) (R.ok (PyData.list (rep ((T.length : Int) - (F.length : Int)) [tx [48]]))) = _
      rw [decide_eq_true ⟨by omega, by omega, by omega⟩, rep_oneD, List.map_replicate, show ((T.length : Int) - (F.length : Int)).toNat = T.length - F.length by omega]
      rfl
    have eA : binD .Add (.list (F.map fun c => tx [c])) (.list ((List.replicate (T.length - F.length) 48).map fun c => tx [c])) = .ok (.list ((F ++ List.replicate (T.length - F.length) 48).map fun c => tx [c])) := by
      rw [List.map_append]
      refine o_addL ?_
      rw [List.length_map, List.length_map, List.length_replicate]
      omega
    refine wp_asg (x := .list ((F ++ List.replicate (T.length - F.length) 48).map fun c => tx [c])) (by simp_wf) ?_ (by simp_wf) ?_
    · refine ev_bin (ev_varE rfl) (ev_bin (ev_lst (evs_c c_0 evs_n)) (ev_bin (ev_b1 (ev_varE rfl) rfl ei) (ev_b1 (ev_varE rfl) rfl (o_lenLM F)) (o_subI _ _)) er) eA
    have hP : (F ++ List.replicate (T.length - F.length) 48).length ≤ 20000 ∧ T.length ≤ (F ++ List.replicate (T.length - F.length) 48).length := by
      rw [List.length_append, List.length_replicate]
      omega
    generalize F ++ List.replicate (T.length - F.length) 48 = P at eH hP
    refine wp_for (L := T.zipIdx) (enc := fun p => PyData.tuple [.int (p.2 : Int), tx [p.1]]) (ρ2 := [some (0, lotD lot), some (0, callsD cs), some (0, .dict (lot.map fun b => (PyData.str b.1, numD b.2))), some (1, .list (P.map fun c => tx [c])), some (0, .str c.1), some (0, .int c.2), some (0, tx T), none, none]) (fun d2 ρ' => ρ' = [some (0, lotD lot), some (0, callsD cs), some (0, .dict (lot.map fun b => (PyData.str b.1, numD b.2))), some (1, .list ((ovl P T d2.length).map fun c => tx [c])), some (0, .str c.1), some (0, .int c.2), some (0, tx T), none, none]) ?_ ?_ ?_ ?_ ?_
    · simp_wf
    · have e := it_enm (c := ⟨callN tb (n + 1), true⟩) (ρ := [some (0, lotD lot), some (0, callsD cs), some (0, .dict (lot.map fun b => (PyData.str b.1, numD b.2))), some (1, .list (P.map fun c => tx [c])), some (0, .str c.1), some (0, .int c.2), some (0, tx T), none, none]) (a := .var 6) (ev_varE rfl) (seq_tx T)
      rw [enm_tx] at e
      exact e
    · rw [List.length_nil, ovl_zero]
    · intro d2 p r2 ρ' hL2 j
      subst j
      obtain ⟨z1, z2⟩ := zip_at hL2
      have hd2 : d2.length < T.length := (List.getElem?_eq_some_iff.mp z2).1
      refine ⟨[some (0, lotD lot), some (0, callsD cs), some (0, .dict (lot.map fun b => (PyData.str b.1, numD b.2))), some (1, .list ((ovl P T d2.length).map fun c => tx [c])), some (0, .str c.1), some (0, .int c.2), some (0, tx T), some (0, .int (p.2 : Int)), some (0, tx [p.1])], rfl, ?_⟩
      refine wp_if (k := decide ([p.1] = [49])) (by simp_wf) ?_ (fun q => ?_) (fun q => ?_)
      · exact ev_cmpE (ev_varE rfl) c_1 (o_eqT _ _)
      · have q1 : p.1 = 49 := by
          have := of_decide_eq_true q
          injection this
        rw [q1] at z2
        refine wp_seti (by simp_wf) c_1 (ev_varE rfl) (set_at rfl ?_) (wp_nil (thn_nx (wp_nil ?_)))
        · rw [List.length_map, ovl_len, z1]
          omega
        · show restr _ _ = _
          simp only [List.set_cons_succ, List.set_cons_zero, restr, List.length_append, List.length_cons, List.length_nil, Nat.zero_add]
          rw [z1, show tx [49] = (fun c => tx [c]) 49 from rfl, ← List.map_set, ovl_yes z2]
      · have q1 : T[d2.length]? ≠ some 49 := fun z => by
          rw [z2] at z
          have := of_decide_eq_false q
          exact this (by rw [Option.some.inj z])
        refine wp_nil (thn_nx (wp_nil ?_))
        show restr _ _ = _
        simp only [restr, List.length_append, List.length_cons, List.length_nil, Nat.zero_add]
        rw [ovl_no q1]
    · intro ρ' j
      subst j
      refine wp_nil ?_
      show restr _ _ = _
      simp only [restr]
      rw [List.length_zipIdx, eH]
  · intro ρ' j
    subst j
    have hF := hbd cs (fun _ h => h)
    generalize hearL (timesL lot cs) = W at hF ⊢
    have ej : mtD .join (tx []) [.list (W.map fun c => tx [c])] = .ok (tx W) := by
      have := join_lst [] (W.map fun s => [s]) (by
        rw [ones_sum, List.length_map, List.length_nil]
        omega)
      rw [List.map_map, join_ones] at this
      exact this
    refine wp_ret (by simp_wf) (ev_mt c_e (evs_c (ev_varE rfl) evs_n) ej) ?_
    rfl
end TD
/-! Whether they are calls; no such box. -/
namespace TD
open PySem
local macro_rules
  | `(tactic| infer_instance) => `(tactic| first
    | with_reducible assumption
    | with_reducible exact c_1 | with_reducible exact c_0 | with_reducible exact c_e | with_reducible exact c_000 | with_reducible exact c_tup0 | with_reducible exact c_lst0
    | with_reducible exact ev_cstE
    | with_reducible exact ev_nonE
    | with_reducible exact ev_dicE
    | ((with_reducible apply ev_varE); exact rfl)
    | ((with_reducible apply ev_bin); infer_instance; infer_instance; infer_instance)
    | ((with_reducible apply ev_negE); infer_instance)
    | ((with_reducible apply ev_notE); infer_instance)
    | ((with_reducible apply ev_one); infer_instance)
    | ((with_reducible apply ev_andE); infer_instance; intro _; infer_instance)
    | ((with_reducible apply ev_orE); infer_instance; intro _; infer_instance)
    | ((with_reducible apply ev_cmpE); infer_instance; infer_instance; infer_instance)
    | ((with_reducible apply ev_chnE); infer_instance; infer_instance; infer_instance; (intro _; infer_instance); (intro _; infer_instance))
    | ((with_reducible apply ev_tup); infer_instance)
    | ((with_reducible apply ev_lst); infer_instance)
    | ((with_reducible apply ev_idx); infer_instance; infer_instance; infer_instance)
    | ((with_reducible apply ev_slc); infer_instance; infer_instance; exact rfl; infer_instance; exact rfl; infer_instance)
    | ((with_reducible apply ev_fn); exact rfl; infer_instance; infer_instance)
    | ((with_reducible apply ev_b1); infer_instance; exact rfl; infer_instance)
    | ((with_reducible apply ev_mxE); infer_instance; infer_instance)
    | ((with_reducible apply ev_mt); infer_instance; infer_instance; infer_instance)
    | ((with_reducible apply ev_mixE); exact rfl; infer_instance; exact ⟨by decide, by decide⟩)
    | with_reducible exact evs_n
    | ((with_reducible apply evs_c); infer_instance; infer_instance)
    | ((with_reducible apply it_val); infer_instance; exact rfl; exact rfl)
    | ((with_reducible apply it_enm); infer_instance; exact rfl)
    | with_reducible exact o_addI _ _ | with_reducible exact o_subI _ _ | with_reducible exact o_divI ⟨by decide, by decide⟩ | with_reducible exact o_modI (by decide)
    | with_reducible exact o_eqI _ _ | with_reducible exact o_neI _ _ | with_reducible exact o_ltI _ _ | with_reducible exact o_gtI _ _ | with_reducible exact o_leI _ _ | with_reducible exact o_geI _ _
    | with_reducible exact o_eqB _ _ | with_reducible exact o_neB _ _
    | with_reducible exact o_eqT _ _ | with_reducible exact o_neT _ _ | with_reducible exact o_inTx _ _
    | with_reducible exact o_lenC _ | with_reducible exact o_lenLot _ | with_reducible exact o_lenN _ | with_reducible exact o_lenLM _ | with_reducible exact o_lenUM _ | with_reducible exact o_lenL _ | with_reducible exact o_lenU _
    | with_reducible exact o_eqC0 _ | with_reducible exact o_neC0 _ | with_reducible exact o_eqC _ _ | with_reducible exact o_neC _ _ | with_reducible exact o_eqN _ _ | with_reducible exact o_neN _ _ | with_reducible exact o_eqLot _ _ | with_reducible exact o_neLot _ _
    | with_reducible exact o_slcC _ _ _ | with_reducible exact o_slcLot _ _ _ | with_reducible exact o_slcN _ _ _
    | with_reducible exact o_addT (by first | assumption | omega) | with_reducible exact o_lenT (by first | assumption | omega) | with_reducible exact o_slcT (by first | assumption | omega)
    | fail "stuck")
local macro_rules
  | `(tactic| simp_wf) => `(tactic| (simp only [startE, frz, frz1, gens, gensL, gensI, isVar, inOp, bl_abs, bl_sum, bl_min, bl_max, bl_sorted, bl_list, bl_tuple, bl_dict, bl_int, bl_str, bl_repr, bl_all, bl_any, bl_sset, bl_lset, bl_sortk, bl_isi, ml_join, ml_split, ml_count, ml_index, ml_replace, ml_rstrip, ml_upper, ml_endswith, ml_lcount, cond_true, cond_false, Bool.and_true, Bool.and_false, Bool.true_and, Bool.false_and, List.append_nil, List.nil_append, List.cons_append, List.getElem?_cons_succ, List.getElem?_cons_zero, List.set_cons_succ, List.set_cons_zero, Env.put, gd_true, List.length_cons, List.length_nil, Nat.reduceAdd, Nat.reduceLT, decide_true, bindT, bindA, putAll, R.ok_bind, wipeE, T.slots, own_int, own_bool, own_none, own_tx, own_str, own_calls, own_call, own_lot, own_box, own_num, own_tup, own_lst, own_dct, fresh_lst, fresh_dic, fresh_cmp0, fresh_cmp1, fresh_add, fresh_sub, fresh_mul, fresh_div, fresh_mod, fresh_var, fresh_cst, fresh_fn, fresh_b1, fresh_idx, fresh_slc, fresh_mt, fresh_tup, fresh_told, fresh_mix, fresh_mx, fresh_rev, fresh_cmp, fresh_and, fresh_or, fresh_not, restr, List.map_cons, List.map_nil, List.replicate, Nat.reduceSub, beq_self_eq_true]; try (first | with_reducible exact rfl | exact rfl)))
local macro_rules
  | `(tactic| decreasing_trivial) => `(tactic| first
    | ((with_reducible apply wp_asg); simp_wf; infer_instance; simp_wf)
    | ((with_reducible apply wp_asgT); simp_wf; infer_instance; simp_wf)
    | ((with_reducible apply wp_par); simp_wf; infer_instance; infer_instance; simp_wf; simp_wf)
    | ((with_reducible apply wp_exp); simp_wf; infer_instance)
    | ((with_reducible apply wp_ret); simp_wf; infer_instance)
    | ((with_reducible apply wp_if); simp_wf; infer_instance)
    | with_reducible refine wp_cont ?_
    | (refine wp_nil (thn_nx ?_))
    | with_reducible refine wp_nil ?_)
local macro_rules
  | `(tactic| clean_wf) => `(tactic| simp only [startE, List.length_cons, List.length_nil, Nat.reduceAdd, Nat.reduceSub, List.replicate, List.map_cons, List.map_nil, List.cons_append, List.nil_append])
section
variable {c : C} {ρ ρ2 : Env} {e : E} {Q : R Fl → Prop} {r : Ss} {k : Nat}
theorem wp_retE (hf : frz (gens e) ρ = ρ2) (h1 : evT c ρ2 e = .err k) (h3 : Q (.err k)) : Wp (exs c ρ (.cons (.ret e) r)) Q :=
  wp_bind (k := .err k) (by
    show (evT c (frz (gens e) ρ) e >>= fun d => R.ok (Fl.rt d)) = _
    rw [hf, h1]
    rfl) h3
theorem wp_asgE {t : T} (hf : frz (gens e) ρ = ρ2) (h1 : evT c ρ2 e = .err k) (h3 : Q (.err k)) : Wp (exs c ρ (.cons (.asg t e) r)) Q :=
  wp_bind (k := .err k) (by
    cases t with
    | nm i =>
      show (evT c (frz (gens e) ρ) e >>= fun d => Env.put (frz (gens e) ρ) i (ownOf e d) d >>= fun ρ' => R.ok (Fl.nx ρ')) = _
      rw [hf, h1]
      rfl
    | tp is =>
      show (evT c (frz (gens e) ρ) e >>= fun d => bindA is d (frz (gens e) ρ) >>= fun ρ' => R.ok (Fl.nx ρ')) = _
      rw [hf, h1]
      rfl) h3
theorem wp_forE {t : T} {it : I} {bd : Ss} (hf : frz (gensI it) ρ = ρ2) (h1 : eviT c ρ2 it = .err k) (h3 : Q (.err k)) : Wp (exs c ρ (.cons (.fore t it bd) r)) Q :=
  wp_bind (k := .err k) (by
    show (eviT c (frz (gensI it) ρ) it >>= fun p => cond p.1 (nE (loop (fun x ρ' => do let ρ1 ← bindT t x ρ'; exs c.lock ρ1 bd) (frz (gensI it) ρ) p.2 (frz (gensI it) ρ))) (loop (fun x ρ' => do let ρ1 ← bindT t x ρ'; exs c ρ1 bd) (frz (gensI it) ρ) p.2 (frz (gensI it) ρ))) = _
    rw [hf, h1]
    rfl) h3
end
theorem evT_call {call : Nat → List PyData → R PyData} {ρ : Env} {f : Nat} {es : Es} {xs : List PyData} {x : R PyData} (ho : one1 es = false) (h1 : evs ⟨call, true⟩ ρ es = .ok xs) (h2 : call f xs = x) : evT ⟨call, true⟩ ρ (.fn f es) = x := by
  rw [evT_fn ho, h1]
  exact h2
theorem dGet_none : ∀ {lot : List Box} {nm : Str}, nm ∉ lot.map (·.1) → dGet (lot.map fun b => (PyData.str b.1, numD b.2)) (.str nm) = none
  | [], _, _ => rfl
  | b :: r, nm, h => by
    rw [List.map_cons, List.mem_cons, not_or] at h
    unfold dGet
    rw [List.map_cons, List.find?_cons, show keyEq (PyData.str b.1) (.str nm) = false from decide_eq_false fun z => h.1 z.symm]
    exact dGet_none h.2
theorem o_inLot {lot : List Box} (hn : (lot.map (·.1)).Nodup) (nm : Str) : cmpB .In (.str nm) (.dict (lot.map fun b => (PyData.str b.1, numD b.2))) = .ok (decide (nm ∈ lot.map (·.1))) := by
  show gd true (R.ok (dGet _ (.str nm)).isSome) = _
  by_cases h : nm ∈ lot.map (·.1)
  · obtain ⟨b, hb, rfl⟩ := List.mem_map.mp h
    rw [dGet_lot hn (show (b.1, b.2) ∈ lot from hb), decide_eq_true h]
    rfl
  · rw [dGet_none h, decide_eq_false h]
    rfl
theorem o_ninLot {lot : List Box} (hn : (lot.map (·.1)).Nodup) (nm : Str) : cmpB .NotIn (.str nm) (.dict (lot.map fun b => (PyData.str b.1, numD b.2))) = .ok (!decide (nm ∈ lot.map (·.1))) := by
  have e : inD (.str nm) (.dict (lot.map fun b => (PyData.str b.1, numD b.2))) = .ok (decide (nm ∈ lot.map (·.1))) := o_inLot hn nm
  show notR (inD (.str nm) (.dict (lot.map fun b => (PyData.str b.1, numD b.2)))) = _
  rw [e]
  rfl
theorem number_for_err {tb : Tab} (h : tb 32 = some f_number_for) (n : Nat) {lot : List Box} (hl : LotOk lot) {nm : Str} (hm : nm ∉ lot.map (·.1)) : callN tb (n + 1) 32 [lotD lot, .str nm] = .err 1 := by
  rw [callN_at h]
  refine run_err rfl ?_
  unfold f_number_for
  clean_wf
  refine wp_if (k := true) (by simp_wf) ?_ (fun _ => wp_rse rfl) (fun z => nomatch z)
  refine ev_cmpE (ev_varE rfl) (ev_b1 (ev_varE rfl) rfl (dictD_lot hl.nd)) ?_
  rw [o_ninLot hl.nd, decide_eq_false hm]
  rfl
theorem heard_err {tb : Tab} (h : HasH tb) (n : Nat) {lot : List Box} (hl : LotOk lot) {nm : Str} (hm : nm ∉ lot.map (·.1)) (b : Int) : callN tb (n + 2) 33 [lotD lot, callsD [(nm, b)]] = .err 1 := by
  rw [callN_at h.h33]
  refine run_err rfl ?_
  unfold f_heard
  clean_wf
  decreasing_trivial
  refine wp_for (L := [(nm, b)]) (enc := callD) (ρ2 := [some (0, lotD lot), some (0, callsD [(nm, b)]), some (1, .dict []), none, none, none, none, none]) (fun dn ρ' => dn = [] ∧ ρ' = [some (0, lotD lot), some (0, callsD [(nm, b)]), some (1, .dict []), none, none, none, none, none]) ?_ ?_ ⟨rfl, rfl⟩ ?_ ?_
  · simp_wf
  · infer_instance
  · rintro dn y rs ρ' hL ⟨rfl, rfl⟩
    have hy : y = (nm, b) := by
      injection hL with h1 _
      exact h1.symm
    subst hy
    refine ⟨_, by simp_wf, ?_⟩
    refine wp_forE (k := 1) (by simp_wf) ?_ rfl
    show (evT _ _ _ >>= fun d => nE (seqD d) >>= fun l => R.ok (false, enmD l)) = _
    have e : callN tb (n + 1) 32 [lotD lot, .str nm] = .err 1 := number_for_err h.h32 n hl hm
    show ((nE (evs ⟨callN tb (n + 1), true⟩ _ (.cons (.var 0) (.cons (.var 3) .nil))) >>= fun xs => gd true (callN tb (n + 1) 32 xs) >>= fun y => gd true (callN tb (n + 1) 20 [y])) >>= fun d => nE (seqD d) >>= fun l => R.ok (false, enmD l)) = _
    rw [show evs ⟨callN tb (n + 1), true⟩ [some (0, lotD lot), some (0, callsD [(nm, b)]), some (1, .dict []), some (0, .str nm), some (0, .int b), none, none, none] (.cons (.var 0) (.cons (.var 3) .nil)) = .ok [lotD lot, .str nm] from rfl]
    show ((gd true (callN tb (n + 1) 32 [lotD lot, .str nm]) >>= fun y => gd true (callN tb (n + 1) 20 [y])) >>= fun d => nE (seqD d) >>= fun l => R.ok (false, enmD l)) = _
    rw [e]
    rfl
  · rintro ρ' ⟨z, _⟩
    cases z
theorem alone_err {tb : Tab} (h : HasH tb) (h34 : tb 34 = some f_alone) (n : Nat) {lot : List Box} (hl : LotOk lot) {nm : Str} (hm : nm ∉ lot.map (·.1)) : callN tb (n + 3) 34 [lotD lot, .str nm] = .err 1 := by
  rw [callN_at h34]
  refine run_err rfl ?_
  unfold f_alone
  clean_wf
  exact wp_retE (by simp_wf) (evT_call rfl (evs_c (ev_varE rfl) (evs_c (ev_tup (evs_c (ev_tup (evs_c (ev_varE rfl) (evs_c ev_cstE evs_n))) evs_n)) evs_n)) (heard_err h n hl hm 0)) rfl
theorem alone_ok {tb : Tab} (h : HasH tb) (h34 : tb 34 = some f_alone) (n : Nat) {lot : List Box} (hl : LotOk lot) {nm : Str} {ns : List Int} (hm : (nm, ns) ∈ lot) : callN tb (n + 3) 34 [lotD lot, .str nm] = .ok (tx (beatsL ns)) := by
  rw [callN_at h34]
  refine run_of rfl ?_
  unfold f_alone
  clean_wf
  have hc : CallsOk lot [(nm, 0)] := ⟨by simp, fun c hc => by cases List.mem_singleton.mp hc; exact ⟨ns, hm⟩, fun c hc => by cases List.mem_singleton.mp hc; exact ⟨by show (-1000 : Int) ≤ 0; decide, by show (0 : Int) ≤ 1000; decide⟩⟩
  have e := heard_ok h n hl hc
  have e2 : hearL (timesL lot [(nm, 0)]) = beatsL ns := by
    have : timesL lot [(nm, 0)] = tapsIn 0 (beatsOf lot nm) := by
      unfold timesL
      rw [List.flatMap_cons, List.flatMap_nil, List.append_nil]
    rw [this, hear_self (tapped_of hl hm)]
    unfold beatsOf
    rw [numOf_eq hl.nd hm]
  rw [e2] at e
  exact wp_ret (by simp_wf) (ev_fn rfl (evs_c (ev_varE rfl) (evs_c (ev_tup (evs_c (ev_tup (evs_c (ev_varE rfl) (evs_c ev_cstE evs_n))) evs_n)) evs_n)) e) rfl
/-! ### is_whole, is_pair, rises -/
theorem bools_map : ∀ bs : List Bool, boolsOf (bs.map PyData.bool) = some bs
  | [] => rfl
  | b :: r => by
    show (boolsOf (r.map PyData.bool)).map (b :: ·) = _
    rw [bools_map r]
    rfl
theorem all_b (bs : List Bool) : b1D .all (.list (bs.map PyData.bool)) = .ok (.bool (bs.all id)) := by
  show op ((boolsOf (bs.map PyData.bool)).map fun bs => PyData.bool (bs.all id)) = _
  rw [bools_map]
  rfl
theorem any_b (bs : List Bool) : b1D .any (.list (bs.map PyData.bool)) = .ok (.bool (bs.any id)) := by
  show op ((boolsOf (bs.map PyData.bool)).map fun bs => PyData.bool (bs.any id)) = _
  rw [bools_map]
  rfl
theorem all_m {α : Type} (L : List α) (p : α → Bool) : b1D .all (.list (L.map fun y => PyData.bool (p y))) = .ok (.bool (L.all p)) := by
  have := all_b (L.map p)
  rw [List.map_map, List.all_map] at this
  exact this
theorem any_m {α : Type} (L : List α) (p : α → Bool) : b1D .any (.list (L.map fun y => PyData.bool (p y))) = .ok (.bool (L.any p)) := by
  have := any_b (L.map p)
  rw [List.map_map, List.any_map] at this
  exact this
theorem is_whole_ok {tb : Tab} (h : tb 0 = some f_is_whole) (n : Nat) (i lo hi : Int) : callN tb (n + 1) 0 [.int i, .int lo, .int hi] = .ok (.bool (decide (lo ≤ i) && decide (i ≤ hi))) := by
  rw [callN_at h]
  refine run_of rfl ?_
  unfold f_is_whole
  clean_wf
  have e0 : b1D (.isi 0) (.int i) = .ok (.bool true) := rfl
  have e1 : b1D (.isi 1) (.int i) = .ok (.bool false) := rfl
  exact wp_ret (by simp_wf) (ev_andT (ev_b1 (ev_varE rfl) rfl e0) (ev_andT (ev_notE (ev_b1 (ev_varE rfl) rfl e1)) (ev_one (ev_chnE (ev_varE rfl) (ev_varE rfl) (o_leI _ _) (fun _ => ev_varE rfl) (fun _ => o_leI _ _))))) rfl
theorem is_pair_ok {tb : Tab} (h : tb 3 = some f_is_pair) (n : Nat) (a b : PyData) : callN tb (n + 1) 3 [.tuple [a, b]] = .ok (.bool true) := by
  rw [callN_at h]
  rfl
theorem cut_init {α : Type} (xs : List α) : cut xs none (some (-1)) = xs.dropLast := by
  have e : HT.sIx xs.length xs.length (some (-1)) = xs.length - 1 := by
    unfold HT.sIx
    simp
    try omega
  have e0 : HT.sIx xs.length 0 none = 0 := rfl
  unfold cut
  rw [e, e0, List.drop_zero, Nat.sub_zero, List.dropLast_eq_take]
def risesB (l : List Str) : Bool := (l.dropLast.zip (l.drop 1)).all fun p => decide (ltS p.1 p.2)
theorem rises_pw {l : List Str} (h : l.Pairwise ltS) : risesB l = true := by
  unfold risesB
  rw [List.all_eq_true]
  intro p hp
  obtain ⟨i, hi, e⟩ := List.getElem_of_mem hp
  rw [List.length_zip, List.length_dropLast, List.length_drop] at hi
  rw [List.getElem_zip] at e
  rw [← e]
  refine decide_eq_true ?_
  simp only [List.getElem_dropLast, List.getElem_drop]
  exact List.pairwise_iff_getElem.mp h i (1 + i) (by omega) (by omega) (by omega)
theorem zip_strs (a b : List Str) : zipD (a.map PyData.str) (b.map PyData.str) = (a.zip b).map fun p => PyData.tuple [.str p.1, .str p.2] := by
  unfold zipD
  rw [List.zip_map, List.map_map]
  rfl
theorem rises_ok {tb : Tab} (h : tb 4 = some f_rises) (n : Nat) {l : List Str} (hl : l.length ≤ 1000) : callN tb (n + 1) 4 [.list (l.map PyData.str)] = .ok (.bool (risesB l)) := by
  rw [callN_at h]
  refine run_of rfl ?_
  unfold f_rises
  clean_wf
  have e1 : slcD (.list (l.map PyData.str)) none (some (-1)) = .ok (.list (l.dropLast.map PyData.str)) := by
    rw [o_slcL, cut_map, cut_init]
  have e2 : slcD (.list (l.map PyData.str)) (some 1) none = .ok (.list ((l.drop 1).map PyData.str)) := by
    rw [o_slcL, cut_map]
    exact congrArg (fun x => R.ok (PyData.list (List.map PyData.str x))) (cut_drop l 1)
  refine wp_ret (by simp_wf) (ev_b1 (x := .list ((l.dropLast.zip (l.drop 1)).map fun p => PyData.bool (decide (ltS p.1 p.2)))) ?_ rfl (all_m _ _)) rfl
  refine ev_cmp0M (L := l.dropLast.zip (l.drop 1)) (enc := fun p => PyData.tuple [.str p.1, .str p.2]) ?_ ?_ fun p _ => ?_
  · rw [← zip_strs]
    exact it_zip (ev_slc (ev_varE rfl) ev_nonE rfl (ev_negE ev_cstE) rfl e1) (ev_slc (ev_varE rfl) ev_cstE rfl ev_nonE rfl e2) rfl rfl
  · rw [List.length_zip, List.length_dropLast, List.length_drop]
    show _ ≤ 16000000
    omega
  · exact ⟨_, by simp_wf, ev_cmpE (ev_varE rfl) (ev_varE rfl) rfl⟩
/-! ### are_calls -/
structure HasA (tb : Tab) : Prop where
  h0 : tb 0 = some f_is_whole
  h3 : tb 3 = some f_is_pair
  h4 : tb 4 = some f_rises
  h6 : tb 6 = some f_are_calls
/-- calls of a lot -/
structure GoodC (lot : List Box) (wait : Int) (cs : List Cl) : Prop where
  few : cs.length ≤ 3
  sub : (cs.map (·.1)).Sublist (lot.map (·.1))
  beg : ∀ c ∈ cs, 0 ≤ c.2 ∧ c.2 ≤ wait
  zero : at0 cs = true
theorem zero_at0 {cs : List Cl} (h1 : ∀ c ∈ cs, 0 ≤ c.2) (h : cs ≠ [] → ∃ c ∈ cs, c.2 = 0) : at0 cs = true := by
  by_cases q : cs = []
  · rw [q]
    rfl
  · rw [at0_iff cs q]
    refine decide_eq_true ?_
    obtain ⟨c, hc, e⟩ := h q
    have h2 : mnI (cs.map (·.2)) ≤ c.2 := mnI_le (List.mem_map.mpr ⟨c, hc, rfl⟩)
    obtain ⟨d, hd, e2⟩ := List.mem_map.mp (mnI_mem (ns := cs.map (·.2)) (by simpa using q))
    have h3 := h1 d hd
    rw [← e2] at h2 ⊢
    omega
theorem DrawnC.good {lot : List Box} {wait : Int} {cs : List Cl} (h : DrawnC lot wait cs) : GoodC lot wait cs := ⟨h.few, h.sub, h.beg, zero_at0 (fun c hc => (h.beg c hc).1) h.zero⟩
theorem GoodC.ok {lot : List Box} {wait : Int} {cs : List Cl} (h : GoodC lot wait cs) (hw : wait ≤ 1000) : CallsOk lot cs := ⟨by have := h.few; omega, fun c hc => by
  obtain ⟨b, hb, e⟩ := List.mem_map.mp (h.sub.subset (List.mem_map.mpr ⟨c, hc, rfl⟩))
  exact ⟨b.2, by rw [← e]; exact hb⟩, fun c hc => by have := h.beg c hc; omega⟩
theorem are_calls_ok {tb : Tab} (h : HasA tb) (n : Nat) {lot : List Box} (hl : LotOk lot) (hp : (lot.map (·.1)).Pairwise ltS) {wait : Int} {cs : List Cl} (hc : GoodC lot wait cs) : callN tb (n + 2) 6 [lotD lot, .int wait, callsD cs] = .ok (.bool true) := by
  rw [callN_at h.h6]
  refine run_of rfl ?_
  unfold f_are_calls
  clean_wf
  have few := hc.few
  have i0 : ∀ c : Cl, idxD (callD c) (.int 0) = .ok (.str c.1) := fun _ => rfl
  have i1 : ∀ c : Cl, idxD (callD c) (.int 1) = .ok (.int c.2) := fun _ => rfl
  have sz : SZ = 16000000 := rfl
  have ei : b1D (.isi 3) (callsD cs) = .ok (.bool true) := rfl
  refine wp_if (k := false) (by simp_wf) ?_ (fun z => nomatch z) (fun _ => wp_nil (thn_nx ?_))
  · refine ev_orF (ev_notE (k := true) (ev_b1 (ev_varE rfl) rfl ei)) (ev_one (ev_cmpE (ev_b1 (ev_varE rfl) rfl (o_lenC cs)) ev_cstE ?_))
    rw [o_gtI, decide_eq_false (by omega)]
  refine wp_if (k := false) (by simp_wf) ?_ (fun z => nomatch z) (fun _ => wp_nil (thn_nx ?_))
  · refine ev_notE (k := true) (ev_b1 (x := .list (cs.map fun _ => PyData.bool true)) ?_ rfl ?_)
    · refine ev_cmp0M (L := cs) (enc := callD) (it_val (ev_varE rfl) rfl rfl) (by omega) fun c hcm => ⟨_, by simp_wf, ?_⟩
      have hb := hc.beg c hcm
      have e0 := is_whole_ok h.h0 n c.2 0 wait
      rw [decide_eq_true hb.1, decide_eq_true hb.2] at e0
      have e3 : callN tb (n + 1) 3 [callD c] = .ok (.bool true) := is_pair_ok h.h3 n _ _
      have e2 : b1D (.isi 2) (.str c.1) = .ok (.bool true) := rfl
      exact ev_andT (ev_fn rfl (evs_c (ev_varE rfl) evs_n) e3) (ev_andT (ev_b1 (ev_idx (ev_varE rfl) ev_cstE (i0 c)) rfl e2) (ev_one (ev_fn rfl (evs_c (ev_idx (ev_varE rfl) ev_cstE (i1 c)) (evs_c ev_cstE (evs_c (ev_varE rfl) evs_n))) e0)))
    · rw [all_m]
      congr 2
      exact List.all_eq_true.mpr fun _ _ => rfl
  have ed := dictD_lot hl.nd
  refine wp_if (k := false) (by simp_wf) ?_ (fun z => nomatch z) (fun _ => wp_nil (thn_nx ?_))
  · refine ev_orF (ev_notE (k := true) (ev_b1 (x := .list (cs.map fun _ => PyData.bool true)) ?_ rfl ?_)) (ev_one (ev_notE (k := true) (ev_fn rfl (evs_c (x := .list ((cs.map (·.1)).map PyData.str)) ?_ evs_n) ?_)))
    · refine ev_cmp0M (L := cs) (enc := callD) (it_val (ev_varE rfl) rfl rfl) (by omega) fun c hcm => ⟨_, by simp_wf, ?_⟩
      refine ev_cmpE (ev_idx (ev_varE rfl) ev_cstE (i0 c)) (ev_b1 (ev_varE rfl) rfl ed) ?_
      rw [o_inLot hl.nd, decide_eq_true (hc.sub.subset (List.mem_map.mpr ⟨c, hcm, rfl⟩))]
    · rw [all_m]
      congr 2
      exact List.all_eq_true.mpr fun _ _ => rfl
    · rw [List.map_map]
      exact ev_cmp0M (L := cs) (enc := callD) (it_val (ev_varE rfl) rfl rfl) (by omega) fun c hcm => ⟨_, by simp_wf, ev_idx (ev_varE rfl) ev_cstE (i0 c)⟩
    · have e := rises_ok h.h4 n (l := cs.map (·.1)) (by rw [List.length_map]; omega)
      rw [rises_pw (hp.sublist hc.sub)] at e
      exact e
  refine wp_ret (by simp_wf) (x := .bool true) ?_ rfl
  by_cases q : cs = []
  · subst q
    exact ev_orT (ev_cmpE (k := true) (ev_b1 (ev_varE rfl) rfl (o_lenC [])) ev_cstE rfl)
  · have z := hc.zero
    rw [at0_iff cs q] at z
    refine ev_orF (ev_cmpE (ev_b1 (ev_varE rfl) rfl (o_lenC cs)) ev_cstE ?_) (ev_one (ev_cmpE (ev_minb rfl (show 3 < 4 by decide) (by omega) q) ev_cstE ?_))
    · rw [o_eqI, decide_eq_false]
      intro y
      exact q (List.eq_nil_of_length_eq_zero (by omega))
    · rw [o_eqI, z]
end TD
/-! may_be, surely, possibly, off, nearest. -/
namespace TD
open PySem
local macro_rules
  | `(tactic| infer_instance) => `(tactic| first
    | with_reducible assumption
    | with_reducible exact c_1 | with_reducible exact c_0 | with_reducible exact c_e | with_reducible exact c_000 | with_reducible exact c_tup0 | with_reducible exact c_lst0
    | with_reducible exact ev_cstE
    | with_reducible exact ev_nonE
    | with_reducible exact ev_dicE
    | ((with_reducible apply ev_varE); exact rfl)
    | ((with_reducible apply ev_bin); infer_instance; infer_instance; infer_instance)
    | ((with_reducible apply ev_negE); infer_instance)
    | ((with_reducible apply ev_notE); infer_instance)
    | ((with_reducible apply ev_one); infer_instance)
    | ((with_reducible apply ev_andE); infer_instance; intro _; infer_instance)
    | ((with_reducible apply ev_orE); infer_instance; intro _; infer_instance)
    | ((with_reducible apply ev_cmpE); infer_instance; infer_instance; infer_instance)
    | ((with_reducible apply ev_chnE); infer_instance; infer_instance; infer_instance; (intro _; infer_instance); (intro _; infer_instance))
    | ((with_reducible apply ev_tup); infer_instance)
    | ((with_reducible apply ev_lst); infer_instance)
    | ((with_reducible apply ev_idx); infer_instance; infer_instance; infer_instance)
    | ((with_reducible apply ev_slc); infer_instance; infer_instance; exact rfl; infer_instance; exact rfl; infer_instance)
    | ((with_reducible apply ev_fn); exact rfl; infer_instance; infer_instance)
    | ((with_reducible apply ev_b1); infer_instance; exact rfl; infer_instance)
    | ((with_reducible apply ev_mxE); infer_instance; infer_instance)
    | ((with_reducible apply ev_mt); infer_instance; infer_instance; infer_instance)
    | ((with_reducible apply ev_mixE); exact rfl; infer_instance; exact ⟨by decide, by decide⟩)
    | with_reducible exact evs_n
    | ((with_reducible apply evs_c); infer_instance; infer_instance)
    | ((with_reducible apply it_val); infer_instance; exact rfl; exact rfl)
    | ((with_reducible apply it_enm); infer_instance; exact rfl)
    | with_reducible exact o_addI _ _ | with_reducible exact o_subI _ _ | with_reducible exact o_divI ⟨by decide, by decide⟩ | with_reducible exact o_modI (by decide)
    | with_reducible exact o_eqI _ _ | with_reducible exact o_neI _ _ | with_reducible exact o_ltI _ _ | with_reducible exact o_gtI _ _ | with_reducible exact o_leI _ _ | with_reducible exact o_geI _ _
    | with_reducible exact o_eqB _ _ | with_reducible exact o_neB _ _
    | with_reducible exact o_eqT _ _ | with_reducible exact o_neT _ _ | with_reducible exact o_inTx _ _
    | with_reducible exact o_lenC _ | with_reducible exact o_lenLot _ | with_reducible exact o_lenN _ | with_reducible exact o_lenLM _ | with_reducible exact o_lenUM _ | with_reducible exact o_lenL _ | with_reducible exact o_lenU _
    | with_reducible exact o_eqC0 _ | with_reducible exact o_neC0 _ | with_reducible exact o_eqC _ _ | with_reducible exact o_neC _ _ | with_reducible exact o_eqN _ _ | with_reducible exact o_neN _ _ | with_reducible exact o_eqLot _ _ | with_reducible exact o_neLot _ _
    | with_reducible exact o_slcC _ _ _ | with_reducible exact o_slcLot _ _ _ | with_reducible exact o_slcN _ _ _
    | with_reducible exact o_addT (by first | assumption | omega) | with_reducible exact o_lenT (by first | assumption | omega) | with_reducible exact o_slcT (by first | assumption | omega)
    | fail "stuck")
local macro_rules
  | `(tactic| simp_wf) => `(tactic| (simp only [startE, frz, frz1, gens, gensL, gensI, isVar, inOp, bl_abs, bl_sum, bl_min, bl_max, bl_sorted, bl_list, bl_tuple, bl_dict, bl_int, bl_str, bl_repr, bl_all, bl_any, bl_sset, bl_lset, bl_sortk, bl_isi, ml_join, ml_split, ml_count, ml_index, ml_replace, ml_rstrip, ml_upper, ml_endswith, ml_lcount, cond_true, cond_false, Bool.and_true, Bool.and_false, Bool.true_and, Bool.false_and, List.append_nil, List.nil_append, List.cons_append, List.getElem?_cons_succ, List.getElem?_cons_zero, List.set_cons_succ, List.set_cons_zero, Env.put, gd_true, List.length_cons, List.length_nil, Nat.reduceAdd, Nat.reduceLT, decide_true, bindT, bindA, putAll, R.ok_bind, wipeE, T.slots, own_int, own_bool, own_none, own_tx, own_str, own_calls, own_call, own_lot, own_box, own_num, own_tup, own_lst, own_dct, fresh_lst, fresh_dic, fresh_cmp0, fresh_cmp1, fresh_add, fresh_sub, fresh_mul, fresh_div, fresh_mod, fresh_var, fresh_cst, fresh_fn, fresh_b1, fresh_idx, fresh_slc, fresh_mt, fresh_tup, fresh_told, fresh_mix, fresh_mx, fresh_rev, fresh_cmp, fresh_and, fresh_or, fresh_not, restr, List.map_cons, List.map_nil, List.replicate, Nat.reduceSub, beq_self_eq_true]; try (first | with_reducible exact rfl | exact rfl)))
local macro_rules
  | `(tactic| decreasing_trivial) => `(tactic| first
    | ((with_reducible apply wp_asg); simp_wf; infer_instance; simp_wf)
    | ((with_reducible apply wp_asgT); simp_wf; infer_instance; simp_wf)
    | ((with_reducible apply wp_par); simp_wf; infer_instance; infer_instance; simp_wf; simp_wf)
    | ((with_reducible apply wp_exp); simp_wf; infer_instance)
    | ((with_reducible apply wp_ret); simp_wf; infer_instance)
    | ((with_reducible apply wp_if); simp_wf; infer_instance)
    | with_reducible refine wp_cont ?_
    | (refine wp_nil (thn_nx ?_))
    | with_reducible refine wp_nil ?_)
local macro_rules
  | `(tactic| clean_wf) => `(tactic| simp only [startE, List.length_cons, List.length_nil, Nat.reduceAdd, Nat.reduceSub, List.replicate, List.map_cons, List.map_nil, List.cons_append, List.nil_append])
def hearC (lot : List Box) (cs : List Cl) : List Nat := hearL (timesL lot cs)
/-- the calls of which a text is heard -/
def mayC (lot : List Box) (w m : Nat) (t : List Nat) : List (List Cl) := (allC (lot.map (·.1)) w m).filter fun cs => decide (hearC lot cs = t)
abbrev strsD (l : List Str) : PyData := .tuple (l.map PyData.str)
theorem allC_ok {lot : List Box} {w m : Nat} (hw : w ≤ 1000) (hm : m ≤ 3) {cs : List Cl} (h : cs ∈ allC (lot.map (·.1)) w m) : GoodC lot (w : Int) cs ∧ CallsOk lot cs := by
  obtain ⟨⟨h1, h2, h3⟩, h4⟩ := mem_allC.mp h
  have g : GoodC lot (w : Int) cs := ⟨by omega, h2, h3, h4⟩
  exact ⟨g, g.ok (by omega)⟩
theorem allC_len {ns : List Str} {w m : Nat} (hn : ns.length ≤ 6) (hw : w ≤ 12) (hm : m ≤ 3) : (allC ns w m).length ≤ 500000 := by
  unfold allC
  rw [sortE_len]
  exact Nat.le_trans (List.length_filter_le _ _) (Nat.le_trans (pick_len _ w m 0) (Nat.le_trans (szC_mono hn hw hm) (by decide)))
theorem nil_allC (ns : List Str) (w m : Nat) : [] ∈ allC ns w m := mem_allC.mpr ⟨⟨Nat.zero_le _, List.nil_sublist _, fun c hc => absurd hc List.not_mem_nil⟩, rfl⟩
structure HasM (tb : Tab) : Prop extends HasH tb where
  h35 : tb 35 = some f_calls_from
  h36 : tb 36 = some f_all_calls
theorem may_be_ok {tb : Tab} (h : HasM tb) (h38 : tb 38 = some f_may_be) {lot : List Box} (hl : LotOk lot) (hlot : lot.length ≤ 6) {w : Nat} (hw : w ≤ 12) {m : Nat} (hm : m ≤ 3) (t : List Nat) {d : Nat} (hd : m + 2 < d) : callN tb d 38 [lotD lot, .int (m : Int), .int (w : Int), tx t] = .ok (.tuple ((mayC lot w m t).map callsD)) := by
  match d, hd with
  | d + 3, hd =>
    rw [callN_at h38]
    refine run_of rfl ?_
    unfold f_may_be
    clean_wf
    have e36 : callN tb (d + 2) 36 [lotD lot, .int (m : Int), .int (w : Int)] = .ok (.tuple ((allC (lot.map (·.1)) w m).map callsD)) := all_calls_ok h.h35 h.h36 hlot hw hm (by omega)
    have hlen := allC_len (ns := lot.map (·.1)) (by rw [List.length_map]; exact hlot) hw hm
    refine wp_ret (by simp_wf) (ev_b1 (x := .list ((mayC lot w m t).map callsD)) ?_ rfl rfl) rfl
    refine ev_cmp1M (L := allC (lot.map (·.1)) w m) (enc := callsD) ?_ ?_ fun cs hcs => ?_
    · infer_instance
    · exact Nat.le_trans hlen (by decide)
    · have e33 : callN tb (d + 2) 33 [lotD lot, callsD cs] = .ok (tx (hearC lot cs)) := heard_ok h.toHasH d hl (allC_ok (by omega) hm hcs).2
      refine ⟨_, by simp_wf, ?_, fun _ => ?_⟩
      · infer_instance
      · infer_instance
theorem names_of_ok {tb : Tab} (h : tb 39 = some f_names_of) (n : Nat) {cs : List Cl} (hc : cs.length ≤ 1000) : callN tb (n + 1) 39 [callsD cs] = .ok (strsD (cs.map (·.1))) := by
  rw [callN_at h]
  refine run_of rfl ?_
  unfold f_names_of
  clean_wf
  refine wp_ret (by simp_wf) (ev_b1 (x := .list (cs.map fun c => PyData.str c.1)) ?_ rfl rfl) ?_
  · refine ev_cmp0M (L := cs) (enc := callD) ?_ ?_ fun c _ => ⟨_, rfl, ev_varE rfl⟩
    · infer_instance
    · exact Nat.le_trans hc (by decide)
  · show R.ok (Fl.rt (PyData.tuple (cs.map fun c => PyData.str c.1))) = R.ok (Fl.rt (PyData.tuple ((cs.map (·.1)).map PyData.str)))
    rw [List.map_map]
    rfl
structure HasS (tb : Tab) : Prop extends HasM tb where
  h38 : tb 38 = some f_may_be
  h39 : tb 39 = some f_names_of
  h40 : tb 40 = some f_need_calls
theorem mayC_len {lot : List Box} (hlot : lot.length ≤ 6) {w m : Nat} (hw : w ≤ 12) (hm : m ≤ 3) (t : List Nat) : (mayC lot w m t).length ≤ 500000 := Nat.le_trans (List.length_filter_le _ _) (allC_len (by rw [List.length_map]; exact hlot) hw hm)
theorem need_calls_ok {tb : Tab} (h : HasS tb) {lot : List Box} (hl : LotOk lot) (hlot : lot.length ≤ 6) {w : Nat} (hw : w ≤ 12) {m : Nat} (hm : m ≤ 3) (t : List Nat) {d : Nat} (hd : m + 3 < d) : callN tb d 40 [lotD lot, .int (m : Int), .int (w : Int), tx t] = if mayC lot w m t = [] then .err 2 else .ok (.list ((mayC lot w m t).map fun cs => strsD (cs.map (·.1)))) := by
  match d, hd with
  | d + 3, hd =>
    have e38 : callN tb (d + 2) 38 [lotD lot, .int (m : Int), .int (w : Int), tx t] = .ok (.tuple ((mayC lot w m t).map callsD)) := may_be_ok h.toHasM h.h38 hl hlot hw hm t (by omega)
    have hlen := mayC_len hlot hw hm t
    have e1 : ev ⟨callN tb (d + 2), true⟩ [some (0, lotD lot), some (0, .int (m : Int)), some (0, .int (w : Int)), some (0, tx t), none, none] (.cmp0 (.fn 39 (.cons (.var 5) .nil)) (.nm 5) (.val (.fn 38 (.cons (.var 0) (.cons (.var 1) (.cons (.var 2) (.cons (.var 3) .nil))))))) = .ok (.list ((mayC lot w m t).map fun cs => strsD (cs.map (·.1)))) := by
      refine ev_cmp0M (L := mayC lot w m t) (enc := callsD) ?_ ?_ fun cs hcs => ⟨_, rfl, ?_⟩
      · infer_instance
      · exact Nat.le_trans hlen (by decide)
      · have g := (allC_ok (by omega) hm (List.mem_filter.mp hcs).1).1
        have e39 : callN tb (d + 2) 39 [callsD cs] = .ok (strsD (cs.map (·.1))) := names_of_ok h.h39 (d + 1) (by have := g.few; omega)
        infer_instance
    rw [callN_at h.h40]
    by_cases q : mayC lot w m t = []
    · rw [if_pos q]
      refine run_err rfl ?_
      unfold f_need_calls
      clean_wf
      refine wp_asg (by simp_wf) e1 (by simp_wf) ?_
      refine wp_if (k := true) (by simp_wf) ?_ (fun _ => wp_rse rfl) (fun z => nomatch z)
      refine ev_cmpE (ev_b1 (ev_varE rfl) rfl (o_lenLM _)) ev_cstE ?_
      rw [q]
      rfl
    · rw [if_neg q]
      refine run_of rfl ?_
      unfold f_need_calls
      clean_wf
      refine wp_asg (by simp_wf) e1 (by simp_wf) ?_
      refine wp_if (k := false) (by simp_wf) ?_ (fun z => nomatch z) (fun _ => wp_nil (thn_nx ?_))
      · refine ev_cmpE (ev_b1 (ev_varE rfl) rfl (o_lenLM _)) ev_cstE ?_
        rw [o_eqI, decide_eq_false]
        intro z
        exact q (List.eq_nil_of_length_eq_zero (by omega))
      · exact wp_ret (by simp_wf) (ev_varE rfl) rfl
theorem o_inStrs (nm : Str) (l : List Str) : cmpB .In (.str nm) (strsD l) = .ok (decide (nm ∈ l)) := o_inT nice_str (by decide) nm l
theorem o_ninStrs (nm : Str) (l : List Str) : cmpB .NotIn (.str nm) (strsD l) = .ok (!decide (nm ∈ l)) := o_ninT nice_str (by decide) nm l
/-- the names in all, in some of them -/
def sureC (lot : List Box) (cc : List (List Cl)) : List Str := (lot.filter fun b => cc.all fun cs => decide (b.1 ∈ cs.map (·.1))).map (·.1)
def maybC (lot : List Box) (cc : List (List Cl)) : List Str := (lot.filter fun b => cc.any fun cs => decide (b.1 ∈ cs.map (·.1))).map (·.1)
theorem ev_callT {call : Nat → List PyData → R PyData} {ρ ρ2 ρ1 : Env} {i f : Nat} {es : Es} {xs : List PyData} {x : PyData} {Q : R Fl → Prop} {r : Ss} (hf : frz (gens (.fn f es)) ρ = ρ2) (ho : one1 es = false) (h1 : evs ⟨call, true⟩ ρ2 es = .ok xs) (h2 : call f xs = .ok x) (h3 : Env.put ρ2 i (ownOf (.fn f es) x) x = .ok ρ1) (h4 : Wp (exs ⟨call, true⟩ ρ1 r) Q) : Wp (exs ⟨call, true⟩ ρ (.cons (.asg (.nm i) (.fn f es)) r)) Q :=
  wp_asg hf (ev_fn rfl h1 h2) h3 h4
theorem surely_ok {tb : Tab} (h : HasS tb) (h41 : tb 41 = some f_surely) {lot : List Box} (hl : LotOk lot) (hlot : lot.length ≤ 6) {w : Nat} (hw : w ≤ 12) {m : Nat} (hm : m ≤ 3) (t : List Nat) {d : Nat} (hd : m + 4 < d) : callN tb d 41 [lotD lot, .int (m : Int), .int (w : Int), tx t] = if mayC lot w m t = [] then .err 2 else .ok (strsD (sureC lot (mayC lot w m t))) := by
  match d, hd with
  | d + 1, hd =>
    have e40 := need_calls_ok h hl hlot hw hm t (d := d) (by omega)
    have hlen := mayC_len hlot hw hm t
    rw [callN_at h41]
    by_cases q : mayC lot w m t = []
    · rw [if_pos q] at e40 ⊢
      refine run_err rfl ?_
      unfold f_surely
      clean_wf
      exact wp_asgE (by simp_wf) (evT_call rfl (evs_c (ev_varE rfl) (evs_c (ev_varE rfl) (evs_c (ev_varE rfl) (evs_c (ev_varE rfl) evs_n)))) e40) rfl
    · rw [if_neg q] at e40 ⊢
      refine run_of rfl ?_
      unfold f_surely
      clean_wf
      decreasing_trivial
      generalize mayC lot w m t = cc at *
      refine wp_ret (by simp_wf) (ev_b1 (x := .list ((lot.filter fun b => cc.all fun cs => decide (b.1 ∈ cs.map (·.1))).map fun b => PyData.str b.1)) ?_ rfl rfl) ?_
      · refine ev_cmp1M (L := lot) (enc := boxD) ?_ ?_ fun b hb => ⟨_, rfl, ?_, fun _ => ev_varE rfl⟩
        · infer_instance
        · exact Nat.le_trans hlot (by decide)
        · refine ev_b1 (x := .list (cc.map fun cs => PyData.bool (decide (b.1 ∈ cs.map (·.1))))) ?_ rfl (all_m _ _)
          refine ev_cmp0M (L := cc) (enc := fun cs => strsD (cs.map (·.1))) ?_ ?_ fun cs hcs => ⟨_, rfl, ?_⟩
          · infer_instance
          · exact Nat.le_trans hlen (by decide)
          · exact ev_cmpE (ev_varE rfl) (ev_varE rfl) (o_inStrs _ _)
      · show R.ok (Fl.rt (PyData.tuple _)) = R.ok (Fl.rt (PyData.tuple ((sureC lot cc).map PyData.str)))
        unfold sureC
        rw [List.map_map]
        rfl
theorem possibly_ok {tb : Tab} (h : HasS tb) (h42 : tb 42 = some f_possibly) {lot : List Box} (hl : LotOk lot) (hlot : lot.length ≤ 6) {w : Nat} (hw : w ≤ 12) {m : Nat} (hm : m ≤ 3) (t : List Nat) {d : Nat} (hd : m + 4 < d) : callN tb d 42 [lotD lot, .int (m : Int), .int (w : Int), tx t] = if mayC lot w m t = [] then .err 2 else .ok (strsD (maybC lot (mayC lot w m t))) := by
  match d, hd with
  | d + 1, hd =>
    have e40 := need_calls_ok h hl hlot hw hm t (d := d) (by omega)
    have hlen := mayC_len hlot hw hm t
    rw [callN_at h42]
    by_cases q : mayC lot w m t = []
    · rw [if_pos q] at e40 ⊢
      refine run_err rfl ?_
      unfold f_possibly
      clean_wf
      exact wp_asgE (by simp_wf) (evT_call rfl (evs_c (ev_varE rfl) (evs_c (ev_varE rfl) (evs_c (ev_varE rfl) (evs_c (ev_varE rfl) evs_n)))) e40) rfl
    · rw [if_neg q] at e40 ⊢
      refine run_of rfl ?_
      unfold f_possibly
      clean_wf
      decreasing_trivial
      generalize mayC lot w m t = cc at *
      refine wp_ret (by simp_wf) (ev_b1 (x := .list ((lot.filter fun b => cc.any fun cs => decide (b.1 ∈ cs.map (·.1))).map fun b => PyData.str b.1)) ?_ rfl rfl) ?_
      · refine ev_cmp1M (L := lot) (enc := boxD) ?_ ?_ fun b hb => ⟨_, rfl, ?_, fun _ => ev_varE rfl⟩
        · infer_instance
        · exact Nat.le_trans hlot (by decide)
        · refine ev_b1 (x := .list (cc.map fun cs => PyData.bool (decide (b.1 ∈ cs.map (·.1))))) ?_ rfl (any_m _ _)
          refine ev_cmp0M (L := cc) (enc := fun cs => strsD (cs.map (·.1))) ?_ ?_ fun cs hcs => ⟨_, rfl, ?_⟩
          · infer_instance
          · exact Nat.le_trans hlen (by decide)
          · exact ev_cmpE (ev_varE rfl) (ev_varE rfl) (o_inStrs _ _)
      · show R.ok (Fl.rt (PyData.tuple _)) = R.ok (Fl.rt (PyData.tuple ((maybC lot cc).map PyData.str)))
        unfold maybC
        rw [List.map_map]
        rfl
end TD
/-! How far off. -/
namespace TD
open PySem
local macro_rules
  | `(tactic| infer_instance) => `(tactic| first
    | with_reducible assumption
    | with_reducible exact c_1 | with_reducible exact c_0 | with_reducible exact c_e | with_reducible exact c_000 | with_reducible exact c_tup0 | with_reducible exact c_lst0
    | with_reducible exact ev_cstE
    | with_reducible exact ev_nonE
    | with_reducible exact ev_dicE
    | ((with_reducible apply ev_varE); exact rfl)
    | ((with_reducible apply ev_bin); infer_instance; infer_instance; infer_instance)
    | ((with_reducible apply ev_negE); infer_instance)
    | ((with_reducible apply ev_notE); infer_instance)
    | ((with_reducible apply ev_one); infer_instance)
    | ((with_reducible apply ev_andE); infer_instance; intro _; infer_instance)
    | ((with_reducible apply ev_orE); infer_instance; intro _; infer_instance)
    | ((with_reducible apply ev_cmpE); infer_instance; infer_instance; infer_instance)
    | ((with_reducible apply ev_chnE); infer_instance; infer_instance; infer_instance; (intro _; infer_instance); (intro _; infer_instance))
    | ((with_reducible apply ev_tup); infer_instance)
    | ((with_reducible apply ev_lst); infer_instance)
    | ((with_reducible apply ev_idx); infer_instance; infer_instance; infer_instance)
    | ((with_reducible apply ev_slc); infer_instance; infer_instance; exact rfl; infer_instance; exact rfl; infer_instance)
    | ((with_reducible apply ev_fn); exact rfl; infer_instance; infer_instance)
    | ((with_reducible apply ev_b1); infer_instance; exact rfl; infer_instance)
    | ((with_reducible apply ev_mxE); infer_instance; infer_instance)
    | ((with_reducible apply ev_mt); infer_instance; infer_instance; infer_instance)
    | ((with_reducible apply ev_mixE); exact rfl; infer_instance; exact ⟨by decide, by decide⟩)
    | with_reducible exact evs_n
    | ((with_reducible apply evs_c); infer_instance; infer_instance)
    | ((with_reducible apply it_val); infer_instance; exact rfl; exact rfl)
    | ((with_reducible apply it_enm); infer_instance; exact rfl)
    | with_reducible exact o_addI _ _ | with_reducible exact o_subI _ _ | with_reducible exact o_divI ⟨by decide, by decide⟩ | with_reducible exact o_modI (by decide)
    | with_reducible exact o_eqI _ _ | with_reducible exact o_neI _ _ | with_reducible exact o_ltI _ _ | with_reducible exact o_gtI _ _ | with_reducible exact o_leI _ _ | with_reducible exact o_geI _ _
    | with_reducible exact o_eqB _ _ | with_reducible exact o_neB _ _
    | with_reducible exact o_eqT _ _ | with_reducible exact o_neT _ _ | with_reducible exact o_inTx _ _
    | with_reducible exact o_lenC _ | with_reducible exact o_lenLot _ | with_reducible exact o_lenN _ | with_reducible exact o_lenLM _ | with_reducible exact o_lenUM _ | with_reducible exact o_lenL _ | with_reducible exact o_lenU _
    | with_reducible exact o_eqC0 _ | with_reducible exact o_neC0 _ | with_reducible exact o_eqC _ _ | with_reducible exact o_neC _ _ | with_reducible exact o_eqN _ _ | with_reducible exact o_neN _ _ | with_reducible exact o_eqLot _ _ | with_reducible exact o_neLot _ _
    | with_reducible exact o_slcC _ _ _ | with_reducible exact o_slcLot _ _ _ | with_reducible exact o_slcN _ _ _
    | with_reducible exact o_addT (by first | assumption | omega) | with_reducible exact o_lenT (by first | assumption | omega) | with_reducible exact o_slcT (by first | assumption | omega)
    | fail "stuck")
local macro_rules
  | `(tactic| simp_wf) => `(tactic| (simp only [startE, frz, frz1, gens, gensL, gensI, isVar, inOp, bl_abs, bl_sum, bl_min, bl_max, bl_sorted, bl_list, bl_tuple, bl_dict, bl_int, bl_str, bl_repr, bl_all, bl_any, bl_sset, bl_lset, bl_sortk, bl_isi, ml_join, ml_split, ml_count, ml_index, ml_replace, ml_rstrip, ml_upper, ml_endswith, ml_lcount, cond_true, cond_false, Bool.and_true, Bool.and_false, Bool.true_and, Bool.false_and, List.append_nil, List.nil_append, List.cons_append, List.getElem?_cons_succ, List.getElem?_cons_zero, List.set_cons_succ, List.set_cons_zero, Env.put, gd_true, List.length_cons, List.length_nil, Nat.reduceAdd, Nat.reduceLT, decide_true, bindT, bindA, putAll, R.ok_bind, wipeE, T.slots, own_int, own_bool, own_none, own_tx, own_str, own_calls, own_call, own_lot, own_box, own_num, own_tup, own_lst, own_dct, fresh_lst, fresh_dic, fresh_cmp0, fresh_cmp1, fresh_add, fresh_sub, fresh_mul, fresh_div, fresh_mod, fresh_var, fresh_cst, fresh_fn, fresh_b1, fresh_idx, fresh_slc, fresh_mt, fresh_tup, fresh_told, fresh_mix, fresh_mx, fresh_rev, fresh_cmp, fresh_and, fresh_or, fresh_not, restr, List.map_cons, List.map_nil, List.replicate, Nat.reduceSub, beq_self_eq_true]; try (first | with_reducible exact rfl | exact rfl)))
local macro_rules
  | `(tactic| decreasing_trivial) => `(tactic| first
    | ((with_reducible apply wp_asg); simp_wf; infer_instance; simp_wf)
    | ((with_reducible apply wp_asgT); simp_wf; infer_instance; simp_wf)
    | ((with_reducible apply wp_par); simp_wf; infer_instance; infer_instance; simp_wf; simp_wf)
    | ((with_reducible apply wp_exp); simp_wf; infer_instance)
    | ((with_reducible apply wp_ret); simp_wf; infer_instance)
    | ((with_reducible apply wp_if); simp_wf; infer_instance)
    | with_reducible refine wp_cont ?_
    | (refine wp_nil (thn_nx ?_))
    | with_reducible refine wp_nil ?_)
local macro_rules
  | `(tactic| clean_wf) => `(tactic| simp only [startE, List.length_cons, List.length_nil, Nat.reduceAdd, Nat.reduceSub, List.replicate, List.map_cons, List.map_nil, List.cons_append, List.nil_append])
def padT (a : List Nat) (n : Nat) : List Nat := a ++ List.replicate (n - a.length) 48
theorem padT_len {a : List Nat} {n : Nat} (h : a.length ≤ n) : (padT a n).length = n := by
  unfold padT
  rw [List.length_append, List.length_replicate]
  omega
theorem padT_get (a : List Nat) (n i : Nat) : (padT a n).getD i 48 = a.getD i 48 := by
  unfold padT
  rw [List.getD_eq_getElem?_getD, List.getD_eq_getElem?_getD]
  by_cases h : i < a.length
  · rw [List.getElem?_append_left h]
  · rw [List.getElem?_append_right (by omega), List.getElem?_replicate, List.getElem?_eq_none (l := a) (by omega)]
    split <;> rfl
/-- at how many beats two texts are unlike -/
def offN (a b : List Nat) : Nat := ((List.range (max a.length b.length)).filter fun i => decide (a.getD i 48 ≠ b.getD i 48)).length
theorem offN_comm (a b : List Nat) : offN a b = offN b a := by
  unfold offN
  rw [Nat.max_comm]
  congr 2
  funext i
  exact decide_eq_decide.mpr ⟨fun h e => h e.symm, fun h e => h e.symm⟩
theorem getD_at {x : List Nat} {i : Nat} (h : i < x.length) : x.getD i 48 = x[i] := by
  rw [List.getD_eq_getElem?_getD, List.getElem?_eq_getElem h]
  rfl
theorem zip_range (x y : List Nat) (h : x.length = y.length) : x.zip y = (List.range x.length).map fun i => (x.getD i 48, y.getD i 48) := by
  refine List.ext_getElem (by simp [h]) fun i h1 h2 => ?_
  rw [List.length_zip] at h1
  rw [List.getElem_zip, List.getElem_map, List.getElem_range, getD_at (show i < x.length by omega), getD_at (show i < y.length by omega)]
theorem off_pad {a b : List Nat} {n : Nat} (hn : max a.length b.length = n) : (((padT a n).zip (padT b n)).filter fun p => !decide ([p.1] = [p.2])).length = offN a b := by
  have e := zip_range (padT a n) (padT b n) (by rw [padT_len (by omega), padT_len (by omega)])
  rw [e, List.filter_map, List.length_map, padT_len (by omega)]
  unfold offN
  rw [hn]
  congr 2
  funext i
  show (!decide ([(padT a n).getD i 48] = [(padT b n).getD i 48])) = _
  rw [padT_get, padT_get]
  by_cases q : a.getD i 48 = b.getD i 48
  · rw [decide_eq_true (by rw [q]), decide_eq_false (fun z => z q)]
    rfl
  · rw [decide_eq_false (fun z => q (by injection z)), decide_eq_true q]
    rfl
theorem zip_txs (a b : List Nat) : zipD (a.map fun c => tx [c]) (b.map fun c => tx [c]) = (a.zip b).map fun p => PyData.tuple [tx [p.1], tx [p.2]] := by
  unfold zipD
  rw [List.zip_map, List.map_map]
  rfl
theorem pad_ev {c : C} {ρ : Env} {i j : Nat} {a : List Nat} {n : Nat} (ha : Env.get ρ i = .ok (tx a)) (hj : Env.get ρ j = .ok (.int (n : Int))) (hn : a.length ≤ n) (hs : n ≤ 100000) : ev c ρ (.bin .Add (.var i) (.bin .Mult (.cst (.str "0")) (.bin .Sub (.var j) (.b1 .len (.var i))))) = .ok (tx (padT a n)) := by
  have sz : SZ = 16000000 := rfl
  have e1 : b1D .len (tx a) = .ok (.int (a.length : Int)) := o_lenT (by omega)
  have e2 : binD .Mult (tx [48]) (.int ((n : Int) - (a.length : Int))) = .ok (tx (List.replicate (n - a.length) 48)) := by
    rw [o_mulT ⟨by omega, by omega, by show 1 * ((n : Int) - (a.length : Int)).toNat ≤ 16000000; omega⟩, rep_one, show ((n : Int) - (a.length : Int)).toNat = n - a.length by omega]
  have e3 : binD .Add (tx a) (tx (List.replicate (n - a.length) 48)) = .ok (tx (padT a n)) := o_addT (by rw [List.length_replicate]; omega)
  exact ev_bin (ev_varE ha) (ev_bin c_0 (ev_bin (ev_varE hj) (ev_b1 (ev_varE ha) (by rw [show needX .len (tx a) = false from rfl]; simp) e1) (o_subI _ _)) e2) e3
theorem off_ok {tb : Tab} (h : tb 43 = some f_off) (k : Nat) {a b : List Nat} (ha : a.length ≤ 100000) (hb : b.length ≤ 100000) : callN tb (k + 1) 43 [tx a, tx b] = .ok (.int (offN a b : Int)) := by
  have sz : SZ = 16000000 := rfl
  rw [callN_at h]
  refine run_of rfl ?_
  unfold f_off
  clean_wf
  have e1 : b1D .len (tx a) = .ok (.int (a.length : Int)) := o_lenT (by omega)
  have e2 : b1D .len (tx b) = .ok (.int (b.length : Int)) := o_lenT (by omega)
  decreasing_trivial
  obtain ⟨n, hn⟩ : ∃ n : Nat, max a.length b.length = n := ⟨_, rfl⟩
  rw [show max (a.length : Int) (b.length : Int) = (n : Int) by omega]
  refine wp_asg (by simp_wf) (pad_ev (n := n) (a := a) rfl rfl (by omega) (by omega)) (by simp_wf) ?_
  refine wp_asg (by simp_wf) (pad_ev (n := n) (a := b) rfl rfl (by omega) (by omega)) (by simp_wf) ?_
  have l1 := padT_len (a := a) (n := n) (by omega)
  have l2 := padT_len (a := b) (n := n) (by omega)
  have eo := off_pad hn
  generalize padT a n = A at *
  generalize padT b n = B at *
  refine wp_ret (by simp_wf) (ev_b1 (x := .list (((A.zip B).filter fun p => !decide ([p.1] = [p.2])).map fun _ => PyData.int 1)) ?_ rfl (o_lenLM _)) ?_
  · refine ev_cmp1M (L := A.zip B) (enc := fun p => PyData.tuple [tx [p.1], tx [p.2]]) ?_ ?_ fun p _ => ⟨_, rfl, ?_, fun _ => ev_cstE⟩
    · rw [← zip_txs]
      exact it_zip (ev_varE rfl) (ev_varE rfl) (seq_tx A) (seq_tx B)
    · rw [List.length_zip]
      omega
    · exact ev_cmpE (ev_varE rfl) (ev_varE rfl) (o_neT _ _)
  · rw [eo]
theorem loff_ok {tb : Tab} (h : tb 45 = some f__law_off) (k : Nat) {a b : List Nat} (ha : a.length ≤ 100000) (hb : b.length ≤ 100000) : callN tb (k + 1) 45 [tx a, tx b] = .ok (.int (offN a b : Int)) := by
  have sz : SZ = 16000000 := rfl
  rw [callN_at h]
  refine run_of rfl ?_
  unfold f__law_off
  clean_wf
  have e1 : b1D .len (tx a) = .ok (.int (a.length : Int)) := o_lenT (by omega)
  have e2 : b1D .len (tx b) = .ok (.int (b.length : Int)) := o_lenT (by omega)
  decreasing_trivial
  obtain ⟨n, hn⟩ : ∃ n : Nat, max a.length b.length = n := ⟨_, rfl⟩
  rw [show max (a.length : Int) (b.length : Int) = (n : Int) by omega]
  refine wp_asg (by simp_wf) (pad_ev (n := n) (a := a) rfl rfl (by omega) (by omega)) (by simp_wf) ?_
  refine wp_asg (by simp_wf) (pad_ev (n := n) (a := b) rfl rfl (by omega) (by omega)) (by simp_wf) ?_
  have l1 := padT_len (a := a) (n := n) (by omega)
  have l2 := padT_len (a := b) (n := n) (by omega)
  have g1 := padT_get a n
  have g2 := padT_get b n
  generalize padT a n = A at *
  generalize padT b n = B at *
  refine wp_ret (by simp_wf) (ev_b1 (x := .list (((List.range n).filter fun i => decide (a.getD i 48 ≠ b.getD i 48)).map fun i : Nat => PyData.int (i : Int))) ?_ rfl (o_lenLM _)) ?_
  · refine ev_cmp1M (L := List.range n) (enc := fun i : Nat => PyData.int (i : Int)) ?_ ?_ fun i hi => ⟨_, rfl, ?_, fun _ => ev_varE rfl⟩
    · have e := it_rng (c := ⟨callN tb k, true⟩) (ρ := [some (0, tx a), some (0, tx b), some (0, .int (n : Int)), some (0, tx A), some (0, tx B), none]) (a := .var 2) (n := (n : Int)) (ev_varE rfl) (by omega)
      rw [Int.toNat_natCast] at e
      exact e
    · rw [List.length_range]
      omega
    · have hi := List.mem_range.mp hi
      have i1 : idxD (tx A) (.int (i : Int)) = .ok (tx [a.getD i 48]) := o_idxT (by omega) (by rw [L2.atI_nat (List.getElem?_eq_getElem (show i < A.length by omega)), ← g1, getD_at])
      have i2 : idxD (tx B) (.int (i : Int)) = .ok (tx [b.getD i 48]) := o_idxT (by omega) (by rw [L2.atI_nat (List.getElem?_eq_getElem (show i < B.length by omega)), ← g2, getD_at])
      refine ev_cmpE (ev_idx (ev_varE rfl) (ev_varE rfl) i1) (ev_idx (ev_varE rfl) (ev_varE rfl) i2) ?_
      rw [o_neT]
      congr 1
      by_cases q : a.getD i 48 = b.getD i 48
      · rw [decide_eq_true (by rw [q]), decide_eq_false (fun z => z q)]
        rfl
      · rw [decide_eq_false (fun z => q (by injection z)), decide_eq_true q]
        rfl
  · show R.ok (Fl.rt (PyData.int _)) = R.ok (Fl.rt (PyData.int (offN a b : Int)))
    unfold offN
    rw [hn]
/-! ### nearest -/
def offD (p : Int × List Cl) : PyData := .tuple [.int p.1, callsD p.2]
theorem ordd_off : Ordd offD 3 := ordd_pair ordd_int ordd_calls
theorem knd_off : Knd offD := .inl fun _ => rfl
def offsC (lot : List Box) (w m : Nat) (t : List Nat) : List (Int × List Cl) := (allC (lot.map (·.1)) w m).map fun cs => ((offN t (hearC lot cs) : Int), cs)
def minOf (l : List (Int × List Cl)) : Int × List Cl := match l with
  | [] => (0, [])
  | x :: r => minE offD x r
theorem min_off {l : List (Int × List Cl)} (h : l ≠ []) : b1D .min (.list (l.map offD)) = .ok (offD (minOf l)) := by
  cases l with
  | nil => exact absurd rfl h
  | cons x r => exact min_ok ordd_off (by decide) knd_off x r
theorem offsC_ne (lot : List Box) (w m : Nat) (t : List Nat) : offsC lot w m t ≠ [] := by
  intro z
  have h := nil_allC (lot.map (·.1)) w m
  unfold offsC at z
  rw [List.map_eq_nil_iff] at z
  rw [z] at h
  exact absurd h List.not_mem_nil
theorem hearC_len {lot : List Box} (hl : LotOk lot) {cs : List Cl} (hc : CallsOk lot cs) : (hearC lot cs).length ≤ 10000 := by
  unfold hearC
  rw [hearL_len]
  have : mx (timesL lot cs) ≤ 9999 := by
    rcases fmax_mem (timesL lot cs) (-1) with q | q
    · show (timesL lot cs).foldl max (-1) ≤ 9999
      omega
    · obtain ⟨c, q2, q3⟩ := List.mem_flatMap.mp q
      obtain ⟨i, q4, q5⟩ := mem_tapsIn.mp q3
      obtain ⟨ns, hm⟩ := hc.box c q2
      have h1 := beatsOf_len hl hm
      have h2 := (hc.beg c q2).2
      have h3 := (List.getElem?_eq_some_iff.mp q4).1
      have q5 : mx (timesL lot cs) = c.2 + (i : Int) := q5
      omega
  omega
theorem nearest_ok {tb : Tab} (h : HasM tb) (h43 : tb 43 = some f_off) (h44 : tb 44 = some f_nearest) {lot : List Box} (hl : LotOk lot) (hlot : lot.length ≤ 6) {w : Nat} (hw : w ≤ 12) {m : Nat} (hm : m ≤ 3) {t : List Nat} (ht : t.length ≤ 100000) {d : Nat} (hd : m + 2 < d) : callN tb d 44 [lotD lot, .int (m : Int), .int (w : Int), tx t] = .ok (offD (minOf (offsC lot w m t))) := by
  match d, hd with
  | d + 3, hd =>
    rw [callN_at h44]
    refine run_of rfl ?_
    unfold f_nearest
    clean_wf
    have e36 : callN tb (d + 2) 36 [lotD lot, .int (m : Int), .int (w : Int)] = .ok (.tuple ((allC (lot.map (·.1)) w m).map callsD)) := all_calls_ok h.h35 h.h36 hlot hw hm (by omega)
    have hlen := allC_len (ns := lot.map (·.1)) (by rw [List.length_map]; exact hlot) hw hm
    refine wp_ret (by simp_wf) (ev_b1 (x := .list ((offsC lot w m t).map offD)) ?_ rfl (min_off (offsC_ne lot w m t))) rfl
    unfold offsC
    rw [List.map_map]
    refine ev_cmp0M (L := allC (lot.map (·.1)) w m) (enc := callsD) ?_ ?_ fun cs hcs => ?_
    · infer_instance
    · exact Nat.le_trans hlen (by decide)
    · refine ⟨_, rfl, ?_⟩
      have hok := (allC_ok (by omega) hm hcs).2
      have e33 : callN tb (d + 2) 33 [lotD lot, callsD cs] = .ok (tx (hearC lot cs)) := heard_ok h.toHasH d hl hok
      have e43 : callN tb (d + 2) 43 [tx t, tx (hearC lot cs)] = .ok (.int (offN t (hearC lot cs) : Int)) := off_ok h43 (d + 1) ht (Nat.le_trans (hearC_len hl hok) (by decide))
      exact ev_tup (evs_c (ev_fn rfl (evs_c (ev_varE rfl) (evs_c (ev_fn rfl (evs_c (ev_varE rfl) (evs_c (ev_varE rfl) evs_n)) e33) evs_n)) e43) (evs_c (ev_varE rfl) evs_n))
end TD
/-! Data is itself; ways that meet again. -/
namespace TD
open PySem
mutual
theorem eqv_self : ∀ (d : PyData), d.plain = true → PyData.eqv d d = true
  | .none, _ => rfl
  | .bool b, _ => (nice_bool.eqv b b).mpr rfl
  | .int i, _ => (nice_int.eqv i i).mpr rfl
  | .str s, _ => (nice_str.eqv s s).mpr rfl
  | .list xs, h => eqvAll_self xs (by simpa [PyData.plain] using h)
  | .tuple xs, h => eqvAll_self xs (by simpa [PyData.plain] using h)
  | .dict _, h => by simp [PyData.plain] at h
theorem eqvAll_self : ∀ (xs : List PyData), PyData.plainAll xs = true → PyData.eqvAll xs xs = true
  | [], _ => rfl
  | x :: r, h => by
    simp only [PyData.plainAll, Bool.and_eq_true] at h
    show (PyData.eqv x x && PyData.eqvAll r r) = true
    rw [eqv_self x h.1, eqvAll_self r h.2]
    rfl
end
theorem o_eqSelf {d : PyData} (h : dOk 9 d = true) : cmpB .Eq d d = .ok true := by
  show gd (dOk 9 d && dOk 9 d) (R.ok (PyData.eqv d d)) = _
  rw [h, eqv_self d (dOk_plain 9 d h).1]
  rfl
theorem o_neSelf {d : PyData} (h : dOk 9 d = true) : cmpB .NotEq d d = .ok false := by
  show notR (gd (dOk 9 d && dOk 9 d) (R.ok (PyData.eqv d d))) = _
  rw [h, eqv_self d (dOk_plain 9 d h).1]
  rfl
section
variable {c : C} {ρ ρ2 : Env} {e : E} {Q : R Fl → Prop} {r : Ss}
/-- two ways that meet again -/
theorem wp_ifJ {k : Bool} {s1 s2 : Ss} (J : Env → Prop) (hf : frz (gens e) ρ = ρ2) (h1 : ev c ρ2 e = .ok (.bool k)) (h2 : k = true → Wp (exs c ρ2 s1) (fun x => ∃ ρ', x = .ok (.nx ρ') ∧ J ρ')) (h3 : k = false → Wp (exs c ρ2 s2) (fun x => ∃ ρ', x = .ok (.nx ρ') ∧ J ρ')) (h4 : ∀ ρ', J ρ' → Wp (exs c ρ' r) Q) : Wp (exs c ρ (.cons (.ife e s1 s2) r)) Q := by
  refine wp_if hf h1 (fun z => ?_) (fun z => ?_)
  · obtain ⟨ρ', e1, j⟩ := (h2 z).h
    refine ⟨?_⟩
    rw [e1]
    exact h4 ρ' j
  · obtain ⟨ρ', e1, j⟩ := (h3 z).h
    refine ⟨?_⟩
    rw [e1]
    exact h4 ρ' j
end
theorem filter_none {α : Type} (p : α → Bool) : ∀ l : List α, (l.filter fun x => !p x).isEmpty = l.all p
  | [] => rfl
  | a :: r => by
    rw [List.filter_cons, List.all_cons]
    cases p a with
    | true => exact filter_none p r
    | false => rfl
theorem filter_some {α : Type} (p : α → Bool) : ∀ l : List α, (!(l.filter p).isEmpty) = l.any p
  | [] => rfl
  | a :: r => by
    rw [List.filter_cons, List.any_cons]
    cases p a with
    | true => rfl
    | false => exact filter_some p r
theorem ev_toldE {call : Nat → List PyData → R PyData} {ρ : Env} {f : Nat} {es : Es} {xs : List PyData} {d : PyData} (h1 : evs ⟨call, true⟩ ρ es = .ok xs) (h2 : toldR (call f xs) = .ok d) : ev ⟨call, true⟩ ρ (.told f es) = .ok d := by
  show (evs ⟨call, true⟩ ρ es >>= fun xs => gd true (toldR (call f xs))) = _
  rw [h1]
  exact h2
theorem toldR_ok (d : PyData) : toldR (.ok d) = .ok (.tuple [.str "told", d]) := rfl
theorem idx_at {α : Type} {enc : α → PyData} {L : List α} {k : Nat} (h : k < L.length) : idxD (.list (L.map enc)) (.int (k : Int)) = .ok (enc L[k]) := by
  show op (L2.atI (L.map enc) (k : Int)) = _
  rw [L2.atI_nat (show (L.map enc)[k]? = some (enc L[k]) by rw [List.getElem?_map, List.getElem?_eq_getElem h]; rfl)]
  rfl
theorem cut_len {α : Type} (xs : List α) (lo hi : Option Int) : (cut xs lo hi).length ≤ xs.length := by
  unfold cut
  simp only [List.length_take, List.length_drop]
  omega
end TD
/-! How far off texts are, as a measure. -/
namespace TD
open PySem
local macro_rules
  | `(tactic| infer_instance) => `(tactic| first
    | with_reducible assumption
    | with_reducible exact c_1 | with_reducible exact c_0 | with_reducible exact c_e | with_reducible exact c_000 | with_reducible exact c_tup0 | with_reducible exact c_lst0
    | with_reducible exact ev_cstE
    | with_reducible exact ev_nonE
    | with_reducible exact ev_dicE
    | ((with_reducible apply ev_varE); exact rfl)
    | ((with_reducible apply ev_bin); infer_instance; infer_instance; infer_instance)
    | ((with_reducible apply ev_negE); infer_instance)
    | ((with_reducible apply ev_notE); infer_instance)
    | ((with_reducible apply ev_one); infer_instance)
    | ((with_reducible apply ev_andE); infer_instance; intro _; infer_instance)
    | ((with_reducible apply ev_orE); infer_instance; intro _; infer_instance)
    | ((with_reducible apply ev_cmpE); infer_instance; infer_instance; infer_instance)
    | ((with_reducible apply ev_chnE); infer_instance; infer_instance; infer_instance; (intro _; infer_instance); (intro _; infer_instance))
    | ((with_reducible apply ev_tup); infer_instance)
    | ((with_reducible apply ev_lst); infer_instance)
    | ((with_reducible apply ev_idx); infer_instance; infer_instance; infer_instance)
    | ((with_reducible apply ev_slc); infer_instance; infer_instance; exact rfl; infer_instance; exact rfl; infer_instance)
    | ((with_reducible apply ev_fn); exact rfl; infer_instance; infer_instance)
    | ((with_reducible apply ev_b1); infer_instance; exact rfl; infer_instance)
    | ((with_reducible apply ev_mxE); infer_instance; infer_instance)
    | ((with_reducible apply ev_mt); infer_instance; infer_instance; infer_instance)
    | ((with_reducible apply ev_mixE); exact rfl; infer_instance; exact ⟨by decide, by decide⟩)
    | with_reducible exact evs_n
    | ((with_reducible apply evs_c); infer_instance; infer_instance)
    | ((with_reducible apply it_val); infer_instance; exact rfl; exact rfl)
    | ((with_reducible apply it_enm); infer_instance; exact rfl)
    | with_reducible exact o_addI _ _ | with_reducible exact o_subI _ _ | with_reducible exact o_divI ⟨by decide, by decide⟩ | with_reducible exact o_modI (by decide)
    | with_reducible exact o_eqI _ _ | with_reducible exact o_neI _ _ | with_reducible exact o_ltI _ _ | with_reducible exact o_gtI _ _ | with_reducible exact o_leI _ _ | with_reducible exact o_geI _ _
    | with_reducible exact o_eqB _ _ | with_reducible exact o_neB _ _
    | with_reducible exact o_eqT _ _ | with_reducible exact o_neT _ _ | with_reducible exact o_inTx _ _
    | with_reducible exact o_lenC _ | with_reducible exact o_lenLot _ | with_reducible exact o_lenN _ | with_reducible exact o_lenLM _ | with_reducible exact o_lenUM _ | with_reducible exact o_lenL _ | with_reducible exact o_lenU _
    | with_reducible exact o_eqC0 _ | with_reducible exact o_neC0 _ | with_reducible exact o_eqC _ _ | with_reducible exact o_neC _ _ | with_reducible exact o_eqN _ _ | with_reducible exact o_neN _ _ | with_reducible exact o_eqLot _ _ | with_reducible exact o_neLot _ _
    | with_reducible exact o_slcC _ _ _ | with_reducible exact o_slcLot _ _ _ | with_reducible exact o_slcN _ _ _
    | with_reducible exact o_addT (by first | assumption | omega) | with_reducible exact o_lenT (by first | assumption | omega) | with_reducible exact o_slcT (by first | assumption | omega)
    | fail "stuck")
local macro_rules
  | `(tactic| simp_wf) => `(tactic| (simp only [startE, frz, frz1, gens, gensL, gensI, isVar, inOp, bl_abs, bl_sum, bl_min, bl_max, bl_sorted, bl_list, bl_tuple, bl_dict, bl_int, bl_str, bl_repr, bl_all, bl_any, bl_sset, bl_lset, bl_sortk, bl_isi, ml_join, ml_split, ml_count, ml_index, ml_replace, ml_rstrip, ml_upper, ml_endswith, ml_lcount, cond_true, cond_false, Bool.and_true, Bool.and_false, Bool.true_and, Bool.false_and, List.append_nil, List.nil_append, List.cons_append, List.getElem?_cons_succ, List.getElem?_cons_zero, List.set_cons_succ, List.set_cons_zero, Env.put, gd_true, List.length_cons, List.length_nil, Nat.reduceAdd, Nat.reduceLT, decide_true, bindT, bindA, putAll, R.ok_bind, wipeE, T.slots, own_int, own_bool, own_none, own_tx, own_str, own_calls, own_call, own_lot, own_box, own_num, own_tup, own_lst, own_dct, fresh_lst, fresh_dic, fresh_cmp0, fresh_cmp1, fresh_add, fresh_sub, fresh_mul, fresh_div, fresh_mod, fresh_var, fresh_cst, fresh_fn, fresh_b1, fresh_idx, fresh_slc, fresh_mt, fresh_tup, fresh_told, fresh_mix, fresh_mx, fresh_rev, fresh_cmp, fresh_and, fresh_or, fresh_not, restr, List.map_cons, List.map_nil, List.replicate, Nat.reduceSub, beq_self_eq_true]; try (first | with_reducible exact rfl | exact rfl)))
local macro_rules
  | `(tactic| decreasing_trivial) => `(tactic| first
    | ((with_reducible apply wp_asg); simp_wf; infer_instance; simp_wf)
    | ((with_reducible apply wp_asgT); simp_wf; infer_instance; simp_wf)
    | ((with_reducible apply wp_par); simp_wf; infer_instance; infer_instance; simp_wf; simp_wf)
    | ((with_reducible apply wp_exp); simp_wf; infer_instance)
    | ((with_reducible apply wp_ret); simp_wf; infer_instance)
    | ((with_reducible apply wp_if); simp_wf; infer_instance)
    | with_reducible refine wp_cont ?_
    | (refine wp_nil (thn_nx ?_))
    | with_reducible refine wp_nil ?_)
local macro_rules
  | `(tactic| clean_wf) => `(tactic| simp only [startE, List.length_cons, List.length_nil, Nat.reduceAdd, Nat.reduceSub, List.replicate, List.map_cons, List.map_nil, List.cons_append, List.nil_append])
def df (a b : List Nat) (i : Nat) : Bool := decide (a.getD i 48 ≠ b.getD i 48)
theorem getD_out {a : List Nat} {i : Nat} (h : a.length ≤ i) : a.getD i 48 = 48 := by
  rw [List.getD_eq_getElem?_getD, List.getElem?_eq_none h]
  rfl
/-- counted as far as one likes -/
theorem offN_far {a b : List Nat} {N : Nat} (ha : a.length ≤ N) (hb : b.length ≤ N) : offN a b = ((List.range N).filter (df a b)).length := by
  have h : ∀ k, ((List.range (max a.length b.length + k)).filter (df a b)).length = offN a b := by
    intro k
    induction k with
    | zero => rfl
    | succ k ih =>
      rw [← Nat.add_assoc, List.range_succ, List.filter_append, List.length_append, ih]
      have : df a b (max a.length b.length + k) = false := by
        unfold df
        rw [getD_out (by omega), getD_out (by omega)]
        rfl
      simp [this]
  have := h (N - max a.length b.length)
  rw [show max a.length b.length + (N - max a.length b.length) = N by omega] at this
  exact this.symm
theorem filter_or_le {p q r : Nat → Bool} (h : ∀ i, p i = true → q i = true ∨ r i = true) : ∀ l : List Nat, (l.filter p).length ≤ (l.filter q).length + (l.filter r).length
  | [] => Nat.zero_le _
  | x :: l => by
    have ih := filter_or_le h l
    simp only [List.filter_cons]
    have hx := h x
    cases hp : p x <;> cases hq : q x <;> cases hr : r x <;> simp_all <;> omega
theorem offN_tri (a b c : List Nat) : offN a b ≤ offN a c + offN c b := by
  have hN : a.length ≤ a.length + b.length + c.length ∧ b.length ≤ a.length + b.length + c.length ∧ c.length ≤ a.length + b.length + c.length := by omega
  obtain ⟨h1, h2, h3⟩ := hN
  rw [offN_far h1 h2, offN_far h1 h3, offN_far h3 h2]
  refine filter_or_le (fun i hi => ?_) _
  unfold df at *
  by_cases q : a.getD i 48 = c.getD i 48
  · right
    have := of_decide_eq_true hi
    exact decide_eq_true fun z => this (q.trans z)
  · exact .inl (decide_eq_true q)
theorem offN_zero {a b : List Nat} : offN a b = 0 ↔ ∀ i, a.getD i 48 = b.getD i 48 := by
  constructor
  · intro h i
    rw [offN_far (N := a.length + b.length + i + 1) (by omega) (by omega), List.length_eq_zero_iff, List.filter_eq_nil_iff] at h
    have := h i (List.mem_range.mpr (by omega))
    unfold df at this
    simpa using this
  · intro h
    unfold offN
    rw [List.length_eq_zero_iff, List.filter_eq_nil_iff]
    intro i _ z
    exact of_decide_eq_true z (h i)
theorem pad_same (a : List Nat) (n i : Nat) : (a ++ List.replicate n 48).getD i 48 = a.getD i 48 := by
  rw [List.getD_eq_getElem?_getD, List.getD_eq_getElem?_getD]
  by_cases h : i < a.length
  · rw [List.getElem?_append_left h]
  · rw [List.getElem?_append_right (by omega), List.getElem?_replicate, List.getElem?_eq_none (l := a) (by omega)]
    split <;> rfl
/-! ### without the quiet at the end -/
def rsL (a : List Nat) : List Nat := (a.reverse.dropWhile (fun c => c == 48)).reverse
theorem rs_split (a : List Nat) : ∃ k, a = rsL a ++ List.replicate k 48 := by
  refine ⟨(a.reverse.takeWhile (fun c => c == 48)).length, ?_⟩
  have h1 : a.reverse.takeWhile (fun c => c == 48) ++ a.reverse.dropWhile (fun c => c == 48) = a.reverse := List.takeWhile_append_dropWhile
  have h2 : a.reverse.takeWhile (fun c => c == 48) = List.replicate (a.reverse.takeWhile (fun c => c == 48)).length 48 := by
    refine List.eq_replicate_iff.mpr ⟨rfl, fun x hx => ?_⟩
    have := List.all_takeWhile (p := fun c : Nat => c == 48) (l := a.reverse)
    have := List.all_eq_true.mp this x hx
    simpa using this
  have h3 := congrArg List.reverse h1
  rw [List.reverse_append, List.reverse_reverse, h2, List.reverse_replicate] at h3
  exact h3.symm
theorem rs_last (a : List Nat) : ∀ x, (rsL a).getLast? = some x → x ≠ 48 := by
  intro x h
  unfold rsL at h
  rw [List.getLast?_reverse] at h
  intro e
  have := List.head?_dropWhile_not (p := fun c : Nat => c == 48) (l := a.reverse)
  rw [h] at this
  simp [e] at this
theorem rs_get (a : List Nat) (i : Nat) : (rsL a).getD i 48 = a.getD i 48 := by
  obtain ⟨k, e⟩ := rs_split a
  have := pad_same (rsL a) k i
  rw [← e] at this
  exact this.symm
theorem rs_le {x y : List Nat} (hy : ∀ z, y.getLast? = some z → z ≠ 48) (h : ∀ i, x.getD i 48 = y.getD i 48) : y.length ≤ x.length := by
  rcases Nat.lt_or_ge x.length y.length with q | q
  · exfalso
    have hl : y.getLast? = some (y[y.length - 1]'(by omega)) := by
      rw [List.getLast?_eq_getElem?, List.getElem?_eq_getElem (by omega)]
    refine hy _ hl ?_
    have := h (y.length - 1)
    rw [getD_out (by omega), getD_at (show y.length - 1 < y.length by omega)] at this
    exact this.symm
  · exact q
theorem rs_iff (a b : List Nat) : rsL a = rsL b ↔ ∀ i, a.getD i 48 = b.getD i 48 := by
  constructor
  · intro h i
    rw [← rs_get a, ← rs_get b, h]
  · intro h
    have h' : ∀ i, (rsL a).getD i 48 = (rsL b).getD i 48 := fun i => by rw [rs_get, rs_get, h]
    have l1 := rs_le (rs_last b) h'
    have l2 := rs_le (rs_last a) fun i => (h' i).symm
    refine List.ext_getElem (by omega) fun i h1 h2 => ?_
    have := h' i
    rw [getD_at h1, getD_at h2] at this
    exact this
theorem rstrip_ok {a : List Nat} (h : a.length ≤ SZ) : mtD .rstrip (tx a) [tx [48]] = .ok (tx (rsL a)) := by
  show gd (decide ((sT a).length ≤ SZ)) (R.ok (PyData.str (Txt.rstripChars (sT a) (sT [48])))) = _
  rw [len_sT, decide_eq_true h]
  show R.ok (PyData.str (Txt.rstripChars (sT a) (sT [48]))) = R.ok (PyData.str (sT (rsL a)))
  congr 2
  unfold Txt.rstripChars
  rw [PyProof.Rows.stripBy_eq]
  have hg : (sT [48]).cps.contains = fun c : Nat => c == 48 := by
    funext c
    simp [sT]
    first
      | rfl
      | (by_cases q : c = 48 <;> simp [q])
  rw [hg]
  have hlo : stripLo (fun c : Nat => c == 48) false (sT a) = 0 := rfl
  have hcp : (sT a).cps.toList = a := chs_sT a
  have hhi : stripHi (fun c : Nat => c == 48) true (sT a) 0 = a.length - (a.reverse.takeWhile fun c => c == 48).length := by
    unfold stripHi
    rw [hcp, len_sT]
    rfl
  rw [hlo, hhi]
  have h1 : a.reverse.takeWhile (fun c => c == 48) ++ a.reverse.dropWhile (fun c => c == 48) = a.reverse := List.takeWhile_append_dropWhile
  have h3 := congrArg List.reverse h1
  rw [List.reverse_append, List.reverse_reverse] at h3
  have h4 : a.take (a.length - (a.reverse.takeWhile fun c => c == 48).length) = rsL a := by
    have hl : a.length = (rsL a).length + (a.reverse.takeWhile fun c => c == 48).length := by
      have := congrArg List.length h3
      rw [List.length_append, List.length_reverse, List.length_reverse] at this
      unfold rsL
      rw [List.length_reverse]
      omega
    rw [show a.length - (a.reverse.takeWhile fun c => c == 48).length = (rsL a).length by omega]
    have t : ((a.reverse.dropWhile fun c => c == 48).reverse ++ (a.reverse.takeWhile fun c => c == 48).reverse).take (rsL a).length = (a.reverse.dropWhile fun c => c == 48).reverse := List.take_left' rfl
    rw [h3] at t
    exact t
  have h5 : Builtin.Str.strSub (sT a) 0 (a.length - (a.reverse.takeWhile fun c => c == 48).length) = sT (a.take (a.length - (a.reverse.takeWhile fun c => c == 48).length)) := by
    unfold Builtin.Str.strSub sT
    simp
  rw [h5, h4]
/-! ### one beat changed -/
theorem filter_one {p q : Nat → Bool} {at_ : Nat} (ho : ∀ i, i ≠ at_ → p i = q i) (hx : q at_ = !p at_) {N : Nat} (hN : at_ < N) : ((List.range N).filter q).length + cond (p at_) 1 0 = ((List.range N).filter p).length + cond (p at_) 0 1 := by
  obtain ⟨l1, l2, e⟩ := List.append_of_mem (List.mem_range.mpr hN)
  have nd := List.nodup_range (n := N)
  rw [e] at nd ⊢
  have n1 := List.nodup_append.mp nd
  have n2 := List.nodup_cons.mp n1.2.1
  have c1 : l1.filter q = l1.filter p := List.filter_congr fun i hi => (ho i (fun z => n1.2.2 i hi at_ List.mem_cons_self z)).symm
  have c2 : l2.filter q = l2.filter p := List.filter_congr fun i hi => (ho i (fun z => n2.1 (by rw [← z]; exact hi))).symm
  rw [List.filter_append, List.filter_append, List.filter_cons, List.filter_cons, c1, c2, hx]
  cases p at_ <;> simp <;> omega
theorem set_get {a : List Nat} {k i v : Nat} (hk : k < a.length) : (a.set k v).getD i 48 = if i = k then v else a.getD i 48 := by
  rw [List.getD_eq_getElem?_getD, List.getD_eq_getElem?_getD]
  by_cases h : i = k
  · subst h
    rw [List.getElem?_set_self hk, if_pos rfl]
    rfl
  · rw [List.getElem?_set_ne (fun z => h z.symm), if_neg h]
theorem off_set {a : List Nat} {k v : Nat} (hk : k < a.length) (hv : v ≠ a.getD k 48) : offN a (a.set k v) = 1 := by
  have h := filter_one (p := fun _ => false) (q := df a (a.set k v)) (at_ := k) (fun i hi => ?_) ?_ hk
  · rw [offN_far (N := a.length) (Nat.le_refl _) (by rw [List.length_set]; exact Nat.le_refl _)]
    have z : ((List.range a.length).filter fun _ => false).length = 0 := by simp
    rw [z] at h
    simpa using h
  · unfold df
    rw [set_get hk, if_neg hi]
    simp
  · unfold df
    rw [set_get hk, if_pos rfl]
    simpa using fun z => hv z.symm
theorem off_flip {a b : List Nat} {k v : Nat} (hk : k < a.length) (hv : v ≠ a.getD k 48) (h1 : v = 48 ∨ v = 49) (h2 : a.getD k 48 = 48 ∨ a.getD k 48 = 49) (h3 : b.getD k 48 = 48 ∨ b.getD k 48 = 49) : (offN (a.set k v) b : Int) - (offN a b : Int) = 1 ∨ (offN (a.set k v) b : Int) - (offN a b : Int) = -1 := by
  have h := filter_one (p := df a b) (q := df (a.set k v) b) (at_ := k) (fun i hi => ?_) ?_ (show k < max a.length b.length by omega)
  · rw [offN_far (a := a.set k v) (b := b) (N := max a.length b.length) (by rw [List.length_set]; omega) (by omega), offN_far (a := a) (b := b) (N := max a.length b.length) (by omega) (by omega)]
    cases hq : df a b k <;> rw [hq] at h <;> simp only [cond_true, cond_false] at h <;> omega
  · unfold df
    rw [set_get hk, if_neg hi]
  · unfold df
    rw [set_get hk, if_pos rfl]
    by_cases q : v = b.getD k 48
    · have e1 : decide (v ≠ b.getD k 48) = false := decide_eq_false (fun z => z q)
      have e2 : decide (a.getD k 48 ≠ b.getD k 48) = true := decide_eq_true (fun z => hv (q.trans z.symm))
      rw [e1, e2]
      rfl
    · have this : a.getD k 48 = b.getD k 48 := by omega
      have e1 : decide (v ≠ b.getD k 48) = true := decide_eq_true q
      have e2 : decide (a.getD k 48 ≠ b.getD k 48) = false := decide_eq_false (fun z => z this)
      rw [e1, e2]
      rfl
theorem cut_set {a : List Nat} {k : Nat} (v : Nat) (hk : k < a.length) : cut a none (some (k : Int)) ++ [v] ++ cut a (some ((k : Int) + 1)) none = a.set k v := by
  have e := cut_drop a (k + 1)
  rw [show ((k + 1 : Nat) : Int) = (k : Int) + 1 by omega] at e
  rw [cut_take, e, List.set_eq_take_append_cons_drop, if_pos hk, List.append_assoc]
  rfl
/-! ### the least pair -/
theorem lex_tail (x y : PyData) (ha : PySem.W.alike x y = true) : PyProof.Rows.lexLt PyProof.Rows.itemOrd (PySem.W.keyToks x ++ [.inl 0]) (PySem.W.keyToks y ++ [.inl 0]) = PyProof.Rows.lexLt PyProof.Rows.itemOrd (PySem.W.keyToks x) (PySem.W.keyToks y) := by
  cases q : PyData.eqv x y with
  | true =>
    rw [(PySem.W.toks_eqv x y ha).1 q, PyProof.Rows.lex_irrefl, PyProof.Rows.lex_irrefl]
  | false => exact (PySem.W.toks_eqv x y ha).2 q _ _
theorem toks_off (p : Int × List Cl) : PySem.W.keyToks (offD p) = .inl 1 :: .inl p.1 :: .inl 1 :: (PySem.W.keyToks (callsD p.2) ++ [.inl 0]) := by
  show PySem.W.keyToksAll [PyData.int p.1, callsD p.2] = _
  rw [PySem.W.toks_all_cons, PySem.W.toks_all_cons]
  rfl
theorem off_fst {p q : Int × List Cl} (h : leE offD p q = true) : p.1 ≤ q.1 := by
  have h : (!PyProof.Rows.lexLt PyProof.Rows.itemOrd (PySem.W.keyToks (offD q)) (PySem.W.keyToks (offD p))) = true := h
  rw [toks_off, toks_off, PyProof.Rows.lex_self] at h
  by_cases z : q.1 < p.1
  · exfalso
    have : PyProof.Rows.lexLt PyProof.Rows.itemOrd (.inl q.1 :: .inl 1 :: (PySem.W.keyToks (callsD q.2) ++ [.inl 0])) (.inl p.1 :: .inl 1 :: (PySem.W.keyToks (callsD p.2) ++ [.inl 0])) = true := PyProof.Rows.lex_true.mpr (.inl (decide_eq_true z))
    rw [this] at h
    cases h
  · omega
theorem off_snd {p q : Int × List Cl} (h : leE offD p q = true) (e : p.1 = q.1) : leE callsD p.2 q.2 = true := by
  have h : (!PyProof.Rows.lexLt PyProof.Rows.itemOrd (PySem.W.keyToks (offD q)) (PySem.W.keyToks (offD p))) = true := h
  rw [toks_off, toks_off, e, PyProof.Rows.lex_self, PyProof.Rows.lex_self, PyProof.Rows.lex_self, lex_tail _ _ (ordd_calls.al _ _)] at h
  exact h
/-- the least of all, and where it is first met -/
theorem near_first {lot : List Box} {w m : Nat} {t : List Nat} : ∃ j, ∃ hj : j < (allC (lot.map (·.1)) w m).length, (minOf (offsC lot w m t)).2 = (allC (lot.map (·.1)) w m)[j] ∧ ((allC (lot.map (·.1)) w m).map fun cs => (offN (hearC lot cs) t : Int)).findIdx? (fun z => z == (minOf (offsC lot w m t)).1) = some j ∧ ∀ cs ∈ allC (lot.map (·.1)) w m, (minOf (offsC lot w m t)).1 ≤ (offN (hearC lot cs) t : Int) := by
  have hne := offsC_ne lot w m t
  have hpw : (allC (lot.map (·.1)) w m).Pairwise fun a b => leE callsD a b = true := sortE_pw _
  obtain ⟨x, r, e⟩ := List.exists_cons_of_ne_nil hne
  have e0 : minOf (offsC lot w m t) = minE offD x r := by
    rw [e]
    rfl
  have hmem : minOf (offsC lot w m t) ∈ offsC lot w m t := by
    rw [e0, e]
    exact minE_mem r x
  have hle : ∀ y ∈ offsC lot w m t, leE offD (minOf (offsC lot w m t)) y = true := by
    intro y hy
    rw [e0]
    rw [e] at hy
    obtain ⟨h1, h2⟩ := minE_le (e := offD) r x
    rcases List.mem_cons.mp hy with rfl | hy
    · exact h1
    · exact h2 y hy
  generalize minOf (offsC lot w m t) = M at *
  have hle2 : ∀ cs ∈ allC (lot.map (·.1)) w m, leE offD M ((offN t (hearC lot cs) : Int), cs) = true := fun cs hcs => hle _ (List.mem_map.mpr ⟨cs, hcs, rfl⟩)
  obtain ⟨c0, hc0, ec0⟩ := List.mem_map.mp hmem
  have hmin : ∀ cs ∈ allC (lot.map (·.1)) w m, M.1 ≤ (offN (hearC lot cs) t : Int) := fun cs hcs => by
    have := off_fst (hle2 cs hcs)
    rw [offN_comm] at this
    exact this
  have hex : ∃ y ∈ (allC (lot.map (·.1)) w m).map fun cs => (offN (hearC lot cs) t : Int), (y == M.1) = true := by
    refine ⟨_, List.mem_map.mpr ⟨c0, hc0, rfl⟩, ?_⟩
    rw [← ec0, offN_comm]
    exact beq_self_eq_true _
  obtain ⟨j, hj⟩ := Option.isSome_iff_exists.mp (List.findIdx?_isSome.trans (List.any_eq_true.mpr hex))
  obtain ⟨h1, h2, h3⟩ := List.findIdx?_eq_some_iff_getElem.mp hj
  have hjl : j < (allC (lot.map (·.1)) w m).length := by
    rw [List.length_map] at h1
    exact h1
  refine ⟨j, hjl, ?_, hj, hmin⟩
  have hval : (offN (hearC lot (allC (lot.map (·.1)) w m)[j]) t : Int) = M.1 := by
    rw [List.getElem_map] at h2
    simpa using h2
  obtain ⟨i, hi, ei⟩ := List.getElem_of_mem hc0
  have hji : j ≤ i := by
    rcases Nat.lt_or_ge i j with z | z
    · exfalso
      have := h3 i z
      rw [List.getElem_map, ei] at this
      rw [← ec0, offN_comm] at this
      simp at this
    · exact z
  have ec2 : M.2 = c0 := by rw [← ec0]
  have s1 : leE callsD (allC (lot.map (·.1)) w m)[j] M.2 = true := by
    rw [ec2, ← ei]
    rcases Nat.lt_or_ge j i with z | z
    · exact List.pairwise_iff_getElem.mp hpw j i hjl hi z
    · have : j = i := by omega
      subst this
      exact leE_refl _
  have s2 : leE callsD M.2 (allC (lot.map (·.1)) w m)[j] = true := by
    refine off_snd (hle2 _ (List.getElem_mem hjl)) ?_
    show M.1 = (offN t (hearC lot (allC (lot.map (·.1)) w m)[j]) : Int)
    rw [offN_comm, hval]
  exact ordd_calls.anti s2 s1
end TD
/-! books: the lots of names by text. -/
namespace TD
open PySem
local macro_rules
  | `(tactic| infer_instance) => `(tactic| first
    | with_reducible assumption
    | with_reducible exact c_1 | with_reducible exact c_0 | with_reducible exact c_e | with_reducible exact c_000 | with_reducible exact c_tup0 | with_reducible exact c_lst0
    | with_reducible exact ev_cstE
    | with_reducible exact ev_nonE
    | with_reducible exact ev_dicE
    | ((with_reducible apply ev_varE); exact rfl)
    | ((with_reducible apply ev_bin); infer_instance; infer_instance; infer_instance)
    | ((with_reducible apply ev_negE); infer_instance)
    | ((with_reducible apply ev_notE); infer_instance)
    | ((with_reducible apply ev_one); infer_instance)
    | ((with_reducible apply ev_andE); infer_instance; intro _; infer_instance)
    | ((with_reducible apply ev_orE); infer_instance; intro _; infer_instance)
    | ((with_reducible apply ev_cmpE); infer_instance; infer_instance; infer_instance)
    | ((with_reducible apply ev_chnE); infer_instance; infer_instance; infer_instance; (intro _; infer_instance); (intro _; infer_instance))
    | ((with_reducible apply ev_tup); infer_instance)
    | ((with_reducible apply ev_lst); infer_instance)
    | ((with_reducible apply ev_idx); infer_instance; infer_instance; infer_instance)
    | ((with_reducible apply ev_slc); infer_instance; infer_instance; exact rfl; infer_instance; exact rfl; infer_instance)
    | ((with_reducible apply ev_fn); exact rfl; infer_instance; infer_instance)
    | ((with_reducible apply ev_b1); infer_instance; exact rfl; infer_instance)
    | ((with_reducible apply ev_mxE); infer_instance; infer_instance)
    | ((with_reducible apply ev_mt); infer_instance; infer_instance; infer_instance)
    | ((with_reducible apply ev_mixE); exact rfl; infer_instance; exact ⟨by decide, by decide⟩)
    | with_reducible exact evs_n
    | ((with_reducible apply evs_c); infer_instance; infer_instance)
    | ((with_reducible apply it_val); infer_instance; exact rfl; exact rfl)
    | ((with_reducible apply it_enm); infer_instance; exact rfl)
    | with_reducible exact o_addI _ _ | with_reducible exact o_subI _ _ | with_reducible exact o_divI ⟨by decide, by decide⟩ | with_reducible exact o_modI (by decide)
    | with_reducible exact o_eqI _ _ | with_reducible exact o_neI _ _ | with_reducible exact o_ltI _ _ | with_reducible exact o_gtI _ _ | with_reducible exact o_leI _ _ | with_reducible exact o_geI _ _
    | with_reducible exact o_eqB _ _ | with_reducible exact o_neB _ _
    | with_reducible exact o_eqT _ _ | with_reducible exact o_neT _ _ | with_reducible exact o_inTx _ _
    | with_reducible exact o_lenC _ | with_reducible exact o_lenLot _ | with_reducible exact o_lenN _ | with_reducible exact o_lenLM _ | with_reducible exact o_lenUM _ | with_reducible exact o_lenL _ | with_reducible exact o_lenU _
    | with_reducible exact o_eqC0 _ | with_reducible exact o_neC0 _ | with_reducible exact o_eqC _ _ | with_reducible exact o_neC _ _ | with_reducible exact o_eqN _ _ | with_reducible exact o_neN _ _ | with_reducible exact o_eqLot _ _ | with_reducible exact o_neLot _ _
    | with_reducible exact o_slcC _ _ _ | with_reducible exact o_slcLot _ _ _ | with_reducible exact o_slcN _ _ _
    | with_reducible exact o_addT (by first | assumption | omega) | with_reducible exact o_lenT (by first | assumption | omega) | with_reducible exact o_slcT (by first | assumption | omega)
    | fail "stuck")
local macro_rules
  | `(tactic| simp_wf) => `(tactic| (simp only [startE, frz, frz1, gens, gensL, gensI, isVar, inOp, bl_abs, bl_sum, bl_min, bl_max, bl_sorted, bl_list, bl_tuple, bl_dict, bl_int, bl_str, bl_repr, bl_all, bl_any, bl_sset, bl_lset, bl_sortk, bl_isi, ml_join, ml_split, ml_count, ml_index, ml_replace, ml_rstrip, ml_upper, ml_endswith, ml_lcount, cond_true, cond_false, Bool.and_true, Bool.and_false, Bool.true_and, Bool.false_and, List.append_nil, List.nil_append, List.cons_append, List.getElem?_cons_succ, List.getElem?_cons_zero, List.set_cons_succ, List.set_cons_zero, Env.put, gd_true, List.length_cons, List.length_nil, Nat.reduceAdd, Nat.reduceLT, decide_true, bindT, bindA, putAll, R.ok_bind, wipeE, T.slots, own_int, own_bool, own_none, own_tx, own_str, own_calls, own_call, own_lot, own_box, own_num, own_tup, own_lst, own_dct, fresh_lst, fresh_dic, fresh_cmp0, fresh_cmp1, fresh_add, fresh_sub, fresh_mul, fresh_div, fresh_mod, fresh_var, fresh_cst, fresh_fn, fresh_b1, fresh_idx, fresh_slc, fresh_mt, fresh_tup, fresh_told, fresh_mix, fresh_mx, fresh_rev, fresh_cmp, fresh_and, fresh_or, fresh_not, restr, List.map_cons, List.map_nil, List.replicate, Nat.reduceSub, beq_self_eq_true]; try (first | with_reducible exact rfl | exact rfl)))
local macro_rules
  | `(tactic| decreasing_trivial) => `(tactic| first
    | ((with_reducible apply wp_asg); simp_wf; infer_instance; simp_wf)
    | ((with_reducible apply wp_asgT); simp_wf; infer_instance; simp_wf)
    | ((with_reducible apply wp_par); simp_wf; infer_instance; infer_instance; simp_wf; simp_wf)
    | ((with_reducible apply wp_exp); simp_wf; infer_instance)
    | ((with_reducible apply wp_ret); simp_wf; infer_instance)
    | ((with_reducible apply wp_if); simp_wf; infer_instance)
    | with_reducible refine wp_cont ?_
    | (refine wp_nil (thn_nx ?_))
    | with_reducible refine wp_nil ?_)
local macro_rules
  | `(tactic| clean_wf) => `(tactic| simp only [startE, List.length_cons, List.length_nil, Nat.reduceAdd, Nat.reduceSub, List.replicate, List.map_cons, List.map_nil, List.cons_append, List.nil_append])
abbrev Bk := List (List Nat × List (List Str))
def rowD (p : List Nat × List (List Str)) : PyData × PyData := (tx p.1, .list (p.2.map strsD))
def bookD (b : Bk) : PyData := .dict (b.map rowD)
def getB (b : Bk) (t : List Nat) : Option (List (List Str)) := (b.find? fun p => decide (p.1 = t)).map (·.2)
def setB : Bk → List Nat → List (List Str) → Bk
  | [], t, xs => [(t, xs)]
  | p :: r, t, xs => if p.1 = t then (p.1, xs) :: r else p :: setB r t xs
def addB (xs : List (List Str)) (x : List Str) : List (List Str) := if x ∈ xs then xs else xs ++ [x]
def noteB (b : Bk) (t : List Nat) (x : List Str) : Bk := setB b t (addB ((getB b t).getD []) x)
theorem keyEq_tx (a b : List Nat) : keyEq (tx a) (tx b) = decide (a = b) := by
  show decide ((⟨a.toArray⟩ : Str) = ⟨b.toArray⟩) = _
  by_cases h : a = b
  · rw [decide_eq_true h, decide_eq_true (by rw [h])]
  · rw [decide_eq_false h, decide_eq_false fun z => h (tx_inj (by show PyData.str _ = PyData.str _; rw [z]))]
theorem dGet_book (b : Bk) (t : List Nat) : dGet (b.map rowD) (tx t) = (getB b t).map fun xs => PyData.list (xs.map strsD) := by
  unfold dGet getB
  induction b with
  | nil => rfl
  | cons p r ih =>
    rw [List.map_cons, List.find?_cons, List.find?_cons]
    show Option.map _ (match keyEq (tx p.1) (tx t) with | true => _ | false => _) = _
    rw [keyEq_tx]
    by_cases h : p.1 = t
    · rw [decide_eq_true h]
      rfl
    · rw [decide_eq_false h]
      exact ih
theorem dSet_book (b : Bk) (t : List Nat) (xs : List (List Str)) : dSet1 (b.map rowD) (tx t) (.list (xs.map strsD)) = (setB b t xs).map rowD := by
  induction b with
  | nil => rfl
  | cons p r ih =>
    rw [List.map_cons]
    unfold dSet1 setB
    show (if keyEq (tx p.1) (tx t) = true then _ else _) = _
    rw [keyEq_tx]
    by_cases h : p.1 = t
    · rw [decide_eq_true h, if_pos rfl, if_pos h]
      rfl
    · rw [decide_eq_false h, if_neg Bool.false_ne_true, if_neg h, ih]
      rfl
theorem getB_none {b : Bk} {t : List Nat} (h : t ∉ b.map (·.1)) : getB b t = none := by
  unfold getB
  rw [List.find?_eq_none.mpr]
  · rfl
  · intro p hp z
    exact h (List.mem_map.mpr ⟨p, hp, of_decide_eq_true z⟩)
theorem getB_in {b : Bk} {t : List Nat} {xs : List (List Str)} (h : getB b t = some xs) : (t, xs) ∈ b := by
  unfold getB at h
  obtain ⟨p, hp, rfl⟩ := Option.map_eq_some_iff.mp h
  have h1 := List.mem_of_find?_eq_some hp
  have h2 := List.find?_some hp
  have h2 : p.1 = t := of_decide_eq_true h2
  rw [← h2]
  exact h1
theorem getB_mem {b : Bk} (nd : (b.map (·.1)).Nodup) {p : List Nat × List (List Str)} (hp : p ∈ b) : getB b p.1 = some p.2 := by
  unfold getB
  induction b with
  | nil => cases hp
  | cons q r ih =>
    rw [List.map_cons, List.nodup_cons] at nd
    rw [List.find?_cons]
    rcases List.mem_cons.mp hp with rfl | hp
    · rw [decide_eq_true rfl]
      rfl
    · have : q.1 ≠ p.1 := fun z => nd.1 (z ▸ List.mem_map_of_mem hp)
      rw [decide_eq_false this]
      exact ih nd.2 hp
theorem mem_setB {b : Bk} {t : List Nat} {xs : List (List Str)} {p : List Nat × List (List Str)} (h : p ∈ setB b t xs) : p ∈ b ∨ p = (t, xs) := by
  induction b with
  | nil => exact .inr (List.mem_singleton.mp h)
  | cons q r ih =>
    unfold setB at h
    split at h
    · rename_i e
      rcases List.mem_cons.mp h with h | h
      · exact .inr (by rw [h, e])
      · exact .inl (List.mem_cons_of_mem _ h)
    · rcases List.mem_cons.mp h with h | h
      · exact .inl (by rw [h]; exact List.mem_cons_self)
      · rcases ih h with h | h
        · exact .inl (List.mem_cons_of_mem _ h)
        · exact .inr h
theorem setB_keys (b : Bk) (t : List Nat) (xs : List (List Str)) : (setB b t xs).map (·.1) = if t ∈ b.map (·.1) then b.map (·.1) else b.map (·.1) ++ [t] := by
  induction b with
  | nil => rfl
  | cons q r ih =>
    unfold setB
    by_cases h : q.1 = t
    · rw [if_pos h, if_pos (by rw [List.map_cons, h]; exact List.mem_cons_self)]
      rfl
    · rw [if_neg h, List.map_cons, ih, List.map_cons]
      by_cases h2 : t ∈ r.map (·.1)
      · rw [if_pos h2, if_pos (List.mem_cons_of_mem _ h2)]
      · rw [if_neg h2, if_neg]
        · rfl
        · intro z
          rcases List.mem_cons.mp z with z | z
          · exact h z.symm
          · exact h2 z
theorem setB_same {b : Bk} {t : List Nat} {xs : List (List Str)} (h : getB b t = some xs) : setB b t xs = b := by
  induction b with
  | nil => cases h
  | cons q r ih =>
    unfold getB at h
    rw [List.find?_cons] at h
    unfold setB
    by_cases e : q.1 = t
    · rw [decide_eq_true e] at h
      have h : q.2 = xs := Option.some.inj h
      rw [if_pos e, ← h]
    · rw [decide_eq_false e] at h
      rw [if_neg e, ih h]
theorem dPut_book {b : Bk} (nd : (b.map (·.1)).Nodup) (t : List Nat) (xs : List (List Str)) : dPut (b.map rowD) (tx t) (.list (xs.map strsD)) = (setB b t xs).map rowD := by
  have ha : (b.map rowD).any (fun p => keyEq p.1 (tx t)) = decide (t ∈ b.map (·.1)) := by
    induction b with
    | nil => rfl
    | cons q r ih =>
      rw [List.map_cons, List.nodup_cons] at nd
      rw [List.map_cons, List.any_cons, ih nd.2]
      show (keyEq (tx q.1) (tx t) || _) = _
      rw [keyEq_tx, List.map_cons, Bool.eq_iff_iff, Bool.or_eq_true, decide_eq_true_iff, decide_eq_true_iff, decide_eq_true_iff, List.mem_cons]
      exact ⟨fun h => h.elim (fun h => .inl h.symm) .inr, fun h => h.elim (fun h => .inl h.symm) .inr⟩
  unfold dPut
  rw [ha]
  by_cases h : t ∈ b.map (·.1)
  · rw [decide_eq_true h, if_pos rfl]
    clear ha
    induction b with
    | nil => cases h
    | cons q r ih =>
      rw [List.map_cons, List.nodup_cons] at nd
      rw [List.map_cons, List.map_cons]
      unfold setB
      by_cases e : q.1 = t
      · rw [if_pos e, List.map_cons]
        have e0 : (if keyEq (rowD q).1 (tx t) = true then ((rowD q).1, PyData.list (xs.map strsD)) else rowD q) = rowD (q.1, xs) := by
          rw [if_pos]
          · rfl
          · show keyEq (tx q.1) (tx t) = true
            rw [keyEq_tx]
            exact decide_eq_true e
        rw [e0]
        congr 1
        rw [List.map_map]
        refine List.map_congr_left fun p hp => ?_
        show (if keyEq (tx p.1) (tx t) = true then _ else rowD p) = _
        rw [keyEq_tx, if_neg]
        intro z
        have z := of_decide_eq_true z
        exact nd.1 (by rw [e, ← z]; exact List.mem_map_of_mem hp)
      · rw [if_neg e, List.map_cons]
        have e0 : (if keyEq (rowD q).1 (tx t) = true then ((rowD q).1, PyData.list (xs.map strsD)) else rowD q) = rowD q := by
          rw [if_neg]
          show ¬keyEq (tx q.1) (tx t) = true
          rw [keyEq_tx]
          intro z
          exact e (of_decide_eq_true z)
        rw [e0]
        congr 1
        refine ih nd.2 ?_
        rcases List.mem_cons.mp h with h | h
        · exact absurd h.symm e
        · exact h
  · rw [decide_eq_false h, if_neg Bool.false_ne_true]
    have : ∀ b : Bk, t ∉ b.map (·.1) → setB b t xs = b ++ [(t, xs)] := by
      intro b h
      induction b with
      | nil => rfl
      | cons q r ih =>
        unfold setB
        rw [if_neg fun e => h (by rw [List.map_cons, e]; exact List.mem_cons_self), ih fun z => h (List.mem_cons_of_mem _ z)]
        rfl
    rw [this b h, List.map_append]
    rfl
structure BkOk (b : Bk) (n : Nat) : Prop where
  nd : (b.map (·.1)).Nodup
  len : b.length ≤ n
  each : ∀ p ∈ b, p.2.length ≤ n ∧ p.1.length ≤ 10000
theorem BkOk.nil : BkOk [] 0 := ⟨List.nodup_nil, Nat.le_refl _, fun _ h => by cases h⟩
theorem addB_len (xs : List (List Str)) (x : List Str) : (addB xs x).length ≤ xs.length + 1 := by
  unfold addB
  split
  · omega
  · rw [List.length_append]
    exact Nat.le_refl _
theorem BkOk.note {b : Bk} {n : Nat} (h : BkOk b n) {t : List Nat} (ht : t.length ≤ 10000) (x : List Str) : BkOk (noteB b t x) (n + 1) := by
  have hg : ((getB b t).getD []).length ≤ n := by
    cases q : getB b t with
    | none => exact Nat.zero_le _
    | some xs => exact (h.each _ (getB_in q)).1
  refine ⟨?_, ?_, fun p hp => ?_⟩
  · unfold noteB
    rw [setB_keys]
    split
    · exact h.nd
    · rename_i q
      rw [List.nodup_append]
      refine ⟨h.nd, by simp, fun a ha c hc => ?_⟩
      rw [List.mem_singleton.mp hc]
      exact fun z => q (z ▸ ha)
  · have := congrArg List.length (setB_keys b t (addB ((getB b t).getD []) x))
    have h2 := h.len
    unfold noteB
    rw [List.length_map] at this
    rw [this]
    split
    · rw [List.length_map]
      omega
    · rw [List.length_append, List.length_map]
      exact Nat.succ_le_succ h2
  · rcases mem_setB hp with hp | rfl
    · have := h.each p hp
      exact ⟨by omega, this.2⟩
    · have := addB_len ((getB b t).getD []) x
      exact ⟨by show (addB ((getB b t).getD []) x).length ≤ n + 1; omega, ht⟩
theorem nice_names : Nice strsD 1 := nice_tup nice_str
theorem any_names (xs : List (List Str)) (x : List Str) : (xs.map strsD).any (fun z => PyData.eqv z (strsD x)) = decide (x ∈ xs) := by
  induction xs with
  | nil => rfl
  | cons y r ih =>
    rw [List.map_cons, List.any_cons, ih, Bool.eq_iff_iff, Bool.or_eq_true, nice_names.eqv, decide_eq_true_iff, decide_eq_true_iff, List.mem_cons]
    exact ⟨fun h => h.elim (fun h => .inl h.symm) .inr, fun h => h.elim (fun h => .inl h.symm) .inr⟩
theorem all_names (xs : List (List Str)) : (xs.map strsD).all (dOk 8) = true := List.all_eq_true.mpr fun x hx => by
  obtain ⟨y, _, rfl⟩ := List.mem_map.mp hx
  exact dOk_le (by decide) (nice_names.dk y)
theorem note_at {ρ : Env} {i o : Nat} {b : Bk} {n : Nat} (h : BkOk b n) (hn : n < 1000000) (hi : ρ[i]? = some (some (o, bookD b))) (ho : o = 2 ∨ o = 1 ∧ b = []) (t : List Nat) (x : List Str) : noteSlot ρ i (tx t) (strsD x) = .ok (ρ.set i (some (2, bookD (noteB b t x)))) := by
  unfold noteSlot
  rw [hi]
  show gd (keyOk (tx t) && decide ((b.map rowD).length < 1000000) && dOk 8 (strsD x) && (o == 2 || (o == 1 && (b.map rowD).isEmpty))) _ = _
  have hl := h.len
  have e1 : (keyOk (tx t) && decide ((b.map rowD).length < 1000000) && dOk 8 (strsD x) && (o == 2 || (o == 1 && (b.map rowD).isEmpty))) = true := by
    rw [List.length_map, decide_eq_true (by omega), dOk_le (by decide) (nice_names.dk x)]
    rcases ho with rfl | ⟨rfl, rfl⟩ <;> rfl
  rw [e1]
  show (match (dGet (b.map rowD) (tx t)).getD (.list []) with | .list xs => _ | _ => _) = _
  rw [dGet_book]
  have e2 : ((getB b t).map fun xs => PyData.list (xs.map strsD)).getD (.list []) = .list (((getB b t).getD []).map strsD) := by
    cases getB b t <;> rfl
  rw [e2]
  have hg : ((getB b t).getD []).length < 1000000 := by
    cases q : getB b t with
    | none => exact Nat.zero_lt_succ _
    | some xs =>
      have := (h.each _ (getB_in q)).1
      show xs.length < 1000000
      have : xs.length ≤ n := this
      omega
  show gd (decide ((((getB b t).getD []).map strsD).length < 1000000) && (((getB b t).getD []).map strsD).all (dOk 8)) (R.ok (ρ.set i (some (2, .dict (dSet1 (b.map rowD) (tx t) (.list (if (((getB b t).getD []).map strsD).any (fun z => PyData.eqv z (strsD x)) then ((getB b t).getD []).map strsD else ((getB b t).getD []).map strsD ++ [strsD x]))))))) = _
  rw [List.length_map, decide_eq_true hg, all_names, any_names]
  have e3 : (if decide (x ∈ (getB b t).getD []) = true then ((getB b t).getD []).map strsD else ((getB b t).getD []).map strsD ++ [strsD x]) = (addB ((getB b t).getD []) x).map strsD := by
    unfold addB
    by_cases q : x ∈ (getB b t).getD []
    · rw [if_pos (decide_eq_true q), if_pos q]
    · rw [if_neg (fun z => q (of_decide_eq_true z)), if_neg q, List.map_append]
      rfl
  rw [e3, dSet_book]
  rfl
/-- the book of calls -/
def bookOf (lot : List Box) (L : List (List Cl)) : Bk := L.foldl (fun b cs => noteB b (hearC lot cs) (cs.map (·.1))) []
theorem bookOf_snoc (lot : List Box) (L : List (List Cl)) (cs : List Cl) : bookOf lot (L ++ [cs]) = noteB (bookOf lot L) (hearC lot cs) (cs.map (·.1)) := by
  unfold bookOf
  rw [List.foldl_append]
  rfl
end TD
/-! lots_by_text, clashing_texts, clash, clashes, are_apart. -/
namespace TD
open PySem
local macro_rules
  | `(tactic| infer_instance) => `(tactic| first
    | with_reducible assumption
    | with_reducible exact c_1 | with_reducible exact c_0 | with_reducible exact c_e | with_reducible exact c_000 | with_reducible exact c_tup0 | with_reducible exact c_lst0
    | with_reducible exact ev_cstE
    | with_reducible exact ev_nonE
    | with_reducible exact ev_dicE
    | ((with_reducible apply ev_varE); exact rfl)
    | ((with_reducible apply ev_bin); infer_instance; infer_instance; infer_instance)
    | ((with_reducible apply ev_negE); infer_instance)
    | ((with_reducible apply ev_notE); infer_instance)
    | ((with_reducible apply ev_one); infer_instance)
    | ((with_reducible apply ev_andE); infer_instance; intro _; infer_instance)
    | ((with_reducible apply ev_orE); infer_instance; intro _; infer_instance)
    | ((with_reducible apply ev_cmpE); infer_instance; infer_instance; infer_instance)
    | ((with_reducible apply ev_chnE); infer_instance; infer_instance; infer_instance; (intro _; infer_instance); (intro _; infer_instance))
    | ((with_reducible apply ev_tup); infer_instance)
    | ((with_reducible apply ev_lst); infer_instance)
    | ((with_reducible apply ev_idx); infer_instance; infer_instance; infer_instance)
    | ((with_reducible apply ev_slc); infer_instance; infer_instance; exact rfl; infer_instance; exact rfl; infer_instance)
    | ((with_reducible apply ev_fn); exact rfl; infer_instance; infer_instance)
    | ((with_reducible apply ev_b1); infer_instance; exact rfl; infer_instance)
    | ((with_reducible apply ev_mxE); infer_instance; infer_instance)
    | ((with_reducible apply ev_mt); infer_instance; infer_instance; infer_instance)
    | ((with_reducible apply ev_mixE); exact rfl; infer_instance; exact ⟨by decide, by decide⟩)
    | with_reducible exact evs_n
    | ((with_reducible apply evs_c); infer_instance; infer_instance)
    | ((with_reducible apply it_val); infer_instance; exact rfl; exact rfl)
    | ((with_reducible apply it_enm); infer_instance; exact rfl)
    | with_reducible exact o_addI _ _ | with_reducible exact o_subI _ _ | with_reducible exact o_divI ⟨by decide, by decide⟩ | with_reducible exact o_modI (by decide)
    | with_reducible exact o_eqI _ _ | with_reducible exact o_neI _ _ | with_reducible exact o_ltI _ _ | with_reducible exact o_gtI _ _ | with_reducible exact o_leI _ _ | with_reducible exact o_geI _ _
    | with_reducible exact o_eqB _ _ | with_reducible exact o_neB _ _
    | with_reducible exact o_eqT _ _ | with_reducible exact o_neT _ _ | with_reducible exact o_inTx _ _
    | with_reducible exact o_lenC _ | with_reducible exact o_lenLot _ | with_reducible exact o_lenN _ | with_reducible exact o_lenLM _ | with_reducible exact o_lenUM _ | with_reducible exact o_lenL _ | with_reducible exact o_lenU _
    | with_reducible exact o_eqC0 _ | with_reducible exact o_neC0 _ | with_reducible exact o_eqC _ _ | with_reducible exact o_neC _ _ | with_reducible exact o_eqN _ _ | with_reducible exact o_neN _ _ | with_reducible exact o_eqLot _ _ | with_reducible exact o_neLot _ _
    | with_reducible exact o_slcC _ _ _ | with_reducible exact o_slcLot _ _ _ | with_reducible exact o_slcN _ _ _
    | with_reducible exact o_addT (by first | assumption | omega) | with_reducible exact o_lenT (by first | assumption | omega) | with_reducible exact o_slcT (by first | assumption | omega)
    | fail "stuck")
local macro_rules
  | `(tactic| simp_wf) => `(tactic| (simp only [startE, frz, frz1, gens, gensL, gensI, isVar, inOp, bl_abs, bl_sum, bl_min, bl_max, bl_sorted, bl_list, bl_tuple, bl_dict, bl_int, bl_str, bl_repr, bl_all, bl_any, bl_sset, bl_lset, bl_sortk, bl_isi, ml_join, ml_split, ml_count, ml_index, ml_replace, ml_rstrip, ml_upper, ml_endswith, ml_lcount, cond_true, cond_false, Bool.and_true, Bool.and_false, Bool.true_and, Bool.false_and, List.append_nil, List.nil_append, List.cons_append, List.getElem?_cons_succ, List.getElem?_cons_zero, List.set_cons_succ, List.set_cons_zero, Env.put, gd_true, List.length_cons, List.length_nil, Nat.reduceAdd, Nat.reduceLT, decide_true, bindT, bindA, putAll, R.ok_bind, wipeE, T.slots, own_int, own_bool, own_none, own_tx, own_str, own_calls, own_call, own_lot, own_box, own_num, own_tup, own_lst, own_dct, fresh_lst, fresh_dic, fresh_cmp0, fresh_cmp1, fresh_add, fresh_sub, fresh_mul, fresh_div, fresh_mod, fresh_var, fresh_cst, fresh_fn, fresh_b1, fresh_idx, fresh_slc, fresh_mt, fresh_tup, fresh_told, fresh_mix, fresh_mx, fresh_rev, fresh_cmp, fresh_and, fresh_or, fresh_not, restr, List.map_cons, List.map_nil, List.replicate, Nat.reduceSub, beq_self_eq_true]; try (first | with_reducible exact rfl | exact rfl)))
local macro_rules
  | `(tactic| decreasing_trivial) => `(tactic| first
    | ((with_reducible apply wp_asg); simp_wf; infer_instance; simp_wf)
    | ((with_reducible apply wp_asgT); simp_wf; infer_instance; simp_wf)
    | ((with_reducible apply wp_par); simp_wf; infer_instance; infer_instance; simp_wf; simp_wf)
    | ((with_reducible apply wp_exp); simp_wf; infer_instance)
    | ((with_reducible apply wp_ret); simp_wf; infer_instance)
    | ((with_reducible apply wp_if); simp_wf; infer_instance)
    | with_reducible refine wp_cont ?_
    | (refine wp_nil (thn_nx ?_))
    | with_reducible refine wp_nil ?_)
local macro_rules
  | `(tactic| clean_wf) => `(tactic| simp only [startE, List.length_cons, List.length_nil, Nat.reduceAdd, Nat.reduceSub, List.replicate, List.map_cons, List.map_nil, List.cons_append, List.nil_append])
/-- by length, then by signs -/
def keyT (t : List Nat) : PyData := .tuple [.int (t.length : Int), tx t]
theorem Ordd.comp {α β : Type} {e : α → PyData} {n : Nat} (h : Ordd e n) {g : β → α} (hg : ∀ a b, g a = g b → a = b) : Ordd (fun b => e (g b)) n := ⟨⟨fun a b => (h.nice.eqv _ _).trans ⟨hg a b, fun z => by rw [z]⟩, fun a => h.nice.dk _⟩, fun a b => h.al _ _⟩
theorem ordd_keyT : Ordd keyT 1 := (ordd_pair ordd_int ordd_tx).comp (g := fun t : List Nat => ((t.length : Int), t)) fun a b h => (Prod.mk.inj h).2
theorem knd_keyT : Knd keyT := .inl fun _ => rfl
theorem ordd_names : Ordd strsD 1 := ordd_tup ordd_str
theorem knd_names : Knd strsD := .inl fun _ => rfl
theorem txts_tx (ts : List (List Nat)) : txtsOf (ts.map tx) = some (ts.map fun t => (⟨t.toArray⟩ : Str)) := by
  induction ts with
  | nil => rfl
  | cons t r ih =>
    show (txtsOf (r.map tx)).map _ = _
    rw [ih]
    rfl
theorem sortk_ok {ts : List (List Nat)} (hl : ts.length ≤ SZ) (ht : ∀ t ∈ ts, t.length ≤ SZ) : b1D .sortk (.list (ts.map tx)) = .ok (.list ((sortE keyT ts).map tx)) := by
  show (op (txtsOf (ts.map tx)) >>= fun ls => gd (decide (ls.length ≤ SZ) && ls.all fun z => decide (z.length ≤ SZ)) (R.ok (PyData.list ((ls.mergeSort (PySem.W.dataLe false keyL)).map PyData.str)))) = _
  rw [txts_tx]
  show gd (decide ((ts.map fun t => (⟨t.toArray⟩ : Str)).length ≤ SZ) && (ts.map fun t => (⟨t.toArray⟩ : Str)).all fun z => decide (z.length ≤ SZ)) (R.ok (PyData.list (((ts.map fun t => (⟨t.toArray⟩ : Str)).mergeSort (PySem.W.dataLe false keyL)).map PyData.str))) = _
  have e1 : ((ts.map fun t => (⟨t.toArray⟩ : Str)).all fun z => decide (z.length ≤ SZ)) = true := List.all_eq_true.mpr fun z hz => by
    obtain ⟨t, h, rfl⟩ := List.mem_map.mp hz
    exact decide_eq_true (ht t h)
  have e2 : (ts.map fun t => (⟨t.toArray⟩ : Str)).mergeSort (PySem.W.dataLe false keyL) = (sortE keyT ts).map fun t => (⟨t.toArray⟩ : Str) :=
    (List.map_mergeSort (r := leE keyT) (s := PySem.W.dataLe false keyL) (f := fun t => (⟨t.toArray⟩ : Str)) (fun _ _ _ _ => rfl)).symm
  rw [e1, List.length_map, decide_eq_true hl, e2, List.map_map]
  rfl
/-- a comprehension over a dict's keys -/
theorem ev_cmp1K {c : C} {ρ : Env} {a b : E} {α : Type} {t : T} {it : I} {L : List α} {enc g : α → PyData} {k : α → Bool} (h1 : evi c ρ it = .ok (true, L.map enc)) (hl : L.length ≤ SZ) (h2 : ∀ y, y ∈ L → ∃ ρ', bindT t (enc y) (wipeE ρ t.slots) = .ok ρ' ∧ ev c.lock ρ' b = .ok (.bool (k y)) ∧ (k y = true → ev c.lock ρ' a = .ok (g y))) : ev c ρ (.cmp1 a t it b) = .ok (.list ((L.filter k).map g)) := by
  show (evi c ρ it >>= fun p => collect (fun x => do
      let ρ' ← bindT t x (wipeE ρ t.slots)
      match ← boolD (← ev (if p.1 then c.lock else c) ρ' b) with
      | true => do R.ok (some (← ev (if p.1 then c.lock else c) ρ' a))
      | false => R.ok none) p.2 >>= fun xs => gd (decide (p.2.length ≤ SZ)) (R.ok (PyData.list xs))) = _
  rw [h1]
  show (collect (fun x => do
      let ρ' ← bindT t x (wipeE ρ t.slots)
      match ← boolD (← ev c.lock ρ' b) with
      | true => do R.ok (some (← ev c.lock ρ' a))
      | false => R.ok none) (L.map enc) >>= fun xs => gd (decide ((L.map enc).length ≤ SZ)) (R.ok (PyData.list xs))) = _
  rw [List.length_map, decide_eq_true hl]
  have key : ∀ M : List α, (∀ y ∈ M, y ∈ L) → collect (fun x => do
      let ρ' ← bindT t x (wipeE ρ t.slots)
      match ← boolD (← ev c.lock ρ' b) with
      | true => do R.ok (some (← ev c.lock ρ' a))
      | false => R.ok none) (M.map enc) = .ok ((M.filter k).map g) := by
    intro M
    induction M with
    | nil => intro _; rfl
    | cons y r ih =>
      intro hM
      obtain ⟨ρ', e1, e2, e3⟩ := h2 y (hM y List.mem_cons_self)
      show ((bindT t (enc y) (wipeE ρ t.slots) >>= fun ρ' => ev c.lock ρ' b >>= fun d => boolD d >>= fun k => match k with | true => (ev c.lock ρ' a >>= fun y => R.ok (some y)) | false => R.ok none) >>= fun o => collect _ (r.map enc) >>= fun rs => R.ok (match o with | some y => y :: rs | none => rs)) = _
      rw [ih fun z hz => hM z (List.mem_cons_of_mem _ hz), e1]
      show ((ev c.lock ρ' b >>= fun d => boolD d >>= fun k => match k with | true => (ev c.lock ρ' a >>= fun y => R.ok (some y)) | false => R.ok none) >>= fun o => R.ok (match o with | some z => z :: (r.filter k).map g | none => (r.filter k).map g)) = _
      rw [e2, List.filter_cons]
      cases q : k y with
      | false => rfl
      | true =>
        show ((ev c.lock ρ' a >>= fun y => R.ok (some y)) >>= fun o => R.ok (match o with | some z => z :: (r.filter k).map g | none => (r.filter k).map g)) = _
        rw [e3 q]
        rfl
  rw [key L fun y hy => hy]
  rfl
theorem it_keys {c : C} {ρ : Env} {i : Nat} {kvs : List (PyData × PyData)} (hn : c.nl = true) (h1 : ev c ρ (.var i) = .ok (.dict kvs)) : evi c ρ (.val (.var i)) = .ok (true, kvs.map (·.1)) := by
  show (ev c ρ (.var i) >>= fun d => match dictKeys d with | some ks => gd (c.nl && isVar (.var i)) (R.ok (true, ks)) | none => walkD d >>= fun l => R.ok (false, l)) = _
  rw [h1]
  show gd (c.nl && true) _ = _
  rw [hn]
  rfl
/-- the rows with two lots or more -/
def badR (b : Bk) : Bk := b.filter fun p => decide ((1 : Int) < (p.2.length : Int))
def clashT (b : Bk) : List (List Nat) := sortE keyT ((badR b).map (·.1))
theorem clashT_mem {b : Bk} {t : List Nat} (h : t ∈ clashT b) : ∃ xs, (t, xs) ∈ b ∧ 2 ≤ xs.length := by
  obtain ⟨p, hp, rfl⟩ := List.mem_map.mp (mem_sortE.mp h)
  obtain ⟨h1, h2⟩ := List.mem_filter.mp hp
  have := of_decide_eq_true h2
  exact ⟨p.2, h1, by omega⟩
def clashD (b : Bk) : PyData := match clashT b with
  | [] => .none
  | t :: _ => .tuple (tx t :: ((sortE strsD ((getB b t).getD [])).take 2).map strsD)
structure HasB (tb : Tab) : Prop extends HasM tb where
  h39 : tb 39 = some f_names_of
  h47 : tb 47 = some f_lots_by_text
  h48 : tb 48 = some f_clashing_texts
theorem wp_note {c : C} {ρ ρ1 ρ2 : Env} {b : Nat} {k x : E} {d e : PyData} {r : Ss} {Q : R Fl → Prop} (hf : frz (gens k ++ gens x) ρ = ρ2) (h1 : ev c ρ2 x = .ok d) (h2 : ev c ρ2 k = .ok e) (h3 : noteSlot ρ2 b e d = .ok ρ1) (h4 : Wp (exs c ρ1 r) Q) : Wp (exs c ρ (.cons (.note b k x) r)) Q := by
  refine wp_bind (k := .ok (.nx ρ1)) ?_ (thn_nx h4)
  show (nE (ev c (frz (gens k ++ gens x) ρ) x) >>= fun y => nE (ev c (frz (gens k ++ gens x) ρ) k) >>= fun z => noteSlot (frz (gens k ++ gens x) ρ) b z y >>= fun ρ' => R.ok (Fl.nx ρ')) = _
  rw [hf, h1, h2]
  show (noteSlot ρ2 b e d >>= fun ρ' => R.ok (Fl.nx ρ')) = _
  rw [h3]
  rfl
theorem bookF_ok {lot : List Box} (hl : LotOk lot) {w m : Nat} (hw : w ≤ 1000) (hm : m ≤ 3) : ∀ (L : List (List Cl)) (b : Bk) (n : Nat), BkOk b n → (∀ cs ∈ L, cs ∈ allC (lot.map (·.1)) w m) → BkOk (L.foldl (fun b cs => noteB b (hearC lot cs) (cs.map (·.1))) b) (n + L.length)
  | [], _, _, h, _ => h
  | cs :: L, b, n, h, hL => by
    have ih := bookF_ok hl hw hm L (noteB b (hearC lot cs) (cs.map (·.1))) (n + 1) (h.note (hearC_len hl (allC_ok hw hm (hL cs List.mem_cons_self)).2) _) fun c hc => hL c (List.mem_cons_of_mem _ hc)
    rw [List.length_cons, show n + (L.length + 1) = n + 1 + L.length by omega]
    exact ih
theorem bookOf_ok {lot : List Box} (hl : LotOk lot) {w m : Nat} (hw : w ≤ 1000) (hm : m ≤ 3) (L : List (List Cl)) (h : ∀ cs ∈ L, cs ∈ allC (lot.map (·.1)) w m) : BkOk (bookOf lot L) L.length := by
  have := bookF_ok hl hw hm L [] 0 BkOk.nil h
  rw [Nat.zero_add] at this
  exact this
theorem lots_ok {tb : Tab} (h : HasB tb) {lot : List Box} (hl : LotOk lot) (hlot : lot.length ≤ 6) {w : Nat} (hw : w ≤ 12) {m : Nat} (hm : m ≤ 3) {d : Nat} (hd : m + 2 < d) : callN tb d 47 [lotD lot, .int (m : Int), .int (w : Int)] = .ok (bookD (bookOf lot (allC (lot.map (·.1)) w m))) := by
  match d, hd with
  | d + 3, hd =>
    rw [callN_at h.h47]
    refine run_of rfl ?_
    unfold f_lots_by_text
    clean_wf
    have e36 : callN tb (d + 2) 36 [lotD lot, .int (m : Int), .int (w : Int)] = .ok (.tuple ((allC (lot.map (·.1)) w m).map callsD)) := all_calls_ok h.h35 h.h36 hlot hw hm (by omega)
    have hlen := allC_len (ns := lot.map (·.1)) (by rw [List.length_map]; exact hlot) hw hm
    decreasing_trivial
    refine wp_for (L := allC (lot.map (·.1)) w m) (enc := callsD) (ρ2 := [some (0, lotD lot), some (0, .int (m : Int)), some (0, .int (w : Int)), some (1, .dict []), none, none, none]) (fun dn ρ' => ∃ o, (o = 2 ∨ o = 1 ∧ dn = []) ∧ ρ' = [some (0, lotD lot), some (0, .int (m : Int)), some (0, .int (w : Int)), some (o, bookD (bookOf lot dn)), none, none, none]) (by simp_wf) ?_ ⟨1, .inr ⟨rfl, rfl⟩, rfl⟩ (fun dn cs rs ρ' e j => ?_) (fun ρ' j => ?_)
    · infer_instance
    · obtain ⟨o, ho, rfl⟩ := j
      have hin : ∀ c ∈ dn ++ [cs], c ∈ allC (lot.map (·.1)) w m := fun c hc => by
        rw [e, show dn ++ cs :: rs = (dn ++ [cs]) ++ rs from by simp]
        exact List.mem_append_left _ hc
      have hcs := hin cs (List.mem_append_right _ List.mem_cons_self)
      have hdl : dn.length ≤ 500000 := by
        have := congrArg List.length e
        rw [List.length_append, List.length_cons] at this
        omega
      obtain ⟨g, ok⟩ := allC_ok (show w ≤ 1000 by omega) hm hcs
      have e33 : callN tb (d + 2) 33 [lotD lot, callsD cs] = .ok (tx (hearC lot cs)) := heard_ok h.toHasH d hl ok
      have e39 : callN tb (d + 2) 39 [callsD cs] = .ok (strsD (cs.map (·.1))) := names_of_ok h.h39 (d + 1) (by have := g.few; omega)
      refine ⟨_, by simp_wf, ?_⟩
      decreasing_trivial
      decreasing_trivial
      refine wp_note (by simp_wf) (ev_varE rfl) (ev_varE rfl) (note_at (bookOf_ok hl (show w ≤ 1000 by omega) hm dn fun c hc => hin c (List.mem_append_left _ hc)) (by omega) rfl (ho.imp id fun z => ⟨z.1, by rw [z.2]; rfl⟩) _ _) (wp_nil ?_)
      refine ⟨2, .inl rfl, ?_⟩
      rw [bookOf_snoc]
      rfl
    · obtain ⟨o, ho, rfl⟩ := j
      rcases ho with rfl | ⟨rfl, _⟩
      · exact wp_ret rfl (ev_varE rfl) rfl
      · exact wp_ret rfl (ev_varE rfl) rfl
theorem idx_book {b : Bk} {n : Nat} (h : BkOk b n) {t : List Nat} {xs : List (List Str)} (hp : (t, xs) ∈ b) : idxD (bookD b) (tx t) = .ok (.list (xs.map strsD)) := by
  show gd true (op (dGet (b.map rowD) (tx t))) = _
  rw [dGet_book, getB_mem h.nd hp]
  rfl
theorem keys_book (b : Bk) : (b.map rowD).map (·.1) = b.map fun p => tx p.1 := by
  rw [List.map_map]
  rfl
theorem clashing_ok {tb : Tab} (h48 : tb 48 = some f_clashing_texts) (d : Nat) {b : Bk} {n : Nat} (h : BkOk b n) (hn : n ≤ 1000000) : callN tb (d + 1) 48 [bookD b] = .ok (.list ((clashT b).map tx)) := by
  have sz : SZ = 16000000 := rfl
  have hl := h.len
  rw [callN_at h48]
  refine run_of rfl ?_
  unfold f_clashing_texts
  clean_wf
  have hb : (badR b).length ≤ n := Nat.le_trans (List.length_filter_le _ _) hl
  refine wp_ret (x := .list ((clashT b).map tx)) (by simp_wf) (ev_b1 (x := .list ((badR b).map fun p => tx p.1)) ?_ rfl ?_) rfl
  · refine ev_cmp1K (L := b) (enc := fun p => tx p.1) ?_ ?_ fun p hp => ?_
    · rw [← keys_book]
      exact it_keys rfl (ev_varE rfl)
    · omega
    · have i := idx_book h (t := p.1) (xs := p.2) hp
      refine ⟨_, by simp_wf, ?_, fun _ => ?_⟩
      · infer_instance
      · infer_instance
  · have e := sortk_ok (ts := (badR b).map (·.1)) (by rw [List.length_map]; omega) fun t ht => by
      obtain ⟨p, hp, rfl⟩ := List.mem_map.mp ht
      have := (h.each p (List.mem_filter.mp hp).1).2
      omega
    rw [List.map_map] at e
    exact e
theorem clash_ok {tb : Tab} (h : HasB tb) (h49 : tb 49 = some f_clash) {lot : List Box} (hl : LotOk lot) (hlot : lot.length ≤ 6) {w : Nat} (hw : w ≤ 12) {m : Nat} (hm : m ≤ 3) {d : Nat} (hd : m + 3 < d) : callN tb d 49 [lotD lot, .int (m : Int), .int (w : Int)] = .ok (clashD (bookOf lot (allC (lot.map (·.1)) w m))) := by
  match d, hd with
  | d + 4, hd =>
    have sz : SZ = 16000000 := rfl
    rw [callN_at h49]
    refine run_of rfl ?_
    unfold f_clash
    clean_wf
    have e47 : callN tb (d + 3) 47 [lotD lot, .int (m : Int), .int (w : Int)] = .ok (bookD (bookOf lot (allC (lot.map (·.1)) w m))) := lots_ok h hl hlot hw hm (by omega)
    have hlen := allC_len (ns := lot.map (·.1)) (by rw [List.length_map]; exact hlot) hw hm
    have ok := bookOf_ok hl (show w ≤ 1000 by omega) hm (allC (lot.map (·.1)) w m) fun _ h => h
    generalize bookOf lot (allC (lot.map (·.1)) w m) = b at *
    generalize (allC (lot.map (·.1)) w m).length = n at *
    have e48 : callN tb (d + 3) 48 [bookD b] = .ok (.list ((clashT b).map tx)) := clashing_ok h.h48 (d + 2) ok (by omega)
    decreasing_trivial
    decreasing_trivial
    unfold clashD
    have hmem := fun t => clashT_mem (b := b) (t := t)
    generalize clashT b = ts at *
    match ts with
    | [] =>
      refine wp_if (k := true) (by simp_wf) ?_ (fun _ => ?_) (fun z => nomatch z)
      · exact ev_cmpE (ev_b1 (ev_varE rfl) rfl rfl) ev_cstE rfl
      · exact wp_ret rfl ev_cstE rfl
    | t :: r =>
      obtain ⟨xs, hx, hx2⟩ := hmem t List.mem_cons_self
      refine wp_if (k := false) (by simp_wf) ?_ (fun z => nomatch z) (fun _ => wp_nil (thn_nx ?_))
      · refine ev_cmpE (ev_b1 (ev_varE rfl) rfl (o_lenL _)) ev_cstE ?_
        rw [o_eqI, decide_eq_false]
        rw [List.length_cons]
        omega
      · have hxl := (ok.each _ hx).1
        have i := idx_book ok hx
        have g : getB b t = some xs := getB_mem ok.nd hx
        have i0 : idxD (.list (tx t :: r.map tx)) (.int 0) = .ok (tx t) := idx_at (enc := tx) (L := t :: r) (k := 0) (Nat.zero_lt_succ _)
        have s0 : b1D .sorted (.list (xs.map strsD)) = .ok (.list ((sortE strsD xs).map strsD)) := sort_ok ordd_names (by decide) knd_names (by have : xs.length ≤ n := hxl; omega)
        have s1 : slcD (.list ((sortE strsD xs).map strsD)) none (some 2) = .ok (.list (((sortE strsD xs).take 2).map strsD)) := by
          rw [o_slcL, cut_map]
          exact congrArg (fun z => R.ok (PyData.list (List.map strsD z))) (cut_take _ 2)
        have s2 : b1D .tuple (.list (((sortE strsD xs).take 2).map strsD)) = .ok (.tuple (((sortE strsD xs).take 2).map strsD)) := rfl
        have s3 : binD .Add (.tuple [tx t]) (.tuple (((sortE strsD xs).take 2).map strsD)) = .ok (.tuple (tx t :: ((sortE strsD xs).take 2).map strsD)) := o_addU (by
          rw [List.length_map, List.length_take, List.length_cons, List.length_nil]
          omega)
        show Wp _ fun x => x = .ok (.rt (.tuple (tx t :: ((sortE strsD ((getB b t).getD [])).take 2).map strsD)))
        rw [g]
        refine wp_ret (x := .tuple (tx t :: ((sortE strsD xs).take 2).map strsD)) (by simp_wf) ?_ rfl
        infer_instance
theorem clashes_ok {tb : Tab} (h : HasB tb) (h50 : tb 50 = some f_clashes) {lot : List Box} (hl : LotOk lot) (hlot : lot.length ≤ 6) {w : Nat} (hw : w ≤ 12) {m : Nat} (hm : m ≤ 3) {d : Nat} (hd : m + 3 < d) : callN tb d 50 [lotD lot, .int (m : Int), .int (w : Int)] = .ok (.int ((clashT (bookOf lot (allC (lot.map (·.1)) w m))).length : Int)) := by
  match d, hd with
  | d + 4, hd =>
    rw [callN_at h50]
    refine run_of rfl ?_
    unfold f_clashes
    clean_wf
    have e47 : callN tb (d + 3) 47 [lotD lot, .int (m : Int), .int (w : Int)] = .ok (bookD (bookOf lot (allC (lot.map (·.1)) w m))) := lots_ok h hl hlot hw hm (by omega)
    have hlen := allC_len (ns := lot.map (·.1)) (by rw [List.length_map]; exact hlot) hw hm
    have ok := bookOf_ok hl (show w ≤ 1000 by omega) hm (allC (lot.map (·.1)) w m) fun _ h => h
    have e48 : callN tb (d + 3) 48 [bookD (bookOf lot (allC (lot.map (·.1)) w m))] = .ok (.list ((clashT (bookOf lot (allC (lot.map (·.1)) w m))).map tx)) := clashing_ok h.h48 (d + 2) ok (by omega)
    refine wp_ret (by simp_wf) ?_ rfl
    infer_instance
theorem clashD_none (b : Bk) : cmpB .Is (clashD b) .none = .ok (clashT b).isEmpty := by
  unfold clashD
  cases clashT b <;> rfl
theorem apart_ok {tb : Tab} (h : HasB tb) (h49 : tb 49 = some f_clash) (h51 : tb 51 = some f_are_apart) {lot : List Box} (hl : LotOk lot) (hlot : lot.length ≤ 6) {w : Nat} (hw : w ≤ 12) {m : Nat} (hm : m ≤ 3) {d : Nat} (hd : m + 4 < d) : callN tb d 51 [lotD lot, .int (m : Int), .int (w : Int)] = .ok (.bool (clashT (bookOf lot (allC (lot.map (·.1)) w m))).isEmpty) := by
  match d, hd with
  | d + 5, hd =>
    rw [callN_at h51]
    refine run_of rfl ?_
    unfold f_are_apart
    clean_wf
    have e49 : callN tb (d + 4) 49 [lotD lot, .int (m : Int), .int (w : Int)] = .ok (clashD (bookOf lot (allC (lot.map (·.1)) w m))) := clash_ok h h49 hl hlot hw hm (by omega)
    have e := clashD_none (bookOf lot (allC (lot.map (·.1)) w m))
    refine wp_ret (by simp_wf) ?_ rfl
    infer_instance
end TD
namespace TD
open PySem PySem.Spec PyProof.Rows L2
/-! ### the text of the law -/
def tops (i : Nat) : Stmt := PySem.Challenge.pw_tapdeal_k20_clashes.main.body.getD i (.Pass ⟨0, 0, 0, 0⟩)
def dfns : List Dfn := [
  ⟨20, "beats", tops 7, ["number"], f_beats, false⟩,
  ⟨32, "number_for", tops 9, ["lot", "name"], f_number_for, false⟩,
  ⟨33, "heard", tops 10, ["lot", "calls"], f_heard, false⟩,
  ⟨35, "calls_from", tops 11, ["lot", "first", "many", "wait"], f_calls_from, false⟩,
  ⟨36, "all_calls", tops 12, ["lot", "many", "wait"], f_all_calls, false⟩,
  ⟨39, "names_of", tops 14, ["calls"], f_names_of, false⟩,
  ⟨47, "lots_by_text", tops 16, ["lot", "many", "wait"], f_lots_by_text, false⟩,
  ⟨48, "clashing_texts", tops 17, ["book"], f_clashing_texts, true⟩,
  ⟨49, "clash", tops 18, ["lot", "many", "wait"], f_clash, false⟩,
  ⟨50, "clashes", tops 19, ["lot", "many", "wait"], f_clashes, false⟩,
  ⟨51, "are_apart", tops 20, ["lot", "many", "wait"], f_are_apart, false⟩,
  ⟨7, "_law_drawn", tops 24, ["number", "k"], f__law_drawn, false⟩,
  ⟨8, "_law_number", tops 25, ["number", "most"], f__law_number, false⟩,
  ⟨9, "_law_lot", tops 26, ["number", "boxes", "most"], f__law_lot, false⟩,
  ⟨10, "_law_beats", tops 27, ["number"], f__law_beats, false⟩,
  ⟨11, "_law_heard", tops 28, ["lot", "calls"], f__law_heard, false⟩,
  ⟨37, "_law_every", tops 30, ["lot", "many", "wait"], f__law_every, false⟩]
def gvs (x : Str) : Option PyData := ([("TAP", (.str "1")), ("QUIET", (.str "0")), ("PAUSE", (.str "000"))] : List (Str × PyData)).lookup x
def ges (x : Str) : Option Nat := ([("NoName", 1)] : List (Str × Nat)).lookup x
def lawN : List Str := ["script", "lot", "number", "many", "wait", "book", "calls", "bad", "due", "got", "text", "names", "some", "one", "other", "call"]
def lawB : Ss :=
  (.cons (.asg (.nm 1) (.fn 9 (.cons (.mix 0 (.cst (.int 0))) (.cons (.cst (.int 4)) (.cons (.cst (.int 2)) .nil))))) (.cons (.asg (.nm 2) (.mix 0 (.cst (.int 1)))) (.cons (.asg (.nm 3) (.bin .Add (.cst (.int 1)) (.bin .Mod (.bin .FloorDiv (.var 2) (.cst (.int 16))) (.cst (.int 3))))) (.cons (.asg (.nm 4) (.bin .Mod (.bin .FloorDiv (.var 2) (.cst (.int 64))) (.idx (.tup (.cons (.cst (.int 13)) (.cons (.cst (.int 9)) (.cons (.cst (.int 3)) .nil)))) (.bin .Sub (.var 3) (.cst (.int 1)))))) (.cons (.asg (.nm 5) .dic) (.cons (.fore (.nm 6) (.val (.fn 37 (.cons (.var 1) (.cons (.var 3) (.cons (.var 4) .nil))))) (.cons (.asg (.nm 10) (.fn 11 (.cons (.var 1) (.cons (.var 6) .nil)))) (.cons (.asg (.nm 11) (.b1 .tuple (.cmp0 (.idx (.var 15) (.cst (.int 0))) (.nm 15) (.val (.var 6))))) (.cons (.asg (.nm 12) (.mt .get (.var 5) (.cons (.var 10) (.cons (.lst .nil) .nil)))) (.cons (.ife (.cmp .NotIn (.var 11) (.var 12)) (.cons (.seti 5 (.var 10) (.bin .Add (.var 12) (.lst (.cons (.var 11) .nil)))) .nil) .nil) .nil))))) (.cons (.asg (.nm 7) (.b1 .sorted (.cmp1 (.tup (.cons (.b1 .len (.var 10)) (.cons (.var 10) .nil))) (.nm 10) (.val (.var 5)) (.cmp .Gt (.b1 .len (.idx (.var 5) (.var 10))) (.cst (.int 1)))))) (.cons (.asg (.nm 8) (.cst .none)) (.cons (.ife (.cmp .NotEq (.var 7) (.lst .nil)) (.cons (.asg (.nm 10) (.idx (.idx (.var 7) (.cst (.int 0))) (.cst (.int 1)))) (.cons (.asg (.tp [13, 14]) (.slc (.b1 .sorted (.idx (.var 5) (.var 10))) .non (.cst (.int 2)))) (.cons (.asg (.nm 8) (.tup (.cons (.var 10) (.cons (.var 13) (.cons (.var 14) .nil))))) .nil))) .nil) (.cons (.asg (.nm 9) (.fn 51 (.cons (.var 1) (.cons (.var 3) (.cons (.var 4) .nil))))) (.cons (.ife (.or (.not (.b1 (.isi 1) (.var 9))) (.one (.cmp .NotEq (.var 9) (.cmp .Eq (.var 7) (.lst .nil))))) (.cons (.ret (.cst (.bool false))) .nil) .nil) (.cons (.ret (.and (.cmp .Eq (.fn 49 (.cons (.var 1) (.cons (.var 3) (.cons (.var 4) .nil)))) (.var 8)) (.one (.cmp .Eq (.fn 50 (.cons (.var 1) (.cons (.var 3) (.cons (.var 4) .nil)))) (.b1 .len (.var 7)))))) .nil))))))))))))
theorem dfns_nd : (dfns.map (·.code)).Nodup := by decide +kernel
theorem dfns_ok : dfns.all (okD dfns gvs ges) = true := by decide +kernel
theorem lawS_ok : scB lawN ["script"] (defScope (tops 31)) = true := by decide +kernel
theorem lawB_ok : ckSs (sxOf dfns gvs ges lawN (defScope (tops 31)) false false) lawB (defBody (tops 31)) = true := by decide +kernel
/-! ### drawn numbers -/
theorem scCell : FnScope ["script", "k"] ["script", "k"] (defScope (tops 22)) := scB_ok (by decide +kernel)
theorem scMixed : FnScope ["script", "k", "drawn"] ["script", "k"] (defScope (tops 23)) := scB_ok (by decide +kernel)
def cellA (ns : List Int) (k : Int) : Int := if k < (ns.length : Int) then ns.getD k.toNat 0 else 0
def spCellA (K : PySem.W.Frag) : Sp := fun vs H Q _ => ∃ (a : Addr) (ns : List Int) (k : Int), vs = [.ref a, .int k] ∧ SqL K H a (ns.map V.int) ∧ 0 ≤ k ∧ Q (.int (cellA ns k)) H
section
variable [Tb] {P : Program} {w : World} {K : PySem.W.Frag} {mg : Str → Option Value} {base : Heap}
omit [Tb] in
theorem ok_cell {f : Addr} {fd : FuncData} (F : Fun K "_law_cell_at" "_law_cell_at" (tops 22) f fd) (ml : mg "len" = none) : FnOk P w K mg base CX0 2 f fd ["script", "k"] (spCellA K) := by
  refine F.ok scCell (fun vs H Q E h => ?_) (fun cdv A outer s H vs Q E hr h => ?_)
  · obtain ⟨a, ns, k, rfl, _⟩ := h
    rfl
  · obtain ⟨a, ns, k, rfl, hS, hk, q⟩ := h
    refine ⟨_, pss_cons (ps_if (pt_cmpR op_lt (pv 1) (pe_callB call_len_seq (by rfl) ml PySem.boot_len (pa_cons (pv 0) pa_nil)) (nomark _)) (pss_one (ps_ret (pe_ix ix_list (pv 0) (pv 1) (fun _ _ => rfl)))) pss_nil) (pss_one (ps_ret pe_int)), ?_⟩
    refine ⟨.int k, rfl, .ref a, rfl, a, ns.map V.int, rfl, .inl hS, k, _, rfl, rfl, _, rfl, ?_⟩
    have hl : (((ns.map V.int).length : Nat) : Int) = (ns.length : Int) := by rw [List.length_map]
    by_cases hlt : k < (ns.length : Int)
    · have hd : decide (k < (((ns.map V.int).length : Nat) : Int)) = true := decide_eq_true (by rw [hl]; exact hlt)
      rw [hd]
      have e : cellA ns k = ns.getD k.toNat 0 := if_pos hlt
      rw [e] at q
      have hj : k.toNat < ns.length := by omega
      refine ⟨.ref a, rfl, .int k, rfl, a, ns.map V.int, k, .int (ns.getD k.toNat 0), rfl, rfl, hS, ?_, q⟩
      have ek : k = ((k.toNat : Nat) : Int) := by omega
      rw [ek]
      refine atI_nat ?_
      rw [Int.toNat_natCast, List.getElem?_map, List.getElem?_eq_getElem hj]
      simp [hj]
    · have hd : decide (k < (((ns.map V.int).length : Nat) : Int)) = false := decide_eq_false (by rw [hl]; exact hlt)
      rw [hd]
      have e : cellA ns k = 0 := if_neg hlt
      rw [e] at q
      exact q
theorem ok_mixed {f fc : Addr} {fd fdc : FuncData} (F : Fun K "_law_mixed" "_law_mixed" (tops 23) f fd) (Fc : Fun K "_law_cell_at" "_law_cell_at" (tops 22) fc fdc) (bc : Binds K fdc ["script", "k"] []) (gc : mg "_law_cell_at" = some (.ref fc)) (ml : mg "len" = none) : FnOk P w K mg base CX0 3 f fd ["script", "k"] (spMix K) := by
  have GC : FnOk P w K mg base CX0 2 fc fdc ["script", "k"] (spCellA K) := ok_cell Fc ml
  refine F.ok scMixed (fun vs H Q E h => ?_) (fun cdv A outer s H vs Q E hr h => ?_)
  · obtain ⟨a, ns, k, rfl, _⟩ := h
    rfl
  · obtain ⟨a, ns, k, rfl, hS, hk, hk2, q⟩ := h
    refine ⟨_, pss_cons (ps_set (i := 2) scMixed.nd rfl (.inl rfl) (pe_op op_mod (pe_op op_mul (pe_op op_add (pe_op op_add (pe_call GC hr (by rfl) gc Fc.kp bc .nil pass0 (pa_cons (pv 0) (pa_cons (pv 1) pa_nil))) (pe_op op_mul pe_int (pv 1))) pe_int) pe_int) pe_int))
      (pss_one (ps_ret (pe_op op_mod (pe_op op_add (pe_op op_add (pe_op op_mul (pv 2) (pv 2)) (pe_op op_mul pe_int (pv 2))) (pv 1)) pe_int))), ?_⟩
    refine ⟨.ref a, rfl, .int k, rfl, a, ns, k, rfl, hS, hk, ?_⟩
    have h1 : 0 ≤ (cellA ns k + 7919 * k + 1) * 48271 % 2147483647 := Int.emod_nonneg _ (by decide)
    have h2 : (cellA ns k + 7919 * k + 1) * 48271 % 2147483647 < 2147483647 := Int.emod_lt_of_pos _ (by decide)
    have hc : ∀ j : Int, CMul ((cellA ns k + 7919 * k + 1) * 48271 % 2147483647) j := fun j => .inl ⟨by omega, by omega⟩
    refine ⟨.int k, rfl, 7919, k, rfl, rfl, .inl ⟨by decide, by decide⟩, _, _, rfl, rfl, _, _, rfl, rfl, _, 48271, rfl, rfl, .inr ⟨by decide, by decide⟩, _, 2147483647, rfl, rfl, (show (0 : Int) < 2147483647 from by decide), ?_⟩
    refine ⟨_, rfl, _, rfl, _, _, rfl, rfl, hc _, _, rfl, 7, _, rfl, rfl, .inl ⟨by decide, by decide⟩, _, _, rfl, rfl, .int k, rfl, _, k, rfl, rfl, _, 2147483629, rfl, rfl, (show (0 : Int) < 2147483629 from by decide), ?_⟩
    exact q H (Gr.refl H)

end
/-! ### what the top has written -/
theorem all_mk {l : PySem.W.OpenLaw} {w : World} {K : PySem.W.Frag} {h : Heap} {mg : Str → Option Value} {fa : Addr} (KX : K.In h) (G : h.Ns mainGlobals mg) (hfa : mg "law" = some (.ref fa)) (lm : ∀ ns : List Int, ns.length ≤ 63 → lawOk (tbOf dfns) 12 lawN lawB ns)
    (own : ∀ (y : Str) (f : Addr), y ∈ (["clashing_texts"] : List Str) → mg y = some (.ref f) → LamX.OwnTab K f h)
    {f0 : Addr} {od0 an0 : Option Addr} {sl0 : Array (Option Value)} {oc0 kV0 dc0 pm0 ct0 : Value} {cd0 : Value}
    (a0 : PySem.W.nsIn K mainGlobals "beats" = some (some (.ref f0)))
    (l0 : K.lookup f0 = some ⟨oc0, od0, .func (PySem.W.fnOf "beats" "beats" (defArgs (tops 7)) (defBody (tops 7)) (defScope (tops 7)) .none kV0 dc0 pm0 an0 cd0 ct0), sl0⟩)
    (c0 : PySem.W.codeIn K cd0 "beats" = true)
    (k0 : PySem.W.keepIn K (.ref f0) = true)
    {f1 : Addr} {od1 an1 : Option Addr} {sl1 : Array (Option Value)} {oc1 kV1 dc1 pm1 ct1 : Value} {cd1 : Value}
    (a1 : PySem.W.nsIn K mainGlobals "number_for" = some (some (.ref f1)))
    (l1 : K.lookup f1 = some ⟨oc1, od1, .func (PySem.W.fnOf "number_for" "number_for" (defArgs (tops 9)) (defBody (tops 9)) (defScope (tops 9)) .none kV1 dc1 pm1 an1 cd1 ct1), sl1⟩)
    (c1 : PySem.W.codeIn K cd1 "number_for" = true)
    (k1 : PySem.W.keepIn K (.ref f1) = true)
    {f2 : Addr} {od2 an2 : Option Addr} {sl2 : Array (Option Value)} {oc2 kV2 dc2 pm2 ct2 : Value} {cd2 : Value}
    (a2 : PySem.W.nsIn K mainGlobals "heard" = some (some (.ref f2)))
    (l2 : K.lookup f2 = some ⟨oc2, od2, .func (PySem.W.fnOf "heard" "heard" (defArgs (tops 10)) (defBody (tops 10)) (defScope (tops 10)) .none kV2 dc2 pm2 an2 cd2 ct2), sl2⟩)
    (c2 : PySem.W.codeIn K cd2 "heard" = true)
    (k2 : PySem.W.keepIn K (.ref f2) = true)
    {f3 : Addr} {od3 an3 : Option Addr} {sl3 : Array (Option Value)} {oc3 kV3 dc3 pm3 ct3 : Value} {cd3 : Value}
    (a3 : PySem.W.nsIn K mainGlobals "calls_from" = some (some (.ref f3)))
    (l3 : K.lookup f3 = some ⟨oc3, od3, .func (PySem.W.fnOf "calls_from" "calls_from" (defArgs (tops 11)) (defBody (tops 11)) (defScope (tops 11)) .none kV3 dc3 pm3 an3 cd3 ct3), sl3⟩)
    (c3 : PySem.W.codeIn K cd3 "calls_from" = true)
    (k3 : PySem.W.keepIn K (.ref f3) = true)
    {f4 : Addr} {od4 an4 : Option Addr} {sl4 : Array (Option Value)} {oc4 kV4 dc4 pm4 ct4 : Value} {cd4 : Value}
    (a4 : PySem.W.nsIn K mainGlobals "all_calls" = some (some (.ref f4)))
    (l4 : K.lookup f4 = some ⟨oc4, od4, .func (PySem.W.fnOf "all_calls" "all_calls" (defArgs (tops 12)) (defBody (tops 12)) (defScope (tops 12)) .none kV4 dc4 pm4 an4 cd4 ct4), sl4⟩)
    (c4 : PySem.W.codeIn K cd4 "all_calls" = true)
    (k4 : PySem.W.keepIn K (.ref f4) = true)
    {f5 : Addr} {od5 an5 : Option Addr} {sl5 : Array (Option Value)} {oc5 kV5 dc5 pm5 ct5 : Value} {cd5 : Value}
    (a5 : PySem.W.nsIn K mainGlobals "names_of" = some (some (.ref f5)))
    (l5 : K.lookup f5 = some ⟨oc5, od5, .func (PySem.W.fnOf "names_of" "names_of" (defArgs (tops 14)) (defBody (tops 14)) (defScope (tops 14)) .none kV5 dc5 pm5 an5 cd5 ct5), sl5⟩)
    (c5 : PySem.W.codeIn K cd5 "names_of" = true)
    (k5 : PySem.W.keepIn K (.ref f5) = true)
    {f6 : Addr} {od6 an6 : Option Addr} {sl6 : Array (Option Value)} {oc6 kV6 dc6 pm6 ct6 : Value} {cd6 : Value}
    (a6 : PySem.W.nsIn K mainGlobals "lots_by_text" = some (some (.ref f6)))
    (l6 : K.lookup f6 = some ⟨oc6, od6, .func (PySem.W.fnOf "lots_by_text" "lots_by_text" (defArgs (tops 16)) (defBody (tops 16)) (defScope (tops 16)) .none kV6 dc6 pm6 an6 cd6 ct6), sl6⟩)
    (c6 : PySem.W.codeIn K cd6 "lots_by_text" = true)
    (k6 : PySem.W.keepIn K (.ref f6) = true)
    {f7 : Addr} {od7 an7 : Option Addr} {sl7 : Array (Option Value)} {oc7 kV7 dc7 pm7 ct7 : Value} {q7 P7 : Addr} {ce7 : Value} {cdd7 : Option Addr} {cvs7 : Array Value} {csl7 : Array (Option Value)}
    (a7 : PySem.W.nsIn K mainGlobals "clashing_texts" = some (some (.ref f7)))
    (l7 : K.lookup f7 = some ⟨oc7, od7, .func (PySem.W.fnOf "clashing_texts" "clashing_texts" (defArgs (tops 17)) (defBody (tops 17)) (defScope (tops 17)) .none kV7 dc7 pm7 an7 (.ref q7) ct7), sl7⟩)
    (c7 : PySem.W.codeIn K (.ref q7) "clashing_texts" = true)
    (k7 : PySem.W.keepIn K (.ref f7) = true)
    (x7 : K.lookup q7 = some ⟨ce7, cdd7, .fields cvs7, csl7⟩)
    (p7 : cvs7[11]? = some (.ref P7))
    (h7 : PySem.W.codeHdIn K q7 P7 = true)
    (n7 : K.lookup P7 = none)
    {f8 : Addr} {od8 an8 : Option Addr} {sl8 : Array (Option Value)} {oc8 kV8 dc8 pm8 ct8 : Value} {cd8 : Value}
    (a8 : PySem.W.nsIn K mainGlobals "clash" = some (some (.ref f8)))
    (l8 : K.lookup f8 = some ⟨oc8, od8, .func (PySem.W.fnOf "clash" "clash" (defArgs (tops 18)) (defBody (tops 18)) (defScope (tops 18)) .none kV8 dc8 pm8 an8 cd8 ct8), sl8⟩)
    (c8 : PySem.W.codeIn K cd8 "clash" = true)
    (k8 : PySem.W.keepIn K (.ref f8) = true)
    {f9 : Addr} {od9 an9 : Option Addr} {sl9 : Array (Option Value)} {oc9 kV9 dc9 pm9 ct9 : Value} {cd9 : Value}
    (a9 : PySem.W.nsIn K mainGlobals "clashes" = some (some (.ref f9)))
    (l9 : K.lookup f9 = some ⟨oc9, od9, .func (PySem.W.fnOf "clashes" "clashes" (defArgs (tops 19)) (defBody (tops 19)) (defScope (tops 19)) .none kV9 dc9 pm9 an9 cd9 ct9), sl9⟩)
    (c9 : PySem.W.codeIn K cd9 "clashes" = true)
    (k9 : PySem.W.keepIn K (.ref f9) = true)
    {f10 : Addr} {od10 an10 : Option Addr} {sl10 : Array (Option Value)} {oc10 kV10 dc10 pm10 ct10 : Value} {cd10 : Value}
    (a10 : PySem.W.nsIn K mainGlobals "are_apart" = some (some (.ref f10)))
    (l10 : K.lookup f10 = some ⟨oc10, od10, .func (PySem.W.fnOf "are_apart" "are_apart" (defArgs (tops 20)) (defBody (tops 20)) (defScope (tops 20)) .none kV10 dc10 pm10 an10 cd10 ct10), sl10⟩)
    (c10 : PySem.W.codeIn K cd10 "are_apart" = true)
    (k10 : PySem.W.keepIn K (.ref f10) = true)
    {f11 : Addr} {od11 an11 : Option Addr} {sl11 : Array (Option Value)} {oc11 kV11 dc11 pm11 ct11 : Value} {cd11 : Value}
    (a11 : PySem.W.nsIn K mainGlobals "_law_drawn" = some (some (.ref f11)))
    (l11 : K.lookup f11 = some ⟨oc11, od11, .func (PySem.W.fnOf "_law_drawn" "_law_drawn" (defArgs (tops 24)) (defBody (tops 24)) (defScope (tops 24)) .none kV11 dc11 pm11 an11 cd11 ct11), sl11⟩)
    (c11 : PySem.W.codeIn K cd11 "_law_drawn" = true)
    (k11 : PySem.W.keepIn K (.ref f11) = true)
    {f12 : Addr} {od12 an12 : Option Addr} {sl12 : Array (Option Value)} {oc12 kV12 dc12 pm12 ct12 : Value} {cd12 : Value}
    (a12 : PySem.W.nsIn K mainGlobals "_law_number" = some (some (.ref f12)))
    (l12 : K.lookup f12 = some ⟨oc12, od12, .func (PySem.W.fnOf "_law_number" "_law_number" (defArgs (tops 25)) (defBody (tops 25)) (defScope (tops 25)) .none kV12 dc12 pm12 an12 cd12 ct12), sl12⟩)
    (c12 : PySem.W.codeIn K cd12 "_law_number" = true)
    (k12 : PySem.W.keepIn K (.ref f12) = true)
    {f13 : Addr} {od13 an13 : Option Addr} {sl13 : Array (Option Value)} {oc13 kV13 dc13 pm13 ct13 : Value} {cd13 : Value}
    (a13 : PySem.W.nsIn K mainGlobals "_law_lot" = some (some (.ref f13)))
    (l13 : K.lookup f13 = some ⟨oc13, od13, .func (PySem.W.fnOf "_law_lot" "_law_lot" (defArgs (tops 26)) (defBody (tops 26)) (defScope (tops 26)) .none kV13 dc13 pm13 an13 cd13 ct13), sl13⟩)
    (c13 : PySem.W.codeIn K cd13 "_law_lot" = true)
    (k13 : PySem.W.keepIn K (.ref f13) = true)
    {f14 : Addr} {od14 an14 : Option Addr} {sl14 : Array (Option Value)} {oc14 kV14 dc14 pm14 ct14 : Value} {cd14 : Value}
    (a14 : PySem.W.nsIn K mainGlobals "_law_beats" = some (some (.ref f14)))
    (l14 : K.lookup f14 = some ⟨oc14, od14, .func (PySem.W.fnOf "_law_beats" "_law_beats" (defArgs (tops 27)) (defBody (tops 27)) (defScope (tops 27)) .none kV14 dc14 pm14 an14 cd14 ct14), sl14⟩)
    (c14 : PySem.W.codeIn K cd14 "_law_beats" = true)
    (k14 : PySem.W.keepIn K (.ref f14) = true)
    {f15 : Addr} {od15 an15 : Option Addr} {sl15 : Array (Option Value)} {oc15 kV15 dc15 pm15 ct15 : Value} {cd15 : Value}
    (a15 : PySem.W.nsIn K mainGlobals "_law_heard" = some (some (.ref f15)))
    (l15 : K.lookup f15 = some ⟨oc15, od15, .func (PySem.W.fnOf "_law_heard" "_law_heard" (defArgs (tops 28)) (defBody (tops 28)) (defScope (tops 28)) .none kV15 dc15 pm15 an15 cd15 ct15), sl15⟩)
    (c15 : PySem.W.codeIn K cd15 "_law_heard" = true)
    (k15 : PySem.W.keepIn K (.ref f15) = true)
    {f16 : Addr} {od16 an16 : Option Addr} {sl16 : Array (Option Value)} {oc16 kV16 dc16 pm16 ct16 : Value} {cd16 : Value}
    (a16 : PySem.W.nsIn K mainGlobals "_law_every" = some (some (.ref f16)))
    (l16 : K.lookup f16 = some ⟨oc16, od16, .func (PySem.W.fnOf "_law_every" "_law_every" (defArgs (tops 30)) (defBody (tops 30)) (defScope (tops 30)) .none kV16 dc16 pm16 an16 cd16 ct16), sl16⟩)
    (c16 : PySem.W.codeIn K cd16 "_law_every" = true)
    (k16 : PySem.W.keepIn K (.ref f16) = true)
    {f17 : Addr} {od17 an17 : Option Addr} {sl17 : Array (Option Value)} {oc17 kV17 dc17 pm17 ct17 : Value} {cd17 : Value}
    (a17 : PySem.W.nsIn K mainGlobals "_law_cell_at" = some (some (.ref f17)))
    (l17 : K.lookup f17 = some ⟨oc17, od17, .func (PySem.W.fnOf "_law_cell_at" "_law_cell_at" (defArgs (tops 22)) (defBody (tops 22)) (defScope (tops 22)) .none kV17 dc17 pm17 an17 cd17 ct17), sl17⟩)
    (c17 : PySem.W.codeIn K cd17 "_law_cell_at" = true)
    (k17 : PySem.W.keepIn K (.ref f17) = true)
    {f18 : Addr} {od18 an18 : Option Addr} {sl18 : Array (Option Value)} {oc18 kV18 dc18 pm18 ct18 : Value} {cd18 : Value}
    (a18 : PySem.W.nsIn K mainGlobals "_law_mixed" = some (some (.ref f18)))
    (l18 : K.lookup f18 = some ⟨oc18, od18, .func (PySem.W.fnOf "_law_mixed" "_law_mixed" (defArgs (tops 23)) (defBody (tops 23)) (defScope (tops 23)) .none kV18 dc18 pm18 an18 cd18 ct18), sl18⟩)
    (c18 : PySem.W.codeIn K cd18 "_law_mixed" = true)
    (k18 : PySem.W.keepIn K (.ref f18) = true)
    {f19 : Addr} {od19 an19 : Option Addr} {sl19 : Array (Option Value)} {oc19 kV19 dc19 pm19 ct19 : Value} {cd19 : Value}
    (a19 : PySem.W.nsIn K mainGlobals "law" = some (some (.ref f19)))
    (l19 : K.lookup f19 = some ⟨oc19, od19, .func (PySem.W.fnOf "law" "law" (defArgs (tops 31)) (defBody (tops 31)) (defScope (tops 31)) .none kV19 dc19 pm19 an19 cd19 ct19), sl19⟩)
    (c19 : PySem.W.codeIn K cd19 "law" = true)
    (k19 : PySem.W.keepIn K (.ref f19) = true)
    {t0 : Tok} (g0 : PySem.W.nsIn K mainGlobals "TAP" = some (some (.str "1" t0)))
    {t1 : Tok} (g1 : PySem.W.nsIn K mainGlobals "QUIET" = some (some (.str "0" t1)))
    {t2 : Tok} (g2 : PySem.W.nsIn K mainGlobals "PAUSE" = some (some (.str "000" t2)))
    (z0 : PySem.W.nsIn K mainGlobals "len" = some none)
    (z1 : PySem.W.nsIn K mainGlobals "sum" = some none)
    (z2 : PySem.W.nsIn K mainGlobals "abs" = some none)
    (z3 : PySem.W.nsIn K mainGlobals "min" = some none)
    (z4 : PySem.W.nsIn K mainGlobals "max" = some none)
    (z5 : PySem.W.nsIn K mainGlobals "sorted" = some none)
    (z6 : PySem.W.nsIn K mainGlobals "all" = some none)
    (z7 : PySem.W.nsIn K mainGlobals "any" = some none)
    (z8 : PySem.W.nsIn K mainGlobals "list" = some none)
    (z9 : PySem.W.nsIn K mainGlobals "tuple" = some none)
    (z10 : PySem.W.nsIn K mainGlobals "dict" = some none)
    (z11 : PySem.W.nsIn K mainGlobals "int" = some none)
    (z12 : PySem.W.nsIn K mainGlobals "str" = some none)
    (z13 : PySem.W.nsIn K mainGlobals "range" = some none)
    (z14 : PySem.W.nsIn K mainGlobals "enumerate" = some none)
    (z15 : PySem.W.nsIn K mainGlobals "zip" = some none)
    (z16 : PySem.W.nsIn K mainGlobals "isinstance" = some none)
    (z17 : PySem.W.nsIn K mainGlobals "repr" = some none)
    (z18 : PySem.W.nsIn K mainGlobals "set" = some none)
    (z19 : PySem.W.nsIn K mainGlobals "bool" = some none)
    {C1 : Addr}
    (e1 : PySem.W.nsIn K mainGlobals "NoName" = some (some (.ref C1)))
    (ex1 : PySem.W.excIn K C1 [.type "ValueError", .type "Exception", .type "BaseException", .type "object"] "ValueError.__new__" = true)
    (ek1 : PySem.W.keepIn K (.ref C1) = true)
    (es1 : PySem.W.subIn K (.ref C1) (.type "BaseException") = some true)
    (et1 : PySem.W.typeIn K (.ref C1) = some (.type "type"))
    : LamX.LawAtS l w K (L2.CX l.prog w) 18 63 "script" mg fa h := by
  have e := hfa.symm.trans (PySem.W.mg_of KX G a19)
  cases e
  have F0 := func_mk (st := tops 7) l0 c0 k0
  have b0 := (fun_mk (st := tops 7) l0 c0 k0).binds (ps := ["number"]) fun _ _ _ _ _ _ us hl => match us, hl with | [_], _ => rfl
  have m0 := PySem.W.mg_of KX G a0
  have F1 := func_mk (st := tops 9) l1 c1 k1
  have b1 := (fun_mk (st := tops 9) l1 c1 k1).binds (ps := ["lot", "name"]) fun _ _ _ _ _ _ us hl => match us, hl with | [_, _], _ => rfl
  have m1 := PySem.W.mg_of KX G a1
  have F2 := func_mk (st := tops 10) l2 c2 k2
  have b2 := (fun_mk (st := tops 10) l2 c2 k2).binds (ps := ["lot", "calls"]) fun _ _ _ _ _ _ us hl => match us, hl with | [_, _], _ => rfl
  have m2 := PySem.W.mg_of KX G a2
  have F3 := func_mk (st := tops 11) l3 c3 k3
  have b3 := (fun_mk (st := tops 11) l3 c3 k3).binds (ps := ["lot", "first", "many", "wait"]) fun _ _ _ _ _ _ us hl => match us, hl with | [_, _, _, _], _ => rfl
  have m3 := PySem.W.mg_of KX G a3
  have F4 := func_mk (st := tops 12) l4 c4 k4
  have b4 := (fun_mk (st := tops 12) l4 c4 k4).binds (ps := ["lot", "many", "wait"]) fun _ _ _ _ _ _ us hl => match us, hl with | [_, _, _], _ => rfl
  have m4 := PySem.W.mg_of KX G a4
  have F5 := func_mk (st := tops 14) l5 c5 k5
  have b5 := (fun_mk (st := tops 14) l5 c5 k5).binds (ps := ["calls"]) fun _ _ _ _ _ _ us hl => match us, hl with | [_], _ => rfl
  have m5 := PySem.W.mg_of KX G a5
  have F6 := func_mk (st := tops 16) l6 c6 k6
  have b6 := (fun_mk (st := tops 16) l6 c6 k6).binds (ps := ["lot", "many", "wait"]) fun _ _ _ _ _ _ us hl => match us, hl with | [_, _, _], _ => rfl
  have m6 := PySem.W.mg_of KX G a6
  have F7 := func_mk (st := tops 17) l7 c7 k7
  have b7 := (fun_mk (st := tops 17) l7 c7 k7).binds (ps := ["book"]) fun _ _ _ _ _ _ us hl => match us, hl with | [_], _ => rfl
  have m7 := PySem.W.mg_of KX G a7
  have F8 := func_mk (st := tops 18) l8 c8 k8
  have b8 := (fun_mk (st := tops 18) l8 c8 k8).binds (ps := ["lot", "many", "wait"]) fun _ _ _ _ _ _ us hl => match us, hl with | [_, _, _], _ => rfl
  have m8 := PySem.W.mg_of KX G a8
  have F9 := func_mk (st := tops 19) l9 c9 k9
  have b9 := (fun_mk (st := tops 19) l9 c9 k9).binds (ps := ["lot", "many", "wait"]) fun _ _ _ _ _ _ us hl => match us, hl with | [_, _, _], _ => rfl
  have m9 := PySem.W.mg_of KX G a9
  have F10 := func_mk (st := tops 20) l10 c10 k10
  have b10 := (fun_mk (st := tops 20) l10 c10 k10).binds (ps := ["lot", "many", "wait"]) fun _ _ _ _ _ _ us hl => match us, hl with | [_, _, _], _ => rfl
  have m10 := PySem.W.mg_of KX G a10
  have F11 := func_mk (st := tops 24) l11 c11 k11
  have b11 := (fun_mk (st := tops 24) l11 c11 k11).binds (ps := ["number", "k"]) fun _ _ _ _ _ _ us hl => match us, hl with | [_, _], _ => rfl
  have m11 := PySem.W.mg_of KX G a11
  have F12 := func_mk (st := tops 25) l12 c12 k12
  have b12 := (fun_mk (st := tops 25) l12 c12 k12).binds (ps := ["number", "most"]) fun _ _ _ _ _ _ us hl => match us, hl with | [_, _], _ => rfl
  have m12 := PySem.W.mg_of KX G a12
  have F13 := func_mk (st := tops 26) l13 c13 k13
  have b13 := (fun_mk (st := tops 26) l13 c13 k13).binds (ps := ["number", "boxes", "most"]) fun _ _ _ _ _ _ us hl => match us, hl with | [_, _, _], _ => rfl
  have m13 := PySem.W.mg_of KX G a13
  have F14 := func_mk (st := tops 27) l14 c14 k14
  have b14 := (fun_mk (st := tops 27) l14 c14 k14).binds (ps := ["number"]) fun _ _ _ _ _ _ us hl => match us, hl with | [_], _ => rfl
  have m14 := PySem.W.mg_of KX G a14
  have F15 := func_mk (st := tops 28) l15 c15 k15
  have b15 := (fun_mk (st := tops 28) l15 c15 k15).binds (ps := ["lot", "calls"]) fun _ _ _ _ _ _ us hl => match us, hl with | [_, _], _ => rfl
  have m15 := PySem.W.mg_of KX G a15
  have F16 := func_mk (st := tops 30) l16 c16 k16
  have b16 := (fun_mk (st := tops 30) l16 c16 k16).binds (ps := ["lot", "many", "wait"]) fun _ _ _ _ _ _ us hl => match us, hl with | [_, _, _], _ => rfl
  have m16 := PySem.W.mg_of KX G a16
  have F17 := fun_mk (st := tops 22) l17 c17 k17
  have b17 := F17.binds (ps := ["script", "k"]) fun _ _ _ _ _ _ us hl => match us, hl with | [_, _], _ => rfl
  have m17 := PySem.W.mg_of KX G a17
  have F18 := fun_mk (st := tops 23) l18 c18 k18
  have b18 := F18.binds (ps := ["script", "k"]) fun _ _ _ _ _ _ us hl => match us, hl with | [_, _], _ => rfl
  have m18 := PySem.W.mg_of KX G a18
  have F19 := func_mk (st := tops 31) l19 c19 k19
  letI : Tb := ⟨[(P7, (("clashing_texts" : Str) ++ ".<locals>.") ++ "<lambda>")], fun k => match k with | 1 => .ref C1 | _ => .none⟩
  refine ⟨PySem.W.fnOf "law" "law" (defArgs (tops 31)) (defBody (tops 31)) (defScope (tops 31)) .none kV19 dc19 pm19 an19 cd19 ct19, ([(q7, P7)] : List (Addr × Addr)), spEnd K [P7] (tbOf dfns) 12 lawN lawB, List.forall_mem_cons.mpr ⟨own _ _ (by decide) (PySem.W.mg_of KX G a7) _ _ _ _ _ _ _ _ l7 rfl rfl x7 p7, fun p hp => absurd hp List.not_mem_nil⟩, List.forall_mem_cons.mpr ⟨n7, fun p hp => absurd hp List.not_mem_nil⟩, List.forall_mem_cons.mpr ⟨PySem.W.codeHd_of_K KX h7, fun p hp => absurd hp List.not_mem_nil⟩, fun s v => .of_eq rfl, fun H a ns hl _ hH hS => ⟨a, ns, rfl, hS, List.forall_mem_cons.mpr ⟨hH (q7, P7) (by simp), fun p hp => absurd hp List.not_mem_nil⟩, lm ns hl, fun _ => rfl⟩, fun base KB GB TB => ?_⟩
  have T : Tops K mg base dfns gvs ges := ⟨List.forall_mem_cons.mpr ⟨⟨_, _, _, F0, m0, b0, fun z => nomatch z⟩, List.forall_mem_cons.mpr ⟨⟨_, _, _, F1, m1, b1, fun z => nomatch z⟩, List.forall_mem_cons.mpr ⟨⟨_, _, _, F2, m2, b2, fun z => nomatch z⟩, List.forall_mem_cons.mpr ⟨⟨_, _, _, F3, m3, b3, fun z => nomatch z⟩, List.forall_mem_cons.mpr ⟨⟨_, _, _, F4, m4, b4, fun z => nomatch z⟩, List.forall_mem_cons.mpr ⟨⟨_, _, _, F5, m5, b5, fun z => nomatch z⟩, List.forall_mem_cons.mpr ⟨⟨_, _, _, F6, m6, b6, fun z => nomatch z⟩, List.forall_mem_cons.mpr ⟨⟨_, _, _, F7, m7, b7, fun z => ⟨q7, P7, rfl, TB (q7, P7) (by simp), List.mem_cons_self, List.forall_mem_cons.mpr ⟨fun e => rfl, fun p hp => absurd hp List.not_mem_nil⟩⟩⟩, List.forall_mem_cons.mpr ⟨⟨_, _, _, F8, m8, b8, fun z => nomatch z⟩, List.forall_mem_cons.mpr ⟨⟨_, _, _, F9, m9, b9, fun z => nomatch z⟩, List.forall_mem_cons.mpr ⟨⟨_, _, _, F10, m10, b10, fun z => nomatch z⟩, List.forall_mem_cons.mpr ⟨⟨_, _, _, F11, m11, b11, fun z => nomatch z⟩, List.forall_mem_cons.mpr ⟨⟨_, _, _, F12, m12, b12, fun z => nomatch z⟩, List.forall_mem_cons.mpr ⟨⟨_, _, _, F13, m13, b13, fun z => nomatch z⟩, List.forall_mem_cons.mpr ⟨⟨_, _, _, F14, m14, b14, fun z => nomatch z⟩, List.forall_mem_cons.mpr ⟨⟨_, _, _, F15, m15, b15, fun z => nomatch z⟩, List.forall_mem_cons.mpr ⟨⟨_, _, _, F16, m16, b16, fun z => nomatch z⟩, fun d hd => absurd hd List.not_mem_nil⟩⟩⟩⟩⟩⟩⟩⟩⟩⟩⟩⟩⟩⟩⟩⟩⟩, gv_all (List.forall_mem_cons.mpr ⟨⟨.str "1", _, PySem.W.mg_of KX G g0, ⟨_, rfl⟩, fun _ => .str _⟩, List.forall_mem_cons.mpr ⟨⟨.str "0", _, PySem.W.mg_of KX G g1, ⟨_, rfl⟩, fun _ => .str _⟩, List.forall_mem_cons.mpr ⟨⟨.str "000", _, PySem.W.mg_of KX G g2, ⟨_, rfl⟩, fun _ => .str _⟩, fun q hq => absurd hq List.not_mem_nil⟩⟩⟩), bi_all (List.forall_mem_cons.mpr ⟨PySem.W.mg_none_of KX G z0, List.forall_mem_cons.mpr ⟨PySem.W.mg_none_of KX G z1, List.forall_mem_cons.mpr ⟨PySem.W.mg_none_of KX G z2, List.forall_mem_cons.mpr ⟨PySem.W.mg_none_of KX G z3, List.forall_mem_cons.mpr ⟨PySem.W.mg_none_of KX G z4, List.forall_mem_cons.mpr ⟨PySem.W.mg_none_of KX G z5, List.forall_mem_cons.mpr ⟨PySem.W.mg_none_of KX G z6, List.forall_mem_cons.mpr ⟨PySem.W.mg_none_of KX G z7, List.forall_mem_cons.mpr ⟨PySem.W.mg_none_of KX G z8, List.forall_mem_cons.mpr ⟨PySem.W.mg_none_of KX G z9, List.forall_mem_cons.mpr ⟨PySem.W.mg_none_of KX G z10, List.forall_mem_cons.mpr ⟨PySem.W.mg_none_of KX G z11, List.forall_mem_cons.mpr ⟨PySem.W.mg_none_of KX G z12, List.forall_mem_cons.mpr ⟨PySem.W.mg_none_of KX G z13, List.forall_mem_cons.mpr ⟨PySem.W.mg_none_of KX G z14, List.forall_mem_cons.mpr ⟨PySem.W.mg_none_of KX G z15, List.forall_mem_cons.mpr ⟨PySem.W.mg_none_of KX G z16, List.forall_mem_cons.mpr ⟨PySem.W.mg_none_of KX G z17, List.forall_mem_cons.mpr ⟨PySem.W.mg_none_of KX G z18, List.forall_mem_cons.mpr ⟨PySem.W.mg_none_of KX G z19, fun q hq => absurd hq List.not_mem_nil⟩⟩⟩⟩⟩⟩⟩⟩⟩⟩⟩⟩⟩⟩⟩⟩⟩⟩⟩⟩), ge_all (List.forall_mem_cons.mpr ⟨⟨C1, PySem.W.mg_of KX G e1, rfl, ex1, ek1, es1, et1⟩, fun q hq => absurd hq List.not_mem_nil⟩)⟩
  have hmx : MixF l.prog w K mg base := ⟨f18, _, _, ok_mixed F18 F17 b17 m17 (PySem.W.mg_none_of KX G z0), m18, F18.kp, b18⟩
  exact fn_end (List.forall_mem_cons.mpr ⟨by simp, fun p hp => absurd hp List.not_mem_nil⟩) (law_ok T hmx dfns_ok dfns_nd lawS_ok lawB_ok F19 (fun z => nomatch z) (fun z => nomatch z))
end TD
namespace TD
open PySem
local macro_rules
  | `(tactic| infer_instance) => `(tactic| first
    | with_reducible assumption
    | with_reducible exact c_1 | with_reducible exact c_0 | with_reducible exact c_e | with_reducible exact c_000 | with_reducible exact c_tup0 | with_reducible exact c_lst0
    | with_reducible exact ev_cstE
    | with_reducible exact ev_nonE
    | with_reducible exact ev_dicE
    | ((with_reducible apply ev_varE); exact rfl)
    | ((with_reducible apply ev_bin); infer_instance; infer_instance; infer_instance)
    | ((with_reducible apply ev_negE); infer_instance)
    | ((with_reducible apply ev_notE); infer_instance)
    | ((with_reducible apply ev_one); infer_instance)
    | ((with_reducible apply ev_andE); infer_instance; intro _; infer_instance)
    | ((with_reducible apply ev_orE); infer_instance; intro _; infer_instance)
    | ((with_reducible apply ev_cmpE); infer_instance; infer_instance; infer_instance)
    | ((with_reducible apply ev_chnE); infer_instance; infer_instance; infer_instance; (intro _; infer_instance); (intro _; infer_instance))
    | ((with_reducible apply ev_tup); infer_instance)
    | ((with_reducible apply ev_lst); infer_instance)
    | ((with_reducible apply ev_idx); infer_instance; infer_instance; infer_instance)
    | ((with_reducible apply ev_slc); infer_instance; infer_instance; exact rfl; infer_instance; exact rfl; infer_instance)
    | ((with_reducible apply ev_fn); exact rfl; infer_instance; infer_instance)
    | ((with_reducible apply ev_b1); infer_instance; exact rfl; infer_instance)
    | ((with_reducible apply ev_mxE); infer_instance; infer_instance)
    | ((with_reducible apply ev_mt); infer_instance; infer_instance; infer_instance)
    | ((with_reducible apply ev_mixE); exact rfl; infer_instance; exact ⟨by decide, by decide⟩)
    | with_reducible exact evs_n
    | ((with_reducible apply evs_c); infer_instance; infer_instance)
    | ((with_reducible apply it_val); infer_instance; exact rfl; exact rfl)
    | ((with_reducible apply it_enm); infer_instance; exact rfl)
    | with_reducible exact o_addI _ _ | with_reducible exact o_subI _ _ | with_reducible exact o_divI ⟨by decide, by decide⟩ | with_reducible exact o_modI (by decide)
    | with_reducible exact o_eqI _ _ | with_reducible exact o_neI _ _ | with_reducible exact o_ltI _ _ | with_reducible exact o_gtI _ _ | with_reducible exact o_leI _ _ | with_reducible exact o_geI _ _
    | with_reducible exact o_eqB _ _ | with_reducible exact o_neB _ _
    | with_reducible exact o_eqT _ _ | with_reducible exact o_neT _ _ | with_reducible exact o_inTx _ _
    | with_reducible exact o_lenC _ | with_reducible exact o_lenLot _ | with_reducible exact o_lenN _ | with_reducible exact o_lenLM _ | with_reducible exact o_lenUM _ | with_reducible exact o_lenL _ | with_reducible exact o_lenU _
    | with_reducible exact o_eqC0 _ | with_reducible exact o_neC0 _ | with_reducible exact o_eqC _ _ | with_reducible exact o_neC _ _ | with_reducible exact o_eqN _ _ | with_reducible exact o_neN _ _ | with_reducible exact o_eqLot _ _ | with_reducible exact o_neLot _ _
    | with_reducible exact o_slcC _ _ _ | with_reducible exact o_slcLot _ _ _ | with_reducible exact o_slcN _ _ _
    | with_reducible exact o_addT (by first | assumption | omega) | with_reducible exact o_lenT (by first | assumption | omega) | with_reducible exact o_slcT (by first | assumption | omega)
    | fail "stuck")
local macro_rules
  | `(tactic| simp_wf) => `(tactic| (simp only [startE, frz, frz1, gens, gensL, gensI, isVar, inOp, bl_abs, bl_sum, bl_min, bl_max, bl_sorted, bl_list, bl_tuple, bl_dict, bl_int, bl_str, bl_repr, bl_all, bl_any, bl_sset, bl_lset, bl_sortk, bl_isi, ml_join, ml_split, ml_count, ml_index, ml_replace, ml_rstrip, ml_upper, ml_endswith, ml_lcount, cond_true, cond_false, Bool.and_true, Bool.and_false, Bool.true_and, Bool.false_and, List.append_nil, List.nil_append, List.cons_append, List.getElem?_cons_succ, List.getElem?_cons_zero, List.set_cons_succ, List.set_cons_zero, Env.put, gd_true, List.length_cons, List.length_nil, Nat.reduceAdd, Nat.reduceLT, decide_true, bindT, bindA, putAll, R.ok_bind, wipeE, T.slots, own_int, own_bool, own_none, own_tx, own_str, own_calls, own_call, own_lot, own_box, own_num, own_tup, own_lst, own_dct, fresh_lst, fresh_dic, fresh_cmp0, fresh_cmp1, fresh_add, fresh_sub, fresh_mul, fresh_div, fresh_mod, fresh_var, fresh_cst, fresh_fn, fresh_b1, fresh_idx, fresh_slc, fresh_mt, fresh_tup, fresh_told, fresh_mix, fresh_mx, fresh_rev, fresh_cmp, fresh_and, fresh_or, fresh_not, restr, List.map_cons, List.map_nil, List.replicate, Nat.reduceSub, beq_self_eq_true]; try (first | with_reducible exact rfl | exact rfl)))
local macro_rules
  | `(tactic| decreasing_trivial) => `(tactic| first
    | ((with_reducible apply wp_asg); simp_wf; infer_instance; simp_wf)
    | ((with_reducible apply wp_asgT); simp_wf; infer_instance; simp_wf)
    | ((with_reducible apply wp_par); simp_wf; infer_instance; infer_instance; simp_wf; simp_wf)
    | ((with_reducible apply wp_exp); simp_wf; infer_instance)
    | ((with_reducible apply wp_ret); simp_wf; infer_instance)
    | ((with_reducible apply wp_if); simp_wf; infer_instance)
    | with_reducible refine wp_cont ?_
    | (refine wp_nil (thn_nx ?_))
    | with_reducible refine wp_nil ?_)
local macro_rules
  | `(tactic| clean_wf) => `(tactic| simp only [startE, List.length_cons, List.length_nil, Nat.reduceAdd, Nat.reduceSub, List.replicate, List.map_cons, List.map_nil, List.cons_append, List.nil_append])
abbrev tb20 : Tab := tbOf dfns
theorem hasB20 : HasB tb20 := ⟨⟨⟨rfl, rfl, rfl⟩, rfl, rfl⟩, rfl, rfl, rfl⟩
theorem hasL20 : HasL tb20 := ⟨rfl, rfl, rfl⟩
theorem pick3 (n : Int) : ∃ k : Int, 0 < k ∧ k ≤ 13 ∧ idxD (.tuple [.int 13, .int 9, .int 3]) (.int (1 + n % 3 - 1)) = .ok (.int k) := by
  have h1 := Int.emod_nonneg n (show (3 : Int) ≠ 0 by decide)
  have h2 := Int.emod_lt_of_pos n (show (0 : Int) < 3 by decide)
  have : n % 3 = 0 ∨ n % 3 = 1 ∨ n % 3 = 2 := by omega
  rcases this with e0 | e0 | e0 <;> rw [e0]
  · exact ⟨13, by decide, by decide, rfl⟩
  · exact ⟨9, by decide, by decide, rfl⟩
  · exact ⟨3, by decide, by decide, rfl⟩
theorem get_book (b : Bk) (t : List Nat) : mtD .get (bookD b) [tx t, .list []] = .ok (.list (((getB b t).getD []).map strsD)) := by
  show gd true (R.ok ((dGet (b.map rowD) (tx t)).getD (.list []))) = _
  rw [dGet_book]
  cases getB b t <;> rfl
theorem set_book {ρ : Env} {i : Nat} {b : Bk} {n : Nat} (h : BkOk b n) (hn : n ≤ 1000000) (hi : ρ[i]? = some (some (1, bookD b))) (t : List Nat) (xs : List (List Str)) : setSlot ρ i (tx t) (.list (xs.map strsD)) = .ok (ρ.set i (some (1, bookD (setB b t xs)))) := by
  have sz : SZ = 16000000 := rfl
  have hl := h.len
  unfold setSlot
  rw [hi]
  show gd (true && decide ((b.map rowD).length < SZ)) (R.ok (ρ.set i (some (1, .dict (dPut (b.map rowD) (tx t) (.list (xs.map strsD))))))) = _
  rw [List.length_map, decide_eq_true (by omega), dPut_book h.nd]
  rfl
theorem law_math : ∀ ns : List Int, ns.length ≤ 63 → lawOk (tbOf dfns) 12 lawN lawB ns := by
  intro ns _
  have sz : SZ = 16000000 := rfl
  obtain ⟨lot, hd, e1⟩ := lot_ok hasL20 9 (mixedF ns 0) 4 2 (by decide) (by decide) (by decide) (by decide)
  have e1 : callN tb20 12 9 [.int (mixedF ns 0), .int 4, .int 2] = .ok (lotD lot) := e1
  have hl := hd.ok
  have hp := hd.lt
  have hfew : lot.length ≤ 4 := hd.few
  have m1 := Int.emod_nonneg (mixedF ns 1 / 16) (show (3 : Int) ≠ 0 by decide)
  have m2 := Int.emod_lt_of_pos (mixedF ns 1 / 16) (show (0 : Int) < 3 by decide)
  obtain ⟨k, k1, k2, e2⟩ := pick3 (mixedF ns 1 / 16)
  have w1 := Int.emod_nonneg (mixedF ns 1 / 64) (show k ≠ 0 by omega)
  have w2 := Int.emod_lt_of_pos (mixedF ns 1 / 64) k1
  have em : binD .Mod (.int (mixedF ns 1 / 64)) (.int k) = .ok (.int (mixedF ns 1 / 64 % k)) := o_modI k1
  obtain ⟨w, hw⟩ : ∃ w : Nat, mixedF ns 1 / 64 % k = (w : Int) := ⟨(mixedF ns 1 / 64 % k).toNat, by omega⟩
  obtain ⟨m, hm⟩ : ∃ m : Nat, 1 + mixedF ns 1 / 16 % 3 = (m : Int) := ⟨(1 + mixedF ns 1 / 16 % 3).toNat, by omega⟩
  have hw12 : w ≤ 12 := by omega
  have hm3 : m ≤ 3 := by omega
  rw [hw] at em
  show exs ⟨callN tb20 12, true⟩ (lawE lawN ns) lawB = _
  refine wp_eq ?_
  unfold lawE lawN lawB
  clean_wf
  decreasing_trivial
  decreasing_trivial
  generalize mixedF ns 1 = number at *
  decreasing_trivial
  decreasing_trivial
  rw [hm]
  decreasing_trivial
  have a2 : callN tb20 12 37 [lotD lot, .int (m : Int), .int (w : Int)] = .ok (.list ((allC (lot.map (·.1)) w m).map callsD)) := every_ok rfl (by omega) hp hw12 (by omega) 11
  have alen := allC_len (ns := lot.map (·.1)) (w := w) (m := m) (by rw [List.length_map]; omega) hw12 (by omega)
  have hbk := bookOf_ok hl (show w ≤ 1000 by omega) hm3
  have c1 := apart_ok hasB20 rfl rfl hl (by omega) hw12 hm3 (d := 12) (by omega)
  have c2 := clash_ok hasB20 rfl hl (by omega) hw12 hm3 (d := 12) (by omega)
  have c3 := clashes_ok hasB20 rfl hl (by omega) hw12 hm3 (d := 12) (by omega)
  refine wp_for (L := allC (lot.map (·.1)) w m) (enc := callsD) (ρ2 := [some (3, .list (ns.map PyData.int)), some (0, lotD lot), some (0, .int number), some (0, .int (m : Int)), some (0, .int (w : Int)), some (1, .dict []), none, none, none, none, none, none, none, none, none, none]) (fun dn ρ' => ρ' = [some (3, .list (ns.map PyData.int)), some (0, lotD lot), some (0, .int number), some (0, .int (m : Int)), some (0, .int (w : Int)), some (1, bookD (bookOf lot dn)), none, none, none, none, none, none, none, none, none, none]) (by simp_wf) ?_ rfl (fun dn cs rs ρ' e j => ?_) (fun ρ' j => ?_)
  · infer_instance
  · subst j
    have hin : ∀ c ∈ dn ++ [cs], c ∈ allC (lot.map (·.1)) w m := fun c hc => by
      rw [e, show dn ++ cs :: rs = (dn ++ [cs]) ++ rs from by simp]
      exact List.mem_append_left _ hc
    have hcs := hin cs (List.mem_append_right _ List.mem_cons_self)
    have hdl : dn.length ≤ 500000 := by
      have := congrArg List.length e
      rw [List.length_append, List.length_cons] at this
      omega
    obtain ⟨g, ok⟩ := allC_ok (show w ≤ 1000 by omega) hm3 hcs
    have hbd := hbk dn fun c hc => hin c (List.mem_append_left _ hc)
    have e11 : callN tb20 12 11 [lotD lot, callsD cs] = .ok (tx (hearC lot cs)) := lheard_ok rfl rfl 10 hl ok fun c hc => (g.beg c hc).1
    have hsn := bookOf_snoc lot dn cs
    generalize bookOf lot dn = b at *
    generalize hearC lot cs = t at *
    refine ⟨_, by simp_wf, ?_⟩
    decreasing_trivial
    refine wp_asg (x := strsD (cs.map (·.1))) (by simp_wf) ?_ (by simp_wf) ?_
    · refine ev_b1 (x := .list (cs.map fun c => PyData.str c.1)) ?_ rfl ?_
      · have := g.few
        exact ev_cmp0M (L := cs) (enc := callD) (it_val (ev_varE rfl) rfl rfl) (by omega) fun c hcm => ⟨_, by simp_wf, ev_idx (ev_varE rfl) ev_cstE rfl⟩
      · show R.ok (PyData.tuple _) = R.ok (PyData.tuple _)
        rw [List.map_map]
        rfl
    have gb := get_book b t
    decreasing_trivial
    generalize hx : cs.map (·.1) = x at *
    obtain ⟨k0, hk0, gi⟩ : ∃ k : Bool, (k = true ↔ x ∉ (getB b t).getD []) ∧ cmpB .NotIn (strsD x) (.list (((getB b t).getD []).map strsD)) = .ok k := ⟨_, by simp, o_nin nice_names (by decide) _ _⟩
    have hgl : ((getB b t).getD []).length ≤ 500000 := by
      cases q : getB b t with
      | none => exact Nat.zero_le _
      | some xs => exact Nat.le_trans (hbd.each _ (getB_in q)).1 hdl
    refine wp_if (k := k0) (by simp_wf) ?_ (fun z => ?_) (fun z => ?_)
    · infer_instance
    · have z := hk0.mp z
      have ga : binD .Add (.list (((getB b t).getD []).map strsD)) (.list [strsD x]) = .ok (.list (((getB b t).getD [] ++ [x]).map strsD)) := by
        rw [List.map_append]
        exact o_addL (by rw [List.length_map]; show _ + 1 ≤ SZ; omega)
      refine wp_seti (x := .list (((getB b t).getD [] ++ [x]).map strsD)) (by simp_wf) ?_ (ev_varE rfl) (set_book hbd (by omega) rfl _ ((getB b t).getD [] ++ [x])) (wp_nil (thn_nx (wp_nil ?_)))
      · infer_instance
      · show _ = _
        rw [hsn]
        unfold noteB addB
        rw [if_neg z]
        rfl
    · have z : x ∈ (getB b t).getD [] := Classical.byContradiction fun q => by rw [hk0.mpr q] at z; cases z
      refine wp_nil (thn_nx (wp_nil ?_))
      show _ = _
      rw [hsn]
      have e0 : noteB b t x = b := by
        unfold noteB addB
        rw [if_pos z]
        cases q : getB b t with
        | none =>
          rw [q] at z
          cases z
        | some xs => exact setB_same q
      rw [e0]
      rfl
  · subst j
    have ok := hbk _ fun _ h => h
    generalize bookOf lot (allC (lot.map (·.1)) w m) = b at *
    generalize (allC (lot.map (·.1)) w m).length = n at *
    have hbl := ok.len
    have hn : n ≤ 500000 := by omega
    refine wp_asg (x := .list ((clashT b).map keyT)) (by simp_wf) ?_ (by simp_wf) ?_
    · refine ev_b1 (x := .list ((badR b).map fun p => keyT p.1)) ?_ rfl ?_
      · refine ev_cmp1K (L := b) (enc := fun p => tx p.1) ?_ ?_ fun p hp => ?_
        · rw [← keys_book]
          exact it_keys rfl (ev_varE rfl)
        · omega
        · have i := idx_book ok (t := p.1) (xs := p.2) hp
          have lp := (ok.each p hp).2
          have i2 : b1D .len (tx p.1) = .ok (.int (p.1.length : Int)) := o_lenT (by omega)
          refine ⟨_, by simp_wf, ?_, fun _ => ?_⟩
          · infer_instance
          · exact ev_tup (evs_c (ev_b1 (ev_varE rfl) rfl i2) (evs_c (ev_varE rfl) evs_n))
      · have e := sort_ok ordd_keyT (by decide) knd_keyT (xs := (badR b).map (·.1)) (by
          rw [List.length_map]
          exact Nat.le_trans (List.length_filter_le _ _) (by omega))
        rw [List.map_map] at e
        exact e
    decreasing_trivial
    have ck : ∀ t, dOk 8 (keyT t) = true := fun t => dOk_le (by decide) (ordd_keyT.nice.dk t)
    have q1 : cmpB .NotEq (.list ((clashT b).map keyT)) (.list []) = .ok (!(clashT b).isEmpty) := o_neL0 _ ck
    have q2 : cmpB .Eq (.list ((clashT b).map keyT)) (.list []) = .ok (clashT b).isEmpty := o_eqL0 _ ck
    have q3 : b1D .len (.list ((clashT b).map keyT)) = .ok (.int ((clashT b).length : Int)) := o_lenLM _
    refine wp_ifJ (fun ρ' => ∃ x10 x13 x14, ρ' = [some (3, .list (ns.map PyData.int)), some (0, lotD lot), some (0, .int number), some (0, .int (m : Int)), some (0, .int (w : Int)), some (0, bookD b), none, some (0, .list ((clashT b).map keyT)), some (0, clashD b), none, x10, none, none, x13, x14, none]) (k := !(clashT b).isEmpty) (by simp_wf) ?_ (fun z => ?_) (fun z => ?_) ?_
    · infer_instance
    · cases ht : clashT b with
      | nil =>
        rw [ht] at z
        cases z
      | cons t r =>
        obtain ⟨xs, hx, hx2⟩ := clashT_mem (b := b) (t := t) (by rw [ht]; exact List.mem_cons_self)
        have hxl : xs.length ≤ n := (ok.each _ hx).1
        have i := idx_book ok hx
        have g : getB b t = some xs := getB_mem ok.nd hx
        have cd : clashD b = .tuple (tx t :: ((sortE strsD xs).take 2).map strsD) := by
          unfold clashD
          rw [ht]
          show PyData.tuple (tx t :: ((sortE strsD ((getB b t).getD [])).take 2).map strsD) = _
          rw [g]
          rfl
        have i0 : idxD (.list (keyT t :: r.map keyT)) (.int 0) = .ok (keyT t) := idx_at (enc := keyT) (L := t :: r) (k := 0) (Nat.zero_lt_succ _)
        have i1 : idxD (keyT t) (.int 1) = .ok (tx t) := rfl
        have s0 : b1D .sorted (.list (xs.map strsD)) = .ok (.list ((sortE strsD xs).map strsD)) := sort_ok ordd_names (by decide) knd_names (by omega)
        have sl := sortE_len (e := strsD) xs
        match hs : sortE strsD xs with
        | [] =>
          rw [hs] at sl
          simp at sl
          omega
        | [_] =>
          rw [hs] at sl
          simp at sl
          omega
        | y1 :: y2 :: rr =>
          rw [hs] at s0 cd
          have s1 : slcD (.list ((y1 :: y2 :: rr).map strsD)) none (some 2) = .ok (.list [strsD y1, strsD y2]) := by
            rw [o_slcL, cut_map]
            exact congrArg (fun z => R.ok (PyData.list (List.map strsD z))) (cut_take _ 2)
          rw [cd]
          simp only [List.map_cons]
          decreasing_trivial
          refine wp_asgT (x := .list [strsD y1, strsD y2]) (by simp_wf) ?_ (by simp_wf) ?_
          · infer_instance
          · decreasing_trivial
            exact wp_nil ⟨_, rfl, _, _, _, rfl⟩
    · refine wp_nil ⟨_, rfl, none, none, none, ?_⟩
      cases ht : clashT b with
      | nil =>
        have cd : clashD b = .none := by
          unfold clashD
          rw [ht]
        rw [cd]
      | cons t r =>
        rw [ht] at z
        cases z
    rintro ρ' ⟨x10, x13, x14, rfl⟩
    have dk : dOk 9 (clashD b) = true := by
      unfold clashD
      split
      · rfl
      · show ((tx _ :: _).all (dOk 8)) = true
        rw [List.all_cons, all_names]
        rfl
    have q4 := o_eqSelf dk
    decreasing_trivial
    refine wp_if (k := false) (by simp_wf) ?_ (fun z => nomatch z) (fun _ => wp_nil (thn_nx ?_))
    · have q5 : cmpB .NotEq (.bool (clashT b).isEmpty) (.bool (clashT b).isEmpty) = .ok false := by
        rw [o_neB]
        simp
      have q6 : b1D (.isi 1) (.bool (clashT b).isEmpty) = .ok (.bool true) := rfl
      refine ev_orF (ev_notE (k := true) ?_) (ev_one (ev_cmpE (y := .bool (clashT b).isEmpty) ?_ ?_ q5))
      · infer_instance
      · infer_instance
      · infer_instance
    · refine wp_ret (x := .bool true) (by simp_wf) ?_ rfl
      have q5 : cmpB .Eq (.int ((clashT b).length : Int)) (.int ((clashT b).length : Int)) = .ok true := by
        rw [o_eqI]
        simp
      refine ev_andT ?_ (ev_one ?_)
      · infer_instance
      · infer_instance
end TD
open PySem PySem.W PyProof.Rows
set_option maxHeartbeats 0 in
theorem PySem.Challenge.cw_tapdeal_k20_clashes_holds : PySem.Challenge.rw_tapdeal_k20_clashes.Holds := by
  w_on; o_law; k_head; (case hw => w_witness2)
  k_fill
  refine TD.walk_tabs (l := PySem.Challenge.rw_tapdeal_k20_clashes) (n := 63) (k := 18) (x := "script") (CX := fun w => L2.CX PySem.Challenge.rw_tapdeal_k20_clashes.prog w) rfl (by decide) rfl ⟨rfl, by decide, by decide⟩ (fun w h Y => PySem.W.km_in_of Y) ?F (fun _ _ _ _ _ h => TD.cx_false h)
  case F =>
    intro w mg fa h Y KX G hmg own
    refine' TD.all_mk KX G hmg TD.law_math (fun y f hy hf => own y f (List.all_eq_true.mp (show (List.all (["clashing_texts"] : List Str) fun y => (PyProof.Rows.recsOf _).any fun e => e.name == y) = true from by rfl) y hy) hf) ?qa0 ?ql0 ?qc0 ?qk0 ?qa1 ?ql1 ?qc1 ?qk1 ?qa2 ?ql2 ?qc2 ?qk2 ?qa3 ?ql3 ?qc3 ?qk3 ?qa4 ?ql4 ?qc4 ?qk4 ?qa5 ?ql5 ?qc5 ?qk5 ?qa6 ?ql6 ?qc6 ?qk6 ?qa7 ?ql7 ?qc7 ?qk7 ?qx7 ?qp7 ?qh7 ?qn7 ?qa8 ?ql8 ?qc8 ?qk8 ?qa9 ?ql9 ?qc9 ?qk9 ?qa10 ?ql10 ?qc10 ?qk10 ?qa11 ?ql11 ?qc11 ?qk11 ?qa12 ?ql12 ?qc12 ?qk12 ?qa13 ?ql13 ?qc13 ?qk13 ?qa14 ?ql14 ?qc14 ?qk14 ?qa15 ?ql15 ?qc15 ?qk15 ?qa16 ?ql16 ?qc16 ?qk16 ?qa17 ?ql17 ?qc17 ?qk17 ?qa18 ?ql18 ?qc18 ?qk18 ?qa19 ?ql19 ?qc19 ?qk19 ?qg0 ?qg1 ?qg2 ?qz0 ?qz1 ?qz2 ?qz3 ?qz4 ?qz5 ?qz6 ?qz7 ?qz8 ?qz9 ?qz10 ?qz11 ?qz12 ?qz13 ?qz14 ?qz15 ?qz16 ?qz17 ?qz18 ?qz19 ?qe1 ?qex1 ?qek1 ?qes1 ?qet1
    (case qa0 => k_is)
    (case ql0 => k_is)
    (case qc0 => k_is)
    (case qk0 => k_is)
    (case qa1 => k_is)
    (case ql1 => k_is)
    (case qc1 => k_is)
    (case qk1 => k_is)
    (case qa2 => k_is)
    (case ql2 => k_is)
    (case qc2 => k_is)
    (case qk2 => k_is)
    (case qa3 => k_is)
    (case ql3 => k_is)
    (case qc3 => k_is)
    (case qk3 => k_is)
    (case qa4 => k_is)
    (case ql4 => k_is)
    (case qc4 => k_is)
    (case qk4 => k_is)
    (case qa5 => k_is)
    (case ql5 => k_is)
    (case qc5 => k_is)
    (case qk5 => k_is)
    (case qa6 => k_is)
    (case ql6 => k_is)
    (case qc6 => k_is)
    (case qk6 => k_is)
    (case qa7 => k_is)
    (case ql7 => k_is)
    (case qc7 => k_is)
    (case qk7 => k_is)
    (case qx7 => k_is)
    (case qp7 => rfl)
    (case qh7 => rfl)
    (case qn7 => rfl)
    (case qa8 => k_is)
    (case ql8 => k_is)
    (case qc8 => k_is)
    (case qk8 => k_is)
    (case qa9 => k_is)
    (case ql9 => k_is)
    (case qc9 => k_is)
    (case qk9 => k_is)
    (case qa10 => k_is)
    (case ql10 => k_is)
    (case qc10 => k_is)
    (case qk10 => k_is)
    (case qa11 => k_is)
    (case ql11 => k_is)
    (case qc11 => k_is)
    (case qk11 => k_is)
    (case qa12 => k_is)
    (case ql12 => k_is)
    (case qc12 => k_is)
    (case qk12 => k_is)
    (case qa13 => k_is)
    (case ql13 => k_is)
    (case qc13 => k_is)
    (case qk13 => k_is)
    (case qa14 => k_is)
    (case ql14 => k_is)
    (case qc14 => k_is)
    (case qk14 => k_is)
    (case qa15 => k_is)
    (case ql15 => k_is)
    (case qc15 => k_is)
    (case qk15 => k_is)
    (case qa16 => k_is)
    (case ql16 => k_is)
    (case qc16 => k_is)
    (case qk16 => k_is)
    (case qa17 => k_is)
    (case ql17 => k_is)
    (case qc17 => k_is)
    (case qk17 => k_is)
    (case qa18 => k_is)
    (case ql18 => k_is)
    (case qc18 => k_is)
    (case qk18 => k_is)
    (case qa19 => k_is)
    (case ql19 => k_is)
    (case qc19 => k_is)
    (case qk19 => k_is)
    (case qg0 => k_is)
    (case qg1 => k_is)
    (case qg2 => k_is)
    (case qz0 => k_is)
    (case qz1 => k_is)
    (case qz2 => k_is)
    (case qz3 => k_is)
    (case qz4 => k_is)
    (case qz5 => k_is)
    (case qz6 => k_is)
    (case qz7 => k_is)
    (case qz8 => k_is)
    (case qz9 => k_is)
    (case qz10 => k_is)
    (case qz11 => k_is)
    (case qz12 => k_is)
    (case qz13 => k_is)
    (case qz14 => k_is)
    (case qz15 => k_is)
    (case qz16 => k_is)
    (case qz17 => k_is)
    (case qz18 => k_is)
    (case qz19 => k_is)
    (case qe1 => k_is)
    (case qex1 => k_exc)
    (case qek1 => k_is)
    (case qes1 => k_is)
    (case qet1 => k_is)
