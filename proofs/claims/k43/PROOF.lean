import PyProof.Rows.All
import Wide.All
import OpenK.AllK
import Wide.FinOn
import PySem.Syntax
import PySem.Builtin.Int.W1All
import HandS.Base
import HandS.Call
import HandS.List
import HandS.Comp
import HandS.Iter
import HandS.Text
import HandS.Codes
import HandS.Words
import HandS.Deep
import HandS.TupAny
import HandS.TupLe
import HandS.TupMul
import HandS.Wide
import HandS.Dict
import HandS.Flow
import HandS.Style
import HandS.Star
import HandS.Property
import HandS.IsInst
import PyProof.CollectStr
import HandS.RaiseMore
import HandS.WordsDict
import HandS.StrMore
import HandS.MakeKw
import HandS.ClsMeth
import KE.SortData
import KE.DataMinMax
import HandS.WideBits
import HandS.SetFor
import HandS.Zip
import HandS.Set
import HandS.Strs
import HandS.SetTxtIn
import HandS.Conv
import HandS.More
import PyProof.TupleOfStr
import OpenK.KWalk
import PyProof.InstNe
import HandS.Exc
import HandS.HeadNt
import HandS.Ends
import HandS.HeadEnd
import HandS.HeadHook3
import HandS.Head2
import HandS.Head0
import HandS.Head1
import PySem.Challenge.RW_sameunions_k43_whole_ranks
set_option Elab.async false
set_option linter.all false
namespace EV
open PySem (Operator CmpOp)
inductive DK where
  | int (i : Int) | str (s : List Nat)
  deriving DecidableEq
inductive D where
  | non | bl (b : Bool) | int (i : Int) | str (s : List Nat)
  | tup (xs : List D) | lst (xs : List D) | dct (ks : List DK) (vs : List D)
  | ins (c : Nat) (fs : List D) | cell (n : Nat) | cls (c : Nat) | clo (l : Nat) (vs : List D)
mutual
def decD : (a b : D) → Decidable (a = b)
  | .non, .non => .isTrue rfl
  | .bl a, .bl b => if h : a = b then .isTrue (by rw [h]) else .isFalse (fun e => h (D.bl.inj e))
  | .int a, .int b => if h : a = b then .isTrue (by rw [h]) else .isFalse (fun e => h (D.int.inj e))
  | .str a, .str b => if h : a = b then .isTrue (by rw [h]) else .isFalse (fun e => h (D.str.inj e))
  | .tup a, .tup b => match decDs a b with
    | .isTrue h => .isTrue (by rw [h])
    | .isFalse h => .isFalse (fun e => h (D.tup.inj e))
  | .lst a, .lst b => match decDs a b with
    | .isTrue h => .isTrue (by rw [h])
    | .isFalse h => .isFalse (fun e => h (D.lst.inj e))
  | .dct k a, .dct m b => if h : k = m then (match decDs a b with
    | .isTrue h' => .isTrue (by rw [h, h'])
    | .isFalse h' => .isFalse (fun e => h' (D.dct.inj e).2)) else .isFalse (fun e => h (D.dct.inj e).1)
  | .ins k a, .ins m b => if h : k = m then (match decDs a b with
    | .isTrue h' => .isTrue (by rw [h, h'])
    | .isFalse h' => .isFalse (fun e => h' (D.ins.inj e).2)) else .isFalse (fun e => h (D.ins.inj e).1)
  | .cell a, .cell b => if h : a = b then .isTrue (by rw [h]) else .isFalse (fun e => h (D.cell.inj e))
  | .cls a, .cls b => if h : a = b then .isTrue (by rw [h]) else .isFalse (fun e => h (D.cls.inj e))
  | .clo k a, .clo m b => if h : k = m then (match decDs a b with
    | .isTrue h' => .isTrue (by rw [h, h'])
    | .isFalse h' => .isFalse (fun e => h' (D.clo.inj e).2)) else .isFalse (fun e => h (D.clo.inj e).1)
  | .non, .bl _ => .isFalse (fun e => nomatch e) | .non, .int _ => .isFalse (fun e => nomatch e) | .non, .str _ => .isFalse (fun e => nomatch e) | .non, .tup _ => .isFalse (fun e => nomatch e) | .non, .lst _ => .isFalse (fun e => nomatch e) | .non, .dct _ _ => .isFalse (fun e => nomatch e) | .non, .ins _ _ => .isFalse (fun e => nomatch e) | .non, .cell _ => .isFalse (fun e => nomatch e) | .non, .cls _ => .isFalse (fun e => nomatch e) | .non, .clo _ _ => .isFalse (fun e => nomatch e)
  | .bl _, .non => .isFalse (fun e => nomatch e) | .bl _, .int _ => .isFalse (fun e => nomatch e) | .bl _, .str _ => .isFalse (fun e => nomatch e) | .bl _, .tup _ => .isFalse (fun e => nomatch e) | .bl _, .lst _ => .isFalse (fun e => nomatch e) | .bl _, .dct _ _ => .isFalse (fun e => nomatch e) | .bl _, .ins _ _ => .isFalse (fun e => nomatch e) | .bl _, .cell _ => .isFalse (fun e => nomatch e) | .bl _, .cls _ => .isFalse (fun e => nomatch e) | .bl _, .clo _ _ => .isFalse (fun e => nomatch e)
  | .int _, .non => .isFalse (fun e => nomatch e) | .int _, .bl _ => .isFalse (fun e => nomatch e) | .int _, .str _ => .isFalse (fun e => nomatch e) | .int _, .tup _ => .isFalse (fun e => nomatch e) | .int _, .lst _ => .isFalse (fun e => nomatch e) | .int _, .dct _ _ => .isFalse (fun e => nomatch e) | .int _, .ins _ _ => .isFalse (fun e => nomatch e) | .int _, .cell _ => .isFalse (fun e => nomatch e) | .int _, .cls _ => .isFalse (fun e => nomatch e) | .int _, .clo _ _ => .isFalse (fun e => nomatch e)
  | .str _, .non => .isFalse (fun e => nomatch e) | .str _, .bl _ => .isFalse (fun e => nomatch e) | .str _, .int _ => .isFalse (fun e => nomatch e) | .str _, .tup _ => .isFalse (fun e => nomatch e) | .str _, .lst _ => .isFalse (fun e => nomatch e) | .str _, .dct _ _ => .isFalse (fun e => nomatch e) | .str _, .ins _ _ => .isFalse (fun e => nomatch e) | .str _, .cell _ => .isFalse (fun e => nomatch e) | .str _, .cls _ => .isFalse (fun e => nomatch e) | .str _, .clo _ _ => .isFalse (fun e => nomatch e)
  | .tup _, .non => .isFalse (fun e => nomatch e) | .tup _, .bl _ => .isFalse (fun e => nomatch e) | .tup _, .int _ => .isFalse (fun e => nomatch e) | .tup _, .str _ => .isFalse (fun e => nomatch e) | .tup _, .lst _ => .isFalse (fun e => nomatch e) | .tup _, .dct _ _ => .isFalse (fun e => nomatch e) | .tup _, .ins _ _ => .isFalse (fun e => nomatch e) | .tup _, .cell _ => .isFalse (fun e => nomatch e) | .tup _, .cls _ => .isFalse (fun e => nomatch e) | .tup _, .clo _ _ => .isFalse (fun e => nomatch e)
  | .lst _, .non => .isFalse (fun e => nomatch e) | .lst _, .bl _ => .isFalse (fun e => nomatch e) | .lst _, .int _ => .isFalse (fun e => nomatch e) | .lst _, .str _ => .isFalse (fun e => nomatch e) | .lst _, .tup _ => .isFalse (fun e => nomatch e) | .lst _, .dct _ _ => .isFalse (fun e => nomatch e) | .lst _, .ins _ _ => .isFalse (fun e => nomatch e) | .lst _, .cell _ => .isFalse (fun e => nomatch e) | .lst _, .cls _ => .isFalse (fun e => nomatch e) | .lst _, .clo _ _ => .isFalse (fun e => nomatch e)
  | .dct _ _, .non => .isFalse (fun e => nomatch e) | .dct _ _, .bl _ => .isFalse (fun e => nomatch e) | .dct _ _, .int _ => .isFalse (fun e => nomatch e) | .dct _ _, .str _ => .isFalse (fun e => nomatch e) | .dct _ _, .tup _ => .isFalse (fun e => nomatch e) | .dct _ _, .lst _ => .isFalse (fun e => nomatch e) | .dct _ _, .ins _ _ => .isFalse (fun e => nomatch e) | .dct _ _, .cell _ => .isFalse (fun e => nomatch e) | .dct _ _, .cls _ => .isFalse (fun e => nomatch e) | .dct _ _, .clo _ _ => .isFalse (fun e => nomatch e)
  | .ins _ _, .non => .isFalse (fun e => nomatch e) | .ins _ _, .bl _ => .isFalse (fun e => nomatch e) | .ins _ _, .int _ => .isFalse (fun e => nomatch e) | .ins _ _, .str _ => .isFalse (fun e => nomatch e) | .ins _ _, .tup _ => .isFalse (fun e => nomatch e) | .ins _ _, .lst _ => .isFalse (fun e => nomatch e) | .ins _ _, .dct _ _ => .isFalse (fun e => nomatch e) | .ins _ _, .cell _ => .isFalse (fun e => nomatch e) | .ins _ _, .cls _ => .isFalse (fun e => nomatch e) | .ins _ _, .clo _ _ => .isFalse (fun e => nomatch e)
  | .cell _, .non => .isFalse (fun e => nomatch e) | .cell _, .bl _ => .isFalse (fun e => nomatch e) | .cell _, .int _ => .isFalse (fun e => nomatch e) | .cell _, .str _ => .isFalse (fun e => nomatch e) | .cell _, .tup _ => .isFalse (fun e => nomatch e) | .cell _, .lst _ => .isFalse (fun e => nomatch e) | .cell _, .dct _ _ => .isFalse (fun e => nomatch e) | .cell _, .ins _ _ => .isFalse (fun e => nomatch e) | .cell _, .cls _ => .isFalse (fun e => nomatch e) | .cell _, .clo _ _ => .isFalse (fun e => nomatch e)
  | .cls _, .non => .isFalse (fun e => nomatch e) | .cls _, .bl _ => .isFalse (fun e => nomatch e) | .cls _, .int _ => .isFalse (fun e => nomatch e) | .cls _, .str _ => .isFalse (fun e => nomatch e) | .cls _, .tup _ => .isFalse (fun e => nomatch e) | .cls _, .lst _ => .isFalse (fun e => nomatch e) | .cls _, .dct _ _ => .isFalse (fun e => nomatch e) | .cls _, .ins _ _ => .isFalse (fun e => nomatch e) | .cls _, .cell _ => .isFalse (fun e => nomatch e) | .cls _, .clo _ _ => .isFalse (fun e => nomatch e)
  | .clo _ _, .non => .isFalse (fun e => nomatch e) | .clo _ _, .bl _ => .isFalse (fun e => nomatch e) | .clo _ _, .int _ => .isFalse (fun e => nomatch e) | .clo _ _, .str _ => .isFalse (fun e => nomatch e) | .clo _ _, .tup _ => .isFalse (fun e => nomatch e) | .clo _ _, .lst _ => .isFalse (fun e => nomatch e) | .clo _ _, .dct _ _ => .isFalse (fun e => nomatch e) | .clo _ _, .ins _ _ => .isFalse (fun e => nomatch e) | .clo _ _, .cell _ => .isFalse (fun e => nomatch e) | .clo _ _, .cls _ => .isFalse (fun e => nomatch e)
def decDs : (a b : List D) → Decidable (a = b)
  | [], [] => .isTrue rfl
  | [], _ :: _ => .isFalse (fun e => nomatch e)
  | _ :: _, [] => .isFalse (fun e => nomatch e)
  | x :: xs, y :: ys => match decD x y with
    | .isFalse h => .isFalse (fun e => h (List.cons.inj e).1)
    | .isTrue h => match decDs xs ys with
      | .isTrue h' => .isTrue (by rw [h, h'])
      | .isFalse h' => .isFalse (fun e => h' (List.cons.inj e).2)
end
instance : DecidableEq D := decD
inductive Cell where
  | lst (xs : List D) | dct (ks : List DK) (vs : List D) | ins (c : Nat) (fs : List D)
  | fdc (ks : List DK) (vs : List D)
  deriving DecidableEq
abbrev St := List Cell
abbrev Env := List (Option D)
inductive R (α : Type) where
  | ok (a : α) (s : St) | ex (e : D) (s : St) | no
inductive RS where
  | nx (v : Env) (s : St) | rt (d : D) (s : St) | bk (v : Env) (s : St) | ct (v : Env) (s : St) | ex (e : D) (v : Env) (s : St) | no
def R.bind {α β : Type} (r : R α) (f : α → St → R β) : R β := match r with
  | .ok a s => f a s
  | .ex e s => .ex e s
  | .no => .no
def R.map {α β : Type} (r : R α) (f : α → β) : R β := match r with
  | .ok a s => .ok (f a) s
  | .ex e s => .ex e s
  | .no => .no
def R.opt {α : Type} (o : Option α) (s : St) : R α := match o with
  | some a => .ok a s
  | none => .no
def R.go {α : Type} (r : R α) (v : Env) (f : α → St → RS) : RS := match r with
  | .ok a s => f a s
  | .ex e s => .ex e v s
  | .no => .no
def RS.go (r : RS) (f : Env → St → RS) : RS := match r with
  | .nx v s => f v s
  | r => r
def RS.calm (r : RS) : RS := match r with
  | .ex _ _ _ => .no
  | r => r
def R.calm {α : Type} (r : R α) : R α := match r with
  | .ok a s => .ok a s
  | _ => .no
def line : Nat := 16777216
def atom : D → Bool
  | .non => true | .bl _ => true | .int _ => true | .str _ => true
  | _ => false
def datN : Nat → D → Bool
  | _, .non => true
  | _, .bl _ => true
  | _, .int _ => true
  | _, .str s => s.all fun c => decide (c < 1114112)
  | n + 1, .tup xs => xs.all (datN n)
  | n + 1, .lst xs => xs.all (datN n)
  | _, _ => false
abbrev dat (d : D) : Bool := datN 12 d
mutual
def below (n : Nat) : D → Bool
  | .tup xs => belows n xs | .lst xs => belows n xs | .dct _ vs => belows n vs | .ins _ vs => belows n vs | .clo _ vs => belows n vs
  | .cell k => decide (k < n)
  | _ => true
def belows (n : Nat) : List D → Bool
  | [] => true
  | x :: xs => below n x && belows n xs
end
def b2i (b : Bool) : Int := if b then 1 else 0
def dkEq : DK → DK → Bool
  | .int i, .int j => decide (i = j)
  | .str s, .str t => decide (s = t)
  | _, _ => false
def dkD : DK → D
  | .int i => .int i
  | .str s => .str s
def keyOf : D → Option DK
  | .int i => some (.int i)
  | .str s => some (.str s)
  | _ => none
mutual
def eqD : D → D → Bool
  | .non, .non => true
  | .bl a, .bl b => a == b
  | .bl a, .int j => decide (b2i a = j)
  | .int i, .bl b => decide (i = b2i b)
  | .int i, .int j => decide (i = j)
  | .str s, .str t => decide (s = t)
  | .tup xs, .tup ys => eqDs xs ys
  | .lst xs, .lst ys => eqDs xs ys
  | _, _ => false
def eqDs : List D → List D → Bool
  | [], [] => true
  | x :: xs, y :: ys => eqD x y && eqDs xs ys
  | _, _ => false
end
def hasPart (a : List Nat) : List Nat → Bool
  | [] => a.isEmpty
  | c :: b => a.isPrefixOf (c :: b) || hasPart a b
def view (s : St) : D → D
  | .cell n => match s[n]? with
    | some (.lst xs) => .lst xs
    | some (.dct ks vs) => .dct ks vs
    | some (.ins c fs) => .ins c fs
    | some (.fdc ks vs) => .dct ks vs
    | none => .cell n
  | d => d
def itemsOf : D → Option (List D)
  | .tup xs => some xs
  | .lst xs => some xs
  | .str s => some (s.map fun c => .str [c])
  | _ => none
def seqOf : D → Option (List D)
  | .tup xs => some xs
  | .lst xs => some xs
  | .str s => if s.length ≤ line then some (s.map fun c => .str [c]) else none
  | _ => none
def lenOf : D → Option Nat
  | .tup xs => some xs.length
  | .lst xs => some xs.length
  | .str s => if s.length ≤ line then some s.length else none
  | .dct ks _ => some ks.length
  | _ => none
def smallI (i : Int) : Bool := decide (-18446744073709551616 < i) && decide (i < 18446744073709551616)
def rep {α : Type} (xs : List α) (k : Nat) : List α := (List.replicate k xs).flatten
def binD : Operator → D → D → Option D
  | .Add, .int i, .int j => some (.int (i + j))
  | .Add, .str a, .str b => if a.length + b.length ≤ line then some (.str (a ++ b)) else none
  | .Add, .tup a, .tup b => if a.length + b.length ≤ line then some (.tup (a ++ b)) else none
  | .Sub, .int i, .int j => some (.int (i - j))
  | .Mult, .int i, .int j => if smallI i || smallI j then some (.int (i * j)) else if i.natAbs < 2 ^ 4000 ∧ j.natAbs < 2 ^ 4000 then some (.int (i * j)) else none
  | .Mult, .tup a, .int k => if k = 1 then some (.tup a) else if a ≠ [] ∧ 2 ≤ k ∧ k ≤ 1000 ∧ a.length ≤ 1000 then some (.tup (rep a k.toNat)) else none
  | .FloorDiv, .int i, .int j => if j ≠ 0 ∧ j.natAbs < 1073741824 then some (.int (i.fdiv j)) else if j ≠ 0 ∧ j.natAbs < 2 ^ 4000 ∧ i.natAbs < 2 ^ 4000 then some (.int (i.fdiv j)) else none
  | .Mod, .int i, .int j => if j ≠ 0 then some (.int (i.fmod j)) else none
  | .Pow, .int i, .int j => if 0 ≤ j ∧ j ≤ 1000 ∧ i.natAbs < 18446744073709551616 then some (.int (i ^ j.toNat)) else none
  | .LShift, .int i, .int j => if 0 ≤ j ∧ j ≤ 1000 ∧ i.natAbs < 18446744073709551616 then some (.int (i * 2 ^ j.toNat)) else none
  | .RShift, .int i, .int j => if 0 ≤ j then some (.int (i / 2 ^ j.toNat)) else none
  | .BitAnd, .int i, .int j => some (.int (PySem.Builtin.bitAnd i j))
  | .BitOr, .int i, .int j => some (.int (PySem.Builtin.bitOr i j))
  | _, _, _ => none
def binL : Operator → D → D → Option (List D)
  | .Add, .lst a, .lst b => if a.length + b.length ≤ line then some (a ++ b) else none
  | .Mult, .lst a, .int k => if 0 ≤ k ∧ k < 1000000 ∧ a.length * k.toNat ≤ line then some (rep a k.toNat) else none
  | _, _, _ => none
def inD (x : D) : D → Option Bool
  | .tup xs => if (atom x && xs.all atom) || (dat x && dat (.tup xs)) then some (xs.any fun y => eqD y x) else none
  | .lst xs => if (atom x && xs.all atom) || (dat x && dat (.lst xs)) then some (xs.any fun y => eqD y x) else none
  | .str b => match x with
    | .str [c] => some (decide (c ∈ b))
    | _ => none
  | .dct ks _ => (keyOf x).map fun k => decide (k ∈ ks)
  | _ => none
def eqO : D → D → Option Bool
  | .str a, .str b => some (decide (a = b))
  | .int a, .int b => some (decide (a = b))
  | x, y => if dat x && dat y then some (eqD x y) else none
def ltO : D → D → Option Bool
  | .int i, .int j => some (decide (i < j))
  | .str a, .str b => some (decide (a < b))
  | _, _ => none
def intsOf : List D → Option (List Int)
  | [] => some []
  | .int i :: xs => (intsOf xs).map (i :: ·)
  | _ :: _ => none
def lexI : List Int → List Int → Bool
  | [], [] => false
  | [], _ :: _ => true
  | _ :: _, [] => false
  | x :: xs, y :: ys => if x = y then lexI xs ys else decide (x < y)
def cmpO : CmpOp → D → D → Option Bool
  | .Eq, x, y => eqO x y
  | .NotEq, x, y => (eqO x y).map not
  | .Lt, .tup xs, .tup ys => match intsOf xs, intsOf ys with
    | some a, some b => some (lexI a b)
    | _, _ => none
  | .Lt, x, y => ltO x y
  | .LtE, .tup xs, .tup ys => match intsOf xs, intsOf ys with
    | some a, some b => some (!lexI b a)
    | _, _ => none
  | .LtE, x, y => (ltO y x).map not
  | .Gt, x, y => ltO y x
  | .GtE, x, y => (ltO x y).map not
  | .In, x, y => inD x y
  | .NotIn, x, y => (inD x y).map not
  | _, _, _ => none
def ixN (n : Nat) (i : Int) : Option Nat := if 0 ≤ i then (if i < n then some i.toNat else none) else if -(n : Int) ≤ i then some (i + n).toNat else none
def atI {α : Type} (xs : List α) (i : Int) : Option α := (ixN xs.length i).bind fun j => xs[j]?
def lookK (k : DK) : List DK → List D → Option D
  | [], _ => none
  | _, [] => none
  | q :: ks, v :: vs => if dkEq q k then some v else lookK k ks vs
def putK (k : DK) (v : D) : List DK → List D → List DK × List D
  | q :: ks, u :: vs => if dkEq q k then (q :: ks, v :: vs) else ((q :: (putK k v ks vs).1), u :: (putK k v ks vs).2)
  | _, _ => ([k], [v])
def idxD : D → D → Option D
  | .tup xs, .int i => atI xs i
  | .lst xs, .int i => atI xs i
  | .str s, .int i => if s.length ≤ line then (atI s i).map fun c => .str [c] else none
  | .dct ks vs, k => (keyOf k).bind fun q => lookK q ks vs
  | _, _ => none
def sIx (n d : Nat) : Option Int → Nat
  | none => d
  | some v => if v < 0 then (v + n).toNat else min v.toNat n
def cut {α : Type} (xs : List α) (lo hi : Option Int) : List α := (xs.drop (sIx xs.length 0 lo)).take (sIx xs.length xs.length hi - sIx xs.length 0 lo)
def odds {α : Type} : List α → List α
  | [] => []
  | [x] => [x]
  | x :: _ :: xs => x :: odds xs
def slD (st : Nat) (d : D) (lo hi : Option Int) : Option D := match st, d with
  | 0, .tup xs => some (.tup (cut xs lo hi))
  | 0, .str xs => if xs.length ≤ line then some (.str (cut xs lo hi)) else none
  | 1, .tup xs => some (.tup xs.reverse)
  | 2, .tup xs => some (.tup (odds xs))
  | 2, .str xs => if xs.length ≤ line then some (.str (odds xs)) else none
  | _, _ => none
def slL (st : Nat) (d : D) (lo hi : Option Int) : Option (List D) := match st, d with
  | 0, .lst xs => some (cut xs lo hi)
  | 1, .lst xs => some xs.reverse
  | 2, .lst xs => some (odds xs)
  | _, _ => none
mutual
def alikeD : D → D → Bool
  | .non, .non => true
  | .bl _, .bl _ => true
  | .int _, .int _ => true
  | .str _, .str _ => true
  | .tup xs, .tup ys => alikeDs xs ys
  | .lst xs, .lst ys => alikeDs xs ys
  | _, _ => false
def alikeDs : List D → List D → Bool
  | x :: xs, y :: ys => alikeD x y && alikeDs xs ys
  | [], _ => true
  | _ :: _, [] => true
end
mutual
def ltD : D → D → Bool
  | .bl a, .bl b => !a && b
  | .int i, .int j => decide (i < j)
  | .str s, .str t => decide (s < t)
  | .tup xs, .tup ys => ltDs xs ys
  | .lst xs, .lst ys => ltDs xs ys
  | _, _ => false
def ltDs : List D → List D → Bool
  | [], [] => false
  | [], _ :: _ => true
  | _ :: _, [] => false
  | x :: xs, y :: ys => if eqD x y then ltDs xs ys else ltD x y
end
def leD (x y : D) : Bool := !ltD y x
def isTup1 : D → Bool
  | .tup (_ :: _) => true
  | _ => false
def noTup : D → Bool
  | .tup _ => false | .non => false | .bl _ => false
  | _ => true
def sortOk (xs : List D) : Bool := xs.all (fun x => dat x && xs.all (alikeD x)) && (xs.all isTup1 || xs.all noTup)
def sortD (xs : List D) : Option (List D) := if sortOk xs then some (xs.mergeSort leD) else none
def srcOf : D → Option (List D)
  | .lst xs => some xs
  | .dct ks _ => some (ks.map dkD)
  | .str x => some (x.map fun c => .str [c])
  | .tup xs => some xs
  | _ => none
def addD (l : List D) (x : D) : List D := if l.any (eqD · x) then l else l ++ [x]
def nubD (xs : List D) : List D := xs.foldl addD []
def keyD : D → Bool
  | .int _ => true
  | .str _ => true
  | _ => false
def strsOf : List D → Option (List (List Nat))
  | [] => some []
  | .str s :: xs => (strsOf xs).map (s :: ·)
  | _ :: _ => none
def blsOf : List D → Option (List Bool)
  | [] => some []
  | .bl b :: xs => (blsOf xs).map (b :: ·)
  | _ :: _ => none
def joinL (sep : List Nat) : List (List Nat) → List Nat
  | [] => []
  | [x] => x
  | x :: y :: xs => x ++ sep ++ joinL sep (y :: xs)
def splL (c : Nat) (acc : List Nat) : List Nat → List (List Nat)
  | [] => [acc]
  | x :: xs => if x = c then acc :: splL c [] xs else splL c (acc ++ [x]) xs
def idxL {α : Type} (p : α → Bool) : List α → Option Nat
  | [] => none
  | x :: xs => if p x then some 0 else (idxL p xs).map (· + 1)
def digL (n : Nat) : List Nat := (Nat.toDigits 10 n).map Char.toNat
def intL : Int → List Nat
  | .ofNat n => digL n
  | .negSucc n => 45 :: digL (n + 1)
def numVal (acc : Nat) (cs : List Nat) : Nat := cs.foldl (fun acc c => acc * 10 + (c - 48)) acc
def upC (c : Nat) : Nat := if 97 ≤ c ∧ c ≤ 122 then c - 32 else c
mutual
def reprD : D → Option (List Nat)
  | .non => some [78, 111, 110, 101]
  | .bl true => some [84, 114, 117, 101]
  | .bl false => some [70, 97, 108, 115, 101]
  | .int i => if i.natAbs < 10 ^ 60 then some (intL i) else none
  | .str s => if s.all fun c => (32 ≤ c && c ≤ 126 && c != 39 && c != 92) then some (39 :: s ++ [39]) else none
  | .tup xs => (reprDs xs).map fun ts => 40 :: joinL [44, 32] ts ++ (if ts.length == 1 then [44, 41] else [41])
  | .lst xs => (reprDs xs).map fun ts => 91 :: joinL [44, 32] ts ++ [93]
  | _ => none
def reprDs : List D → Option (List (List Nat))
  | [] => some []
  | x :: xs => match reprD x, reprDs xs with
    | some a, some b => some (a :: b)
    | _, _ => none
end
inductive Ty where
  | str | int | bool | tuple | list | dict | cls (c : Nat)
  deriving DecidableEq
inductive Bi where
  | len | abs | max2 | min2 | max1 | min1 | sum | all | any | int | str | repr | bool
  deriving DecidableEq
inductive Bm where
  | join | split | sidx | lidx | scnt | lcnt | bitlen | get | upper | replace | append | extend | pop | pop0 | kget
  deriving DecidableEq
inductive Tg where
  | one (i : Nat) | tup (is : List Nat)
  deriving DecidableEq
inductive E where
  | var (i : Nat) | con (d : D) | glob (g : Nat) (d : D)
  | bin (m : Bool) (op : Operator) (a b : E) | neg (a : E)
  | eqi (ng : Bool) (a b : E) | cmp (op : CmpOp) (a b : E) | cmp2 (o p : CmpOp) (a b c : E) | isn (a : E) (ng : Bool) | isb (a : E) (b ng : Bool)
  | and (a b : E) | or (a b : E) | one (a : E) | not (a : E) | ite (c a b : E)
  | nil | cons (e es : E) | star (e es : E)
  | tup (es : E) | lst (m : Bool) (es : E) | dct (m : Bool) (ks : List DK) (es : E)
  | idx (a i : E) | sl (m : Bool) (st : Nat) (a lo hi : E)
  | iv (e : E) | rng1 (a : E) | rng2 (a b : E) | rng3 (a b c : E) | zip (a b : E) | enum (a : E) | itms (a : E)
  | comp (m : Bool) (t : Tg) (it c e : E) | comp2 (m : Bool) (t : Tg) (it c : E) (t2 : Tg) (it2 c2 e : E)
  | listOf (m : Bool) (it : E) | listR (m : Bool) (it : E) | tupR (it : E) | tupOf (it : E) | sorted (m : Bool) (it : E) | sortset (m : Bool) (it : E) | lenset (it : E) | dictOf (m : Bool) (a : E)
  | isi (e : E) (t : Ty)
  | bi (b : Bi) (es : E) | divmod (a b : E)
  | bm (m : Bool) (b : Bm) (o es : E)
  | call (f : Nat) (es : E) (pm : List Nat) | mk (c : Nat) (es : E) (pm : List Nat) | clm (c f : Nat) (es : E) (pm : List Nat)
  | atr (o : E) (a : Nat) | meth (o : E) (a : Nat) (es : E) (pm : List Nat)
  | act (i : Nat) (es : E) | lam (l : Nat) (is : List Nat)
inductive C where
  | done | ret (e : E) | retn
  | asg (t : Tg) (e : E) (k : C)
  | seti (i : Nat) (ix e : E) (k : C) | setit (i : Nat) (ix : E) (j : Nat) (e : E) (k : C)
  | setf (o : E) (a : Nat) (e : E) (k : C)
  | exp (e : E) (k : C)
  | ite (c : E) (a b k : C)
  | for (t : Tg) (it : E) (b k : C) | whl (c : E) (b k : C)
  | brk | cnt | pass (k : C)
  | raise (e : E)
  | try (b : C) (cs : List Nat) (i : Option Nat) (h k : C)
structure FnR where
  np : Nat
  ns : Nat
  body : C
  tr : Bool
structure ClR where
  frz : Bool
  nf : Nat
  sup : List Nat := []
  fld : List (Nat × Nat) := []
  prop : List (Nat × Nat) := []
  meth : List (Nat × Nat) := []
  init : Option Nat := none
  lenF : Option Nat := none
  strF : Option Nat := none
  boolF : Option Nat := none
  eqF : Option Nat := none
structure Pg where
  fn : Nat → Option FnR
  cl : Nat → Option ClR
def alloc (m : Bool) (xs : List D) (s : St) : R D := match m with
  | true => if belows s.length xs then .ok (.cell s.length) (s ++ [.lst xs]) else .no
  | false => .ok (.lst xs) s
def bindT : Tg → D → Env → Option Env
  | .one i, d, v => some (v.set i (some d))
  | .tup is, .tup ds, v => if is.length = ds.length then some ((is.zip ds).foldl (fun v p => v.set p.1 (some p.2)) v) else none
  | .tup _, _, _ => none
def tgV : Tg → List Nat
  | .one i => [i]
  | .tup is => is
def wipeE (v : Env) : List Nat → Env
  | [] => v
  | i :: is => (wipeE v is).set i none
abbrev Gd := List (Nat × List D)
def okG (g : Gd) (s : St) : Bool := g.all fun p => decide (s[p.1]? = some (.lst p.2))
def guardOf (s : St) : D → Gd
  | .cell n => match s[n]? with
    | some (.lst xs) => [(n, xs)]
    | _ => []
  | _ => []
def lockS (s : St) : D → St
  | .cell n => match s[n]? with
    | some (.dct ks vs) => s.set n (.fdc ks vs)
    | _ => s
  | _ => s
def keysOf : D → Option (List D)
  | .dct ks _ => some (ks.map dkD)
  | _ => none
def permA (pm : List Nat) (ds : List D) : Option (List D) := match pm with
  | [] => some ds
  | pm => if ds.length = pm.length then pm.mapM fun i => ds[i]? else none
def compL (step : D → St → R (List D)) (g : Gd) : List D → St → R (List D)
  | [], s => if okG g s then .ok [] s else .no
  | x :: xs, s => if okG g s then (step x s).bind fun a s => (compL step g xs s).map (a ++ ·) else .no
def forL (step : D → Env → St → RS) (g : Gd) : List D → Env → St → RS
  | [], v, s => if okG g s then .nx v s else .no
  | x :: xs, v, s => if okG g s then (match step x v s with
    | .nx v s => forL step g xs v s
    | .ct v s => forL step g xs v s
    | .bk v s => .nx v s
    | r => r) else .no
def whlL (c : Env → St → R Bool) (b : Env → St → RS) : Nat → Env → St → RS
  | 0, _, _ => .no
  | n + 1, v, s => (c v s).go v fun t s => match t with
    | false => .nx v s
    | true => match b v s with
      | .nx v s => whlL c b n v s
      | .ct v s => whlL c b n v s
      | .bk v s => .nx v s
      | r => r
def bigN : Nat := 1000000000000
def tst (r : R D) : R Bool := r.bind fun d s => match d with
  | .bl b => .ok b s
  | _ => .no
def isNil : E → Bool
  | .nil => true
  | _ => false
def partR (b : Bool) (r : R D) (s : St) : R (Option Int) := if b then .ok none s else r.bind fun d s => match d with
  | .int i => .ok (some i) s
  | _ => .no
def kindOk (G : Pg) : D → Bool
  | .cell _ => false | .cls _ => false | .clo _ _ => false
  | .ins k _ => (G.cl k).isSome
  | _ => true
def isTy (G : Pg) (d : D) : Ty → Bool
  | .str => match d with | .str _ => true | _ => false
  | .int => match d with | .int _ => true | .bl _ => true | _ => false
  | .bool => match d with | .bl _ => true | _ => false
  | .tuple => match d with | .tup _ => true | _ => false
  | .list => match d with | .lst _ => true | _ => false
  | .dict => match d with | .dct _ _ => true | _ => false
  | .cls c => match d with | .ins k _ => (k == c || match G.cl k with | some r => r.sup.contains c | none => false) | _ => false
def minT : List D → Option D
  | [] => none
  | x :: xs => some (xs.foldl (fun b z => if ltD z b then z else b) x)
def biD : Bi → List D → Option D
  | .len, [d] => (lenOf d).map fun n => .int n
  | .abs, [.int i] => some (.int (if i < 0 then -i else i))
  | .max2, [.int i, .int j] => some (.int (if j > i then j else i))
  | .min2, [.int i, .int j] => some (.int (if j < i then j else i))
  | .max1, [.lst xs] => (intsOf xs).bind fun ns => match ns with
    | n :: ns => some (.int (ns.foldl max n))
    | [] => none
  | .min1, [.lst xs] => ((intsOf xs).bind fun ns => match ns with
    | n :: ns => some (.int (ns.foldl min n))
    | [] => none).or (if sortOk xs then minT xs else none)
  | .sum, [.lst xs] => (intsOf xs).map fun ns => .int ns.sum
  | .all, [.lst xs] => (blsOf xs).map fun bs => .bl (bs.all id)
  | .any, [.lst xs] => (blsOf xs).map fun bs => .bl (bs.any id)
  | .int, [.int i] => some (.int i)
  | .int, [.bl b] => some (.int (b2i b))
  | .int, [.str s] => if s ≠ [] ∧ s.length ≤ 100 ∧ (s.all fun c => (48 ≤ c && c ≤ 57)) = true then some (.int (numVal 0 s : Nat)) else none
  | .str, [.int i] => if i.natAbs < 10 ^ 60 then some (.str (intL i)) else none
  | .str, [.str s] => some (.str s)
  | .repr, [d] => if dat d then (reprD d).bind fun t => if t.length ≤ line then some (.str t) else none else none
  | .bool, [.bl b] => some (.bl b)
  | _, _ => none
def joinT (s : List Nat) (xs : List D) : Option D := (strsOf xs).bind fun ws => if (ws.map (·.length)).sum + ws.length * s.length ≤ line then some (.str (joinL s ws)) else none
def bmD : Bm → D → List D → Option D
  | .join, .str s, [.lst xs] => joinT s xs
  | .join, .str s, [.tup xs] => joinT s xs
  | .sidx, .str s, [.str [c]] => (idxL (· == c) s).map fun (n : Nat) => .int n
  | .lidx, .lst xs, [d] => if dat d && dat (.lst xs) then (idxL (fun y => eqD y d) xs).map fun (n : Nat) => .int n else none
  | .scnt, .str s, [.str [c]] => some (.int (s.count c : Nat))
  | .lcnt, .lst xs, [d] => if dat d && dat (.lst xs) then some (.int (xs.countP fun y => eqD y d : Nat)) else none
  | .bitlen, .int i, [] => some (.int (PySem.Builtin.Int.intBits i : Nat))
  | .upper, .str s, [] => if s.all (· < 128) = true ∧ s.length ≤ 5592405 then some (.str (s.map upC)) else none
  | .replace, .str s, [.str [a], .str b] => if (s.flatMap fun c => if c = a then b else [c]).length ≤ line then some (.str (s.flatMap fun c => if c = a then b else [c])) else none
  | _, _, _ => none
def bmC : Bm → D → List D → St → R D
  | .append, .cell n, [d], s => match s[n]? with
    | some (.lst xs) => if xs.length < line ∧ below n d = true then .ok .non (s.set n (.lst (xs ++ [d]))) else .no
    | _ => .no
  | .extend, .cell n, [.cell k], s => match s[n]?, s[k]? with
    | some (.lst xs), some (.lst ys) => if xs.length + ys.length ≤ line ∧ belows n ys = true then .ok .non (s.set n (.lst (xs ++ ys))) else .no
    | _, _ => .no
  | .extend, .cell n, [.tup ys], s => match s[n]? with
    | some (.lst xs) => if xs.length + ys.length ≤ line ∧ belows n ys = true then .ok .non (s.set n (.lst (xs ++ ys))) else .no
    | _ => .no
  | .pop, .cell n, [.int i], s => match s[n]? with
    | some (.lst xs) => match ixN xs.length i with
      | some k => match xs[k]? with
        | some d => .ok d (s.set n (.lst (xs.eraseIdx k)))
        | none => .no
      | none => .no
    | _ => .no
  | .pop0, .cell n, [], s => match s[n]? with
    | some (.lst xs) => match xs[xs.length - 1]? with
      | some d => .ok d (s.set n (.lst xs.dropLast))
      | none => .no
    | _ => .no
  | _, _, _, _ => .no
def bmOk : Bm → D → Bool
  | .join, .str _ => true | .split, .str _ => true | .sidx, .str _ => true | .scnt, .str _ => true | .upper, .str _ => true | .replace, .str _ => true
  | .lidx, .lst _ => true | .lcnt, .lst _ => true | .append, .lst _ => true | .extend, .lst _ => true | .pop, .lst _ => true | .pop0, .lst _ => true
  | .bitlen, .int _ => true | .get, .dct _ _ => true | .kget, .dct _ _ => true
  | _, _ => false
def splR (m : Bool) (x : D) (ds : List D) (s : St) : R D := match x, ds with
  | .str t, [.str [c]] => if t.length ≤ 100000 ∧ c < 128 then alloc m ((splL c [] t).map .str) s else .no
  | _, _ => .no
def getR (x : D) (ds : List D) (s : St) : R D := match x, ds with
  | .dct ks vs, [k, d] => R.opt ((keyOf k).map fun q => (lookK q ks vs).getD d) s
  | _, _ => .no
def kgetR (x : D) (ds : List D) (s : St) : R D := match x, ds with
  | .dct ks vs, [.str t, d] => .ok ((lookK (.str t) ks vs).getD d) s
  | _, _ => .no
def bmR (m : Bool) (b : Bm) (x : D) (ds : List D) (s : St) : R D := match b with
  | .split => splR m (view s x) ds s
  | .get => getR (view s x) ds s
  | .kget => kgetR (view s x) ds s
  | .append => bmC b x ds s
  | .extend => bmC b x ds s
  | .pop => bmC b x ds s
  | .pop0 => bmC b x ds s
  | b => R.opt (bmD b (view s x) (ds.map (view s))) s
def rngL (lo : Int) (n : Nat) : List D := (List.range n).map fun k => .int (lo + (k : Nat))
def rngC (lo st : Int) (n : Nat) : List D := (List.range n).map fun k => .int (lo + (k : Nat) * st)
def fits62 (i : Int) : Bool := decide (-4611686018427387904 ≤ i) && decide (i < 4611686018427387904)
section
variable (G : Pg) (κ : Nat → List D → St → R D)
def mkI (c : Nat) (pm : List Nat) (ds : List D) (s : St) : R D := match G.cl c with
  | none => .no
  | some r => match r.init with
    | none => .no
    | some f => match permA pm (.cell s.length :: ds) with
      | none => .no
      | some as => (κ f as (s ++ [.ins c []])).bind fun d s' => if d = .non then (match r.frz with
        | false => .ok (.cell s.length) s'
        | true => match s'[s.length]? with
          | some (.ins k fs) => if k = c ∧ s'.length = s.length + 1 ∧ belows s.length fs = true then .ok (.ins c fs) (s'.take s.length) else .no
          | _ => .no) else .no
def atrI (d : D) (a : Nat) (s : St) : R D := match view s d with
  | .ins c fs => match G.cl c with
    | none => .no
    | some r => match r.fld.lookup a with
      | some i => R.opt fs[i]? s
      | none => match r.prop.lookup a with
        | some f => (κ f [d] s).calm
        | none => .no
  | _ => .no
def methF (d : D) (a : Nat) (s : St) : Option Nat := match view s d with
  | .ins c _ => match G.cl c with
    | none => none
    | some r => r.meth.lookup a
  | _ => none
def cmpI (op : CmpOp) (x y : D) (s : St) : R D := match view s x, view s y with
  | .ins _ _, _ => .no
  | _, .ins _ _ => .no
  | vx, vy => R.opt ((cmpO op vx vy).map .bl) s
def eqiX (ng : Bool) (x y : D) (s : St) : R D := match view s x, view s y with
  | .ins k _, .ins k2 _ => if k = k2 then (match (G.cl k).bind ClR.eqF with
    | some f => (κ f [x, y] s).calm.bind fun n s => match n with
      | .bl t => .ok (.bl (t != ng)) s
      | _ => .no
    | none => .no) else .no
  | _, _ => .no
def biI (b : Bi) (ds : List D) (s : St) : R D := match b, ds with
  | .len, [d] => match view s d with
    | .ins c _ => match (G.cl c).bind ClR.lenF with
      | some f => (κ f [d] s).calm.bind fun n s => match n with
        | .int i => if 0 ≤ i ∧ i < 1000000 then .ok (.int i) s else .no
        | _ => .no
      | none => .no
    | v => R.opt (biD .len [v]) s
  | .str, [d] => match view s d with
    | .ins c _ => match (G.cl c).bind ClR.strF with
      | some f => (κ f [d] s).calm.bind fun n s => match n with
        | .str i => .ok (.str i) s
        | _ => .no
      | none => .no
    | v => R.opt (biD .str [v]) s
  | b, ds => R.opt (biD b (ds.map (view s))) s
mutual
def ev : E → Env → St → R D
  | .var i, v, s => match v[i]? with
    | some (some d) => .ok d s
    | _ => .no
  | .con d, _, s => .ok d s
  | .glob _ d, _, s => .ok d s
  | .bin m op a b, v, s => (ev a v s).bind fun x s => (ev b v s).bind fun y s => match binL op (view s x) (view s y) with
    | some xs => alloc m xs s
    | none => R.opt (binD op (view s x) (view s y)) s
  | .neg a, v, s => (ev a v s).bind fun x s => match x with
    | .int i => .ok (.int (-i)) s
    | _ => .no
  | .eqi ng a b, v, s => (ev a v s).bind fun x s => (ev b v s).bind fun y s => eqiX G κ ng x y s
  | .cmp op a b, v, s => (ev a v s).bind fun x s => (ev b v s).bind fun y s => cmpI op x y s
  | .cmp2 o p a b c, v, s => (ev a v s).bind fun x s => (ev b v s).bind fun y s => match cmpO o x y with
    | some false => .ok (.bl false) s
    | some true => (ev c v s).bind fun z s => R.opt ((cmpO p y z).map .bl) s
    | none => .no
  | .isn a ng, v, s => (ev a v s).bind fun x s => .ok (.bl (decide (x = .non) != ng)) s
  | .isb a b ng, v, s => (ev a v s).bind fun x s => match x with
    | .bl a => .ok (.bl (decide (a = b) != ng)) s
    | _ => .no
  | .and a b, v, s => (tst (ev a v s)).bind fun t s => if t then ev b v s else .ok (.bl false) s
  | .or a b, v, s => (tst (ev a v s)).bind fun t s => if t then .ok (.bl true) s else ev b v s
  | .one a, v, s => ev a v s
  | .not a, v, s => (tst (ev a v s)).bind fun t s => .ok (.bl (!t)) s
  | .ite c a b, v, s => (tst (ev c v s)).bind fun t s => if t then ev a v s else ev b v s
  | .tup es, v, s => (evs es v s).bind fun ds s => if ds.length ≤ line then .ok (.tup ds) s else .no
  | .lst m es, v, s => (evs es v s).bind fun ds s => if ds.length ≤ line then alloc m ds s else .no
  | .dct m ks es, v, s => (evs es v s).bind fun ds s => if ks.length = ds.length ∧ ks.Nodup ∧ ks.length ≤ 100 then (match m with
    | true => if belows s.length ds then .ok (.cell s.length) (s ++ [.dct ks ds]) else .no
    | false => .ok (.dct ks ds) s) else .no
  | .idx a i, v, s => (ev a v s).bind fun x s => (ev i v s).bind fun y s => R.opt (idxD (view s x) y) s
  | .sl m st a lo hi, v, s => (ev a v s).bind fun x s => (partR (isNil lo) (ev lo v s) s).bind fun l s => (partR (isNil hi) (ev hi v s) s).bind fun h s => match slL st (view s x) l h with
    | some xs => alloc m xs s
    | none => R.opt (slD st (view s x) l h) s
  | .comp m t it c e, v, s => (evIt it v s).bind fun p s => (compL (fun x s => match bindT t x (wipeE v (tgV t)) with
    | some v' => (tst (ev c v' s)).calm.bind fun b s => if b then (ev e v' s).calm.map ([·]) else .ok [] s
    | none => .no) p.2 p.1 s).bind fun ds s => if ds.length ≤ line then alloc m ds s else .no
  | .comp2 m t it c t2 it2 c2 e, v, s => (evIt it v s).bind fun p s => (compL (fun x s => match bindT t x (wipeE v (tgV t ++ tgV t2)) with
    | some v' => (tst (ev c v' s)).calm.bind fun b s => if b then (evIt it2 v' s).calm.bind fun p2 s => compL (fun x s => match bindT t2 x (wipeE v' (tgV t2)) with
        | some w' => (tst (ev c2 w' s)).calm.bind fun b s => if b then (ev e w' s).calm.map ([·]) else .ok [] s
        | none => .no) p2.2 p2.1 s else .ok [] s
    | none => .no) p.2 p.1 s).bind fun ds s => if ds.length ≤ line then alloc m ds s else .no
  | .listOf m e, v, s => (ev e v s).bind fun d s => match itemsOf (view s d) with
    | some xs => if xs.length ≤ line then alloc m xs s else .no
    | none => .no
  | .listR m it, v, s => (evIt it v s).bind fun p s => if p.1.length ≤ line then alloc m p.1 s else .no
  | .tupR it, v, s => (evIt it v s).bind fun p s => if p.1.length ≤ line then .ok (.tup p.1) s else .no
  | .tupOf e, v, s => (ev e v s).bind fun d s => match seqOf (view s d) with
    | some xs => if xs.length ≤ line then .ok (.tup xs) s else .no
    | none => .no
  | .sorted m e, v, s => (ev e v s).bind fun d s => match srcOf (view s d) with
    | some xs => (match sortD xs with
      | some xs => if xs.length ≤ line then alloc m xs s else .no
      | none => .no)
    | none => .no
  | .sortset m e, v, s => (ev e v s).bind fun d s => match itemsOf (view s d) with
    | some xs => if xs.all keyD = true ∧ xs.length < 4000 then (match sortD (nubD xs) with
      | some xs => alloc m xs s
      | none => .no) else .no
    | none => .no
  | .lenset e, v, s => (ev e v s).bind fun d s => match itemsOf (view s d) with
    | some xs => if xs.all keyD = true ∧ xs.length < 4000 then .ok (.int (nubD xs).length) s else .no
    | none => .no
  | .isi e t, v, s => (ev e v s).bind fun x s => if kindOk G (view s x) then .ok (.bl (isTy G (view s x) t)) s else .no
  | .bi b es, v, s => (evs es v s).bind fun ds s => biI G κ b ds s
  | .divmod a b, v, s => (ev a v s).bind fun x s => (ev b v s).bind fun y s => match x, y with
    | .int i, .int j => if 0 < j ∧ j < 1073741824 then .ok (.tup [.int (i / j), .int (i % j)]) s else .no
    | _, _ => .no
  | .bm m b o es, v, s => (ev o v s).bind fun x s => if bmOk b (view s x) then (evs es v s).bind fun ds s => bmR m b x ds s else .no
  | .call f es pm, v, s => (evs es v s).bind fun ds s => match permA pm ds with
    | some ds => κ f ds s
    | none => .no
  | .mk c es pm, v, s => (evs es v s).bind fun ds s => mkI G κ c pm ds s
  | .clm c f es pm, v, s => (evs es v s).bind fun ds s => match permA pm (.cls c :: ds) with
    | some ds => κ f ds s
    | none => .no
  | .atr o a, v, s => (ev o v s).bind fun x s => atrI G κ x a s
  | .meth o a es pm, v, s => (ev o v s).bind fun x s => match methF G x a s with
    | some f => (evs es v s).bind fun ds s => (match permA pm (x :: ds) with
      | some as => κ f as s
      | none => .no)
    | none => .no
  | _, _, _ => .no
def evs : E → Env → St → R (List D)
  | .nil, _, s => .ok [] s
  | .cons e es, v, s => (ev e v s).bind fun d s => (evs es v s).map (d :: ·)
  | .star e es, v, s => (ev e v s).bind fun d s => match seqOf (view s d) with
    | some xs => (evs es v s).map (xs ++ ·)
    | none => .no
  | _, _, _ => .no
def evIt : E → Env → St → R (List D × Gd)
  | .iv e, v, s => (ev e v s).bind fun d s => match itemsOf (view s d) with
    | some xs => .ok (xs, guardOf s d) s
    | none => match keysOf (view s d) with
      | some xs => .ok (xs, []) (lockS s d)
      | none => .no
  | .rng1 a, v, s => (ev a v s).bind fun d s => match d with
    | .int j => if fits62 j then .ok (rngL 0 j.toNat, []) s else .no
    | _ => .no
  | .rng2 a b, v, s => (ev a v s).bind fun d s => (ev b v s).bind fun e s => match d, e with
    | .int i, .int j => if fits62 i && fits62 j then .ok (rngL i (j - i).toNat, []) s else .no
    | _, _ => .no
  | .rng3 a b c, v, s => (ev a v s).bind fun d s => (ev b v s).bind fun e s => (ev c v s).bind fun f s => match d, e, f with
    | .int i, .int j, .int st => if fits62 i && fits62 j && decide (1 ≤ st) && decide (st < 1000) then .ok (rngC i st ((j - i + st - 1) / st).toNat, []) s else .no
    | _, _, _ => .no
  | .zip a b, v, s => (ev a v s).bind fun d s => (ev b v s).bind fun e s => match view s d, view s e with
    | .lst xs, .lst ys => .ok ((xs.zip ys).map fun p => .tup [p.1, p.2], guardOf s d ++ guardOf s e) s
    | .tup xs, .tup ys => .ok ((xs.zip ys).map fun p => .tup [p.1, p.2], []) s
    | _, _ => .no
  | .enum a, v, s => (ev a v s).bind fun d s => match view s d with
    | .lst xs => .ok ((xs.zipIdx).map fun p => .tup [.int (p.2 : Nat), p.1], guardOf s d) s
    | _ => .no
  | .itms a, v, s => (ev a v s).bind fun d s => match d with
    | .dct ks vs => .ok ((ks.zip vs).map fun p => .tup [dkD p.1, p.2], []) s
    | _ => .no
  | _, _, _ => .no
end
def setC (s : St) (n : Nat) (k d : D) : Option St := match s[n]? with
  | some (.lst xs) => match k with
    | .int i => match ixN xs.length i with
      | some j => if below n d then some (s.set n (.lst (xs.set j d))) else none
      | none => none
    | _ => none
  | some (.dct ks vs) => match keyOf k with
    | some q => if ks.length < line ∧ below n d = true then some (s.set n (.dct (putK q d ks vs).1 (putK q d ks vs).2)) else none
    | none => none
  | _ => none
def ex : C → Env → St → RS
  | .done, v, s => .nx v s
  | .ret e, v, s => (ev G κ e v s).go v fun d s => .rt d s
  | .retn, _, s => .rt .non s
  | .asg t e k, v, s => (ev G κ e v s).go v fun d s => match bindT t d v with
    | some v' => ex k v' s
    | none => .no
  | .seti i ix e k, v, s => (ev G κ e v s).go v fun d s => (ev G κ (.var i) v s).go v fun o s => (ev G κ ix v s).go v fun x s => match o with
    | .cell n => match setC s n x d with
      | some s' => ex k v s'
      | none => .no
    | _ => .no
  | .setit i ix j e k, v, s => (ev G κ e v s).go v fun d s => match d with
    | .tup [d, d2] => (ev G κ (.var i) v s).go v fun o s => (ev G κ ix v s).go v fun x s => match o with
      | .cell n => match setC s n x d with
        | some s' => ex k (v.set j (some d2)) s'
        | none => .no
      | _ => .no
    | _ => .no
  | .setf o a e k, v, s => (ev G κ e v s).go v fun d s => (ev G κ o v s).go v fun x s => match x with
    | .cell n => match s[n]? with
      | some (.ins c fs) => match (G.cl c).bind fun r => r.fld.lookup a with
        | some i => if below n d then (if i < fs.length then ex k v (s.set n (.ins c (fs.set i d))) else if i = fs.length then ex k v (s.set n (.ins c (fs ++ [d]))) else .no) else .no
        | none => .no
      | _ => .no
    | _ => .no
  | .exp e k, v, s => (ev G κ e v s).go v fun _ s => ex k v s
  | .ite c a b k, v, s => (tst (ev G κ c v s)).go v fun t s => (if t then ex a v s else ex b v s).go fun v s => ex k v s
  | .for t it b k, v, s => (evIt G κ it v s).go v fun p s => (forL (fun x v s => match bindT t x v with
    | some v' => ex b v' s
    | none => .no) p.2 p.1 v s).go fun v s => ex k v s
  | .whl c b k, v, s => (whlL (fun v s => tst (ev G κ c v s)) (fun v s => ex b v s) bigN v s).go fun v s => ex k v s
  | .brk, v, s => .bk v s
  | .cnt, v, s => .ct v s
  | .pass k, v, s => ex k v s
  | .try b _ _ _ k, v, s => (ex b v s).calm.go fun v s => ex k v s
  | _, _, _ => .no
end
mutual
def frz (n : Nat) (s : St) : D → Option D
  | .cell k => if k < n then some (.cell k) else (match s[k]? with
    | some (.lst xs) => if belows n xs then some (.lst xs) else none
    | some (.dct ks vs) => if belows n vs then some (.dct ks vs) else none
    | some (.fdc ks vs) => if belows n vs then some (.dct ks vs) else none
    | _ => none)
  | .tup xs => (frzs n s xs).map .tup
  | .lst xs => if belows n xs then some (.lst xs) else none
  | .dct ks vs => if belows n vs then some (.dct ks vs) else none
  | .ins c vs => if belows n vs then some (.ins c vs) else none
  | .clo _ _ => none
  | d => some d
def frzs (n : Nat) (s : St) : List D → Option (List D)
  | [] => some []
  | x :: xs => match frz n s x, frzs n s xs with
    | some y, some ys => some (y :: ys)
    | _, _ => none
end
def fin (tr : Bool) (n : Nat) (d : D) (s : St) : R D := match tr with
  | false => .ok d s
  | true => match frz n s d with
    | some d' => .ok d' (s.take n)
    | none => .no
def run (G : Pg) : Nat → Nat → List D → St → R D
  | 0, _, _, _ => .no
  | k + 1, f, ds, s => match G.fn f with
    | none => .no
    | some r => if ds.length = r.np then (match ex G (run G k) r.body (ds.map some ++ List.replicate (r.ns - r.np) none) s with
      | .nx _ s' => fin r.tr s.length .non s'
      | .rt d s' => fin r.tr s.length d s'
      | .ex e _ s' => .ex e s'
      | _ => .no) else .no
end EV
set_option Elab.async false
set_option linter.all false
set_option maxRecDepth 100000
set_option maxHeartbeats 2000000
namespace EV
open PySem PySem.Spec PyProof.Rows L2
abbrev SS (l : List Nat) : Str := ⟨l.toArray⟩
theorem SS_inj {a b : List Nat} (h : SS a = SS b) : a = b := congrArg (fun x : Str => x.cps.toList) h
theorem SS_len (a : List Nat) : (SS a).length = a.length := by simp [SS, Str.length]
theorem SS_tl (x : Str) : SS x.cps.toList = x := TL.mk_tl x
theorem SS_cat (a b : List Nat) : SS a ++ SS b = SS (a ++ b) := TL.ext_tl (TL.tl_append (SS a) (SS b))
theorem line_eq : line = sizeLine := by rw [sizeLine_eq]; rfl
structure Lay where
  K : PySem.W.Frag
  z : List Addr
  cad : Nat → Addr
  cfs : Nat → List Str
def dkK : DK → Key
  | .int i => .inl i
  | .str s => .inr (SS s)
def SeqF (L : Lay) (A : List Addr) (H : Hp) (a : Addr) (u : HO) (KP : Prop) : Prop := (Rd H a u ∧ a ∉ A ∧ a ∉ L.z) ∨ KP
def KL (K : PySem.W.Frag) (a : Addr) (xs : List V) : Prop := ∃ (o : Obj) (its : Array Value) (n : Nat), K.lookup a = some o ∧ o.cls = .type "list" ∧ o.dict = none ∧ o.data = .seq its n ∧ its.size ≤ sizeLine ∧ Vals xs its.toList
def KT (K : PySem.W.Frag) (a : Addr) (xs : List V) : Prop := ∃ (o : Obj) (its : Array Value) (n : Nat), K.lookup a = some o ∧ o.cls = .type "tuple" ∧ o.data = .seq its n ∧ its.size ≤ sizeLine ∧ Vals xs its.toList
section
variable (L : Lay)
mutual
def Rel (A : List Addr) (H : Hp) : D → V → Prop
  | .non, v => v = .non
  | .bl b, v => v = .bl b
  | .int i, v => v = .int i
  | .str s, v => v = .str (SS s)
  | .tup ds, v => ∃ a vs, v = .ref a ∧ SeqF L A H a (.tup vs) (KT L.K a vs) ∧ Rels A H ds vs
  | .lst ds, v => ∃ a vs, v = .ref a ∧ SeqF L A H a (.lst vs) (KL L.K a vs) ∧ Rels A H ds vs
  | .dct ks ds, v => ∃ a vs, v = .ref a ∧ Rd H a (.dK ((ks.map dkK).zip vs)) ∧ (a ∉ A ∧ a ∉ L.z) ∧ ks.length = vs.length ∧ ks.Nodup ∧ Rels A H ds vs
  | .ins c ds, v => ∃ a dx vs, v = .ref a ∧ H a = some (.ins (L.cad c) dx ((L.cfs c).zip vs)) ∧ (a ∉ A ∧ a ∉ L.z) ∧ vs.length ≤ (L.cfs c).length ∧ Rels A H ds vs
  | .cell n, v => ∃ a, v = .ref a ∧ A[n]? = some a
  | .cls c, v => v = .ref (L.cad c)
  | .clo _ _, _ => False
def Rels (A : List Addr) (H : Hp) : List D → List V → Prop
  | [], vs => vs = []
  | d :: ds, vs => ∃ v r, vs = v :: r ∧ Rel A H d v ∧ Rels A H ds r
end
def Kp (o : HO) (r : Option HO) : Prop := r = some o ∨ ∃ kvs od, o = .dK kvs ∧ r = some (.frz od (.dK kvs))
structure Grow (A : List Addr) (H : Hp) (A' : List Addr) (H' : Hp) : Prop where
  pre : ∃ B, A' = A ++ B
  keep : ∀ a o, H a = some o → a ∉ A → Kp o (H' a)
  free : ∀ a o, H a = some o → a ∉ A → a ∉ A'
  frzs : ∀ a od u, H a = some (.frz od u) → H' a = some (.frz od u)
def CellOk (A : List Addr) (H : Hp) (n : Nat) (a : Addr) : Cell → Prop
  | .lst ds => ∃ vs, H a = some (.lst vs) ∧ Rels L A H ds vs ∧ belows n ds = true
  | .dct ks ds => ∃ vs, H a = some (.dK ((ks.map dkK).zip vs)) ∧ ks.length = vs.length ∧ ks.Nodup ∧ Rels L A H ds vs ∧ belows n ds = true
  | .ins c ds => ∃ dx vs, H a = some (.ins (L.cad c) dx ((L.cfs c).zip vs)) ∧ vs.length ≤ (L.cfs c).length ∧ Rels L A H ds vs ∧ belows n ds = true
  | .fdc ks ds => ∃ vs od, H a = some (.frz od (.dK ((ks.map dkK).zip vs))) ∧ ks.length = vs.length ∧ ks.Nodup ∧ Rels L A H ds vs ∧ belows n ds = true
structure Cells (A : List Addr) (S : St) (H : Hp) : Prop where
  len : A.length = S.length
  nd : A.Nodup
  ok : ∀ n c a, S[n]? = some c → A[n]? = some a → CellOk L A H n a c
  zt : ∀ a ∈ L.z, (∃ o, H a = some o) ∧ a ∉ A
structure EnvOk (A : List Addr) (H : Hp) (v : Env) (σ : L2.St) : Prop where
  len : v.length = σ.length
  at_ : ∀ (i : Nat) (d : D), v[i]? = some (some d) → ∃ x, σ[i]? = some (some x) ∧ Rel L A H d x
end
section
variable {L : Lay} {A A' A2 : List Addr} {H H' H2 : Hp} {S S' : St} {v : Env} {σ : L2.St}
theorem Kp.ne {o : HO} {r : Option HO} (h : Kp o r) (n : ∀ kvs, o ≠ .dK kvs) : r = some o := by
  rcases h with h | ⟨kvs, od, e, _⟩
  · exact h
  · exact absurd e (n kvs)
theorem Kp.some {o : HO} {r : Option HO} (h : Kp o r) : ∃ u, r = .some u := by
  rcases h with h | ⟨kvs, od, e, h⟩ <;> exact ⟨_, h⟩
theorem Kp.rd {kvs : List (Key × V)} {a : Addr} (h : Kp (.dK kvs) (H a)) : Rd H a (.dK kvs) := by
  rcases h with h | ⟨k2, od, e, h⟩
  · exact .inl h
  · cases e; exact .inr ⟨od, h⟩
theorem Kp.trans {o : HO} {x : Addr} (h : Kp o (H x)) (k : ∀ u, H x = .some u → Kp u (H' x)) : Kp o (H' x) := by
  rcases h with h | ⟨kvs, od, e, h⟩
  · exact k _ h
  · exact .inr ⟨kvs, od, e, (k _ h).ne fun _ z => nomatch z⟩
theorem rd_kp {kvs : List (Key × V)} {a : Addr} (h : Rd H a (.dK kvs)) (k : ∀ u, H a = .some u → Kp u (H' a)) : Rd H' a (.dK kvs) := by
  rcases h with h | ⟨od, h⟩
  · exact (k _ h).rd
  · exact .inr ⟨od, (k _ h).ne fun _ z => nomatch z⟩
theorem Grow.refl : Grow A H A H := ⟨⟨[], by simp⟩, fun _ _ h _ => .inl h, fun _ _ _ h => h, fun _ _ _ h => h⟩
theorem Grow.trans (a : Grow A H A' H') (b : Grow A' H' A2 H2) : Grow A H A2 H2 := by
  obtain ⟨B, e⟩ := a.pre
  obtain ⟨B', e'⟩ := b.pre
  exact ⟨⟨B ++ B', by rw [e', e, List.append_assoc]⟩, fun x o h n => (a.keep x o h n).trans fun u e => b.keep x u e (a.free x o h n), fun x o h n => let ⟨u, e⟩ := (a.keep x o h n).some; b.free x u e (a.free x o h n), fun x od u h => b.frzs x od u (a.frzs x od u h)⟩
theorem Grow.at_ (g : Grow A H A' H') {n : Nat} {a : Addr} (h : A[n]? = some a) : A'[n]? = some a := by
  obtain ⟨B, e⟩ := g.pre
  rw [e, List.getElem?_append_left (List.getElem?_eq_some_iff.mp h).1]; exact h
theorem SeqF.grow (g : Grow A H A' H') {a : Addr} {u : HO} {P : Prop} (h : SeqF L A H a u P) (nd : ∀ kvs, u ≠ .dK kvs := by intro _ z; cases z) : SeqF L A' H' a u P := by
  rcases h with ⟨r, n, nz⟩ | h
  · rcases r with r | ⟨o, r⟩
    · exact .inl ⟨.inl ((g.keep _ _ r n).ne nd), g.free _ _ r n, nz⟩
    · exact .inl ⟨.inr ⟨o, (g.keep _ _ r n).ne fun _ z => nomatch z⟩, g.free _ _ r n, nz⟩
  · exact .inr h
mutual
theorem Rel.grow (g : Grow A H A' H') : ∀ {d : D} {x : V}, Rel L A H d x → Rel L A' H' d x
  | .non, _, h => h | .bl _, _, h => h | .int _, _, h => h | .str _, _, h => h
  | .tup ds, _, h => by
    obtain ⟨a, vs, e, q, r⟩ := (show ∃ a vs, _ from by simpa only [Rel] using h)
    simp only [Rel]
    exact ⟨a, vs, e, q.grow g, Rels.grow g r⟩
  | .lst ds, _, h => by
    obtain ⟨a, vs, e, q, r⟩ := (show ∃ a vs, _ from by simpa only [Rel] using h)
    simp only [Rel]
    exact ⟨a, vs, e, q.grow g, Rels.grow g r⟩
  | .dct ks ds, _, h => by
    obtain ⟨a, vs, e, q, n, l, nd, r⟩ := (show ∃ a vs, _ from by simpa only [Rel] using h)
    simp only [Rel]
    refine ⟨a, vs, e, rd_kp q fun u h => g.keep _ u h n.1, ⟨?_, n.2⟩, l, nd, Rels.grow g r⟩
    rcases q with q | ⟨od, q⟩ <;> exact g.free _ _ q n.1
  | .ins c ds, _, h => by
    obtain ⟨a, dx, vs, e, q, n, l, r⟩ := (show ∃ a dx vs, _ from by simpa only [Rel] using h)
    simp only [Rel]
    exact ⟨a, dx, vs, e, (g.keep _ _ q n.1).ne (fun _ z => nomatch z), ⟨g.free _ _ q n.1, n.2⟩, l, Rels.grow g r⟩
  | .cell n, _, h => by
    obtain ⟨a, e, q⟩ := (show ∃ a, _ from by simpa only [Rel] using h)
    simp only [Rel]
    exact ⟨a, e, g.at_ q⟩
  | .cls _, _, h => h
  | .clo _ _, _, h => h
theorem Rels.grow (g : Grow A H A' H') : ∀ {ds : List D} {vs : List V}, Rels L A H ds vs → Rels L A' H' ds vs
  | [], _, h => h
  | d :: ds, _, h => by
    obtain ⟨x, r, e, h1, h2⟩ := (show ∃ v r, _ from by simpa only [Rels] using h)
    simp only [Rels]
    exact ⟨x, r, e, Rel.grow g h1, Rels.grow g h2⟩
end
theorem EnvOk.grow (g : Grow A H A' H') (h : EnvOk L A H v σ) : EnvOk L A' H' v σ :=
  ⟨h.len, fun i d e => let ⟨x, e1, r⟩ := h.at_ i d e; ⟨x, e1, r.grow g⟩⟩
theorem Rels.len : ∀ {ds : List D} {vs : List V}, Rels L A H ds vs → ds.length = vs.length
  | [], _, h => by simp only [Rels] at h; subst h; rfl
  | d :: ds, _, h => by
    obtain ⟨x, r, e, h1, h2⟩ := (show ∃ v r, _ from by simpa only [Rels] using h)
    subst e
    simp only [List.length_cons, Rels.len h2]
theorem Rels.get : ∀ {ds : List D} {vs : List V} {i : Nat} {d : D}, Rels L A H ds vs → ds[i]? = some d → ∃ x, vs[i]? = some x ∧ Rel L A H d x
  | [], _, i, d, _, e => by simp at e
  | d0 :: ds, _, i, d, h, e => by
    obtain ⟨x, r, e1, h1, h2⟩ := (show ∃ v r, _ from by simpa only [Rels] using h)
    subst e1
    cases i with
    | zero => simp at e; subst e; exact ⟨x, by simp, h1⟩
    | succ i =>
      obtain ⟨y, e2, r2⟩ := Rels.get (i := i) h2 (by simpa using e)
      exact ⟨y, by simpa using e2, r2⟩
theorem Rels.app : ∀ {ds es : List D} {vs us : List V}, Rels L A H ds vs → Rels L A H es us → Rels L A H (ds ++ es) (vs ++ us)
  | [], _, _, _, h, k => by simp only [Rels] at h; subst h; simpa using k
  | d :: ds, es, _, us, h, k => by
    obtain ⟨x, r, e, h1, h2⟩ := (show ∃ v r, _ from by simpa only [Rels] using h)
    subst e
    simp only [List.cons_append, Rels]
    exact ⟨x, r ++ us, rfl, h1, Rels.app h2 k⟩
theorem Rels.nil : Rels L A H [] [] := by simp only [Rels]
theorem Rels.cons {d : D} {ds : List D} {x : V} {xs : List V} (h : Rel L A H d x) (k : Rels L A H ds xs) : Rels L A H (d :: ds) (x :: xs) := by
  simp only [Rels]; exact ⟨x, xs, rfl, h, k⟩
theorem Rels.one {d : D} {x : V} (h : Rel L A H d x) : Rels L A H [d] [x] := .cons h .nil
theorem Rels.set {d : D} {x : V} (k : Rel L A H d x) : ∀ {ds : List D} {vs : List V} (i : Nat), Rels L A H ds vs → Rels L A H (ds.set i d) (vs.set i x)
  | [], _, i, h => by simp only [Rels] at h; subst h; simpa using Rels.nil
  | d0 :: ds, _, i, h => by
    obtain ⟨y, r, e, h1, h2⟩ := (show ∃ v r, _ from by simpa only [Rels] using h)
    subst e
    cases i with
    | zero => exact .cons k h2
    | succ i => exact .cons h1 (Rels.set k i h2)
theorem Rels.take : ∀ {ds : List D} {vs : List V} (i : Nat), Rels L A H ds vs → Rels L A H (ds.take i) (vs.take i)
  | _, _, 0, _ => by simpa using Rels.nil
  | [], _, i + 1, h => by simp only [Rels] at h; subst h; simpa using Rels.nil
  | d0 :: ds, _, i + 1, h => by
    obtain ⟨y, r, e, h1, h2⟩ := (show ∃ v r, _ from by simpa only [Rels] using h)
    subst e
    exact .cons h1 (Rels.take i h2)
theorem Rels.drop : ∀ {ds : List D} {vs : List V} (i : Nat), Rels L A H ds vs → Rels L A H (ds.drop i) (vs.drop i)
  | _, _, 0, h => by simpa using h
  | [], _, i + 1, h => by simp only [Rels] at h; subst h; simpa using Rels.nil
  | d0 :: ds, _, i + 1, h => by
    obtain ⟨y, r, e, h1, h2⟩ := (show ∃ v r, _ from by simpa only [Rels] using h)
    subst e
    exact Rels.drop i h2
theorem Rels.eraseIdx : ∀ {ds : List D} {vs : List V} (i : Nat), Rels L A H ds vs → Rels L A H (ds.eraseIdx i) (vs.eraseIdx i)
  | [], _, i, h => by simp only [Rels] at h; subst h; simpa using Rels.nil
  | d0 :: ds, _, 0, h => by
    obtain ⟨y, r, e, h1, h2⟩ := (show ∃ v r, _ from by simpa only [Rels] using h)
    subst e
    exact h2
  | d0 :: ds, _, i + 1, h => by
    obtain ⟨y, r, e, h1, h2⟩ := (show ∃ v r, _ from by simpa only [Rels] using h)
    subst e
    exact .cons h1 (Rels.eraseIdx i h2)
theorem Rels.rev {ds : List D} {vs : List V} (h : Rels L A H ds vs) : Rels L A H ds.reverse vs.reverse := by
  induction ds generalizing vs with
  | nil => simp only [Rels] at h; subst h; simpa using Rels.nil
  | cons d ds ih =>
    obtain ⟨y, r, e, h1, h2⟩ := (show ∃ v r, _ from by simpa only [Rels] using h)
    subst e
    rw [List.reverse_cons, List.reverse_cons]
    exact (ih h2).app (.one h1)
theorem Rels.rep {ds : List D} {vs : List V} (h : Rels L A H ds vs) : ∀ k, Rels L A H (rep ds k) (List.replicate k vs).flatten
  | 0 => by simpa [EV.rep] using Rels.nil
  | k + 1 => by
    have := Rels.rep h k
    unfold EV.rep at this ⊢
    rw [List.replicate_succ, List.flatten_cons, List.replicate_succ, List.flatten_cons]
    exact h.app this
theorem Cells.lt (C : Cells L A S H) {n : Nat} {a : Addr} (h : A[n]? = some a) : n < S.length := by
  rw [← C.len]; exact (List.getElem?_eq_some_iff.mp h).1
theorem Cells.addr (C : Cells L A S H) {n : Nat} (h : n < S.length) : ∃ a, A[n]? = some a := by
  rw [← C.len] at h; exact ⟨A[n], by simp [h]⟩
theorem cell_tracked {n : Nat} {a : Addr} {c : Cell} (h : CellOk L A H n a c) : ∃ o, H a = some o := by
  cases c with
  | lst ds => obtain ⟨vs, e, _⟩ := h; exact ⟨_, e⟩
  | dct ks ds => obtain ⟨vs, e, _⟩ := h; exact ⟨_, e⟩
  | ins c ds => obtain ⟨dx, vs, e, _⟩ := h; exact ⟨_, e⟩
  | fdc ks ds => obtain ⟨vs, od, e, _⟩ := h; exact ⟨_, e⟩
theorem Cells.mem (C : Cells L A S H) {a : Addr} (h : a ∈ A) : ∃ o, H a = some o := by
  obtain ⟨n, hn, e⟩ := List.mem_iff_getElem.mp h
  have hs : n < S.length := by rw [← C.len]; exact hn
  exact cell_tracked (C.ok n S[n] a (by simp [hs]) (by simp [hn, e]))
theorem Cells.fresh (C : Cells L A S H) {p : Addr} (h : H p = none) : p ∉ A := fun m => by
  obtain ⟨o, e⟩ := C.mem m
  rw [h] at e; cases e
theorem Cells.freshZ (C : Cells L A S H) {p : Addr} (h : H p = none) : p ∉ L.z := fun m => by
  obtain ⟨⟨o, e⟩, _⟩ := C.zt p m
  rw [h] at e; cases e
theorem CellOk.grow (g : Grow A H A' H') {n : Nat} {a : Addr} {c : Cell} (e : H' a = H a) (h : CellOk L A H n a c) : CellOk L A' H' n a c := by
  cases c with
  | lst ds => obtain ⟨vs, q, r, b⟩ := h; exact ⟨vs, e.trans q, r.grow g, b⟩
  | dct ks ds => obtain ⟨vs, q, l, nd, r, b⟩ := h; exact ⟨vs, e.trans q, l, nd, r.grow g, b⟩
  | ins c ds => obtain ⟨dx, vs, q, l, r, b⟩ := h; exact ⟨dx, vs, e.trans q, l, r.grow g, b⟩
  | fdc ks ds => obtain ⟨vs, od, q, l, nd, r, b⟩ := h; exact ⟨vs, od, e.trans q, l, nd, r.grow g, b⟩
theorem grow_new (C : Cells L A S H) {p : Addr} {o : HO} (h : H p = none) : Grow A H A (upd H p o) where
  pre := ⟨[], by simp⟩
  keep a u e _ := by rw [upd_ne (ne_of_none e h)]; exact .inl e
  free _ _ _ n := n
  frzs a od u e := by rw [upd_ne (ne_of_none e h)]; exact e
theorem Cells.new (C : Cells L A S H) {p : Addr} {o : HO} (h : H p = none) : Cells L A S (upd H p o) := by
  refine ⟨C.len, C.nd, fun n c a e1 e2 => ?_, fun a m => ?_⟩
  · obtain ⟨u, q⟩ := cell_tracked (C.ok n c a e1 e2)
    exact (C.ok n c a e1 e2).grow (grow_new C h) (upd_ne (ne_of_none q h))
  · obtain ⟨⟨u, q⟩, n⟩ := C.zt a m
    exact ⟨⟨u, by rw [upd_ne (ne_of_none q h)]; exact q⟩, n⟩
theorem grow_cell (C : Cells L A S H) {p : Addr} {o : HO} (h : H p = none) : Grow A H (A ++ [p]) (upd H p o) where
  pre := ⟨[p], rfl⟩
  keep a u e _ := by rw [upd_ne (ne_of_none e h)]; exact .inl e
  free a u e n := by
    rw [List.mem_append, List.mem_singleton]
    rintro (q | q)
    · exact n q
    · rw [q, h] at e; cases e
  frzs a od u e := by rw [upd_ne (ne_of_none e h)]; exact e
theorem Cells.cell (C : Cells L A S H) {p : Addr} {o : HO} {c : Cell} (h : H p = none) (k : CellOk L (A ++ [p]) (upd H p o) A.length p c) : Cells L (A ++ [p]) (S ++ [c]) (upd H p o) := by
  refine ⟨by simp [C.len], ?_, fun n c' a e1 e2 => ?_, fun a m => ?_⟩
  rotate_left
  rotate_left
  · obtain ⟨⟨u, q⟩, n⟩ := C.zt a m
    exact ⟨⟨u, by rw [upd_ne (ne_of_none q h)]; exact q⟩, (grow_cell (o := o) C h).free _ _ q n⟩
  · rw [List.nodup_append]
    refine ⟨C.nd, by simp, fun a ha b hb e => ?_⟩
    rw [List.mem_singleton] at hb
    rw [e, hb] at ha
    exact C.fresh h ha
  · by_cases hn : n < S.length
    · rw [List.getElem?_append_left hn] at e1
      rw [List.getElem?_append_left (by rw [C.len]; exact hn)] at e2
      refine (C.ok n c' a e1 e2).grow (grow_cell C h) (upd_ne ?_)
      obtain ⟨u, q⟩ := cell_tracked (C.ok n c' a e1 e2)
      exact ne_of_none q h
    · have hn2 : n = S.length := by
        have := (List.getElem?_eq_some_iff.mp e1).1
        simp only [List.length_append, List.length_singleton] at this
        omega
      subst hn2
      rw [List.getElem?_append_right (Nat.le_refl _)] at e1
      rw [List.getElem?_append_right (by rw [C.len]; exact Nat.le_refl _), C.len] at e2
      simp at e1 e2
      subst e1; subst e2
      rw [← C.len]; exact k
theorem grow_set {n : Nat} {p : Addr} {o : HO} (h : A[n]? = some p) (hn : ∀ od u, H p ≠ some (.frz od u)) : Grow A H A (upd H p o) where
  pre := ⟨[], by simp⟩
  keep a u e na := by
    rw [upd_ne (fun q => na (by rw [q]; exact List.mem_of_getElem? h))]; exact .inl e
  free _ _ _ n := n
  frzs a od u e := by
    have hne : a ≠ p := fun q => hn od u (by rw [← q]; exact e)
    rw [upd_ne hne]; exact e
theorem grow_lock {p : Addr} {kvs : List (Key × V)} {od : Obj} (h : H p = some (.dK kvs)) : Grow A H A (upd H p (.frz od (.dK kvs))) where
  pre := ⟨[], by simp⟩
  keep a u e _ := by
    by_cases q : a = p
    · subst q
      rw [h] at e; cases e
      exact .inr ⟨kvs, od, rfl, upd_same⟩
    · rw [upd_ne q]; exact .inl e
  free _ _ _ n := n
  frzs a od u e := by
    have hne : a ≠ p := fun q => by rw [q, h] at e; cases e
    rw [upd_ne hne]; exact e
theorem Cells.lock (C : Cells L A S H) {p : Addr} {kvs : List (Key × V)} {od : Obj} (h : H p = some (.dK kvs)) (n : p ∉ A) : Cells L A S (upd H p (.frz od (.dK kvs))) := by
  refine ⟨C.len, C.nd, fun m c a e1 e2 => (C.ok m c a e1 e2).grow (grow_lock h) (upd_ne fun q => n (by rw [← q]; exact List.mem_of_getElem? e2)), fun a m => ?_⟩
  obtain ⟨⟨u, q⟩, k⟩ := C.zt a m
  refine ⟨?_, k⟩
  by_cases e : a = p
  · exact ⟨_, by rw [e]; exact upd_same⟩
  · exact ⟨u, by rw [upd_ne e]; exact q⟩
theorem Cells.set (C : Cells L A S H) {n : Nat} {p : Addr} {o : HO} {c : Cell} (h : A[n]? = some p) (k : CellOk L A (upd H p o) n p c) (hn : ∀ od u, H p ≠ some (.frz od u)) : Cells L A (S.set n c) (upd H p o) := by
  refine ⟨by simp [C.len], C.nd, fun m c' a e1 e2 => ?_, fun a m => by
    obtain ⟨⟨u, q⟩, n'⟩ := C.zt a m
    exact ⟨⟨u, by rw [upd_ne (fun z => n' (by rw [z]; exact List.mem_of_getElem? h))]; exact q⟩, n'⟩⟩
  by_cases hm : m = n
  · subst hm
    rw [h] at e2; cases e2
    have hl : m < S.length := C.lt h
    rw [List.getElem?_set_self hl] at e1
    cases e1; exact k
  · rw [List.getElem?_set_ne (Ne.symm hm)] at e1
    refine (C.ok m c' a e1 e2).grow (grow_set h hn) (upd_ne ?_)
    intro e
    subst e
    exact hm ((List.getElem?_inj (List.getElem?_eq_some_iff.mp e2).1 C.nd).mp (e2.trans h.symm))
theorem EnvOk.set (h : EnvOk L A H v σ) {d : D} {x : V} (r : Rel L A H d x) (i : Nat) : EnvOk L A H (v.set i (some d)) (σ.set i (some x)) := by
  refine ⟨by simp [h.len], fun j d' e => ?_⟩
  by_cases hj : j = i
  · subst hj
    have hl : j < v.length := by
      have := (List.getElem?_eq_some_iff.mp e).1; simpa using this
    rw [List.getElem?_set_self hl] at e
    cases e
    exact ⟨x, by rw [List.getElem?_set_self (by rw [← h.len]; exact hl)], r⟩
  · rw [List.getElem?_set_ne (Ne.symm hj)] at e ⊢
    exact h.at_ j d' e
end
end EV
set_option Elab.async false
set_option linter.all false
set_option maxRecDepth 100000
set_option maxHeartbeats 2000000
namespace EV
open PySem PySem.Spec PyProof.Rows L2
abbrev LX (X : Cx) (z : List Addr) (cad : Nat → Addr) (cfs : Nat → List Str) : Lay := ⟨X.K, z, cad, cfs⟩
theorem dget_r {H : Hp} {a : Addr} {kvs : List (Key × V)} {k : Key} (e : Rd H a (.dK kvs)) : DGet H a (kV k) (valV kvs k) := .inl ⟨kvs, k, e, rfl, rfl⟩
def RelW (L : Lay) (A : List Addr) (H : Hp) : D → V → Prop
  | .tup ds, x => ∃ a vs, x = .ref a ∧ SeqF L A H a (.tup vs) (KT L.K a vs) ∧ Rels L A H ds vs
  | .lst ds, x => ∃ a vs, x = .ref a ∧ SqL L.K H a vs ∧ Rels L A H ds vs
  | .dct ks ds, x => ∃ a vs, x = .ref a ∧ Rd H a (.dK ((ks.map dkK).zip vs)) ∧ ks.length = vs.length ∧ ks.Nodup ∧ Rels L A H ds vs
  | .ins c ds, x => ∃ a dx vs, x = .ref a ∧ H a = some (.ins (L.cad c) dx ((L.cfs c).zip vs)) ∧ vs.length ≤ (L.cfs c).length ∧ Rels L A H ds vs
  | d, x => Rel L A H d x
theorem SeqF.t {L : Lay} {A : List Addr} {H : Hp} {a : Addr} {vs : List V} (h : SeqF L A H a (.tup vs) (KT L.K a vs)) : SqT L.K H a vs := h.imp (fun z => z.1) id
theorem SeqF.l {L : Lay} {A : List Addr} {H : Hp} {a : Addr} {vs : List V} (h : SeqF L A H a (.lst vs) (KL L.K a vs)) : SqL L.K H a vs := h.imp (fun z => z.1) id
def ExR (L : Lay) (A : List Addr) (H : Hp) (e : D) (c : Value) (d : Option Addr) : Prop :=
  ∃ k fs vs, e = .ins k fs ∧ c = .ref (L.cad k) ∧ Rels L A H fs vs ∧ ((fs = [] ) ∨ ∃ dd, d = some dd ∧ H dd = some (.xd ((L.cfs k).zip vs)) ∧ dd ∉ A ∧ dd ∉ L.z)
section
variable (L : Lay) (W : XK)
def Post {α β : Type} (A : List Addr) (H : Hp) (rel : List Addr → Hp → α → β → Prop) (r : R α) (Q : β → Hp → Prop) : Prop := match r with
  | .ok a S' => ∀ A' H' b, Grow A H A' H' → Cells L A' S' H' → rel A' H' a b → Q b H'
  | .ex e S' => ∀ A' H' c d, Grow A H A' H' → Cells L A' S' H' → ExR L A' H' e c d → W c d H'
  | .no => False
end
section
variable {L : Lay} {W : XK} {A A' : List Addr} {H H' : Hp} {S S' : St} {α β γ δ : Type} {rel : List Addr → Hp → α → β → Prop} {rel2 : List Addr → Hp → γ → δ → Prop}
theorem Post.bind {r : R α} {f : α → St → R γ} {Q : δ → Hp → Prop} (h : Post L W A H rel2 (r.bind f) Q) :
    Post L W A H rel r (fun b H1 => ∃ A1 S1 a, Grow A H A1 H1 ∧ Cells L A1 S1 H1 ∧ rel A1 H1 a b ∧ Post L W A1 H1 rel2 (f a S1) Q) := by
  cases r with
  | ok a S1 =>
    intro A1 H1 b g c q
    refine ⟨A1, S1, a, g, c, q, ?_⟩
    have h' : Post L W A H rel2 (f a S1) Q := h
    cases e : f a S1 with
    | ok a2 S2 => rw [e] at h'; exact fun A2 H2 b2 g2 c2 q2 => h' A2 H2 b2 (g.trans g2) c2 q2
    | ex x S2 => rw [e] at h'; exact fun A2 H2 k d g2 c2 q2 => h' A2 H2 k d (g.trans g2) c2 q2
    | no => rw [e] at h'; exact h'
  | ex e S1 => exact fun A1 H1 k d g c q => h A1 H1 k d g c q
  | no => exact h
theorem Post.later {r : R α} {Q : β → Hp → Prop} (g : Grow A H A' H') (h : Post L W A H rel r Q) : Post L W A' H' rel r Q := by
  cases r with
  | ok a S1 => exact fun A2 H2 b2 g2 c2 q2 => h A2 H2 b2 (g.trans g2) c2 q2
  | ex x S2 => exact fun A2 H2 k d g2 c2 q2 => h A2 H2 k d (g.trans g2) c2 q2
  | no => exact h
theorem Post.map {r : R α} {f : α → γ} {Q : δ → Hp → Prop} (h : Post L W A H rel2 (r.map f) Q) :
    Post L W A H rel r (fun b H1 => ∃ A1 S1 a, Grow A H A1 H1 ∧ Cells L A1 S1 H1 ∧ rel A1 H1 a b ∧ Post L W A1 H1 rel2 (.ok (f a) S1) Q) := by
  have e : r.map f = r.bind fun a s => .ok (f a) s := by cases r <;> rfl
  rw [e] at h
  exact h.bind
theorem Post.imp {r : R α} {Q Q' : β → Hp → Prop} (h : Post L W A H rel r Q) (k : ∀ b H1, Q b H1 → Q' b H1) : Post L W A H rel r Q' := by
  cases r with
  | ok a S1 => exact fun A2 H2 b2 g2 c2 q2 => k _ _ (h A2 H2 b2 g2 c2 q2)
  | ex x S2 => exact h
  | no => exact h
theorem Post.ok {a : α} {Q : β → Hp → Prop} {b : β} (h : Post L W A H rel (.ok a S) Q) (c : Cells L A S H) (r : rel A H a b) : Q b H := h A H b .refl c r
theorem Post.opt {o : Option α} {Q : β → Hp → Prop} (h : Post L W A H rel (R.opt o S) Q) : ∃ a, o = some a ∧ Post L W A H rel (.ok a S) Q := by
  cases o with
  | none => exact h.elim
  | some a => exact ⟨a, rfl, h⟩
abbrev RelB : List Addr → Hp → Bool → Bool → Prop := fun _ _ a b => a = b
theorem Post.tst {r : R D} {Q : Bool → Hp → Prop} (h : Post L W A H RelB (EV.tst r) Q) : Post L W A H (Rel L) r (fun x H1 => ∃ k, x = .bl k ∧ Q k H1) := by
  have h1 := Post.bind (rel := Rel L) h
  refine h1.imp fun x H1 ⟨A1, S1, d, g, c, q, p⟩ => ?_
  cases d with
  | bl b => exact ⟨b, by simpa only [Rel] using q, p.ok c rfl⟩
  | _ => exact p.elim
end
section
variable {X : Cx} {cad : Nat → Addr} {cfs : Nat → List Str} {W : XK} {A : List Addr} {H : Hp} {S : St}
theorem Rel.w {L : Lay} {d : D} {x : V} (h : Rel L A H d x) : RelW L A H d x := by
  cases d with
  | tup ds =>
    obtain ⟨a, vs, e, q, r⟩ := (show ∃ a vs, _ from by simpa only [Rel] using h)
    exact ⟨a, vs, e, q, r⟩
  | lst ds =>
    obtain ⟨a, vs, e, q, r⟩ := (show ∃ a vs, _ from by simpa only [Rel] using h)
    exact ⟨a, vs, e, q.l, r⟩
  | dct ks ds =>
    obtain ⟨a, vs, e, q, n, l, nd, r⟩ := (show ∃ a vs, _ from by simpa only [Rel] using h)
    exact ⟨a, vs, e, q, l, nd, r⟩
  | ins c ds =>
    obtain ⟨a, dx, vs, e, q, n, l, r⟩ := (show ∃ a dx vs, _ from by simpa only [Rel] using h)
    exact ⟨a, dx, vs, e, q, l, r⟩
  | _ => exact h
theorem view_rel {L : Lay} (C : Cells L A S H) {d : D} {x : V} (h : Rel L A H d x) : RelW L A H (view S d) x := by
  cases d with
  | cell n =>
    obtain ⟨a, e, q⟩ := (show ∃ a, _ from by simpa only [Rel] using h)
    have hn := C.lt q
    have hs : S[n]? = some S[n] := by simp [hn]
    have k := C.ok n _ a hs q
    simp only [view, hs]
    cases hc : S[n] with
    | lst ds => rw [hc] at k; obtain ⟨vs, e1, r, _⟩ := k; exact ⟨a, vs, e, .inl (.inl e1), r⟩
    | dct ks ds => rw [hc] at k; obtain ⟨vs, e1, l, nd, r, _⟩ := k; exact ⟨a, vs, e, .inl e1, l, nd, r⟩
    | ins c ds => rw [hc] at k; obtain ⟨dx, vs, e1, l, r, _⟩ := k; exact ⟨a, dx, vs, e, e1, l, r⟩
    | fdc ks ds => rw [hc] at k; obtain ⟨vs, od, e1, l, nd, r, _⟩ := k; exact ⟨a, vs, e, .inr ⟨od, e1⟩, l, nd, r⟩
  | _ => exact h.w
theorem view_id {d : D} (h : ∀ n, d ≠ .cell n) (S : St) : view S d = d := by
  cases d with
  | cell n => exact absurd rfl (h n)
  | _ => rfl
theorem post_alloc {L : Lay} {m : Bool} {ds : List D} {vs : List V} {Q : VK} (h : Post L W A H (Rel L) (alloc m ds S) Q) (c : Cells L A S H) (r : Rels L A H ds vs) {p : Addr} (hp : H p = none) : Q (.ref p) (upd H p (.lst vs)) := by
  cases m with
  | false =>
    refine h A (upd H p (.lst vs)) (.ref p) (grow_new c hp) (c.new hp) ?_
    simp only [Rel]
    exact ⟨p, vs, rfl, .inl ⟨.inl upd_same, c.fresh hp, c.freshZ hp⟩, r.grow (grow_new c hp)⟩
  | true =>
    unfold alloc at h
    by_cases hb : belows S.length ds = true
    · rw [if_pos hb] at h
      refine h (A ++ [p]) (upd H p (.lst vs)) (.ref p) (grow_cell c hp) (c.cell hp ⟨vs, upd_same, r.grow (grow_cell c hp), by rw [c.len]; exact hb⟩) ?_
      simp only [Rel]
      exact ⟨p, rfl, by rw [← c.len]; simp⟩
    · rw [if_neg hb] at h; exact h.elim
theorem post_tup {L : Lay} {ds : List D} {vs : List V} {Q : VK} (h : Post L W A H (Rel L) (.ok (.tup ds) S) Q) (c : Cells L A S H) (r : Rels L A H ds vs) {p : Addr} (hp : H p = none) : Q (.ref p) (upd H p (.tup vs)) := by
  refine h A (upd H p (.tup vs)) (.ref p) (grow_new c hp) (c.new hp) ?_
  simp only [Rel]
  exact ⟨p, vs, rfl, .inl ⟨.inl upd_same, c.fresh hp, c.freshZ hp⟩, r.grow (grow_new c hp)⟩
mutual
def pd : D → PyData
  | .bl b => .bool b
  | .int i => .int i
  | .str s => .str (SS s)
  | .tup xs => .tuple (pds xs)
  | .lst xs => .list (pds xs)
  | _ => .none
def pds : List D → List PyData
  | [] => []
  | x :: xs => pd x :: pds xs
end
theorem pds_map : ∀ xs : List D, pds xs = xs.map pd
  | [] => rfl
  | x :: xs => by simp only [pds, List.map_cons, pds_map xs]
theorem datN_shaped : ∀ (n : Nat) (d : D), datN n d = true → (pd d).canLay0 = true ∧ (pd d).depth ≤ n := by
  intro n
  induction n with
  | zero =>
    intro d h
    cases d <;> simp_all [datN, pd, PyData.canLay0, PyData.depth, PyData.strOk]
  | succ n ih =>
    intro d h
    have lists : ∀ xs : List D, xs.all (datN n) = true → PyData.canLayAll0 (pds xs) = true ∧ PyData.depthAll (pds xs) ≤ n := by
      intro xs
      induction xs with
      | nil => intro _; exact ⟨by simp [pds, PyData.canLayAll0], by simp [pds, PyData.depthAll]⟩
      | cons x xs ihx =>
        intro h
        rw [List.all_cons, Bool.and_eq_true] at h
        obtain ⟨h1, h2⟩ := ih x h.1
        obtain ⟨h3, h4⟩ := ihx h.2
        refine ⟨by simp [pds, PyData.canLayAll0, h1, h3], ?_⟩
        simp only [pds, PyData.depthAll]
        omega
    cases d with
    | tup xs =>
      obtain ⟨h1, h2⟩ := lists xs (by simpa [datN] using h)
      exact ⟨by simpa [pd, PyData.canLay0] using h1, by simp only [pd, PyData.depth]; omega⟩
    | lst xs =>
      obtain ⟨h1, h2⟩ := lists xs (by simpa [datN] using h)
      exact ⟨by simpa [pd, PyData.canLay0] using h1, by simp only [pd, PyData.depth]; omega⟩
    | str s => exact ⟨by simpa [pd, PyData.canLay0, PyData.strOk, datN] using h, by simp [pd, PyData.depth]⟩
    | non => exact ⟨by simp [pd, PyData.canLay0], by simp [pd, PyData.depth]⟩
    | bl b => exact ⟨by simp [pd, PyData.canLay0], by simp [pd, PyData.depth]⟩
    | int i => exact ⟨by simp [pd, PyData.canLay0], by simp [pd, PyData.depth]⟩
    | _ => simp [datN] at h
theorem dat_shaped {d : D} (h : dat d = true) : SeqAt.shaped (pd d) = true := by
  obtain ⟨h1, h2⟩ := datN_shaped 12 d h
  show ((pd d).canLay0 && decide ((pd d).depth ≤ 64)) = true
  rw [Bool.and_eq_true]
  exact ⟨h1, decide_eq_true (by omega)⟩
mutual
theorem eqD_pd : ∀ x y : D, (∃ n, datN n x = true) → (∃ n, datN n y = true) → PyData.eqv (pd x) (pd y) = eqD x y
  | .non, y, _, hy => by obtain ⟨n, hy⟩ := hy; cases y <;> cases n <;> simp_all [pd, PyData.eqv, eqD, datN]
  | .bl a, y, _, hy => by obtain ⟨n, hy⟩ := hy; cases y <;> cases n <;> simp_all [pd, PyData.eqv, eqD, datN, b2i] <;> rfl
  | .int a, y, _, hy => by obtain ⟨n, hy⟩ := hy; cases y <;> cases n <;> simp_all [pd, PyData.eqv, eqD, datN, b2i] <;> rfl
  | .str a, y, _, hy => by
    obtain ⟨n, hy⟩ := hy
    cases y with
    | str b =>
      simp only [pd, PyData.eqv, eqD]
      rw [Bool.eq_iff_iff, beq_iff_eq, decide_eq_true_eq]
      exact ⟨SS_inj, fun e => by rw [e]⟩
    | _ => cases n <;> simp_all [pd, PyData.eqv, eqD, datN]
  | .tup xs, y, hx, hy => by
    obtain ⟨m, hx⟩ := hx
    obtain ⟨n, hy⟩ := hy
    cases y with
    | tup ys =>
      cases m with
      | zero => simp [datN] at hx
      | succ m => cases n with
        | zero => simp [datN] at hy
        | succ n =>
          simp only [pd, PyData.eqv, eqD]
          exact eqDs_pd xs ys (fun x hm => ⟨m, List.all_eq_true.mp (by simpa only [datN] using hx) x hm⟩) (fun x hm => ⟨n, List.all_eq_true.mp (by simpa only [datN] using hy) x hm⟩)
    | _ => cases n <;> simp_all [pd, PyData.eqv, eqD, datN]
  | .lst xs, y, hx, hy => by
    obtain ⟨m, hx⟩ := hx
    obtain ⟨n, hy⟩ := hy
    cases y with
    | lst ys =>
      cases m with
      | zero => simp [datN] at hx
      | succ m => cases n with
        | zero => simp [datN] at hy
        | succ n =>
          simp only [pd, PyData.eqv, eqD]
          exact eqDs_pd xs ys (fun x hm => ⟨m, List.all_eq_true.mp (by simpa only [datN] using hx) x hm⟩) (fun x hm => ⟨n, List.all_eq_true.mp (by simpa only [datN] using hy) x hm⟩)
    | _ => cases n <;> simp_all [pd, PyData.eqv, eqD, datN]
  | .dct _ _, _, hx, _ => by obtain ⟨m, hx⟩ := hx; cases m <;> simp [datN] at hx
  | .ins _ _, _, hx, _ => by obtain ⟨m, hx⟩ := hx; cases m <;> simp [datN] at hx
  | .cell _, _, hx, _ => by obtain ⟨m, hx⟩ := hx; cases m <;> simp [datN] at hx
  | .cls _, _, hx, _ => by obtain ⟨m, hx⟩ := hx; cases m <;> simp [datN] at hx
  | .clo _ _, _, hx, _ => by obtain ⟨m, hx⟩ := hx; cases m <;> simp [datN] at hx
theorem eqDs_pd : ∀ xs ys : List D, (∀ x ∈ xs, ∃ n, datN n x = true) → (∀ x ∈ ys, ∃ n, datN n x = true) → PyData.eqvAll (pds xs) (pds ys) = eqDs xs ys
  | [], [], _, _ => by simp [pds, PyData.eqvAll, eqDs]
  | [], _ :: _, _, _ => by simp [pds, PyData.eqvAll, eqDs]
  | _ :: _, [], _, _ => by simp [pds, PyData.eqvAll, eqDs]
  | x :: xs, y :: ys, hx, hy => by
    simp only [pds, PyData.eqvAll, eqDs]
    rw [eqD_pd x y (hx x List.mem_cons_self) (hy y List.mem_cons_self), eqDs_pd xs ys (fun z m => hx z (List.mem_cons_of_mem _ m)) (fun z m => hy z (List.mem_cons_of_mem _ m))]
end
theorem dp_of {L : Lay} : ∀ (n : Nat) {d : D} {x : V}, datN n d = true → RelW L A H d x → Dp L.K H x (pd d) := by
  intro n
  induction n with
  | zero =>
    intro d x h r
    cases d with
    | non => obtain rfl : x = _ := (by simpa only [RelW, Rel] using r); simp only [pd]; exact .non
    | bl b => obtain rfl : x = _ := (by simpa only [RelW, Rel] using r); simp only [pd]; exact .bl b
    | int b => obtain rfl : x = _ := (by simpa only [RelW, Rel] using r); simp only [pd]; exact .int b
    | str b => obtain rfl : x = _ := (by simpa only [RelW, Rel] using r); simp only [pd]; exact .str _
    | _ => simp [datN] at h
  | succ n ih =>
    intro d x h r
    have lists : ∀ (xs : List D) (vs : List V), xs.all (datN n) = true → Rels L A H xs vs → DpAll L.K H vs (pds xs) := by
      intro xs
      induction xs with
      | nil => intro vs _ r; simp only [Rels] at r; subst r; simp only [pds]; exact .nil
      | cons y xs ihx =>
        intro vs h r
        rw [List.all_cons, Bool.and_eq_true] at h
        obtain ⟨v, t, e, h1, h2⟩ := (show ∃ v r, _ from by simpa only [Rels] using r)
        subst e
        simp only [pds]
        exact .cons (ih h.1 h1.w) (ihx t h.2 h2)
    cases d with
    | non => obtain rfl : x = _ := (by simpa only [RelW, Rel] using r); simp only [pd]; exact .non
    | bl b => obtain rfl : x = _ := (by simpa only [RelW, Rel] using r); simp only [pd]; exact .bl b
    | int b => obtain rfl : x = _ := (by simpa only [RelW, Rel] using r); simp only [pd]; exact .int b
    | str b => obtain rfl : x = _ := (by simpa only [RelW, Rel] using r); simp only [pd]; exact .str _
    | tup xs =>
      obtain ⟨a, vs, rfl, q, rr⟩ := r
      simp only [pd]
      exact .tup q.t (lists xs vs (by simpa only [datN] using h) rr)
    | lst xs =>
      obtain ⟨a, vs, rfl, q, rr⟩ := r
      simp only [pd]
      exact .lst q (lists xs vs (by simpa only [datN] using h) rr)
    | _ => simp [datN] at h
theorem atom_flat {L : Lay} {d : D} {x : V} (h : atom d = true) (r : RelW L A H d x) : flatV x = true := by
  cases d <;> simp_all [atom, RelW, Rel] <;> rfl
def atV : D → V
  | .bl b => .bl b
  | .int i => .int i
  | .str s => .str (SS s)
  | _ => .non
theorem atom_at {L : Lay} {d : D} {x : V} (h : atom d = true) (r : RelW L A H d x) : x = atV d := by
  cases d with
  | non => simpa only [RelW, Rel, atV] using r
  | bl b => simpa only [RelW, Rel, atV] using r
  | int b => simpa only [RelW, Rel, atV] using r
  | str b => simpa only [RelW, Rel, atV] using r
  | _ => simp [atom] at h
theorem atom_eqV {L : Lay} {d e : D} {x y : V} (hd : atom d = true) (he : atom e = true) (r : RelW L A H d x) (q : RelW L A H e y) : eqV x y = eqD d e := by
  obtain rfl := atom_at hd r
  obtain rfl := atom_at he q
  cases d with
  | non => cases e <;> first | rfl | simp [atom] at he
  | bl b => cases e <;> first | rfl | simp [atom] at he
  | int b => cases e <;> first | rfl | simp [atom] at he
  | str b => cases e with
    | str c =>
      simp only [atV, eqV, eqD]
      rw [Bool.eq_iff_iff, beq_iff_eq, decide_eq_true_eq]
      exact ⟨SS_inj, fun e => by rw [e]⟩
    | _ => first | rfl | simp [atom] at he
  | _ => simp [atom] at hd
end
end EV
set_option Elab.async false
set_option linter.all false
set_option maxRecDepth 100000
set_option maxHeartbeats 2000000
namespace PySem.EVL
open PySem PySem.W PyProof.Rows
theorem list_mulW (l : Addr) (items : Array Value) (n : Nat) (dd : Option Addr) (sl : Array (Option Value)) (k : Int) (t : Tok) (hfit : ¬ (!Builtin.List.listFitsIndex k) = true) (hcap : ¬ items.size * k.toNat > (2 ^ 63 - 1) / 8) (hlong : ¬ Builtin.List.listTooLong (items.size * k.toNat) = true) :
    Meets (Builtin.«list.__mul__» ⟨[.ref l, .int k t], []⟩) (fun _ R s => s.heap.get? l = some { cls := .type "list", dict := dd, data := .seq items n, slots := sl } ∧ R (.ok (.ret (Value.ref s.heap.objs.size)))
      { s with heap := s.heap.push { cls := Value.type "list", data := Data.seq (List.foldl (fun x1 x2 => x1 ++ x2) #[] (List.replicate (if items.isEmpty = true then 0 else k.toNat) items)) }, toks := s.toks }) :=
  .of_wp fun prog w A R s h => by
    obtain ⟨hp, g, d, tk, os⟩ := s
    obtain ⟨hl, h⟩ := h
    have hsz := PySem.AutoListH.joined_fits hlong
    wp_walk using wpAny_loadPart' hl; refine wpAny_ite_false (decide_eq_false (Nat.not_lt.mpr hsz)) ?_; wp_walk using wpAny_loadPart' hl; exact ⟨_, rfl, h⟩
theorem int_rmulW (a : Int) (t : Tok) (l : Addr) (items : Array Value) (n : Nat) (dd : Option Addr) (sl : Array (Option Value)) :
    Meets (Builtin.«int.__rmul__» ⟨[.int a t, .ref l], []⟩) (fun _ R s => s.heap.get? l = some { cls := .type "list", dict := dd, data := .seq items n, slots := sl } ∧ R (.ok (.ret Value.notImplemented)) s) :=
  .of_wp fun prog w A R s h => by obtain ⟨hp, g, d, tk, os⟩ := s; obtain ⟨hl, h⟩ := h; wp_walk using wpAny_loadPart' hl; exact ⟨_, rfl, h⟩
end PySem.EVL
namespace EV
open PySem PySem.Spec PyProof.Rows L2
section
variable {X : Cx}
theorem sqL_obj {pins : List (Addr × Obj)} {σ : L2.St} {H : Hp} {s : Shared} {a : Addr} {xs : List V} (I : Inv X pins σ H s) (h : SqL X.K H a xs) :
    ∃ (its : List Value) (dd : Option Addr) (n : Nat) (sl : Array (Option Value)), Vals xs its ∧ xs.length = its.length ∧ xs.length ≤ sizeLine ∧ s.heap.get? a = some { cls := .type "list", dict := dd, data := .seq its.toArray n, slots := sl } := by
  obtain ⟨its, r, ⟨⟨cls, dd, data, sl⟩, n, ho, hc, hd, hdt⟩, hz⟩ := I.list h
  simp only at hc hd hdt
  subst hc hd hdt
  exact ⟨its, _, n, sl, r, r.length, hz, ho⟩
def rCatS (K : PySem.W.Frag) : R2 := fun x y H Q => ∃ l b xs zs, x = .ref l ∧ y = .ref b ∧ SqL K H l xs ∧ SqL K H b zs ∧ xs.length + zs.length ≤ sizeLine ∧ ∀ p, H p = none → Q (.ref p) (upd H p (.lst (xs ++ zs)))
theorem op_fdivV : OpR X (binaryOp .FloorDiv) (rI (fun _ j => j ≠ 0 ∧ j.natAbs < 2 ^ 4000) fun i j => .int (i.fdiv j)) := opI fun _ _ _ _ _ _ _ hc q => floordiv_int hc.1 q (.inl (PyProof.noPylong_of_log2 (Nat.lt_of_lt_of_le (PySem.Flt.log2_lt_of (by decide) hc.2) (by decide))))
theorem op_catS : OpR X (binaryOp .Add) (rCatS X.K) := by
  intro pins s σ H x y v u Q I rx ry h
  obtain ⟨l, b, xs, zs, rfl, rfl, hl, hb, hz, q⟩ := h
  cases rx
  cases ry
  obtain ⟨its, dd, n, sl, r, e, _, ho⟩ := sqL_obj I hl
  obtain ⟨its2, dd2, n2, sl2, r2, e2, _, ho2⟩ := sqL_obj I hb
  refine concat_meets ⟨_, ho, rfl⟩ ⟨_, ho2, rfl⟩ noFill_list_add seq_list_add PySem.F.slot_list_add PySem.F.entry_list_add (PySem.F.args_list_add_2 _ _) (list_addW l b its.toArray its2.toArray n n2 dd dd2 sl sl2 (by simp only [List.size_toArray]; omega)) ⟨ho, ho2, ?_⟩
  have ea : its.toArray ++ its2.toArray = (its ++ its2).toArray := by simp
  rw [ea]
  exact ⟨.ref _, _, I.lnew (t' := s.toks) (r.append r2) (by rw [List.length_append]; omega), rfl, q _ I.fresh⟩
theorem tuple_mul1 (l : Addr) (items : Array Value) (n : Nat) (dd : Option Addr) (sl : Array (Option Value)) (u : Tok) :
    Meets (Builtin.«tuple.__mul__» ⟨[.ref l, .int 1 u], []⟩) (fun _ R s => s.heap.get? l = some { cls := .type "tuple", dict := dd, data := .seq items n, slots := sl } ∧ R (.ok (.ret (Value.ref l))) s) :=
  .of_wp fun prog w A R s h => by
    obtain ⟨hp, g, d, tk, os⟩ := s
    obtain ⟨hl, h⟩ := h
    have f1 := AutoSeq1.idx_int
    wp_walk using wpAny_loadPart' hl
    exact ⟨_, rfl, h⟩
def rRep1 (K : PySem.W.Frag) : R2 := fun x y H Q => ∃ l xs, x = .ref l ∧ y = .int 1 ∧ SqT K H l xs ∧ Q (.ref l) H
theorem op_rep1 : OpR X (binaryOp .Mult) (rRep1 X.K) := by
  intro pins s σ H x y v u Q I rx ry h
  obtain ⟨l, xs, rfl, rfl, hT, q⟩ := h
  cases rx
  obtain ⟨t, rfl⟩ := ry
  obtain ⟨its, r, ⟨⟨cls, dd, data, sl⟩, ho, hc, n, hd⟩, hs⟩ := I.tuple hT
  simp only at hc hd
  subst hc hd
  refine wpAny_binaryOp_repeat_ref (T := "tuple") (U := "int") (by decide) ⟨_, ho, rfl⟩ (fun s' => typeIs_int s' 1 t) L2.noFill_tuple_mul F.fills_int_mul F.slot_int_rmul L2.repeat_tuple F.slot_int_index.lookup
    (call_meets F.slot_int_rmul (typeIs_int s 1 t) F.entry_int_rmul (F.args_int_rmul_2 _ _) (L2.int_rmul_tuple 1 t l its.toArray n dd sl)
      ⟨ho, rfl, ⟨_, ho, rfl⟩, call_meets F.slot_tuple_mul ⟨_, ho, rfl⟩ F.entry_tuple_mul (F.args_tuple_mul_2 _ _) (tuple_mul1 l its.toArray n dd sl t) ⟨ho, ?_⟩⟩)
  exact ⟨.ref l, _, I, rfl, q⟩
def rRepS (K : PySem.W.Frag) : R2 := fun x y H Q => ∃ l k xs, x = .ref l ∧ y = .int k ∧ SqL K H l xs ∧ -(2 ^ 63) ≤ k ∧ k < 2 ^ 63 ∧ xs.length * k.toNat ≤ sizeLine ∧
  ∀ p, H p = none → Q (.ref p) (upd H p (.lst (List.replicate k.toNat xs).flatten))
theorem op_repS : OpR X (binaryOp .Mult) (rRepS X.K) := by
  intro pins s σ H x y v u Q I rx ry h
  obtain ⟨l, k, xs, rfl, rfl, hH, h1, h2, hz, q⟩ := h
  cases rx
  obtain ⟨t, rfl⟩ := ry
  obtain ⟨its, dd, n, sl, r, hl, _, e⟩ := sqL_obj I hH
  have hlen : its.toArray.size * k.toNat ≤ sizeLine := by rw [List.size_toArray, ← hl]; exact hz
  have hcap : ¬ its.toArray.size * k.toNat > (2 ^ 63 - 1) / 8 := by
    have : (sizeLine : Nat) ≤ (2 ^ 63 - 1) / 8 := by decide
    omega
  have hfit : ¬ (!Builtin.List.listFitsIndex k) = true := by
    rw [fitsIndex_both h1 h2]
    exact Bool.false_ne_true
  have hlong : ¬ Builtin.List.listTooLong (its.toArray.size * k.toNat) = true := by
    rw [notLongL hlen]
    exact Bool.false_ne_true
  have hnew : List.foldl (fun x1 x2 => x1 ++ x2) #[] (List.replicate (if its.toArray.isEmpty = true then 0 else k.toNat) its.toArray) = (List.replicate k.toNat its).flatten.toArray := by
    have f0 : ∀ m : Nat, List.foldl (fun x1 x2 => x1 ++ x2) #[] (List.replicate m its.toArray) = (List.replicate m its).flatten.toArray := fun m => by
      have := foldl_rep its m []
      rw [List.nil_append] at this
      exact this
    rw [f0]
    cases its with
    | nil => simp
    | cons a r' => rw [if_neg (by simp)]
  refine wpAny_binaryOp_repeat_ref (T := "list") (U := "int") (by decide) ⟨_, e, rfl⟩ (fun s' => typeIs_int s' k t) noFill_list_mul F.fills_int_mul F.slot_int_rmul repeat_list F.slot_int_index.lookup
    (call_meets F.slot_int_rmul (typeIs_int s k t) F.entry_int_rmul (F.args_int_rmul_2 _ _) (PySem.EVL.int_rmulW k t l its.toArray n dd sl)
      ⟨e, rfl, ⟨_, e, rfl⟩, call_meets F.slot_list_mul (show s.TypeIs (.ref l) "list" from ⟨_, e, rfl⟩) F.entry_list_mul (F.args_list_mul_2 _ _) (PySem.EVL.list_mulW l its.toArray n dd sl k t hfit hcap hlong) ⟨e, ?_⟩⟩)
  rw [hnew]
  exact ⟨.ref _, _, I.lnew (t' := s.toks) (r.rep k.toNat) (by rw [PyProof.Rows.lm_len_rep_flat, Nat.mul_comm]; exact hz), rfl, q _ I.fresh⟩
end
def binR (m : Bool) (op : Operator) (d e : D) (S : St) : R D := match binL op (view S d) (view S e) with
  | some xs => alloc m xs S
  | none => R.opt (binD op (view S d) (view S e)) S
def rBin (L : Lay) (W : XK) (m : Bool) (op : Operator) : R2 := fun x y H Q => ∃ A S d e, Cells L A S H ∧ Rel L A H d x ∧ Rel L A H e y ∧ Post L W A H (Rel L) (binR m op d e S) Q
section
variable {X : Cx} {z : List Addr} {cad : Nat → Addr} {cfs : Nat → List Str} {W : XK} {m : Bool}
theorem RelW.int {L : Lay} {A : List Addr} {H : Hp} {i : Int} {x : V} (r : RelW L A H (.int i) x) : x = .int i := by simpa only [RelW, Rel] using r
theorem RelW.str {L : Lay} {A : List Addr} {H : Hp} {s : List Nat} {x : V} (r : RelW L A H (.str s) x) : x = .str (SS s) := by simpa only [RelW, Rel] using r
theorem RelW.bl {L : Lay} {A : List Addr} {H : Hp} {b : Bool} {x : V} (r : RelW L A H (.bl b) x) : x = .bl b := by simpa only [RelW, Rel] using r
theorem RelW.non {L : Lay} {A : List Addr} {H : Hp} {x : V} (r : RelW L A H .non x) : x = .non := by simpa only [RelW, Rel] using r
theorem rel_int {L : Lay} {A : List Addr} {H : Hp} {i : Int} : Rel L A H (.int i) (.int i) := by simp only [Rel]
theorem rel_str {L : Lay} {A : List Addr} {H : Hp} {s : List Nat} : Rel L A H (.str s) (.str (SS s)) := by simp only [Rel]
theorem rel_bl {L : Lay} {A : List Addr} {H : Hp} {b : Bool} : Rel L A H (.bl b) (.bl b) := by simp only [Rel]
theorem rel_non {L : Lay} {A : List Addr} {H : Hp} : Rel L A H .non .non := by simp only [Rel]
theorem opt_int {L : Lay} {A : List Addr} {H : Hp} {S : St} {o : Option D} {i : Int} {Q : VK} (e : o = some (.int i)) (h : Post L W A H (Rel L) (R.opt o S) Q) (c : Cells L A S H) : Q (.int i) H := by
  subst e; exact h.ok c rel_int
theorem smallI_cmul {i j : Int} (h : (smallI i || smallI j) = true) : CMul i j := by
  simp only [smallI, Bool.or_eq_true, Bool.and_eq_true, decide_eq_true_eq] at h
  unfold CMul
  rcases h with ⟨h1, h2⟩ | ⟨h1, h2⟩
  · exact .inl ⟨by omega, by omega⟩
  · exact .inr ⟨by omega, by omega⟩
theorem post_none {L : Lay} {A : List Addr} {H : Hp} {S : St} {o : Option D} {Q : VK} (e : o = none) (h : Post L W A H (Rel L) (R.opt o S) Q) : False := by subst e; exact h
theorem post_tup_of {L : Lay} {A : List Addr} {H : Hp} {S : St} {ds : List D} {a : Addr} {vs : List V} {Q : VK} (h : Post L W A H (Rel L) (.ok (.tup ds) S) Q) (c : Cells L A S H) (q : SeqF L A H a (.tup vs) (KT L.K a vs)) (r : Rels L A H ds vs) : Q (.ref a) H :=
  h.ok c (by simp only [Rel]; exact ⟨a, vs, rfl, q, r⟩)
theorem op_bin (op : Operator) : OpR X (binaryOp op) (rBin (LX X z cad cfs) W m op) := by
  intro pins s σ H x y v u Q I rx ry h
  obtain ⟨A, S, d, e, c, rd, re, p⟩ := h
  have wd := view_rel c rd
  have we := view_rel c re
  unfold binR at p
  generalize view S d = d' at wd p
  generalize view S e = e' at we p
  cases op with
  | Add =>
    cases d' with
    | int i => cases e' with
      | int j => rw [wd.int] at rx; rw [we.int] at ry; exact op_add pins s σ H _ _ v u Q I rx ry ⟨i, j, rfl, rfl, p.ok c rel_int⟩
      | _ => exact (show False from p).elim
    | str a => cases e' with
      | str b =>
        rw [wd.str] at rx; rw [we.str] at ry
        have p : Post (LX X z cad cfs) W A H (Rel _) (R.opt (if a.length + b.length ≤ line then some (D.str (a ++ b)) else none) S) Q := p
        by_cases hz : a.length + b.length ≤ line
        · rw [if_pos hz] at p
          exact op_add_str pins s σ H _ _ v u Q I rx ry ⟨_, _, rfl, rfl, by rw [SS_len, SS_len, ← line_eq]; exact hz, by rw [SS_cat]; exact p.ok c rel_str⟩
        · rw [if_neg hz] at p; exact (show False from p).elim
      | _ => exact (show False from p).elim
    | tup a => cases e' with
      | tup b =>
        have p : Post (LX X z cad cfs) W A H (Rel _) (R.opt (if a.length + b.length ≤ line then some (D.tup (a ++ b)) else none) S) Q := p
        by_cases hz : a.length + b.length ≤ line
        · rw [if_pos hz] at p
          obtain ⟨l1, v1, rfl, q1, r1⟩ := wd
          obtain ⟨l2, v2, rfl, q2, r2⟩ := we
          refine op_catA pins s σ H _ _ v u Q I rx ry ⟨l1, l2, v1, v2, rfl, rfl, q1.t, q2.t, by rw [← r1.len, ← r2.len, ← line_eq]; exact hz, fun e0 => ?_, fun _ e0 => ?_, fun _ _ pn hp => ?_⟩
          · refine post_tup_of p c q2 ?_
            have r := r1.app r2
            rw [e0] at r; simpa using r
          · refine post_tup_of p c q1 ?_
            have r := r1.app r2
            rw [e0] at r; simpa using r
          · exact post_tup p c (r1.app r2) hp
        · rw [if_neg hz] at p; exact (show False from p).elim
      | _ => exact (show False from p).elim
    | lst a => cases e' with
      | lst b =>
        have p : Post (LX X z cad cfs) W A H (Rel _) (match (if a.length + b.length ≤ line then some (a ++ b) else none) with | some xs => alloc m xs S | none => R.opt none S) Q := p
        by_cases hz : a.length + b.length ≤ line
        · rw [if_pos hz] at p
          obtain ⟨l1, v1, rfl, q1, r1⟩ := wd
          obtain ⟨l2, v2, rfl, q2, r2⟩ := we
          exact op_catS pins s σ H _ _ v u Q I rx ry ⟨l1, l2, v1, v2, rfl, rfl, q1, q2, by rw [← r1.len, ← r2.len, ← line_eq]; exact hz, fun pn hp => post_alloc p c (r1.app r2) hp⟩
        · rw [if_neg hz] at p; exact (show False from p).elim
      | _ => exact (show False from p).elim
    | _ => exact (show False from p).elim
  | Sub =>
    cases d' with
    | int i => cases e' with
      | int j => rw [wd.int] at rx; rw [we.int] at ry; exact op_sub pins s σ H _ _ v u Q I rx ry ⟨i, j, rfl, rfl, p.ok c rel_int⟩
      | _ => exact (show False from p).elim
    | _ => exact (show False from p).elim
  | Mult =>
    cases d' with
    | int i => cases e' with
      | int j =>
        rw [wd.int] at rx; rw [we.int] at ry
        have p : Post (LX X z cad cfs) W A H (Rel _) (R.opt (if (smallI i || smallI j) = true then some (D.int (i * j)) else if i.natAbs < 2 ^ 4000 ∧ j.natAbs < 2 ^ 4000 then some (D.int (i * j)) else none) S) Q := p
        by_cases hz : (smallI i || smallI j) = true
        · rw [if_pos hz] at p
          exact op_mul pins s σ H _ _ v u Q I rx ry ⟨i, j, rfl, rfl, smallI_cmul hz, p.ok c rel_int⟩
        · rw [if_neg hz] at p
          by_cases hz2 : i.natAbs < 2 ^ 4000 ∧ j.natAbs < 2 ^ 4000
          · rw [if_pos hz2] at p
            exact op_mulW pins s σ H _ _ v u Q I rx ry ⟨i, j, rfl, rfl, wide_mul hz2.1 hz2.2 (by decide) (by decide) (by decide), p.ok c rel_int⟩
          · rw [if_neg hz2] at p; exact (show False from p).elim
      | _ => exact (show False from p).elim
    | tup a => cases e' with
      | int k =>
        have p : Post (LX X z cad cfs) W A H (Rel _) (R.opt (if k = 1 then some (D.tup a) else if a ≠ [] ∧ 2 ≤ k ∧ k ≤ 1000 ∧ a.length ≤ 1000 then some (D.tup (rep a k.toNat)) else none) S) Q := p
        by_cases hk1 : k = 1
        · subst hk1
          rw [if_pos rfl] at p
          have wd0 := wd
          obtain ⟨l1, v1, rfl, q1, r1⟩ := wd
          rw [we.int] at ry
          exact op_rep1 pins s σ H _ _ v u Q I rx ry ⟨l1, v1, rfl, rfl, q1.t, p.ok c (by simp only [Rel]; exact ⟨l1, v1, rfl, q1, r1⟩)⟩
        rw [if_neg hk1] at p
        by_cases hz : a ≠ [] ∧ 2 ≤ k ∧ k ≤ 1000 ∧ a.length ≤ 1000
        · rw [if_pos hz] at p
          obtain ⟨l1, v1, rfl, q1, r1⟩ := wd
          rw [we.int] at ry
          obtain ⟨z1, z2, z3, z4⟩ := hz
          refine op_repT pins s σ H _ _ v u Q I rx ry ⟨l1, k, v1, rfl, rfl, q1.t, fun e0 => z1 ?_, z2, z3, by rw [← r1.len]; exact z4, fun pn hp => post_tup p c (r1.rep _) hp⟩
          have := r1.len
          rw [e0] at this
          exact List.eq_nil_of_length_eq_zero this
        · rw [if_neg hz] at p; exact (show False from p).elim
      | _ => exact (show False from p).elim
    | lst a => cases e' with
      | int k =>
        have p : Post (LX X z cad cfs) W A H (Rel _) (match (if 0 ≤ k ∧ k < 1000000 ∧ a.length * k.toNat ≤ line then some (rep a k.toNat) else none) with | some xs => alloc m xs S | none => R.opt none S) Q := p
        by_cases hz : 0 ≤ k ∧ k < 1000000 ∧ a.length * k.toNat ≤ line
        · rw [if_pos hz] at p
          obtain ⟨l1, v1, rfl, q1, r1⟩ := wd
          rw [we.int] at ry
          obtain ⟨z1, z2, z3⟩ := hz
          exact op_repS pins s σ H _ _ v u Q I rx ry ⟨l1, k, v1, rfl, rfl, q1, by omega, by omega, by rw [← r1.len, ← line_eq]; exact z3, fun pn hp => post_alloc p c (r1.rep _) hp⟩
        · rw [if_neg hz] at p; exact (show False from p).elim
      | _ => exact (show False from p).elim
    | _ => exact (show False from p).elim
  | FloorDiv =>
    cases d' with
    | int i => cases e' with
      | int j =>
        rw [wd.int] at rx; rw [we.int] at ry
        have p : Post (LX X z cad cfs) W A H (Rel _) (R.opt (if j ≠ 0 ∧ j.natAbs < 1073741824 then some (D.int (i.fdiv j)) else if j ≠ 0 ∧ j.natAbs < 2 ^ 4000 ∧ i.natAbs < 2 ^ 4000 then some (D.int (i.fdiv j)) else none) S) Q := p
        by_cases hz : j ≠ 0 ∧ j.natAbs < 1073741824
        · rw [if_pos hz] at p
          exact op_fdivN pins s σ H _ _ v u Q I rx ry ⟨i, j, rfl, rfl, hz, p.ok c rel_int⟩
        · rw [if_neg hz] at p
          by_cases hz2 : j ≠ 0 ∧ j.natAbs < 2 ^ 4000 ∧ i.natAbs < 2 ^ 4000
          · rw [if_pos hz2] at p
            exact op_fdivV pins s σ H _ _ v u Q I rx ry ⟨i, j, rfl, rfl, ⟨hz2.1, hz2.2.1⟩, p.ok c rel_int⟩
          · rw [if_neg hz2] at p; exact (show False from p).elim
      | _ => exact (show False from p).elim
    | _ => exact (show False from p).elim
  | Mod =>
    cases d' with
    | int i => cases e' with
      | int j =>
        rw [wd.int] at rx; rw [we.int] at ry
        have p : Post (LX X z cad cfs) W A H (Rel _) (R.opt (if j ≠ 0 then some (D.int (i.fmod j)) else none) S) Q := p
        by_cases hz : j ≠ 0
        · rw [if_pos hz] at p
          exact op_modN pins s σ H _ _ v u Q I rx ry ⟨i, j, rfl, rfl, hz, p.ok c rel_int⟩
        · rw [if_neg hz] at p; exact (show False from p).elim
      | _ => exact (show False from p).elim
    | _ => exact (show False from p).elim
  | Pow =>
    cases d' with
    | int i => cases e' with
      | int j =>
        rw [wd.int] at rx; rw [we.int] at ry
        have p : Post (LX X z cad cfs) W A H (Rel _) (R.opt (if 0 ≤ j ∧ j ≤ 1000 ∧ i.natAbs < 18446744073709551616 then some (D.int (i ^ j.toNat)) else none) S) Q := p
        by_cases hz : 0 ≤ j ∧ j ≤ 1000 ∧ i.natAbs < 18446744073709551616
        · rw [if_pos hz] at p
          obtain ⟨z1, z2, z3⟩ := hz
          exact op_pow pins s σ H _ _ v u Q I rx ry ⟨i, j, rfl, rfl, ⟨z1, by omega, by omega⟩, p.ok c rel_int⟩
        · rw [if_neg hz] at p; exact (show False from p).elim
      | _ => exact (show False from p).elim
    | _ => exact (show False from p).elim
  | LShift =>
    cases d' with
    | int i => cases e' with
      | int j =>
        rw [wd.int] at rx; rw [we.int] at ry
        have p : Post (LX X z cad cfs) W A H (Rel _) (R.opt (if 0 ≤ j ∧ j ≤ 1000 ∧ i.natAbs < 18446744073709551616 then some (D.int (i * 2 ^ j.toNat)) else none) S) Q := p
        by_cases hz : 0 ≤ j ∧ j ≤ 1000 ∧ i.natAbs < 18446744073709551616
        · rw [if_pos hz] at p
          obtain ⟨z1, z2, z3⟩ := hz
          exact op_shl pins s σ H _ _ v u Q I rx ry ⟨i, j, rfl, rfl, ⟨z1, by omega, by omega⟩, p.ok c rel_int⟩
        · rw [if_neg hz] at p; exact (show False from p).elim
      | _ => exact (show False from p).elim
    | _ => exact (show False from p).elim
  | RShift =>
    cases d' with
    | int i => cases e' with
      | int j =>
        rw [wd.int] at rx; rw [we.int] at ry
        have p : Post (LX X z cad cfs) W A H (Rel _) (R.opt (if 0 ≤ j then some (D.int (i / 2 ^ j.toNat)) else none) S) Q := p
        by_cases hz : 0 ≤ j
        · rw [if_pos hz] at p
          exact op_shr pins s σ H _ _ v u Q I rx ry ⟨i, j, rfl, rfl, hz, p.ok c rel_int⟩
        · rw [if_neg hz] at p; exact (show False from p).elim
      | _ => exact (show False from p).elim
    | _ => exact (show False from p).elim
  | BitAnd =>
    cases d' with
    | int i => cases e' with
      | int j => rw [wd.int] at rx; rw [we.int] at ry; exact op_and pins s σ H _ _ v u Q I rx ry ⟨i, j, rfl, rfl, p.ok c rel_int⟩
      | _ => exact (show False from p).elim
    | _ => exact (show False from p).elim
  | BitOr =>
    cases d' with
    | int i => cases e' with
      | int j => rw [wd.int] at rx; rw [we.int] at ry; exact op_or pins s σ H _ _ v u Q I rx ry ⟨i, j, rfl, rfl, p.ok c rel_int⟩
      | _ => exact (show False from p).elim
    | _ => exact (show False from p).elim
  | _ => cases d' <;> exact (show False from p).elim
end
end EV
set_option Elab.async false
set_option linter.all false
set_option maxRecDepth 100000
set_option maxHeartbeats 2000000
namespace EV
open PySem PySem.Spec PyProof.Rows L2
theorem lexI_eq : ∀ a b : List Int, HT.lexLt a b = lexI a b
  | [], [] => rfl
  | [], _ :: _ => rfl
  | _ :: _, [] => rfl
  | x :: xs, y :: ys => by rw [HT.lexLt_cons, lexI, lexI_eq xs ys]
theorem lexAt_shift {e r : Nat → Bool} {z : Bool} : ∀ (k i : Nat), Ob.lexAt e r z (i + 1) k = Ob.lexAt (fun j => e (j + 1)) (fun j => r (j + 1)) z i k
  | 0, _ => rfl
  | k + 1, i => by rw [Ob.lexAt_succ, Ob.lexAt_succ, lexAt_shift k (i + 1)]
theorem lexAt_le : ∀ ns ms : List Int, Ob.lexAt (fun j => decide (ns.getD j 0 = ms.getD j 0)) (fun j => decide (ns.getD j 0 ≤ ms.getD j 0)) (decide (ns.length ≤ ms.length)) 0 (min ns.length ms.length) = !lexI ms ns
  | [], [] => rfl
  | [], _ :: _ => by simp [Ob.lexAt, lexI]
  | _ :: _, [] => by simp [Ob.lexAt, lexI]
  | x :: xs, y :: ys => by
    have hm : min (x :: xs).length (y :: ys).length = min xs.length ys.length + 1 := by simp only [List.length_cons]; omega
    have hz : decide ((x :: xs).length ≤ (y :: ys).length) = decide (xs.length ≤ ys.length) := by
      rw [Bool.eq_iff_iff, decide_eq_true_eq, decide_eq_true_eq]; simp only [List.length_cons]; omega
    have ih := lexAt_le xs ys
    rw [hm, hz, Ob.lexAt_succ, lexAt_shift]
    simp only [List.getD_cons_succ, List.getD_cons_zero, Nat.zero_add]
    rw [ih, lexI]
    by_cases q : x = y
    · subst q; simp
    · have q2 : ¬ y = x := fun e => q e.symm
      rw [decide_eq_false q, if_neg (by simp), if_neg q2]
      by_cases q3 : x ≤ y
      · rw [decide_eq_true q3, decide_eq_false (by omega)]; rfl
      · rw [decide_eq_false q3, decide_eq_true (by omega)]; rfl
def rCmp (L : Lay) (W : XK) (op : CmpOp) : R2 := fun x y H Q => ∃ A S d e, Cells L A S H ∧ RelW L A H d x ∧ RelW L A H e y ∧ Post L W A H (Rel L) (R.opt ((cmpO op d e).map .bl) S) Q
section
variable {X : Cx} {z : List Addr} {cad : Nat → Addr} {cfs : Nat → List Str} {W : XK}
theorem intsOf_eq : ∀ {xs : List D} {ns : List Int}, intsOf xs = some ns → xs = ns.map .int
  | [], _, h => by simp only [intsOf, Option.some.injEq] at h; subst h; rfl
  | .int i :: xs, ns, h => by
    simp only [intsOf, Option.map_eq_some_iff] at h
    obtain ⟨ms, e, rfl⟩ := h
    rw [intsOf_eq e]; rfl
  | .non :: _, _, h | .bl _ :: _, _, h | .str _ :: _, _, h | .tup _ :: _, _, h | .lst _ :: _, _, h | .dct _ _ :: _, _, h | .ins _ _ :: _, _, h | .cell _ :: _, _, h | .cls _ :: _, _, h | .clo _ _ :: _, _, h => by simp [intsOf] at h
theorem rels_ints {L : Lay} {A : List Addr} {H : Hp} : ∀ {ns : List Int} {vs : List V}, Rels L A H (ns.map .int) vs → vs = ns.map V.int
  | [], _, h => by simpa only [List.map_nil, Rels] using h
  | n :: ns, _, h => by
    obtain ⟨v, r, e, h1, h2⟩ := (show ∃ v r, _ from by simpa only [List.map_cons, Rels] using h)
    rw [e, rels_ints h2, h1.w.int]; rfl
theorem post_bl {L : Lay} {A : List Addr} {S : St} {H : Hp} {o : Option Bool} {Q : VK} (h : Post L W A H (Rel L) (R.opt (o.map D.bl) S) Q) (c : Cells L A S H) : ∃ b, o = some b ∧ Q (.bl b) H := by
  cases o with
  | none => exact (show False from h).elim
  | some b => exact ⟨b, rfl, h.ok c rel_bl⟩
theorem eq_data {L : Lay} {A : List Addr} {H : Hp} {d e : D} {x y : V} {b : Bool} (h : eqO d e = some b) (wd : RelW L A H d x) (we : RelW L A H e y) :
    (scal x y = true ∧ decide (x = y) = b) ∨ ∃ p q, Dp L.K H x p ∧ Dp L.K H y q ∧ SeqAt.shaped p = true ∧ SeqAt.shaped q = true ∧ PyData.eqv p q = b := by
  have deep : dat d = true → dat e = true → eqD d e = b → ∃ p q, Dp L.K H x p ∧ Dp L.K H y q ∧ SeqAt.shaped p = true ∧ SeqAt.shaped q = true ∧ PyData.eqv p q = b := fun h1 h2 h3 =>
    ⟨pd d, pd e, dp_of 12 h1 wd, dp_of 12 h2 we, dat_shaped h1, dat_shaped h2, by rw [eqD_pd d e ⟨12, h1⟩ ⟨12, h2⟩]; exact h3⟩
  have gen : (if (dat d && dat e) = true then some (eqD d e) else none) = some b → ∃ p q, Dp L.K H x p ∧ Dp L.K H y q ∧ SeqAt.shaped p = true ∧ SeqAt.shaped q = true ∧ PyData.eqv p q = b := fun h => by
    by_cases hz : (dat d && dat e) = true
    · rw [if_pos hz] at h
      rw [Bool.and_eq_true] at hz
      exact deep hz.1 hz.2 (Option.some.inj h)
    · rw [if_neg hz] at h; cases h
  cases d with
  | str s => cases e with
    | str t =>
      refine .inl ⟨?_, ?_⟩
      · rw [wd.str, we.str]; rfl
      · rw [wd.str, we.str]
        have h' : decide (s = t) = b := Option.some.inj h
        rw [← h']
        rw [Bool.eq_iff_iff, decide_eq_true_eq, decide_eq_true_eq]
        exact ⟨fun z => SS_inj (V.str.inj z), fun z => by rw [z]⟩
    | _ => exact .inr (gen h)
  | int s => cases e with
    | int t =>
      refine .inl ⟨?_, ?_⟩
      · rw [wd.int, we.int]; rfl
      · rw [wd.int, we.int]
        have h' : decide (s = t) = b := Option.some.inj h
        rw [← h']
        rw [Bool.eq_iff_iff, decide_eq_true_eq, decide_eq_true_eq]
        exact ⟨fun z => V.int.inj z, fun z => by rw [z]⟩
    | _ => exact .inr (gen h)
  | _ => exact .inr (gen h)
theorem dkK_inj {q k : DK} (h : dkK q = dkK k) : q = k := by
  cases q <;> cases k <;> simp only [dkK] at h
  · exact congrArg _ (Sum.inl.inj h)
  · cases h
  · cases h
  · exact congrArg _ (SS_inj (Sum.inr.inj h))
theorem valV_cons {q k : DK} {ks : List DK} {v : V} {vs : List V} : valV (((q :: ks).map dkK).zip (v :: vs)) (dkK k) = if q = k then some v else valV ((ks.map dkK).zip vs) (dkK k) := by
  unfold valV
  simp only [List.map_cons, List.zip_cons_cons, List.find?_cons]
  by_cases h : q = k
  · subst h; simp
  · have : decide (dkK q = dkK k) = false := decide_eq_false fun z => h (dkK_inj z)
    simp only [this, if_neg h]
theorem kDK {k : DK} : ∀ {ks : List DK} {vs : List V}, ks.length = vs.length → (valV ((ks.map dkK).zip vs) (dkK k)).isSome = decide (k ∈ ks)
  | [], _, _ => by simp [valV]
  | q :: ks, [], h => by simp at h
  | q :: ks, v :: vs, h => by
    rw [valV_cons]
    have := kDK (k := k) (ks := ks) (vs := vs) (by simpa using h)
    by_cases hq : q = k
    · subst hq; simp
    · rw [if_neg hq, this]
      simp [Ne.symm hq]
theorem keyOf_rel {L : Lay} {A : List Addr} {H : Hp} {d : D} {k : DK} {x : V} (h : keyOf d = some k) (w : RelW L A H d x) : x = kV (dkK k) := by
  cases d with
  | int i => have h : some (DK.int i) = some k := h; cases h; rw [w.int]; rfl
  | str i => have h : some (DK.str i) = some k := h; cases h; rw [w.str]; rfl
  | _ => cases h
theorem any_rels {L : Lay} {A : List Addr} {H : Hp} {d : D} {x : V} (hd : atom d = true) (w : RelW L A H d x) : ∀ {xs : List D} {vs : List V}, xs.all atom = true → Rels L A H xs vs → vs.all flatV = true ∧ inV x vs = xs.any fun y => eqD y d
  | [], _, _, r => by simp only [Rels] at r; subst r; exact ⟨rfl, rfl⟩
  | y :: xs, _, h, r => by
    rw [List.all_cons, Bool.and_eq_true] at h
    obtain ⟨v, t, e, h1, h2⟩ := (show ∃ v r, _ from by simpa only [Rels] using r)
    subst e
    obtain ⟨i1, i2⟩ := any_rels hd w h.2 h2
    refine ⟨by rw [List.all_cons, Bool.and_eq_true]; exact ⟨atom_flat h.1 h1.w, i1⟩, ?_⟩
    unfold inV at i2 ⊢
    rw [List.any_cons, List.any_cons, i2, atom_eqV h.1 hd h1.w w]
theorem any_pds {d : D} (hd : dat d = true) : ∀ {xs : List D}, (∀ y ∈ xs, ∃ n, datN n y = true) → ((pds xs).any fun z => PyData.eqv z (pd d)) = xs.any fun y => eqD y d
  | [], _ => rfl
  | y :: xs, h => by
    simp only [pds, List.any_cons]
    rw [any_pds hd fun z m => h z (List.mem_cons_of_mem _ m), eqD_pd y d (h y List.mem_cons_self) ⟨12, hd⟩]
theorem op_inD' (hr : X.A.units + 65 < cLine) (neg : Bool) {pins : List (Addr × Obj)} {s : Shared} {σ : L2.St} {H : Hp} {A : List Addr} {d e : D} {x y : V} {v u : Value} {Q : VK} {b : Bool} (I : Inv X pins σ H s) (rx : RelV x v) (ry : RelV y u)
    (wd : RelW (LX X z cad cfs) A H d x) (we : RelW (LX X z cad cfs) A H e y) (h : inD d e = some b) (q : Q (.bl (if neg then !b else b)) H) :
    wpAny (model X.prog X.w) X.A (compareOp (if neg then .NotIn else .In) v u) (EP X pins σ Q) X.xe s := by
  have flat : ∀ {p : Addr} {xs : List D} {vs : List V}, y = .ref p → (SqL X.K H p vs ∨ SqT X.K H p vs) → Rels (LX X z cad cfs) A H xs vs → (atom d && xs.all atom) = true → b = (xs.any fun y => eqD y d) →
      wpAny (model X.prog X.w) X.A (compareOp (if neg then .NotIn else .In) v u) (EP X pins σ Q) X.xe s := by
    intro p xs vs ey hs r hz hb
    rw [Bool.and_eq_true] at hz
    obtain ⟨f1, f2⟩ := any_rels hz.1 wd hz.2 r
    subst hb
    cases neg with
    | false => exact op_in_seq pins s σ H x y v u Q I rx ry ⟨p, vs, ey, hs, atom_flat hz.1 wd, f1, by rw [f2]; exact q⟩
    | true => exact op_notIn_seq pins s σ H x y v u Q I rx ry ⟨p, vs, ey, hs, atom_flat hz.1 wd, f1, by rw [f2]; exact q⟩
  cases e with
  | lst xs =>
    obtain ⟨p, vs, ey, hs, r⟩ := id we
    by_cases hz : (atom d && xs.all atom) = true
    · have h : (if ((atom d && xs.all atom) || (dat d && dat (.lst xs))) = true then some (xs.any fun y => eqD y d) else none) = some b := h
      rw [if_pos (by rw [hz, Bool.true_or])] at h
      exact flat ey (.inl hs) r hz (Option.some.inj h).symm
    · have h : (if ((atom d && xs.all atom) || (dat d && dat (.lst xs))) = true then some (xs.any fun y => eqD y d) else none) = some b := h
      by_cases hw : (dat d && dat (.lst xs)) = true
      · rw [if_pos (by rw [hw, Bool.or_true])] at h
        have h := Option.some.inj h
        rw [Bool.and_eq_true] at hw
        have hall : ∀ y ∈ xs, ∃ n, datN n y = true := fun y m => ⟨11, List.all_eq_true.mp (by simpa only [datN] using hw.2) y m⟩
        obtain ⟨as, r1⟩ := Dp.reads I (pd d) x v (dp_of 12 hw.1 wd) rx
        have dl := dp_of 12 hw.2 we
        have sl := dat_shaped hw.2
        rw [pd] at dl sl
        obtain ⟨bs, r2⟩ := Dp.reads I _ y u dl ry
        rw [← h, ← any_pds hw.1 hall] at q
        cases neg with
        | false => exact SeqAt.in_list_reads r2 r1 (SeqAt.canLay_of_shaped sl) (SeqAt.canLay_of_shaped (dat_shaped hw.1)) (room_in_shaped (dat_shaped hw.1) hr) ⟨.bl _, H, I, rfl, q⟩
        | true => exact SeqAt.notIn_list_reads r2 r1 (SeqAt.canLay_of_shaped sl) (SeqAt.canLay_of_shaped (dat_shaped hw.1)) (room_in_shaped (dat_shaped hw.1) hr) ⟨.bl _, H, I, rfl, q⟩
      · rw [if_neg (by rw [Bool.not_eq_true] at hz hw; rw [hz, hw]; decide)] at h; cases h
  | tup xs =>
    obtain ⟨p, vs, ey, hs, r⟩ := id we
    by_cases hz : (atom d && xs.all atom) = true
    · have h : (if ((atom d && xs.all atom) || (dat d && dat (.tup xs))) = true then some (xs.any fun y => eqD y d) else none) = some b := h
      rw [if_pos (by rw [hz, Bool.true_or])] at h
      exact flat ey (.inr hs.t) r hz (Option.some.inj h).symm
    · have h : (if ((atom d && xs.all atom) || (dat d && dat (.tup xs))) = true then some (xs.any fun y => eqD y d) else none) = some b := h
      by_cases hw : (dat d && dat (.tup xs)) = true
      · rw [if_pos (by rw [hw, Bool.or_true])] at h
        have h := Option.some.inj h
        rw [Bool.and_eq_true] at hw
        have hall : ∀ y ∈ xs, ∃ n, datN n y = true := fun y m => ⟨11, List.all_eq_true.mp (by simpa only [datN] using hw.2) y m⟩
        obtain ⟨as, r1⟩ := Dp.reads I (pd d) x v (dp_of 12 hw.1 wd) rx
        have dl := dp_of 12 hw.2 we
        have sl := dat_shaped hw.2
        rw [pd] at dl sl
        obtain ⟨bs, r2⟩ := Dp.reads I _ y u dl ry
        rw [← h, ← any_pds hw.1 hall] at q
        cases neg with
        | false => exact SeqAt.in_tuple_reads r2 r1 (SeqAt.canLay_of_shaped sl) (SeqAt.canLay_of_shaped (dat_shaped hw.1)) (room_in_shaped (dat_shaped hw.1) hr) ⟨.bl _, H, I, rfl, q⟩
        | true => exact SeqAt.notIn_tuple_reads r2 r1 (SeqAt.canLay_of_shaped sl) (SeqAt.canLay_of_shaped (dat_shaped hw.1)) (room_in_shaped (dat_shaped hw.1) hr) ⟨.bl _, H, I, rfl, q⟩
      · rw [if_neg (by rw [Bool.not_eq_true] at hz hw; rw [hz, hw]; decide)] at h; cases h
  | str z =>
    have ey := we.str
    cases d with
    | str a => cases a with
      | nil => cases h
      | cons c a => cases a with
        | nil =>
          have h : some (decide (c ∈ z)) = some b := h
          have ex := wd.str
          have h := Option.some.inj h
          subst h
          cases neg with
          | false => exact op_in_sign pins s σ H x y v u Q I rx ry ⟨c, SS z, ex, ey, q⟩
          | true => exact op_notIn_sign pins s σ H x y v u Q I rx ry ⟨c, SS z, ex, ey, q⟩
        | cons _ _ => cases h
    | _ => cases h
  | dct ks ds =>
    obtain ⟨p, vs, ey, hp, hl, nd, r⟩ := we
    have h : ((keyOf d).map fun k => decide (k ∈ ks)) = some b := h
    rw [Option.map_eq_some_iff] at h
    obtain ⟨k, hk, hb⟩ := h
    have ex := keyOf_rel hk wd
    subst ex
    subst ey
    cases (show u = Value.ref p from ry)
    have g : DGet H p (kV (dkK k)) _ := dget_r hp
    cases neg with
    | false => exact d_in (by omega) I g rx fun s3 I3 => ⟨.bl _, H, I3, rfl, by rw [kDK hl, hb]; exact q⟩
    | true => exact d_notIn (by omega) I g rx fun s3 I3 => ⟨.bl _, H, I3, rfl, by rw [kDK hl, hb]; exact q⟩
  | _ => cases h
theorem op_cmp (hr : X.A.units + 65 < cLine) (op : CmpOp) : OpR X (compareOp op) (rCmp (LX X z cad cfs) W op) := by
  intro pins s σ H x y v u Q I rx ry h
  obtain ⟨A, S, d, e, c, wd, we, p⟩ := h
  obtain ⟨b, hb, q⟩ := post_bl p c
  have str2 : ∀ {d e : D} {f : List Nat → List Nat → Bool} {g : Int → Int → Bool}, True := trivial
  cases op with
  | Eq =>
    rcases eq_data hb wd we with ⟨h1, h2⟩ | ⟨p, r, h1, h2, h3, h4, h5⟩
    · exact op_eq pins s σ H x y v u Q I rx ry ⟨h1, by rw [h2]; exact q⟩
    · exact op_eqD (by omega) pins s σ H x y v u Q I rx ry ⟨p, r, h1, h2, h3, h4, by rw [h5]; exact q⟩
  | NotEq =>
    have hb0 : (eqO d e).map not = some b := hb
    rw [Option.map_eq_some_iff] at hb0
    obtain ⟨b', hb1, rfl⟩ := hb0
    rcases eq_data hb1 wd we with ⟨h1, h2⟩ | ⟨p, r, h1, h2, h3, h4, h5⟩
    · exact op_ne pins s σ H x y v u Q I rx ry ⟨h1, by rw [h2]; exact q⟩
    · exact op_neD (by omega) pins s σ H x y v u Q I rx ry ⟨p, r, h1, h2, h3, h4, by rw [h5]; exact q⟩
  | Lt =>
    cases d with
    | int i => cases e with
      | int j =>
        rw [wd.int] at rx; rw [we.int] at ry
        have hb : decide (i < j) = b := Option.some.inj hb
        exact op_lt pins s σ H _ _ v u Q I rx ry ⟨i, j, rfl, rfl, by rw [← hb] at q; exact q⟩
      | _ => cases hb
    | str i => cases e with
      | str j =>
        rw [wd.str] at rx; rw [we.str] at ry
        have hb : decide (i < j) = b := Option.some.inj hb
        exact op_lt_str pins s σ H _ _ v u Q I rx ry ⟨_, _, rfl, rfl, by rw [← hb] at q; exact q⟩
      | _ => cases hb
    | tup xs => cases e with
      | tup ys =>
        have hb : (match intsOf xs, intsOf ys with | some a, some b => some (lexI a b) | _, _ => none) = some b := hb
        cases h1 : intsOf xs with
        | none => rw [h1] at hb; cases hb
        | some ns => cases h2 : intsOf ys with
          | none => rw [h1, h2] at hb; cases hb
          | some ms =>
            rw [h1, h2] at hb
            have hb : lexI ns ms = b := Option.some.inj hb
            rw [intsOf_eq h1] at wd
            rw [intsOf_eq h2] at we
            obtain ⟨p1, v1, e1, s1', r1⟩ := wd
            obtain ⟨p2, v2, e2, s2', r2⟩ := we
            have s1 := s1'.t
            have s2 := s2'.t
            rw [rels_ints r1] at s1
            rw [rels_ints r2] at s2
            exact op_ltT (by omega) pins s σ H x y v u Q I rx ry ⟨p1, p2, ns, ms, e1, e2, s1, s2, by rw [lexI_eq, hb]; exact q⟩
      | _ => cases hb
    | _ => cases hb
  | LtE =>
    cases d with
    | int i => cases e with
      | int j =>
        rw [wd.int] at rx; rw [we.int] at ry
        have hb : (!decide (j < i)) = b := Option.some.inj hb
        have e0 : decide (i ≤ j) = (!decide (j < i)) := by rw [Bool.eq_iff_iff]; simp
        exact op_le pins s σ H _ _ v u Q I rx ry ⟨i, j, rfl, rfl, by rw [← hb, ← e0] at q; exact q⟩
      | _ => cases hb
    | str i => cases e with
      | str j =>
        rw [wd.str] at rx; rw [we.str] at ry
        have hb : (!decide (j < i)) = b := Option.some.inj hb
        exact op_le_str pins s σ H _ _ v u Q I rx ry ⟨_, _, rfl, rfl, by rw [← hb] at q; exact q⟩
      | _ => cases hb
    | tup xs => cases e with
      | tup ys =>
        have hb : (match intsOf xs, intsOf ys with | some a, some b => some (!lexI b a) | _, _ => none) = some b := hb
        cases h1 : intsOf xs with
        | none => rw [h1] at hb; cases hb
        | some ns => cases h2 : intsOf ys with
          | none => rw [h1, h2] at hb; cases hb
          | some ms =>
            rw [h1, h2] at hb
            have hb : (!lexI ms ns) = b := Option.some.inj hb
            rw [intsOf_eq h1] at wd
            rw [intsOf_eq h2] at we
            obtain ⟨p1, v1, e1, s1', r1⟩ := wd
            obtain ⟨p2, v2, e2, s2', r2⟩ := we
            have s1 := s1'.t
            have s2 := s2'.t
            rw [rels_ints r1] at s1
            rw [rels_ints r2] at s2
            exact op_leT (by omega) pins s σ H x y v u Q I rx ry ⟨p1, p2, ns, ms, e1, e2, s1, s2, by rw [lexAt_le, hb]; exact q⟩
      | _ => cases hb
    | _ => cases e <;> cases hb
  | Gt =>
    cases d with
    | int i => cases e with
      | int j =>
        rw [wd.int] at rx; rw [we.int] at ry
        have hb : decide (j < i) = b := Option.some.inj hb
        exact op_gt pins s σ H _ _ v u Q I rx ry ⟨i, j, rfl, rfl, by rw [← hb] at q; exact q⟩
      | _ => cases hb
    | str i => cases e with
      | str j =>
        rw [wd.str] at rx; rw [we.str] at ry
        have hb : decide (j < i) = b := Option.some.inj hb
        exact op_gt_str pins s σ H _ _ v u Q I rx ry ⟨_, _, rfl, rfl, by rw [← hb] at q; exact q⟩
      | _ => cases hb
    | _ => cases e <;> cases hb
  | GtE =>
    cases d with
    | int i => cases e with
      | int j =>
        rw [wd.int] at rx; rw [we.int] at ry
        have hb : (!decide (i < j)) = b := Option.some.inj hb
        have e0 : decide (j ≤ i) = (!decide (i < j)) := by rw [Bool.eq_iff_iff]; simp
        exact op_ge pins s σ H _ _ v u Q I rx ry ⟨i, j, rfl, rfl, by rw [← hb, ← e0] at q; exact q⟩
      | _ => cases hb
    | str i => cases e with
      | str j =>
        rw [wd.str] at rx; rw [we.str] at ry
        have hb : (!decide (i < j)) = b := Option.some.inj hb
        exact op_ge_str pins s σ H _ _ v u Q I rx ry ⟨_, _, rfl, rfl, by rw [← hb] at q; exact q⟩
      | _ => cases hb
    | _ => cases e <;> cases hb
  | In => exact op_inD' hr false I rx ry wd we hb q
  | NotIn =>
    have hb0 : (inD d e).map not = some b := hb
    rw [Option.map_eq_some_iff] at hb0
    obtain ⟨b', hb1, rfl⟩ := hb0
    exact op_inD' hr true I rx ry wd we hb1 q
  | _ => cases hb
end
end EV
set_option Elab.async false
set_option linter.all false
set_option maxRecDepth 100000
set_option maxHeartbeats 2000000
namespace EV
open PySem PySem.Spec PyProof.Rows L2
structure Nm where
  fnm : Nat → Str
  fgl : Nat → Bool
  fps : Nat → List Str
  cnm : Nat → Str
  gnm : Nat → Str
  gval : Nat → Option D
  anm : Nat → Str
  kwT : Nat → List (Nat × List Str × List Nat)
  kval : Nat → Option D
structure Cf where
  G : Pg
  κ : Nat → List D → St → R D
  nm : Nm
  ad : Nat → Addr
  fd : Nat → FuncData
  cad : Nat → Addr
  cfs : Nat → List Str
  CX : CXT
  lv : Nat
def Cf.lay (c : Cf) (K : PySem.W.Frag) (z : List Addr) : Lay := ⟨K, z, c.cad, c.cfs⟩
def spF (c : Cf) (K : PySem.W.Frag) (f : Nat) : Sp := fun vs H Q E => ∃ z A S ds, ds.length = (c.nm.fps f).length ∧ Cells (c.lay K z) A S H ∧ Rels (c.lay K z) A H ds vs ∧ Post (c.lay K z) E A H (Rel (c.lay K z)) (c.κ f ds S) Q
def tR {α β : Type} (c : Cf) (K : PySem.W.Frag) (W : XK) (rel : Lay → List Addr → Hp → α → β → Prop) (f : Env → St → R α) : L2.St → Hp → (β → Hp → Prop) → Prop :=
  fun σ H Q => ∃ z A S v, EnvOk (c.lay K z) A H v σ ∧ Cells (c.lay K z) A S H ∧ Post (c.lay K z) W A H (rel (c.lay K z)) (f v S) Q
abbrev RelBL : Lay → List Addr → Hp → Bool → Bool → Prop := fun _ _ _ a b => a = b
def tE (c : Cf) (K : PySem.W.Frag) (W : XK) (e : E) : TE := tR c K W Rel (ev c.G c.κ e)
def tT (c : Cf) (K : PySem.W.Frag) (W : XK) (e : E) : TT := tR c K W RelBL (fun v S => tst (ev c.G c.κ e v S))
def tEs (c : Cf) (K : PySem.W.Frag) (W : XK) (e : E) : TA := tR c K W Rels (evs c.G c.κ e)
section
variable {c : Cf} {K : PySem.W.Frag} {W : XK} {α β γ δ : Type} {rel : Lay → List Addr → Hp → α → β → Prop} {rel2 : Lay → List Addr → Hp → γ → δ → Prop} {σ : L2.St} {H : Hp} {z : List Addr} {A : List Addr} {S : St} {v : Env}
theorem tR_bind {f : Env → St → R α} {g : α → St → R γ} {Q : δ → Hp → Prop} (hv : EnvOk (c.lay K z) A H v σ) (hc : Cells (c.lay K z) A S H) (h : Post (c.lay K z) W A H (rel2 (c.lay K z)) ((f v S).bind g) Q) :
    tR c K W rel f σ H (fun b H1 => ∃ A1 S1 a, Grow A H A1 H1 ∧ EnvOk (c.lay K z) A1 H1 v σ ∧ Cells (c.lay K z) A1 S1 H1 ∧ rel (c.lay K z) A1 H1 a b ∧ Post (c.lay K z) W A1 H1 (rel2 (c.lay K z)) (g a S1) Q) :=
  ⟨z, A, S, v, hv, hc, (Post.bind (rel := rel (c.lay K z)) h).imp fun b H1 ⟨A1, S1, a, g1, c1, r1, p1⟩ => ⟨A1, S1, a, g1, hv.grow g1, c1, r1, p1⟩⟩
theorem tR_mk {f : Env → St → R α} {Q : β → Hp → Prop} (hv : EnvOk (c.lay K z) A H v σ) (hc : Cells (c.lay K z) A S H) (h : Post (c.lay K z) W A H (rel (c.lay K z)) (f v S) Q) : tR c K W rel f σ H Q := ⟨z, A, S, v, hv, hc, h⟩
end
theorem PE.mono {X : Cx} {e : Expr} {t t' : TE} (h : PE X e t) (k : ∀ σ H Q, t' σ H Q → t σ H Q) : PE X e t' := ⟨fun pins s σ H Q I q => h.run pins s σ H Q I (k σ H Q q)⟩
theorem PT.mono {X : Cx} {e : Expr} {t t' : TT} (h : PT X e t) (k : ∀ σ H Q, t' σ H Q → t σ H Q) : PT X e t' := ⟨fun pins s σ H Q I q => h.run pins s σ H Q I (k σ H Q q)⟩
theorem PW.mono {X : Cx} {e : Expr} {t t' : TT} (h : PW X e t) (k : ∀ σ H Q, t' σ H Q → t σ H Q) : PW X e t' := ⟨fun wh pins s σ H Q I q => h.run wh pins s σ H Q I (k σ H Q q)⟩
theorem PA.mono {X : Cx} {es : List Expr} {t t' : TA} (h : PA X es t) (k : ∀ σ H Q, t' σ H Q → t σ H Q) : PA X es t' := ⟨fun pos pins s σ H Q I q => h.run pos pins s σ H Q I (k σ H Q q)⟩
theorem OpR.ex {X : Cx} {f : Value → Value → Sem Value} {ι : Type} {r : ι → R2} (h : ∀ i, OpR X f (r i)) : OpR X f (fun x y H Q => ∃ i, r i x y H Q) := fun pins s σ H x y v u Q I rx ry ⟨i, q⟩ => h i pins s σ H x y v u Q I rx ry q
structure FnOkG (P : Program) (w : World) (K : PySem.W.Frag) (mg : Str → Option Value) (base : Heap) (CX : CXT) (k : Nat) (f : Addr) (fd : FuncData) (ps : List Str) (sp : Sp) : Prop where
  run : ∀ (A : Around) (outer : List PySem.Env) (s : Shared) (H : Hp) (args : Args) (us : List Value) (vs : List V) (Q : VK) (E : XK), A.guards = some [] → Room k A → Env0 P w K mg base A outer s H → BindsTo s fd args (ps.zip us) → Vals vs us → sp vs H Q E →
    codeAny (model P w) A (.call (.ref f) args) (CR CX outer P w H s Q E) s
structure FnF (c : Cf) (X : Cx) (f : Nat) : Prop where
  gl : c.nm.fgl f = true → X.mg (c.nm.fnm f) = some (.ref (c.ad f))
  kp : PySem.W.keepIn X.K (.ref (c.ad f)) = true
  len : ∀ ds S, ds.length ≠ (c.nm.fps f).length → c.κ f ds S = .no
  bd : Binds X.K (c.fd f) (c.nm.fps f) []
  kb : ∀ n ks pm, (n, ks, pm) ∈ c.nm.kwT f → ∀ (s : Shared) (us ws : List Value), X.K.In s.heap → us.length = n → ws.length = ks.length → ∃ as, pm.mapM (fun i => (us ++ ws)[i]?) = some as ∧ BindsTo s (c.fd f) ⟨us, ks.zip ws⟩ ((c.nm.fps f).zip as)
  ok : FnOkG X.prog X.w X.K X.mg X.base c.CX c.lv (c.ad f) (c.fd f) (c.nm.fps f) (spF c X.K f)
structure InsF (c : Cf) (X : Cx) (k : Nat) (r : ClR) : Prop where
  cls : Cls X.K (c.cad k)
  noat : ∀ f ∈ c.cfs k, NoAttr X.K (c.cad k) f
  nd : (c.cfs k).Nodup
  few : (c.cfs k).length ≤ 900
  fld : ∀ a i, r.fld.lookup a = some i → (c.cfs k)[i]? = some (c.nm.anm a)
  prop : ∀ a f, r.prop.lookup a = some f → (c.G.fn f).isSome = true ∧ ∃ p, PropOf X.K (c.cad k) (c.nm.anm a) p (c.ad f)
  meth : ∀ a f, r.meth.lookup a = some f → c.nm.anm a ∉ c.cfs k ∧ (c.G.fn f).isSome = true ∧ Meth X.K (c.cad k) (c.nm.anm a) (c.ad f)
  init : ∀ f, r.init = some f → (c.G.fn f).isSome = true ∧ Mk X.K (c.cad k) (c.ad f)
  lenF : ∀ f, r.lenF = some f → (c.G.fn f).isSome = true ∧ PySem.W.findIn X.K (.ref (c.cad k)) "__len__" = some (some (.ref (c.ad f))) ∧ PySem.W.isFn X.K (.ref (c.ad f)) = true
  strF : ∀ f, r.strF = some f → (c.G.fn f).isSome = true ∧ PySem.W.findIn X.K (.ref (c.cad k)) "__str__" = some (some (.ref (c.ad f))) ∧ PySem.W.isFn X.K (.ref (c.ad f)) = true
  boolF : ∀ f, r.boolF = some f → (c.G.fn f).isSome = true ∧ PySem.W.findIn X.K (.ref (c.cad k)) "__bool__" = some (some (.ref (c.ad f))) ∧ PySem.W.isFn X.K (.ref (c.ad f)) = true
  eqF : ∀ f, r.eqF = some f → (c.G.fn f).isSome = true ∧ PySem.W.findIn X.K (.ref (c.cad k)) "__eq__" = some (some (.ref (c.ad f))) ∧ PySem.W.isFn X.K (.ref (c.ad f)) = true
  ha : PySem.W.findIn X.K (.ref (c.cad k)) "__class__" = some (some (.builtin "object.__class__"))
  hn : PySem.W.specialIn X.K (.builtin "object.__class__") "__get__" = some (some (.builtin "getset_descriptor.__get__"))
  htk : PySem.W.takesIn X.K (.builtin "object.__class__") = some true
  hne : PySem.W.findIn X.K (.ref (c.cad k)) "__ne__" = some (some (.builtin "object.__ne__"))
  hm : PySem.W.mroIn X.K (c.cad k) (.type "object") = some true
def tyNames : List String := ["NoneType", "bool", "int", "str", "list", "tuple", "dict"]
def tyN : Ty → String
  | .str => "str" | .int => "int" | .bool => "bool" | .tuple => "tuple" | .list => "list" | .dict => "dict" | .cls _ => ""
structure ClF (c : Cf) (X : Cx) (k : Nat) (r : ClR) : Prop where
  gl : X.mg (c.nm.cnm k) = some (.ref (c.cad k))
  ins : InsF c X k r
  kitT : ∀ t ∈ tyNames, PySem.W.kitOne X.K (.type t) (.ref (c.cad k)) = some false
  kitB : ∀ t ∈ tyNames, PySem.W.kitOne X.K (.ref (c.cad k)) (.type t) = some false
  kitO : ∀ k' r', c.G.cl k' = some r' → PySem.W.kitOne X.K (.ref (c.cad k')) (.ref (c.cad k)) = some (k' == k || r'.sup.contains k)
def GlF (c : Cf) (X : Cx) (g : Nat) (d : D) : Prop := ∃ u x, X.mg (c.nm.gnm g) = some u ∧ RelV x u ∧ ∀ z A S H, Cells (c.lay X.K z) A S H → Rel (c.lay X.K z) A H d x
def KdF (c : Cf) (X : Cx) (g : Nat) (ks : List DK) (vs : List D) : Prop := ∃ a es n, X.mg (c.nm.gnm g) = some (.ref a) ∧ KDict X.K X.w a es n ∧ ∀ t : List Nat, (∃ d u v, lookK (.str t) ks vs = some d ∧ PySem.W.nsIn X.K a (SS t) = some (some u) ∧ RelV v u ∧ ∀ z A H, Rel (c.lay X.K z) A H d v) ∨ (lookK (.str t) ks vs = none ∧ PySem.W.nsIn X.K a (SS t) = some none)
structure Facts (c : Cf) (X : Cx) : Prop where
  fn : ∀ f, (c.G.fn f).isSome = true → FnF c X f
  gl : ∀ g d, c.nm.gval g = some d → GlF c X g d
  cl : ∀ k r, c.G.cl k = some r → ClF c X k r
  free : ∀ x ∈ ([("len" : Str), "abs", "max", "min", "sum", "all", "any", "int", "str", "repr", "bool", "range", "zip", "enumerate", "list", "tuple", "sorted", "set", "dict", "isinstance", "divmod"] : List Str), X.mg x = none
  kd : ∀ g ks vs, c.nm.kval g = some (.dct ks vs) → KdF c X g ks vs
structure Sc where
  eff : Scope
  own : Str → Bool
structure Good (c : Cf) (N : List Str) (X : Cx) (sc : Sc) (W : XK) : Prop where
  hN : X.N = N
  nd : X.N.Nodup
  hs : X.env.scope = sc.eff
  calm : X.calm = true
  gd : X.A.guards = some []
  room : Room (c.lv + 2) X.A
  pass : Passes c.CX X W
  nox : ∀ l H s e s', c.CX l H s (fun _ _ _ => False) e s' → False
  fnx : ∀ x, sc.own x = true → X.fn x = true
  fs : Facts c X
def visB (sc : Scope) (x : Str) : Bool := match sc.names.lookup x with
  | some .local => true
  | some .cell => true
  | some .free => true
  | _ => false
def locB (sc : Scope) (x : Str) : Bool := match sc.names.lookup x with
  | some .local => true
  | some .cell => true
  | _ => false
def glB (sc : Scope) (x : Str) : Bool := match sc.names.lookup x with
  | some .globalImplicit => true
  | _ => false
theorem visB_ok {sc : Scope} {x : Str} (h : visB sc x = true) : Vis sc x := by
  unfold visB at h
  split at h
  · exact .inl (by assumption)
  · exact .inr (.inl (by assumption))
  · exact .inr (.inr (by assumption))
  · cases h
theorem locB_ok {sc : Scope} {x : Str} (h : locB sc x = true) : Loc sc x := by
  unfold locB at h
  split at h
  · exact .inl (by assumption)
  · exact .inr (by assumption)
  · cases h
theorem glB_ok {X : Cx} {sc : Scope} (hs : X.env.scope = sc) {x : Str} (h : glB sc x = true) : Gl X x := by
  unfold glB at h
  split at h
  · subst hs; assumption
  · cases h
def conB : D → Const → Bool
  | .non, .none => true
  | .bl b, .bool c => b == c
  | .int i, .int j => decide (i = j)
  | .str s, .str x => decide (x = SS s)
  | _, _ => false
def isSlice : Expr → Bool
  | .Slice .. => true
  | _ => false
def ordOp : CmpOp → Bool
  | .Is => false
  | .IsNot => false
  | _ => true
theorem plainIx_of {b : Expr} (h : isSlice b = false) : PlainIx b := by
  intro o i
  cases b <;> first | rfl | cases h
section
variable {c : Cf} {N : List Str} {X : Cx} {sc : Sc} {W : XK} {a b d e : E} {x y w : Expr} {pos : Pos}
abbrev okE (c : Cf) (X : Cx) (W : XK) (e : E) (x : Expr) : Prop := PE X x (tE c X.K W e)
abbrev okT (c : Cf) (X : Cx) (W : XK) (e : E) (x : Expr) : Prop := PT X x (tT c X.K W e)
abbrev okEs (c : Cf) (X : Cx) (W : XK) (e : E) (xs : List Expr) : Prop := PA X xs (tEs c X.K W e)
theorem s_var {i : Nat} {n : Str} (hN : X.N[i]? = some n) (hv : Vis X.env.scope n) (h1 : (n == ("__debug__" : Str)) = false) (h2 : (n == ("__classdict__" : Str)) = false) : okE c X W (.var i) (.Name n pos) := by
  refine PE.mono (pe_var hN hv h1 h2) fun σ H Q ⟨z, A, S, v, hv, hc, h⟩ => ?_
  simp only [ev] at h
  split at h
  · rename_i d e
    obtain ⟨x, e1, r⟩ := hv.at_ i d e
    exact ⟨x, e1, h.ok hc r⟩
  · exact h.elim
theorem s_con {d : D} {k : Const} {j : Nat} (h : conB d k = true) : okE c X W (.con d) (.Constant k j pos) := by
  cases d with
  | non => cases k with
    | none => exact PE.mono pe_non fun σ H Q ⟨z, A, S, v, hv, hc, h⟩ => Post.ok h hc rel_non
    | _ => cases h
  | bl b => cases k with
    | bool b' =>
      have : b = b' := beq_iff_eq.mp h
      subst this
      exact PE.mono pe_bl fun σ H Q ⟨z, A, S, v, hv, hc, h⟩ => Post.ok h hc rel_bl
    | _ => cases h
  | int b => cases k with
    | int b' =>
      have : b = b' := of_decide_eq_true h
      subst this
      exact PE.mono pe_int fun σ H Q ⟨z, A, S, v, hv, hc, h⟩ => Post.ok h hc rel_int
    | _ => cases h
  | str b => cases k with
    | str b' =>
      have : b' = SS b := of_decide_eq_true h
      subst this
      exact PE.mono pe_str fun σ H Q ⟨z, A, S, v, hv, hc, h⟩ => Post.ok h hc rel_str
    | _ => cases h
  | _ => cases k <;> cases h
theorem s_glob {g : Nat} {d : D} (F : Facts c X) (hg : Gl X (c.nm.gnm g)) (hd : (c.nm.gnm g == ("__debug__" : Str)) = false) (h : c.nm.gval g = some d) : okE c X W (.glob g d) (.Name (c.nm.gnm g) pos) := by
  obtain ⟨u, x, e, r, k⟩ := F.gl g d h
  exact PE.mono (pe_glob hg e r hd) fun σ H Q ⟨z, A, S, v, hv, hc, h⟩ => Post.ok h hc (k z A S H hc)
theorem s_bin {m : Bool} {op : Operator} (ha : okE c X W a x) (hb : okE c X W b y) : okE c X W (.bin m op a b) (.BinOp x op y pos) := by
  refine PE.mono (pe_op (OpR.ex fun z : List Addr => op_bin (z := z) (cad := c.cad) (cfs := c.cfs) (W := W) (m := m) op) ha hb) fun σ H Q ⟨z, A, S, v, hv, hc, h⟩ => ?_
  simp only [ev] at h
  have h1 := tR_bind (rel := Rel) hv hc h
  obtain ⟨z', A', S', v', hv', hc', p⟩ := h1
  refine ⟨z', A', S', v', hv', hc', p.imp fun x1 H1 ⟨A1, S1, d1, g1, e1, c1, r1, p1⟩ => ?_⟩
  obtain ⟨z2, A2, S2, v2, hv2, hc2, p2⟩ := tR_bind (rel := Rel) e1 c1 p1
  refine ⟨z2, A2, S2, v2, hv2, hc2, p2.imp fun x2 H2 ⟨A3, S3, d2, g2, e2, c2, r2, p3⟩ => ?_⟩
  exact ⟨z, A3, S3, d1, d2, c2, r1.grow g2, r2, p3⟩
theorem s_neg (ha : okE c X W a x) : okE c X W (.neg a) (.UnaryOp .USub x pos) := by
  refine PE.mono (pe_un un_neg ha) fun σ H Q ⟨z, A, S, v, hv, hc, h⟩ => ?_
  simp only [ev] at h
  obtain ⟨z', A', S', v', hv', hc', p⟩ := tR_bind (rel := Rel) hv hc h
  refine ⟨z', A', S', v', hv', hc', p.imp fun x1 H1 ⟨A1, S1, d1, g1, e1, c1, r1, p1⟩ => ?_⟩
  cases d1 with
  | int i => exact ⟨i, r1.w.int, p1.ok c1 rel_int⟩
  | _ => exact p1.elim
theorem isn_read {ng : Bool} {σ : L2.St} {H : Hp} {Q : VK} (h : tE c X.K W (.isn a ng) σ H Q) : tE c X.K W a σ H fun x H1 => Q (.bl (decide (x = .non) != ng)) H1 := by
    obtain ⟨z, A, S, v, hv, hc, h⟩ := h
    simp only [ev] at h
    obtain ⟨z', A', S', v', hv', hc', p⟩ := tR_bind (rel := Rel) hv hc h
    refine ⟨z', A', S', v', hv', hc', p.imp fun x1 H1 ⟨A1, S1, d1, g1, e1, c1, r1, p1⟩ => ?_⟩
    have e : decide (x1 = V.non) = decide (d1 = .non) := by
      cases d1 with
      | non => rw [r1.w.non]; simp
      | bl b => rw [r1.w.bl]; simp
      | int b => rw [r1.w.int]; simp
      | str b => rw [r1.w.str]; simp
      | tup ds => obtain ⟨q, vs, rfl, _⟩ := r1.w; simp
      | lst ds => obtain ⟨q, vs, rfl, _⟩ := r1.w; simp
      | dct ks ds => obtain ⟨q, vs, rfl, _⟩ := r1.w; simp
      | ins k ds => obtain ⟨q, dx, vs, rfl, _⟩ := r1.w; simp
      | cell n => obtain ⟨q, rfl, _⟩ := (show ∃ a, _ from by simpa only [Rel] using r1); simp
      | cls n => obtain rfl : x1 = _ := (by simpa only [Rel] using r1); simp
      | clo l vs => simp only [Rel] at r1
    rw [e]
    exact p1.ok c1 rel_bl
theorem s_isn {ng : Bool} {k : Nat} {p' : Pos} (ha : okE c X W a x) : okE c X W (.isn a ng) (.Compare x [if ng then .IsNot else .Is] [.Constant .none k p'] pos) := by
  have main : ∀ {σ : L2.St} {H : Hp} {Q : VK}, tE c X.K W (.isn a ng) σ H Q → tE c X.K W a σ H fun x H1 => Q (.bl (decide (x = .non) != ng)) H1 := fun h => isn_read h
  cases ng with
  | false =>
    refine PE.mono (pe_cmp (pc_isN ha)) fun σ H Q h => ?_
    have := main h
    simp only [Bool.bne_false] at this
    exact this
  | true =>
    refine PE.mono (pe_cmp (pc_notN ha)) fun σ H Q h => ?_
    have := main h
    simp only [Bool.bne_true] at this
    exact this
theorem s_one {op : BoolOp} (ha : okE c X W a x) : okE c X W (.one a) (.BoolOp op [x] pos) :=
  PE.mono (pe_one ha) fun σ H Q h => by
    obtain ⟨z, A, S, v, hv, hc, h⟩ := h
    simp only [ev] at h
    exact ⟨z, A, S, v, hv, hc, h⟩
theorem tst_of {A : List Addr} {H : Hp} {L : Lay} {r : R D} {γ δ : Type} {rel2 : List Addr → Hp → γ → δ → Prop} {f : Bool → St → R γ} {Q : δ → Hp → Prop} (h : Post L W A H rel2 ((tst r).bind f) Q) :
    Post L W A H (Rel L) r (fun x1 H1 => ∃ A1 S1 k, x1 = .bl k ∧ Grow A H A1 H1 ∧ Cells L A1 S1 H1 ∧ Post L W A1 H1 rel2 (f k S1) Q) := by
  have e : (tst r).bind f = r.bind fun d s => match d with
    | .bl b => f b s
    | _ => .no := by
    cases r with
    | ok d s => cases d <;> rfl
    | ex _ _ => rfl
    | no => rfl
  rw [e] at h
  refine (Post.bind (rel := Rel L) h).imp fun x1 H1 ⟨A1, S1, d1, g1, c1, r1, p1⟩ => ?_
  cases d1 with
  | bl b => exact ⟨A1, S1, b, r1.w.bl, g1, c1, p1⟩
  | _ => exact p1.elim
theorem s_and {xs : List Expr} (ha : okE c X W a x) (hb : okE c X W b (.BoolOp .And (y :: xs) pos)) : okE c X W (.and a b) (.BoolOp .And (x :: y :: xs) pos) := by
  refine PE.mono (pe_and ha hb) fun σ H Q ⟨z, A, S, v, hv, hc, h⟩ => ?_
  simp only [ev] at h
  refine ⟨z, A, S, v, hv, hc, (tst_of h).imp fun x1 H1 ⟨A1, S1, k, e, g1, c1, p1⟩ => ⟨k, e, ?_⟩⟩
  cases k with
  | true => exact ⟨z, A1, S1, v, hv.grow g1, c1, p1⟩
  | false => exact p1.ok c1 rel_bl
theorem s_or {xs : List Expr} (ha : okE c X W a x) (hb : okE c X W b (.BoolOp .Or (y :: xs) pos)) : okE c X W (.or a b) (.BoolOp .Or (x :: y :: xs) pos) := by
  refine PE.mono (pe_or ha hb) fun σ H Q ⟨z, A, S, v, hv, hc, h⟩ => ?_
  simp only [ev] at h
  refine ⟨z, A, S, v, hv, hc, (tst_of h).imp fun x1 H1 ⟨A1, S1, k, e, g1, c1, p1⟩ => ⟨k, e, ?_⟩⟩
  cases k with
  | false => exact ⟨z, A1, S1, v, hv.grow g1, c1, p1⟩
  | true => exact p1.ok c1 rel_bl
theorem s_not (ha : okE c X W a x) : okE c X W (.not a) (.UnaryOp .Not x pos) := by
  refine PE.mono (pe_not ha) fun σ H Q ⟨z, A, S, v, hv, hc, h⟩ => ?_
  simp only [ev] at h
  exact ⟨z, A, S, v, hv, hc, (tst_of h).imp fun x1 H1 ⟨A1, S1, k, e, g1, c1, p1⟩ => ⟨k, e, p1.ok c1 rel_bl⟩⟩
theorem s_ite (hc : okT c X W d w) (ha : okE c X W a x) (hb : okE c X W b y) : okE c X W (.ite d a b) (.IfExp w x y pos) := by
  refine PE.mono (pe_ifExp hc ha hb) fun σ H Q ⟨z, A, S, v, hv, hc, h⟩ => ?_
  simp only [ev] at h
  obtain ⟨z', A', S', v', hv', hc', p⟩ := tR_bind (rel := RelBL) (f := fun v S => tst (ev c.G c.κ d v S)) hv hc h
  refine ⟨z', A', S', v', hv', hc', p.imp fun x1 H1 ⟨A1, S1, k, g1, e1, c1, r1, p1⟩ => ?_⟩
  have r1 : k = x1 := r1
  subst r1
  cases k with
  | true => exact ⟨z, A1, S1, v, e1, c1, p1⟩
  | false => exact ⟨z, A1, S1, v, e1, c1, p1⟩
theorem t_val (h : okE c X W e x) (he : ∀ whole, PySem.isTrue x X.env whole = (do let v ← whole; standAt x.pos; holding [v] (truthy v))) : okT c X W e x :=
  PT.mono (pt_val h he) fun σ H Q ⟨z, A, S, v, hv, hc, h⟩ => ⟨z, A, S, v, hv, hc, (Post.tst h).imp fun x1 H1 ⟨k, e, q⟩ => ⟨k, e, q⟩⟩
theorem post_tst_bind {L : Lay} {A : List Addr} {H : Hp} {r : R D} {f : Bool → St → R D} {Q : Bool → Hp → Prop} (h : Post L W A H RelB (tst ((tst r).bind f)) Q) :
    Post L W A H RelB (tst r) (fun k H1 => ∃ A1 S1, Grow A H A1 H1 ∧ Cells L A1 S1 H1 ∧ Post L W A1 H1 RelB (tst (f k S1)) Q) := by
  have e : tst ((tst r).bind f) = (tst r).bind fun k s => tst (f k s) := by
    cases r with
    | ok d s => cases d <;> rfl
    | ex _ _ => rfl
    | no => rfl
  rw [e] at h
  exact (Post.bind (rel := RelB) h).imp fun k H1 ⟨A1, S1, k', g1, c1, r1, p1⟩ => by
    have r1 : k' = k := r1
    subst r1
    exact ⟨A1, S1, g1, c1, p1⟩
theorem t_not (ha : okT c X W a x) : okT c X W (.not a) (.UnaryOp .Not x pos) := by
  refine PT.mono (pt_not ha) fun σ H Q ⟨z, A, S, v, hv, hc, h⟩ => ?_
  simp only [ev] at h
  exact ⟨z, A, S, v, hv, hc, (post_tst_bind h).imp fun k H1 ⟨A1, S1, g1, c1, p1⟩ => p1.ok c1 rfl⟩
theorem pw_of_pt {op : BoolOp} {xs : List Expr} {t : TT} (h : PT X (.BoolOp op xs pos) t) : PW X (.BoolOp op xs pos) t := ⟨fun wh pins s σ H Q I q => by
  have := h.run pins s σ H Q I q
  unfold PySem.isTrue at this ⊢
  exact this⟩
theorem t_one {op : BoolOp} (ha : okT c X W a x) : okT c X W (.one a) (.BoolOp op [x] pos) := by
  have k : ∀ σ H Q, tT c X.K W (.one a) σ H Q → tT c X.K W a σ H Q := fun σ H Q ⟨z, A, S, v, hv, hc, h⟩ => by
    simp only [ev] at h
    exact ⟨z, A, S, v, hv, hc, h⟩
  cases op with
  | And => exact PT.mono (pw_and1 ⟨ha.run⟩).pt k
  | Or => exact PT.mono (pw_or1 ha).pt k
theorem t_and {xs : List Expr} (ha : okT c X W a x) (hb : okT c X W b (.BoolOp .And (y :: xs) pos)) : okT c X W (.and a b) (.BoolOp .And (x :: y :: xs) pos) := by
  refine PT.mono (pw_and ⟨ha.run⟩ (pw_of_pt hb)).pt fun σ H Q ⟨z, A, S, v, hv, hc, h⟩ => ?_
  simp only [ev] at h
  refine ⟨z, A, S, v, hv, hc, (post_tst_bind h).imp fun k H1 ⟨A1, S1, g1, c1, p1⟩ => ?_⟩
  cases k with
  | true => exact ⟨z, A1, S1, v, hv.grow g1, c1, p1⟩
  | false => exact p1.ok c1 rfl
theorem t_or {xs : List Expr} (ha : okT c X W a x) (hb : okT c X W b (.BoolOp .Or (y :: xs) pos)) : okT c X W (.or a b) (.BoolOp .Or (x :: y :: xs) pos) := by
  refine PT.mono (pw_or ha (pw_of_pt hb)).pt fun σ H Q ⟨z, A, S, v, hv, hc, h⟩ => ?_
  simp only [ev] at h
  refine ⟨z, A, S, v, hv, hc, (post_tst_bind h).imp fun k H1 ⟨A1, S1, g1, c1, p1⟩ => ?_⟩
  cases k with
  | false => exact ⟨z, A1, S1, v, hv.grow g1, c1, p1⟩
  | true => exact p1.ok c1 rfl
theorem pt_ifExp {tc ta tb : TT} (hc : PT X w tc) (ha : PT X x ta) (hb : PT X y tb) : PT X (.IfExp w x y pos) (fun σ H Q => tc σ H fun k H1 => if k = true then ta σ H1 Q else tb σ H1 Q) := by
  refine ⟨fun pins s σ H Q I h => ?_⟩
  unfold PySem.isTrue
  refine wpAny_bind (thn (hc.run pins s σ H _ I h) fun d s1 ⟨H1, I1, q1⟩ => ?_)
  cases d with
  | true => exact ha.run pins s1 σ H1 Q I1 q1
  | false => exact hb.run pins s1 σ H1 Q I1 q1
theorem t_ite (hc : okT c X W d w) (ha : okT c X W a x) (hb : okT c X W b y) : okT c X W (.ite d a b) (.IfExp w x y pos) := by
  refine PT.mono (pt_ifExp hc ha hb) fun σ H Q ⟨z, A, S, v, hv, hc, h⟩ => ?_
  simp only [ev] at h
  refine ⟨z, A, S, v, hv, hc, (post_tst_bind h).imp fun k H1 ⟨A1, S1, g1, c1, p1⟩ => ?_⟩
  cases k with
  | true => exact ⟨z, A1, S1, v, hv.grow g1, c1, p1⟩
  | false => exact ⟨z, A1, S1, v, hv.grow g1, c1, p1⟩
theorem s_nil : okEs c X W .nil [] := PA.mono pa_nil fun σ H Q ⟨z, A, S, v, hv, hc, h⟩ => Post.ok h hc Rels.nil
theorem s_cons {es : E} {xs : List Expr} (ha : okE c X W a x) (hr : okEs c X W es xs) (hs : starEach (x :: xs) X.env = (false, eval x X.env) :: starEach xs X.env) : okEs c X W (.cons a es) (x :: xs) := by
  refine PA.mono (pa_cons ha hr hs) fun σ H Q ⟨z, A, S, v, hv, hc, h⟩ => ?_
  simp only [evs] at h
  obtain ⟨z', A', S', v', hv', hc', p⟩ := tR_bind (rel := Rel) hv hc h
  refine ⟨z', A', S', v', hv', hc', p.imp fun x1 H1 ⟨A1, S1, d1, g1, e1, c1, r1, p1⟩ => ?_⟩
  refine ⟨z, A1, S1, v, e1, c1, (Post.map (rel := Rels (c.lay X.K z)) p1).imp fun xs2 H2 ⟨A2, S2, ds, g2, c2, r2, p2⟩ => ?_⟩
  exact p2.ok c2 (.cons (r1.grow g2) r2)
theorem sgn_vals {x : Str} : ∀ (n : Nat) {its : List Value}, its.length = n → (∀ (i : Nat) v, its[i]? = some v → ∃ ch u, x.cps[i]? = some ch ∧ v = Value.str ⟨#[ch]⟩ u) → n ≤ x.cps.size → Vals ((x.cps.toList.take n).map fun ch => V.str ⟨#[ch]⟩) its := by
  intro n
  induction n with
  | zero => intro its hl h hn; have := List.eq_nil_of_length_eq_zero hl; subst this; exact .nil
  | succ n ih =>
    intro its hl h hn
    have hi : n < its.length := by omega
    obtain ⟨ch, u, e1, e2⟩ := h n its[n] (List.getElem?_eq_getElem hi)
    have e3 : x.cps.toList.take (n + 1) = x.cps.toList.take n ++ [ch] := by
      rw [List.take_add_one, show x.cps.toList[n]? = some ch by simpa using e1]; rfl
    have e4 : its = its.take n ++ [its[n]] := by
      conv => lhs; rw [← List.take_append_drop n its]
      rw [List.drop_eq_getElem_cons hi, List.drop_eq_nil_of_le (by omega)]
    rw [e3, List.map_append, e4]
    refine Vals.append (ih (by simp; omega) (fun i v hv => ?_) (by omega)) (.cons ?_ .nil)
    · have : i < n := by
        have := (List.getElem?_eq_some_iff.mp hv).1
        simp at this; omega
      rw [List.getElem?_take_of_lt this] at hv
      exact h i v hv
    · rw [e2]; exact ⟨u, rfl⟩
theorem rels_sgn {L : Lay} {A : List Addr} {H : Hp} : ∀ t : List Nat, Rels L A H (t.map fun ch => D.str [ch]) (t.map fun ch => V.str (SS [ch]))
  | [] => .nil
  | ch :: t => .cons rel_str (rels_sgn t)
theorem star_strE {pins : List (Addr × Obj)} {σ : L2.St} {H : Hp} {s : Shared} (I : Inv X pins σ H s) (hd : X.A.handled = none) (z : Str) (tk : Tok) (hz : z.cps.size ≤ sizeLine) {E : Value → Shared → Prop} {Q : List Value → Shared → Prop} (hQ : ∀ us s', Inv X pins σ H s' → Vals (z.cps.toList.map fun ch => V.str ⟨#[ch]⟩) us → Q us s') :
    PySem.W.StarOf (model X.prog X.w) X.A E (.str z tk) Q s := by
  unfold PySem.W.StarOf notIterableAtAll
  refine wpAny_bind (wpAny_specialOf (T := "str") (v := .str z tk) rfl PySem.F.slot_str_iter.lookup (wpAny_pure ⟨rfl, ?_⟩))
  refine wpAny_collect_str hd z tk (fun s' acc hk hg hdr hos hacc => ?_) hz
  obtain ⟨h', g', d', tk', os'⟩ := s'
  have e1 : g' = s.gens := hg
  have e2 : d' = s.drawn := hdr
  have e3 : os' = s.os := hos
  subst e1 e2 e3
  refine hQ _ _ (I.kept (t' := tk') hk) ?_
  have := sgn_vals (x := z) z.cps.size (its := acc.toList) (by rw [Array.length_toList]; exact hacc.1) (fun i v hv => by
    rw [Array.getElem?_toList] at hv
    exact hacc.2 i v hv) (Nat.le_refl _)
  rw [List.take_of_length_le (by simp)] at this
  exact this
def tStarE (K : PySem.W.Frag) (te : TE) (t : TA) : TA := fun σ H Q => te σ H fun x H1 => (∃ p xs, x = V.ref p ∧ (SqT K H1 p xs ∨ SqL K H1 p xs) ∧ t σ H1 fun ys H2 => Q (xs ++ ys) H2) ∨ ∃ z : Str, x = .str z ∧ z.cps.size ≤ sizeLine ∧ t σ H1 fun ys H2 => Q ((z.cps.toList.map fun ch => V.str ⟨#[ch]⟩) ++ ys) H2
theorem pa_starE {es : List Expr} {te : TE} {t : TA} {p : Pos} (hd : X.A.handled = none) (he : PE X x te) (hr : PA X es t) (hs : starEach (.Starred x p :: es) X.env = (true, eval x X.env) :: starEach es X.env := by rfl) : PA X (.Starred x p :: es) (tStarE X.K te t) := by
  refine ⟨fun pos pins s σ H Q I h => ?_⟩
  refine PySem.W.items_star (thn (he.run pins s σ H _ I h) fun v s1 ⟨y, H1, I1, ry, hq⟩ => ?_) hs
  rcases hq with ⟨a, xs, ey, hx, q⟩ | ⟨z, ey, hz, q⟩
  · subst ey
    obtain rfl : v = Value.ref a := ry
    refine StX.star_any I1 hx fun us s2 I2 rv => ?_
    exact thn (hr.run pos pins s2 σ H1 _ I2 q) fun ws s3 ⟨vs, H3, I3, r3, q3⟩ => ⟨xs ++ vs, H3, I3, rv.append r3, q3⟩
  · subst ey
    obtain ⟨tk, rfl⟩ := ry
    refine star_strE I1 hd z tk hz fun us s2 I2 rv => ?_
    exact thn (hr.run pos pins s2 σ H1 _ I2 q) fun ws s3 ⟨vs, H3, I3, r3, q3⟩ => ⟨_ ++ vs, H3, I3, rv.append r3, q3⟩
theorem s_star {es : E} {xs : List Expr} {p' : Pos} (g : Good c N X sc W) (ha : okE c X W a x) (hr : okEs c X W es xs) : okEs c X W (.star a es) (.Starred x p' :: xs) := by
  refine PA.mono (pa_starE g.room.hd ha hr) fun σ H Q ⟨z, A, S, v, hv, hc, h⟩ => ?_
  simp only [evs] at h
  obtain ⟨z', A', S', v', hv', hc', p⟩ := tR_bind (rel := Rel) hv hc h
  refine ⟨z', A', S', v', hv', hc', p.imp fun x1 H1 ⟨A1, S1, d1, g1, e1, c1, r1, p1⟩ => ?_⟩
  have wd := view_rel c1 r1
  cases hd : view S1 d1 with
  | tup ds =>
    rw [hd] at wd p1
    obtain ⟨l, vs, e, q, r⟩ := wd
    refine .inl ⟨l, vs, e, .inl q.t, z, A1, S1, v, e1, c1, (Post.map (rel := Rels (c.lay X.K z)) p1).imp fun xs2 H2 ⟨A2, S2, ds2, g2, c2, r2, p2⟩ => ?_⟩
    exact p2.ok c2 ((r.grow g2).app r2)
  | lst ds =>
    rw [hd] at wd p1
    obtain ⟨l, vs, e, q, r⟩ := wd
    refine .inl ⟨l, vs, e, .inr q, z, A1, S1, v, e1, c1, (Post.map (rel := Rels (c.lay X.K z)) p1).imp fun xs2 H2 ⟨A2, S2, ds2, g2, c2, r2, p2⟩ => ?_⟩
    exact p2.ok c2 ((r.grow g2).app r2)
  | str t =>
    rw [hd] at wd p1
    have p1 : Post (c.lay X.K z) W A1 H1 (Rels (c.lay X.K z)) (match (if t.length ≤ line then some (t.map fun ch => D.str [ch]) else none) with
      | some xs => (evs c.G c.κ es v S1).map (xs ++ ·)
      | none => .no) Q := p1
    by_cases hz : t.length ≤ line
    · rw [if_pos hz] at p1
      refine .inr ⟨SS t, wd.str, by rw [← line_eq]; simpa [SS] using hz, z, A1, S1, v, e1, c1, (Post.map (rel := Rels (c.lay X.K z)) p1).imp fun xs2 H2 ⟨A2, S2, ds2, g2, c2, r2, p2⟩ => ?_⟩
      have := p2.ok c2 ((rels_sgn t).app r2)
      simpa [SS] using this
    · rw [if_neg hz] at p1; exact (show False from p1).elim
  | _ => rw [hd] at p1; exact (show False from p1).elim
theorem s_tup {es : E} {xs : List Expr} {k : Nat} (ha : okEs c X W es xs) : okE c X W (.tup es) (.Tuple xs k pos) := by
  refine PE.mono (pe_tup ha) fun σ H Q ⟨z, A, S, v, hv, hc, h⟩ => ?_
  simp only [ev] at h
  obtain ⟨z', A', S', v', hv', hc', p⟩ := tR_bind (rel := Rels) hv hc h
  refine ⟨z', A', S', v', hv', hc', p.imp fun x1 H1 ⟨A1, S1, ds, g1, e1, c1, r1, p1⟩ => ?_⟩
  by_cases hz : ds.length ≤ line
  · rw [if_pos hz] at p1
    exact ⟨by rw [← r1.len, ← line_eq]; exact hz, fun p hp => post_tup p1 c1 r1 hp⟩
  · rw [if_neg hz] at p1; exact p1.elim
theorem s_lst {m : Bool} {es : E} {xs : List Expr} (ha : okEs c X W es xs) : okE c X W (.lst m es) (.List xs pos) := by
  refine PE.mono (pe_lst ha) fun σ H Q ⟨z, A, S, v, hv, hc, h⟩ => ?_
  simp only [ev] at h
  obtain ⟨z', A', S', v', hv', hc', p⟩ := tR_bind (rel := Rels) hv hc h
  refine ⟨z', A', S', v', hv', hc', p.imp fun x1 H1 ⟨A1, S1, ds, g1, e1, c1, r1, p1⟩ => ?_⟩
  by_cases hz : ds.length ≤ line
  · rw [if_pos hz] at p1
    exact ⟨by rw [← r1.len, ← line_eq]; exact hz, fun p hp => post_alloc p1 c1 r1 hp⟩
  · rw [if_neg hz] at p1; exact p1.elim
end
end EV
set_option Elab.async false
set_option linter.all false
set_option maxRecDepth 100000
set_option maxHeartbeats 2000000
namespace EV
open PySem PySem.Spec PyProof.Rows L2
theorem sub_builtin {prog : Program} {w : World} {A : Around} {E : Value → Shared → Prop} {s : Shared} {value slice : Expr} {o i : Value} {T id : String} {Q : Value → Shared → Prop} (hT : s.TypeIs o T)
    (hl : typeLookup (.type T) "__getitem__" = pure (some (.builtin id))) (h : wpAny (model prog w) A (getItem o i) Q E s) (hs : subscripted slice false o i = operate [o, i] (getItem o i)) :
    wpAny (model prog w) A (subscriptTail value slice o i) Q E s := by
  unfold subscriptTail
  refine wpAny_bind ?_
  rw [getitemInPython_of_ne hT.not_modules]
  refine wpAny_bind (wpAny_specialOf hT hl ?_)
  have fin : wpAny (model prog w) A (subscripted slice false o i) (fun r s₃ => wpAny (model prog w) A (letTemporaryGo value o r >>= fun _ => pure r) Q E s₃) E s := by
    rw [hs]
    exact wpAny_operating (wpAny_mono h (fun r s₃ h₃ => wpAny_bind (wpAny_letTemporaryGo (wpAny_pure h₃))) fun _ _ x => x)
  first
    | exact wpAny_pure (wpAny_bind fin)
    | exact wpAny_bind (wpAny_pure (wpAny_bind fin))
    | exact wpAny_bind fin
theorem ixN_eq (n : Nat) (i : Int) : L2.ixN n i = EV.ixN n i := rfl
section
variable {c : Cf} {N : List Str} {X : Cx} {sc : Sc} {W : XK} {a b d e : E} {x y w : Expr} {pos : Pos}
def rIdx (c : Cf) (K : PySem.W.Frag) (W : XK) : R2 := fun x y H Q => ∃ z A S d e, Cells (c.lay K z) A S H ∧ RelW (c.lay K z) A H d x ∧ Rel (c.lay K z) A H e y ∧ Post (c.lay K z) W A H (Rel (c.lay K z)) (R.opt (idxD d e) S) Q
theorem at_rel {L : Lay} {A : List Addr} {H : Hp} {ds : List D} {vs : List V} {i : Int} {d : D} (r : Rels L A H ds vs) (h : EV.atI ds i = some d) : ∃ v, L2.atI vs i = some v ∧ Rel L A H d v := by
  unfold EV.atI at h
  rw [r.len] at h
  unfold L2.atI
  rw [ixN_eq]
  cases e : EV.ixN vs.length i with
  | none => rw [e] at h; cases h
  | some j =>
    rw [e] at h
    obtain ⟨v, e2, q⟩ := r.get (i := j) h
    exact ⟨v, e2, q⟩
theorem lookK_rel {L : Lay} {A : List Addr} {H : Hp} {k : DK} {d : D} : ∀ {ks : List DK} {ds : List D} {vs : List V}, Rels L A H ds vs → lookK k ks ds = some d → ∃ v, valV ((ks.map dkK).zip vs) (dkK k) = some v ∧ Rel L A H d v
  | [], _, _, _, h => by simp [lookK] at h
  | q :: ks, [], _, _, h => by simp [lookK] at h
  | q :: ks, d0 :: ds, _, r, h => by
    obtain ⟨v, t, e, h1, h2⟩ := (show ∃ v r, _ from by simpa only [Rels] using r)
    subst e
    rw [valV_cons]
    simp only [lookK] at h
    by_cases hq : q = k
    · subst hq
      have : dkEq q q = true := by cases q <;> simp [dkEq]
      rw [if_pos this] at h
      cases h
      exact ⟨v, if_pos rfl, h1⟩
    · have : ¬ dkEq q k = true := fun z => hq (by
        cases q <;> cases k <;> simp only [dkEq, decide_eq_true_eq] at z
        · rw [z]
        · cases z
        · cases z
        · rw [z])
      rw [if_neg this] at h
      rw [if_neg hq]
      exact lookK_rel h2 h
theorem ix_all (hu : X.A.units + 1 < cLine) : IxR X (rIdx c X.K W) := by
  intro value slice pins s σ H x y v u Q I rx ry h hs
  obtain ⟨z, A, S, d, e, hc, wd, re, p⟩ := h
  obtain ⟨r, hr, p0⟩ := p.opt
  cases d with
  | tup ds =>
    cases e with
    | int i =>
      obtain ⟨l, vs, rfl, q, rr⟩ := wd
      rw [re.w.int] at ry
      obtain ⟨v', e1, r1⟩ := at_rel rr hr
      exact ix_tup value slice pins s σ H _ _ v u Q I rx ry ⟨l, vs, i, v', rfl, rfl, q.t, e1, p0.ok hc r1⟩ hs
    | _ => cases hr
  | lst ds =>
    cases e with
    | int i =>
      obtain ⟨l, vs, rfl, q, rr⟩ := wd
      rw [re.w.int] at ry
      obtain ⟨v', e1, r1⟩ := at_rel rr hr
      exact ix_list value slice pins s σ H _ _ v u Q I rx ry ⟨l, vs, i, v', rfl, rfl, q, e1, p0.ok hc r1⟩ hs
    | _ => cases hr
  | str t =>
    cases e with
    | int i =>
      rw [wd.str] at rx
      rw [re.w.int] at ry
      have hr : (if t.length ≤ line then (EV.atI t i).map fun c => D.str [c] else none) = some r := hr
      by_cases hz : t.length ≤ line
      · rw [if_pos hz, Option.map_eq_some_iff] at hr
        obtain ⟨k, hk, rfl⟩ := hr
        exact ix_str value slice pins s σ H _ _ v u Q I rx ry ⟨SS t, i, k, rfl, rfl, by rw [SS_len, ← line_eq]; exact hz, hk, p0.ok hc rel_str⟩ hs
      · rw [if_neg hz] at hr; cases hr
    | _ => cases hr
  | dct ks ds =>
    obtain ⟨l, vs, rfl, hl, hlen, nd, rr⟩ := wd
    have hr : ((keyOf e).bind fun q => lookK q ks ds) = some r := hr
    rw [Option.bind_eq_some_iff] at hr
    obtain ⟨k, hk, hr⟩ := hr
    obtain ⟨v', e1, r1⟩ := lookK_rel rr hr
    have ey := keyOf_rel hk re.w
    subst ey
    cases (show v = Value.ref l from rx)
    have g : DGet H l (kV (dkK k)) _ := dget_r hl
    rw [e1] at g
    exact sub_builtin (dict_typeIs I g) PySem.F.slot_dict_getitem.lookup (d_getItem hu I g ry fun w' s3 I3 rw' => ⟨v', H, I3, rw', p0.ok hc r1⟩) hs
  | _ => cases hr
theorem s_idx (hu : X.A.units + 1 < cLine) (ha : okE c X W a x) (hb : okE c X W b y) (hs : isSlice y = false) : okE c X W (.idx a b) (.Subscript x y pos) := by
  refine PE.mono (pe_ix (ix_all (c := c) (W := W) hu) ha hb (plainIx_of hs)) fun σ H Q ⟨z, A, S, v, hv, hc, h⟩ => ?_
  simp only [ev] at h
  obtain ⟨z', A', S', v', hv', hc', p⟩ := tR_bind (rel := Rel) hv hc h
  refine ⟨z', A', S', v', hv', hc', p.imp fun x1 H1 ⟨A1, S1, d1, g1, e1, c1, r1, p1⟩ => ?_⟩
  obtain ⟨z2, A2, S2, v2, hv2, hc2, p2⟩ := tR_bind (rel := Rel) e1 c1 p1
  refine ⟨z2, A2, S2, v2, hv2, hc2, p2.imp fun x2 H2 ⟨A3, S3, d2, g2, e2, c2, r2, p3⟩ => ?_⟩
  exact ⟨z, A3, S3, view S3 d1, d2, c2, view_rel c2 (r1.grow g2), r2, p3⟩
def rSlD (c : Cf) (K : PySem.W.Frag) (W : XK) (m : Bool) : V → Option Int → Option Int → Hp → VK → Prop := fun x lo hi H Q => ∃ z A S d, Cells (c.lay K z) A S H ∧ RelW (c.lay K z) A H d x ∧
  Post (c.lay K z) W A H (Rel (c.lay K z)) (match slL 0 d lo hi with
      | some xs => alloc m xs S
      | none => R.opt (slD 0 d lo hi) S) Q
theorem sIx_eq (n d : Nat) (o : Option Int) (hd : d ≤ n) : HT.sIx n d o = EV.sIx n d o := by
  cases o <;> rfl
theorem cut_rels {L : Lay} {A : List Addr} {H : Hp} {ds : List D} {vs : List V} {lo hi : Option Int} (r : Rels L A H ds vs) : Rels L A H (cut ds lo hi) (cutV vs lo hi) := by
  unfold cut cutV
  rw [sIx_eq _ _ _ (Nat.zero_le _), sIx_eq _ _ _ (Nat.le_refl _), r.len]
  exact (r.drop _).take _
theorem sl_all {m : Bool} : SlR X (rSlD c X.K W m) := by
  intro pins s σ H x v vl vu lo hi sl Q I rx hs pl pu h
  obtain ⟨z, A, S, d, hc, wd, p⟩ := h
  cases d with
  | tup ds =>
    obtain ⟨l, vs, rfl, q, rr⟩ := wd
    have p : Post (c.lay X.K z) W A H (Rel _) (.ok (D.tup (cut ds lo hi)) S) Q := p
    refine sl_tupA pins s σ H _ v vl vu lo hi sl Q I rx hs pl pu ⟨l, vs, rfl, q.t, fun ⟨e1, e2⟩ => ?_, fun _ pn hp => post_tup p hc (cut_rels rr) hp⟩
    refine post_tup_of p hc q ?_
    have e : cut ds lo hi = ds := by
      unfold cut
      rw [rr.len, ← sIx_eq _ _ _ (Nat.zero_le _), ← sIx_eq _ _ _ (Nat.le_refl _), e1, e2, List.drop_zero, Nat.sub_zero, ← rr.len, List.take_length]
    rw [e]; exact rr
  | lst ds =>
    obtain ⟨l, vs, rfl, q, rr⟩ := wd
    have p : Post (c.lay X.K z) W A H (Rel _) (alloc m (cut ds lo hi) S) Q := p
    exact sl_list pins s σ H _ v vl vu lo hi sl Q I rx hs pl pu ⟨l, vs, rfl, q, fun pn hp => post_alloc p hc (cut_rels rr) hp⟩
  | str t =>
    rw [wd.str] at rx
    have p : Post (c.lay X.K z) W A H (Rel _) (R.opt (if t.length ≤ line then some (D.str (cut t lo hi)) else none) S) Q := p
    by_cases hz : t.length ≤ line
    · rw [if_pos hz] at p
      refine sl_str pins s σ H _ v vl vu lo hi sl Q I rx hs pl pu ⟨SS t, rfl, by rw [SS_len, ← line_eq]; exact hz, ?_⟩
      have e : cutS (SS t) lo hi = SS (cut t lo hi) := by
        unfold cutS cut
        rw [SS_len, sIx_eq _ _ _ (Nat.zero_le _), sIx_eq _ _ _ (Nat.le_refl _)]
      rw [e]
      exact p.ok hc rel_str
    · rw [if_neg hz] at p; exact p.elim
  | _ => exact p.elim
abbrev RelEq {α : Type} : Lay → List Addr → Hp → α → α → Prop := fun _ _ _ a b => a = b
def tP (c : Cf) (K : PySem.W.Frag) (W : XK) (e : E) : TO := tR c K W RelEq (fun v S => partR (isNil e) (ev c.G c.κ e v S) S)
theorem PO.mono {X : Cx} {e : Option Expr} {t t' : TO} (h : PO X e t) (k : ∀ σ H Q, t' σ H Q → t σ H Q) : PO X e t' := ⟨fun pins s σ H Q I q => h.run pins s σ H Q I (k σ H Q q)⟩
theorem p_none : PO X none (tP c X.K W .nil) := PO.mono po_none fun σ H Q ⟨z, A, S, v, hv, hc, h⟩ => Post.ok h hc rfl
theorem p_some (h : okE c X W e x) (hn : isNil e = false) : PO X (some x) (tP c X.K W e) := by
  refine PO.mono (po_some h) fun σ H Q ⟨z, A, S, v, hv, hc, h⟩ => ?_
  simp only [partR, hn] at h
  obtain ⟨z', A', S', v', hv', hc', p⟩ := tR_bind (rel := Rel) hv hc h
  refine ⟨z', A', S', v', hv', hc', p.imp fun x1 H1 ⟨A1, S1, d1, g1, e1, c1, r1, p1⟩ => ?_⟩
  cases d1 with
  | int i => exact ⟨i, r1.w.int, p1.ok c1 rfl⟩
  | _ => exact p1.elim
theorem s_sl0 {m : Bool} {lo hi : Option Expr} {p2 : Pos} {d e : E} (ha : okE c X W a x) (hl : PO X lo (tP c X.K W d)) (hh : PO X hi (tP c X.K W e)) : okE c X W (.sl m 0 a d e) (.Subscript x (.Slice lo hi none p2) pos) := by
  refine PE.mono (pe_slice (sl_all (c := c) (W := W) (m := m)) ha hl hh) fun σ H Q ⟨z, A, S, v, hv, hc, h⟩ => ?_
  simp only [ev] at h
  obtain ⟨z', A', S', v', hv', hc', p⟩ := tR_bind (rel := Rel) hv hc h
  refine ⟨z', A', S', v', hv', hc', p.imp fun x1 H1 ⟨A1, S1, d1, g1, e1, c1, r1, p1⟩ => ?_⟩
  obtain ⟨z2, A2, S2, v2, hv2, hc2, p2⟩ := tR_bind (rel := RelEq) (f := fun v S => partR (isNil d) (ev c.G c.κ d v S) S) e1 c1 p1
  refine ⟨z2, A2, S2, v2, hv2, hc2, p2.imp fun l H2 ⟨A3, S3, l', g2, e2, c2, r2, p3⟩ => ?_⟩
  obtain rfl : l' = l := r2
  obtain ⟨z3, A4, S4, v3, hv3, hc3, p4⟩ := tR_bind (rel := RelEq) (f := fun v S => partR (isNil e) (ev c.G c.κ e v S) S) e2 c2 p3
  refine ⟨z3, A4, S4, v3, hv3, hc3, p4.imp fun h' H3 ⟨A5, S5, h'', g3, e3, c3, r3, p5⟩ => ?_⟩
  obtain rfl : h'' = h' := r3
  exact ⟨z, A5, S5, view S5 d1, c3, view_rel c3 ((r1.grow g2).grow g3), p5⟩
theorem s_cmpD {op : CmpOp} (hr : X.A.units + 65 < cLine) (ha : okE c X W a x) (hb : okE c X W b y) (hm : behindInMarks op y = false) {t : TE} (ht : ∀ σ H Q, t σ H Q → ∃ z A S v, EnvOk (c.lay X.K z) A H v σ ∧ Cells (c.lay X.K z) A S H ∧
      Post (c.lay X.K z) W A H (Rel (c.lay X.K z)) ((ev c.G c.κ a v S).bind fun x s => (ev c.G c.κ b v s).bind fun y s => R.opt ((cmpO op (view s x) (view s y)).map .bl) s) Q) : PE X (.Compare x [op] [y] pos) t := by
  refine PE.mono (pe_cmpR (OpR.ex fun z : List Addr => op_cmp (z := z) (cad := c.cad) (cfs := c.cfs) (W := W) hr op) ha hb hm) fun σ H Q h => ?_
  obtain ⟨z, A, S, v, hv, hc, h⟩ := ht σ H Q h
  obtain ⟨z', A', S', v', hv', hc', p⟩ := tR_bind (rel := Rel) hv hc h
  refine ⟨z', A', S', v', hv', hc', p.imp fun x1 H1 ⟨A1, S1, d1, g1, e1, c1, r1, p1⟩ => ?_⟩
  obtain ⟨z2, A2, S2, v2, hv2, hc2, p2⟩ := tR_bind (rel := Rel) e1 c1 p1
  refine ⟨z2, A2, S2, v2, hv2, hc2, p2.imp fun x2 H2 ⟨A3, S3, d2, g2, e2, c2, r2, p3⟩ => ?_⟩
  exact ⟨z, A3, S3, view S3 d1, view S3 d2, c2, view_rel c2 (r1.grow g2), view_rel c2 r2, p3⟩
theorem s_cmp2 {o p : CmpOp} (hr : X.A.units + 65 < cLine) (ha : okE c X W a x) (hb : okE c X W b y) (hd : okE c X W d w) (hm : lastMarks [o, p] [y, w] = false) : okE c X W (.cmp2 o p a b d) (.Compare x [o, p] [y, w] pos) := by
  refine PE.mono (pe_chain (OpR.ex fun z : List Addr => op_cmp (z := z) (cad := c.cad) (cfs := c.cfs) (W := W) hr o) (OpR.ex fun z : List Addr => op_cmp (z := z) (cad := c.cad) (cfs := c.cfs) (W := W) hr p) ha hb hd hm) fun σ H Q ⟨z, A, S, v, hv, hc, h⟩ => ?_
  simp only [ev] at h
  obtain ⟨z', A', S', v', hv', hc', q⟩ := tR_bind (rel := Rel) hv hc h
  refine ⟨z', A', S', v', hv', hc', q.imp fun x1 H1 ⟨A1, S1, d1, g1, e1, c1, r1, p1⟩ => ?_⟩
  obtain ⟨z2, A2, S2, v2, hv2, hc2, p2⟩ := tR_bind (rel := Rel) e1 c1 p1
  refine ⟨z2, A2, S2, v2, hv2, hc2, p2.imp fun x2 H2 ⟨A3, S3, d2, g2, e2, c2, r2, p3⟩ => ?_⟩
  refine ⟨z, A3, S3, d1, d2, c2, (r1.grow g2).w, r2.w, ?_⟩
  cases hk : cmpO o d1 d2 with
  | none => rw [hk] at p3; exact p3.elim
  | some k =>
    rw [hk] at p3
    intro A4 H4 b4 g4 c4 r4
    obtain rfl : b4 = V.bl k := r4.w.bl
    refine ⟨k, rfl, ?_⟩
    cases k with
    | false =>
      have p3 : Post (c.lay X.K z) W A3 H2 (Rel (c.lay X.K z)) (.ok (.bl false) S3) Q := p3
      exact p3 A4 H4 _ g4 c4 rel_bl
    | true =>
      have p3 : Post (c.lay X.K z) W A3 H2 (Rel (c.lay X.K z)) ((ev c.G c.κ d v S3).bind fun z s => R.opt ((cmpO p d2 z).map .bl) s) Q := p3
      obtain ⟨z5, A5, S5, v5, hv5, hc5, p5⟩ := tR_bind (rel := Rel) (e2.grow g4) c4 (p3.later g4)
      refine ⟨z5, A5, S5, v5, hv5, hc5, p5.imp fun x6 H6 ⟨A6, S6, d6, g6, e6, c6, r6, p6⟩ => ?_⟩
      exact ⟨z, A6, S6, d2, d6, c6, ((r2.grow g4).grow g6).w, r6.w, p6⟩
end
end EV
set_option Elab.async false
set_option linter.all false
set_option maxRecDepth 100000
set_option maxHeartbeats 2000000
namespace EV
open PySem PySem.Spec PyProof.Rows L2
def isStar : Expr → Bool
  | .Starred .. => true
  | _ => false
theorem starEach_cons {x : Expr} {xs : List Expr} {env : PySem.Env} (h : isStar x = false) : starEach (x :: xs) env = (false, eval x env) :: starEach xs env := by
  cases x <;> first | rfl | cases h
theorem noStar_any {pos : Pos} {env : PySem.Env} : ∀ {xs : List Expr}, xs.all (fun x => !isStar x) = true → (backTo pos (starEach xs env)).any (·.1) = false
  | [], _ => rfl
  | x :: xs, h => by
    rw [List.all_cons, Bool.and_eq_true, Bool.not_eq_true'] at h
    rw [starEach_cons h.1]
    show (false || (backTo pos (starEach xs env)).any (·.1)) = false
    rw [noStar_any h.2]; rfl
theorem noStar_all {pos : Pos} {env : PySem.Env} {xs : List Expr} (h : xs.all (fun x => !isStar x) = true) : (backTo pos (starEach xs env)).all (!·.1) = true := by
  have := noStar_any (pos := pos) (env := env) h
  rw [List.all_eq_not_any_not]
  simpa using this
def kwNames (kws : List Keyword) : Option (List Str) := kws.mapM fun k => k.arg
theorem kw_all {pos : Pos} {env : PySem.Env} : ∀ {kws : List Keyword} {ks : List Str}, kwNames kws = some ks → (backToKw pos (keywordEach kws env)).all (·.1.isSome) = true ∧ (backToKw pos (keywordEach kws env)).filterMap (·.1) = ks ∧ (backToKw pos (keywordEach kws env)).any (·.1.isNone) = false ∧ ks.length = kws.length
  | [], ks, h => by
    simp only [kwNames, List.mapM_nil, Option.pure_def, Option.some.injEq] at h
    subst h; exact ⟨rfl, rfl, rfl, rfl⟩
  | ⟨some n, e, p⟩ :: kws, ks, h => by
    simp only [kwNames, List.mapM_cons, Option.bind_eq_bind, Option.bind_some, Option.pure_def] at h
    rw [Option.bind_eq_some_iff] at h
    obtain ⟨ns, h1, h2⟩ := h
    cases h2
    obtain ⟨i1, i2, i3, i4⟩ := kw_all (pos := pos) (env := env) (kws := kws) (ks := ns) h1
    refine ⟨?_, ?_, ?_, by simp [i4]⟩
    · show (true && _) = true; rw [Bool.true_and]; exact i1
    · show (n :: _) = _; rw [← i2]; rfl
    · show (false || _) = false; rw [Bool.false_or]; exact i3
  | ⟨none, e, p⟩ :: kws, ks, h => by simp [kwNames] at h
structure PAK (X : Cx) (xs : List Expr) (kws : List Keyword) (t : TA) : Prop where
  run : ∀ (pos : Pos) (pins : List (Addr × Obj)) (s : Shared) (σ : L2.St) (H : Hp) (Q : List V → Hp → Prop), Inv X pins σ H s → t σ H Q →
    wpAny (model X.prog X.w) X.A (spliced (backTo pos (starEach xs X.env))) (fun us s1 => wpAny (model X.prog X.w) X.A (evalAll ((backToKw pos (keywordEach kws X.env)).map (·.2)))
      (fun ws s2 => us.length = xs.length ∧ ws.length = kws.length ∧ AP X pins σ Q (us ++ ws) s2) X.xe s1) X.xe s
  run0 : xs = [] → ∀ (pos : Pos) (pins : List (Addr × Obj)) (s : Shared) (σ : L2.St) (H : Hp) (Q : List V → Hp → Prop), Inv X pins σ H s → t σ H Q →
    wpAny (model X.prog X.w) X.A (evalAll ((backToKw pos (keywordEach kws X.env)).map (·.2))) (fun ws s2 => ws.length = kws.length ∧ AP X pins σ Q ws s2) X.xe s
section
variable {c : Cf} {N : List Str} {X : Cx} {sc : Sc} {W : XK} {a b d e : E} {x y w : Expr} {pos : Pos}
abbrev okA (c : Cf) (X : Cx) (W : XK) (es : E) (xs : List Expr) (kws : List Keyword) : Prop := PAK X xs kws (tEs c X.K W es)
theorem a_of0 {kws : List Keyword} {t : TA} (h : ∀ (pos : Pos) (pins : List (Addr × Obj)) (s : Shared) (σ : L2.St) (H : Hp) (Q : List V → Hp → Prop), Inv X pins σ H s → t σ H Q →
    wpAny (model X.prog X.w) X.A (evalAll ((backToKw pos (keywordEach kws X.env)).map (·.2))) (fun ws s2 => ws.length = kws.length ∧ AP X pins σ Q ws s2) X.xe s) : PAK X [] kws t :=
  ⟨fun pos pins s σ H Q I q => Calls.spliced_nil (thn (h pos pins s σ H Q I q) fun ws s2 ⟨l, p⟩ => ⟨rfl, l, p⟩), fun _ => h⟩
theorem a_nil : okA c X W .nil [] [] := a_of0 fun pos pins s σ H Q I ⟨z, A, S, v, hv, hc, h⟩ => wpAny_evalAll_nil ⟨rfl, [], H, I, .nil, Post.ok h hc Rels.nil⟩
theorem a_kw {es : E} {kws : List Keyword} {nm : Option Str} {kp : Pos} (ha : okE c X W a x) (hr : okA c X W es [] kws) : okA c X W (.cons a es) [] (⟨nm, x, kp⟩ :: kws) := by
  refine a_of0 fun pos pins s σ H Q I ⟨z, A, S, v, hv, hc, h⟩ => ?_
  simp only [evs] at h
  have q := tR_bind (rel := Rel) hv hc h
  show wpAny _ _ (evalAll ((do let v ← eval x X.env; standAt pos; pure v) :: (backToKw pos (keywordEach kws X.env)).map (·.2))) _ _ s
  refine wpAny_evalAll_cons (wpAny_bind (thn (ha.run pins s σ H _ I q) fun u s1 ⟨x1, H1, I1, r1, A1, S1, d1, g1, e1, c1, rr1, p1⟩ => wpAny_bind (wpAny_standAt (wpAny_pure ?_))))
  have q2 : tEs c X.K W es σ H1 (fun vs H2 => Q (x1 :: vs) H2) := ⟨z, A1, S1, v, e1, c1, (Post.map (rel := Rels (c.lay X.K z)) p1).imp fun xs2 H2 ⟨A2, S2, ds, g2, c2, r2, p2⟩ => p2.ok c2 (.cons (rr1.grow g2) r2)⟩
  exact thn (hr.run0 rfl pos pins s1 σ H1 _ I1 q2) fun ws s2 ⟨l2, vs, H2, I2, r2, q3⟩ => ⟨by simp [l2], x1 :: vs, H2, I2, .cons r1 r2, q3⟩
theorem a_cons {es : E} {xs : List Expr} {kws : List Keyword} (ha : okE c X W a x) (hr : okA c X W es xs kws) (hs : isStar x = false) : okA c X W (.cons a es) (x :: xs) kws := by
  refine ⟨fun pos pins s σ H Q I ⟨z, A, S, v, hv, hc, h⟩ => ?_, fun e => (nomatch e)⟩
  simp only [evs] at h
  have q := tR_bind (rel := Rel) hv hc h
  rw [starEach_cons hs]
  show wpAny _ _ (spliced ((false, eval x X.env) :: backTo pos (starEach xs X.env))) _ _ s
  refine Calls.spliced_cons (thn (ha.run pins s σ H _ I q) fun u s1 ⟨x1, H1, I1, r1, A1, S1, d1, g1, e1, c1, rr1, p1⟩ => ?_)
  have q2 : tEs c X.K W es σ H1 (fun vs H2 => Q (x1 :: vs) H2) := ⟨z, A1, S1, v, e1, c1, (Post.map (rel := Rels (c.lay X.K z)) p1).imp fun xs2 H2 ⟨A2, S2, ds, g2, c2, r2, p2⟩ => p2.ok c2 (.cons (rr1.grow g2) r2)⟩
  refine thn (hr.run pos pins s1 σ H1 _ I1 q2) fun us s2 h2 => ?_
  exact thn h2 fun ws s3 ⟨l1, l2, vs, H2, I2, r2, q3⟩ => ⟨by simp [l1], l2, x1 :: vs, H2, I2, .cons r1 r2, q3⟩
theorem callWith_ak {f : Value} {first : List Value} {xs : List Expr} {kws : List Keyword} {ks : List Str} {t : TA} {Q : Value → Shared → Prop} {pins : List (Addr × Obj)} {s : Shared} {σ : L2.St} {H : Hp} {Qa : List V → Hp → Prop} (I : Inv X pins σ H s)
    (kp : PySem.W.keepIn X.K f = true) (hn : xs.all (fun x => !isStar x) = true) (hks : kwNames kws = some ks) (ha : PAK X xs kws t) (q : t σ H Qa)
    (h : ∀ us ws vs s2 H2, us.length = xs.length → ws.length = ks.length → Inv X pins σ H2 s2 → Vals vs (us ++ ws) → Qa vs H2 → wpAny (model X.prog X.w) X.A (call f (first ++ us) (ks.zip ws)) Q X.xe s2) :
    wpAny (model X.prog X.w) X.A (callWith pos f first (backTo pos (starEach xs X.env)) (backToKw pos (keywordEach kws X.env))) Q X.xe s := by
  obtain ⟨k1, k2, k3, k4⟩ := kw_all (pos := pos) (env := X.env) hks
  cases xs with
  | nil =>
    refine PySem.W.callWith_KW0 I.kIn kp k1 ?_ (by rw [k3]; rfl)
    rw [k2]
    exact thn (ha.run0 rfl pos pins s σ H _ I q) fun ws s2 ⟨l, vs, H2, I2, r, q2⟩ => ⟨I2.kIn, h [] ws vs s2 H2 rfl (by rw [l, k4]) I2 r q2⟩
  | cons y ys =>
    have hy : isStar y = false := by
      rw [List.all_cons, Bool.and_eq_true, Bool.not_eq_true'] at hn; exact hn.1
    refine PySem.W.callWith_KW I.kIn kp k1 ?_ (by rw [noStar_any hn, k3]; rfl) (starEach_cons hy)
    rw [k2]
    exact thn (ha.run pos pins s σ H _ I q) fun us s1 h1 => thn h1 fun ws s2 ⟨l1, l2, vs, H2, I2, r, q2⟩ => ⟨I2.kIn, h us ws vs s2 H2 l1 (by rw [l2, k4]) I2 r q2⟩
def permV (pm : List Nat) (vs : List Value) : Option (List Value) := pm.mapM fun i => vs[i]?
theorem perm_rels {L : Lay} {A : List Addr} {H : Hp} {ds : List D} {vs : List V} (r : Rels L A H ds vs) : ∀ {pm : List Nat} {es : List D}, pm.mapM (fun i => ds[i]?) = some es → ∃ ws, pm.mapM (fun i => vs[i]?) = some ws ∧ Rels L A H es ws
  | [], es, h => by
    simp only [List.mapM_nil, Option.pure_def, Option.some.injEq] at h
    subst h; exact ⟨[], rfl, .nil⟩
  | i :: pm, es, h => by
    simp only [List.mapM_cons, Option.bind_eq_bind, Option.pure_def, Option.bind_eq_some_iff] at h
    obtain ⟨d, h1, fs, h2, h3⟩ := h
    cases h3
    obtain ⟨v, e1, r1⟩ := r.get h1
    obtain ⟨ws, e2, r2⟩ := perm_rels r h2
    exact ⟨v :: ws, by simp [e1, e2], .cons r1 r2⟩
theorem perm_vals {vs : List V} {us : List Value} (r : Vals vs us) : ∀ {pm : List Nat} {ws : List V}, pm.mapM (fun i => vs[i]?) = some ws → ∃ xs, pm.mapM (fun i => us[i]?) = some xs ∧ Vals ws xs
  | [], es, h => by
    simp only [List.mapM_nil, Option.pure_def, Option.some.injEq] at h
    subst h; exact ⟨[], rfl, .nil⟩
  | i :: pm, es, h => by
    simp only [List.mapM_cons, Option.bind_eq_bind, Option.pure_def, Option.bind_eq_some_iff] at h
    obtain ⟨d, h1, fs, h2, h3⟩ := h
    cases h3
    obtain ⟨v, e1, r1⟩ := r.get h1
    obtain ⟨ws, e2, r2⟩ := perm_vals r h2
    exact ⟨v :: ws, by simp [e1, e2], .cons r1 r2⟩
def bindOk (c : Cf) (f n : Nat) (ks : List Str) (pm : List Nat) : Prop := (ks = [] ∧ pm = []) ∨ (pm ≠ [] ∧ (n, ks, pm) ∈ c.nm.kwT f)
theorem bind_of {f n : Nat} (F : FnF c X f) {ks : List Str} {pm : List Nat} (hb : bindOk c f n ks pm) {s : Shared} {us ws : List Value} {vs : List V} {A : List Addr} {H : Hp} {L : Lay} {ds as : List D}
    (kin : X.K.In s.heap) (hn : us.length = n) (hk : ws.length = ks.length) (r : Vals vs (us ++ ws)) (rr : Rels L A H ds vs) (ha : permA pm ds = some as) (hl : as.length = (c.nm.fps f).length) :
    ∃ xs ys, BindsTo s (c.fd f) ⟨us, ks.zip ws⟩ ((c.nm.fps f).zip xs) ∧ Vals ys xs ∧ Rels L A H as ys := by
  rcases hb with ⟨rfl, rfl⟩ | ⟨hne, hm⟩
  · have e : as = ds := by cases ha; rfl
    subst e
    have ew : ws = [] := List.eq_nil_of_length_eq_zero (by simpa using hk)
    subst ew
    rw [List.append_nil] at r
    have hl2 : (us ++ []).length = (c.nm.fps f).length := by rw [List.append_nil, ← r.length, ← rr.len, hl]
    have hB := F.bd s us kin hl2
    rw [List.append_nil] at hB
    exact ⟨us, vs, hB, r, rr⟩
  · obtain ⟨bs, h1, h2⟩ := F.kb n ks pm hm s us ws kin hn hk
    have ha' : pm.mapM (fun i => ds[i]?) = some as := by
      unfold permA at ha
      cases pm with
      | nil => exact absurd rfl hne
      | cons i pm =>
        have ha : (if ds.length = (i :: pm).length then (i :: pm).mapM fun i => ds[i]? else none) = some as := ha
        split at ha
        · exact ha
        · cases ha
    obtain ⟨ys, e1, r1⟩ := perm_rels rr ha'
    obtain ⟨xs, e2, r2⟩ := perm_vals r e1
    rw [h1] at e2
    cases e2
    exact ⟨bs, ys, h2, r2, r1⟩
theorem perm_of {f : Nat} (F : FnF c X f) {pm : List Nat} {ds : List D} {S : St} {L : Lay} {W : XK} {A : List Addr} {H : Hp} {Q : VK} (p : Post L W A H (Rel L) (match permA pm ds with | some as => c.κ f as S | none => .no) Q) :
    ∃ as, permA pm ds = some as ∧ as.length = (c.nm.fps f).length ∧ Post L W A H (Rel L) (c.κ f as S) Q := by
  cases e : permA pm ds with
  | none => rw [e] at p; exact p.elim
  | some as =>
    rw [e] at p
    refine ⟨as, rfl, ?_, p⟩
    by_cases hl : as.length = (c.nm.fps f).length
    · exact hl
    · have p' : Post L W A H (Rel L) (c.κ f as S) Q := p
      rw [F.len as S hl] at p'; exact p'.elim
theorem run_f {f n : Nat} (F : FnF c X f) (hgd : X.A.guards = some []) (hr : Room c.lv X.A) (hx : Passes c.CX X W) {ks : List Str} {pm : List Nat} (hb : bindOk c f n ks pm) {pins : List (Addr × Obj)} {σ : L2.St} {H : Hp} {s : Shared} {Q : VK} {us ws : List Value} {vs : List V} {z : List Addr} {A : List Addr} {S : St} {ds : List D}
    (I : Inv X pins σ H s) (hn : us.length = n) (hk : ws.length = ks.length) (r : Vals vs (us ++ ws)) (hc : Cells (c.lay X.K z) A S H) (rr : Rels (c.lay X.K z) A H ds vs)
    (p : Post (c.lay X.K z) W A H (Rel (c.lay X.K z)) (match permA pm ds with | some as => c.κ f as S | none => .no) Q) :
    wpAny (model X.prog X.w) X.A (call (.ref (c.ad f)) us (ks.zip ws)) (EP X pins σ Q) X.xe s := by
  obtain ⟨as, ha, hl, p⟩ := perm_of F p
  obtain ⟨xs, ys, hB, hv, hR⟩ := bind_of F hb I.kIn hn hk r rr ha hl
  refine wpAny_call (codeAny_mono (F.ok.run X.A X.stack s H _ xs ys Q W hgd hr I.env0 hB hv ⟨z, A, S, as, hl, hc, hR, p⟩) fun r s' hq => ?_)
  cases r with
  | error e => exact hx pins σ H s e s' I hq
  | ok fl =>
    cases fl with
    | ret u => exact I.after hq
    | next => exact False.elim hq
    | brk => exact False.elim hq
    | cont => exact False.elim hq
theorem run_f1 {f : Nat} (F : FnF c X f) (hgd : X.A.guards = some []) (hr : Room (c.lv + 1) X.A) (nox : ∀ l H s e s', c.CX l H s (fun _ _ _ => False) e s' → False) {pins : List (Addr × Obj)} {σ : L2.St} {H : Hp} {s : Shared} {Q : VK} {us : List Value} {vs : List V} {z : List Addr} {A : List Addr} {S : St} {ds : List D}
    (I : Inv X pins σ H s) (r : Vals vs us) (hc : Cells (c.lay X.K z) A S H) (rr : Rels (c.lay X.K z) A H ds vs) (p : Post (c.lay X.K z) (fun _ _ _ => False) A H (Rel (c.lay X.K z)) (c.κ f ds S) Q) (hl : ds.length = (c.nm.fps f).length) {E : Value → Shared → Prop} :
    wpAny (model X.prog X.w) X.A.in1 (call (.ref (c.ad f)) us) (EP X pins σ Q) E s := by
  have hl2 : (us ++ []).length = (c.nm.fps f).length := by rw [List.append_nil, ← r.length, ← rr.len, hl]
  have hB := F.bd s us I.kIn hl2
  rw [List.append_nil] at hB
  refine wpAny_call (codeAny_mono (F.ok.run X.A.in1 X.stack s H ⟨us, []⟩ us vs Q (fun _ _ _ => False) hgd hr.in1 I.env0.in1 hB r ⟨z, A, S, ds, hl, hc, rr, p⟩) fun r s' hq => ?_)
  cases r with
  | error e => exact (nox _ _ _ _ _ hq).elim
  | ok fl =>
    cases fl with
    | ret u => exact I.after hq
    | next => exact False.elim hq
    | brk => exact False.elim hq
    | cont => exact False.elim hq
theorem Post.calm {α β : Type} {L : Lay} {A : List Addr} {H : Hp} {rel : List Addr → Hp → α → β → Prop} {r : R α} {Q : β → Hp → Prop} (h : Post L W A H rel r.calm Q) {W' : XK} : Post L W' A H rel r Q := by
  cases r with
  | ok a s => exact h
  | ex e s => exact h.elim
  | no => exact h
theorem Post.calm_bind {α γ δ : Type} {L : Lay} {A : List Addr} {H : Hp} {rel2 : List Addr → Hp → γ → δ → Prop} {r : R α} {f : α → St → R γ} {Q : δ → Hp → Prop} (h : Post L W A H rel2 (r.calm.bind f) Q) : (∀ {W' : XK} {β : Type} {rel : List Addr → Hp → α → β → Prop}, Post L W' A H rel r (fun b H1 => ∃ A1 S1 a, Grow A H A1 H1 ∧ Cells L A1 S1 H1 ∧ rel A1 H1 a b ∧ Post L W A1 H1 rel2 (f a S1) Q)) := by
  intro W' β rel
  cases r with
  | ok a s =>
    intro A' H' b g c q
    have h' : Post L W A H rel2 (f a s) Q := h
    exact ⟨A', s, a, g, c, q, h'.later g⟩
  | ex e s => exact h.elim
  | no => exact h
theorem s_call {f : Nat} {es : E} {pm : List Nat} {xs : List Expr} {kws : List Keyword} {ks : List Str} {p' : Pos} (F : FnF c X f) (hgl : c.nm.fgl f = true) (hgd : X.A.guards = some []) (hr : Room c.lv X.A) (hx : Passes c.CX X W) (hg : Gl X (c.nm.fnm f)) (hdb : (c.nm.fnm f == ("__debug__" : Str)) = false)
    (hn : xs.all (fun x => !isStar x) = true) (hks : kwNames kws = some ks) (hb : bindOk c f xs.length ks pm) (ha : okA c X W es xs kws) : okE c X W (.call f es pm) (.Call (.Name (c.nm.fnm f) p') xs kws pos) := by
  refine ⟨fun pins s σ H Q I ⟨z, A, S, v, hv, hc, h⟩ => ?_⟩
  simp only [ev] at h
  refine wpAny_Call_Name_kw (ld_glob I hg (F.gl hgl) ?_ hdb)
  refine callWith_ak (first := []) I F.kp hn hks ha (tR_bind (rel := Rels) hv hc h) fun us ws vs s2 H2 l1 l2 I2 r ⟨A1, S1, ds, g1, e1, c1, r1, p1⟩ => ?_
  exact run_f F hgd hr hx hb I2 l1 l2 r c1 r1 p1
end
end EV
set_option Elab.async false
set_option linter.all false
set_option maxRecDepth 100000
set_option maxHeartbeats 2000000
namespace EV
open PySem PySem.Spec PyProof.Rows L2
section
variable {c : Cf} {N : List Str} {X : Cx} {sc : Sc} {W : XK} {a b d e : E} {x y w : Expr} {pos : Pos}
theorem run_fA {A' : Around} {f : Nat} (F : FnF c X f) (hgd : A'.guards = some []) (hr : Room c.lv A') (nox : ∀ l H s e s', c.CX l H s (fun _ _ _ => False) e s' → False) {pins : List (Addr × Obj)} {σ : L2.St} {H : Hp} {s : Shared} {Q : VK} {us : List Value} {vs : List V} {z : List Addr} {A : List Addr} {S : St} {ds : List D}
    (I : Inv X pins σ H s) (he : Env0 X.prog X.w X.K X.mg X.base A' X.stack s H) (r : Vals vs us) (hc : Cells (c.lay X.K z) A S H) (rr : Rels (c.lay X.K z) A H ds vs) (p : Post (c.lay X.K z) (fun _ _ _ => False) A H (Rel (c.lay X.K z)) (c.κ f ds S) Q) {E : Value → Shared → Prop} :
    wpAny (model X.prog X.w) A' (call (.ref (c.ad f)) us) (EP X pins σ Q) E s := by
  have hl : ds.length = (c.nm.fps f).length := by
    by_cases hl : ds.length = (c.nm.fps f).length
    · exact hl
    · rw [F.len ds S hl] at p; exact p.elim
  have hl2 : (us ++ []).length = (c.nm.fps f).length := by rw [List.append_nil, ← r.length, ← rr.len, hl]
  have hB := F.bd s us I.kIn hl2
  rw [List.append_nil] at hB
  refine wpAny_call (codeAny_mono (F.ok.run A' X.stack s H ⟨us, []⟩ us vs Q (fun _ _ _ => False) hgd hr he hB r ⟨z, A, S, ds, hl, hc, rr, p⟩) fun r s' hq => ?_)
  cases r with
  | error e => exact (nox _ _ _ _ _ hq).elim
  | ok fl =>
    cases fl with
    | ret u => exact I.after hq
    | next => exact False.elim hq
    | brk => exact False.elim hq
    | cont => exact False.elim hq
def biName : Bi → Str
  | .len => "len" | .abs => "abs" | .max2 => "max" | .min2 => "min" | .max1 => "max" | .min1 => "min" | .sum => "sum" | .all => "all" | .any => "any" | .int => "int" | .str => "str" | .repr => "repr" | .bool => "bool"
def rBi (c : Cf) (K : PySem.W.Frag) (W : XK) (b : Bi) : List V → Hp → VK → Prop := fun vs H Q => ∃ z A S ds, Cells (c.lay K z) A S H ∧ Rels (c.lay K z) A H ds vs ∧ Post (c.lay K z) W A H (Rel (c.lay K z)) (biI c.G c.κ b ds S) Q
theorem rels1 {L : Lay} {A : List Addr} {H : Hp} {d : D} {vs : List V} (r : Rels L A H [d] vs) : ∃ x, vs = [x] ∧ Rel L A H d x := by
  obtain ⟨v, t, e, h1, h2⟩ := (show ∃ v r, _ from by simpa only [Rels] using r)
  have : t = [] := by simpa only [Rels] using h2
  subst this
  exact ⟨v, e, h1⟩
theorem rels2 {L : Lay} {A : List Addr} {H : Hp} {d e : D} {vs : List V} (r : Rels L A H [d, e] vs) : ∃ x y, vs = [x, y] ∧ Rel L A H d x ∧ Rel L A H e y := by
  obtain ⟨v, t, e1, h1, h2⟩ := (show ∃ v r, _ from by simpa only [Rels] using r)
  obtain ⟨y, e2, h3⟩ := rels1 (d := e) (vs := t) h2
  exact ⟨v, y, by rw [e1, e2], h1, h3⟩
theorem blsOf_eq : ∀ {xs : List D} {bs : List Bool}, blsOf xs = some bs → xs = bs.map .bl
  | [], _, h => by simp only [blsOf, Option.some.injEq] at h; subst h; rfl
  | .bl i :: xs, ns, h => by
    simp only [blsOf, Option.map_eq_some_iff] at h
    obtain ⟨ms, e, rfl⟩ := h
    rw [blsOf_eq e]; rfl
  | .non :: _, _, h | .int _ :: _, _, h | .str _ :: _, _, h | .tup _ :: _, _, h | .lst _ :: _, _, h | .dct _ _ :: _, _, h | .ins _ _ :: _, _, h | .cell _ :: _, _, h | .cls _ :: _, _, h | .clo _ _ :: _, _, h => by simp [blsOf] at h
theorem strsOf_eq : ∀ {xs : List D} {bs : List (List Nat)}, strsOf xs = some bs → xs = bs.map .str
  | [], _, h => by simp only [strsOf, Option.some.injEq] at h; subst h; rfl
  | .str i :: xs, ns, h => by
    simp only [strsOf, Option.map_eq_some_iff] at h
    obtain ⟨ms, e, rfl⟩ := h
    rw [strsOf_eq e]; rfl
  | .non :: _, _, h | .int _ :: _, _, h | .bl _ :: _, _, h | .tup _ :: _, _, h | .lst _ :: _, _, h | .dct _ _ :: _, _, h | .ins _ _ :: _, _, h | .cell _ :: _, _, h | .cls _ :: _, _, h | .clo _ _ :: _, _, h => by simp [strsOf] at h
theorem rels_bls {L : Lay} {A : List Addr} {H : Hp} : ∀ {ns : List Bool} {vs : List V}, Rels L A H (ns.map .bl) vs → vs = ns.map V.bl
  | [], _, h => by simpa only [List.map_nil, Rels] using h
  | n :: ns, _, h => by
    obtain ⟨v, r, e, h1, h2⟩ := (show ∃ v r, _ from by simpa only [List.map_cons, Rels] using h)
    rw [e, rels_bls h2, h1.w.bl]; rfl
theorem rels_strs {L : Lay} {A : List Addr} {H : Hp} : ∀ {ns : List (List Nat)} {vs : List V}, Rels L A H (ns.map .str) vs → vs = (ns.map SS).map V.str
  | [], _, h => by simpa only [List.map_nil, Rels] using h
  | n :: ns, _, h => by
    obtain ⟨v, r, e, h1, h2⟩ := (show ∃ v r, _ from by simpa only [List.map_cons, Rels] using h)
    rw [e, rels_strs h2, h1.w.str]; rfl
theorem foldl_max {ns : List Int} : ∀ (n : Int), (ns.foldl max n ∈ n :: ns) ∧ ∀ y ∈ n :: ns, y ≤ ns.foldl max n := by
  induction ns with
  | nil => intro n; simp
  | cons m ns ih =>
    intro n
    obtain ⟨h1, h2⟩ := ih (max n m)
    refine ⟨?_, fun y hy => ?_⟩
    · rw [List.foldl_cons]
      rcases List.mem_cons.mp h1 with h | h
      · rw [h]; rcases Int.max_def n m with q; by_cases hnm : n ≤ m
        · rw [Int.max_eq_right hnm]; simp
        · rw [Int.max_eq_left (by omega)]; simp
      · simp [h]
    · rw [List.foldl_cons]
      have h3 := h2 (max n m) List.mem_cons_self
      rcases List.mem_cons.mp hy with rfl | hy
      · exact Int.le_trans (Int.le_max_left _ _) h3
      · rcases List.mem_cons.mp hy with rfl | hy
        · exact Int.le_trans (Int.le_max_right _ _) h3
        · exact h2 y (List.mem_cons_of_mem _ hy)
theorem foldl_min {ns : List Int} : ∀ (n : Int), (ns.foldl min n ∈ n :: ns) ∧ ∀ y ∈ n :: ns, ns.foldl min n ≤ y := by
  induction ns with
  | nil => intro n; simp
  | cons m ns ih =>
    intro n
    obtain ⟨h1, h2⟩ := ih (min n m)
    refine ⟨?_, fun y hy => ?_⟩
    · rw [List.foldl_cons]
      rcases List.mem_cons.mp h1 with h | h
      · rw [h]; by_cases hnm : n ≤ m
        · rw [Int.min_eq_left hnm]; simp
        · rw [Int.min_eq_right (by omega)]; simp
      · simp [h]
    · rw [List.foldl_cons]
      have h3 := h2 (min n m) List.mem_cons_self
      rcases List.mem_cons.mp hy with rfl | hy
      · exact Int.le_trans h3 (Int.min_le_left _ _)
      · rcases List.mem_cons.mp hy with rfl | hy
        · exact Int.le_trans h3 (Int.min_le_right _ _)
        · exact h2 y (List.mem_cons_of_mem _ hy)
theorem view_not {S : St} {d : D} (h : ∀ k fs, view S d ≠ .ins k fs) : True := trivial
abbrev CallQ (X : Cx) (f : Value) (pins : List (Addr × Obj)) (σ : L2.St) (us : List Value) (Q : VK) (s : Shared) : Prop := wpAny (model X.prog X.w) X.A (call f us) (EP X pins σ Q) X.xe s
theorem ins_of {L : Lay} {A : List Addr} {H : Hp} {k : Nat} {fs : List D} {x : V} (w : RelW L A H (.ins k fs) x) : ∃ a dx vs, x = .ref a ∧ H a = some (.ins (L.cad k) dx ((L.cfs k).zip vs)) ∧ vs.length ≤ (L.cfs k).length ∧ Rels L A H fs vs := w
theorem inst_at {pins : List (Addr × Obj)} {σ : L2.St} {H : Hp} {s : Shared} {a C dx : Addr} {fs : List (Str × V)} (I : Inv X pins σ H s) (h : H a = some (.ins C dx fs)) : ∃ ob od, PySem.W.InstAt s.heap a ob C od := by
  obtain ⟨mA, O, _⟩ := ins_get I.hok h
  obtain ⟨od, J, _⟩ := O.look
  exact ⟨_, _, J⟩
theorem len_str' {n : List Nat} {m : Nat} (h : (if n.length ≤ line then some n.length else none) = some m) : n.length ≤ line ∧ m = n.length := by
  by_cases hz : n.length ≤ line
  · rw [if_pos hz] at h; cases h; exact ⟨hz, rfl⟩
  · rw [if_neg hz] at h; cases h
theorem cr_len (g : Good c N X sc W) : CallR X (.builtin "len") (rBi c X.K W .len) := by
  intro pins s σ H xs us Q I r h
  obtain ⟨z, A, S, ds, hc, rr, p⟩ := h
  cases ds with
  | nil => exact (show False from p).elim
  | cons d ds => cases ds with
    | cons _ _ => exact (show False from p).elim
    | nil =>
      obtain ⟨x, rfl, rd⟩ := rels1 rr
      have wd := view_rel hc rd
      have p : Post (c.lay X.K z) W A H (Rel (c.lay X.K z)) (match view S d with
        | .ins k _ => match (c.G.cl k).bind ClR.lenF with
          | some f => (c.κ f [d] S).calm.bind fun n s => match n with
            | .int i => if 0 ≤ i ∧ i < 1000000 then .ok (.int i) s else .no
            | _ => .no
          | none => .no
        | v => R.opt (biD .len [v]) S) Q := p
      cases hv : view S d with
      | tup ts =>
        rw [hv] at p wd
        obtain ⟨l, vs, rfl, q, r2⟩ := wd
        exact call_len_seq pins s σ H _ us Q I r ⟨l, vs, rfl, .inr q.t, by rw [← r2.len]; exact p.ok hc rel_int⟩
      | lst ts =>
        rw [hv] at p wd
        obtain ⟨l, vs, rfl, q, r2⟩ := wd
        exact call_len_seq pins s σ H _ us Q I r ⟨l, vs, rfl, .inl q, by rw [← r2.len]; exact p.ok hc rel_int⟩
      | str t =>
        rw [hv] at p wd
        have p : Post (c.lay X.K z) W A H (Rel (c.lay X.K z)) (R.opt ((if t.length ≤ line then some t.length else none).map fun n => D.int n) S) Q := p
        by_cases hz : t.length ≤ line
        · rw [if_pos hz] at p
          rw [wd.str] at r
          exact call_len_str pins s σ H _ us Q I r ⟨SS t, rfl, by rw [SS_len, ← line_eq]; exact hz, by rw [SS_len]; exact p.ok hc rel_int⟩
        · rw [if_neg hz] at p; exact p.elim
      | dct ks ts =>
        rw [hv] at p wd
        obtain ⟨l, vs, rfl, q, hl, nd, r2⟩ := wd
        obtain ⟨u, rfl, ru⟩ := vals1 r
        cases ru
        refine d_len I q fun t s' I' => ⟨.int _, _, I', ⟨t, rfl⟩, ?_⟩
        rw [List.length_zip, List.length_map, ← hl, Nat.min_self]
        exact p.ok hc rel_int
      | ins k fs =>
        rw [hv] at p wd
        obtain ⟨l, dx, vs, rfl, q, hl, r2⟩ := ins_of wd
        cases hk : c.G.cl k with
        | none => simp only [hk, Option.bind_none] at p; exact p.elim
        | some cr =>
          cases hf : cr.lenF with
          | none => simp only [hk, Option.bind_some, hf] at p; exact p.elim
          | some f =>
            simp only [hk, Option.bind_some, hf] at p
            have F := g.fs.cl k cr hk
            obtain ⟨f1, f2, f3⟩ := F.ins.lenF f hf
            obtain ⟨u, rfl, ru⟩ := Vals.one r
            obtain ⟨m, Fm⟩ := I.fr
            obtain ⟨ob, od, J⟩ := inst_at I q
            cases (show u = Value.ref l from ru)
            refine PySem.W.len_K Fm I.mod.kin J f2 f3 (wpAny_mono (run_fA (A' := X.A.in1) (g.fs.fn f f1) g.gd (g.room.mono (by omega)).in1 g.nox I I.env0.in1 (.cons (show L2.RelV (V.ref l) (Value.ref l) from rfl) .nil) hc rr (Post.calm_bind p)) (fun v s' hq => ?_) fun _ _ e => e)
            obtain ⟨y, H', I', rv, A1, S1, d1, g1, c1, rr1, p1⟩ := hq
            cases d1 with
            | int i =>
              have p1 : Post (c.lay X.K z) W A1 H' (Rel (c.lay X.K z)) (if 0 ≤ i ∧ i < 1000000 then .ok (.int i) S1 else .no) Q := p1
              by_cases hz : 0 ≤ i ∧ i < 1000000
              · rw [if_pos hz] at p1
                rw [rr1.w.int] at rv
                obtain ⟨t, rfl⟩ := rv
                exact ⟨⟨hz.1, by omega⟩, .int i, H', I'.tok _, ⟨_, rfl⟩, p1.ok c1 rel_int⟩
              · rw [if_neg hz] at p1; exact p1.elim
            | _ => exact p1.elim
      | _ => rw [hv] at p; exact (show False from p).elim
theorem post_no {L : Lay} {A : List Addr} {H : Hp} {r : R D} {Q : VK} (e : r = .no) (p : Post L W A H (Rel L) r Q) : False := by rw [e] at p; exact p
theorem ofS (t : String) : Str.ofString t = SS (t.toList.map Char.toNat) := TL.ext_tl (TL.tl_ofString t)
theorem toStr_int (i : Int) : Str.ofString (toString i) = SS (intL i) := by
  rw [ofS]
  cases i with
  | ofNat n =>
    show SS ((Nat.repr n).toList.map Char.toNat) = _
    rw [Nat.toList_repr]; rfl
  | negSucc n =>
    show SS (("-" ++ Nat.repr (n + 1)).toList.map Char.toNat) = _
    rw [String.toList_append, Nat.toList_repr]; rfl
theorem log_small {i : Int} (h : i.natAbs < 10 ^ 60) : i.natAbs.log2 < 1920 := by
  by_cases h0 : i.natAbs = 0
  · rw [h0]; decide
  · rw [Nat.log2_lt h0]
    exact Nat.lt_of_lt_of_le h (Nat.le_trans (show 10 ^ 60 ≤ 2 ^ 200 by decide) (Nat.pow_le_pow_right (by decide) (by decide)))
theorem cr_str (g : Good c N X sc W) : CallR X (.type "str") (rBi c X.K W .str) := by
  intro pins s σ H xs us Q I r h
  obtain ⟨z, A, S, ds, hc, rr, p⟩ := h
  cases ds with
  | nil => exact (show False from p).elim
  | cons d ds => cases ds with
    | cons _ _ => exact (post_no (by simp [biI, biD, R.opt]) p).elim
    | nil =>
      obtain ⟨x, rfl, rd⟩ := rels1 rr
      have wd := view_rel hc rd
      have p : Post (c.lay X.K z) W A H (Rel (c.lay X.K z)) (match view S d with
        | .ins k _ => match (c.G.cl k).bind ClR.strF with
          | some f => (c.κ f [d] S).calm.bind fun n s => match n with
            | .str i => .ok (.str i) s
            | _ => .no
          | none => .no
        | v => R.opt (biD .str [v]) S) Q := p
      cases hv : view S d with
      | str t =>
        rw [hv] at p wd
        rw [wd.str] at r
        exact SkE.call_str_str pins s σ H _ us Q I r ⟨SS t, rfl, p.ok hc rel_str⟩
      | int i =>
        rw [hv] at p wd
        have p : Post (c.lay X.K z) W A H (Rel (c.lay X.K z)) (R.opt (if i.natAbs < 10 ^ 60 then some (.str (intL i)) else none) S) Q := p
        by_cases hz : i.natAbs < 10 ^ 60
        · rw [if_pos hz] at p
          rw [wd.int] at r
          refine call_str_int pins s σ H _ us Q I r ⟨i, rfl, ?_, ?_⟩
          · exact log_small hz
          · rw [toStr_int]; exact p.ok hc rel_str
        · rw [if_neg hz] at p; exact p.elim
      | ins k fs =>
        rw [hv] at p wd
        obtain ⟨l, dx, vs, rfl, q, hl, r2⟩ := ins_of wd
        cases hk : c.G.cl k with
        | none => simp only [hk, Option.bind_none] at p; exact p.elim
        | some cr =>
          cases hf : cr.strF with
          | none => simp only [hk, Option.bind_some, hf] at p; exact p.elim
          | some f =>
            simp only [hk, Option.bind_some, hf] at p
            have F := g.fs.cl k cr hk
            obtain ⟨f1, f2, f3⟩ := F.ins.strF f hf
            obtain ⟨u, rfl, ru⟩ := Vals.one r
            obtain ⟨ob, od, J⟩ := inst_at I q
            cases (show u = Value.ref l from ru)
            have hr2 : Room (c.lv + 1) X.A.in1 := g.room.in1
            refine PySem.W.kso_call (Nat.lt_of_lt_of_le hr2.in1.units0 (Nat.le_refl _)) I.kIn J f2 f3 (wpAny_mono (run_fA (A' := X.A.in1.in1) (g.fs.fn f f1) g.gd hr2.in1 g.nox I I.env0.in1.in1 (.cons (show L2.RelV (V.ref l) (Value.ref l) from rfl) .nil) hc rr (Post.calm_bind p)) (fun v s' hq => ?_) fun _ _ e => e)
            obtain ⟨y, H', I', rv, A1, S1, d1, g1, c1, rr1, p1⟩ := hq
            cases d1 with
            | str i =>
              have p1 : Post (c.lay X.K z) W A1 H' (Rel (c.lay X.K z)) (.ok (.str i) S1) Q := p1
              rw [rr1.w.str] at rv
              obtain ⟨t, rfl⟩ := rv
              exact ⟨.str _, H', I', ⟨_, rfl⟩, p1.ok c1 rel_str⟩
            | _ => exact p1.elim
      | _ => rw [hv] at p; exact (show False from p).elim
theorem printable_ascii : ∀ c, 32 ≤ c → c ≤ 126 → Unicode.isPrintable c = true := by
  have h : ∀ c : Fin 127, 32 ≤ c.val → Unicode.isPrintable c.val = true := by decide +kernel
  intro c h1 h2
  exact h ⟨c, by omega⟩ h1
theorem repr_fold : ∀ (s : List Nat) (out : Array Nat), (∀ c ∈ s, 32 ≤ c ∧ c ≤ 126 ∧ c ≠ 39 ∧ c ≠ 92) → s.foldl (fun out c => out ++ (Builtin.Str.reprChar 39 c).toArray) out = out ++ s.toArray
  | [], out, _ => by simp
  | c :: s, out, h => by
    obtain ⟨h1, h2, h3, h4⟩ := h c List.mem_cons_self
    have e : Builtin.Str.reprChar 39 c = [c] := by
      simp only [Builtin.Str.reprChar, Bool.or_eq_true, beq_iff_eq]
      rw [if_neg (by omega), if_neg (by omega), if_neg (by omega), if_neg (by omega), if_pos (printable_ascii c h1 h2)]
    rw [List.foldl_cons, e, repr_fold s _ fun d hd => h d (List.mem_cons_of_mem _ hd)]
    apply Array.toList_inj.mp
    simp
theorem reprText_plain {s : List Nat} (h : (s.all fun c => (32 ≤ c && c ≤ 126 && c != 39 && c != 92)) = true) : reprText (SS s) = SS (39 :: s ++ [39]) := by
  have h' : ∀ c ∈ s, 32 ≤ c ∧ c ≤ 126 ∧ c ≠ 39 ∧ c ≠ 92 := fun c hc => by
    have := List.all_eq_true.mp h c hc
    simp only [Bool.and_eq_true, decide_eq_true_eq, bne_iff_ne, ne_eq] at this
    exact ⟨this.1.1.1, this.1.1.2, this.1.2, this.2⟩
  have hq : reprQuote (SS s) = 39 := by
    unfold reprQuote
    have : (SS s).cps.contains 39 = false := by
      simp only [SS, List.contains_toArray]
      rw [Bool.eq_false_iff]
      intro hc
      exact (h' 39 (by simpa using hc)).2.2.1 rfl
    rw [this]; rfl
  unfold reprText
  rw [hq]
  show (⟨(s.toArray.foldl (fun out c => out ++ (Builtin.Str.reprChar 39 c).toArray) #[39]).push 39⟩ : Str) = _
  rw [List.foldl_toArray, repr_fold s _ h']
  simp [SS]
theorem joinL_eq (S : List Nat) : ∀ ts : List (List Nat), TL.joinL S ts = joinL S ts
  | [] => rfl
  | [_] => rfl
  | x :: y :: r => by
    show x ++ (S ++ TL.joinL S (y :: r)) = x ++ S ++ joinL S (y :: r)
    rw [joinL_eq S (y :: r), List.append_assoc]
theorem join_SS (S : List Nat) (ts : List (List Nat)) : Str.join (SS S) (ts.map SS) = SS (joinL S ts) := by
  apply TL.ext_tl
  rw [TL.tl_join, List.map_map]
  have : (TL.tl ∘ SS) = id := by funext l; rfl
  rw [this, List.map_id, joinL_eq]
theorem textFrom_SS : ∀ (ts : List (List Nat)) (k : Nat) (acc : List Nat), textFrom k (SS acc) (ts.map SS) = SS (acc ++ (if k = 0 ∨ ts = [] then joinL [44, 32] ts else [44, 32] ++ joinL [44, 32] ts))
  | [], k, acc => by simp [textFrom, joinL]
  | t :: ts, k, acc => by
    show textFrom (k + 1) (SS acc ++ Str.ofString (if k > 0 then ", " else "") ++ SS t) (ts.map SS) = _
    have e : Str.ofString (if k > 0 then ", " else "") = SS (if k > 0 then [44, 32] else []) := by
      split <;> (rw [ofS]; rfl)
    rw [e, SS_cat, SS_cat, textFrom_SS ts (k + 1)]
    have hk : ¬ (k + 1 = 0) := by omega
    cases ts with
    | nil => rcases Nat.eq_zero_or_pos k with h0 | h0 <;> simp [joinL, h0] <;> omega
    | cons u us => rcases Nat.eq_zero_or_pos k with h0 | h0 <;> simp [joinL, h0, List.append_assoc] <;> omega
mutual
theorem repr_shown : ∀ (d : D) (t : List Nat), reprD d = some t → (pd d).shown = SS t ∧ (pd d).showable = true
  | .non, t, h => by simp only [reprD, Option.some.injEq] at h; subst h; exact ⟨ofS "None", rfl⟩
  | .bl true, t, h => by simp only [reprD, Option.some.injEq] at h; subst h; exact ⟨ofS "True", rfl⟩
  | .bl false, t, h => by simp only [reprD, Option.some.injEq] at h; subst h; exact ⟨ofS "False", rfl⟩
  | .int i, t, h => by
    simp only [reprD] at h
    split at h
    · rename_i hz
      cases h
      exact ⟨toStr_int i, by simpa [pd, PyData.showable] using log_small hz⟩
    · cases h
  | .str s, t, h => by
    simp only [reprD] at h
    split at h
    · rename_i hz
      cases h
      exact ⟨reprText_plain hz, rfl⟩
    · cases h
  | .tup xs, t, h => by
    simp only [reprD, Option.map_eq_some_iff] at h
    obtain ⟨ts, e, rfl⟩ := h
    obtain ⟨h1, h2⟩ := repr_showns xs ts e
    refine ⟨?_, by simpa only [pd, PyData.showable] using h2⟩
    simp only [pd, PyData.shown, h1]
    show Str.ofString "(" ++ Str.join (Str.ofString ", ") (ts.map SS) ++ Str.ofString (if (ts.map SS).length == 1 then ",)" else ")") = _
    have e1 : Str.ofString (if (ts.map SS).length == 1 then ",)" else ")") = SS (if ts.length == 1 then [44, 41] else [41]) := by
      rw [List.length_map]; split <;> (rw [ofS]; rfl)
    rw [e1, ofS "(", ofS ", "]
    show SS [40] ++ Str.join (SS [44, 32]) _ ++ _ = _
    rw [join_SS, SS_cat, SS_cat]
    rfl
  | .lst xs, t, h => by
    simp only [reprD, Option.map_eq_some_iff] at h
    obtain ⟨ts, e, rfl⟩ := h
    obtain ⟨h1, h2⟩ := repr_showns xs ts e
    refine ⟨?_, by simpa only [pd, PyData.showable] using h2⟩
    simp only [pd, PyData.shown, h1]
    show textFrom 0 (Str.ofString "[") (ts.map SS) ++ Str.ofString "]" = _
    rw [ofS "[", ofS "]"]
    show textFrom 0 (SS [91]) (ts.map SS) ++ SS [93] = _
    rw [textFrom_SS, SS_cat]
    simp
  | .dct _ _, _, h | .ins _ _, _, h | .cell _, _, h | .cls _, _, h | .clo _ _, _, h => by simp [reprD] at h
theorem repr_showns : ∀ (ds : List D) (ts : List (List Nat)), reprDs ds = some ts → PyData.shownAll (pds ds) = ts.map SS ∧ PyData.showableAll (pds ds) = true
  | [], ts, h => by simp only [reprDs, Option.some.injEq] at h; subst h; exact ⟨rfl, rfl⟩
  | d :: ds, ts, h => by
    simp only [reprDs] at h
    split at h
    · rename_i a b e1 e2
      cases h
      obtain ⟨h1, h2⟩ := repr_shown d a e1
      obtain ⟨h3, h4⟩ := repr_showns ds b e2
      exact ⟨by simp only [pds, PyData.shownAll, h1, h3, List.map_cons], by simp only [pds, PyData.showableAll, h2, h4, Bool.and_self]⟩
    · cases h
end
end
end EV
set_option Elab.async false
set_option linter.all false
set_option maxRecDepth 100000
set_option maxHeartbeats 3200000
namespace EV
open PySem PySem.Spec PyProof.Rows L2
mutual
theorem alike_pd : ∀ x y : D, (∃ n, datN n x = true) → (∃ n, datN n y = true) → alikeD x y = true → PySem.W.alike (pd x) (pd y) = true
  | .non, .non, _, _, _ => by simp [pd, PySem.W.alike]
  | .int _, .int _, _, _, _ => by simp [pd, PySem.W.alike]
  | .str _, .str _, _, _, _ => by simp [pd, PySem.W.alike]
  | .tup xs, .tup ys, ⟨n, hx⟩, ⟨m, hy⟩, h => by
    cases n with
    | zero => simp [datN] at hx
    | succ n => cases m with
      | zero => simp [datN] at hy
      | succ m =>
        simp only [datN, List.all_eq_true] at hx hy
        simp only [pd, PySem.W.alike]
        exact alike_pds xs ys (fun z hz => ⟨n, hx z hz⟩) (fun z hz => ⟨m, hy z hz⟩) (by simpa only [alikeD] using h)
  | .lst xs, .lst ys, ⟨n, hx⟩, ⟨m, hy⟩, h => by
    cases n with
    | zero => simp [datN] at hx
    | succ n => cases m with
      | zero => simp [datN] at hy
      | succ m =>
        simp only [datN, List.all_eq_true] at hx hy
        simp only [pd, PySem.W.alike]
        exact alike_pds xs ys (fun z hz => ⟨n, hx z hz⟩) (fun z hz => ⟨m, hy z hz⟩) (by simpa only [alikeD] using h)
  | .bl _, .bl _, _, _, _ => by simp [pd, PySem.W.alike]
  | .bl _, .non, _, _, h | .bl _, .int _, _, _, h | .bl _, .str _, _, _, h | .bl _, .tup _, _, _, h | .bl _, .lst _, _, _, h | .bl _, .dct _ _, _, _, h | .bl _, .ins _ _, _, _, h | .bl _, .cell _, _, _, h | .bl _, .cls _, _, _, h | .bl _, .clo _ _, _, _, h => by simp [alikeD] at h
  | .dct _ _, y, _, _, h => by cases y <;> simp [alikeD] at h
  | .ins _ _, y, _, _, h => by cases y <;> simp [alikeD] at h
  | .cell _, y, _, _, h => by cases y <;> simp [alikeD] at h
  | .cls _, y, _, _, h => by cases y <;> simp [alikeD] at h
  | .clo _ _, y, _, _, h => by cases y <;> simp [alikeD] at h
  | .non, .bl _, _, _, h | .non, .int _, _, _, h | .non, .str _, _, _, h | .non, .tup _, _, _, h | .non, .lst _, _, _, h | .non, .dct _ _, _, _, h | .non, .ins _ _, _, _, h | .non, .cell _, _, _, h | .non, .cls _, _, _, h | .non, .clo _ _, _, _, h => by simp [alikeD] at h
  | .int _, .bl _, _, _, h | .int _, .non, _, _, h | .int _, .str _, _, _, h | .int _, .tup _, _, _, h | .int _, .lst _, _, _, h | .int _, .dct _ _, _, _, h | .int _, .ins _ _, _, _, h | .int _, .cell _, _, _, h | .int _, .cls _, _, _, h | .int _, .clo _ _, _, _, h => by simp [alikeD] at h
  | .str _, .bl _, _, _, h | .str _, .non, _, _, h | .str _, .int _, _, _, h | .str _, .tup _, _, _, h | .str _, .lst _, _, _, h | .str _, .dct _ _, _, _, h | .str _, .ins _ _, _, _, h | .str _, .cell _, _, _, h | .str _, .cls _, _, _, h | .str _, .clo _ _, _, _, h => by simp [alikeD] at h
  | .tup _, .bl _, _, _, h | .tup _, .non, _, _, h | .tup _, .int _, _, _, h | .tup _, .str _, _, _, h | .tup _, .lst _, _, _, h | .tup _, .dct _ _, _, _, h | .tup _, .ins _ _, _, _, h | .tup _, .cell _, _, _, h | .tup _, .cls _, _, _, h | .tup _, .clo _ _, _, _, h => by simp [alikeD] at h
  | .lst _, .bl _, _, _, h | .lst _, .non, _, _, h | .lst _, .int _, _, _, h | .lst _, .str _, _, _, h | .lst _, .tup _, _, _, h | .lst _, .dct _ _, _, _, h | .lst _, .ins _ _, _, _, h | .lst _, .cell _, _, _, h | .lst _, .cls _, _, _, h | .lst _, .clo _ _, _, _, h => by simp [alikeD] at h
theorem alike_pds : ∀ xs ys : List D, (∀ z ∈ xs, ∃ n, datN n z = true) → (∀ z ∈ ys, ∃ n, datN n z = true) → alikeDs xs ys = true → PySem.W.alikeAll (pds xs) (pds ys) = true
  | [], _, _, _, _ => by simp [pds, PySem.W.alikeAll]
  | _ :: _, [], _, _, _ => by simp [pds, PySem.W.alikeAll]
  | x :: xs, y :: ys, hx, hy, h => by
    simp only [alikeDs, Bool.and_eq_true] at h
    simp only [pds, PySem.W.alikeAll, Bool.and_eq_true]
    exact ⟨alike_pd x y (hx x List.mem_cons_self) (hy y List.mem_cons_self) h.1, alike_pds xs ys (fun z hz => hx z (List.mem_cons_of_mem _ hz)) (fun z hz => hy z (List.mem_cons_of_mem _ hz)) h.2⟩
end
mutual
theorem lt_pd : ∀ x y : D, (∃ n, datN n x = true) → (∃ n, datN n y = true) → alikeD x y = true → PySem.W.dataLt (pd x) (pd y) = ltD x y
  | .non, .non, _, _, _ => by
    simp only [pd, ltD]
    exact lex_irrefl _
  | .int i, .int j, _, _, _ => by simp only [pd, ltD]; exact PySem.W.dataLt_int i j
  | .str s, .str t, _, _, _ => by simp only [pd, ltD]; exact PySem.W.dataLt_str (SS s) (SS t)
  | .tup xs, .tup ys, ⟨n, hx⟩, ⟨m, hy⟩, h => by
    cases n with
    | zero => simp [datN] at hx
    | succ n => cases m with
      | zero => simp [datN] at hy
      | succ m =>
        simp only [datN, List.all_eq_true] at hx hy
        simp only [pd, ltD]
        rw [PySem.W.dataLt_tuple]
        exact lt_pds xs ys (fun z hz => ⟨n, hx z hz⟩) (fun z hz => ⟨m, hy z hz⟩) (by simpa only [alikeD] using h)
  | .lst xs, .lst ys, ⟨n, hx⟩, ⟨m, hy⟩, h => by
    cases n with
    | zero => simp [datN] at hx
    | succ n => cases m with
      | zero => simp [datN] at hy
      | succ m =>
        simp only [datN, List.all_eq_true] at hx hy
        simp only [pd, ltD]
        rw [PySem.W.dataLt_list]
        exact lt_pds xs ys (fun z hz => ⟨n, hx z hz⟩) (fun z hz => ⟨m, hy z hz⟩) (by simpa only [alikeD] using h)
  | .bl a, .bl b, _, _, _ => by simp only [pd, ltD]; exact (PySem.W.dataLt_bool a b).trans (by cases a <;> cases b <;> rfl)
  | .bl _, .non, _, _, h | .bl _, .int _, _, _, h | .bl _, .str _, _, _, h | .bl _, .tup _, _, _, h | .bl _, .lst _, _, _, h | .bl _, .dct _ _, _, _, h | .bl _, .ins _ _, _, _, h | .bl _, .cell _, _, _, h | .bl _, .cls _, _, _, h | .bl _, .clo _ _, _, _, h => by simp [alikeD] at h
  | .dct _ _, y, _, _, h => by cases y <;> simp [alikeD] at h
  | .ins _ _, y, _, _, h => by cases y <;> simp [alikeD] at h
  | .cell _, y, _, _, h => by cases y <;> simp [alikeD] at h
  | .cls _, y, _, _, h => by cases y <;> simp [alikeD] at h
  | .clo _ _, y, _, _, h => by cases y <;> simp [alikeD] at h
  | .non, .bl _, _, _, h | .non, .int _, _, _, h | .non, .str _, _, _, h | .non, .tup _, _, _, h | .non, .lst _, _, _, h | .non, .dct _ _, _, _, h | .non, .ins _ _, _, _, h | .non, .cell _, _, _, h | .non, .cls _, _, _, h | .non, .clo _ _, _, _, h => by simp [alikeD] at h
  | .int _, .bl _, _, _, h | .int _, .non, _, _, h | .int _, .str _, _, _, h | .int _, .tup _, _, _, h | .int _, .lst _, _, _, h | .int _, .dct _ _, _, _, h | .int _, .ins _ _, _, _, h | .int _, .cell _, _, _, h | .int _, .cls _, _, _, h | .int _, .clo _ _, _, _, h => by simp [alikeD] at h
  | .str _, .bl _, _, _, h | .str _, .non, _, _, h | .str _, .int _, _, _, h | .str _, .tup _, _, _, h | .str _, .lst _, _, _, h | .str _, .dct _ _, _, _, h | .str _, .ins _ _, _, _, h | .str _, .cell _, _, _, h | .str _, .cls _, _, _, h | .str _, .clo _ _, _, _, h => by simp [alikeD] at h
  | .tup _, .bl _, _, _, h | .tup _, .non, _, _, h | .tup _, .int _, _, _, h | .tup _, .str _, _, _, h | .tup _, .lst _, _, _, h | .tup _, .dct _ _, _, _, h | .tup _, .ins _ _, _, _, h | .tup _, .cell _, _, _, h | .tup _, .cls _, _, _, h | .tup _, .clo _ _, _, _, h => by simp [alikeD] at h
  | .lst _, .bl _, _, _, h | .lst _, .non, _, _, h | .lst _, .int _, _, _, h | .lst _, .str _, _, _, h | .lst _, .tup _, _, _, h | .lst _, .dct _ _, _, _, h | .lst _, .ins _ _, _, _, h | .lst _, .cell _, _, _, h | .lst _, .cls _, _, _, h | .lst _, .clo _ _, _, _, h => by simp [alikeD] at h
theorem lt_pds : ∀ xs ys : List D, (∀ z ∈ xs, ∃ n, datN n z = true) → (∀ z ∈ ys, ∃ n, datN n z = true) → alikeDs xs ys = true → PyProof.Rows.lexLt itemOrd (PySem.W.keyToksAll (pds xs)) (PySem.W.keyToksAll (pds ys)) = ltDs xs ys
  | [], [], _, _, _ => by simp only [ltDs]; exact lex_irrefl _
  | [], y :: ys, _, _, _ => by simp only [ltDs, pds, PySem.W.keyToksAll]; rfl
  | x :: xs, [], _, _, _ => by simp only [ltDs, pds, PySem.W.keyToksAll]; rfl
  | x :: xs, y :: ys, hx, hy, h => by
    simp only [alikeDs, Bool.and_eq_true] at h
    simp only [ltDs, pds]
    rw [PySem.W.dataLt_cons (alike_pd x y (hx x List.mem_cons_self) (hy y List.mem_cons_self) h.1), eqD_pd x y (hx x List.mem_cons_self) (hy y List.mem_cons_self),
      lt_pds xs ys (fun z hz => hx z (List.mem_cons_of_mem _ hz)) (fun z hz => hy z (List.mem_cons_of_mem _ hz)) h.2, lt_pd x y (hx x List.mem_cons_self) (hy y List.mem_cons_self) h.1]
end
theorem merge_congr {α : Type} {r t : α → α → Bool} {l : List α} (h : ∀ a ∈ l, ∀ b ∈ l, r a b = t a b) : l.mergeSort r = l.mergeSort t := by
  have := List.map_mergeSort (r := r) (s := t) (f := fun x : α => x) (l := l) h
  simpa using this
theorem sort_facts {xs : List D} (h : sortOk xs = true) : (∀ d ∈ xs, datN 12 d = true) ∧ PySem.W.AllAlike (xs.map pd) ∧ PySem.W.Sortable (xs.map pd) ∧ xs.mergeSort (PySem.W.dataLe false pd) = xs.mergeSort leD := by
  unfold sortOk at h
  simp only [Bool.and_eq_true, List.all_eq_true] at h
  obtain ⟨h1, h2⟩ := h
  have hd : ∀ d ∈ xs, datN 12 d = true := fun d m => (h1 d m).1
  have ha : ∀ d ∈ xs, ∀ e ∈ xs, alikeD d e = true := fun d m e n => (h1 d m).2 e n
  refine ⟨hd, fun d m e n => ?_, ?_, merge_congr fun a ma b mb => ?_⟩
  · obtain ⟨d', m', rfl⟩ := List.mem_map.mp m
    obtain ⟨e', n', rfl⟩ := List.mem_map.mp n
    exact alike_pd d' e' ⟨12, hd d' m'⟩ ⟨12, hd e' n'⟩ (ha d' m' e' n')
  · rw [Bool.or_eq_true] at h2
    rcases h2 with h2 | h2
    · refine .inl fun d m => ?_
      obtain ⟨d', m', rfl⟩ := List.mem_map.mp m
      have := List.all_eq_true.mp h2 d' m'
      cases d' with
      | tup ys => cases ys with
        | nil => simp [isTup1] at this
        | cons y ys => exact ⟨pd y, pds ys, by simp [pd, pds]⟩
      | _ => simp [isTup1] at this
    · refine .inr fun d m => ?_
      obtain ⟨d', m', rfl⟩ := List.mem_map.mp m
      have := List.all_eq_true.mp h2 d' m'
      have dd := hd d' m'
      cases d' with
      | tup ys => simp [noTup] at this
      | non => simp [noTup] at this
      | bl _ => simp [noTup] at this
      | int i => exact ⟨by simp [pd], fun xs => by simp [pd]⟩
      | str i => exact ⟨by simp [pd], fun xs => by simp [pd]⟩
      | lst i => exact ⟨by simp [pd], fun xs => by simp [pd]⟩
      | _ => simp [datN] at dd
  · rw [PySem.W.dataLe_eq]
    show (!PySem.W.dataLt (pd b) (pd a)) = !ltD b a
    rw [lt_pd b a ⟨12, hd b mb⟩ ⟨12, hd a ma⟩ (ha b mb a ma)]
theorem depth_12 {d : D} (h : datN 12 d = true) : (pd d).depth ≤ 12 := (datN_shaped 12 d h).2
theorem min_list_at {prog : Program} {w : World} {A : Around} {s : Shared} {E : Value → Shared → Prop} {l : Addr} {vs : Array Value} {x : PyData} {xs : List PyData} {as : List Addr} {Q : Value → Shared → Prop} (hh : A.handled = none) (hl : s.heap.IsList l vs) (hr : ReadsAll s.heap vs.toList (x :: xs) as) (ha : PySem.W.AlikeAll (x :: xs)) (hu : A.units + 1 + PyData.depthAll (x :: xs) < cLine)
    (h : ∀ v h' tk, vs[argBest (fun i j => PySem.W.dataLt ((x :: xs).getD i .none) ((x :: xs).getD j .none)) xs.length]? = some v → (∀ b o, s.heap.get? b = some o → h'.get? b = some o) → Q v { s with heap := h', toks := tk }) :
    wpAny (model prog w) A (call (.builtin "min") [.ref l]) Q E s := by
  have hn : vs.size = xs.length + 1 := PySem.W.readsAll_len hr
  refine call_min_walkH (PySem.W.iter_listW (A := A.in1) hh hl fun s₂ e W st hfp hw hk => ?_)
  refine ⟨_, _, _, _, _, _, _, s.heap, _, rfl, W, st, hfp, by omega, hw, hk, PySem.W.cmpIn_lt (A := A.in1) hr ha (by show A.units + 1 + _ < _; exact hu), fun v s' hP m => ?_⟩
  obtain ⟨h', tk, rfl, hk'⟩ := PySem.W.moved_old e rfl m
  have e1 : vs.size - 1 = xs.length := by omega
  rw [e1] at hP
  exact h v h' tk hP hk'
theorem best_congr {f g : Nat → Nat → Bool} : ∀ {n : Nat}, (∀ i j, i ≤ n → j ≤ n → f i j = g i j) → argBest f n = argBest g n ∧ argBest f n ≤ n
  | 0, _ => ⟨rfl, Nat.le_refl _⟩
  | n + 1, h => by
    obtain ⟨e, l⟩ := best_congr (n := n) fun i j hi hj => h i j (by omega) (by omega)
    have l2 := e ▸ l
    constructor
    · simp only [argBest]; rw [← e, h (n + 1) _ (Nat.le_refl _) (by omega)]
    · simp only [argBest]; split <;> omega
theorem dpAll_of {H : Hp} {A : List Addr} {L : Lay} {n : Nat} : ∀ {xs : List D} {vs : List V}, (∀ d ∈ xs, datN n d = true) → Rels L A H xs vs → DpAll L.K H vs (pds xs)
  | [], vs, _, r => by simp only [Rels] at r; subst r; simp only [pds]; exact .nil
  | y :: xs, vs, h, r => by
    obtain ⟨v, t, e, h1, h2⟩ := (show ∃ v r, _ from by simpa only [Rels] using r)
    subst e
    simp only [pds]
    exact .cons (dp_of n (h y List.mem_cons_self) h1.w) (dpAll_of (fun d m => h d (List.mem_cons_of_mem _ m)) h2)
theorem depthAll_le {n : Nat} : ∀ {xs : List D}, (∀ d ∈ xs, (pd d).depth ≤ n) → PyData.depthAll (pds xs) ≤ n
  | [], _ => by simp [pds, PyData.depthAll]
  | x :: xs, h => by
    simp only [pds, PyData.depthAll]
    exact Nat.max_le.mpr ⟨h x List.mem_cons_self, depthAll_le fun d m => h d (List.mem_cons_of_mem _ m)⟩
theorem pds_getD {xs : List D} {i : Nat} (h : i < xs.length) : (pds xs).getD i .none = pd (xs.getD i .non) := by
  rw [pds_map, List.getD_eq_getElem?_getD, List.getElem?_map, List.getElem?_eq_getElem h, List.getD_eq_getElem?_getD, List.getElem?_eq_getElem h]; rfl
theorem sort_alike {xs : List D} (h : sortOk xs = true) : PySem.W.AlikeAll (pds xs) := by
  have h0 := h
  unfold sortOk at h
  simp only [Bool.and_eq_true, List.all_eq_true] at h
  obtain ⟨h1, h2⟩ := h
  obtain ⟨hd, f1, _, _⟩ := sort_facts h0
  rw [pds_map]
  refine ⟨fun x hx y hy => ?_, fun x hx e => ?_⟩
  · obtain ⟨a, ma, rfl⟩ := List.mem_map.mp hx
    obtain ⟨b, mb, rfl⟩ := List.mem_map.mp hy
    exact alike_pd a b ⟨12, hd a ma⟩ ⟨12, hd b mb⟩ ((h1 a ma).2 b mb)
  · obtain ⟨a, ma, rfl⟩ := List.mem_map.mp hx
    rw [Bool.or_eq_true, List.all_eq_true, List.all_eq_true] at h2
    have dd := hd a ma
    have hh : isTup1 a = true ∨ noTup a = true := h2.imp (· a ma) (· a ma)
    cases a <;> simp_all [pd, isTup1, noTup, datN]
theorem best_at {y : D} {ys : List D} (h : sortOk (y :: ys) = true) : ∃ i, argBest (fun i j => PySem.W.dataLt ((pds (y :: ys)).getD i .none) ((pds (y :: ys)).getD j .none)) ys.length = i ∧ (y :: ys)[i]? = some (ys.foldl (fun b z => if ltD z b then z else b) y) := by
  have h0 := h
  unfold sortOk at h
  simp only [Bool.and_eq_true, List.all_eq_true] at h
  obtain ⟨h1, _⟩ := h
  obtain ⟨hd, _, _, _⟩ := sort_facts h0
  have e : ∀ i j, i ≤ ys.length → j ≤ ys.length → PySem.W.dataLt ((pds (y :: ys)).getD i .none) ((pds (y :: ys)).getD j .none) = ltD ((y :: ys).getD i .non) ((y :: ys).getD j .non) := fun i j hi hj => by
    have li : i < (y :: ys).length := by rw [List.length_cons]; omega
    have lj : j < (y :: ys).length := by rw [List.length_cons]; omega
    have mi : (y :: ys).getD i .non ∈ y :: ys := by rw [List.getD_eq_getElem?_getD, List.getElem?_eq_getElem li]; exact List.getElem_mem li
    have mj : (y :: ys).getD j .non ∈ y :: ys := by rw [List.getD_eq_getElem?_getD, List.getElem?_eq_getElem lj]; exact List.getElem_mem lj
    rw [pds_getD li, pds_getD lj]
    exact lt_pd _ _ ⟨12, hd _ mi⟩ ⟨12, hd _ mj⟩ ((h1 _ mi).2 _ mj)
  obtain ⟨e1, l1⟩ := best_congr e
  obtain ⟨l2, e2⟩ := PySem.W.argBest_fold ltD D.non y ys ys.length (Nat.le_refl _)
  rw [List.take_length] at e2
  refine ⟨_, rfl, ?_⟩
  rw [e1, ← e2]
  have ll : argBest (fun i j => ltD ((y :: ys).getD i .non) ((y :: ys).getD j .non)) ys.length < (y :: ys).length := by rw [List.length_cons]; omega
  rw [List.getD_eq_getElem?_getD, List.getElem?_eq_getElem ll]; rfl
end EV
set_option Elab.async false
set_option linter.all false
set_option maxRecDepth 100000
set_option maxHeartbeats 2000000
namespace EV
open PySem PySem.Spec PyProof.Rows L2
section
variable {c : Cf} {N : List Str} {X : Cx} {sc : Sc} {W : XK} {a b d e : E} {x y w : Expr} {pos : Pos}
theorem biI_else {G : Pg} {κ : Nat → List D → St → R D} {b : Bi} {ds : List D} {S : St} (h : b ≠ .len ∧ b ≠ .str) : biI G κ b ds S = R.opt (biD b (ds.map (view S))) S := by
  obtain ⟨h1, h2⟩ := h
  cases b <;> first | (exact absurd rfl h1) | (exact absurd rfl h2) | rfl
theorem view_rels {L : Lay} {A : List Addr} {S : St} {H : Hp} (C : Cells L A S H) : ∀ {ds : List D} {vs : List V}, Rels L A H ds vs → List.length ds = vs.length ∧ ∀ (i : Nat) d, (ds.map (view S))[i]? = some d → ∃ x, vs[i]? = some x ∧ RelW L A H d x := by
  intro ds vs r
  refine ⟨r.len, fun i d h => ?_⟩
  rw [List.getElem?_map, Option.map_eq_some_iff] at h
  obtain ⟨d0, h1, rfl⟩ := h
  obtain ⟨x, h2, h3⟩ := r.get h1
  exact ⟨x, h2, view_rel C h3⟩
theorem cr_from {f : Value} {b : Bi} (hb : b ≠ .len ∧ b ≠ .str) (h : ∀ {pins : List (Addr × Obj)} {s : Shared} {σ : L2.St} {H : Hp} {vs : List V} {us : List Value} {Q : VK} {z : List Addr} {A : List Addr} {S : St} {ds : List D} {d : D},
      Inv X pins σ H s → Vals vs us → Cells (c.lay X.K z) A S H → ds.length = vs.length → (∀ (i : Nat) d, ds[i]? = some d → ∃ x, vs[i]? = some x ∧ RelW (c.lay X.K z) A H d x) → biD b ds = some d → Post (c.lay X.K z) W A H (Rel (c.lay X.K z)) (.ok d S) Q →
      wpAny (model X.prog X.w) X.A (call f us) (EP X pins σ Q) X.xe s) : CallR X f (rBi c X.K W b) := by
  intro pins s σ H vs us Q I r ⟨z, A, S, ds, hc, rr, p⟩
  rw [biI_else hb] at p
  obtain ⟨d, e, q⟩ := p.opt
  obtain ⟨l, k⟩ := view_rels hc rr
  exact h I r hc (by rw [List.length_map, l]) k e q
theorem one_of {L : Lay} {A : List Addr} {H : Hp} {d : D} {vs : List V} (hl : [d].length = vs.length) (k : ∀ (i : Nat) e, [d][i]? = some e → ∃ x, vs[i]? = some x ∧ RelW L A H e x) : ∃ x, vs = [x] ∧ RelW L A H d x := by
  obtain ⟨x, h1, h2⟩ := k 0 d rfl
  match vs, hl, h1 with
  | [y], _, h1 => exact ⟨y, rfl, by cases h1; exact h2⟩
theorem two_of {L : Lay} {A : List Addr} {H : Hp} {d e : D} {vs : List V} (hl : [d, e].length = vs.length) (k : ∀ (i : Nat) f, [d, e][i]? = some f → ∃ x, vs[i]? = some x ∧ RelW L A H f x) : ∃ x y, vs = [x, y] ∧ RelW L A H d x ∧ RelW L A H e y := by
  obtain ⟨x, h1, h2⟩ := k 0 d rfl
  obtain ⟨y, h3, h4⟩ := k 1 e rfl
  match vs, hl, h1, h3 with
  | [x', y'], _, h1, h3 => exact ⟨x', y', rfl, by cases h1; exact h2, by cases h3; exact h4⟩
theorem cr_abs : CallR X (.builtin "abs") (rBi c X.K W .abs) := cr_from (by decide) fun {pins s σ H vs us Q z A S ds d} I r hc hl k h p => by
  unfold biD at h
  split at h <;> first | (simp only [reduceCtorEq] at *; done) | skip
  cases h
  obtain ⟨x, rfl, rx⟩ := one_of hl k
  rw [rx.int] at r
  exact call_abs pins s σ H _ us Q I r ⟨_, rfl, p.ok hc rel_int⟩
theorem cr_max2 (g : Good c N X sc W) : CallR X (.builtin "max") (rBi c X.K W .max2) := cr_from (by decide) fun {pins s σ H vs us Q z A S ds d} I r hc hl k h p => by
  unfold biD at h
  split at h <;> first | (simp only [reduceCtorEq] at *; done) | skip
  cases h
  obtain ⟨x, y, rfl, rx, ry⟩ := two_of hl k
  rw [rx.int, ry.int] at r
  exact call_max2 g.calm pins s σ H _ us Q I r ⟨_, _, rfl, p.ok hc rel_int⟩
theorem cr_min2 (g : Good c N X sc W) : CallR X (.builtin "min") (rBi c X.K W .min2) := cr_from (by decide) fun {pins s σ H vs us Q z A S ds d} I r hc hl k h p => by
  unfold biD at h
  split at h <;> first | (simp only [reduceCtorEq] at *; done) | skip
  cases h
  obtain ⟨x, y, rfl, rx, ry⟩ := two_of hl k
  rw [rx.int, ry.int] at r
  exact call_min2 g.calm pins s σ H _ us Q I r ⟨_, _, rfl, p.ok hc rel_int⟩
theorem cr_max1 (g : Good c N X sc W) : CallR X (.builtin "max") (rBi c X.K W .max1) := cr_from (by decide) fun {pins s σ H vs us Q z A S ds d} I r hc hl k h p => by
  unfold biD at h
  split at h <;> first | (simp only [reduceCtorEq] at *; done) | skip
  rename_i xs
  rw [Option.bind_eq_some_iff] at h
  obtain ⟨ns, e, h⟩ := h
  cases ns with
  | nil => cases h
  | cons n ns =>
    cases h
    obtain ⟨x, rfl, l, vs, rfl, q, rs⟩ := one_of hl k
    rw [intsOf_eq e] at rs
    rw [rels_ints rs] at q
    refine cr_max g.calm pins s σ H _ us Q I r ⟨l, n :: ns, rfl, q, by simp, fun m hm hy => ?_⟩
    obtain ⟨h1, h2⟩ := foldl_max (ns := ns) n
    have : m = ns.foldl max n := Int.le_antisymm (h2 m hm) (hy _ h1)
    rw [this]
    exact p.ok hc rel_int
theorem cr_min1 (g : Good c N X sc W) : CallR X (.builtin "min") (rBi c X.K W .min1) := cr_from (by decide) fun {pins s σ H vs us Q z A S ds d} I r hc hl k h p => by
  unfold biD at h
  split at h <;> first | (simp only [reduceCtorEq] at *; done) | skip
  rename_i xs _
  rw [Option.or_eq_some_iff] at h
  rcases h with h | ⟨_, h⟩
  · rw [Option.bind_eq_some_iff] at h
    obtain ⟨ns, ei, h⟩ := h
    cases ns with
    | nil => cases h
    | cons n ns =>
      cases h
      obtain ⟨x, rfl, l, vs, rfl, q, rs⟩ := one_of hl k
      rw [intsOf_eq ei] at rs
      rw [rels_ints rs] at q
      refine cr_min g.calm pins s σ H _ us Q I r ⟨l, n :: ns, rfl, q, by simp, fun m hm hy => ?_⟩
      obtain ⟨h1, h2⟩ := foldl_min (ns := ns) n
      have : m = ns.foldl min n := Int.le_antisymm (hy _ h1) (h2 m hm)
      rw [this]
      exact p.ok hc rel_int
  · split at h
    · rename_i hok
      cases xs with
      | nil => cases h
      | cons y ys =>
        cases h
        obtain ⟨x, rfl, l, vs, rfl, q, rs⟩ := one_of hl k
        obtain ⟨u, rfl, ru⟩ := Vals.one r
        cases (show u = Value.ref l from ru)
        obtain ⟨its, rv, pl, hz⟩ := I.list q
        obtain ⟨hd, _, _, _⟩ := sort_facts hok
        obtain ⟨as, hr⟩ := Dp.readsAll I _ _ its (dpAll_of hd rs) rv
        obtain ⟨i, hi, he⟩ := best_at hok
        have hdep := depthAll_le (n := 12) (xs := y :: ys) fun d m => depth_12 (hd d m)
        have hpl : (pds ys).length = ys.length := by rw [pds_map, List.length_map]
        refine min_list_at (I.ok.hd g.calm) pl.isList (x := pd y) (xs := pds ys) hr (sort_alike hok) (by have := g.room.un; simp only [pds] at hdep; omega) fun v h' tk hv hk => ?_
        rw [hpl] at hv
        have hi' : argBest (fun i j => PySem.W.dataLt ((pd y :: pds ys).getD i .none) ((pd y :: pds ys).getD j .none)) ys.length = i := hi
        rw [hi'] at hv
        obtain ⟨x1, hx1, r1⟩ := rs.get he
        obtain ⟨u1, hu1, v1⟩ := Vals.get rv hx1
        have : u1 = v := by
          rw [List.getElem?_toArray, hu1] at hv; cases hv; rfl
        subst this
        exact ⟨x1, H, I.kept hk, v1, p.ok hc r1⟩
    · cases h
theorem cr_sumE (g : Good c N X sc W) : CallR X (.builtin "sum") (rBi c X.K W .sum) := cr_from (by decide) fun {pins s σ H vs us Q z A S ds d} I r hc hl k h p => by
  unfold biD at h
  split at h <;> first | (simp only [reduceCtorEq] at *; done) | skip
  rw [Option.map_eq_some_iff] at h
  obtain ⟨ns, e, rfl⟩ := h
  obtain ⟨x, rfl, l, vs, rfl, q, rs⟩ := one_of hl k
  rw [intsOf_eq e] at rs
  rw [rels_ints rs] at q
  exact cr_sum g.calm pins s σ H _ us Q I r ⟨l, ns, rfl, q, p.ok hc rel_int⟩
theorem cr_allE (g : Good c N X sc W) : CallR X (.builtin "all") (rBi c X.K W .all) := cr_from (by decide) fun {pins s σ H vs us Q z A S ds d} I r hc hl k h p => by
  unfold biD at h
  split at h <;> first | (simp only [reduceCtorEq] at *; done) | skip
  rw [Option.map_eq_some_iff] at h
  obtain ⟨ns, e, rfl⟩ := h
  obtain ⟨x, rfl, l, vs, rfl, q, rs⟩ := one_of hl k
  rw [blsOf_eq e] at rs
  rw [rels_bls rs] at q
  exact cr_all g.calm pins s σ H _ us Q I r ⟨l, ns, rfl, q, p.ok hc rel_bl⟩
theorem cr_anyE (g : Good c N X sc W) : CallR X (.builtin "any") (rBi c X.K W .any) := cr_from (by decide) fun {pins s σ H vs us Q z A S ds d} I r hc hl k h p => by
  unfold biD at h
  split at h <;> first | (simp only [reduceCtorEq] at *; done) | skip
  rw [Option.map_eq_some_iff] at h
  obtain ⟨ns, e, rfl⟩ := h
  obtain ⟨x, rfl, l, vs, rfl, q, rs⟩ := one_of hl k
  rw [blsOf_eq e] at rs
  rw [rels_bls rs] at q
  exact cr_any g.calm pins s σ H _ us Q I r ⟨l, ns, rfl, q, p.ok hc rel_bl⟩
theorem cr_intE : CallR X (.type "int") (rBi c X.K W .int) := cr_from (by decide) fun {pins s σ H vs us Q z A S ds d} I r hc hl k h p => by
  unfold biD at h
  split at h <;> first | (simp only [reduceCtorEq] at *; done) | skip
  · cases h
    obtain ⟨x, rfl, rx⟩ := one_of hl k
    rw [rx.int] at r
    exact call_int1 pins s σ H _ us Q I r (.inl ⟨_, rfl, p.ok hc rel_int⟩)
  · cases h
    obtain ⟨x, rfl, rx⟩ := one_of hl k
    rw [rx.bl] at r
    exact call_int1 pins s σ H _ us Q I r (.inr ⟨_, rfl, p.ok hc rel_int⟩)
  · rename_i t _
    split at h
    · rename_i hz
      cases h
      obtain ⟨x, rfl, rx⟩ := one_of hl k
      rw [rx.str] at r
      refine call_int_str pins s σ H _ us Q I r ⟨SS t, ((numVal 0 t : Nat) : Int), rfl, ?_, ?_, p.ok hc rel_int⟩
      · refine intText_digits (x := SS t) (fun c hc => ?_) hz.1 (by rw [SS_len]; omega)
        have := List.all_eq_true.mp hz.2.2 c hc
        simpa only [Bool.and_eq_true, decide_eq_true_eq] using this
      · rw [SS_len]; omega
    · cases h
theorem cr_repr (g : Good c N X sc W) : CallR X (.builtin "repr") (rBi c X.K W .repr) := cr_from (by decide) fun {pins s σ H vs us Q z A S ds d} I r hc hl k h p => by
  unfold biD at h
  split at h <;> first | (simp only [reduceCtorEq] at *; done) | skip
  rename_i d0 _
  split at h
  · rename_i hd
    rw [Option.bind_eq_some_iff] at h
    obtain ⟨t, e, h⟩ := h
    split at h
    · rename_i hz
      cases h
      obtain ⟨x, rfl, rx⟩ := one_of hl k
      have q : Q (.str (SS t)) H := p.ok hc rel_str
      obtain ⟨h1, h2⟩ := repr_shown d0 t e
      have hsz : (SS t).length ≤ sizeLine := by rw [SS_len, ← line_eq]; exact hz
      obtain ⟨u, rfl, ru⟩ := Vals.one r
      cases d0 with
      | non =>
        rw [rx.non] at ru
        cases (show u = Value.none from ru)
        refine PySem.P.repr_of_none ⟨.str _, H, I.tok _, ⟨_, rfl⟩, ?_⟩
        have : Str.ofString "None" = SS t := h1
        rw [this]; exact q
      | bl b =>
        rw [rx.bl] at ru
        cases (show u = Value.bool b from ru)
        refine PySem.P.repr_of_bool ⟨.str _, H, I.tok _, ⟨_, rfl⟩, ?_⟩
        have : (if b = true then Str.ofString "True" else Str.ofString "False") = SS t := by rw [← h1]; cases b <;> rfl
        rw [this]; exact q
      | int i =>
        rw [rx.int] at ru
        obtain ⟨tk, rfl⟩ := ru
        refine PySem.P.repr_of_int (by simpa [pd, PyData.showable] using h2) ⟨.str _, H, I.tok _, ⟨_, rfl⟩, ?_⟩
        have : Str.ofString (toString i) = SS t := h1
        rw [this]; exact q
      | str x =>
        rw [rx.str] at ru
        obtain ⟨tk, rfl⟩ := ru
        have e1 : reprText (SS x) = SS t := h1
        refine PySem.P.repr_of_str ⟨.str _, H, I.tok _, ⟨_, rfl⟩, ?_⟩ (by rw [e1]; exact hsz)
        rw [e1]; exact q
      | tup ds =>
        obtain ⟨as, hr⟩ := Dp.reads I _ _ _ (dp_of 12 hd rx) ru
        obtain ⟨a, vs, rfl, _⟩ := rx
        cases (show u = Value.ref a from ru)
        obtain ⟨hl0, hd0⟩ := datN_shaped 12 _ hd
        exact repr_of_reads' hr h2 (PyData.noDict_hsm (PyData.hasDict_of_canLay _ hl0)) g.gd (by have := g.room.units; omega) (fun _ _ e => e) (fun h' u tk hk => ⟨.str _, H, I.kept hk, ⟨_, rfl⟩, by rw [h1]; exact q⟩) (by rw [h1]; exact hsz)
      | lst ds =>
        obtain ⟨as, hr⟩ := Dp.reads I _ _ _ (dp_of 12 hd rx) ru
        obtain ⟨a, vs, rfl, _⟩ := rx
        cases (show u = Value.ref a from ru)
        obtain ⟨hl0, hd0⟩ := datN_shaped 12 _ hd
        exact repr_of_reads' hr h2 (PyData.noDict_hsm (PyData.hasDict_of_canLay _ hl0)) g.gd (by have := g.room.units; omega) (fun _ _ e => e) (fun h' u tk hk => ⟨.str _, H, I.kept hk, ⟨_, rfl⟩, by rw [h1]; exact q⟩) (by rw [h1]; exact hsz)
      | _ => simp [reprD] at e
    · cases h
  · cases h
theorem cr_bool : CallR X (.type "bool") (rBi c X.K W .bool) := cr_from (by decide) fun {pins s σ H vs us Q z A S ds d} I r hc hl k h p => by
  unfold biD at h
  split at h <;> first | (simp only [reduceCtorEq] at *; done) | skip
  cases h
  obtain ⟨x, rfl, rx⟩ := one_of hl k
  rw [rx.bl] at r
  exact call_bool1 pins s σ H _ us Q I r (.inr ⟨_, rfl, p.ok hc rel_bl⟩)
def biVal : Bi → Value
  | .len => .builtin "len" | .abs => .builtin "abs" | .max2 => .builtin "max" | .min2 => .builtin "min" | .max1 => .builtin "max" | .min1 => .builtin "min" | .sum => .builtin "sum" | .all => .builtin "all" | .any => .builtin "any"
  | .int => .type "int" | .str => .type "str" | .repr => .builtin "repr" | .bool => .type "bool"
theorem cr_bi (g : Good c N X sc W) : ∀ b : Bi, CallR X (biVal b) (rBi c X.K W b)
  | .len => cr_len g | .abs => cr_abs | .max2 => cr_max2 g | .min2 => cr_min2 g | .max1 => cr_max1 g | .min1 => cr_min1 g | .sum => cr_sumE g | .all => cr_allE g | .any => cr_anyE g
  | .int => cr_intE | .str => cr_str g | .repr => cr_repr g | .bool => cr_bool
theorem s_bi (g : Good c N X sc W) {bi : Bi} {es : E} {e1 : Expr} {xs : List Expr} {p' : Pos} (hg : Gl X (biName bi)) (hn : (e1 :: xs).all (fun x => !isStar x) = true) (ha : okEs c X W es (e1 :: xs)) : okE c X W (.bi bi es) (.Call (.Name (biName bi) p') (e1 :: xs) [] pos) := by
  have hm : X.mg (biName bi) = none := g.fs.free _ (by cases bi <;> decide)
  have main : PE X (.Call (.Name (biName bi) p') (e1 :: xs) [] pos) (tCB (rBi c X.K W bi) (tEs c X.K W es)) := by
    have hc := cr_bi (W := W) g bi
    have h1 : isStar e1 = false := by rw [List.all_cons, Bool.and_eq_true, Bool.not_eq_true'] at hn; exact hn.1
    have h2 : xs.all (fun x => !isStar x) = true := by rw [List.all_cons, Bool.and_eq_true] at hn; exact hn.2
    cases bi <;> first | exact pe_callB hc hg hm (by decide +kernel) ha (by decide) (by decide) (starEach_cons h1) (noStar_any h2) | exact pe_callTy hc hg hm (by decide +kernel) ha (by decide) (by decide) (starEach_cons h1) (noStar_any h2)
  refine PE.mono main fun σ H Q ⟨z, A, S, v, hv, hc, h⟩ => ?_
  simp only [ev] at h
  obtain ⟨z', A', S', v', hv', hc', p⟩ := tR_bind (rel := Rels) hv hc h
  exact ⟨z', A', S', v', hv', hc', p.imp fun x1 H1 ⟨A1, S1, d1, g1, e1, c1, r1, p1⟩ => ⟨z, A1, S1, d1, c1, r1, p1⟩⟩
end
end EV
set_option Elab.async false
set_option linter.all false
set_option maxRecDepth 100000
set_option maxHeartbeats 2000000
namespace EV
open PySem PySem.Spec PyProof.Rows L2
section
variable {c : Cf} {N : List Str} {X : Cx} {sc : Sc} {W : XK} {a b d e : E} {x y w : Expr} {pos : Pos}
theorem s_isb {b ng : Bool} {k : Nat} {p' : Pos} (ha : okE c X W a x) : okE c X W (.isb a b ng) (.Compare x [if ng then .IsNot else .Is] [.Constant (.bool b) k p'] pos) := by
  have main : ∀ {σ : L2.St} {H : Hp} {Q : VK}, tE c X.K W (.isb a b ng) σ H Q → tE c X.K W a σ H fun x H1 => ∃ t, x = .bl t ∧ Q (.bl (decide (t = b) != ng)) H1 := fun {σ H Q} ⟨z, A, S, v, hv, hc, h⟩ => by
    simp only [ev] at h
    obtain ⟨z', A', S', v', hv', hc', p⟩ := tR_bind (rel := Rel) hv hc h
    refine ⟨z', A', S', v', hv', hc', p.imp fun x1 H1 ⟨A1, S1, d1, g1, e1, c1, r1, p1⟩ => ?_⟩
    cases d1 with
    | bl t => exact ⟨t, r1.w.bl, p1.ok c1 rel_bl⟩
    | _ => exact p1.elim
  cases ng with
  | false =>
    refine PE.mono (pe_cmpR op_isBl ha pe_bl rfl) fun σ H Q h => ?_
    obtain ⟨z', A', S', v', hv', hc', p⟩ := main h
    exact ⟨z', A', S', v', hv', hc', p.imp fun x1 H1 ⟨t, e, q⟩ => ⟨t, b, e, rfl, by simpa using q⟩⟩
  | true =>
    refine PE.mono (pe_cmpR op_notBl ha pe_bl rfl) fun σ H Q h => ?_
    obtain ⟨z', A', S', v', hv', hc', p⟩ := main h
    exact ⟨z', A', S', v', hv', hc', p.imp fun x1 H1 ⟨t, e, q⟩ => ⟨t, b, e, rfl, by simpa using q⟩⟩
def tyV (c : Cf) : D → Option Value
  | .non => some (.type "NoneType") | .bl _ => some (.type "bool") | .int _ => some (.type "int") | .str _ => some (.type "str")
  | .tup _ => some (.type "tuple") | .lst _ => some (.type "list") | .dct _ _ => some (.type "dict")
  | .ins k _ => if (c.G.cl k).isSome then some (.ref (c.cad k)) else none
  | _ => none
theorem tyX_of (F : Facts c X) {z : List Addr} {A : List Addr} {H : Hp} {d : D} {x : V} {t : Value} (r : RelW (c.lay X.K z) A H d x) (h : tyV c d = some t) : TyX X.K H x t := by
  cases d with
  | non => cases h; rw [r.non]; exact .base .non
  | bl b => cases h; rw [r.bl]; exact .base (.bl _)
  | int b => cases h; rw [r.int]; exact .base (.int _)
  | str b => cases h; rw [r.str]; exact .base (.str _)
  | tup ds =>
    cases h
    obtain ⟨a, vs, rfl, q, _⟩ := r
    rcases q.t with (e | ⟨o, e⟩) | ⟨o, its, n, e1, e2, _⟩
    · exact .base (.tup e)
    · exact .fTuple e
    · exact .kTuple e1 e2
  | lst ds =>
    cases h
    obtain ⟨a, vs, rfl, q, _⟩ := r
    rcases q with (e | ⟨o, e⟩) | ⟨o, its, n, e1, e2, _⟩
    · exact .base (.lst e)
    · exact .base (.frz e)
    · exact .kList e1 e2
  | dct ks ds =>
    cases h
    obtain ⟨a, vs, rfl, q, _⟩ := r
    rcases q with q | ⟨od, q⟩
    · exact .base (.dK q)
    · exact .fDict q
  | ins k ds =>
    obtain ⟨a, dx, vs, rfl, q, _⟩ := ins_of r
    simp only [tyV] at h
    split at h
    · rename_i hk
      cases h
      obtain ⟨cr, hk⟩ := Option.isSome_iff_exists.mp hk
      have G := F.cl k cr hk
      exact .base (.ins q G.ins.cls G.ins.ha G.ins.hn G.ins.htk G.ins.hm)
    · cases h
  | _ => cases h
def tyU (c : Cf) : Ty → Value
  | .cls k => .ref (c.cad k)
  | t => .type (tyN t)
def tyW (c : Cf) : Ty → V
  | .cls k => .ref (c.cad k)
  | t => .ty (tyN t)
def tyX (c : Cf) : Ty → Str
  | .cls k => c.nm.cnm k
  | t => tyN t
theorem cls_v (t : Ty) : ClsV (tyW c t) (tyU c t) := by cases t <;> first | exact .ty _ | exact .own _
theorem kit_is (F : Facts c X) {d : D} {t : Ty} {u : Value} (h : tyV c d = some u) (ht : ∀ k, t = .cls k → (c.G.cl k).isSome = true) : PySem.W.kitOne X.K u (tyU c t) = some (isTy c.G d t) := by
  have main : ∀ n : String, (n = "NoneType" ∨ n = "bool" ∨ n = "int" ∨ n = "str" ∨ n = "list" ∨ n = "tuple" ∨ n = "dict") → ∀ t : Ty, (∀ k, t = .cls k → (c.G.cl k).isSome = true) → PySem.W.kitOne X.K (.type n) (tyU c t) = some (match t with
      | .cls _ => false
      | t => n == tyN t || (n == "bool" && t == .int)) := by
    intro n hn t ht
    cases t with
    | cls k =>
      obtain ⟨cr, hk⟩ := Option.isSome_iff_exists.mp (ht k rfl)
      exact (F.cl k cr hk).kitT n (by rcases hn with rfl | rfl | rfl | rfl | rfl | rfl | rfl <;> decide)
    | _ => rcases hn with rfl | rfl | rfl | rfl | rfl | rfl | rfl <;> exact kit_ty (by decide +kernel)
  cases d with
  | ins k ds =>
    simp only [tyV] at h
    split at h
    · rename_i hk
      cases h
      obtain ⟨cr, hk⟩ := Option.isSome_iff_exists.mp hk
      have G := F.cl k cr hk
      cases t with
      | cls k2 =>
        obtain ⟨cr2, hk2⟩ := Option.isSome_iff_exists.mp (ht k2 rfl)
        have := (F.cl k2 cr2 hk2).kitO k cr hk
        rw [show tyU c (.cls k2) = .ref (c.cad k2) from rfl, this]
        simp only [isTy, hk]
      | _ => first | exact G.kitB _ (by decide)
    · cases h
  | cell _ => cases h
  | cls _ => cases h
  | clo _ _ => cases h
  | _ =>
    cases h
    rw [main _ (by simp) t ht]
    cases t <;> first | rfl | decide
theorem pe_tyB (F : Facts c X) (n : String) (hm : (n : Str) ∈ ([("len" : Str), "abs", "max", "min", "sum", "all", "any", "int", "str", "repr", "bool", "range", "zip", "enumerate", "list", "tuple", "sorted", "set", "dict", "isinstance", "divmod"] : List Str)) (hv : bootBuiltins (n : Str) = some (.type n)) (hn : (n : Str) ≠ "__name__") (hg : Gl X (n : Str)) (hd : ((n : Str) == ("__debug__" : Str)) = false) : PE X (.Name (n : Str) pos) (fun _ H Q => Q (.ty n) H) :=
  ⟨fun pins s σ H Q I h => ld_blt I hg (F.free _ hm) hv ⟨.ty n, H, I, rfl, h⟩ hn hd⟩
theorem pe_tyN (F : Facts c X) {t : Ty} (hg : Gl X (tyX c t)) (hd : (tyX c t == ("__debug__" : Str)) = false) (ht : ∀ k, t = .cls k → (c.G.cl k).isSome = true) : PE X (.Name (tyX c t) pos) (fun _ H Q => Q (tyW c t) H) := by
  cases t with
  | cls k =>
    obtain ⟨cr, hk⟩ := Option.isSome_iff_exists.mp (ht k rfl)
    exact ⟨fun pins s σ H Q I h => ld_glob I hg (F.cl k cr hk).gl ⟨.ref (c.cad k), H, I, rfl, h⟩ hd⟩
  | str => exact pe_tyB F "str" (by decide) (by decide +kernel) (by decide) hg hd
  | int => exact pe_tyB F "int" (by decide) (by decide +kernel) (by decide) hg hd
  | bool => exact pe_tyB F "bool" (by decide) (by decide +kernel) (by decide) hg hd
  | tuple => exact pe_tyB F "tuple" (by decide) (by decide +kernel) (by decide) hg hd
  | list => exact pe_tyB F "list" (by decide) (by decide +kernel) (by decide) hg hd
  | dict => exact pe_tyB F "dict" (by decide) (by decide +kernel) (by decide) hg hd
theorem s_isi (g : Good c N X sc W) {t : Ty} {p' p2 : Pos} (ha : okE c X W a x) (hs : isStar x = false) (hgi : Gl X "isinstance") (hg : Gl X (tyX c t)) (hd : (tyX c t == ("__debug__" : Str)) = false) (ht : ∀ k, t = .cls k → (c.G.cl k).isSome = true) :
    okE c X W (.isi a t) (.Call (.Name "isinstance" p') [x, .Name (tyX c t) p2] [] pos) := by
  refine PE.mono (pe_callB call_isi hgi (g.fs.free _ (by decide)) (by decide +kernel) (pa_cons ha (pa_cons (pe_tyN g.fs hg hd ht) pa_nil) (starEach_cons hs)) (by decide) (by decide) (starEach_cons hs)) fun σ H Q ⟨z, A, S, v, hv, hc, h⟩ => ?_
  simp only [ev] at h
  obtain ⟨z', A', S', v', hv', hc', p⟩ := tR_bind (rel := Rel) hv hc h
  refine ⟨z', A', S', v', hv', hc', p.imp fun x1 H1 ⟨A1, S1, d1, g1, e1, c1, r1, p1⟩ => ?_⟩
  split at p1
  · rename_i hk
    have w := view_rel c1 r1
    obtain ⟨u, hu⟩ : ∃ u, tyV c (view S1 d1) = some u := by
      cases hv : view S1 d1 with
      | ins k ds =>
        rw [hv] at hk
        exact ⟨_, if_pos hk⟩
      | cell _ => rw [hv] at hk; cases hk
      | cls _ => rw [hv] at hk; cases hk
      | clo _ _ => rw [hv] at hk; cases hk
      | _ => exact ⟨_, rfl⟩
    exact ⟨x1, tyW c t, u, tyU c t, _, rfl, cls_v t, tyX_of g.fs w hu, kit_is g.fs hu ht, p1.ok c1 rel_bl⟩
  · exact p1.elim
theorem s_divmod (g : Good c N X sc W) {p' : Pos} (ha : okE c X W a x) (hb : okE c X W b y) (hs : isStar x = false) (hs2 : isStar y = false) (hg : Gl X "divmod") : okE c X W (.divmod a b) (.Call (.Name "divmod" p') [x, y] [] pos) := by
  refine PE.mono (pe_callB call_divmod hg (g.fs.free _ (by decide)) (by decide +kernel) (pa_cons ha (pa_cons hb pa_nil (starEach_cons hs2)) (starEach_cons hs)) (by decide) (by decide) (starEach_cons hs) (by rw [starEach_cons hs2]; rfl)) fun σ H Q ⟨z, A, S, v, hv, hc, h⟩ => ?_
  simp only [ev] at h
  obtain ⟨z', A', S', v', hv', hc', p⟩ := tR_bind (rel := Rel) hv hc h
  refine ⟨z', A', S', v', hv', hc', p.imp fun x1 H1 ⟨A1, S1, d1, g1, e1, c1, r1, p1⟩ => ?_⟩
  obtain ⟨z2, A2, S2, v2, hv2, hc2, p2⟩ := tR_bind (rel := Rel) e1 c1 p1
  refine ⟨z2, A2, S2, v2, hv2, hc2, p2.imp fun x2 H2 ⟨A3, S3, d2, g2, e2, c2, r2, p3⟩ => ?_⟩
  cases d1 with
  | int i => cases d2 with
    | int j =>
      have p5 : Post (c.lay X.K z) W A3 H2 (Rel (c.lay X.K z)) (if 0 < j ∧ j < 1073741824 then .ok (.tup [.int (i / j), .int (i % j)]) S3 else .no) Q := p3
      split at p5
      · rename_i hj
        refine ⟨i, j, by rw [(r1.grow g2).w.int, r2.w.int], hj, fun q hq => post_tup p5 c2 (.cons rel_int (.cons rel_int .nil)) hq⟩
      · exact p5.elim
    | _ => exact (show False from p3).elim
  | _ => exact (show False from p3).elim
end
end EV
set_option Elab.async false
set_option linter.all false
set_option maxRecDepth 100000
set_option maxHeartbeats 2000000
namespace EV
open PySem PySem.Spec PyProof.Rows L2
section
variable {c : Cf} {N : List Str} {X : Cx} {sc : Sc} {W : XK} {a b d e : E} {x y w : Expr} {pos : Pos}
def RetP (X : Cx) (pins : List (Addr × Obj)) (σ : L2.St) (Q : VK) (r : Result) (s' : Shared) : Prop := ∃ u, r = .ok (.ret u) ∧ EP X pins σ Q u s'
theorem run_cA {A' : Around} {f : Nat} (F : FnF c X f) (hgd : A'.guards = some []) (hr : Room c.lv A') (nox : ∀ l H s e s', c.CX l H s (fun _ _ _ => False) e s' → False) {pins : List (Addr × Obj)} {σ : L2.St} {H : Hp} {s : Shared} {Q : VK} {us : List Value} {vs : List V} {z : List Addr} {A : List Addr} {S : St} {ds : List D}
    (I : Inv X pins σ H s) (he : Env0 X.prog X.w X.K X.mg X.base A' X.stack s H) (r : Vals vs us) (hc : Cells (c.lay X.K z) A S H) (rr : Rels (c.lay X.K z) A H ds vs) (p : Post (c.lay X.K z) (fun _ _ _ => False) A H (Rel (c.lay X.K z)) (c.κ f ds S) Q) :
    codeAny (model X.prog X.w) A' (.call (.ref (c.ad f)) ⟨us, []⟩) (RetP X pins σ Q) s := by
  have hl : ds.length = (c.nm.fps f).length := by
    by_cases hl : ds.length = (c.nm.fps f).length
    · exact hl
    · rw [F.len ds S hl] at p; exact p.elim
  have hl2 : (us ++ []).length = (c.nm.fps f).length := by rw [List.append_nil, ← r.length, ← rr.len, hl]
  have hB := F.bd s us I.kIn hl2
  rw [List.append_nil] at hB
  refine codeAny_mono (F.ok.run A' X.stack s H ⟨us, []⟩ us vs Q (fun _ _ _ => False) hgd hr he hB r ⟨z, A, S, ds, hl, hc, rr, p⟩) fun r s' hq => ?_
  cases r with
  | error e => exact (nox _ _ _ _ _ hq).elim
  | ok fl =>
    cases fl with
    | ret u => exact ⟨u, rfl, I.after hq⟩
    | next => exact False.elim hq
    | brk => exact False.elim hq
    | cont => exact False.elim hq
def noSup : Expr → Bool
  | .Call (.Name _ _) [] [] _ => false
  | _ => true
theorem attrBase {o : Expr} {f : Str} {env : PySem.Env} {t : Sem Value} (h : noSup o = true) : attributeBase o f env t = t := by
  unfold attributeBase
  split
  · cases h
  · rfl
theorem meth_call {M : Model} {A : Around} {E : Value → Shared → Prop} {s : Shared} {env : PySem.Env} {o : Expr} {name : Str} {apos pos : Pos} {args : List Expr} {kws : List Keyword} {Q : Value → Shared → Prop} (hn : noSup o = true) (hp : (apos.endLine == pos.line) = true)
    (hf : args.length + kws.length < 29) (h1 : (backTo pos (starEach args env)).all (!·.1) = true) (h2 : (backToKw pos (keywordEach kws env)).all (·.1.isSome) = true)
    (h : ∀ pl : Sem Bool, wpAny M A (eval o env) (fun ov s₁ => wpAny M A (getMethod ov name pl) (fun fx s₂ => wpAny M A (callWith pos fx.1 fx.2 (backTo pos (starEach args env)) (backToKw pos (keywordEach kws env))) Q E s₂) E s₁) E s) :
    wpAny M A (eval (.Call (.Attribute o name apos) args kws pos) env) Q E s := by
  rw [arm_eval_Call, attrBase hn]
  refine wpAny_bind (wpAny_mono (h (do return (← importBound o env).getD true)) (fun ov s₁ h₁ => wpAny_bind (wpAny_standAt ?_)) fun _ _ x => x)
  have few : methodCallForm (args.length + kws.length) (backTo pos (starEach args env)) (backToKw pos (keywordEach kws env)) = true := by
    unfold methodCallForm
    rw [h1, h2, Bool.true_and, Bool.true_and, decide_eq_true_eq]
    split <;> omega
  unfold methodCall
  rw [few]
  refine wpAny_bind (wpAny_holding ?_)
  show wpAny M A (getMethod ov name (do return (← importBound o env).getD true)) _ E s₁
  refine wpAny_mono h₁ (fun fx s₂ h₂ => ?_) fun _ _ x => x
  unfold methodCallPos
  rw [hp]
  exact wpAny_bind (wpAny_pure h₂)
theorem zip_lookup {α : Type} {n : Str} : ∀ {xs : List Str} {vs : List α} {i : Nat} {v : α}, xs.Nodup → xs[i]? = some n → vs[i]? = some v → (xs.zip vs).lookup n = some v
  | [], _, i, _, _, h, _ => by simp at h
  | _ :: _, [], i, _, _, _, h => by simp at h
  | x :: xs, v :: vs, 0, w, nd, h1, h2 => by
    simp only [List.getElem?_cons_zero, Option.some.injEq] at h1 h2
    subst h1 h2
    simp [List.zip_cons_cons, List.lookup]
  | x :: xs, v :: vs, i + 1, w, nd, h1, h2 => by
    simp only [List.getElem?_cons_succ] at h1 h2
    have hne : (n == x) = false := by
      rw [beq_eq_false_iff_ne]
      intro e
      subst e
      exact (List.nodup_cons.mp nd).1 (List.mem_of_getElem? h1)
    rw [List.zip_cons_cons, List.lookup_cons, hne]
    exact zip_lookup (List.nodup_cons.mp nd).2 h1 h2
theorem zip_none {α : Type} {n : Str} : ∀ {xs : List Str} {vs : List α}, n ∉ xs → (xs.zip vs).lookup n = none
  | [], _, _ => rfl
  | _ :: _, [], _ => rfl
  | x :: xs, v :: vs, h => by
    have hne : (n == x) = false := by
      rw [beq_eq_false_iff_ne]
      intro e; subst e; exact h List.mem_cons_self
    rw [List.zip_cons_cons, List.lookup_cons, hne]
    exact zip_none fun hm => h (List.mem_cons_of_mem _ hm)
theorem rels_get' {L : Lay} {A : List Addr} {H : Hp} {ds : List D} {vs : List V} (r : Rels L A H ds vs) {i : Nat} {d : D} (h : ds[i]? = some d) : ∃ v, vs[i]? = some v ∧ Rel L A H d v := r.get h
theorem s_atr (g : Good c N X sc W) {k : Nat} (ha : okE c X W a x) (hn : noSup x = true) : okE c X W (.atr a k) (.Attribute x (c.nm.anm k) pos) := by
  refine ⟨fun pins s σ H Q I ⟨z, A, S, v, hv, hc, h⟩ => ?_⟩
  simp only [ev] at h
  refine attr_of (attrBase hn) (thn (ha.run pins s σ H _ I (tR_bind (rel := Rel) hv hc h)) fun u s1 ⟨x1, H1, I1, ru, A1, S1, d1, g1, e1, c1, r1, p1⟩ => ?_)
  have wd := view_rel c1 r1
  have p1 : Post (c.lay X.K z) W A1 H1 (Rel (c.lay X.K z)) (match view S1 d1 with
    | .ins k' fs => match c.G.cl k' with
      | none => .no
      | some r => match r.fld.lookup k with
        | some i => R.opt fs[i]? S1
        | none => match r.prop.lookup k with
          | some f => (c.κ f [d1] S1).calm
          | none => .no
    | _ => .no) Q := p1
  cases hd : view S1 d1 with
  | ins k' fs =>
    rw [hd] at p1 wd
    obtain ⟨l, dx, vs, rfl, q, hl, r2⟩ := ins_of wd
    cases (show u = Value.ref l from ru)
    cases hk : c.G.cl k' with
    | none => simp only [hk] at p1; exact p1.elim
    | some r =>
      simp only [hk] at p1
      have F := (g.fs.cl k' r hk).ins
      cases hf : r.fld.lookup k with
      | some i =>
        simp only [hf] at p1
        obtain ⟨d2, e2, p2⟩ := p1.opt
        obtain ⟨x2, e3, r3⟩ := r2.get e2
        have hfl := F.fld k i hf
        exact getattr_ok I1 q F.cls (F.noat _ (List.mem_of_getElem? hfl)) (zip_lookup F.nd hfl e3) fun u s' I' ru' => ⟨x2, H1, I', ru', p2.ok c1 r3⟩
      | none =>
        simp only [hf] at p1
        cases hp : r.prop.lookup k with
        | none => simp only [hp] at p1; exact p1.elim
        | some f =>
          simp only [hp] at p1
          obtain ⟨f1, pr, hpr⟩ := F.prop k f hp
          obtain ⟨mA, O, _, _, _, _⟩ := ins_get I1.hok q
          obtain ⟨od, J, _⟩ := O.look
          obtain ⟨rest, hrec⟩ := hpr.rec_
          have I2 := I1.tok (s1.toks + 1)
          have hcl : (PySem.W.clsIn X.K (c.cad k')).isSome = true := by
            obtain ⟨cd, hc2, _⟩ := PySem.W.any_some F.cls.hd
            rw [hc2]
            rfl
          have hr : Room c.lv X.A.in1 := (g.room.mono (by omega)).in1
          refine PySem.W.get_bind I1.kIn J (PySem.W.plainGet_of (F.cls.get (c.nm.anm k))).1 (PySem.W.findObj_data hcl hpr.at_ hpr.get hpr.tak) (PySem.W.plainGet_of (F.cls.get (c.nm.anm k))).2 (wpAny_call (PySem.W.prop_get (s := { s1 with toks := s1.toks + 1 }) I1.kIn hrec
            (codeAny_mono (run_cA (A' := X.A.in1) (g.fs.fn f f1) g.gd hr g.nox I2 I2.env0.in1 (.cons (show L2.RelV (V.ref l) (Value.ref l) from rfl) .nil) c1 (.cons r1 .nil) p1.calm) fun r s' hq => ?_)))
          obtain ⟨u, rfl, v3, H3, I3, rv, q3⟩ := hq
          show wpAny _ _ (handedOut u) _ _ _
          rw [PySem.W.handedOut_of (handed_of rv)]
          exact wpAny_pure ⟨v3, H3, I3, rv, q3⟩
  | _ => rw [hd] at p1; exact (show False from p1).elim
theorem s_meth (g : Good c N X sc W) {k : Nat} {es : E} {pm : List Nat} {xs : List Expr} {kws : List Keyword} {ks : List Str} {ap : Pos} (ha : okE c X W a x) (hs : noSup x = true) (hp : (ap.endLine == pos.line) = true) (hf : xs.length + kws.length < 29)
    (hn : xs.all (fun x => !isStar x) = true) (hks : kwNames kws = some ks) (hb : ∀ kc r f, c.G.cl kc = some r → r.meth.lookup k = some f → bindOk c f (xs.length + 1) ks pm) (he : okA c X W es xs kws) : okE c X W (.meth a k es pm) (.Call (.Attribute x (c.nm.anm k) ap) xs kws pos) := by
  refine ⟨fun pins s σ H Q I ⟨z, A, S, v, hv, hc, h⟩ => ?_⟩
  simp only [ev] at h
  obtain ⟨k1, k2, k3, k4⟩ := kw_all (pos := pos) (env := X.env) hks
  refine meth_call hs hp hf (noStar_all hn) k1 fun pl => thn (ha.run pins s σ H _ I (tR_bind (rel := Rel) hv hc h)) fun u s1 ⟨x1, H1, I1, ru, A1, S1, d1, g1, e1, c1, r1, p1⟩ => ?_
  cases hm : methF c.G d1 k S1 with
  | none => simp only [hm] at p1; exact p1.elim
  | some f =>
    simp only [hm] at p1
    have wd := view_rel c1 r1
    unfold methF at hm
    cases hd : view S1 d1 with
    | ins kc fs =>
      rw [hd] at hm wd
      obtain ⟨l, dx, vs, rfl, q, hl, r2⟩ := ins_of wd
      cases (show u = Value.ref l from ru)
      cases hk : c.G.cl kc with
      | none => simp only [hk] at hm; cases hm
      | some r =>
        simp only [hk] at hm
        have F := (g.fs.cl kc r hk).ins
        obtain ⟨m1, m2, m3⟩ := F.meth k f hm
        refine getmeth_ok I1 q F.cls m3 (zip_none m1) ?_
        have Ff := g.fs.fn f m2
        refine callWith_ak (first := [.ref l]) I1 m3.kp hn hks he (tR_bind (rel := Rels) e1 c1 p1) fun us ws vs2 s2 H2 l1 l2 I2 rv ⟨A2, S2, ds, g2, e2, c2, rr, p2⟩ => ?_
        exact run_f Ff g.gd (g.room.mono (by omega)) g.pass (hb kc r f hk hm) I2 (by simp [l1]) l2 (.cons (show L2.RelV (V.ref l) (Value.ref l) from rfl) rv) c2 (.cons (r1.grow g2) rr) p2
    | _ => rw [hd] at hm; cases hm
end
end EV
set_option Elab.async false
set_option linter.all false
set_option maxRecDepth 100000
set_option maxHeartbeats 2000000
namespace EV
open PySem PySem.Spec PyProof.Rows L2
section
variable {L : Lay} {A A' A0 : List Addr} {H H' H0 : Hp} {S S' : St} {n : Nat}
theorem SeqF.cut {a : Addr} {u : HO} {P : Prop} (h : SeqF L A H a u P) : SeqF L (A.take n) H a u P := by
  rcases h with ⟨r, k, nz⟩ | h
  · exact .inl ⟨r, fun m => k (List.mem_of_mem_take m), nz⟩
  · exact .inr h
mutual
theorem Rel.cut : ∀ {d : D} {x : V}, Rel L A H d x → below n d = true → Rel L (A.take n) H d x
  | .non, _, h, _ => h | .bl _, _, h, _ => h | .int _, _, h, _ => h | .str _, _, h, _ => h
  | .tup ds, _, h, b => by
    obtain ⟨a, vs, e, q, r⟩ := (show ∃ a vs, _ from by simpa only [Rel] using h)
    simp only [Rel]
    exact ⟨a, vs, e, q.cut, Rels.cut r (by simpa only [below] using b)⟩
  | .lst ds, _, h, b => by
    obtain ⟨a, vs, e, q, r⟩ := (show ∃ a vs, _ from by simpa only [Rel] using h)
    simp only [Rel]
    exact ⟨a, vs, e, q.cut, Rels.cut r (by simpa only [below] using b)⟩
  | .dct ks ds, _, h, b => by
    obtain ⟨a, vs, e, q, k, l, nd, r⟩ := (show ∃ a vs, _ from by simpa only [Rel] using h)
    simp only [Rel]
    exact ⟨a, vs, e, q, ⟨fun m => k.1 (List.mem_of_mem_take m), k.2⟩, l, nd, Rels.cut r (by simpa only [below] using b)⟩
  | .ins c ds, _, h, b => by
    obtain ⟨a, dx, vs, e, q, k, l, r⟩ := (show ∃ a dx vs, _ from by simpa only [Rel] using h)
    simp only [Rel]
    exact ⟨a, dx, vs, e, q, ⟨fun m => k.1 (List.mem_of_mem_take m), k.2⟩, l, Rels.cut r (by simpa only [below] using b)⟩
  | .cell k, _, h, b => by
    obtain ⟨a, e, q⟩ := (show ∃ a, _ from by simpa only [Rel] using h)
    simp only [Rel]
    simp only [below, decide_eq_true_eq] at b
    exact ⟨a, e, by rw [List.getElem?_take_of_lt b]; exact q⟩
  | .cls _, _, h, _ => h
  | .clo _ _, _, h, _ => h
theorem Rels.cut : ∀ {ds : List D} {vs : List V}, Rels L A H ds vs → belows n ds = true → Rels L (A.take n) H ds vs
  | [], _, h, _ => h
  | d :: ds, _, h, b => by
    obtain ⟨x, r, e, h1, h2⟩ := (show ∃ v r, _ from by simpa only [Rels] using h)
    simp only [belows, Bool.and_eq_true] at b
    simp only [Rels]
    exact ⟨x, r, e, Rel.cut h1 b.1, Rels.cut h2 b.2⟩
end
mutual
theorem below_mono {m n : Nat} (h : m ≤ n) : ∀ d : D, below m d = true → below n d = true
  | .non, _ => rfl | .bl _, _ => rfl | .int _, _ => rfl | .str _, _ => rfl | .cls _, _ => rfl
  | .tup ds, b => by simp only [below] at *; exact belows_mono h ds b
  | .lst ds, b => by simp only [below] at *; exact belows_mono h ds b
  | .dct _ ds, b => by simp only [below] at *; exact belows_mono h ds b
  | .ins _ ds, b => by simp only [below] at *; exact belows_mono h ds b
  | .clo _ ds, b => by simp only [below] at *; exact belows_mono h ds b
  | .cell k, b => by simp only [below, decide_eq_true_eq] at *; omega
theorem belows_mono {m n : Nat} (h : m ≤ n) : ∀ ds : List D, belows m ds = true → belows n ds = true
  | [], _ => rfl
  | d :: ds, b => by
    simp only [belows, Bool.and_eq_true] at *
    exact ⟨below_mono h d b.1, belows_mono h ds b.2⟩
end
theorem CellOk.cut {i : Nat} {a : Addr} {c : Cell} (hi : i ≤ n) (h : CellOk L A H i a c) : CellOk L (A.take n) H i a c := by
  cases c with
  | lst ds => obtain ⟨vs, q, r, b⟩ := h; exact ⟨vs, q, r.cut (belows_mono hi _ b), b⟩
  | dct ks ds => obtain ⟨vs, q, l, nd, r, b⟩ := h; exact ⟨vs, q, l, nd, r.cut (belows_mono hi _ b), b⟩
  | ins c ds => obtain ⟨dx, vs, q, l, r, b⟩ := h; exact ⟨dx, vs, q, l, r.cut (belows_mono hi _ b), b⟩
  | fdc ks ds => obtain ⟨vs, od, q, l, nd, r, b⟩ := h; exact ⟨vs, od, q, l, nd, r.cut (belows_mono hi _ b), b⟩
theorem Cells.cut (C : Cells L A S H) (n : Nat) : Cells L (A.take n) (S.take n) H := by
  refine ⟨by simp [C.len], C.nd.sublist (List.take_sublist _ _), fun i c a e1 e2 => ?_, fun a m => ?_⟩
  · have hi : i < n := by
      have := (List.getElem?_eq_some_iff.mp e1).1
      rw [List.length_take] at this
      omega
    rw [List.getElem?_take_of_lt hi] at e1 e2
    exact (C.ok i c a e1 e2).cut (Nat.le_of_lt hi)
  · obtain ⟨h1, h2⟩ := C.zt a m
    exact ⟨h1, fun m => h2 (List.mem_of_mem_take m)⟩
theorem Grow.cut (g : Grow A0 H0 A H) (h : A0.length ≤ n) : Grow A0 H0 (A.take n) H := by
  obtain ⟨B, e⟩ := g.pre
  refine ⟨⟨B.take (n - A0.length), ?_⟩, g.keep, fun a o q m => fun z => g.free a o q m (List.mem_of_mem_take z), g.frzs⟩
  rw [e, List.take_append, List.take_of_length_le h]
theorem not_take (C : Cells L A S H) {k : Nat} {a : Addr} (h : A[k]? = some a) (hn : n ≤ k) : a ∉ A.take n := fun m => by
  obtain ⟨i, hi, e⟩ := List.mem_iff_getElem.mp m
  rw [List.length_take] at hi
  have hi' : i < n ∧ i < A.length := by omega
  have e' : A[i]? = some a := by
    rw [List.getElem_take] at e
    rw [List.getElem?_eq_getElem hi'.2, e]
  have := (List.getElem?_inj (List.getElem?_eq_some_iff.mp h).1 C.nd).mp (h.trans e'.symm)
  omega
theorem Cells.nz (C : Cells L A S H) {k : Nat} {a : Addr} (h : A[k]? = some a) : a ∉ L.z := fun m => (C.zt a m).2 (List.mem_of_getElem? h)
theorem cell_lst (C : Cells L A S H) {k : Nat} {a : Addr} {xs : List D} (hk : n ≤ k) (h : A[k]? = some a) (e : S[k]? = some (.lst xs)) (b : belows n xs = true) : Rel L (A.take n) H (.lst xs) (.ref a) := by
  obtain ⟨vs, q, r, _⟩ := C.ok k _ a e h
  simp only [Rel]
  exact ⟨a, vs, rfl, .inl ⟨.inl q, not_take C h hk, C.nz h⟩, r.cut b⟩
theorem cell_dct (C : Cells L A S H) {k : Nat} {a : Addr} {ks : List DK} {xs : List D} (hk : n ≤ k) (h : A[k]? = some a) (e : S[k]? = some (.dct ks xs)) (b : belows n xs = true) : Rel L (A.take n) H (.dct ks xs) (.ref a) := by
  obtain ⟨vs, q, l, nd, r, _⟩ := C.ok k _ a e h
  simp only [Rel]
  exact ⟨a, vs, rfl, .inl q, ⟨not_take C h hk, C.nz h⟩, l, nd, r.cut b⟩
theorem cell_fdc (C : Cells L A S H) {k : Nat} {a : Addr} {ks : List DK} {xs : List D} (hk : n ≤ k) (h : A[k]? = some a) (e : S[k]? = some (.fdc ks xs)) (b : belows n xs = true) : Rel L (A.take n) H (.dct ks xs) (.ref a) := by
  obtain ⟨vs, od, q, l, nd, r, _⟩ := C.ok k _ a e h
  simp only [Rel]
  exact ⟨a, vs, rfl, .inr ⟨od, q⟩, ⟨not_take C h hk, C.nz h⟩, l, nd, r.cut b⟩
theorem cell_ins (C : Cells L A S H) {k c : Nat} {a : Addr} {xs : List D} (hk : n ≤ k) (h : A[k]? = some a) (e : S[k]? = some (.ins c xs)) (b : belows n xs = true) : Rel L (A.take n) H (.ins c xs) (.ref a) := by
  obtain ⟨dx, vs, q, l, r, _⟩ := C.ok k _ a e h
  simp only [Rel]
  exact ⟨a, dx, vs, rfl, q, ⟨not_take C h hk, C.nz h⟩, l, r.cut b⟩
mutual
theorem frz_rel (C : Cells L A S H) : ∀ {d d' : D} {x : V}, frz n S d = some d' → Rel L A H d x → Rel L (A.take n) H d' x
  | .non, _, _, e, h => by simp only [frz, Option.some.injEq] at e; subst e; exact h
  | .bl _, _, _, e, h => by simp only [frz, Option.some.injEq] at e; subst e; exact h
  | .int _, _, _, e, h => by simp only [frz, Option.some.injEq] at e; subst e; exact h
  | .str _, _, _, e, h => by simp only [frz, Option.some.injEq] at e; subst e; exact h
  | .cls _, _, _, e, h => by simp only [frz, Option.some.injEq] at e; subst e; exact h
  | .tup ds, _, _, e, h => by
    simp only [frz, Option.map_eq_some_iff] at e
    obtain ⟨es, e, rfl⟩ := e
    obtain ⟨a, vs, e1, q, r⟩ := (show ∃ a vs, _ from by simpa only [Rel] using h)
    simp only [Rel]
    exact ⟨a, vs, e1, q.cut, frzs_rel C e r⟩
  | .lst ds, d', x, e, h => by
    simp only [frz] at e
    split at e
    · rename_i b; cases e; exact h.cut (by simpa only [below] using b)
    · cases e
  | .dct _ ds, d', x, e, h => by
    simp only [frz] at e
    split at e
    · rename_i b; cases e; exact h.cut (by simpa only [below] using b)
    · cases e
  | .ins _ ds, d', x, e, h => by
    simp only [frz] at e
    split at e
    · rename_i b; cases e; exact h.cut (by simpa only [below] using b)
    · cases e
  | .clo _ _, _, _, e, _ => by simp [frz] at e
  | .cell k, d', x, e, h => by
    obtain ⟨a, e1, q⟩ := (show ∃ a, _ from by simpa only [Rel] using h)
    subst e1
    simp only [frz] at e
    split at e
    · rename_i hk
      cases e
      simp only [Rel]
      exact ⟨a, rfl, by rw [List.getElem?_take_of_lt hk]; exact q⟩
    · rename_i hk
      have hk' : n ≤ k := by omega
      split at e
      · rename_i xs es
        split at e
        · rename_i b; cases e; exact cell_lst C hk' q es b
        · cases e
      · rename_i ks xs es
        split at e
        · rename_i b; cases e; exact cell_dct C hk' q es b
        · cases e
      · rename_i ks xs es
        split at e
        · rename_i b; cases e; exact cell_fdc C hk' q es b
        · cases e
      · cases e
theorem frzs_rel (C : Cells L A S H) : ∀ {ds ds' : List D} {vs : List V}, frzs n S ds = some ds' → Rels L A H ds vs → Rels L (A.take n) H ds' vs
  | [], _, _, e, h => by simp only [frzs, Option.some.injEq] at e; subst e; exact h
  | d :: ds, _, _, e, h => by
    obtain ⟨x, r, e1, h1, h2⟩ := (show ∃ v r, _ from by simpa only [Rels] using h)
    simp only [frzs] at e
    split at e
    · rename_i y ys f1 f2
      cases e
      simp only [Rels]
      exact ⟨x, r, e1, frz_rel C f1 h1, frzs_rel C f2 h2⟩
    · cases e
end
structure Later (L : Lay) (A : List Addr) (H : Hp) (L' : Lay) (A' : List Addr) (H' : Hp) : Prop where
  k : L'.K = L.K
  cad : L'.cad = L.cad
  cfs : L'.cfs = L.cfs
  pre : ∃ B, A' = A ++ B
  keep : ∀ a o, H a = some o → a ∉ A → a ∉ L.z → Kp o (H' a) ∧ a ∉ A' ∧ a ∉ L'.z
  frzs : ∀ a od u, H a = some (.frz od u) → H' a = some (.frz od u)
theorem Later.refl {L : Lay} {A : List Addr} {H : Hp} : Later L A H L A H := ⟨rfl, rfl, rfl, ⟨[], by simp⟩, fun _ _ h n m => ⟨.inl h, n, m⟩, fun _ _ _ h => h⟩
theorem Later.trans {L L' L2 : Lay} {A A' A2 : List Addr} {H H' H2 : Hp} (a : Later L A H L' A' H') (b : Later L' A' H' L2 A2 H2) : Later L A H L2 A2 H2 := by
  obtain ⟨B, e⟩ := a.pre
  obtain ⟨B', e'⟩ := b.pre
  refine ⟨b.k.trans a.k, b.cad.trans a.cad, b.cfs.trans a.cfs, ⟨B ++ B', by rw [e', e, List.append_assoc]⟩, fun x o h n m => ?_, fun x od u h => b.frzs x od u (a.frzs x od u h)⟩
  obtain ⟨h1, h2, h3⟩ := a.keep x o h n m
  obtain ⟨u, e2⟩ := h1.some
  obtain ⟨_, h5, h6⟩ := b.keep x u e2 h2 h3
  exact ⟨h1.trans fun u e => (b.keep x u e h2 h3).1, h5, h6⟩
theorem Grow.later {L : Lay} {A A' : List Addr} {H H' : Hp} (g : Grow A H A' H') : Later L A H L A' H' := ⟨rfl, rfl, rfl, g.pre, fun a o h n m => ⟨g.keep a o h n, g.free a o h n, m⟩, g.frzs⟩
theorem Later.at_ {L L' : Lay} {A A' : List Addr} {H H' : Hp} (g : Later L A H L' A' H') {n : Nat} {a : Addr} (h : A[n]? = some a) : A'[n]? = some a := by
  obtain ⟨B, e⟩ := g.pre
  rw [e, List.getElem?_append_left (List.getElem?_eq_some_iff.mp h).1]; exact h
theorem Later.seq {L L' : Lay} {A A' : List Addr} {H H' : Hp} (s : Later L A H L' A' H') {a : Addr} {u : HO} {P : Prop} (h : SeqF L A H a u P) (nd : ∀ kvs, u ≠ .dK kvs := by intro _ z; cases z) : SeqF L' A' H' a u P := by
  rcases h with ⟨r, n, nz⟩ | h
  · rcases r with r | ⟨o, r⟩
    · obtain ⟨h1, h2, h3⟩ := s.keep _ _ r n nz
      exact .inl ⟨.inl (h1.ne nd), h2, h3⟩
    · obtain ⟨h1, h2, h3⟩ := s.keep _ _ r n nz
      exact .inl ⟨.inr ⟨o, h1.ne fun _ z => nomatch z⟩, h2, h3⟩
  · exact .inr h
mutual
theorem Later.rel {L L' : Lay} {A A' : List Addr} {H H' : Hp} (s : Later L A H L' A' H') : ∀ {d : EV.D} {x : V}, Rel L A H d x → Rel L' A' H' d x
  | .non, _, h => h | .bl _, _, h => h | .int _, _, h => h | .str _, _, h => h
  | .tup ds, _, h => by
    obtain ⟨a, vs, e, q, r⟩ := (show ∃ a vs, _ from by simpa only [Rel] using h)
    simp only [Rel]
    exact ⟨a, vs, e, by rw [s.k]; exact s.seq q, s.rels r⟩
  | .lst ds, _, h => by
    obtain ⟨a, vs, e, q, r⟩ := (show ∃ a vs, _ from by simpa only [Rel] using h)
    simp only [Rel]
    exact ⟨a, vs, e, by rw [s.k]; exact s.seq q, s.rels r⟩
  | .dct ks ds, _, h => by
    obtain ⟨a, vs, e, q, n, l, nd, r⟩ := (show ∃ a vs, _ from by simpa only [Rel] using h)
    simp only [Rel]
    refine ⟨a, vs, e, rd_kp q fun u h => (s.keep _ u h n.1 n.2).1, ?_, l, nd, s.rels r⟩
    rcases q with q | ⟨od, q⟩ <;> exact (s.keep _ _ q n.1 n.2).2
  | .ins k ds, _, h => by
    obtain ⟨a, dx, vs, e, q, n, l, r⟩ := (show ∃ a dx vs, _ from by simpa only [Rel] using h)
    simp only [Rel]
    obtain ⟨h1, h2⟩ := s.keep _ _ q n.1 n.2
    have h1 := h1.ne fun _ z => nomatch z
    exact ⟨a, dx, vs, e, by rw [s.cad, s.cfs]; exact h1, h2, by rw [s.cfs]; exact l, s.rels r⟩
  | .cell n, _, h => by
    obtain ⟨a, e, q⟩ := (show ∃ a, _ from by simpa only [Rel] using h)
    simp only [Rel]
    exact ⟨a, e, s.at_ q⟩
  | .cls _, _, h => by simp only [Rel] at h ⊢; rw [s.cad]; exact h
  | .clo _ _, _, h => by simp only [Rel] at h
theorem Later.rels {L L' : Lay} {A A' : List Addr} {H H' : Hp} (s : Later L A H L' A' H') : ∀ {ds : List EV.D} {vs : List V}, Rels L A H ds vs → Rels L' A' H' ds vs
  | [], _, h => h
  | d :: ds, _, h => by
    obtain ⟨x, r, e, h1, h2⟩ := (show ∃ v r, _ from by simpa only [Rels] using h)
    simp only [Rels]
    exact ⟨x, r, e, s.rel h1, s.rels h2⟩
end
theorem Later.env {L L' : Lay} {A A' : List Addr} {H H' : Hp} (s : Later L A H L' A' H') {v : Env} {σ : L2.St} (h : EnvOk L A H v σ) : EnvOk L' A' H' v σ :=
  ⟨h.len, fun i d e => let ⟨x, h1, h2⟩ := h.at_ i d e; ⟨x, h1, s.rel h2⟩⟩
theorem Later.cells_aside {L L' : Lay} {A : List Addr} {S : St} {H H' : Hp} (s : Later L A H L' A H') (hk : ∀ (n : Nat) (a : Addr) (o : HO), A[n]? = some a → n < S.length → H a = some o → H' a = H a) (hz : ∀ a ∈ L'.z, (∃ o, H' a = some o) ∧ a ∉ A) (C : Cells L A S H) : Cells L' A S H' := by
  refine ⟨C.len, C.nd, fun n k a e1 e2 => ?_, hz⟩
  have h := C.ok n k a e1 e2
  obtain ⟨o, ho⟩ := cell_tracked h
  have e := hk n a o e2 (C.lt e2) ho
  cases k with
  | lst ds => obtain ⟨vs, q, r, b⟩ := h; exact ⟨vs, e.trans q, s.rels r, b⟩
  | dct ks ds => obtain ⟨vs, q, l, nd, r, b⟩ := h; exact ⟨vs, e.trans q, l, nd, s.rels r, b⟩
  | ins k ds => obtain ⟨dx, vs, q, l, r, b⟩ := h; exact ⟨dx, vs, by rw [s.cad, s.cfs]; exact e.trans q, by rw [s.cfs]; exact l, s.rels r, b⟩
  | fdc ks ds => obtain ⟨vs, od, q, l, nd, r, b⟩ := h; exact ⟨vs, od, e.trans q, l, nd, s.rels r, b⟩
end
end EV
set_option Elab.async false
set_option linter.all false
set_option maxRecDepth 100000
set_option maxHeartbeats 2000000
namespace EV
open PySem PySem.Spec PyProof.Rows L2
section
variable {c : Cf} {N : List Str} {X : Cx} {sc : Sc} {W : XK} {a b d e : E} {x y w : Expr} {pos : Pos}
theorem Post.bind0 {α β γ δ : Type} {L : Lay} {A A2 : List Addr} {H H2 : Hp} {rel : List Addr → Hp → α → β → Prop} {rel2 : List Addr → Hp → γ → δ → Prop} {r : R α} {f : α → St → R γ} {Q : δ → Hp → Prop} (g : Grow A H A2 H2) (h : Post L W A H rel2 (r.bind f) Q) :
    Post L W A2 H2 rel r (fun b H1 => ∃ A1 S1 a, Grow A2 H2 A1 H1 ∧ Cells L A1 S1 H1 ∧ rel A1 H1 a b ∧ Post L W A H rel2 (f a S1) Q) := by
  cases r with
  | ok a S1 => exact fun A1 H1 b g1 c q => ⟨A1, S1, a, g1, c, q, h⟩
  | ex e S1 => exact fun A1 H1 k d g1 c q => h A1 H1 k d (g.trans g1) c q
  | no => exact h
theorem under_guards {A : Around} {C : Addr} {us : List Value} {kw : List (Str × Value)} (h : A.guards = some []) : (A.under (.builtin "type.__call__" ⟨.ref C :: us, kw⟩)).guards = some [] := by
  simp [Around.under, h, pushGuards, Code.guards, Code.isGuard, guardIds]
theorem lay_cad {K : PySem.W.Frag} {z : List Addr} {k : Nat} : (c.lay K z).cad k = c.cad k := rfl
theorem run_mk (g : Good c N X sc W) {k n : Nat} {r0 : ClR} {f : Nat} (hk : c.G.cl k = some r0) (hi : r0.init = some f) {ks : List Str} {pm : List Nat} (hb : bindOk c f (n + 1) ks pm) {pins : List (Addr × Obj)} {σ : L2.St} {H : Hp} {s : Shared} {Q : VK} {us ws : List Value} {vs : List V} {z : List Addr} {A : List Addr} {S : St} {ds : List D}
    (I : Inv X pins σ H s) (hn : us.length = n) (hkw : ws.length = ks.length) (rv : Vals vs (us ++ ws)) (hc : Cells (c.lay X.K z) A S H) (rr : Rels (c.lay X.K z) A H ds vs)
    (p : Post (c.lay X.K z) W A H (Rel (c.lay X.K z)) (mkI c.G c.κ k pm ds S) Q) :
    wpAny (model X.prog X.w) X.A (call (.ref (c.cad k)) us (ks.zip ws)) (EP X pins σ Q) X.xe s := by
  have F := (g.fs.cl k r0 hk).ins
  obtain ⟨f1, M⟩ := F.init f hi
  have Ff := g.fs.fn f f1
  unfold mkI at p
  simp only [hk, hi] at p
  cases hp : permA pm (.cell S.length :: ds) with
  | none => rw [hp] at p; exact p.elim
  | some as =>
    rw [hp] at p
    have p : Post (c.lay X.K z) W A H (Rel (c.lay X.K z)) ((c.κ f as (S ++ [.ins k []])).bind fun d s' => if d = .non then (match r0.frz with
        | false => .ok (.cell S.length) s'
        | true => match s'[S.length]? with
          | some (.ins k' fs) => if k' = k ∧ s'.length = S.length + 1 ∧ belows S.length fs = true then .ok (.ins k fs) (s'.take S.length) else .no
          | _ => .no) else .no) Q := p
    have hl : as.length = (c.nm.fps f).length := by
      by_cases hl : as.length = (c.nm.fps f).length
      · exact hl
      · rw [Ff.len as _ hl] at p; exact p.elim
    have hdx : H s.heap.objs.size = none := I.hok.fresh (Nat.le_refl _)
    have hx0 : H (s.heap.objs.size + 1) = none := I.hok.fresh (Nat.le_succ _)
    have hx : upd H s.heap.objs.size (.own (s.heap.objs.size + 1)) (s.heap.objs.size + 1) = none := by rw [upd_ne (show s.heap.objs.size + 1 ≠ s.heap.objs.size by omega)]; exact hx0
    have I2 := Inv.made (C := c.cad k) I
    have C1 : Cells (c.lay X.K z) A S (upd H s.heap.objs.size (.own (s.heap.objs.size + 1))) := hc.new hdx
    have G1 : Grow A H A (upd H s.heap.objs.size (.own (s.heap.objs.size + 1))) := grow_new hc hdx
    have C2 : Cells (c.lay X.K z) (A ++ [s.heap.objs.size + 1]) (S ++ [.ins k []]) (upd (upd H s.heap.objs.size (.own (s.heap.objs.size + 1))) (s.heap.objs.size + 1) (.ins (c.cad k) s.heap.objs.size [])) :=
      C1.cell hx ⟨s.heap.objs.size, [], by rw [upd_same]; simp [lay_cad], by simp, .nil, rfl⟩
    have G2 := grow_cell (o := HO.ins (c.cad k) s.heap.objs.size []) C1 hx
    have rr2 : Rels (c.lay X.K z) (A ++ [s.heap.objs.size + 1]) (upd (upd H s.heap.objs.size (.own (s.heap.objs.size + 1))) (s.heap.objs.size + 1) (.ins (c.cad k) s.heap.objs.size [])) (.cell S.length :: ds) (.ref (s.heap.objs.size + 1) :: vs) := by
      refine .cons ?_ (rr.grow (G1.trans G2))
      simp only [Rel]
      exact ⟨_, rfl, by rw [← hc.len]; simp⟩
    obtain ⟨xs, ys, hB, hv, hR⟩ := bind_of Ff hb I2.kIn (us := .ref (s.heap.objs.size + 1) :: us) (by simp [hn]) hkw (.cons (show L2.RelV (V.ref (s.heap.objs.size + 1)) (Value.ref (s.heap.objs.size + 1)) from rfl) rv) rr2 hp hl
    have p2 := Post.bind0 (rel := Rel (c.lay X.K z)) (G1.trans G2) p
    have hr1 : Room (c.lv + 1) X.A := g.room.mono (by omega)
    refine wpAny_call (make_map (f := c.ad f) I.kIn M.makes M.init (beq_iff_eq.mp M.fn) (codeAny_mono (Ff.ok.run _ X.stack _ _ ⟨Value.ref (s.heap.objs.size + 1) :: us, ks.zip ws⟩ xs ys _ W (under_guards g.gd) (hr1.make (c.cad k) us (ks.zip ws))
      (I2.env0.make (c.cad k) us (ks.zip ws)) hB hv ⟨z, _, _, as, hl, C2, hR, p2⟩) fun r s' hq' => ?_))
    cases r with
    | error e => exact g.pass pins σ _ _ e s' I2 hq'
    | ok fl =>
      cases fl with
      | ret u =>
        obtain ⟨v, H', I3, rv3, A1, S1, d1, g1, c1, r1, p1⟩ := I2.after hq'
        have p1 : Post (c.lay X.K z) W A H (Rel (c.lay X.K z)) (if d1 = .non then (match r0.frz with
          | false => .ok (.cell S.length) S1
          | true => match S1[S.length]? with
            | some (.ins k' fs) => if k' = k ∧ S1.length = S.length + 1 ∧ belows S.length fs = true then .ok (.ins k fs) (S1.take S.length) else .no
            | _ => .no) else .no) Q := p1
        have hxA : A1[S.length]? = some (s.heap.objs.size + 1) := g1.at_ (by rw [← hc.len]; simp)
        split at p1
        · rename_i hd
          subst hd
          obtain rfl := r1.w.non
          refine ⟨rv3, ⟨V.ref (s.heap.objs.size + 1), H', I3, rfl, ?_⟩⟩
          cases hf : r0.frz with
          | false =>
            rw [hf] at p1
            refine p1 A1 H' _ ((G1.trans G2).trans g1) c1 ?_
            simp only [Rel]
            exact ⟨_, rfl, hxA⟩
          | true =>
            rw [hf] at p1
            have p1 : Post (c.lay X.K z) W A H (Rel (c.lay X.K z)) (match S1[S.length]? with
              | some (.ins k' fs) => if k' = k ∧ S1.length = S.length + 1 ∧ belows S.length fs = true then .ok (.ins k fs) (S1.take S.length) else .no
              | _ => .no) Q := p1
            split at p1
            · rename_i k' fs e
              split at p1
              · rename_i hh
                obtain ⟨rfl, h2, h3⟩ := hh
                exact p1 (A1.take S.length) H' (.ref (s.heap.objs.size + 1)) (((G1.trans G2).trans g1).cut (by rw [hc.len]; exact Nat.le_refl _)) (c1.cut S.length) (cell_ins c1 (Nat.le_refl _) hxA e h3)
              · exact p1.elim
            · exact p1.elim
        · exact p1.elim
      | next => exact False.elim hq'
      | brk => exact False.elim hq'
      | cont => exact False.elim hq'
theorem s_mk (g : Good c N X sc W) {k f : Nat} {r : ClR} {es : E} {pm : List Nat} {xs : List Expr} {kws : List Keyword} {ks : List Str} {p' : Pos} (hg : Gl X (c.nm.cnm k)) (hdb : (c.nm.cnm k == ("__debug__" : Str)) = false) (hk : c.G.cl k = some r) (hi : r.init = some f)
    (hn : xs.all (fun x => !isStar x) = true) (hks : kwNames kws = some ks) (hb : bindOk c f (xs.length + 1) ks pm) (ha : okA c X W es xs kws) : okE c X W (.mk k es pm) (.Call (.Name (c.nm.cnm k) p') xs kws pos) := by
  refine ⟨fun pins s σ H Q I ⟨z, A, S, v, hv, hc, h⟩ => ?_⟩
  simp only [ev] at h
  have F := g.fs.cl k r hk
  obtain ⟨f1, M⟩ := F.ins.init f hi
  exact wpAny_Call_Name_kw (ld_glob I hg F.gl (callWith_ak (first := []) I M.kp hn hks ha (tR_bind (rel := Rels) hv hc h) fun us ws vs s2 H2 l1 l2 I2 rv ⟨A1, S1, ds, g1, e1, c1, r1, p1⟩ => run_mk g hk hi hb I2 l1 l2 rv c1 r1 p1) hdb)
end
end EV
set_option Elab.async false
set_option linter.all false
set_option maxRecDepth 100000
set_option maxHeartbeats 2000000
namespace EV
open PySem PySem.Spec PyProof.Rows L2
section
variable {c : Cf} {N : List Str} {X : Cx} {sc : Sc} {W : XK} {a b d e : E} {x y w : Expr} {pos : Pos}
def rBm (c : Cf) (K : PySem.W.Frag) (W : XK) (m : Bool) (b : Bm) : V → List V → Hp → VK → Prop := fun x xs H Q => ∃ z A S d ds, Cells (c.lay K z) A S H ∧ Rel (c.lay K z) A H d x ∧ Rels (c.lay K z) A H ds xs ∧ Post (c.lay K z) W A H (Rel (c.lay K z)) (bmR m b d ds S) Q
theorem mt_from {b : Bm} {id : String} {m : Bool} (hb : b ≠ .split ∧ b ≠ .get ∧ b ≠ .append ∧ b ≠ .extend ∧ b ≠ .pop ∧ b ≠ .pop0 ∧ b ≠ .kget) (h : ∀ {pins : List (Addr × Obj)} {s : Shared} {σ : L2.St} {H : Hp} {x : V} {v : Value} {vs : List V} {us : List Value} {Q : VK} {z : List Addr} {A : List Addr} {S : St} {d0 : D} {ds : List D} {d : D},
      Inv X pins σ H s → RelV x v → Vals vs us → Cells (c.lay X.K z) A S H → RelW (c.lay X.K z) A H d0 x → ds.length = vs.length → (∀ (i : Nat) d, ds[i]? = some d → ∃ x, vs[i]? = some x ∧ RelW (c.lay X.K z) A H d x) → bmD b d0 ds = some d → Post (c.lay X.K z) W A H (Rel (c.lay X.K z)) (.ok d S) Q →
      wpAny (model X.prog X.w) X.A (call (.builtin id) (v :: us)) (EP X pins σ Q) X.xe s) : MtR X id (rBm c X.K W m b) := by
  intro pins s σ H x vs v us Q I rx r ⟨z, A, S, d0, ds, hc, rd, rr, p⟩
  obtain ⟨h1, h6, h2, h3, h4, h5, h7⟩ := hb
  have e : bmR m b d0 ds S = R.opt (bmD b (view S d0) (ds.map (view S))) S := by
    cases b <;> first | (exact absurd rfl h1) | (exact absurd rfl h2) | (exact absurd rfl h3) | (exact absurd rfl h4) | (exact absurd rfl h5) | (exact absurd rfl h6) | (exact absurd rfl h7) | rfl
  rw [e] at p
  obtain ⟨d, e, q⟩ := p.opt
  obtain ⟨l, k⟩ := view_rels hc rr
  exact h I rx r hc (view_rel hc rd) (by rw [List.length_map, l]) k e q
theorem sum_len (ws : List (List Nat)) : ((ws.map SS).map (·.length)).sum = (ws.map (·.length)).sum := by
  rw [List.map_map]
  have : ((fun x : Str => x.length) ∘ SS) = List.length := by funext l; exact SS_len l
  rw [this]
theorem mt_joinE {m : Bool} : MtR X "str.join" (rBm c X.K W m .join) := mt_from (by decide) fun {pins s σ H x v vs us Q z A S d0 ds d} I rx r hc wd hl k h p => by
  unfold bmD at h
  split at h <;> first | (simp only [reduceCtorEq] at *; done) | skip
  all_goals
    rename_i t xs _
    unfold joinT at h
    rw [Option.bind_eq_some_iff] at h
    obtain ⟨ws, e, h⟩ := h
    split at h
    · rename_i hz
      cases h
      obtain ⟨y, rfl, l, vs2, rfl, q, rs⟩ := one_of hl k
      rw [strsOf_eq e] at rs
      rw [rels_strs rs] at q
      rw [wd.str] at rx
      refine mt_join pins s σ H _ _ v us Q I rx r ⟨SS t, l, ws.map SS, rfl, rfl, ?_, ?_, ?_⟩
      · first | exact .inl q | exact .inr q.t
      · rw [sum_len, List.length_map, SS_len]; exact hz
      · rw [TL.join_eq, join_SS]; exact p.ok hc rel_str
    · cases h
theorem idx_at {s : List Nat} {c : Nat} : ∀ {n : Nat}, idxL (· == c) s = some n → s[n]? = some c ∧ ∀ k, k < n → s[k]? ≠ some c := by
  induction s with
  | nil => intro n h; cases h
  | cons x xs ih =>
    intro n h
    simp only [idxL] at h
    split at h
    · rename_i hx
      cases h
      exact ⟨by simpa using hx, fun k hk => absurd hk (Nat.not_lt_zero _)⟩
    · rename_i hx
      rw [Option.map_eq_some_iff] at h
      obtain ⟨j, e, rfl⟩ := h
      obtain ⟨h1, h2⟩ := ih e
      refine ⟨by simpa using h1, fun k hk => ?_⟩
      cases k with
      | zero => simpa using hx
      | succ k => simpa using h2 k (by omega)
theorem mt_sidx {m : Bool} : MtR X "str.index" (rBm c X.K W m .sidx) := mt_from (by decide) fun {pins s σ H x v vs us Q z A S d0 ds d} I rx r hc wd hl k h p => by
  unfold bmD at h
  split at h <;> first | (simp only [reduceCtorEq] at *; done) | skip
  rename_i t ch _
  rw [Option.map_eq_some_iff] at h
  obtain ⟨n, e, rfl⟩ := h
  obtain ⟨h1, h2⟩ := idx_at e
  obtain ⟨y, rfl, ry⟩ := one_of hl k
  rw [wd.str] at rx
  rw [ry.str] at r
  obtain ⟨tk, rfl⟩ := rx
  obtain ⟨u, rfl, tk2, rfl⟩ := Vals.one r
  rcases StrLaws.occ_head (SS t) (SS [ch]) 1 (Nat.le_refl _) with ⟨_, hn⟩ | ⟨i, rest, hi, ha, hno⟩
  · exact (hn n ((StrLaws.subAt_one (SS t) ch n).mpr h1)).elim
  · have hi1 : (SS t).cps.toList[i]? = some ch := (StrLaws.subAt_one (SS t) ch i).mp ha
    have : i = n := by
      rcases Nat.lt_trichotomy i n with hlt | heq | hgt
      · exact absurd hi1 (h2 i hlt)
      · exact heq
      · exact absurd ((StrLaws.subAt_one (SS t) ch n).mpr h1) (hno n hgt)
    subst this
    exact call_gives PySem.F.slot_str_index (typeIs_str _ _ _) PySem.F.entry_str_index (PySem.F.args_str_index_2 _ _) (gives_str_index _ _ _ _ _ _ hi) ⟨.int (i : Nat), H, I.tok _, ⟨_, rfl⟩, p.ok hc rel_int⟩
theorem mt_bits {m : Bool} : MtR X "int.bit_length" (rBm c X.K W m .bitlen) := mt_from (by decide) fun {pins s σ H x v vs us Q z A S d0 ds d} I rx r hc wd hl k h p => by
  unfold bmD at h
  split at h <;> first | (simp only [reduceCtorEq] at *; done) | skip
  cases h
  rw [wd.int] at rx
  obtain ⟨t, rfl⟩ := rx
  have : vs = [] := List.eq_nil_of_length_eq_zero hl.symm
  subst this
  cases r
  exact call_int_bit_length ⟨.int _, H, I.tok _, ⟨_, rfl⟩, p.ok hc rel_int⟩
theorem mt_upperE {m : Bool} : MtR X "str.upper" (rBm c X.K W m .upper) := mt_from (by decide) fun {pins s σ H x v vs us Q z A S d0 ds d} I rx r hc wd hl k h p => by
  unfold bmD at h
  split at h <;> first | (simp only [reduceCtorEq] at *; done) | skip
  split at h
  · rename_i t _ hz
    cases h
    rw [wd.str] at rx
    have : vs = [] := List.eq_nil_of_length_eq_zero hl.symm
    subst this
    refine mt_upper pins s σ H _ _ v us Q I rx r ⟨SS t, rfl, rfl, by rw [SS_len]; exact hz.2, ?_⟩
    have := SX.upper_S (a := t) hz.1
    rw [show Txt.upper (SS t) = SS (t.map upC) from this]
    exact p.ok hc rel_str
  · cases h
theorem cnt_eq (ch : Nat) : ∀ s : List Nat, PyProof.Rows.cnt ch s = (s.count ch : Nat)
  | [] => rfl
  | x :: xs => by
    rw [PyProof.Rows.cnt_cons, cnt_eq ch xs, List.count_cons]
    by_cases hx : x = ch
    · subst hx; simp; omega
    · simp [hx]
theorem mt_scnt {m : Bool} : MtR X "str.count" (rBm c X.K W m .scnt) := mt_from (by decide) fun {pins s σ H x v vs us Q z A S d0 ds d} I rx r hc wd hl k h p => by
  unfold bmD at h
  split at h <;> first | (simp only [reduceCtorEq] at *; done) | skip
  rename_i t ch _
  cases h
  obtain ⟨y, rfl, ry⟩ := one_of hl k
  rw [wd.str] at rx
  rw [ry.str] at r
  refine mt_count pins s σ H _ _ v us Q I rx r ⟨SS t, SS [ch], rfl, rfl, ?_⟩
  have : Txt.count (SS t) (SS [ch]) = (t.count ch : Nat) := (count_cnt (SS t) ch).trans (cnt_eq ch t)
  rw [this]
  exact p.ok hc rel_int
theorem idx_atP {α : Type} {p : α → Bool} {s : List α} : ∀ {n : Nat}, idxL p s = some n → ∃ x, s[n]? = some x ∧ p x = true ∧ ∀ k y, k < n → s[k]? = some y → p y = false := by
  induction s with
  | nil => intro n h; cases h
  | cons x xs ih =>
    intro n h
    simp only [idxL] at h
    split at h
    · rename_i hx
      cases h
      exact ⟨x, rfl, hx, fun k y hk => absurd hk (Nat.not_lt_zero _)⟩
    · rename_i hx
      rw [Option.map_eq_some_iff] at h
      obtain ⟨j, e, rfl⟩ := h
      obtain ⟨y, h1, h2, h3⟩ := ih e
      refine ⟨y, by simpa using h1, h2, fun k z hk hz => ?_⟩
      cases k with
      | zero =>
        simp only [List.getElem?_cons_zero, Option.some.injEq] at hz
        subst hz
        simpa using hx
      | succ k => exact h3 k z (by omega) (by simpa using hz)
theorem datN_mono : ∀ {m n : Nat}, m ≤ n → ∀ {d : D}, datN m d = true → datN n d = true
  | 0, n, _, d, h => by cases d <;> cases n <;> simp_all [datN]
  | m + 1, 0, hm, _, _ => absurd hm (by omega)
  | m + 1, n + 1, hm, d, h => by
    cases d with
    | tup xs => simp only [datN, List.all_eq_true] at *; exact fun x hx => datN_mono (by omega) (h x hx)
    | lst xs => simp only [datN, List.all_eq_true] at *; exact fun x hx => datN_mono (by omega) (h x hx)
    | _ => simp_all [datN]
theorem mt_lidx (g : Good c N X sc W) {m : Bool} : MtR X "list.index" (rBm c X.K W m .lidx) := mt_from (by decide) fun {pins s σ H x v vs us Q z A S d0 ds d} I rx r hc wd hl k h p => by
  unfold bmD at h
  split at h <;> first | (simp only [reduceCtorEq] at *; done) | skip
  rename_i xs e0 _
  split at h
  · rename_i hd
    rw [Bool.and_eq_true] at hd
    rw [Option.map_eq_some_iff] at h
    obtain ⟨n, e, rfl⟩ := h
    obtain ⟨y, rfl, ry⟩ := one_of hl k
    obtain ⟨x1, h1, h2, h3⟩ := idx_atP e
    have dx := dp_of 12 hd.2 wd
    have dy := dp_of 12 hd.1 ry
    have hxs : ∀ w ∈ xs, datN 11 w = true := by
      have := hd.2
      simp only [dat, datN, List.all_eq_true] at this
      exact this
    obtain ⟨l, vs2, rfl, q, rs⟩ := wd
    have hpd : pd (.lst xs) = .list (pds xs) := by simp only [pd]
    rw [hpd] at dx
    refine mt_indexD (by have := g.room.units; have := g.room.un; omega) pins s σ H _ _ v us Q I rx r ⟨l, y, pd e0, pds xs, n, pd x1, rfl, rfl, dx, dy, by rw [← hpd]; exact dat_shaped hd.2, dat_shaped hd.1, ?_, ?_, ?_, p.ok hc rel_int⟩
    · rw [pds_map, List.getElem?_map, h1]; rfl
    · rw [eqD_pd _ _ ⟨11, hxs x1 (List.mem_of_getElem? h1)⟩ ⟨12, hd.1⟩]; exact h2
    · intro m' z' hm hz
      rw [pds_map, List.getElem?_map, Option.map_eq_some_iff] at hz
      obtain ⟨w, hw, rfl⟩ := hz
      rw [eqD_pd _ _ ⟨11, hxs w (List.mem_of_getElem? hw)⟩ ⟨12, hd.1⟩]
      exact h3 m' w hm hw
  · cases h
theorem countP_map_pd {d : D} : ∀ {xs : List D}, (∀ w ∈ xs, datN 11 w = true) → datN 12 d = true → (pds xs).countP (fun z => PyData.eqv z (pd d)) = xs.countP fun y => eqD y d
  | [], _, _ => rfl
  | x :: xs, h, hd => by
    simp only [pds, List.countP_cons]
    rw [countP_map_pd (fun w hw => h w (List.mem_cons_of_mem _ hw)) hd, eqD_pd x d ⟨11, h x List.mem_cons_self⟩ ⟨12, hd⟩]
theorem mt_lcnt (g : Good c N X sc W) {m : Bool} : MtR X "list.count" (rBm c X.K W m .lcnt) := mt_from (by decide) fun {pins s σ H x v vs us Q z A S d0 ds d} I rx r hc wd hl k h p => by
  unfold bmD at h
  split at h <;> first | (simp only [reduceCtorEq] at *; done) | skip
  rename_i xs e0 _
  split at h
  · rename_i hd
    rw [Bool.and_eq_true] at hd
    cases h
    obtain ⟨y, rfl, ry⟩ := one_of hl k
    have dx := dp_of 12 hd.2 wd
    have dy := dp_of 12 hd.1 ry
    have hxs : ∀ w ∈ xs, datN 11 w = true := by
      have := hd.2
      simp only [dat, datN, List.all_eq_true] at this
      exact this
    obtain ⟨l, vs2, rfl, q, rs⟩ := wd
    have hpd : pd (.lst xs) = .list (pds xs) := by simp only [pd]
    have sl := dat_shaped hd.2
    rw [hpd] at dx sl
    have sd := dat_shaped hd.1
    cases rx
    obtain ⟨uy, rfl, ruy⟩ := Vals.one r
    obtain ⟨bs, r1⟩ := Dp.reads I _ _ _ dy ruy
    have hcan : PyData.canLayAll0 (pds xs) = true := SeqAt.canLay_of_shaped sl
    cases dx with
    | lst hs ha =>
      obtain ⟨its, rv, ⟨⟨cls, dd, data, sls⟩, n, ho, hcl, hdn, hdt⟩, hlen⟩ := I.list hs
      simp only at hcl hdt
      subst hcl hdt
      obtain ⟨as, h4⟩ := Dp.readsAll I _ _ its ha rv
      have hmap : its.map (SeqAt.readOf s.heap) = pds xs := SeqAt.readsAll_map _ its as hcan h4
      refine call_meets PySem.F.slot_list_count ⟨_, ho, rfl⟩ PySem.F.entry_list_count (PySem.F.args_list_count_2 _ _)
        (SeqAt.list_countAt l its.toArray n dd sls uy (fun u => PyData.eqv (SeqAt.readOf s.heap u) (pd e0))) ⟨ho, SeqAt.items_eqAt (vs := its.toArray) (show ReadsAll s.heap its.toArray.toList _ as from h4) r1 hcan (SeqAt.canLay_of_shaped sd) (room_in_shaped sd (by have := g.room.un; omega)), ?_⟩
      have e1 : its.toArray.toList.countP (fun u => PyData.eqv (SeqAt.readOf s.heap u) (pd e0)) = xs.countP fun y => eqD y e0 := by
        rw [← countP_map_pd hxs hd.1, ← hmap, List.countP_map]
        rfl
      rw [e1]
      exact ⟨.int _, H, I.tok _, ⟨_, rfl⟩, p.ok hc rel_int⟩
  · cases h
theorem spl_one (c : Nat) : ∀ (l acc : List Nat), TL.spl [c] 0 acc l = splL c acc l
  | [], acc => TL.spl_nil _ _ _
  | x :: l, acc => by
    by_cases hx : x = c
    · subst hx
      rw [TL.spl_hit (S := [x]) (acc := acc) (r := l) (c := x) (by simp [TL.pre])]
      simp only [splL, if_true, List.length_singleton, Nat.sub_self]
      rw [spl_one x l []]
    · rw [TL.spl_miss (S := [c]) (acc := acc) (r := l) (c := x) (by simp [TL.pre, hx])]
      simp only [splL, if_neg hx]
      exact spl_one c l _
theorem rels_strs' {L : Lay} {A : List Addr} {H : Hp} : ∀ (ws : List (List Nat)), Rels L A H (ws.map .str) ((ws.map SS).map V.str)
  | [] => .nil
  | w :: ws => .cons rel_str (rels_strs' ws)
theorem mt_splitE {m : Bool} : MtR X "str.split" (rBm c X.K W m .split) := by
  intro pins s σ H x vs v us Q I rx r ⟨z, A, S, d0, ds, hc, rd, rr, p⟩
  have wd := view_rel hc rd
  have p : Post (c.lay X.K z) W A H (Rel (c.lay X.K z)) (splR m (view S d0) ds S) Q := p
  cases hv : view S d0 with
  | str t =>
    rw [hv] at p wd
    match ds, p, rr with
    | [.str [ch]], p, rr =>
      have p : Post (c.lay X.K z) W A H (Rel (c.lay X.K z)) (if t.length ≤ 100000 ∧ ch < 128 then alloc m ((splL ch [] t).map .str) S else .no) Q := p
      split at p
      · rename_i hz
        rw [wd.str] at rx
        obtain ⟨y, rfl, ry⟩ := rels1 rr
        rw [ry.w.str] at r
        refine mt_split pins s σ H _ _ v us Q I rx r ⟨SS t, SS [ch], rfl, rfl, by rw [SS_len]; rfl, by rw [SS_len, sizeLine_eq]; omega, fun q hq => ?_⟩
        have hk : ¬ Builtin.Str.strKind (SS t) < Builtin.Str.strKind (SS [ch]) := TL.kind_ok (by simp [SS]; omega)
        have e := TL.split_spl (SS t) (SS [ch]) (by simp [TL.tl, SS]) hk
        have e2 : Txt.split (SS t) (SS [ch]) = (splL ch [] t).map SS := by
          apply TL.map_tl_inj
          rw [e, List.map_map]
          have : (TL.tl ∘ SS) = id := by funext l; rfl
          rw [this, List.map_id]
          exact spl_one ch t []
        rw [e2]
        exact post_alloc p hc (rels_strs' _) hq
      · exact p.elim
    | [], p, _ => exact p.elim
    | [.str []], p, _ => exact p.elim
    | [.str (_ :: _ :: _)], p, _ => exact p.elim
    | _ :: _ :: _, p, _ => simp only [splR] at p; exact p.elim
    | [.non], p, _ => exact p.elim
    | [.bl _], p, _ => exact p.elim
    | [.int _], p, _ => exact p.elim
    | [.tup _], p, _ => exact p.elim
    | [.lst _], p, _ => exact p.elim
    | [.dct _ _], p, _ => exact p.elim
    | [.ins _ _], p, _ => exact p.elim
    | [.cell _], p, _ => exact p.elim
    | [.cls _], p, _ => exact p.elim
    | [.clo _ _], p, _ => exact p.elim
  | _ => rw [hv] at p; exact (show False from p).elim
theorem belows_app {n : Nat} : ∀ {xs ys : List D}, belows n xs = true → belows n ys = true → belows n (xs ++ ys) = true
  | [], _, _, h => h
  | x :: xs, ys, h, k => by
    simp only [belows, Bool.and_eq_true] at h
    simp only [List.cons_append, belows, Bool.and_eq_true]
    exact ⟨h.1, belows_app h.2 k⟩
theorem belows_erase {n : Nat} : ∀ {xs : List D}, belows n xs = true → ∀ k, belows n (xs.eraseIdx k) = true
  | [], h, _ => by simpa using h
  | x :: xs, h, 0 => by simp only [belows, Bool.and_eq_true] at h; simpa using h.2
  | x :: xs, h, k + 1 => by
    simp only [belows, Bool.and_eq_true] at h
    simp only [List.eraseIdx_cons_succ, belows, Bool.and_eq_true]
    exact ⟨h.1, belows_erase h.2 k⟩
theorem cell_at {L : Lay} {A : List Addr} {S : St} {H : Hp} (hc : Cells L A S H) {n : Nat} {x : V} (h : Rel L A H (.cell n) x) : ∃ a, x = .ref a ∧ A[n]? = some a := by simpa only [Rel] using h
theorem mt_appendE {m : Bool} : MtR X "list.append" (rBm c X.K W m .append) := by
  intro pins s σ H x vs v us Q I rx r ⟨z, A, S, d0, ds, hc, rd, rr, p⟩
  have p : Post (c.lay X.K z) W A H (Rel (c.lay X.K z)) (bmC .append d0 ds S) Q := p
  cases d0 with
  | cell n =>
    match ds, p, rr with
    | [], p, _ => exact p.elim
    | _ :: _ :: _, p, _ => exact p.elim
    | [d], p, rr =>
      have p : Post (c.lay X.K z) W A H (Rel (c.lay X.K z)) (match S[n]? with
        | some (.lst xs) => if xs.length < line ∧ below n d = true then .ok .non (S.set n (.lst (xs ++ [d]))) else .no
        | _ => .no) Q := p
      split at p
      · rename_i xs e
        split at p
        · rename_i hz
          obtain ⟨a, rfl, ea⟩ := cell_at hc rd
          obtain ⟨y, rfl, ry⟩ := rels1 rr
          obtain ⟨vs2, q, rs, b⟩ := hc.ok n _ a e ea
          have hl := rs.len
          refine mt_append pins s σ H _ _ v us Q I rx r ⟨a, vs2, y, rfl, rfl, q, by rw [← hl, ← line_eq]; exact hz.1, ?_⟩
          have G := grow_set (A := A) (H := H) (p := a) (o := HO.lst (vs2 ++ [y])) ea (by intro od u z; rw [q] at z; cases z)
          exact p A _ .non G (hc.set ea ⟨vs2 ++ [y], upd_same, (rs.grow G).app (.one (ry.grow G)), belows_app b (by simp [belows, hz.2])⟩ (by intro od u z; rw [q] at z; cases z)) rel_non
        · exact p.elim
      · exact p.elim
  | _ => exact (show False from p).elim
def rExtT (K : PySem.W.Frag) : V → List V → Hp → VK → Prop := fun x vs H Q => ∃ l b xs zs, x = .ref l ∧ vs = [.ref b] ∧ H l = some (.lst xs) ∧ SqT K H b zs ∧ xs.length + zs.length ≤ sizeLine ∧ Q .non (upd H l (.lst (xs ++ zs)))
theorem meets_ext (l : Addr) (items : Array Value) (n : Nat) (b : Addr) (items2 : Array Value) (hlong : (!items.isEmpty && Builtin.List.listTooLong (items.size + items2.size)) = false) (hs1 : items.size ≤ sizeLine) (hs2 : items.size + items2.size ≤ sizeLine) :
    Meets (Builtin.«list.extend» ⟨[.ref l, .ref b], []⟩) (fun _ R s => s.heap.get? l = some { cls := .type "list", dict := none, data := .seq items n, slots := #[] } ∧ IsTup s.heap b items2 ∧ R (.ok (.ret Value.none)) { s with heap := s.heap.update l (Obj.mapSeq fun x => x ++ items2), toks := s.toks }) :=
  .of_wp fun prog w A R s h => by
    obtain ⟨hl, ⟨o, ho, hc, n2, hd⟩, h⟩ := h
    show wpAny _ _ (Builtin.List.listExtendWith (.ref l) (.ref b) .none) _ _ s
    unfold Builtin.List.listExtendWith
    refine wpAny_bind (wpAny_typeOf ⟨o, ho, hc⟩ ?_)
    have h1 : (Builtin.List.listSameRef (.ref l) (.ref b) || Value.type "tuple" == Value.type "list" || Value.type "tuple" == Value.type "tuple") = true := by simp
    simp only [h1, if_true]
    refine wpAny_bind ?_
    unfold Builtin.List.listItems
    refine wpAny_bind (wpAny_seqItems ho hd (wpAny_pure ?_))
    refine wpAny_bind ?_
    refine wpAny_bind (wpAny_seqItems hl rfl (wpAny_pure ?_))
    simp only [hlong, Bool.false_eq_true, if_false]
    show wpAny _ A.in1 (updateSeq l (· ++ items2) >>= fun _ => ret .none) _ _ s
    refine wpAny_bind (wpAny_updateSeq hl rfl ?_ (hz := hs1) (_hz' := by rw [Array.size_append]; omega))
    exact wpAny_pure ⟨_, rfl, h⟩
theorem mt_extT : MtR X "list.extend" (rExtT X.K) := by
  intro pins s σ H x vs v us Q I rx rv h
  obtain ⟨l, b, xs, zs, rfl, rfl, hH, hB, hz, q⟩ := h
  cases rx
  obtain ⟨u, rfl, ru⟩ := rv.one
  cases ru
  obtain ⟨z, its, n, r, hl, e⟩ := I.lstM hH
  obtain ⟨its2, r2, ht, hz2⟩ := I.tuple hB
  have hl2 := r2.length
  have hsz : its.toArray.size + its2.toArray.size ≤ sizeLine := by rw [List.size_toArray, List.size_toArray]; omega
  have hlong : (!its.toArray.isEmpty && Builtin.List.listTooLong (its.toArray.size + its2.toArray.size)) = false := by
    rw [notLongL hsz, Bool.and_false]
  refine call_meets F.slot_list_extend ⟨_, e, rfl⟩ F.entry_list_extend (F.args_list_extend_2 _ _)
    (meets_ext l its.toArray n b its2.toArray hlong (by rw [List.size_toArray]; omega) hsz) ⟨e, ht, ?_⟩
  refine ⟨.non, _, I.lset (its' := its ++ its2) hH e (by simp) (r.append r2) ?_, rfl, q⟩
  rw [List.length_append]
  omega
theorem mt_extendE {m : Bool} : MtR X "list.extend" (rBm c X.K W m .extend) := by
  intro pins s σ H x vs v us Q I rx r ⟨z, A, S, d0, ds, hc, rd, rr, p⟩
  have p : Post (c.lay X.K z) W A H (Rel (c.lay X.K z)) (bmC .extend d0 ds S) Q := p
  cases d0 with
  | cell n =>
    match ds, p, rr with
    | [], p, _ => exact p.elim
    | _ :: _ :: _, p, _ => simp only [bmC] at p; exact p.elim
    | [.cell k], p, rr =>
      have p : Post (c.lay X.K z) W A H (Rel (c.lay X.K z)) (match S[n]?, S[k]? with
        | some (.lst xs), some (.lst ys) => if xs.length + ys.length ≤ line ∧ belows n ys = true then .ok .non (S.set n (.lst (xs ++ ys))) else .no
        | _, _ => .no) Q := p
      split at p
      · rename_i xs ys e e3
        split at p
        · rename_i hz
          obtain ⟨a, rfl, ea⟩ := cell_at hc rd
          obtain ⟨y, rfl, ry⟩ := rels1 rr
          obtain ⟨l, rfl, el⟩ := cell_at hc ry
          obtain ⟨vs2, q, rs, b⟩ := hc.ok n _ a e ea
          obtain ⟨vs3, q3, rs3, b3⟩ := hc.ok k _ l e3 el
          have hl := rs.len
          have hl3 := rs3.len
          refine mt_extend pins s σ H _ _ v us Q I rx r ⟨a, l, vs2, vs3, rfl, rfl, q, q3, by rw [← hl, ← hl3, ← line_eq]; exact hz.1, ?_⟩
          have G := grow_set (A := A) (H := H) (p := a) (o := HO.lst (vs2 ++ vs3)) ea (by intro od u z; rw [q] at z; cases z)
          exact p A _ .non G (hc.set ea ⟨vs2 ++ vs3, upd_same, (rs.grow G).app (rs3.grow G), belows_app b hz.2⟩ (by intro od u z; rw [q] at z; cases z)) rel_non
        · exact p.elim
      · exact p.elim
    | [.non], p, _ => exact p.elim
    | [.bl _], p, _ => exact p.elim
    | [.int _], p, _ => exact p.elim
    | [.str _], p, _ => exact p.elim
    | [.tup ys], p, rr =>
      have p : Post (c.lay X.K z) W A H (Rel (c.lay X.K z)) (match S[n]? with
        | some (.lst xs) => if xs.length + ys.length ≤ line ∧ belows n ys = true then .ok .non (S.set n (.lst (xs ++ ys))) else .no
        | _ => .no) Q := p
      split at p
      · rename_i xs e
        split at p
        · rename_i hz
          obtain ⟨a, rfl, ea⟩ := cell_at hc rd
          obtain ⟨y, rfl, ry⟩ := rels1 rr
          obtain ⟨vs2, q, rs, b⟩ := hc.ok n _ a e ea
          have ry := ry.w
          obtain ⟨l, vs3, rfl, q3, rs3⟩ := ry
          have hl := rs.len
          have hl3 := rs3.len
          refine mt_extT pins s σ H _ _ v us Q I rx r ⟨a, l, vs2, vs3, rfl, rfl, q, q3.t, by rw [← hl, ← hl3, ← line_eq]; exact hz.1, ?_⟩
          have G := grow_set (A := A) (H := H) (p := a) (o := HO.lst (vs2 ++ vs3)) ea (by intro od u z; rw [q] at z; cases z)
          exact p A _ .non G (hc.set ea ⟨vs2 ++ vs3, upd_same, (rs.grow G).app (rs3.grow G), belows_app b hz.2⟩ (by intro od u z; rw [q] at z; cases z)) rel_non
        · exact p.elim
      · exact p.elim
    | [.lst _], p, _ => exact p.elim
    | [.dct _ _], p, _ => exact p.elim
    | [.ins _ _], p, _ => exact p.elim
    | [.cls _], p, _ => exact p.elim
    | [.clo _ _], p, _ => exact p.elim
  | _ => exact (show False from p).elim
theorem ix_bd {n k : Nat} {i : Int} (h : EV.ixN n i = some k) (hz : n ≤ sizeLine) : -(2 ^ 63) ≤ i ∧ i < 2 ^ 63 := by
  rw [sizeLine_eq] at hz
  unfold EV.ixN at h
  split at h
  · split at h
    · omega
    · cases h
  · split at h
    · omega
    · cases h
theorem seq_ix {n k : Nat} {i : Int} (h : EV.ixN n i = some k) : seqIndex? i n = some k := by
  unfold EV.ixN at h
  split at h
  · split at h
    · cases h
      have e : (if i < 0 then i + (n : Int) else i) = i := if_neg (by omega)
      simp only [seqIndex?, e]
      rw [if_pos (by simp only [Bool.and_eq_true, decide_eq_true_eq]; omega)]
    · cases h
  · split at h
    · cases h
      have e : (if i < 0 then i + (n : Int) else i) = i + n := if_pos (by omega)
      simp only [seqIndex?, e]
      rw [if_pos (by simp only [Bool.and_eq_true, decide_eq_true_eq]; omega)]
    · cases h
theorem mt_popE {m : Bool} : MtR X "list.pop" (rBm c X.K W m .pop) := by
  intro pins s σ H x vs v us Q I rx r ⟨z, A, S, d0, ds, hc, rd, rr, p⟩
  have p : Post (c.lay X.K z) W A H (Rel (c.lay X.K z)) (bmC .pop d0 ds S) Q := p
  cases d0 with
  | cell n =>
    match ds, p, rr with
    | [], p, _ => exact p.elim
    | _ :: _ :: _, p, _ => simp only [bmC] at p; exact p.elim
    | [.int i], p, rr =>
      have p : Post (c.lay X.K z) W A H (Rel (c.lay X.K z)) (match S[n]? with
        | some (.lst xs) => match EV.ixN xs.length i with
          | some k => match xs[k]? with
            | some d => .ok d (S.set n (.lst (xs.eraseIdx k)))
            | none => .no
          | none => .no
        | _ => .no) Q := p
      split at p
      · rename_i xs e
        split at p
        · rename_i k hk
          split at p
          · rename_i d hd
            obtain ⟨a, rfl, ea⟩ := cell_at hc rd
            obtain ⟨y, rfl, ry⟩ := rels1 rr
            obtain ⟨vs2, q, rs, b⟩ := hc.ok n _ a e ea
            have hl := rs.len
            have hlz : vs2.length ≤ sizeLine := (I.lstM q).1
            obtain ⟨w, hw, rw'⟩ := rs.get hd
            have ey : y = V.int i := ry.w.int
            subst ey
            refine mt_popAt pins s σ H _ _ v us Q I rx r ⟨a, vs2, i, k, w, rfl, rfl, q, ?_, ?_, ?_, hw, ?_⟩
            · exact (ix_bd hk (by rw [hl]; exact hlz)).1
            · exact (ix_bd hk (by rw [hl]; exact hlz)).2
            · rw [← hl]; exact seq_ix hk
            · have G := grow_set (A := A) (H := H) (p := a) (o := HO.lst (vs2.eraseIdx k)) ea (by intro od u z; rw [q] at z; cases z)
              exact p A _ _ G (hc.set ea ⟨vs2.eraseIdx k, upd_same, (rs.grow G).eraseIdx k, belows_erase b k⟩ (by intro od u z; rw [q] at z; cases z)) (rw'.grow G)
          · exact p.elim
        · exact p.elim
      · exact p.elim
    | [.non], p, _ => exact p.elim
    | [.bl _], p, _ => exact p.elim
    | [.str _], p, _ => exact p.elim
    | [.tup _], p, _ => exact p.elim
    | [.lst _], p, _ => exact p.elim
    | [.dct _ _], p, _ => exact p.elim
    | [.ins _ _], p, _ => exact p.elim
    | [.cell _], p, _ => exact p.elim
    | [.cls _], p, _ => exact p.elim
    | [.clo _ _], p, _ => exact p.elim
  | _ => exact (show False from p).elim
theorem belows_dropLast {n : Nat} {xs : List D} (h : belows n xs = true) : belows n xs.dropLast = true := by
  induction xs with
  | nil => simpa using h
  | cons x xs ih =>
    simp only [belows, Bool.and_eq_true] at h
    cases xs with
    | nil => rfl
    | cons y ys =>
      rw [List.dropLast_cons_of_ne_nil (by simp)]
      simp only [belows, Bool.and_eq_true]
      exact ⟨h.1, ih h.2⟩
theorem Rels.dropLast {L : Lay} {A : List Addr} {H : Hp} {ds : List D} {vs : List V} (r : Rels L A H ds vs) : Rels L A H ds.dropLast vs.dropLast := by
  rw [List.dropLast_eq_take, List.dropLast_eq_take, ← r.len]
  exact r.take _
theorem mt_pop0E {m : Bool} : MtR X "list.pop" (rBm c X.K W m .pop0) := by
  intro pins s σ H x vs v us Q I rx r ⟨z, A, S, d0, ds, hc, rd, rr, p⟩
  have p : Post (c.lay X.K z) W A H (Rel (c.lay X.K z)) (bmC .pop0 d0 ds S) Q := p
  cases d0 with
  | cell n =>
    match ds, p, rr with
    | _ :: _, p, _ => simp only [bmC] at p; exact p.elim
    | [], p, rr =>
      have p : Post (c.lay X.K z) W A H (Rel (c.lay X.K z)) (match S[n]? with
        | some (.lst xs) => match xs[xs.length - 1]? with
          | some d => .ok d (S.set n (.lst xs.dropLast))
          | none => .no
        | _ => .no) Q := p
      split at p
      · rename_i xs e
        split at p
        · rename_i d hd
          obtain ⟨a, rfl, ea⟩ := cell_at hc rd
          have ev : vs = [] := by simpa only [Rels] using rr
          subst ev
          obtain ⟨vs2, q, rs, b⟩ := hc.ok n _ a e ea
          have hl := rs.len
          obtain ⟨w, hw, rw'⟩ := rs.get hd
          refine mt_pop pins s σ H _ _ v us Q I rx r ⟨a, vs2, w, rfl, rfl, q, by rw [← hl]; exact hw, ?_⟩
          have G := grow_set (A := A) (H := H) (p := a) (o := HO.lst vs2.dropLast) ea (by intro od u z; rw [q] at z; cases z)
          exact p A _ _ G (hc.set ea ⟨vs2.dropLast, upd_same, (rs.grow G).dropLast, belows_dropLast b⟩ (by intro od u z; rw [q] at z; cases z)) (rw'.grow G)
        · exact p.elim
      · exact p.elim
  | _ => exact (show False from p).elim
end
end EV
set_option Elab.async false
set_option linter.all false
set_option maxRecDepth 100000
set_option maxHeartbeats 2000000
namespace EV
open PySem PySem.Spec PyProof.Rows L2
section
variable {c : Cf} {N : List Str} {X : Cx} {sc : Sc} {W : XK} {a b d e : E} {x y w : Expr} {pos : Pos}
theorem lookK_none {L : Lay} {A : List Addr} {H : Hp} {k : DK} : ∀ {ks : List DK} {ds : List D} {vs : List V}, ks.length = vs.length → Rels L A H ds vs → lookK k ks ds = none → valV ((ks.map dkK).zip vs) (dkK k) = none
  | [], _, _, _, _, h => rfl
  | q :: ks, [], vs, hl, r, h => by
    simp only [Rels] at r
    subst r; cases hl
  | q :: ks, d :: ds, vs, hl, r, h => by
    obtain ⟨x, r', rfl, h1, h2⟩ := (show ∃ v r, _ from by simpa only [Rels] using r)
    simp only [lookK] at h
    split at h
    · cases h
    · rename_i hk
      simp only [List.map_cons, List.zip_cons_cons]
      have hne : ¬ (dkK q = dkK k) := fun e => hk (by
        have := dkK_inj e
        subst this
        cases q <;> simp [dkEq])
      rw [valV_neg hne]
      exact lookK_none (by simpa using hl) h2 h
theorem mt_getE (hu : X.A.units + 1 < cLine) {m : Bool} : MtR X "dict.get" (rBm c X.K W m .get) := by
  intro pins s σ H x vs v us Q I rx r ⟨z, A, S, d0, ds, hc, rd, rr, p⟩
  have p : Post (c.lay X.K z) W A H (Rel (c.lay X.K z)) (getR (view S d0) ds S) Q := p
  have wd := view_rel hc rd
  cases hv : view S d0 with
  | dct ks ws =>
    rw [hv] at p wd
    match ds, p, rr with
    | [], p, _ => exact p.elim
    | [_], p, _ => exact p.elim
    | _ :: _ :: _ :: _, p, _ => exact p.elim
    | [k0, d1], p, rr =>
      have p : Post (c.lay X.K z) W A H (Rel (c.lay X.K z)) (R.opt ((keyOf k0).map fun q => (lookK q ks ws).getD d1) S) Q := p
      obtain ⟨d, e, p1⟩ := p.opt
      rw [Option.map_eq_some_iff] at e
      obtain ⟨q, hk, rfl⟩ := e
      obtain ⟨l, vs2, rfl, hl, hlen, nd, rs⟩ := wd
      obtain ⟨y1, y2, rfl, r1, r2⟩ := rels2 rr
      have ey := keyOf_rel hk (view_rel hc r1 |> fun h => by
        cases k0 <;> first | exact h | cases hk)
      subst ey
      cases (show v = Value.ref l from rx)
      obtain ⟨u1, u2, rfl, ru1, ru2⟩ := Vals.two r
      have g : DGet H l (kV (dkK q)) _ := dget_r hl
      refine d_get2 hu I g ru1 ru2 fun w' s' I' hw => ?_
      cases hlook : lookK q ks ws with
      | none =>
        rw [lookK_none hlen rs hlook] at hw
        rw [hlook] at p1
        exact ⟨y2, H, I', hw, p1.ok hc r2⟩
      | some dd =>
        obtain ⟨v', e1, r3⟩ := lookK_rel rs hlook
        rw [e1] at hw
        rw [hlook] at p1
        exact ⟨v', H, I', hw, p1.ok hc r3⟩
  | _ => rw [hv] at p; exact (show False from p).elim
def bmT : Bm → String
  | .join => "str" | .split => "str" | .sidx => "str" | .lidx => "list" | .scnt => "str" | .lcnt => "list" | .bitlen => "int" | .get => "dict" | .upper => "str" | .replace => "str" | .append => "list" | .extend => "list" | .pop => "list" | .pop0 => "list" | .kget => "dict"
def bmN : Bm → Str
  | .join => "join" | .split => "split" | .sidx => "index" | .lidx => "index" | .scnt => "count" | .lcnt => "count" | .bitlen => "bit_length" | .get => "get" | .upper => "upper" | .replace => "replace" | .append => "append" | .extend => "extend" | .pop => "pop" | .pop0 => "pop" | .kget => "get"
def bm0 : Bm → Bool
  | .bitlen => true | .upper => true | .pop0 => true
  | _ => false
def tyR (K : PySem.W.Frag) (T : String) (x : V) (H : Hp) : Prop := L2.tyV K T x H ∨ (T = "dict" ∧ ∃ p kvs, x = .ref p ∧ Rd H p (.dK kvs))
theorem tyR_is {pins : List (Addr × Obj)} {σ : L2.St} {H : Hp} {s : Shared} {T : String} {x : V} {v : Value} (I : Inv X pins σ H s) (r : RelV x v) (ty : tyR X.K T x H) :
    s.TypeIs v T ∧ ∀ a, v = .ref a → ∃ ob, s.heap.get? a = some ob ∧ ob.dict = none := by
  rcases ty with ty | ⟨rfl, p, kvs, rfl, e⟩
  · exact tyV_is I r ty
  · cases (show v = Value.ref p from r)
    obtain ⟨h1, h2, _⟩ := isD_at I (.inl ⟨kvs, e⟩)
    exact ⟨h1, h2⟩
def tBMr (K : PySem.W.Frag) (T : String) (r : V → List V → Hp → VK → Prop) (to : TE) (t : TA) : TE := fun σ H Q => to σ H fun x H1 => tyR K T x H1 ∧ t σ H1 fun xs H2 => r x xs H2 Q
theorem pe_bmR {o e : Expr} {es : List Expr} {to : TE} {t : TA} {name : Str} {apos cpos : Pos} {T id : String} {r : V → List V → Hp → VK → Prop} (pa : PlainAttrs T) (slot : Slot T name id) (hty : typeOf (.builtin id) = pure (.type "method_descriptor")) (hm : MtR X id r) (ho : PE X o to) (ha : PA X (e :: es) t)
    (hbase : attributeBase o name X.env (eval o X.env) = eval o X.env := by rfl)
    (hfew : ((backTo cpos (starEach (e :: es) X.env)).all (fun x => !x.1) && (backToKw cpos (keywordEach [] X.env)).all (fun x => x.1.isSome)
      && decide ((e :: es).length + ([] : List Keyword).length + (if ([] : List Keyword).isEmpty then 0 else 1) < 30)) = true := by rfl)
    (hline : (apos.endLine == cpos.line) = true := by rfl) (hs : starEach (e :: es) X.env = (false, eval e X.env) :: starEach es X.env := by rfl) (hplain : (backTo cpos (starEach es X.env)).any (·.1) = false := by rfl) :
    PE X (.Call (.Attribute o name apos) (e :: es) [] cpos) (tBMr X.K T r to t) := by
  refine ⟨fun pins s σ H Q I h => ?_⟩
  refine wpAny_Call_method_late hbase hfew hline rfl (thn (ho.run pins s σ H _ I h) fun v s1 ⟨x, H1, I1, r1, ty, q1⟩ => ?_)
  obtain ⟨h1, h2⟩ := tyR_is I1 r1 ty
  refine ⟨T, id, pa, slot, hty, h1, h2, ?_⟩
  have hA := ha.run cpos pins s1 σ H1 _ I1 q1
  rw [hs] at hA ⊢
  refine Calls.callWith_builtin (by show (false || (backTo cpos (starEach es X.env)).any (·.1)) = false; rw [hplain] <;> rfl) (Calls.evalArgs_plain ?_)
  exact thn hA fun us s2 ⟨vs, H2, I2, r2, q2⟩ => hm pins s2 σ H2 x vs v us Q I2 r1 r2 q2
theorem tyR_bm {z : List Addr} {A : List Addr} {H : Hp} {b : Bm} {d : D} {x : V} (h : bmOk b d = true) (r : RelW (c.lay X.K z) A H d x) : tyR X.K (bmT b) x H := by
  cases b <;> cases d <;> first
    | (cases h; done)
    | (rw [r.str]; exact .inl rfl)
    | (rw [r.int]; exact .inl rfl)
    | (obtain ⟨l, vs, rfl, q, _⟩ := r; first | exact .inl (.inl ⟨rfl, _, q⟩) | exact .inr ⟨rfl, _, _, rfl, q⟩)
theorem tyV_bm {z : List Addr} {A : List Addr} {H : Hp} {b : Bm} {d : D} {x : V} (hb : bm0 b = true) (h : bmOk b d = true) (r : RelW (c.lay X.K z) A H d x) : L2.tyV X.K (bmT b) x H := by
  rcases tyR_bm h r with h | ⟨e, _⟩
  · exact h
  · cases b <;> first | (cases hb; done) | (exact absurd e (by decide))
theorem s_bm (g : Good c N X sc W) {m : Bool} {bm : Bm} {es : E} {e1 : Expr} {xs : List Expr} {ap : Pos} (hb : bm0 bm = false) (hrep : bm ≠ .replace) (hkg : bm ≠ .kget) (ha : okE c X W a x) (hs : noSup x = true) (hp : (ap.endLine == pos.line) = true) (hf : (e1 :: xs).length < 29)
    (hn : (e1 :: xs).all (fun x => !isStar x) = true) (he : okEs c X W es (e1 :: xs)) : okE c X W (.bm m bm a es) (.Call (.Attribute x (bmN bm) ap) (e1 :: xs) [] pos) := by
  have h1 : isStar e1 = false := by rw [List.all_cons, Bool.and_eq_true, Bool.not_eq_true'] at hn; exact hn.1
  have h2 : xs.all (fun x => !isStar x) = true := by rw [List.all_cons, Bool.and_eq_true] at hn; exact hn.2
  have few : ((backTo pos (starEach (e1 :: xs) X.env)).all (fun x => !x.1) && (backToKw pos (keywordEach [] X.env)).all (fun x => x.1.isSome)
      && decide ((e1 :: xs).length + ([] : List Keyword).length + (if ([] : List Keyword).isEmpty then 0 else 1) < 30)) = true := by
    rw [noStar_all hn, Bool.and_eq_true, decide_eq_true_eq]
    exact ⟨rfl, by simpa using (by simp only [List.length_cons] at hf; omega : xs.length + 1 < 30)⟩
  have main : PE X (.Call (.Attribute x (bmN bm) ap) (e1 :: xs) [] pos) (tBMr X.K (bmT bm) (rBm c X.K W m bm) (tE c X.K W a) (tEs c X.K W es)) := by
    have hu : X.A.units + 1 < cLine := by have := g.room.un; omega
    cases bm <;> first
      | (exact absurd hb (by decide); done)
      | (exact absurd rfl hrep; done)
      | (exact absurd rfl hkg; done)
      | exact pe_bmR F.plainAttrs_str F.slot_str_join F.type_str_join mt_joinE ha he (attrBase hs) few hp (starEach_cons h1) (noStar_any h2)
      | exact pe_bmR F.plainAttrs_str F.slot_str_split F.type_str_split mt_splitE ha he (attrBase hs) few hp (starEach_cons h1) (noStar_any h2)
      | exact pe_bmR F.plainAttrs_str F.slot_str_index F.type_str_index mt_sidx ha he (attrBase hs) few hp (starEach_cons h1) (noStar_any h2)
      | exact pe_bmR F.plainAttrs_str F.slot_str_count F.type_str_count mt_scnt ha he (attrBase hs) few hp (starEach_cons h1) (noStar_any h2)
      | exact pe_bmR F.plainAttrs_list F.slot_list_index F.type_list_index (mt_lidx g) ha he (attrBase hs) few hp (starEach_cons h1) (noStar_any h2)
      | exact pe_bmR F.plainAttrs_list F.slot_list_count F.type_list_count (mt_lcnt g) ha he (attrBase hs) few hp (starEach_cons h1) (noStar_any h2)
      | exact pe_bmR F.plainAttrs_list F.slot_list_append F.type_list_append mt_appendE ha he (attrBase hs) few hp (starEach_cons h1) (noStar_any h2)
      | exact pe_bmR F.plainAttrs_list F.slot_list_extend F.type_list_extend mt_extendE ha he (attrBase hs) few hp (starEach_cons h1) (noStar_any h2)
      | exact pe_bmR F.plainAttrs_list F.slot_list_pop F.type_list_pop mt_popE ha he (attrBase hs) few hp (starEach_cons h1) (noStar_any h2)
      | exact pe_bmR F.plainAttrs_dict F.slot_dict_get F.type_dict_get (mt_getE hu) ha he (attrBase hs) few hp (starEach_cons h1) (noStar_any h2)
  refine PE.mono main fun σ H Q ⟨z, A, S, v, hv, hc, h⟩ => ?_
  simp only [ev] at h
  obtain ⟨z', A', S', v', hv', hc', p⟩ := tR_bind (rel := Rel) hv hc h
  refine ⟨z', A', S', v', hv', hc', p.imp fun x1 H1 ⟨A1, S1, d1, g1, e1, c1, r1, p1⟩ => ?_⟩
  split at p1
  · rename_i hok
    refine ⟨tyR_bm hok (view_rel c1 r1), ?_⟩
    obtain ⟨z2, A2, S2, v2, hv2, hc2, p2⟩ := tR_bind (rel := Rels) e1 c1 p1
    exact ⟨z2, A2, S2, v2, hv2, hc2, p2.imp fun x2 H2 ⟨A3, S3, d2, g2, e2, c2, r2, p3⟩ => ⟨z, A3, S3, d1, d2, c2, r1.grow g2, r2, p3⟩⟩
  · exact p1.elim
theorem s_kget (g : Good c N X sc W) {m : Bool} {gi : Nat} {ks : List DK} {ws : List D} {es : E} {e1 e2 : Expr} {ap p0 : Pos} (hg : Gl X (c.nm.gnm gi)) (hdb : (c.nm.gnm gi == ("__debug__" : Str)) = false) (hk : c.nm.kval gi = some (.dct ks ws)) (hs : noSup (.Name (c.nm.gnm gi) p0) = true) (hp : (ap.endLine == pos.line) = true)
    (hn : ([e1, e2] : List Expr).all (fun x => !isStar x) = true) (he : okEs c X W es [e1, e2]) : okE c X W (.bm m .kget (.glob gi (.dct ks ws)) es) (.Call (.Attribute (.Name (c.nm.gnm gi) p0) "get" ap) [e1, e2] [] pos) := by
  obtain ⟨a, des, dn, hm, dd, tab⟩ := g.fs.kd gi ks ws hk
  have h1 : isStar e1 = false := by rw [List.all_cons, Bool.and_eq_true, Bool.not_eq_true'] at hn; exact hn.1
  have h2 : ([e2] : List Expr).all (fun x => !isStar x) = true := by rw [List.all_cons, Bool.and_eq_true] at hn; exact hn.2
  have few : ((backTo pos (starEach [e1, e2] X.env)).all (fun x => !x.1) && (backToKw pos (keywordEach [] X.env)).all (fun x => x.1.isSome)
      && decide (([e1, e2] : List Expr).length + ([] : List Keyword).length + (if ([] : List Keyword).isEmpty then 0 else 1) < 30)) = true := by
    rw [noStar_all hn, Bool.and_eq_true, decide_eq_true_eq]
    exact ⟨rfl, by simp⟩
  have ho : PE X (.Name (c.nm.gnm gi) p0) (tC (.ref a)) := pe_glob hg hm rfl hdb
  have main : PE X (.Call (.Attribute (.Name (c.nm.gnm gi) p0) "get" ap) [e1, e2] [] pos) (fun σ H Q => tEs c X.K W es σ H fun xs H2 => ∃ z A S ds, Cells (c.lay X.K z) A S H2 ∧ Rels (c.lay X.K z) A H2 ds xs ∧ Post (c.lay X.K z) W A H2 (Rel (c.lay X.K z)) (kgetR (.dct ks ws) ds S) Q) := by
    refine ⟨fun pins s σ H Q I h => ?_⟩
    refine wpAny_Call_method_late (attrBase hs) few hp rfl (thn (ho.run pins s σ H (fun x H1 => x = .ref a ∧ H1 = H) I ⟨rfl, rfl⟩) fun v s1 ⟨x, H1, I1, r1, ex, eH⟩ => ?_)
    subst ex eH
    cases (show v = Value.ref a from r1)
    refine ⟨"dict", "dict.get", F.plainAttrs_dict, F.slot_dict_get, F.type_dict_get, kd_type dd I1, fun b q => ?_, ?_⟩
    · cases q
      exact ⟨_, I1.kIn _ _ dd.at_, rfl⟩
    have hA := he.run pos pins s1 σ H1 _ I1 h
    rw [starEach_cons h1] at hA ⊢
    refine Calls.callWith_builtin (by show (false || (backTo pos (starEach [e2] X.env)).any (·.1)) = false; rw [noStar_any h2] <;> rfl) (Calls.evalArgs_plain ?_)
    refine thn hA fun us s2 ⟨vs, H2, I2, r2, z, A, S, ds, hc, rr, p⟩ => ?_
    obtain ⟨t, d1, rfl, p2⟩ : ∃ t d1, ds = [.str t, d1] ∧ Post (c.lay X.K z) W A H2 (Rel (c.lay X.K z)) (.ok ((lookK (.str t) ks ws).getD d1) S) Q := by
      unfold kgetR at p
      split at p
      · rename_i ks' vs' t d1 e1
        cases e1
        exact ⟨t, d1, rfl, p⟩
      · exact p.elim
    obtain ⟨y1, y2, rfl, q1, q2⟩ := rels2 rr
    obtain ⟨u1, u2, rfl, ru1, ru2⟩ := Vals.two r2
    subst q1
    obtain ⟨tk, rfl⟩ := ru1
    have hm' := PySem.W.mapOf_K (prog := X.prog) (w := X.w) I2.kIn dd.at_ dd.lit
    have go : ∀ (r : Option Value) (w : V) (d' : EV.D), PySem.W.nsIn X.K a (SS t) = some r → RelV w (r.getD u2) → Rel (c.lay X.K z) A H2 d' w → (lookK (.str t) ks ws).getD d1 = d' → wpAny (model X.prog X.w) X.A (call (.builtin "dict.get") [.ref a, .str (SS t) tk, u2]) (EP X pins σ Q) X.xe s2 := fun r w d' e rw_ rd ed => by
      refine call_meetsIn PySem.F.slot_dict_get hm'.typeIs PySem.F.entry_dict_get (PySem.F.args_dict_get_3 _ _ _) (meets_dict_get_default (PySem.strKind X.prog X.w) a (PySem.strKind_is X.prog X.w (SS t) tk) dd.low u2) ⟨_, hm', ?_⟩
      rw [PySem.W.find_K dd.at_ e]
      exact ⟨w, H2, I2.tok _, rw_, (ed ▸ p2).ok hc rd⟩
    rcases tab t with ⟨d, u, v, e1, e2, e3, e4⟩ | ⟨e1, e2⟩
    · exact go (some u) v d e2 e3 (e4 z A H2) (by rw [e1]; rfl)
    · exact go none y2 d1 e2 ru2 q2 (by rw [e1]; rfl)
  refine PE.mono main fun σ H Q ⟨z, A, S, v, hv, hc, h⟩ => ?_
  simp only [ev] at h
  have h : Post (c.lay X.K z) W A H (Rel (c.lay X.K z)) ((evs c.G c.κ es v S).bind fun ds s => kgetR (.dct ks ws) ds s) Q := h
  obtain ⟨z', A', S', v', hv', hc', p⟩ := tR_bind (rel := Rels) hv hc h
  exact ⟨z', A', S', v', hv', hc', p.imp fun x1 H1 ⟨A1, S1, d1, g1, e1, c1, r1, p1⟩ => ⟨z, A1, S1, d1, c1, r1, p1⟩⟩
theorem s_bm0 (g : Good c N X sc W) {m : Bool} {bm : Bm} {ap : Pos} (hb : bm0 bm = true) (ha : okE c X W a x) (hs : noSup x = true) (hp : (ap.endLine == pos.line) = true) : okE c X W (.bm m bm a .nil) (.Call (.Attribute x (bmN bm) ap) [] [] pos) := by
  have main : PE X (.Call (.Attribute x (bmN bm) ap) [] [] pos) (tBM0 X.K (bmT bm) (rBm c X.K W m bm) (tE c X.K W a)) := by
    cases bm <;> first
      | (exact absurd hb (by decide); done)
      | exact pe_bm0 F.plainAttrs_int PyProof.Rows.slot_int_bit_length PyProof.Rows.type_int_bit_length mt_bits ha (attrBase hs) hp
      | exact pe_bm0 F.plainAttrs_str F.slot_str_upper F.type_str_upper mt_upperE ha (attrBase hs) hp
      | exact pe_bm0 F.plainAttrs_list F.slot_list_pop F.type_list_pop mt_pop0E ha (attrBase hs) hp
  refine PE.mono main fun σ H Q ⟨z, A, S, v, hv, hc, h⟩ => ?_
  simp only [ev] at h
  obtain ⟨z', A', S', v', hv', hc', p⟩ := tR_bind (rel := Rel) hv hc h
  refine ⟨z', A', S', v', hv', hc', p.imp fun x1 H1 ⟨A1, S1, d1, g1, e1, c1, r1, p1⟩ => ?_⟩
  split at p1
  · rename_i hok
    have p1 : Post (c.lay X.K z) W A1 H1 (Rel (c.lay X.K z)) (bmR m bm d1 [] S1) Q := p1
    exact ⟨tyV_bm hb hok (view_rel c1 r1), z, A1, S1, d1, [], c1, r1, .nil, p1⟩
  · exact p1.elim
end
end EV
set_option Elab.async false
set_option linter.all false
set_option maxRecDepth 100000
set_option maxHeartbeats 2000000
namespace EV
open PySem PySem.Spec PyProof.Rows L2
section
variable {c : Cf} {N : List Str} {X : Cx} {sc : Sc} {W : XK} {a b d e : E} {x y w tg : Expr} {pos : Pos}
def ItR (L : Lay) (A : List Addr) (H : Hp) (p : List D × Gd) (J : It) : Prop :=
  ∀ L' A' H' S', Later L A H L' A' H' → Cells L' A' S' H' → okG p.2 S' = true → ∀ i : Nat, (p.1.length ≤ i → J.stop i H') ∧
    ∀ d, p.1[i]? = some d → J.go i H' ∧ ∀ x H2, J.yld i H' x H2 → Grow A' H' A' H2 ∧ Cells L' A' S' H2 ∧ Rel L' A' H2 d x
def tIt (c : Cf) (K : PySem.W.Frag) (W : XK) (e : E) : TI := tR c K W ItR (evIt c.G c.κ e)
abbrev okI (c : Cf) (X : Cx) (W : XK) (e : E) (tg x : Expr) : Prop := PI X tg x (tIt c X.K W e)
theorem lst_later {L : Lay} {A : List Addr} {H : Hp} {S : St} {d : D} {xs : List D} {a : Addr} (hc : Cells L A S H) (r : Rel L A H d (.ref a)) (hv : view S d = .lst xs) :
    ∀ L' A' H' S', Later L A H L' A' H' → Cells L' A' S' H' → okG (guardOf S d) S' = true → ∃ vs, SqL L.K H' a vs ∧ Rels L' A' H' xs vs := by
  intro L' A' H' S' g c' ok
  cases d with
  | lst ys =>
    cases hv
    obtain ⟨l, vs, e, q, rs⟩ := (g.rel r).w
    cases e
    exact ⟨vs, by rw [← g.k]; exact q, rs⟩
  | cell n =>
    obtain ⟨l, e, q⟩ := cell_at hc r
    cases e
    have hs : S[n]? = some (.lst xs) := by
      simp only [view] at hv
      split at hv <;> first | (cases hv; assumption) | cases hv
    have hg : guardOf S (.cell n) = [(n, xs)] := by simp only [guardOf, hs]
    rw [hg] at ok
    simp only [okG, List.all_cons, List.all_nil, Bool.and_true, decide_eq_true_eq] at ok
    obtain ⟨vs, e1, rs, _⟩ := c'.ok n _ a ok (g.at_ q)
    exact ⟨vs, .inl (.inl e1), rs⟩
  | _ => simp [view] at hv
theorem tup_later {L : Lay} {A : List Addr} {H : Hp} {S : St} {d : D} {xs : List D} {a : Addr} (r : Rel L A H d (.ref a)) (hv : view S d = .tup xs) :
    ∀ L' A' H', Later L A H L' A' H' → ∃ vs, SqT L.K H' a vs ∧ Rels L' A' H' xs vs := by
  intro L' A' H' g
  cases d with
  | tup ys =>
    cases hv
    obtain ⟨l, vs, e, q, rs⟩ := (g.rel r).w
    cases e
    exact ⟨vs, by rw [← g.k]; exact q.t, rs⟩
  | cell n =>
    simp only [view] at hv
    split at hv <;> cases hv
  | _ => simp [view] at hv
theorem itl_rel {L : Lay} {A : List Addr} {H : Hp} {S : St} {d : D} {xs : List D} {a : Addr} (hc : Cells L A S H) (r : Rel L A H d (.ref a)) (hv : view S d = .lst xs) : ItR L A H (xs, guardOf S d) (Itl L.K a) := by
  intro L' A' H' S' g c' ok i
  obtain ⟨vs, q, rs⟩ := lst_later hc r hv L' A' H' S' g c' ok
  refine ⟨fun h => ⟨vs, q, by rw [← rs.len]; exact h⟩, fun d hd => ?_⟩
  obtain ⟨v, e, rv⟩ := rs.get hd
  refine ⟨⟨vs, v, q, e⟩, fun x H2 hy => ?_⟩
  obtain ⟨rfl, hx⟩ := hy
  have := hx vs q
  rw [e] at this
  cases this
  exact ⟨.refl, c', rv⟩
theorem itt_rel {L : Lay} {A : List Addr} {H : Hp} {S : St} {d : D} {xs : List D} {a : Addr} {gd : Gd} (r : Rel L A H d (.ref a)) (hv : view S d = .tup xs) : ItR L A H (xs, gd) (Itt L.K a) := by
  intro L' A' H' S' g c' ok i
  obtain ⟨vs, q, rs⟩ := tup_later r hv L' A' H' g
  refine ⟨fun h => ⟨vs, q, by rw [← rs.len]; exact h⟩, fun d hd => ?_⟩
  obtain ⟨v, e, rv⟩ := rs.get hd
  refine ⟨⟨vs, v, q, e⟩, fun x H2 hy => ?_⟩
  obtain ⟨rfl, hx⟩ := hy
  have := hx vs q
  rw [e] at this
  cases this
  exact ⟨.refl, c', rv⟩
theorem its_rel {L : Lay} {A : List Addr} {H : Hp} {t : List Nat} {gd : Gd} : ItR L A H (t.map fun c => .str [c], gd) (Its (SS t)) := by
  intro L' A' H' S' g c' ok i
  refine ⟨fun h => ?_, fun d hd => ?_⟩
  · show (SS t).cps.size ≤ i
    simpa [SS] using h
  · rw [List.getElem?_map, Option.map_eq_some_iff] at hd
    obtain ⟨ch, hch, rfl⟩ := hd
    refine ⟨?_, fun x H2 hy => ?_⟩
    · show i < (SS t).cps.size
      simpa [SS] using (List.getElem?_eq_some_iff.mp hch).1
    · obtain ⟨rfl, c2, h1, rfl⟩ := hy
      have h1 : t.toArray[i]? = some c2 := h1
      rw [List.getElem?_toArray, hch] at h1
      cases h1
      exact ⟨.refl, c', rel_str⟩
theorem itr_rel {L : Lay} {A : List Addr} {H : Hp} {lo : Int} {n : Nat} {gd : Gd} : ItR L A H (rngL lo n, gd) (Itr lo n) := by
  intro L' A' H' S' g c' ok i
  refine ⟨fun h => ?_, fun d hd => ?_⟩
  · show n ≤ i
    simpa [rngL] using h
  · simp only [rngL, List.getElem?_map, Option.map_eq_some_iff] at hd
    obtain ⟨k, hk, rfl⟩ := hd
    obtain ⟨h1, h2⟩ := List.getElem?_eq_some_iff.mp hk
    simp only [List.length_range] at h1
    simp only [List.getElem_range] at h2
    subst h2
    refine ⟨h1, fun x H2 hy => ?_⟩
    obtain ⟨rfl, rfl⟩ := hy
    exact ⟨.refl, c', rel_int⟩
theorem zip_snd {ks : List DK} {vs ws : List V} (h : ks.length = vs.length) (h2 : ks.length = ws.length) (e : List.map (fun p : Key × V => p.2) ((ks.map dkK).zip vs) = List.map (fun p : Key × V => p.2) ((ks.map dkK).zip ws)) : vs = ws := by
  have e1 := List.map_snd_zip (l₁ := ks.map dkK) (l₂ := vs) (by rw [List.length_map, h]; exact Nat.le_refl _)
  have e2 := List.map_snd_zip (l₁ := ks.map dkK) (l₂ := ws) (by rw [List.length_map, h2]; exact Nat.le_refl _)
  exact e1.symm.trans (e.trans e2)
theorem rel_dkH {L : Lay} {A : List Addr} {H : Hp} {q : DK} : Rel L A H (dkD q) (kV (dkK q)) := by
  cases q with
  | int i => exact rel_int
  | str s => exact rel_str
theorem itk_rel {L : Lay} {A : List Addr} {H : Hp} {a : Addr} {od : Obj} {ks : List DK} {vs : List V} {gd : Gd} (h : H a = some (.frz od (.dK ((ks.map dkK).zip vs)))) (hl : ks.length = vs.length) :
    ItR L A H (ks.map dkD, gd) (Itk a od ((ks.map dkK).zip vs)) := by
  intro L' A' H' S' g c' ok i
  have hk := g.frzs _ _ _ h
  have hlen : ((ks.map dkK).zip vs).length = ks.length := by rw [List.length_zip, List.length_map, ← hl, Nat.min_self]
  refine ⟨fun q => ⟨hk, ?_⟩, fun dd hd => ?_⟩
  · rw [List.length_map] at q
    rw [hlen]; exact q
  · rw [List.getElem?_map, Option.map_eq_some_iff] at hd
    obtain ⟨q, hz, rfl⟩ := hd
    have hi := (List.getElem?_eq_some_iff.mp hz).1
    refine ⟨⟨hk, by rw [hlen]; exact hi⟩, fun x H2 hy => ?_⟩
    obtain ⟨rfl, k1, v1, h1, rfl⟩ := hy
    rw [List.getElem?_zip_eq_some, List.getElem?_map, hz] at h1
    obtain ⟨h1, h2⟩ := h1
    cases h1
    exact ⟨.refl, c', rel_dkH⟩
theorem s_iv (ha : okE c X W a x) : okI c X W (.iv a) tg x := by
  refine ⟨fun pins s σ H R I ⟨z, A, S, v, hv, hc, h⟩ => ?_⟩
  simp only [evIt] at h
  refine thn (ha.run pins s σ H _ I (tR_bind (rel := Rel) hv hc h)) fun u s1 ⟨x1, H1, I1, ru, A1, S1, d1, g1, e1, c1, r1, p1⟩ => ?_
  have wd := view_rel c1 r1
  cases hd : view S1 d1 with
  | lst xs =>
    rw [hd] at wd p1
    obtain ⟨l, vs, rfl, q, rs⟩ := wd
    cases ru
    have hR : R (Itl X.K l) H1 := Post.ok (rel := ItR (c.lay X.K z)) p1 c1 (itl_rel c1 r1 hd)
    obtain ⟨its, rv, p, hz⟩ := I1.list q
    exact wpAny_pyIter_list p.isList (pi_one (tk := s1.toks) I1 _ (turn_list l _) ⟨_, Heap.get?_push_size _ rfl, rfl, rfl⟩ hR)
  | tup xs =>
    rw [hd] at wd p1
    obtain ⟨l, vs, rfl, q, rs⟩ := wd
    cases ru
    have hR : R (Itt X.K l) H1 := Post.ok (rel := ItR (c.lay X.K z)) p1 c1 (itt_rel r1 hd)
    obtain ⟨its, rv, p, hz⟩ := I1.tuple q.t
    exact wpAny_pyIter_tuple (show s1.heap.IsTuple l its.toArray from p) (pi_one (tk := s1.toks) I1 _ (turn_tuple l _) ⟨_, Heap.get?_push_size _ rfl, rfl, rfl⟩ hR)
  | str t =>
    rw [hd] at wd p1
    rw [wd.str] at ru
    have hR : R (Its (SS t)) H1 := Post.ok (rel := ItR (c.lay X.K z)) p1 c1 its_rel
    obtain ⟨tk, rfl⟩ := ru
    cases ha : (SS t).cps.all (· < 128)
    · exact wpAny_pyIter_wide ha (pi_one (tk := s1.toks) I1 _ (turn_str _ (SS t) tk "str_iterator" (.inr rfl)) ⟨_, Heap.get?_push_size _ rfl, rfl, rfl⟩ hR)
    · exact wpAny_pyIter_ascii ha (pi_one (tk := s1.toks) I1 _ (turn_str _ (SS t) tk "str_ascii_iterator" (.inl rfl)) ⟨_, Heap.get?_push_size _ rfl, rfl, rfl⟩ hR)
  | dct ks ds =>
    rw [hd] at wd p1
    have p1 : Post (c.lay X.K z) W A1 H1 (ItR (c.lay X.K z)) (.ok (ks.map dkD, []) (lockS S1 d1)) R := p1
    obtain ⟨dd, vs, rfl, q, hl, nd, rs⟩ := wd
    cases (show u = Value.ref dd from ru)
    suffices key : ∀ (od : Obj) (H2 : Hp), Inv X pins σ H2 s1 → H2 dd = some (.frz od (.dK ((ks.map dkK).zip vs))) → Grow A1 H1 A1 H2 → Cells (c.lay X.K z) A1 (lockS S1 d1) H2 → _ by
      cases d1 with
      | dct ks2 ds2 =>
        have hd2 : (EV.D.dct ks2 ds2) = .dct ks ds := hd
        obtain ⟨dd2, vs2, e2, q2, n2, _⟩ := (show ∃ a vs, _ from by simpa only [Rel] using r1)
        cases e2
        rcases q with q | ⟨od, q⟩
        · obtain ⟨od, I2⟩ := I1.lock q trivial
          exact key od _ I2 upd_same (grow_lock q) (c1.lock q n2.1)
        · exact key od _ I1 q .refl c1
      | cell n =>
        obtain ⟨l, e2, qn⟩ := cell_at c1 r1
        cases e2
        have hS : S1[n]? = some (.dct ks ds) ∨ S1[n]? = some (.fdc ks ds) := by
          simp only [view] at hd
          split at hd <;> first | (cases hd; rename_i hs; exact .inl hs) | (cases hd; rename_i hs; exact .inr hs) | cases hd
        rcases hS with hS | hS
        · obtain ⟨vs2, qd, hl2, nd2, rs2, hb2⟩ := c1.ok n _ dd hS qn
          have ev : vs2 = vs := by
            rcases q with q | ⟨od, q⟩
            · rw [qd] at q
              have := congrArg (fun o : HO => match o with | .dK k => List.map (fun p : Key × V => p.2) k | _ => []) (Option.some.inj q)
              exact zip_snd hl2 hl this
            · rw [qd] at q; cases q
          subst ev
          obtain ⟨od, I2⟩ := I1.lock qd trivial
          have hls : lockS S1 (.cell n) = S1.set n (.fdc ks ds) := by simp only [lockS, hS]
          have gl : Grow A1 H1 A1 (upd H1 dd (.frz od (.dK ((ks.map dkK).zip vs2)))) := grow_lock qd
          exact key od _ I2 upd_same gl (by rw [hls]; exact c1.set qn ⟨vs2, od, upd_same, hl2, nd2, rs2.grow gl, hb2⟩ (by intro o2 u2 z2; rw [qd] at z2; cases z2))
        · obtain ⟨vs2, od, qd, hl2, nd2, rs2, hb2⟩ := c1.ok n _ dd hS qn
          have hls : lockS S1 (.cell n) = S1 := by simp only [lockS, hS]
          have ev : vs2 = vs := by
            rcases q with q | ⟨od2, q⟩
            · rw [qd] at q; cases q
            · rw [qd] at q
              have := congrArg (fun o : HO => match o with | .frz _ (.dK k) => List.map (fun p : Key × V => p.2) k | _ => []) (Option.some.inj q)
              exact zip_snd hl2 hl this
          subst ev
          exact key od _ I1 qd .refl (by rw [hls]; exact c1)
      | _ => simp [view] at hd
    intro od H2 I1 hdd gr c2
    have q2 : R (Itk dd od ((ks.map dkK).zip vs)) H2 := p1 A1 H2 _ gr c2 (itk_rel hdd hl)
    obtain ⟨hs, hgd, hx, es, ep, vs2, hdt, hsz, kv, hm⟩ := I1.frzK hdd
    refine iter_keys hs hgd hx hdt (pi_one (tk := s1.toks) I1 _ (turn_keys _ hdt) ⟨_, Heap.get?_push_size _ rfl, rfl, ?_⟩ q2)
    rw [hsz] <;> rfl
  | _ => rw [hd] at p1; exact (show False from p1).elim
theorem fits_62 {i : Int} (h : fits62 i = true) : -(2 ^ 62) ≤ i ∧ i < 2 ^ 62 := by
  simp only [fits62, Bool.and_eq_true, decide_eq_true_eq] at h
  constructor
  · have := h.1; omega
  · have := h.2; omega
theorem s_rng1 (g : Good c N X sc W) {p' : Pos} (hg : Gl X "range") (hs : isStar x = false) (ha : okE c X W a x) : okI c X W (.rng1 a) tg (.Call (.Name "range" p') [x] [] pos) := by
  refine ⟨fun pins s σ H R I ⟨z, A, S, v, hv, hc, h⟩ => ?_⟩
  simp only [evIt] at h
  refine (pi_range1 (ta := tCons (tE c X.K W a) tNil) hg (g.fs.free _ (by decide)) (pa_cons ha pa_nil (starEach_cons hs)) (starEach_cons hs)).run pins s σ H R I ?_
  obtain ⟨z', A', S', v', hv', hc', p⟩ := tR_bind (rel := Rel) hv hc h
  refine ⟨z', A', S', v', hv', hc', p.imp fun x1 H1 ⟨A1, S1, d1, g1, e1, c1, r1, p1⟩ => ?_⟩
  cases d1 with
  | int j =>
    have p1 : Post (c.lay X.K z) W A1 H1 (ItR (c.lay X.K z)) (if fits62 j then .ok (rngL 0 j.toNat, []) S1 else .no) R := p1
    split at p1
    · rename_i hf
      exact ⟨j, by rw [r1.w.int], (fits_62 hf).1, (fits_62 hf).2, p1.ok c1 itr_rel⟩
    · exact p1.elim
  | _ => exact (show False from p1).elim
theorem s_rng2 (g : Good c N X sc W) {p' : Pos} (hg : Gl X "range") (hs : isStar x = false) (hs2 : isStar y = false) (ha : okE c X W a x) (hb : okE c X W b y) : okI c X W (.rng2 a b) tg (.Call (.Name "range" p') [x, y] [] pos) := by
  refine ⟨fun pins s σ H R I ⟨z, A, S, v, hv, hc, h⟩ => ?_⟩
  simp only [evIt] at h
  refine (pi_range2 (ta := tCons (tE c X.K W a) (tCons (tE c X.K W b) tNil)) hg (g.fs.free _ (by decide)) (pa_cons ha (pa_cons hb pa_nil (starEach_cons hs2)) (starEach_cons hs)) (by rw [starEach_cons hs, starEach_cons hs2]; rfl) (starEach_cons hs2)).run pins s σ H R I ?_
  obtain ⟨z', A', S', v', hv', hc', p⟩ := tR_bind (rel := Rel) hv hc h
  refine ⟨z', A', S', v', hv', hc', p.imp fun x1 H1 ⟨A1, S1, d1, g1, e1, c1, r1, p1⟩ => ?_⟩
  obtain ⟨z2, A2, S2, v2, hv2, hc2, p2⟩ := tR_bind (rel := Rel) e1 c1 p1
  refine ⟨z2, A2, S2, v2, hv2, hc2, p2.imp fun x2 H2 ⟨A3, S3, d2, g2, e2, c2, r2, p3⟩ => ?_⟩
  cases d1 with
  | int i => cases d2 with
    | int j =>
      have p3 : Post (c.lay X.K z) W A3 H2 (ItR (c.lay X.K z)) (if (fits62 i && fits62 j) = true then .ok (rngL i (j - i).toNat, []) S3 else .no) R := p3
      split at p3
      · rename_i hf
        rw [Bool.and_eq_true] at hf
        exact ⟨i, j, by rw [(r1.grow g2).w.int, r2.w.int], ⟨(fits_62 hf.1).1, (fits_62 hf.1).2, (fits_62 hf.2).1, (fits_62 hf.2).2⟩, p3.ok c2 itr_rel⟩
      · exact p3.elim
    | _ => exact (show False from p3).elim
  | _ => exact (show False from p3).elim
theorem okG_app {g h : Gd} {S : St} : okG (g ++ h) S = true ↔ okG g S = true ∧ okG h S = true := by
  simp only [okG, List.all_append, Bool.and_eq_true]
theorem pair_new {L : Lay} {A : List Addr} {H H2 : Hp} {S : St} {d e : D} {u v x : V} (hc : Cells L A S H) (ru : Rel L A H d u) (rv : Rel L A H e v) {T : Addr} (hT : H T = none) (hx : x = .ref T) (hH : H2 = upd H T (.tup [u, v])) :
    Grow A H A H2 ∧ Cells L A S H2 ∧ Rel L A H2 (.tup [d, e]) x := by
  subst hH; subst hx
  have G := grow_new (o := HO.tup [u, v]) hc hT
  refine ⟨G, hc.new hT, ?_⟩
  simp only [Rel]
  exact ⟨T, [u, v], rfl, .inl ⟨.inl upd_same, hc.fresh hT, hc.freshZ hT⟩, .cons (ru.grow G) (.cons (rv.grow G) .nil)⟩
theorem itz_rel {L : Lay} {A : List Addr} {H : Hp} {S : St} {d e : D} {xs ys : List D} {a b : Addr} (hc : Cells L A S H) (r : Rel L A H d (.ref a)) (r2 : Rel L A H e (.ref b)) (hv : view S d = .lst xs) (hv2 : view S e = .lst ys) :
    ItR L A H ((xs.zip ys).map fun p => .tup [p.1, p.2], guardOf S d ++ guardOf S e) (Itz L.K a b) := by
  intro L' A' H' S' g c' ok i
  obtain ⟨ok1, ok2⟩ := okG_app.mp ok
  obtain ⟨vs, q, rs⟩ := lst_later hc r hv L' A' H' S' g c' ok1
  obtain ⟨vs2, q2, rs2⟩ := lst_later hc r2 hv2 L' A' H' S' g c' ok2
  have l1 := rs.len
  have l2 := rs2.len
  refine ⟨fun h => ⟨vs, vs2, q, q2, ?_⟩, fun dd hd => ?_⟩
  · simp only [List.length_map, List.length_zip] at h
    omega
  · rw [List.getElem?_map, Option.map_eq_some_iff] at hd
    obtain ⟨⟨d1, d2⟩, hz, rfl⟩ := hd
    rw [List.getElem?_zip_eq_some] at hz
    obtain ⟨v1, e1, rv1⟩ := rs.get hz.1
    obtain ⟨v2, e2, rv2⟩ := rs2.get hz.2
    refine ⟨⟨vs, vs2, v1, v2, q, q2, e1, e2⟩, fun x H2 hy => ?_⟩
    obtain ⟨T, w1, w2, hx, hT, hH, h1, h2⟩ := hy
    have h1 := h1 vs q
    have h2 := h2 vs2 q2
    rw [e1] at h1; rw [e2] at h2
    cases h1; cases h2
    exact pair_new c' rv1 rv2 hT hx hH
theorem itzT_rel {L : Lay} {A : List Addr} {H : Hp} {S : St} {d e : D} {xs ys : List D} {a b : Addr} {gd : Gd} (r : Rel L A H d (.ref a)) (r2 : Rel L A H e (.ref b)) (hv : view S d = .tup xs) (hv2 : view S e = .tup ys) :
    ItR L A H ((xs.zip ys).map fun p => .tup [p.1, p.2], gd) (RZ.ItzT L.K a b) := by
  intro L' A' H' S' g c' ok i
  obtain ⟨vs, q, rs⟩ := tup_later r hv L' A' H' g
  obtain ⟨vs2, q2, rs2⟩ := tup_later r2 hv2 L' A' H' g
  have l1 := rs.len
  have l2 := rs2.len
  refine ⟨fun h => ⟨vs, vs2, q, q2, ?_⟩, fun dd hd => ?_⟩
  · simp only [List.length_map, List.length_zip] at h
    omega
  · rw [List.getElem?_map, Option.map_eq_some_iff] at hd
    obtain ⟨⟨d1, d2⟩, hz, rfl⟩ := hd
    rw [List.getElem?_zip_eq_some] at hz
    obtain ⟨v1, e1, rv1⟩ := rs.get hz.1
    obtain ⟨v2, e2, rv2⟩ := rs2.get hz.2
    refine ⟨⟨vs, vs2, v1, v2, q, q2, e1, e2⟩, fun x H2 hy => ?_⟩
    obtain ⟨T, w1, w2, hx, hT, hH, h1, h2⟩ := hy
    have h1 := h1 vs q
    have h2 := h2 vs2 q2
    rw [e1] at h1; rw [e2] at h2
    cases h1; cases h2
    exact pair_new c' rv1 rv2 hT hx hH
theorem ite_rel {L : Lay} {A : List Addr} {H : Hp} {S : St} {d : D} {xs : List D} {a : Addr} (hc : Cells L A S H) (r : Rel L A H d (.ref a)) (hv : view S d = .lst xs) :
    ItR L A H ((xs.zipIdx).map fun p => .tup [.int (p.2 : Nat), p.1], guardOf S d) (Ite L.K a) := by
  intro L' A' H' S' g c' ok i
  obtain ⟨vs, q, rs⟩ := lst_later hc r hv L' A' H' S' g c' ok
  have l1 := rs.len
  refine ⟨fun h => ⟨vs, q, ?_⟩, fun dd hd => ?_⟩
  · simp only [List.length_map, List.length_zipIdx] at h
    omega
  · rw [List.getElem?_map, Option.map_eq_some_iff] at hd
    obtain ⟨⟨d1, j⟩, hz, rfl⟩ := hd
    rw [List.getElem?_zipIdx, Option.map_eq_some_iff] at hz
    obtain ⟨d2, hz, e⟩ := hz
    cases e
    obtain ⟨v1, e1, rv1⟩ := rs.get hz
    refine ⟨⟨vs, v1, q, e1⟩, fun x H2 hy => ?_⟩
    obtain ⟨T, w1, hx, hT, hH, h1⟩ := hy
    have h1 := h1 vs q
    rw [e1] at h1
    cases h1
    rw [Nat.zero_add]
    exact pair_new c' rel_int rv1 hT hx hH
theorem s_zip (g : Good c N X sc W) {p' tp : Pos} {els : List Expr} {kk : Nat} (hg : Gl X "zip") (hs : isStar x = false) (hs2 : isStar y = false) (ha : okE c X W a x) (hb : okE c X W b y) : okI c X W (.zip a b) (.Tuple els kk tp) (.Call (.Name "zip" p') [x, y] [] pos) := by
  refine ⟨fun pins s σ H R I ⟨z, A, S, v, hv, hc, h⟩ => ?_⟩
  simp only [evIt] at h
  refine (RZ.pi_zipA (ta := tCons (tE c X.K W a) (tCons (tE c X.K W b) tNil)) hg (g.fs.free _ (by decide)) (pa_cons ha (pa_cons hb pa_nil (starEach_cons hs2)) (starEach_cons hs)) (starEach_cons hs) (by rw [starEach_cons hs2]; rfl)).run pins s σ H R I ?_
  obtain ⟨z', A', S', v', hv', hc', p⟩ := tR_bind (rel := Rel) hv hc h
  refine ⟨z', A', S', v', hv', hc', p.imp fun x1 H1 ⟨A1, S1, d1, g1, e1, c1, r1, p1⟩ => ?_⟩
  obtain ⟨z2, A2, S2, v2, hv2, hc2, p2⟩ := tR_bind (rel := Rel) e1 c1 p1
  refine ⟨z2, A2, S2, v2, hv2, hc2, p2.imp fun x2 H2 ⟨A3, S3, d2, g2, e2, c2, r2, p3⟩ => ?_⟩
  have r1 := r1.grow g2
  have w1 := view_rel c2 r1
  have w2 := view_rel c2 r2
  split at p3
  · rename_i xs ys h1 h2
    rw [h1] at w1
    rw [h2] at w2
    obtain ⟨l, vs, rfl, q, rs⟩ := w1
    obtain ⟨l2, vs2, rfl, q2, rs2⟩ := w2
    exact ⟨l, l2, vs, vs2, rfl, .inl ⟨q, q2, p3.ok c2 (itz_rel c2 r1 r2 h1 h2)⟩⟩
  · rename_i xs ys h1 h2
    rw [h1] at w1
    rw [h2] at w2
    obtain ⟨l, vs, rfl, q, rs⟩ := w1
    obtain ⟨l2, vs2, rfl, q2, rs2⟩ := w2
    exact ⟨l, l2, vs, vs2, rfl, .inr ⟨q.t, q2.t, p3.ok c2 (itzT_rel r1 r2 h1 h2)⟩⟩
  · exact p3.elim
theorem s_enum (g : Good c N X sc W) {p' tp : Pos} {els : List Expr} {kk : Nat} (hg : Gl X "enumerate") (hs : isStar x = false) (ha : okE c X W a x) : okI c X W (.enum a) (.Tuple els kk tp) (.Call (.Name "enumerate" p') [x] [] pos) := by
  refine ⟨fun pins s σ H R I ⟨z, A, S, v, hv, hc, h⟩ => ?_⟩
  simp only [evIt] at h
  refine (pi_enum (ta := tCons (tE c X.K W a) tNil) hg (g.fs.free _ (by decide)) (pa_cons ha pa_nil (starEach_cons hs)) (starEach_cons hs)).run pins s σ H R I ?_
  obtain ⟨z', A', S', v', hv', hc', p⟩ := tR_bind (rel := Rel) hv hc h
  refine ⟨z', A', S', v', hv', hc', p.imp fun x1 H1 ⟨A1, S1, d1, g1, e1, c1, r1, p1⟩ => ?_⟩
  have w1 := view_rel c1 r1
  split at p1
  · rename_i xs h1
    rw [h1] at w1
    obtain ⟨l, vs, rfl, q, rs⟩ := w1
    exact ⟨l, vs, rfl, q, p1.ok c1 (ite_rel c1 r1 h1)⟩
  · exact p1.elim
end
end EV
set_option Elab.async false
set_option linter.all false
set_option maxRecDepth 100000
set_option maxHeartbeats 2000000
namespace EV
open PySem PySem.Spec PyProof.Rows L2
section
variable {c : Cf} {N : List Str} {X : Cx} {sc : Sc} {W : XK} {a b d e : E} {x y w tg : Expr} {pos : Pos}
def gB (c : Cf) (K : PySem.W.Frag) (t : Tg) : TG := fun v σ H Q => ∃ z A S d ve ve', EnvOk (c.lay K z) A H ve σ ∧ Cells (c.lay K z) A S H ∧ Rel (c.lay K z) A H d v ∧ bindT t d ve = some ve' ∧
  ∀ σ', EnvOk (c.lay K z) A H ve' σ' → σ'.length = σ.length → (∀ i : Nat, i ∉ tgV t → σ'[i]? = σ[i]?) → Q σ' H
def okTg (N : List Str) (sc : Sc) : Tg → Expr → Bool
  | .one i, .Name n _ => decide (N[i]? = some n) && stB sc n
  | .tup is, .Tuple es _ _ => goN is es
  | _, _ => false
where
  stB (sc : Sc) (n : Str) : Bool := (match sc.eff.names.lookup n with
    | some .local => true
    | some .cell => sc.own n
    | _ => false)
  goN : List Nat → List Expr → Bool
    | [], [] => true
    | i :: is, .Name n _ :: es => decide (N[i]? = some n) && stB sc n && goN is es
    | _, _ => false
theorem stB_ok (g : Good c N X sc W) {n : Str} (h : okTg.stB sc n = true) : Loc X.env.scope n ∧ (X.fn n = true ∨ X.env.scope.names.lookup n = some .local) := by
  rw [g.hs]
  unfold okTg.stB at h
  split at h
  · rename_i e; exact ⟨.inl e, .inr e⟩
  · rename_i e; exact ⟨.inr e, .inl (g.fnx n h)⟩
  · cases h
def gSets : List Nat → TGs
  | [] => gNil
  | i :: is => gCons (gName i) (gSets is)
theorem pgs_names (g : Good c N X sc W) : ∀ {is : List Nat} {es : List Expr}, okTg.goN N sc is es = true → PGs X es (gSets is) ∧ (assignEach es X.env).length = is.length ∧ (assignEach es X.env).findIdx? (·.1) = none
  | [], [], _ => ⟨pgs_nil, rfl, rfl⟩
  | [], e :: _, h => by simp [okTg.goN] at h
  | i :: is, [], h => by simp [okTg.goN] at h
  | i :: is, e :: es, h => by
    cases e with
    | Name n p =>
      simp only [okTg.goN, Bool.and_eq_true, decide_eq_true_eq] at h
      obtain ⟨⟨h1, h2⟩, h3⟩ := h
      obtain ⟨k1, k2⟩ := stB_ok g h2
      obtain ⟨r1, r2, r3⟩ := pgs_names g h3
      refine ⟨pgs_cons (pg_name g.nd (by rw [g.hN]; exact h1) k1 k2) r1 rfl, ?_, ?_⟩
      · show (assignEach es X.env).length + 1 = is.length + 1
        rw [r2]
      · show List.findIdx? (·.1) ((false, assign (.Name n p) X.env) :: assignEach es X.env) = none
        rw [List.findIdx?_cons, r3]
        rfl
    | _ => simp [okTg.goN] at h
theorem sets_ok {L : Lay} {A : List Addr} {H : Hp} : ∀ {is : List Nat} {ds : List D} {vs : List V} {ve : Env} {σ : L2.St} {Q : L2.St → Hp → Prop}, is.length = ds.length → EnvOk L A H ve σ → Rels L A H ds vs →
    (∀ σ', EnvOk L A H ((is.zip ds).foldl (fun v p => v.set p.1 (some p.2)) ve) σ' → σ'.length = σ.length → (∀ i : Nat, i ∉ is → σ'[i]? = σ[i]?) → Q σ' H) → gSets is vs σ H Q
  | [], [], vs, ve, σ, Q, _, hv, r, h => by
    simp only [Rels] at r
    exact ⟨r, h σ hv rfl fun _ _ => rfl⟩
  | [], _ :: _, _, _, _, _, hl, _, _, _ => by simp at hl
  | _ :: _, [], _, _, _, _, hl, _, _, _ => by simp at hl
  | i :: is, d :: ds, vs, ve, σ, Q, hl, hv, r, h => by
    obtain ⟨x, r', e, h1, h2⟩ := (show ∃ v r, _ from by simpa only [Rels] using r)
    refine ⟨x, r', e, ?_⟩
    show gSets is r' (σ.set i (some x)) H Q
    refine sets_ok (by simpa using hl) (hv.set h1 i) h2 fun σ' hv' hl' hi => h σ' hv' (by rw [hl', List.length_set]) fun j hj => ?_
    simp only [List.mem_cons, not_or] at hj
    rw [hi j hj.2, List.getElem?_set_ne (Ne.symm hj.1)]
theorem pg_tg (g : Good c N X sc W) {t : Tg} (h : okTg N sc t tg = true) : PG X tg (gB c X.K t) := by
  cases t with
  | one i =>
    cases tg with
    | Name n p =>
      simp only [okTg, Bool.and_eq_true, decide_eq_true_eq] at h
      obtain ⟨k1, k2⟩ := stB_ok g h.2
      refine ⟨fun pins s σ H v u Q I r ⟨z, A, S, d, ve, ve', hv, hc, rd, hb, q⟩ => (pg_name g.nd (by rw [g.hN]; exact h.1) k1 k2).run pins s σ H v u Q I r ?_⟩
      simp only [bindT, Option.some.injEq] at hb
      subst hb
      exact q _ (hv.set rd i) (by simp) fun j hj => List.getElem?_set_ne (fun e => hj (by simp [tgV, e]))
    | _ => simp [okTg] at h
  | tup is =>
    cases tg with
    | Tuple es k p =>
      have h : okTg.goN N sc is es = true := h
      obtain ⟨r1, r2, r3⟩ := pgs_names g h
      refine ⟨fun pins s σ H v u Q I r ⟨z, A, S, d, ve, ve', hv, hc, rd, hb, q⟩ => (pg_tup g.calm r1 r2 r3).run pins s σ H v u Q I r ?_⟩
      cases d with
      | tup ds =>
        simp only [bindT] at hb
        split at hb
        · rename_i hl
          cases hb
          obtain ⟨l, vs, rfl, hq, rs⟩ := rd.w
          exact ⟨l, vs, rfl, hq.t, by rw [← rs.len, hl], sets_ok hl hv rs q⟩
        · cases hb
      | _ => simp [bindT] at hb
    | _ => simp [okTg] at h
theorem hid_seq {K : PySem.W.Frag} {z : List Addr} {D : Addr} {A : List Addr} {H : Hp} {a : Addr} {u : HO} {P : Prop} (h : SeqF (c.lay K (D :: z)) A H a u P) : SeqF (c.lay K z) A H a u P := by
  rcases h with ⟨r, n, nz⟩ | h
  · exact .inl ⟨r, n, fun m => nz (List.mem_cons_of_mem _ m)⟩
  · exact .inr h
theorem show_seq {K : PySem.W.Frag} {z : List Addr} {D : Addr} {A : List Addr} {H : Hp} {a : Addr} {u : HO} {P : Prop} (h : SeqF (c.lay K (D :: z)) A H a u P) : SeqF (c.lay K z) (A ++ [D]) H a u P := by
  rcases h with ⟨r, n, nz⟩ | h
  · refine .inl ⟨r, ?_, fun m => nz (List.mem_cons_of_mem _ m)⟩
    simp only [List.mem_append, List.mem_singleton, not_or]
    exact ⟨n, fun e => nz (by rw [e]; exact List.mem_cons_self)⟩
  · exact .inr h
mutual
theorem hid_rel {K : PySem.W.Frag} {z : List Addr} {D : Addr} {A : List Addr} {H : Hp} : ∀ {d : EV.D} {x : V}, Rel (c.lay K (D :: z)) A H d x → Rel (c.lay K z) A H d x
  | .non, _, h => h | .bl _, _, h => h | .int _, _, h => h | .str _, _, h => h
  | .tup ds, _, h => by
    obtain ⟨a, vs, e, q, r⟩ := (show ∃ a vs, _ from by simpa only [Rel] using h)
    simp only [Rel]
    exact ⟨a, vs, e, hid_seq q, hid_rels r⟩
  | .lst ds, _, h => by
    obtain ⟨a, vs, e, q, r⟩ := (show ∃ a vs, _ from by simpa only [Rel] using h)
    simp only [Rel]
    exact ⟨a, vs, e, hid_seq q, hid_rels r⟩
  | .dct ks ds, _, h => by
    obtain ⟨a, vs, e, q, n, l, nd, r⟩ := (show ∃ a vs, _ from by simpa only [Rel] using h)
    simp only [Rel]
    exact ⟨a, vs, e, q, ⟨n.1, fun m => n.2 (List.mem_cons_of_mem _ m)⟩, l, nd, hid_rels r⟩
  | .ins k ds, _, h => by
    obtain ⟨a, dx, vs, e, q, n, l, r⟩ := (show ∃ a dx vs, _ from by simpa only [Rel] using h)
    simp only [Rel]
    exact ⟨a, dx, vs, e, q, ⟨n.1, fun m => n.2 (List.mem_cons_of_mem _ m)⟩, l, hid_rels r⟩
  | .cell n, _, h => by simpa only [Rel] using h
  | .cls _, _, h => by simp only [Rel] at h ⊢; exact h
  | .clo _ _, _, h => by simp only [Rel] at h
theorem hid_rels {K : PySem.W.Frag} {z : List Addr} {D : Addr} {A : List Addr} {H : Hp} : ∀ {ds : List EV.D} {vs : List V}, Rels (c.lay K (D :: z)) A H ds vs → Rels (c.lay K z) A H ds vs
  | [], _, h => h
  | d :: ds, _, h => by
    obtain ⟨x, r, e, h1, h2⟩ := (show ∃ v r, _ from by simpa only [Rels] using h)
    simp only [Rels]
    exact ⟨x, r, e, hid_rel h1, hid_rels h2⟩
end
mutual
theorem show_rel {K : PySem.W.Frag} {z : List Addr} {D : Addr} {A : List Addr} {H : Hp} : ∀ {d : EV.D} {x : V}, Rel (c.lay K (D :: z)) A H d x → Rel (c.lay K z) (A ++ [D]) H d x
  | .non, _, h => h | .bl _, _, h => h | .int _, _, h => h | .str _, _, h => h
  | .tup ds, _, h => by
    obtain ⟨a, vs, e, q, r⟩ := (show ∃ a vs, _ from by simpa only [Rel] using h)
    simp only [Rel]
    exact ⟨a, vs, e, show_seq q, show_rels r⟩
  | .lst ds, _, h => by
    obtain ⟨a, vs, e, q, r⟩ := (show ∃ a vs, _ from by simpa only [Rel] using h)
    simp only [Rel]
    exact ⟨a, vs, e, show_seq q, show_rels r⟩
  | .dct ks ds, _, h => by
    obtain ⟨a, vs, e, q, n, l, nd, r⟩ := (show ∃ a vs, _ from by simpa only [Rel] using h)
    simp only [Rel]
    refine ⟨a, vs, e, q, ⟨?_, fun m => n.2 (List.mem_cons_of_mem _ m)⟩, l, nd, show_rels r⟩
    simp only [List.mem_append, List.mem_singleton, not_or]
    exact ⟨n.1, fun e => n.2 (by rw [e]; exact List.mem_cons_self)⟩
  | .ins k ds, _, h => by
    obtain ⟨a, dx, vs, e, q, n, l, r⟩ := (show ∃ a dx vs, _ from by simpa only [Rel] using h)
    simp only [Rel]
    refine ⟨a, dx, vs, e, q, ⟨?_, fun m => n.2 (List.mem_cons_of_mem _ m)⟩, l, show_rels r⟩
    simp only [List.mem_append, List.mem_singleton, not_or]
    exact ⟨n.1, fun e => n.2 (by rw [e]; exact List.mem_cons_self)⟩
  | .cell n, _, h => by
    obtain ⟨a, e, q⟩ := (show ∃ a, _ from by simpa only [Rel] using h)
    simp only [Rel]
    exact ⟨a, e, by rw [List.getElem?_append_left (List.getElem?_eq_some_iff.mp q).1]; exact q⟩
  | .cls _, _, h => by simp only [Rel] at h ⊢; exact h
  | .clo _ _, _, h => by simp only [Rel] at h
theorem show_rels {K : PySem.W.Frag} {z : List Addr} {D : Addr} {A : List Addr} {H : Hp} : ∀ {ds : List EV.D} {vs : List V}, Rels (c.lay K (D :: z)) A H ds vs → Rels (c.lay K z) (A ++ [D]) H ds vs
  | [], _, h => h
  | d :: ds, _, h => by
    obtain ⟨x, r, e, h1, h2⟩ := (show ∃ v r, _ from by simpa only [Rels] using h)
    simp only [Rels]
    exact ⟨x, r, e, show_rel h1, show_rels h2⟩
end
theorem aside_new {K : PySem.W.Frag} {z : List Addr} {A : List Addr} {H : Hp} {D : Addr} {o : HO} (h : H D = none) : Later (c.lay K z) A H (c.lay K (D :: z)) A (upd H D o) :=
  ⟨rfl, rfl, rfl, ⟨[], by simp⟩, fun a u e na nz => by
    have hne : a ≠ D := ne_of_none e h
    refine ⟨.inl (by rw [upd_ne hne]; exact e), na, ?_⟩
    show a ∉ D :: z
    simp only [List.mem_cons, not_or]
    exact ⟨hne, nz⟩, fun a od u e => by rw [upd_ne (ne_of_none e h)]; exact e⟩
theorem aside_set {K : PySem.W.Frag} {z : List Addr} {A : List Addr} {H : Hp} {D : Addr} {o : HO} (hn : ∀ od u, H D ≠ some (.frz od u)) : Later (c.lay K (D :: z)) A H (c.lay K (D :: z)) A (upd H D o) :=
  ⟨rfl, rfl, rfl, ⟨[], by simp⟩, fun a u e na nz => by
    have hne : a ≠ D := fun e => nz (by rw [e]; exact List.mem_cons_self)
    exact ⟨.inl (by rw [upd_ne hne]; exact e), na, nz⟩, fun a od u e => by
    have hne : a ≠ D := fun q => hn od u (by rw [← q]; exact e)
    rw [upd_ne hne]; exact e⟩
theorem hide_cells {K : PySem.W.Frag} {z : List Addr} {A : List Addr} {S : St} {H : Hp} {D : Addr} {o : HO} (h : H D = none) (C : Cells (c.lay K z) A S H) : Cells (c.lay K (D :: z)) A S (upd H D o) := by
  refine (aside_new (c := c) (A := A) (o := o) h).cells_aside (fun n a k e1 e2 e3 => ?_) (fun a m => ?_) C
  · rw [upd_ne (ne_of_none e3 h)]
  have m : a ∈ D :: z := m
  rcases List.mem_cons.mp m with rfl | m
  · exact ⟨⟨o, upd_same⟩, C.fresh h⟩
  · obtain ⟨⟨u, q⟩, n⟩ := C.zt a m
    exact ⟨⟨u, by rw [upd_ne (ne_of_none q h)]; exact q⟩, n⟩
theorem set_cells {K : PySem.W.Frag} {z : List Addr} {A : List Addr} {S : St} {H : Hp} {D : Addr} {o : HO} (C : Cells (c.lay K (D :: z)) A S H) (hn : ∀ od u, H D ≠ some (.frz od u)) : Cells (c.lay K (D :: z)) A S (upd H D o) := by
  refine (aside_set (c := c) (A := A) (o := o) hn).cells_aside (fun n a k e1 e2 e3 => ?_) (fun a m => ?_) C
  · rw [upd_ne (fun e => C.nz e1 (by rw [e]; exact List.mem_cons_self))]
  obtain ⟨⟨u, q⟩, n⟩ := C.zt a m
  by_cases e : a = D
  · subst e; exact ⟨⟨o, upd_same⟩, n⟩
  · exact ⟨⟨u, by rw [upd_ne e]; exact q⟩, n⟩
theorem hid_cells {K : PySem.W.Frag} {z : List Addr} {A : List Addr} {S : St} {H : Hp} {D : Addr} (C : Cells (c.lay K (D :: z)) A S H) : Cells (c.lay K z) A S H := by
  refine ⟨C.len, C.nd, fun n k a e1 e2 => ?_, fun a m => C.zt a (List.mem_cons_of_mem _ m)⟩
  have h := C.ok n k a e1 e2
  cases k with
  | lst ds => obtain ⟨vs, q, r, b⟩ := h; exact ⟨vs, q, hid_rels r, b⟩
  | dct ks ds => obtain ⟨vs, q, l, nd, r, b⟩ := h; exact ⟨vs, q, l, nd, hid_rels r, b⟩
  | ins k ds => obtain ⟨dx, vs, q, l, r, b⟩ := h; exact ⟨dx, vs, q, l, hid_rels r, b⟩
  | fdc ks ds => obtain ⟨vs, od, q, l, nd, r, b⟩ := h; exact ⟨vs, od, q, l, nd, hid_rels r, b⟩
theorem show_cells {K : PySem.W.Frag} {z : List Addr} {A : List Addr} {S : St} {H : Hp} {D : Addr} {acc : List EV.D} {vs : List V} (C : Cells (c.lay K (D :: z)) A S H) (hz : D ∉ z) (hD : H D = some (.lst vs)) (r : Rels (c.lay K (D :: z)) A H acc vs) (hb : belows S.length acc = true) :
    Cells (c.lay K z) (A ++ [D]) (S ++ [.lst acc]) H := by
  have hDA : D ∉ A := (C.zt D List.mem_cons_self).2
  refine ⟨by simp [C.len], ?_, fun n k a e1 e2 => ?_, fun a m => ?_⟩
  · rw [List.nodup_append]
    refine ⟨C.nd, by simp, fun a ha b hb e => ?_⟩
    rw [List.mem_singleton] at hb
    rw [e, hb] at ha
    exact hDA ha
  · by_cases hn : n < S.length
    · rw [List.getElem?_append_left hn] at e1
      rw [List.getElem?_append_left (by rw [C.len]; exact hn)] at e2
      have h := C.ok n k a e1 e2
      cases k with
      | lst ds => obtain ⟨vs, q, r, b⟩ := h; exact ⟨vs, q, show_rels r, b⟩
      | dct ks ds => obtain ⟨vs, q, l, nd, r, b⟩ := h; exact ⟨vs, q, l, nd, show_rels r, b⟩
      | ins k ds => obtain ⟨dx, vs, q, l, r, b⟩ := h; exact ⟨dx, vs, q, l, show_rels r, b⟩
      | fdc ks ds => obtain ⟨vs, od, q, l, nd, r, b⟩ := h; exact ⟨vs, od, q, l, nd, show_rels r, b⟩
    · have hn2 : n = S.length := by
        have := (List.getElem?_eq_some_iff.mp e1).1
        simp only [List.length_append, List.length_singleton] at this
        omega
      subst hn2
      rw [List.getElem?_append_right (Nat.le_refl _)] at e1
      rw [List.getElem?_append_right (by rw [C.len]; exact Nat.le_refl _), C.len] at e2
      simp at e1 e2
      subst e1; subst e2
      exact ⟨vs, hD, show_rels r, hb⟩
  · obtain ⟨h1, h2⟩ := C.zt a (List.mem_cons_of_mem _ m)
    refine ⟨h1, ?_⟩
    simp only [List.mem_append, List.mem_singleton, not_or]
    exact ⟨h2, fun e => hz (by rw [← e]; exact m)⟩
end
end EV
set_option Elab.async false
set_option linter.all false
set_option maxRecDepth 100000
set_option maxHeartbeats 2000000
namespace EV
open PySem PySem.Spec PyProof.Rows L2
abbrev noW : XK := fun _ _ _ => False
section
variable {c : Cf} {N : List Str} {X : Cx} {sc : Sc} {W : XK} {a b d e : E} {x y w tg : Expr} {pos : Pos}
def relB (sc : Scope) (scope : Scope) : Scope :=
  { scope with names := scope.names.map fun (n, k) => if (k == .free && sc.kind == .function && sc.names.lookup n == some .cell) then (n, .cell) else (n, k) }
def blkSc (sc : Sc) (scope : Scope) : Sc := ⟨relB sc.eff scope, fun x => scope.names.lookup x == some .cell⟩
theorem facts_blk {s : Shared} {H : Hp} {scope : Scope} {ce : PySem.Env} {fp : List Addr} (F : Facts c X) : Facts c (X.blk s H scope ce fp) where
  fn f h := let G := F.fn f h; ⟨G.gl, G.kp, G.len, G.bd, G.kb, G.ok⟩
  gl g d h := F.gl g d h
  kd g ks vs h := F.kd g ks vs h
  cl k r h := by
    have G := F.cl k r h
    have I := G.ins
    exact ⟨G.gl, ⟨I.cls, I.noat, I.nd, I.few, I.fld, I.prop, I.meth, I.init, I.lenF, I.strF, I.boolF, I.eqF, I.ha, I.hn, I.htk, I.hne, I.hm⟩, G.kitT, G.kitB, G.kitO⟩
  free := F.free
theorem good_blk {s : Shared} {H : Hp} {scope : Scope} {cl : List (Str × Addr)} {C : Addr} {fp : List Addr} (g : Good c N X sc W) : Good c N (X.blk s H scope (compEnvC scope cl C X.env) fp) (blkSc sc scope) noW where
  hN := g.hN
  nd := g.nd
  hs := by
    show relabel scope X.env = relB sc.eff scope
    rw [← g.hs]; rfl
  calm := g.calm
  gd := g.gd
  room := g.room
  pass pins σ H s e s' I h := g.nox _ _ _ _ _ h
  nox := g.nox
  fnx x h := h
  fs := facts_blk g.fs
def Calm {α : Type} (r : R α) : Prop := ∀ e s, r ≠ .ex e s
theorem Calm.bind {α β : Type} {r : R α} {f : α → St → R β} (h : Calm r) (k : ∀ a s, Calm (f a s)) : Calm (r.bind f) := by
  intro e s
  cases r with
  | ok a s1 => exact k a s1 e s
  | ex e1 s1 => exact absurd rfl (h e1 s1)
  | no => exact fun z => nomatch z
theorem Calm.map {α β : Type} {r : R α} {f : α → β} (h : Calm r) : Calm (r.map f) := by
  intro e s
  cases r with
  | ok a s1 => exact fun z => nomatch z
  | ex e1 s1 => exact absurd rfl (h e1 s1)
  | no => exact fun z => nomatch z
theorem calm_calm {α : Type} {r : R α} : Calm r.calm := by
  intro e s
  cases r <;> exact fun z => nomatch z
theorem calm_no {α : Type} : Calm (R.no : R α) := fun _ _ z => nomatch z
theorem calm_ok {α : Type} {a : α} {s : St} : Calm (.ok a s) := fun _ _ z => nomatch z
theorem calm_comp {step : EV.D → St → R (List EV.D)} {g : Gd} (h : ∀ x s, Calm (step x s)) : ∀ (ds : List EV.D) (s : St), Calm (compL step g ds s)
  | [], s => by
    unfold compL
    split
    · exact calm_ok
    · exact calm_no
  | x :: xs, s => by
    unfold compL
    split
    · exact (h x s).bind fun a s => (calm_comp h xs s).map
    · exact calm_no
theorem calm_inv {α : Type} {r : R α} {a : α} {s : St} (h : r.calm = .ok a s) : r = .ok a s := by
  cases r with
  | ok _ _ => exact h
  | ex _ _ => cases h
  | no => cases h
theorem bind_inv {α β : Type} {r : R α} {f : α → St → R β} {b : β} {s : St} (h : r.bind f = .ok b s) : ∃ a s1, r = .ok a s1 ∧ f a s1 = .ok b s := by
  cases r with
  | ok a s1 => exact ⟨a, s1, rfl, h⟩
  | ex _ _ => cases h
  | no => cases h
theorem map_inv {α β : Type} {r : R α} {f : α → β} {b : β} {s : St} (h : r.map f = .ok b s) : ∃ a, r = .ok a s ∧ b = f a := by
  cases r with
  | ok a s1 => cases h; exact ⟨a, rfl, rfl⟩
  | ex _ _ => cases h
  | no => cases h
theorem comp_nil {step : EV.D → St → R (List EV.D)} {g : Gd} {s s2 : St} {r : List EV.D} (h : compL step g [] s = .ok r s2) : okG g s = true ∧ r = [] ∧ s2 = s := by
  unfold compL at h
  split at h
  · rename_i k; cases h; exact ⟨k, rfl, rfl⟩
  · cases h
theorem comp_cons {step : EV.D → St → R (List EV.D)} {g : Gd} {s s2 : St} {x : EV.D} {xs r : List EV.D} (h : compL step g (x :: xs) s = .ok r s2) : okG g s = true ∧ ∃ r0 s3 r1, step x s = .ok r0 s3 ∧ compL step g xs s3 = .ok r1 s2 ∧ r = r0 ++ r1 := by
  unfold compL at h
  split at h
  · rename_i k
    obtain ⟨r0, s3, e1, e2⟩ := bind_inv h
    obtain ⟨r1, e3, rfl⟩ := map_inv e2
    exact ⟨k, r0, s3, r1, e1, e3, rfl⟩
  · cases h
theorem later_grow {K : PySem.W.Frag} {z : List Addr} {A A' : List Addr} {H H' : Hp} {D : Addr} (g : Grow A H A' H') (h : H D = none) : Later (c.lay K z) A H (c.lay K (D :: z)) A' H' :=
  ⟨rfl, rfl, rfl, g.pre, fun a o e na nz => ⟨g.keep a o e na, g.free a o e na, by
    show a ∉ D :: z
    simp only [List.mem_cons, not_or]
    exact ⟨ne_of_none e h, nz⟩⟩, g.frzs⟩
theorem grow_upd {A A' : List Addr} {H H' : Hp} {D : Addr} {o : HO} (g : Grow A H A' H') (h : H D = none) : Grow A H A' (upd H' D o) :=
  ⟨g.pre, fun a u e na => by rw [upd_ne (ne_of_none e h)]; exact g.keep a u e na, g.free, fun a od u e => by rw [upd_ne (ne_of_none e h)]; exact g.frzs a od u e⟩
structure CI (c : Cf) (K : PySem.W.Frag) (z : List Addr) (D : Addr) (L0 : Lay) (A0 : List Addr) (H0 : Hp) (A1 : List Addr) (H1 : Hp) (A' : List Addr) (S' : St) (H : Hp) (acc : List EV.D) (vs : List V) : Prop where
  lt : Later L0 A0 H0 (c.lay K (D :: z)) A' H
  gr : Grow A1 H1 A' H
  hD : H D = some (.lst vs)
  cs : Cells (c.lay K (D :: z)) A' S' H
  rs : Rels (c.lay K (D :: z)) A' H acc vs
theorem CI.grow {K : PySem.W.Frag} {z : List Addr} {D : Addr} {L0 : Lay} {A0 : List Addr} {H0 : Hp} {A1 : List Addr} {H1 : Hp} {A' A2 : List Addr} {S' S2 : St} {H H2 : Hp} {acc : List EV.D} {vs : List V}
    (q : CI c K z D L0 A0 H0 A1 H1 A' S' H acc vs) (g : Grow A' H A2 H2) (C : Cells (c.lay K (D :: z)) A2 S2 H2) : CI c K z D L0 A0 H0 A1 H1 A2 S2 H2 acc vs :=
  ⟨q.lt.trans g.later, q.gr.trans g, (g.keep _ _ q.hD (q.cs.zt D List.mem_cons_self).2).ne (fun _ z => nomatch z), C, q.rs.grow g⟩
theorem CI.app {K : PySem.W.Frag} {z : List Addr} {D : Addr} {L0 : Lay} {A0 : List Addr} {H0 : Hp} {A1 : List Addr} {H1 : Hp} {A' : List Addr} {S' : St} {H : Hp} {acc : List EV.D} {vs : List V} {d : EV.D} {x : V}
    (q : CI c K z D L0 A0 H0 A1 H1 A' S' H acc vs) (hD1 : H1 D = none) (r : Rel (c.lay K (D :: z)) A' H d x) : CI c K z D L0 A0 H0 A1 H1 A' S' (upd H D (.lst (vs ++ [x]))) (acc ++ [d]) (vs ++ [x]) :=
  have hn : ∀ od u, H D ≠ some (.frz od u) := fun od u z => by rw [q.hD] at z; cases z
  ⟨q.lt.trans (aside_set hn), grow_upd q.gr hD1, upd_same, set_cells q.cs hn, ((aside_set (c := c) hn).rels q.rs).app (.one ((aside_set hn).rel r))⟩
def CT (c : Cf) (K : PySem.W.Frag) (z : List Addr) (D : Addr) (L0 : Lay) (A0 : List Addr) (H0 : Hp) (A1 : List Addr) (H1 : Hp) (step : EV.D → St → R (List EV.D)) (g : Gd) (ds : List EV.D) (res : List EV.D) (S2 : St) (i : Nat) (H : Hp) : Prop :=
  i ≤ ds.length ∧ ∃ A' S' acc vs r, CI c K z D L0 A0 H0 A1 H1 A' S' H acc vs ∧ compL step g (ds.drop i) S' = .ok r S2 ∧ acc ++ r = res
theorem ct_stop {K : PySem.W.Frag} {z : List Addr} {D : Addr} {L0 : Lay} {A0 : List Addr} {H0 : Hp} {A1 : List Addr} {H1 : Hp} {step : EV.D → St → R (List EV.D)} {p : List EV.D × Gd} {res : List EV.D} {S2 : St} {i : Nat} {H : Hp} {J : It}
    (it : ItR L0 A0 H0 p J) (q : CT c K z D L0 A0 H0 A1 H1 step p.2 p.1 res S2 i H) (hi : ¬ i < p.1.length) : J.stop i H ∧ ∃ A' vs, CI c K z D L0 A0 H0 A1 H1 A' S2 H res vs := by
  obtain ⟨hl, A', S', acc, vs, r, ci, e, er⟩ := q
  rw [List.drop_eq_nil_of_le (by omega)] at e
  obtain ⟨ok, rfl, rfl⟩ := comp_nil e
  rw [List.append_nil] at er
  subst er
  exact ⟨((it _ _ _ _ ci.lt ci.cs ok) i).1 (by omega), A', vs, ci⟩
theorem ct_go {K : PySem.W.Frag} {z : List Addr} {D : Addr} {L0 : Lay} {A0 : List Addr} {H0 : Hp} {A1 : List Addr} {H1 : Hp} {step : EV.D → St → R (List EV.D)} {p : List EV.D × Gd} {res : List EV.D} {S2 : St} {i : Nat} {H : Hp} {J : It}
    (it : ItR L0 A0 H0 p J) (q : CT c K z D L0 A0 H0 A1 H1 step p.2 p.1 res S2 i H) (hi : i < p.1.length) : J.go i H ∧ ∀ x H', J.yld i H x H' →
      ∃ A' S' acc vs d r0 r1 S3, CI c K z D L0 A0 H0 A1 H1 A' S' H' acc vs ∧ Rel (c.lay K (D :: z)) A' H' d x ∧ step d S' = .ok r0 S3 ∧ compL step p.2 (p.1.drop (i + 1)) S3 = .ok r1 S2 ∧ acc ++ (r0 ++ r1) = res := by
  obtain ⟨hl, A', S', acc, vs, r, ci, e, er⟩ := q
  have hd : p.1[i]? = some p.1[i] := List.getElem?_eq_getElem hi
  rw [List.drop_eq_getElem_cons hi] at e
  obtain ⟨ok, r0, S3, r1, e1, e2, rfl⟩ := comp_cons e
  obtain ⟨_, k⟩ := it _ _ _ _ ci.lt ci.cs ok i
  obtain ⟨go, k⟩ := k _ hd
  refine ⟨go, fun x H' hy => ?_⟩
  obtain ⟨g, C, rd⟩ := k x H' hy
  exact ⟨A', S', acc, vs, p.1[i], r0, r1, S3, ci.grow g C, rd, e1, e2, er⟩
theorem wipe_env {L : Lay} {A : List Addr} {H : Hp} {v : Env} {σ : L2.St} (h : EnvOk L A H v σ) : ∀ is : List Nat, EnvOk L A H (wipeE v is) (wipe σ is)
  | [] => h
  | i :: is => by
    have q := wipe_env h is
    refine ⟨by simp [wipeE, wipe, q.len], fun j d e => ?_⟩
    simp only [wipeE] at e
    by_cases hj : j = i
    · subst hj
      rw [List.getElem?_set] at e
      simp at e
    · rw [List.getElem?_set_ne (Ne.symm hj)] at e
      obtain ⟨x, e1, r⟩ := q.at_ j d e
      exact ⟨x, by simp only [wipe]; rw [List.getElem?_set_ne (Ne.symm hj)]; exact e1, r⟩
theorem wipe_len (σ : L2.St) (is : List Nat) : (wipe σ is).length = σ.length := wipe_length σ is
theorem wipe_get {σ : L2.St} : ∀ {is : List Nat} {i : Nat}, (wipe σ is)[i]? = if i ∈ is ∧ i < σ.length then some none else σ[i]?
  | [], i => by simp [wipe]
  | j :: is, i => by
    simp only [wipe]
    by_cases hj : j = i
    · subst hj
      by_cases hl : j < σ.length
      · rw [List.getElem?_set_self (by rw [wipe_len]; exact hl), if_pos ⟨List.mem_cons_self, hl⟩]
      · rw [if_neg (fun h => hl h.2), List.getElem?_eq_none (by rw [List.length_set, wipe_len]; omega), List.getElem?_eq_none (by omega)]
    · rw [List.getElem?_set_ne hj, wipe_get (is := is)]
      have : (i ∈ j :: is ∧ i < σ.length) ↔ (i ∈ is ∧ i < σ.length) := by
        simp only [List.mem_cons]
        exact ⟨fun ⟨h, k⟩ => ⟨h.resolve_left (fun e => hj e.symm), k⟩, fun ⟨h, k⟩ => ⟨.inr h, k⟩⟩
      simp only [this]
theorem wipe_eq {σ σ' : L2.St} {is js : List Nat} (hl : σ'.length = σ.length) (h : ∀ i : Nat, i ∉ is → σ'[i]? = σ[i]?) (hj : ∀ i ∈ is, i ∈ js) : wipe σ' js = wipe σ js := by
  apply List.ext_getElem?
  intro i
  rw [wipe_get, wipe_get, hl]
  by_cases hi : i ∈ js ∧ i < σ.length
  · rw [if_pos hi, if_pos hi]
  · rw [if_neg hi, if_neg hi]
    by_cases hm : i ∈ is
    · have : ¬ i < σ.length := fun k => hi ⟨hj i hm, k⟩
      rw [List.getElem?_eq_none (by omega), List.getElem?_eq_none (by omega)]
    · exact h i hm
theorem wipe_wipe (σ : L2.St) (is : List Nat) : wipe (wipe σ is) is = wipe σ is := by
  apply List.ext_getElem?
  intro i
  rw [wipe_get, wipe_len, wipe_get]
  by_cases hi : i ∈ is ∧ i < σ.length
  · rw [if_pos hi, if_pos hi]
  · rw [if_neg hi, if_neg hi]
def ownOf (N : List Str) (is : List Nat) : List (Str × Nat) := is.map fun i => (N.getD i "", i)
theorem own_ix (N : List Str) (is : List Nat) : (ownOf N is).map (·.2) = is := by
  unfold ownOf
  rw [List.map_map]
  exact List.map_id is
abbrev okIf (c : Cf) (X : Cx) (W : XK) (e : E) (xs : List Expr) : Prop := PTs X xs (tT c X.K W e)
theorem if_nil : okIf c X W (.con (.bl true)) [] := ⟨fun pins s σ H Q I ⟨z, A, S, v, hv, hc, h⟩ => pts_nil.run pins s σ H Q I (Post.ok (rel := RelBL (c.lay X.K z)) h hc rfl)⟩
theorem if_one (h : okT c X W a x) : okIf c X W a [x] := pts_one h
def elemR (G : Pg) (κ : Nat → List EV.D → St → R EV.D) (cn el : E) (v : Env) (s : St) : R (List EV.D) := (tst (ev G κ cn v s)).calm.bind fun b s => if b then (ev G κ el v s).calm.map ([·]) else .ok [] s
theorem elem_ok {z : List Addr} {D : Addr} {L0 : Lay} {A0 : List Addr} {H0 : Hp} {A1 : List Addr} {H1 : Hp} {A' : List Addr} {S' S3 : St} {H' : Hp} {acc r0 : List EV.D} {vs : List V} {cn el : E} {v' : Env} {σ' : L2.St} {Nx : Hp → Prop} {K : PySem.W.Frag}
    (ci : CI c K z D L0 A0 H0 A1 H1 A' S' H' acc vs) (hD1 : H1 D = none) (hv : EnvOk (c.lay K (D :: z)) A' H' v' σ') (e : elemR c.G c.κ cn el v' S' = .ok r0 S3) (hlen : (acc ++ r0).length ≤ line)
    (hN : ∀ A2 H2 vs2, CI c K z D L0 A0 H0 A1 H1 A2 S3 H2 (acc ++ r0) vs2 → Nx H2) :
    tT c K noW cn σ' H' fun b H3 => if b = true then tE c K noW el σ' H3 fun y H4 => ∃ acc, H4 D = some (.lst acc) ∧ acc.length < sizeLine ∧ Nx (upd H4 D (.lst (acc ++ [y]))) else Nx H3 := by
  obtain ⟨b, Sb, e1, e2⟩ := bind_inv e
  have e1 := calm_inv e1
  refine ⟨D :: z, A', S', v', hv, ci.cs, ?_⟩
  show Post _ noW A' H' _ (tst (ev c.G c.κ cn v' S')) _
  rw [e1]
  intro A2 H2 b2 g2 c2 hb
  have hb : b = b2 := hb
  subst hb
  have ci2 := ci.grow g2 c2
  cases b with
  | false =>
    rw [if_neg Bool.false_ne_true] at e2 ⊢
    cases e2
    refine hN A2 H2 vs ?_
    rw [List.append_nil]; exact ci2
  | true =>
    rw [if_pos rfl] at e2 ⊢
    obtain ⟨y0, e3, rfl⟩ := map_inv e2
    have e3 := calm_inv e3
    refine ⟨D :: z, A2, Sb, v', hv.grow g2, c2, ?_⟩
    show Post _ noW A2 H2 _ (ev c.G c.κ el v' Sb) _
    rw [e3]
    intro A3 H3 y g3 c3 ry
    have ci3 := ci2.grow g3 c3
    refine ⟨vs, ci3.hD, ?_, ?_⟩
    · rw [← ci3.rs.len, ← line_eq]
      simp only [List.length_append, List.length_singleton] at hlen
      omega
    · exact hN A3 _ _ (ci3.app hD1 ry)
theorem comp_read {m : Bool} {t : Tg} {it cn el : E} {K : PySem.W.Frag} {σ : L2.St} {H : Hp} {Q : VK} (h : tE c K W (.comp m t it cn el) σ H Q) : tLc (tIt c K W it) (gB c K t) (tT c K noW cn) (tE c K noW el) ((ownOf N (tgV t)).map (·.2)) σ H Q := by
  obtain ⟨z, A, S, v, hv, hc, h⟩ := h
  rw [own_ix]
  simp only [ev] at h
  obtain ⟨z', A', S', v', hv', hc', p⟩ := tR_bind (rel := ItR) hv hc h
  refine ⟨z', A', S', v', hv', hc', p.imp fun J H1 ⟨A1, S1, d1, g1, e1, c1, r1, p1⟩ D hD => ?_⟩
  have hcalm := calm_comp (step := fun x s => match bindT t x (wipeE v (tgV t)) with
    | some v' => elemR c.G c.κ cn el v' s
    | none => .no) (g := d1.2) (fun x s => by
      split
      · exact calm_calm.bind fun b s => by split; exact calm_calm.map; exact calm_ok
      · exact calm_no) d1.1 S1
  have p1 : Post (c.lay K z) W A1 H1 (Rel (c.lay K z)) ((compL (fun x s => match bindT t x (wipeE v (tgV t)) with
    | some v' => elemR c.G c.κ cn el v' s
    | none => .no) d1.2 d1.1 S1).bind fun ds s => if ds.length ≤ line then alloc m ds s else .no) Q := p1
  generalize hstep : (fun x s => match bindT t x (wipeE v (tgV t)) with
    | some v' => elemR c.G c.κ cn el v' s
    | none => (.no : R (List EV.D))) = step at hcalm p1
  cases hr : compL step d1.2 d1.1 S1 with
  | ex e s => exact absurd hr (hcalm e s)
  | no => rw [hr] at p1; exact (show False from p1).elim
  | ok res S2 =>
    rw [hr] at p1
    have p1 : Post (c.lay K z) W A1 H1 (Rel (c.lay K z)) (if res.length ≤ line then alloc m res S2 else .no) Q := p1
    split at p1
    · rename_i hlen
      have hDz : D ∉ z := c1.freshZ hD
      have ew := wipe_env e1 (tgV t)
      refine ⟨fun i mm Hh => mm = d1.1.length - i ∧ CT c K z D (c.lay K z) A1 H1 A1 H1 step d1.2 d1.1 res S2 i Hh, ⟨d1.1.length, by simp, Nat.zero_le _, A1, S1, [], [], res, ⟨aside_new hD, grow_new c1 hD, upd_same, hide_cells hD c1, .nil⟩, by simpa using hr, rfl⟩, ?_⟩
      rintro i mm Hh ⟨rfl, ct⟩
      by_cases hi : i < d1.1.length
      · obtain ⟨go, k⟩ := ct_go r1 ct hi
        refine .inr ⟨go, fun Hn => CT c K z D (c.lay K z) A1 H1 A1 H1 step d1.2 d1.1 res S2 (i + 1) Hn, fun H' q => ⟨_, by omega, rfl, q⟩, fun x1 H' hy => ?_⟩
        obtain ⟨A2, S3, acc, vs, d, r0, r1', S4, ci, rd, e4, e5, e6⟩ := k x1 H' hy
        rw [← hstep] at e4
        have e4 : (match bindT t d (wipeE v (tgV t)) with
          | some v' => elemR c.G c.κ cn el v' S3
          | none => (.no : R (List EV.D))) = .ok r0 S4 := e4
        split at e4
        · rename_i v2 hbt
          refine ⟨D :: z, A2, S3, d, wipeE v (tgV t), v2, ci.lt.env ew, ci.cs, rd, hbt, fun σ' hσ hl hk => ⟨(wipe_eq hl hk fun i h => h).trans (wipe_wipe _ _), ?_⟩⟩
          have hl2 : (acc ++ r0).length ≤ line := by
            rw [← e6] at hlen
            simp only [List.length_append] at hlen ⊢
            omega
          exact elem_ok ci hD hσ e4 hl2 fun A3 H3 vs3 ci3 => ⟨by omega, A3, S4, acc ++ r0, vs3, r1', ci3, e5, by rw [List.append_assoc]; exact e6⟩
        · cases e4
      · obtain ⟨stop, A2, vs, ci⟩ := ct_stop r1 ct hi
        refine .inl ⟨stop, ?_⟩
        have hDA : D ∉ A2 := (ci.cs.zt D List.mem_cons_self).2
        cases m with
        | false =>
          refine p1 A2 Hh (.ref D) ci.gr (hid_cells ci.cs) ?_
          simp only [Rel]
          exact ⟨D, vs, rfl, .inl ⟨.inl ci.hD, hDA, hDz⟩, hid_rels ci.rs⟩
        | true =>
          have p1 : Post (c.lay K z) W A1 H1 (Rel (c.lay K z)) (if belows S2.length res then .ok (.cell S2.length) (S2 ++ [.lst res]) else .no) Q := p1
          split at p1
          · rename_i hbl
            refine p1 (A2 ++ [D]) Hh (.ref D) ?_ (show_cells ci.cs hDz ci.hD ci.rs hbl) ?_
            · obtain ⟨B, eB⟩ := ci.gr.pre
              refine ⟨⟨B ++ [D], by rw [eB, List.append_assoc]⟩, ci.gr.keep, fun a o e na => ?_, ci.gr.frzs⟩
              simp only [List.mem_append, List.mem_singleton, not_or]
              exact ⟨ci.gr.free a o e na, ne_of_none e hD⟩
            · simp only [Rel]
              exact ⟨D, rfl, by rw [← ci.cs.len]; simp⟩
          · exact p1.elim
    · exact p1.elim
theorem s_comp (g : Good c N X sc W) {m : Bool} {t : Tg} {it cn el : E} {scope : Scope} {ifs : List Expr} {elt iter : Expr} (hi : okI c X W it tg iter) (hb : blkC N sc.eff scope (ownOf N (tgV t)) = true) (hs : ∀ env v, foldedSetIterable iter env v = pure v) (ht : okTg N (blkSc sc scope) t tg = true)
    (hcn : ∀ X', Good c N X' (blkSc sc scope) noW → okIf c X' noW cn ifs) (hel : ∀ X', Good c N X' (blkSc sc scope) noW → okE c X' noW el elt) : okE c X W (.comp m t it cn el) (.ListComp elt [⟨tg, iter, ifs, 0⟩] scope pos) := by
  have ok : BlkOk X.N X.env.scope scope (ownOf N (tgV t)) := by rw [g.hN, g.hs]; exact blkOk_by hb
  exact PE.mono (pe_lc (g := gB c X.K t) (tt := tT c X.K noW cn) (te := tE c X.K noW el) g.calm g.nd hi ok (fun s H C cl fp => pg_tg (good_blk g) ht) (fun s H C cl fp => hcn _ (good_blk g)) (fun s H C cl fp => hel _ (good_blk g)) (hs X.env)) fun σ H Q h => comp_read h
end
end EV
set_option Elab.async false
set_option linter.all false
set_option maxRecDepth 100000
set_option maxHeartbeats 3200000
namespace EV
open PySem PySem.Spec PyProof.Rows L2
def keyV : Value → Option L2.Key
  | .int i _ => some (.inl i)
  | .str x _ => some (.inr x)
  | _ => none
theorem keyV_is {P : Program} {w : World} {k : L2.Key} {v : Value} : (mixKind P w).is k v = true ↔ keyV v = some k := by
  constructor
  · intro h
    rcases keyIs_shape (k := k) (v := v) h with ⟨i, t, rfl, rfl⟩ | ⟨x, t, rfl, rfl⟩ <;> rfl
  · intro h
    cases v <;> simp only [keyV, Option.some.injEq, reduceCtorEq] at h
    · subst h; exact mixKind_int P w _ _
    · subst h; exact mixKind_str P w _ _
theorem keyV_scan {k : L2.Key} {v : Value} (h : keyV v = some k) : v.scannable = true := by
  cases v <;> simp only [keyV, Option.some.injEq, reduceCtorEq] at h <;> rfl
def SK (P : Program) (w : World) (h : Heap) (a : Addr) (L : List L2.Key) : Prop :=
  ∃ o es ep t, h.get? a = some o ∧ o.ExactSet ∧ o.data = .set es ep t ∧ ElemsOf (mixKind P w) es.toList ∧ (es.toList.map fun e => keyV e.2).Perm (L.map some) ∧ L.Nodup ∧ es.size < scanBound ∧ t.fits es.size = true ∧ Ris t.place.toList ∧ (w.params.followText "set-order" = true ∨ t.led = true)
theorem SK.at {P : Program} {w : World} {h h' : Heap} {a : Addr} {L : List L2.Key} (R : SK P w h a L) (k : ∀ o, h.get? a = some o → h'.get? a = some o) : SK P w h' a L := by
  obtain ⟨o, es, ep, t, ho, r⟩ := R
  exact ⟨o, es, ep, t, k o ho, r⟩
def hasK (L : List L2.Key) (k : L2.Key) : Bool := L.any fun x => decide (x = k)
theorem hasK_iff {L : List L2.Key} {k : L2.Key} : hasK L k = true ↔ k ∈ L := by
  simp only [hasK, List.any_eq_true, decide_eq_true_eq]
  exact ⟨fun ⟨x, h, e⟩ => e ▸ h, fun h => ⟨k, h, rfl⟩⟩
def addK (L : List L2.Key) (k : L2.Key) : List L2.Key := if hasK L k = true then L else L ++ [k]
section
variable {P : Program} {w : World} {A : Around} {E : Value → Shared → Prop} {s : Shared} {a : Addr} {L : List L2.Key}
theorem sk_tail {g : Bool → Sem Unit} (hg : ∀ (b : Bool) (s₁ : Shared) (Q' : Unit → Shared → Prop), Q' () s₁ → wpAny (model P w) A (g b) Q' E s₁)
    {o : Obj} {es : Array (Int × Value)} {ep : Nat} {t : SetTable} (ho : s.heap.get? a = some o) (hex : o.ExactSet) (hd : o.data = .set es ep t) {es1 : Array (Int × Value)} {t2 : SetTable} {L' : List L2.Key}
    (g1 : ElemsOf (mixKind P w) es1.toList) (m1 : (es1.toList.map fun e => keyV e.2).Perm (L'.map some)) (nd : L'.Nodup) (hb1 : es1.size < scanBound) (hf2 : t2.fits es1.size = true) (hr : Ris t2.place.toList) (hl : w.params.followText "set-order" = true ∨ t2.led = true) {wasDummy : Bool} {R : Option Bool → Shared → Prop}
    (hR : ∀ h', Heap.SameBut a s.heap h' → SK P w h' a L' → R (some true) { s with heap := h' }) :
    wpAny (model P w) A (do
        storeSet a es1 t2
        if (!wasDummy && t2.tooFull) = true then do
            g (relayAll t2 es1 (SetTable.grown es1.size)).2.2
            storeSet a (relayAll t2 es1 (SetTable.grown es1.size)).1 (relayAll t2 es1 (SetTable.grown es1.size)).2.1
            pure (some true)
          else pure (some true)) R E s := by
  refine wpAny_bind (wpAny_storeSet_of ho hd ?_ (fits_of_scanBound hb1))
  have ho1 := store_at (es' := es1) (t' := t2) ho hd
  have sb1 := Heap.SameBut.update s.heap a (Obj.putSet es1 t2)
  split
  · have pm := relayAll_perm t2 es1 (SetTable.grown es1.size)
    have hf3 := relayAll_fits t2 es1 (SetTable.grown es1.size)
    have hr3 := relayAll_ris t2 es1 (SetTable.grown es1.size)
    have hl3 := relayAll_led t2 es1 (SetTable.grown es1.size)
    generalize relayAll t2 es1 (SetTable.grown es1.size) = Z at pm hf3 hr3 hl3 ⊢
    obtain ⟨es2, t3, gave⟩ := Z
    dsimp only at pm hf3 hr3 hl3 ⊢
    have hsz : es2.size = es1.size := by rw [← Array.length_toList, pm.length_eq, Array.length_toList]
    have hb2 : es2.size < scanBound := by rw [hsz]; exact hb1
    refine wpAny_bind (hg _ _ _ ?_)
    refine wpAny_bind (wpAny_storeSet_of ho1 rfl ?_ (fits_of_scanBound hb2))
    have ho2 := store_at (es' := es2) (t' := t3) ho1 rfl
    refine wpAny_pure (hR _ (sb1.trans (Heap.SameBut.update _ a _)) ?_)
    exact ⟨_, es2, _, t3, ho2, hex, rfl, fun e he => g1 e (pm.mem_iff.mp he), (pm.map _).trans m1, nd, hb2, hf3, hr3, hl.imp id fun z => by rw [hl3]; exact z⟩
  · exact wpAny_pure (hR _ sb1 ⟨_, es1, _, t2, ho1, hex, rfl, g1, m1, nd, hb1, hf2, hr, hl⟩)
theorem sk_add {k : L2.Key} {v : Value} {Q : Bool → Shared → Prop} (R : SK P w s.heap a L) (hk : keyV v = some k) (room : L.length + 1 < scanBound)
    (hQ : ∀ b h', Heap.SameBut a s.heap h' → SK P w h' a (addK L k) → Q b { s with heap := h' }) :
    wpAny (model P w) A (setAddHashed a v ((mixKind P w).hash k)) Q E s := by
  obtain ⟨o, es, ep, t, ho, hex, hd, hel, hm, nd, hb, hf, hr, hl⟩ := R
  have hkey : (mixKind P w).is k v = true := keyV_is.mpr hk
  have hsc : v.scannable = true := keyV_scan hk
  have hn : es.size = L.length := by
    have := hm.length_eq
    simpa using this
  unfold setAddHashed setAddHashedIn
  refine wpAny_holding (wpAny_bind (wpAny_setState_of ho hd hf ?_))
  dsimp only
  rw [byScan_of hsc hb hel]
  simp only [↓reduceIte]
  unfold setAddByScan
  refine wpAny_bind ?_
  refine wpAny_bind (wpAny_rule ?_)
  refine wpAny_bind (wpAny_setScan_of hkey ho hd hf hel ?_)
  cases hfi : List.findIdx? (fun e => (mixKind P w).is k e.2) es.toList with
  | some j =>
    dsimp only
    obtain ⟨hj, pj, _⟩ := List.findIdx?_eq_some_iff_getElem.mp hfi
    have hkL : k ∈ L := by
      have h1 : some k ∈ es.toList.map fun e => keyV e.2 := List.mem_map.mpr ⟨es.toList[j], List.getElem_mem hj, keyV_is.mp pj⟩
      have h2 := hm.mem_iff.mp h1
      simpa using h2
    refine wpAny_pure (wpAny_pure ?_)
    refine hQ _ s.heap (Heap.SameBut.refl a s.heap) ?_
    rw [addK, if_pos (hasK_iff.mpr hkL)]
    exact ⟨o, es, ep, t, ho, hex, hd, hel, hm, nd, hb, hf, hr, hl⟩
  | none =>
    dsimp only
    have hnk : k ∉ L := fun z => by
      have h1 : some k ∈ L.map some := List.mem_map.mpr ⟨k, z, rfl⟩
      have h2 := hm.mem_iff.mpr h1
      obtain ⟨e, he, q⟩ := List.mem_map.mp h2
      have c := List.findIdx?_eq_none_iff.mp hfi e he
      rw [keyV_is.mpr q] at c
      cases c
    have hgw : ∀ (b : Bool) {s₁ : Shared} {Q' : Unit → Shared → Prop}, Q' () s₁ → wpAny (model P w) A (match b with | true => rule "set.scan.the-table-gave-way" | false => pure ()) Q' E s₁ :=
      fun b s₁ Q' q => by cases b <;> first | exact wpAny_pure q | exact wpAny_rule q
    have pm := layNew_perm t es ((mixKind P w).hash k) v
    have hf1 := layNew_fits t es ((mixKind P w).hash k) v
    have hr1 := layNew_ris t es ((mixKind P w).hash k) v hr
    have hl1 := layNew_led t es ((mixKind P w).hash k) v
    generalize layNew t es ((mixKind P w).hash k) v = Z at pm hf1 hr1 hl1 ⊢
    obtain ⟨es1, t1, wasDummy, gave⟩ := Z
    dsimp only at pm hf1 hr1 hl1 ⊢
    rw [Array.toList_push] at pm
    have pc : es1.toList.Perm (es.toList ++ [((mixKind P w).hash k, v)]) := pm
    have g1 : ElemsOf (mixKind P w) es1.toList := fun e he => by
      rcases List.mem_append.mp (pc.mem_iff.mp he) with z | z
      · exact hel e z
      · rw [List.mem_singleton] at z
        rw [z]; exact ⟨⟨k, hkey, rfl⟩, hsc⟩
    have m1 : (es1.toList.map fun e => keyV e.2).Perm ((L ++ [k]).map some) := by
      refine (pc.map _).trans ?_
      rw [List.map_append, List.map_append]
      have e1 : ([((mixKind P w).hash k, v)] : List (Int × Value)).map (fun e => keyV e.2) = [k].map some := by
        show [keyV v] = [some k]
        rw [hk]
      rw [e1]
      exact hm.append_right _
    have nd1 : (L ++ [k]).Nodup := by
      rw [List.nodup_append]
      exact ⟨nd, by simp, fun x hx y hy e => by
        rw [List.mem_singleton] at hy
        rw [e, hy] at hx
        exact hnk hx⟩
    have hsz : es1.size = L.length + 1 := by
      have := m1.length_eq
      simpa using this
    have hb1 : es1.size < scanBound := by rw [hsz]; exact room
    have hled : w.params.followText "set-order" = true ∨ t1.led = true := hl.imp id fun z => by rw [hl1]; exact z
    have fin : ∀ h', Heap.SameBut a s.heap h' → SK P w h' a (L ++ [k]) → ∀ b, Q b { s with heap := h' } := fun h' sb r b => hQ b h' sb (by rw [addK, if_neg (fun z => hnk (hasK_iff.mp z))]; exact r)
    refine wpAny_bind (hgw _ ?_)
    split
    · refine wpAny_bind ?_
      rw [hashByValue_scannable 8 hsc]
      refine wpAny_pure ?_
      refine sk_tail ?_ ho hex hd g1 m1 nd1 hb1 ?_ ?_ ?_ ?_
      · intro b s₁ Q' q; cases b <;> first | exact wpAny_pure q | exact wpAny_rule q
      · first | (split <;> first | exact hf1 | exact SetTable.fits_plain_off hf1) | exact hf1
      · first | (split <;> exact hr1) | exact hr1
      · first | (split <;> exact hled) | exact hled
      · intro h' sb r; dsimp only; exact wpAny_pure (fin h' sb r _)
    · refine wpAny_bind (wpAny_pure ?_)
      simp only [↓reduceIte]
      refine sk_tail ?_ ho hex hd g1 m1 nd1 hb1 hf1 hr1 hled ?_
      · intro b s₁ Q' q; cases b <;> first | exact wpAny_pure q | exact wpAny_rule q
      · intro h' sb r; dsimp only; exact wpAny_pure (fin h' sb r _)
theorem sk_loop {I : Addr} {fp wr : List Addr} {G : Array GenState → Array GenState → Prop} {n : Nat} {Pv : Nat → Value → Prop} {St : Nat → Shared → Prop} {R : Result → Shared → Prop}
    (W : WalksS P w A.in1 I fp wr G n Pv St) (S : Addr) (hSf : S ∉ fp) (ks : List L2.Key) (hn : n = ks.length) (hb : ks.length + 1 < scanBound) (hval : ∀ i v, Pv i v → ∃ k, ks[i]? = some k ∧ keyV v = some k) :
    ∀ (k i : Nat) (s : Shared) (L : List L2.Key), n - i = k → i ≤ n → St i s → L.length ≤ i → SK P w s.heap S L →
      (∀ s', Moved (S :: wr) G s s' → SK P w s'.heap S ((ks.drop i).foldl addK L) → R (.ok (.ret .none)) s') →
      codeAny (model P w) A (.builtin "set.update.loop" ⟨[.ref S, .ref I], []⟩) R s := by
  have hSw : S ∉ wr := fun h => hSf (W.sub _ h)
  have hsub : ∀ b ∈ wr, b ∈ S :: wr := fun b hb => List.mem_cons_of_mem _ hb
  intro k
  induction k with
  | zero =>
    intro i s L hk' hi hst hLl hS hR
    have hin : i = n := by omega
    subst hin
    refine codeAny_builtin F.entry_set_update_loop ?_
    rw [Around.under_plainId F.plain_set_update_loop _]
    show wpAny _ A.in1 (pyNext (.ref I) >>= _) _ _ s
    refine wpAny_bind (W.done s _ _ hst fun s' hm => ?_)
    show wpAny _ A.in1 (ret Value.none) _ _ s'
    refine wpAny_pure (hR s' (hm.mono hsub) ?_)
    rw [List.drop_eq_nil_of_le (by omega)]
    exact hS.at fun o e => hm.heap S o hSw e
  | succ k ih =>
    intro i s L hk' hi hst hLl hS hR
    have hlt : i < n := by omega
    refine codeAny_builtin F.entry_set_update_loop ?_
    rw [Around.under_plainId F.plain_set_update_loop _]
    show wpAny _ A.in1 (pyNext (.ref I) >>= _) _ _ s
    refine wpAny_bind (W.item i s _ _ hlt hst fun v s' hP hst' hm => ?_)
    obtain ⟨z, hz, hv⟩ := hval i v hP
    have hS' : SK P w s'.heap S L := hS.at fun o e => hm.heap S o hSw e
    show wpAny _ A.in1 (holding [v] (setAdd S v) >>= _) _ _ s'
    refine wpAny_bind (wpAny_holding ?_)
    unfold setAdd
    refine wpAny_holding ?_
    refine wpAny_bind ((mixKind P w).pyHash (k := z) (keyV_is.mpr hv) ?_)
    refine sk_add (s := { s' with toks := s'.toks + 1 }) hS' hv (by omega) fun b h' hsb hS2 => ?_
    have hl2 : (addK L z).length ≤ i + 1 := by
      unfold addK
      split
      · omega
      · rw [List.length_append, List.length_singleton]; omega
    have hd : ks.drop i = z :: ks.drop (i + 1) := by
      obtain ⟨h1, h2⟩ := List.getElem?_eq_some_iff.mp hz
      rw [List.drop_eq_getElem_cons h1, h2]
    refine wpAny_pure ⟨plainId_quiet F.plain_set_update_loop _, ih (i + 1) _ (addK L z) (by omega) hlt (W.frame _ s' _ _ hst' (Nat.le_succ _) fun b hb o e => ?_) hl2 hS2 fun s'' hm'' hS'' => ?_⟩
    · rw [hsb.2 b (fun h : b = S => hSf (by rw [← h]; exact hb))]; exact e
    · rw [hd] at hR
      refine hR s'' (Moved.trans W.gtrans ((hm.mono hsub).then_heap (Nat.le_succ _) fun b o hb e => ?_) hm'') hS''
      rw [hsb.2 b (fun h : b = S => hb (by rw [h]; exact List.mem_cons_self))]; exact e
abbrev newSetO (w : World) : Obj := { cls := .type "set", dict := none, data := .set #[] 0 (.fresh 0 0 (!w.params.followText "set-order")) }
theorem sk_fresh {h : Heap} {a : Addr} (ho : h.get? a = some (newSetO w)) : SK P w h a [] :=
  ⟨_, #[], 0, _, ho, ⟨rfl, rfl, rfl⟩, rfl, (fun e he => by simp at he), (by simp), List.nodup_nil, (by decide), (by rfl), List.Pairwise.nil, by
    show _ ∨ (!w.params.followText "set-order") = true
    cases w.params.followText "set-order"
    · exact .inr rfl
    · exact .inl rfl⟩
set_option maxRecDepth 100000 in
theorem set_shell {v0 : Value} {Q : Value → Shared → Prop} (hh : A.handled = none)
    (h : ∀ A' : Around, A'.handled = none → wpAny (model P w) A' (Builtin.Frozenset.updateFrom "set.__init__" s.heap.objs.size v0) (fun _ s2 => Q (.ref s.heap.objs.size) s2) E { s with heap := s.heap.push (newSetO w) }) :
    wpAny (model P w) A (call (.type "set") [v0]) Q E s := by
  obtain ⟨c, tl, hmro⟩ := F.called_set.mro
  have hmade := F.called_set.made
  have hsub := F.called_set.sub
  refine wpAny_call (codeAny_of_tree ?_)
  show wpAny _ _ (callAny (.type "set") _) _ _ _
  refine wpAny_pure ⟨Code.quiet_builtin _ (by decide +kernel), codeAny_builtin F.entry_type_call ?_⟩
  rw [Around.under_plain (weight_type_call_type "set" [v0] []) rfl]
  have h1 := F.called_set.notType
  have h2 := F.called_set.canCreate
  have hct := F.typeCall_set_1 v0
  repeat (any_goals (first | assumption | wp_step))
  refine codeAny_mono (code_set_led1 v0 (E := E) (Q₁ := fun obj s₁ => obj = .ref s.heap.objs.size ∧ s₁ = { s with heap := s.heap.push (newSetO w) }) ⟨rfl, rfl⟩) fun r s₁ hr => ?_
  cases r with
  | error e => exact hr
  | ok fl =>
    cases fl with
    | ret obj =>
      obtain ⟨rfl, rfl⟩ := hr
      have hS : (s.heap.push (newSetO w)).get? s.heap.objs.size = some (newSetO w) := Heap.get?_push_size _ rfl
      have hT : Shared.TypeIs { s with heap := s.heap.push (newSetO w) } (.ref s.heap.objs.size) "set" := ⟨_, hS, rfl⟩
      have hli := F.called_set.init.lookup
      have hbi := F.called_set.init.bind (.ref s.heap.objs.size)
      repeat (any_goals (first | assumption | wp_step))
      refine codeAny_mono (codeAny_call_builtin (R := wants (fun r s₂ => r = .none ∧ Q (.ref s.heap.objs.size) s₂) E) F.called_set.init.plain F.entry_set_init (check_set_init_1 hT ?_)) fun r₂ s₂ hr₂ => ?_
      · unfold Builtin.«set.__init__» noKeywords
        generalize hU : Builtin.Frozenset.updateFrom = U
        wp_walk
        subst hU
        exact wpAny_mono (h A.in1.in1 hh) (fun _ s2 hq => wpAny_pure ⟨rfl, hq⟩) fun _ _ e => e
      · cases r₂ with
        | error e => exact hr₂
        | ok fl₂ =>
          cases fl₂ with
          | ret r =>
            obtain ⟨rfl, hq⟩ := hr₂
            repeat (any_goals (first | assumption | wp_step))
          | _ => exact hr₂.elim
    | _ => exact hr.elim
theorem any_no {v0 : Value} {T : String} {Q : Bool → Shared → Prop} (hT : s.TypeIs v0 T) (h1 : isSubtype (.type T) (.type "set") = pure false) (h2 : isSubtype (.type T) (.type "frozenset") = pure false) (h : Q false s) : wpAny (model P w) A (Builtin.Frozenset.isAnySet v0) Q E s := by
  unfold Builtin.Frozenset.isAnySet orM
  refine wpAny_bind (wpAny_isInstance hT h1 ?_)
  exact wpAny_isInstance hT h2 h
theorem update_of {v0 : Value} {T : String} {S : Addr} {fp wr : List Addr} {n : Nat} {Pv : Nat → Value → Prop} {St : Nat → Heap → Prop} {ks : List L2.Key} {Q : Unit → Shared → Prop} {it : Obj} (hh : A.handled = none)
    (hT : s.TypeIs v0 T) (h1 : isSubtype (.type T) (.type "set") = pure false) (h2 : isSubtype (.type T) (.type "frozenset") = pure false) (h3 : (Value.type T == Value.type "dict") = false)
    (hit : ∀ Q' : Value → Shared → Prop, Q' (.ref s.heap.objs.size) { s with heap := s.heap.push it } → wpAny (model P w) A (pyIter v0) Q' E s)
    (W : ∀ A' : Around, A'.handled = none → Walks P w A' s.heap.objs.size fp wr n Pv St) (hst : St 0 (s.heap.push it)) (hS : s.heap.get? S = some (newSetO w)) (hSf : S ∉ fp) (hn : n = ks.length) (hb : ks.length + 1 < scanBound) (hval : ∀ i v, Pv i v → ∃ k, ks[i]? = some k ∧ keyV v = some k)
    (h : ∀ h' tk, (∀ b o, b ∉ S :: wr → (s.heap.push it).get? b = some o → h'.get? b = some o) → SK P w h' S (ks.foldl addK []) → Q () { s with heap := h', toks := tk }) :
    wpAny (model P w) A (Builtin.Frozenset.updateFrom "set.__init__" S v0) Q E s := by
  unfold Builtin.Frozenset.updateFrom
  refine wpAny_bind (any_no hT h1 h2 ?_)
  simp only [Bool.false_eq_true, if_false]
  refine wpAny_bind (wpAny_typeOf hT ?_)
  rw [h3]
  simp only [Bool.false_eq_true, if_false]
  refine wpAny_bind (hit _ ?_)
  refine wpAny_bind (wpAny_runValue ?_)
  have hne : S < s.heap.objs.size := Heap.lt_size hS
  refine sk_loop (A := A) ((W A.in1 hh).toS) S hSf ks hn hb hval (n - 0) 0 _ [] rfl (Nat.zero_le _) hst (Nat.zero_le _) (sk_fresh (Heap.get?_push_of_some _ hS)) fun s' hm hS' => ?_
  obtain ⟨h', g2, d', tk', os'⟩ := s'
  have eg : g2 = s.gens := hm.gens
  have ed : d' = s.drawn := hm.drawn
  have eo : os' = s.os := hm.os
  subst eg; subst ed; subst eo
  refine wpAny_pure ?_
  rw [List.drop_zero] at hS'
  exact h h' tk' (fun b o hb e => hm.heap b o hb e) hS'
def KeysV : List Value → List L2.Key → Prop
  | [], [] => True
  | v :: vs, k :: ks => keyV v = some k ∧ KeysV vs ks
  | _, _ => False
theorem KeysV.len : ∀ {vs : List Value} {ks : List L2.Key}, KeysV vs ks → vs.length = ks.length
  | [], [], _ => rfl
  | _ :: vs, _ :: ks, h => by simp [KeysV.len h.2]
  | [], _ :: _, h => h.elim
  | _ :: _, [], h => h.elim
theorem KeysV.get : ∀ {vs : List Value} {ks : List L2.Key}, KeysV vs ks → ∀ (i : Nat) (v : Value), vs[i]? = some v → ∃ k, ks[i]? = some k ∧ keyV v = some k
  | [], [], _, i, v, h => by simp at h
  | w :: vs, k :: ks, h, 0, v, e => by
    simp only [List.getElem?_cons_zero, Option.some.injEq] at e ⊢
    subst e
    exact ⟨k, rfl, h.1⟩
  | _ :: vs, _ :: ks, h, i + 1, v, e => by
    simp only [List.getElem?_cons_succ] at e ⊢
    exact KeysV.get h.2 i v e
  | [], _ :: _, h, _, _, _ => h.elim
  | _ :: _, [], h, _, _, _ => h.elim
theorem set_list {l : Addr} {items : Array Value} {ks : List L2.Key} {Q : Value → Shared → Prop} (hh : A.handled = none) (hl : s.heap.IsList l items) (hk : KeysV items.toList ks) (hb : ks.length + 1 < scanBound)
    (h : ∀ h' tk, (∀ b o, s.heap.get? b = some o → h'.get? b = some o) → SK P w h' s.heap.objs.size (ks.foldl addK []) → Q (.ref s.heap.objs.size) { s with heap := h', toks := tk }) : wpAny (model P w) A (call (.type "set") [.ref l]) Q E s := by
  refine set_shell hh fun A' hh' => ?_
  have hlt : l < s.heap.objs.size := by obtain ⟨ol, hol, _⟩ := id hl; exact Heap.lt_size hol
  have hl1 : (s.heap.push (newSetO w)).IsList l items := hl.push _
  have hsz : (s.heap.push (newSetO w)).objs.size = s.heap.objs.size + 1 := Heap.size_push ..
  have hisz : items.size = ks.length := by have := hk.len; rwa [Array.length_toList] at this
  refine update_of (T := "list") (s := { s with heap := s.heap.push (newSetO w) }) (it := { cls := .type "list_iterator", data := .fields #[.ref l, .int 0 0] }) hh' hl1.typeIs F.sub_list_set F.sub_list_frozenset (by decide) (fun Q' q => wpAny_pyIter_list hl1 q)
    (fun A2 h2 => Walks.list h2 _ l (by rw [hsz]; exact Nat.ne_of_lt (Nat.lt_succ_of_lt hlt)) items) ⟨⟨_, Heap.get?_push_size _ rfl, rfl, rfl⟩, hl1.push _⟩ (Heap.get?_push_size _ rfl) (by
      simp only [List.mem_cons, List.not_mem_nil, or_false, not_or]
      exact ⟨by rw [hsz]; exact Nat.ne_of_lt (Nat.lt_succ_self _), Nat.ne_of_gt hlt⟩) hisz hb (fun i v hv => hk.get i v (by rw [Array.getElem?_toList]; exact hv)) fun h' tk kp hS => ?_
  refine h h' tk (fun b o e => ?_) hS
  have hb0 : b < s.heap.objs.size := Heap.lt_size e
  refine kp b o ?_ (Heap.get?_push_of_some _ (Heap.get?_push_of_some _ e))
  simp only [List.mem_cons, List.not_mem_nil, or_false, not_or]
  exact ⟨Nat.ne_of_lt hb0, by rw [hsz]; exact Nat.ne_of_lt (Nat.lt_succ_of_lt hb0)⟩
theorem set_tup {l : Addr} {items : Array Value} {ks : List L2.Key} {Q : Value → Shared → Prop} (hh : A.handled = none) (hl : s.heap.IsTuple l items) (hk : KeysV items.toList ks) (hb : ks.length + 1 < scanBound)
    (h : ∀ h' tk, (∀ b o, s.heap.get? b = some o → h'.get? b = some o) → SK P w h' s.heap.objs.size (ks.foldl addK []) → Q (.ref s.heap.objs.size) { s with heap := h', toks := tk }) : wpAny (model P w) A (call (.type "set") [.ref l]) Q E s := by
  refine set_shell hh fun A' hh' => ?_
  have hl1 : (s.heap.push (newSetO w)).IsTuple l items := hl.push _
  obtain ⟨ol, hol, hcl, _⟩ := id hl
  have hlt : l < s.heap.objs.size := Heap.lt_size hol
  have hT : Shared.TypeIs { s with heap := s.heap.push (newSetO w) } (.ref l) "tuple" := ⟨ol, Heap.get?_push_of_some _ hol, hcl⟩
  have hsz : (s.heap.push (newSetO w)).objs.size = s.heap.objs.size + 1 := Heap.size_push ..
  have hisz : items.size = ks.length := by have := hk.len; rwa [Array.length_toList] at this
  refine update_of (T := "tuple") (s := { s with heap := s.heap.push (newSetO w) }) (it := { cls := .type "tuple_iterator", data := .fields #[.ref l, .int 0 0] }) hh' hT F.sub_tuple_set F.sub_tuple_frozenset (by decide) (fun Q' q => wpAny_pyIter_tuple hl1 q)
    (fun A2 h2 => Walks.tuple h2 _ l (by rw [hsz]; exact Nat.ne_of_lt (Nat.lt_succ_of_lt hlt)) items) ⟨⟨_, Heap.get?_push_size _ rfl, rfl, rfl⟩, hl1.push _⟩ (Heap.get?_push_size _ rfl) (by
      simp only [List.mem_cons, List.not_mem_nil, or_false, not_or]
      exact ⟨by rw [hsz]; exact Nat.ne_of_lt (Nat.lt_succ_self _), Nat.ne_of_gt hlt⟩) hisz hb (fun i v hv => hk.get i v (by rw [Array.getElem?_toList]; exact hv)) fun h' tk kp hS => ?_
  refine h h' tk (fun b o e => ?_) hS
  have hb0 : b < s.heap.objs.size := Heap.lt_size e
  refine kp b o ?_ (Heap.get?_push_of_some _ (Heap.get?_push_of_some _ e))
  simp only [List.mem_cons, List.not_mem_nil, or_false, not_or]
  exact ⟨Nat.ne_of_lt hb0, by rw [hsz]; exact Nat.ne_of_lt (Nat.lt_succ_of_lt hb0)⟩
theorem set_text {x : Str} {t : Tok} {Q : Value → Shared → Prop} (hh : A.handled = none) (hb : x.length + 1 < scanBound)
    (h : ∀ h' tk, (∀ b o, s.heap.get? b = some o → h'.get? b = some o) → SK P w h' s.heap.objs.size ((x.cps.toList.map fun c => (Sum.inr (⟨#[c]⟩ : Str) : L2.Key)).foldl addK []) → Q (.ref s.heap.objs.size) { s with heap := h', toks := tk }) : wpAny (model P w) A (call (.type "set") [.str x t]) Q E s := by
  refine set_shell hh fun A' hh' => ?_
  have hsz : (s.heap.push (newSetO w)).objs.size = s.heap.objs.size + 1 := Heap.size_push ..
  have hval : ∀ i v, SignAt x i v → ∃ k, (x.cps.toList.map fun c => (Sum.inr (⟨#[c]⟩ : Str) : L2.Key))[i]? = some k ∧ keyV v = some k := fun i v hv => by
    obtain ⟨ch, u, h1, rfl⟩ := hv
    refine ⟨Sum.inr ⟨#[ch]⟩, ?_, rfl⟩
    rw [List.getElem?_map, Array.getElem?_toList, h1]
    rfl
  have hn : x.cps.size = (x.cps.toList.map fun c => (Sum.inr (⟨#[c]⟩ : Str) : L2.Key)).length := by simp
  have hb' : (x.cps.toList.map fun c => (Sum.inr (⟨#[c]⟩ : Str) : L2.Key)).length + 1 < scanBound := by rw [← hn]; exact hb
  have hSf : s.heap.objs.size ∉ [(s.heap.push (newSetO w)).objs.size] := by
    rw [hsz]
    simp only [List.mem_cons, List.not_mem_nil, or_false]
    exact Nat.ne_of_lt (Nat.lt_succ_self _)
  have fin : ∀ (it : Obj) h' tk, (∀ b o, b ∉ [s.heap.objs.size, (s.heap.push (newSetO w)).objs.size] → (((s.heap.push (newSetO w)).push it).get? b = some o → h'.get? b = some o)) → SK P w h' s.heap.objs.size ((x.cps.toList.map fun c => (Sum.inr (⟨#[c]⟩ : Str) : L2.Key)).foldl addK []) → Q (.ref s.heap.objs.size) { s with heap := h', toks := tk } := fun it h' tk kp hS => by
    refine h h' tk (fun b o e => ?_) hS
    have hb0 : b < s.heap.objs.size := Heap.lt_size e
    refine kp b o ?_ (Heap.get?_push_of_some _ (Heap.get?_push_of_some _ e))
    simp only [List.mem_cons, List.not_mem_nil, or_false, not_or]
    exact ⟨Nat.ne_of_lt hb0, by rw [hsz]; exact Nat.ne_of_lt (Nat.lt_succ_of_lt hb0)⟩
  cases ha : x.cps.all (· < 128)
  · exact update_of (T := "str") (s := { s with heap := s.heap.push (newSetO w) }) (it := { cls := .type "str_iterator", data := .fields #[.str x t, .int 0 0] }) hh' (typeIs_str _ _ _) F.sub_str_set F.sub_str_frozenset (by decide) (fun Q' q => wpAny_pyIter_wide ha q)
      (fun A2 h2 => Walks.strWide h2 _ x t) ⟨_, Heap.get?_push_size _ rfl, rfl, rfl⟩ (Heap.get?_push_size _ rfl) hSf hn hb' hval (fin _)
  · exact update_of (T := "str") (s := { s with heap := s.heap.push (newSetO w) }) (it := { cls := .type "str_ascii_iterator", data := .fields #[.str x t, .int 0 0] }) hh' (typeIs_str _ _ _) F.sub_str_set F.sub_str_frozenset (by decide) (fun Q' q => wpAny_pyIter_ascii ha q)
      (fun A2 h2 => Walks.strAscii h2 _ x t) ⟨_, Heap.get?_push_size _ rfl, rfl, rfl⟩ (Heap.get?_push_size _ rfl) hSf hn hb' hval (fin _)
end
end EV
set_option Elab.async false
set_option linter.all false
set_option maxRecDepth 100000
set_option maxHeartbeats 3200000
namespace EV
open PySem PySem.Spec PyProof.Rows L2
def ValD (L : Lay) (A : List Addr) (H : Hp) (v : Value) (d : D) : Prop := ∃ x, RelV x v ∧ Rel L A H d x
theorem each_of {L : Lay} {A : List Addr} {H : Hp} : ∀ {ds : List D} {vs : List V} {us : List Value}, Rels L A H ds vs → Vals vs us → PySem.W.EachIs (ValD L A H) us ds
  | [], vs, us, r, v => by
    simp only [Rels] at r
    subst r; cases v; exact .nil
  | d :: ds, vs, us, r, v => by
    obtain ⟨x, r', e, h1, h2⟩ := (show ∃ v r, _ from by simpa only [Rels] using r)
    subst e
    cases v with
    | cons v1 v2 => exact .cons ⟨x, v1, h1⟩ (each_of h2 v2)
theorem of_each {L : Lay} {A : List Addr} {H : Hp} : ∀ {ds : List D} {us : List Value}, PySem.W.EachIs (ValD L A H) us ds → ∃ vs, Rels L A H ds vs ∧ Vals vs us
  | _, _, .nil => ⟨[], .nil, .nil⟩
  | _, _, .cons ⟨x, h1, h2⟩ t => by
    obtain ⟨vs, r, v⟩ := of_each t
    exact ⟨x :: vs, .cons h2 r, .cons h1 v⟩
mutual
theorem reads_in {h : Heap} : ∀ {v : Value} {d : PyData} {as : List Addr}, Reads h v d as → ∀ a ∈ as, ∃ o, h.get? a = some o
  | _, _, _, .none, a, m => by simp at m
  | _, _, _, .bool _, a, m => by simp at m
  | _, _, _, .int _ _, a, m => by simp at m
  | _, _, _, .str _ _, a, m => by simp at m
  | _, _, _, .list h1 h2 h3 h4, a, m => by
    rcases List.mem_cons.mp m with rfl | m
    · exact ⟨_, h1⟩
    · exact readsAll_in h4 a m
  | _, _, _, .tuple h1 h2 h3 h4, a, m => readsAll_in h4 a m
  | _, _, _, .dict h1 h2 h3 h4 h5, a, m => by
    rcases List.mem_append.mp m with m | m
    · rcases List.mem_cons.mp m with rfl | m
      · exact ⟨_, h1⟩
      · exact readsAll_in h4 a m
    · exact readsAll_in h5 a m
theorem readsAll_in {h : Heap} : ∀ {vs : List Value} {ds : List PyData} {as : List Addr}, ReadsAll h vs ds as → ∀ a ∈ as, ∃ o, h.get? a = some o
  | _, _, _, .nil, a, m => by simp at m
  | _, _, _, .cons h1 h2, a, m => by
    rcases List.mem_append.mp m with m | m
    · exact reads_in h1 a m
    · exact readsAll_in h2 a m
end
section
variable {c : Cf} {N : List Str} {X : Cx} {sc : Sc} {W : XK} {a b d e : E} {x y w : Expr} {pos : Pos}
theorem each_reads {pins : List (Addr × Obj)} {σ : L2.St} {H : Hp} {s : Shared} {z : List Addr} {A : List Addr} (I : Inv X pins σ H s) : ∀ {ds : List D} {us : List Value}, PySem.W.EachIs (ValD (c.lay X.K z) A H) us ds → (∀ d ∈ ds, datN 12 d = true) → PySem.W.EachIs (fun v d => ∃ as, Reads s.heap v (pd d) as) us ds
  | _, _, .nil, _ => .nil
  | _, _, .cons ⟨x, h1, h2⟩ t, h => .cons (Dp.reads I _ _ _ (dp_of 12 (h _ List.mem_cons_self) h2.w) h1) (each_reads I t fun d m => h d (List.mem_cons_of_mem _ m))
def rSo (c : Cf) (K : PySem.W.Frag) (W : XK) (m : Bool) : List V → Hp → VK → Prop := fun vs H Q => ∃ z A S d x1, vs = [x1] ∧ Cells (c.lay K z) A S H ∧ Rel (c.lay K z) A H d x1 ∧ Post (c.lay K z) W A H (Rel (c.lay K z)) (match srcOf (view S d) with
  | some xs => (match sortD xs with
    | some xs => if xs.length ≤ line then alloc m xs S else .no
    | none => .no)
  | none => .no) Q
theorem dk_val {L : Lay} {A : List Addr} {H : Hp} {k : DK} {v : Value} (h : keyIs (dkK k) v = true) : ValD L A H v (dkD k) := by
  cases k with
  | int i => exact ⟨_, keyIs_rel h, rel_int⟩
  | str t => exact ⟨_, keyIs_rel h, rel_str⟩
theorem dk_reads {h : Heap} {a : Addr} {k : DK} {v : Value} (hk : keyIs (dkK k) v = true) : ∃ as, Reads h v (pd (dkD k)) as ∧ a ∉ as := by
  have r := keyIs_rel hk
  cases k with
  | int i => obtain ⟨t, rfl⟩ := (show ∃ t, v = Value.int i t from r); exact ⟨[], .int _ _, by simp⟩
  | str x => obtain ⟨t, rfl⟩ := (show ∃ t, v = Value.str (SS x) t from r); exact ⟨[], .str _ _, by simp⟩
theorem each_at {α β : Type} {R : α → β → Prop} : ∀ {as : List α} {bs : List β}, as.length = bs.length → (∀ (j : Nat) a b, as[j]? = some a → bs[j]? = some b → R a b) → PySem.W.EachIs R as bs
  | [], [], _, _ => .nil
  | [], _ :: _, h, _ => by simp at h
  | _ :: _, [], h, _ => by simp at h
  | a :: as, b :: bs, h, f => .cons (f 0 a b rfl rfl) (each_at (by simpa using h) fun j x y h1 h2 => f (j + 1) x y (by simpa using h1) (by simpa using h2))
theorem each_mapR {α β γ : Type} {R : α → β → Prop} {T : α → γ → Prop} {f : β → γ} (k : ∀ a b, R a b → T a (f b)) : ∀ {as : List α} {bs : List β}, PySem.W.EachIs R as bs → PySem.W.EachIs T as (bs.map f)
  | _, _, .nil => .nil
  | _, _, .cons h t => .cons (k _ _ h) (each_mapR k t)
theorem signs_vals {x : Str} : ∀ (n : Nat) {its : List Value}, its.length = n → (∀ (i : Nat) v, its[i]? = some v → ∃ ch u, x.cps[i]? = some ch ∧ v = Value.str ⟨#[ch]⟩ u) → n ≤ x.cps.size → Vals ((x.cps.toList.take n).map fun ch => V.str ⟨#[ch]⟩) its := by
  intro n its hl hp hn
  refine vals_of_at ?_ fun j y u hy hu => ?_
  · simp only [List.length_map, List.length_take, Array.length_toList]; omega
  · obtain ⟨ch, t, h1, rfl⟩ := hp j u hu
    have hj : j < n := by rw [← hl]; exact (List.getElem?_eq_some_iff.mp hu).1
    rw [List.getElem?_map, List.getElem?_take_of_lt hj, Array.getElem?_toList, h1] at hy
    cases hy
    exact ⟨t, rfl⟩
theorem rels_signs {L : Lay} {A : List Addr} {H : Hp} : ∀ t : List Nat, Rels L A H (t.map fun ch => D.str [ch]) (t.map fun ch => V.str (SS [ch]))
  | [] => .nil
  | ch :: t => .cons rel_str (rels_signs t)
theorem cr_sortE (g : Good c N X sc W) {m : Bool} : CallR X (.builtin "sorted") (rSo c X.K W m) := by
  intro pins s σ H vs us Q I r ⟨z, A, S, d, x1, e0, hc, rd, p⟩
  subst e0
  have wd := view_rel hc rd
  cases hv : view S d with
  | lst xs =>
    rw [hv] at p wd
    have p : Post (c.lay X.K z) W A H (Rel (c.lay X.K z)) (match sortD xs with
      | some xs => if xs.length ≤ line then alloc m xs S else .no
      | none => .no) Q := p
    cases hs : sortD xs with
    | none => rw [hs] at p; exact p.elim
    | some ys =>
      rw [hs] at p
      have p : Post (c.lay X.K z) W A H (Rel (c.lay X.K z)) (if ys.length ≤ line then alloc m ys S else .no) Q := p
      split at p
      · rename_i hlen
        unfold sortD at hs
        split at hs
        · rename_i hok
          cases hs
          obtain ⟨hd, f1, f2, f3⟩ := sort_facts hok
          obtain ⟨l, vs2, rfl, q, rs⟩ := wd
          obtain ⟨u, rfl, ru⟩ := Vals.one r
          cases (show u = Value.ref l from ru)
          obtain ⟨its, rv, pl, hz⟩ := I.list q
          have e1 := each_of rs rv
          refine PySem.W.sorted_data (enc := pd) pl.isList e1 (each_reads I e1 hd) f1 f2 (by rw [rs.len]; exact hz) (fun b mb => by have := depth_12 (hd b mb); have := g.room.un; omega) fun out hl ho => ?_
          rw [f3] at ho
          obtain ⟨vs3, rs3, rv3⟩ := of_each ho
          obtain ⟨e, he⟩ := PyProof.Rows.sortedAll_at s.heap its out.toArray
          have hp : H (s.heap.objs.size + 1) = none := I.hok.fresh (Nat.le_succ _)
          have hl3 : vs3.length ≤ sizeLine := by rw [← rs3.len, ← line_eq]; exact hlen
          exact ⟨.ref (s.heap.objs.size + 1), _, I.laid (a := s.heap.objs.size + 1) (o := .lst vs3) (t' := s.toks) (fun b o q => PyProof.Rows.sortedAll_old q) (Nat.le_succ _) (show ObjOk X.prog X.w _ _ _ (.lst vs3) from ⟨hl3, out, e, rv3, he⟩), rfl, post_alloc p hc rs3 hp⟩
        · cases hs
      · exact p.elim
  | dct ks ds =>
    rw [hv] at p wd
    have p : Post (c.lay X.K z) W A H (Rel (c.lay X.K z)) (match sortD (ks.map dkD) with
      | some xs => if xs.length ≤ line then alloc m xs S else .no
      | none => .no) Q := p
    cases hs : sortD (ks.map dkD) with
    | none => rw [hs] at p; exact p.elim
    | some ys =>
      rw [hs] at p
      have p : Post (c.lay X.K z) W A H (Rel (c.lay X.K z)) (if ys.length ≤ line then alloc m ys S else .no) Q := p
      split at p
      · rename_i hlen
        unfold sortD at hs
        split at hs
        · rename_i hok
          cases hs
          obtain ⟨hd, f1, f2, f3⟩ := sort_facts hok
          obtain ⟨l, xs, rfl, hH, hlk, nd, rs⟩ := wd
          obtain ⟨u, rfl, ru⟩ := Vals.one r
          cases (show u = Value.ref l from ru)
          obtain ⟨z0, lo, vs, rel, dd⟩ := dk_rd I.hok hH
          obtain ⟨ep, hat⟩ := dd.dictAt
          have hkeys : vs.map (·.1) = ks.map dkK := by
            rw [← rel.keys, List.map_fst_zip (by rw [List.length_map, hlk]; exact Nat.le_refl _)]
          have hl : vs.length = ks.length := by
            have e := congrArg List.length hkeys
            rw [List.length_map, List.length_map] at e
            exact e
          have hks : ks.length ≤ sizeLine := by
            rw [← line_eq]
            have : (List.mergeSort (ks.map dkD) leD).length = ks.length := by simp
            rw [← this]; exact hlen
          have h16 : vs.length ≤ sizeLine := by rw [hl]; exact hks
          refine Calls.call_function_entry PyProof.Rows.kind_sorted PyProof.Rows.plain_sorted PyProof.Rows.entry_sorted (PyProof.Rows.args_sorted1 _) ?_
          unfold Builtin.«sorted»
          refine wpAny_bind (m := checkCount "sorted" 1 1 _) (wpAny_pure ?_)
          refine wpAny_bind (PySem.W.kdu_collect (A := X.A.in1) (PySem.W.kdl_dict (knd := mixKind X.prog X.w) (kvs := vs) (ep := ep) lo) (I.ok.hd g.calm) hat h16 fun h' tk acc hk hacc => ?_)
          have hal : acc.toList.length = ks.length := by rw [Array.length_toList, hacc.1, hl]
          have hE : PySem.W.EachIs (fun (v : Value) (k : DK) => keyIs (dkK k) v = true) acc.toList ks := each_at hal fun j v k e1 e2 => by
            obtain ⟨k', x', e3, e4⟩ := hacc.2 j v (by rw [← Array.getElem?_toList]; exact e1)
            have e5 : (vs.map (·.1))[j]? = some k' := by rw [List.getElem?_map, e3]; rfl
            rw [hkeys, List.getElem?_map, e2] at e5
            cases e5
            exact e4
          have I1 : Inv X pins σ H { s with heap := h', toks := tk } := I.kept hk
          refine wpAny_bind (wpAny_newList ?_ (by rw [hal]; exact hks))
          have hoL : (h'.push (seqObj "list" acc.toList.toArray 0)).get? h'.objs.size = some (seqObj "list" acc.toList.toArray 0) := Heap.get?_push_size _ rfl
          show wpAny _ _ _ _ _ { s with heap := h'.push (seqObj "list" acc.toList.toArray 0), toks := tk }
          have eD : PySem.W.EachIs (ValD (c.lay X.K z) A H) acc.toList (ks.map dkD) := each_mapR (fun v k h => dk_val h) hE
          have eR : PySem.W.EachIs (fun v d => ∃ as, Reads (h'.push (seqObj "list" acc.toList.toArray 0)) v (pd d) as ∧ h'.objs.size ∉ as) acc.toList (ks.map dkD) := each_mapR (T := fun v d => ∃ as, Reads (h'.push (seqObj "list" acc.toList.toArray 0)) v (pd d) as ∧ h'.objs.size ∉ as) (f := dkD) (fun v k h => dk_reads h) hE
          refine wpAny_bind (wpAny_holding (PySem.W.list_sort_data (enc := pd) (s := { s with heap := h'.push (seqObj "list" acc.toList.toArray 0), toks := tk }) hoL eD eR f1 f2 (by rw [List.length_map]; exact hks) (fun b mb => by have := depth_12 (hd b mb); have := g.room.un; show X.A.units + 1 + 1 + _ < _; omega) fun out ho hO => ?_))
          rw [f3] at hO
          obtain ⟨vs3, rs3, rv3⟩ := of_each hO
          obtain ⟨e', he'⟩ := PyProof.Rows.sortedHeap_at (vs := acc.toList) (out := out.toArray) hoL
          have hl3 : vs3.length ≤ sizeLine := by rw [← rs3.len, ← line_eq]; exact hlen
          refine wpAny_pure ⟨_, rfl, .ref h'.objs.size, upd H h'.objs.size (.lst vs3), I1.laid (t' := tk) (fun b u e => ?_) (Nat.le_refl _)
            (show ObjOk X.prog X.w _ _ _ (.lst vs3) from ⟨hl3, out, e', rv3, he'⟩), rfl, post_alloc p hc rs3 (I1.hok.fresh (Nat.le_refl _))⟩
          have hb : b < h'.objs.size := Heap.lt_size e
          rw [PyProof.Rows.sortedHeap_old (Nat.ne_of_lt hb) (by rw [size_push']; exact Nat.lt_succ_of_lt hb)]
          exact Heap.get?_push_of_some _ e
        · cases hs
      · exact p.elim
  | tup xs =>
    rw [hv] at p wd
    have p : Post (c.lay X.K z) W A H (Rel (c.lay X.K z)) (match sortD xs with
      | some xs => if xs.length ≤ line then alloc m xs S else .no
      | none => .no) Q := p
    cases hs : sortD xs with
    | none => rw [hs] at p; exact p.elim
    | some ys =>
      rw [hs] at p
      have p : Post (c.lay X.K z) W A H (Rel (c.lay X.K z)) (if ys.length ≤ line then alloc m ys S else .no) Q := p
      split at p
      · rename_i hlen
        unfold sortD at hs
        split at hs
        · rename_i hok
          cases hs
          obtain ⟨hd, f1, f2, f3⟩ := sort_facts hok
          obtain ⟨l, vs2, rfl, q, rs⟩ := wd
          obtain ⟨u, rfl, ru⟩ := Vals.one r
          cases (show u = Value.ref l from ru)
          obtain ⟨its, rv, ht, hz⟩ := I.tuple q.t
          have e1 := each_of rs rv
          have hal : its.length = xs.length := by rw [rs.len]; exact (Vals.length rv).symm
          have hxl : xs.length ≤ sizeLine := by
            rw [← line_eq]
            have : (List.mergeSort xs leD).length = xs.length := by simp
            rw [← this]; exact hlen
          obtain ⟨o, ho, hc2, n2, hd2⟩ := ht
          refine Calls.call_function_entry PyProof.Rows.kind_sorted PyProof.Rows.plain_sorted PyProof.Rows.entry_sorted (PyProof.Rows.args_sorted1 _) ?_
          unfold Builtin.«sorted»
          refine wpAny_bind (m := checkCount "sorted" 1 1 _) (wpAny_pure ?_)
          refine wpAny_bind (wpAny_collect_seq (A := X.A.in1) l (.inr rfl) ho hc2 hd2 (fun h' kp => ?_) (by rw [List.size_toArray, hal]; exact hxl))
          have I1 : Inv X pins σ H { s with heap := h' } := I.kept (t' := s.toks) kp
          rw [show its.toArray.toList = its from rfl]
          refine wpAny_bind (wpAny_newList ?_ (by rw [hal]; exact hxl))
          have hoL : (h'.push (seqObj "list" its.toArray 0)).get? h'.objs.size = some (seqObj "list" its.toArray 0) := Heap.get?_push_size _ rfl
          show wpAny _ _ _ _ _ { s with heap := h'.push (seqObj "list" its.toArray 0) }
          have eR : PySem.W.EachIs (fun v d => ∃ as, Reads (h'.push (seqObj "list" its.toArray 0)) v (pd d) as ∧ h'.objs.size ∉ as) its xs := by
            refine (each_reads I e1 hd).mono fun v d ⟨as, r⟩ => ⟨as, PyProof.Rows.Reads.keeps (fun b o q => Heap.get?_push_of_some _ (kp b o q)) r, fun hm => ?_⟩
            obtain ⟨o2, ho2⟩ := reads_in r _ hm
            exact Nat.lt_irrefl _ (Heap.lt_size (kp _ _ ho2))
          refine wpAny_bind (wpAny_holding (PySem.W.list_sort_data (enc := pd) (s := { s with heap := h'.push (seqObj "list" its.toArray 0) }) hoL e1 eR f1 f2 hxl (fun b mb => by have := depth_12 (hd b mb); have := g.room.un; show X.A.units + 1 + 1 + _ < _; omega) fun out ho hO => ?_))
          rw [f3] at hO
          obtain ⟨vs3, rs3, rv3⟩ := of_each hO
          obtain ⟨e', he'⟩ := PyProof.Rows.sortedHeap_at (vs := its) (out := out.toArray) hoL
          have hl3 : vs3.length ≤ sizeLine := by rw [← rs3.len, ← line_eq]; exact hlen
          refine wpAny_pure ⟨_, rfl, .ref h'.objs.size, upd H h'.objs.size (.lst vs3), I1.laid (t' := s.toks) (fun b u e => ?_) (Nat.le_refl _)
            (show ObjOk X.prog X.w _ _ _ (.lst vs3) from ⟨hl3, out, e', rv3, he'⟩), rfl, post_alloc p hc rs3 (I1.hok.fresh (Nat.le_refl _))⟩
          have hb : b < h'.objs.size := Heap.lt_size e
          rw [PyProof.Rows.sortedHeap_old (Nat.ne_of_lt hb) (by rw [size_push']; exact Nat.lt_succ_of_lt hb)]
          exact Heap.get?_push_of_some _ e
        · cases hs
      · exact p.elim
  | str t =>
    rw [hv] at p wd
    have p : Post (c.lay X.K z) W A H (Rel (c.lay X.K z)) (match sortD (t.map fun c => D.str [c]) with
      | some xs => if xs.length ≤ line then alloc m xs S else .no
      | none => .no) Q := p
    cases hs : sortD (t.map fun c => D.str [c]) with
    | none => rw [hs] at p; exact p.elim
    | some ys =>
      rw [hs] at p
      have p : Post (c.lay X.K z) W A H (Rel (c.lay X.K z)) (if ys.length ≤ line then alloc m ys S else .no) Q := p
      split at p
      · rename_i hlen
        unfold sortD at hs
        split at hs
        · rename_i hok
          cases hs
          obtain ⟨hd, f1, f2, f3⟩ := sort_facts hok
          rw [wd.str] at r
          obtain ⟨u, rfl, tk, rfl⟩ := Vals.one r
          have htl : t.length ≤ sizeLine := by
            rw [← line_eq]
            have : (List.mergeSort (t.map fun c => D.str [c]) leD).length = t.length := by simp
            rw [← this]; exact hlen
          have hzz : (SS t).cps.size ≤ sizeLine := by simpa [SS] using htl
          refine Calls.call_function_entry PyProof.Rows.kind_sorted PyProof.Rows.plain_sorted PyProof.Rows.entry_sorted (PyProof.Rows.args_sorted1 _) ?_
          unfold Builtin.«sorted»
          refine wpAny_bind (m := checkCount "sorted" 1 1 _) (wpAny_pure ?_)
          refine wpAny_bind (wpAny_collect_str (A := X.A.in1) g.room.hd (SS t) tk (fun s1 acc kp e1 e2 e3 hacc => ?_) hzz)
          obtain ⟨ha1, ha2⟩ := hacc
          have hvals : Vals (t.map fun ch => V.str (SS [ch])) acc.toList := by
            have := signs_vals (x := SS t) (SS t).cps.size (its := acc.toList) (by rw [Array.length_toList]; exact ha1) (fun i v hv => by
              rw [Array.getElem?_toList] at hv
              exact ha2 i v hv) (Nat.le_refl _)
            simpa [SS] using this
          have hal : acc.toList.length = t.length := by
            rw [Array.length_toList, ha1]; simp [SS]
          have es : s1 = { s with heap := s1.heap, toks := s1.toks } := by
            cases s1; cases s
            simp_all
          rw [es]
          generalize s1.heap = h' at kp ⊢
          generalize s1.toks = tk'
          have I1 : Inv X pins σ H { s with heap := h', toks := tk' } := I.kept kp
          refine wpAny_bind (wpAny_newList ?_ (by rw [hal]; exact htl))
          have hoL : (h'.push (seqObj "list" acc.toList.toArray 0)).get? h'.objs.size = some (seqObj "list" acc.toList.toArray 0) := Heap.get?_push_size _ rfl
          show wpAny _ _ _ _ _ { s with heap := h'.push (seqObj "list" acc.toList.toArray 0), toks := tk' }
          have eD : PySem.W.EachIs (ValD (c.lay X.K z) A H) acc.toList (t.map fun c => D.str [c]) := each_of (rels_signs t) hvals
          have eR : PySem.W.EachIs (fun v d => ∃ as, Reads (h'.push (seqObj "list" acc.toList.toArray 0)) v (pd d) as ∧ h'.objs.size ∉ as) acc.toList (t.map fun c => D.str [c]) := by
            refine each_at (by rw [hal, List.length_map]) fun j v d e1 e2 => ?_
            rw [Array.getElem?_toList] at e1
            obtain ⟨ch, u2, h1, rfl⟩ := ha2 j v e1
            rw [List.getElem?_map, Option.map_eq_some_iff] at e2
            obtain ⟨c2, h2, rfl⟩ := e2
            have : ch = c2 := by
              have e5 : (SS t).cps[j]? = t[j]? := by simp [SS]
              rw [e5, h2] at h1
              exact (Option.some.inj h1).symm
            subst this
            exact ⟨[], .str _ _, by simp⟩
          refine wpAny_bind (wpAny_holding (PySem.W.list_sort_data (enc := pd) (s := { s with heap := h'.push (seqObj "list" acc.toList.toArray 0), toks := tk' }) hoL eD eR f1 f2 (by rw [List.length_map]; exact htl) (fun b mb => by have := depth_12 (hd b mb); have := g.room.un; show X.A.units + 1 + 1 + _ < _; omega) fun out ho hO => ?_))
          rw [f3] at hO
          obtain ⟨vs3, rs3, rv3⟩ := of_each hO
          obtain ⟨e', he'⟩ := PyProof.Rows.sortedHeap_at (vs := acc.toList) (out := out.toArray) hoL
          have hl3 : vs3.length ≤ sizeLine := by rw [← rs3.len, ← line_eq]; exact hlen
          refine wpAny_pure ⟨_, rfl, .ref h'.objs.size, upd H h'.objs.size (.lst vs3), I1.laid (t' := tk') (fun b u e => ?_) (Nat.le_refl _)
            (show ObjOk X.prog X.w _ _ _ (.lst vs3) from ⟨hl3, out, e', rv3, he'⟩), rfl, post_alloc p hc rs3 (I1.hok.fresh (Nat.le_refl _))⟩
          have hb : b < h'.objs.size := Heap.lt_size e
          rw [PyProof.Rows.sortedHeap_old (Nat.ne_of_lt hb) (by rw [size_push']; exact Nat.lt_succ_of_lt hb)]
          exact Heap.get?_push_of_some _ e
        · cases hs
      · exact p.elim
  | _ => rw [hv] at p; exact (show False from p).elim
theorem s_sorted (g : Good c N X sc W) {m : Bool} {p' : Pos} (hg : Gl X "sorted") (hs : isStar x = false) (ha : okE c X W a x) : okE c X W (.sorted m a) (.Call (.Name "sorted" p') [x] [] pos) := by
  refine PE.mono (pe_callB (cr_sortE (W := W) (m := m) g) hg (g.fs.free _ (by decide)) (by decide +kernel) (pa_cons ha pa_nil (starEach_cons hs)) (by decide) (by decide) (starEach_cons hs) rfl) fun σ H Q ⟨z, A, S, v, hv, hc, h⟩ => ?_
  simp only [ev] at h
  obtain ⟨z', A', S', v', hv', hc', p⟩ := tR_bind (rel := Rel) hv hc h
  exact ⟨z', A', S', v', hv', hc', p.imp fun x1 H1 ⟨A1, S1, d1, g1, e1, c1, r1, p1⟩ => ⟨z, A1, S1, d1, x1, rfl, c1, r1, p1⟩⟩
end
end EV
set_option Elab.async false
set_option linter.all false
set_option maxRecDepth 100000
set_option maxHeartbeats 3200000
namespace EV
open PySem PySem.Spec PyProof.Rows L2
def rkD : D → Nat
  | .int _ => 0 | .str _ => 1
  | _ => 2
def kI : D → Int
  | .int i => i
  | _ => 0
def kS : D → List Nat
  | .str s => s
  | _ => []
def LeK (a b : D) : Prop := rkD a < rkD b ∨ (rkD a = rkD b ∧ (kI a < kI b ∨ (kI a = kI b ∧ ¬ kS b < kS a)))
instance (a b : D) : Decidable (LeK a b) := by unfold LeK; infer_instance
theorem lex_tr {a b c : List Nat} (h1 : ¬ b < a) (h2 : ¬ c < b) : ¬ c < a := by
  rw [List.not_lt] at *
  exact List.le_trans h1 h2
theorem LeK.trans {a b c : D} (h1 : LeK a b) (h2 : LeK b c) : LeK a c := by
  unfold LeK at *
  rcases h1 with h1 | ⟨h1, h1' | ⟨h1', h1''⟩⟩ <;> rcases h2 with h2 | ⟨h2, h2' | ⟨h2', h2''⟩⟩
  · left; omega
  · left; omega
  · left; omega
  · left; omega
  · right; exact ⟨by omega, by left; omega⟩
  · right; exact ⟨by omega, by left; omega⟩
  · left; omega
  · right; exact ⟨by omega, by left; omega⟩
  · right; exact ⟨by omega, by right; exact ⟨by omega, lex_tr h1'' h2''⟩⟩
theorem LeK.total (a b : D) : LeK a b ∨ LeK b a := by
  unfold LeK
  rcases Nat.lt_trichotomy (rkD a) (rkD b) with h | h | h
  · exact .inl (.inl h)
  · rcases Int.lt_trichotomy (kI a) (kI b) with k | k | k
    · exact .inl (.inr ⟨h, .inl k⟩)
    · by_cases q : kS b < kS a
      · refine .inr (.inr ⟨h.symm, .inr ⟨k.symm, fun z => ?_⟩⟩)
        exact List.lt_irrefl _ (List.lt_trans q z)
      · exact .inl (.inr ⟨h, .inr ⟨k, q⟩⟩)
    · exact .inr (.inr ⟨h.symm, .inl k⟩)
  · exact .inr (.inl h)
theorem LeK.anti {a b : D} (ha : keyD a = true) (hb : keyD b = true) (h1 : LeK a b) (h2 : LeK b a) : a = b := by
  unfold LeK at *
  have e1 : rkD a = rkD b := by omega
  have e2 : kI a = kI b := by omega
  have e3 : kS a = kS b := by
    have q1 : ¬ kS b < kS a := by rcases h1 with h | ⟨_, h | ⟨_, h⟩⟩ <;> first | exact h | omega
    have q2 : ¬ kS a < kS b := by rcases h2 with h | ⟨_, h | ⟨_, h⟩⟩ <;> first | exact h | omega
    rw [List.not_lt] at q1 q2
    exact List.le_antisymm q1 q2
  cases a <;> cases b <;> simp_all [keyD, rkD, kI, kS]
theorem le_keys {a b : D} (ha : keyD a = true) (hb : keyD b = true) (h : alikeD a b = true) : leD a b = decide (LeK a b) := by
  cases a <;> cases b <;> first
    | (exfalso; simp [keyD] at ha; done)
    | (exfalso; simp [keyD] at hb; done)
    | (exfalso; simp [alikeD] at h; done)
    | skip
  · rename_i i j
    simp only [leD, ltD, LeK, rkD, kI, kS]
    by_cases q : j < i
    · simp [q]; omega
    · simp [q]; omega
  · rename_i i j
    simp only [leD, ltD, LeK, rkD, kI, kS]
    by_cases q : j < i
    · simp [q]
    · simp [q]
theorem sort_perm {xs ys : List D} (hk : ∀ d ∈ xs, keyD d = true) (ha : ∀ d ∈ xs, ∀ e ∈ xs, alikeD d e = true) (p : ys.Perm xs) : ys.mergeSort leD = xs.mergeSort leD := by
  have hk2 : ∀ d ∈ ys, keyD d = true := fun d m => hk d (p.mem_iff.mp m)
  rw [merge_congr (r := leD) (t := fun a b => decide (LeK a b)) (l := ys) fun a ma b mb => le_keys (hk2 a ma) (hk2 b mb) (ha a (p.mem_iff.mp ma) b (p.mem_iff.mp mb)),
    merge_congr (r := leD) (t := fun a b => decide (LeK a b)) (l := xs) fun a ma b mb => le_keys (hk a ma) (hk b mb) (ha a ma b mb)]
  have tr : ∀ a b c : D, decide (LeK a b) = true → decide (LeK b c) = true → decide (LeK a c) = true := fun a b c h1 h2 => by
    rw [decide_eq_true_eq] at *
    exact h1.trans h2
  have tot : ∀ a b : D, (decide (LeK a b) || decide (LeK b a)) = true := fun a b => by
    rw [Bool.or_eq_true, decide_eq_true_eq, decide_eq_true_eq]
    exact LeK.total a b
  refine List.Perm.eq_of_pairwise (le := fun a b => decide (LeK a b) = true) (fun a b ma mb h1 h2 => ?_) (List.pairwise_mergeSort tr tot ys) (List.pairwise_mergeSort tr tot xs) (((List.mergeSort_perm ys _).trans p).trans (List.mergeSort_perm xs _).symm)
  rw [decide_eq_true_eq] at h1 h2
  exact LeK.anti (hk2 a ((List.mergeSort_perm ys _).mem_iff.mp ma)) (hk b ((List.mergeSort_perm xs _).mem_iff.mp mb)) h1 h2
def kD : L2.Key → D
  | .inl i => .int i
  | .inr x => .str x.cps.toList
def dK : D → Option L2.Key
  | .int i => some (.inl i)
  | .str s => some (.inr (SS s))
  | _ => none
theorem kD_dK {d : D} {k : L2.Key} (h : dK d = some k) : kD k = d := by
  cases d <;> simp only [dK, Option.some.injEq, reduceCtorEq] at h <;> subst h <;> rfl
theorem dK_kD (k : L2.Key) : dK (kD k) = some k := by
  cases k with
  | inl i => rfl
  | inr x => show some (Sum.inr (SS x.cps.toList)) = _; rw [SS_tl]
theorem keyD_kD (k : L2.Key) : keyD (kD k) = true := by cases k <;> rfl
theorem dK_some {d : D} (h : keyD d = true) : ∃ k, dK d = some k := by cases d <;> simp [keyD] at h <;> exact ⟨_, rfl⟩
theorem kD_inj {a b : L2.Key} (h : kD a = kD b) : a = b := by
  have := congrArg dK h
  rw [dK_kD, dK_kD] at this
  exact Option.some.inj this
theorem eqD_kD (a b : L2.Key) : eqD (kD a) (kD b) = decide (a = b) := by
  have e : eqD (kD a) (kD b) = decide (kD a = kD b) := by
    cases a <;> cases b <;> simp [kD, eqD]
  rw [e]
  by_cases h : a = b
  · subst h; simp
  · rw [decide_eq_false h, decide_eq_false fun z => h (kD_inj z)]
theorem add_map (L : List L2.Key) (k : L2.Key) : (addK L k).map kD = addD (L.map kD) (kD k) := by
  unfold addK addD
  have e : (L.map kD).any (fun x => eqD x (kD k)) = hasK L k := by
    unfold hasK
    rw [List.any_map]
    congr 1
    funext x
    exact eqD_kD x k
  rw [e]
  split
  · rfl
  · rw [List.map_append]; rfl
theorem fold_map : ∀ (ks L : List L2.Key), (ks.foldl addK L).map kD = (ks.map kD).foldl addD (L.map kD)
  | [], L => rfl
  | k :: ks, L => by
    rw [List.foldl_cons, List.map_cons, List.foldl_cons, fold_map ks, add_map]
theorem nub_keys {xs : List D} (h : xs.all keyD = true) : ∃ ks : List L2.Key, xs = ks.map kD ∧ (ks.foldl addK []).map kD = nubD xs := by
  have h1 : ∃ ks : List L2.Key, xs = ks.map kD := by
    induction xs with
    | nil => exact ⟨[], rfl⟩
    | cons x xs ih =>
      rw [List.all_cons, Bool.and_eq_true] at h
      obtain ⟨ks, e⟩ := ih h.2
      obtain ⟨k, hk⟩ := dK_some h.1
      exact ⟨k :: ks, by rw [List.map_cons, kD_dK hk, e]⟩
  obtain ⟨ks, e⟩ := h1
  exact ⟨ks, e, by rw [fold_map, e]; rfl⟩
theorem fold_len : ∀ (ks L : List L2.Key), (ks.foldl addK L).length ≤ L.length + ks.length
  | [], L => by simp
  | k :: ks, L => by
    rw [List.foldl_cons]
    have h1 := fold_len ks (addK L k)
    have h2 : (addK L k).length ≤ L.length + 1 := by
      unfold addK
      split
      · omega
      · simp
    simp only [List.length_cons]
    omega
end EV
set_option Elab.async false
set_option linter.all false
set_option maxRecDepth 100000
set_option maxHeartbeats 3200000
namespace EV
open PySem PySem.Spec PyProof.Rows L2
def SetH (P : Program) (w : World) (a : Addr) (L : List L2.Key) : HO := .ext fun h => SK P w h a L
theorem setH_new {P : Program} {w : World} {H : Hp} {h : Heap} {a : Addr} {L : List L2.Key} (R : SK P w h a L) : ObjOk P w H h a (SetH P w a L) := by
  have ⟨o, _, _, _, ho, _⟩ := R
  exact ⟨R, ⟨o, ho⟩, fun h1 h2 p k => SK.at p k⟩
theorem setH_get {X : Cx} {pins : List (Addr × Obj)} {σ : L2.St} {H : Hp} {s : Shared} {a : Addr} {L : List L2.Key} (I : Inv X pins σ H s) (ha : H a = some (SetH X.prog X.w a L)) : SK X.prog X.w s.heap a L := (I.hok a _ ha).1
theorem keysV_of {L : Lay} {A : List Addr} {H : Hp} : ∀ {ks : List L2.Key} {vs : List V} {us : List Value}, Rels L A H (ks.map kD) vs → Vals vs us → KeysV us ks
  | [], vs, us, r, v => by
    simp only [List.map_nil, Rels] at r
    subst r; cases v; exact trivial
  | k :: ks, vs, us, r, v => by
    obtain ⟨x, r', e, h1, h2⟩ := (show ∃ v r, _ from by simpa only [List.map_cons, Rels] using r)
    subst e
    cases v with
    | cons v1 v2 =>
      refine ⟨?_, keysV_of h2 v2⟩
      cases k with
      | inl i =>
        rw [show x = V.int i from h1.w.int] at v1
        obtain ⟨t, rfl⟩ := v1
        rfl
      | inr t =>
        have hx : x = V.str (SS t.cps.toList) := h1.w.str
        rw [hx] at v1
        obtain ⟨tk, rfl⟩ := v1
        show some (Sum.inr (SS t.cps.toList)) = some (Sum.inr t)
        rw [SS_tl]
section
variable {c : Cf} {N : List Str} {X : Cx} {sc : Sc} {W : XK} {a b d e : E} {x y w : Expr} {pos : Pos}
def rSet (c : Cf) (X : Cx) : List V → Hp → VK → Prop := fun vs H Q => ∃ z A S d xs x1, vs = [x1] ∧ Cells (c.lay X.K z) A S H ∧ Rel (c.lay X.K z) A H d x1 ∧ itemsOf (view S d) = some xs ∧ xs.all keyD = true ∧ xs.length < 4000 ∧
  ∀ (p : Addr) (L : List L2.Key), H p = none → L.map kD = nubD xs → L.Nodup → L.length < 4000 → Q (.ref p) (upd H p (SetH X.prog X.w p L))
theorem cr_set (g : Good c N X sc W) : CallR X (.type "set") (rSet c X) := by
  intro pins s σ H vs us Q I r ⟨z, A, S, d, xs, x1, e0, hc, rd, hit, hk, hl, q⟩
  subst e0
  have wd := view_rel hc rd
  have hh : X.A.handled = none := g.room.hd
  obtain ⟨u, rfl, ru⟩ := Vals.one r
  obtain ⟨ks, e1, e2⟩ := nub_keys hk
  have hkl : ks.length < 4000 := by
    have := congrArg List.length e1
    rw [List.length_map] at this
    omega
  have hb : ks.length + 1 < scanBound := by
    show ks.length + 1 < 4096
    omega
  have fin : ∀ h' tk, (∀ b o, s.heap.get? b = some o → h'.get? b = some o) → SK X.prog X.w h' s.heap.objs.size (ks.foldl addK []) → EP X pins σ Q (.ref s.heap.objs.size) { s with heap := h', toks := tk } := fun h' tk kp hS => by
    have hn : H s.heap.objs.size = none := I.hok.fresh (Nat.le_refl _)
    have hL := fold_len ks []
    have nd : (ks.foldl addK []).Nodup := by obtain ⟨_, _, _, _, _, _, _, _, _, nd, _⟩ := hS; exact nd
    exact ⟨.ref _, _, I.laid (a := s.heap.objs.size) (o := SetH X.prog X.w s.heap.objs.size (ks.foldl addK [])) (t' := tk) kp (Nat.le_refl _) (setH_new hS), rfl, q _ _ hn e2 nd (by simp only [List.length_nil] at hL; omega)⟩
  cases hv : view S d with
  | lst ys =>
    rw [hv] at wd hit
    have e3 : ys = xs := by simpa [itemsOf] using hit
    subst e3
    obtain ⟨l, vs2, rfl, hq, rs⟩ := wd
    cases (show u = Value.ref l from ru)
    obtain ⟨its, rv, pl, hz⟩ := I.list hq
    rw [e1] at rs
    exact set_list hh pl.isList (by simpa using keysV_of rs rv) hb fin
  | tup ys =>
    rw [hv] at wd hit
    have e3 : ys = xs := by simpa [itemsOf] using hit
    subst e3
    obtain ⟨l, vs2, rfl, hq, rs⟩ := wd
    cases (show u = Value.ref l from ru)
    obtain ⟨its, rv, pl, hz⟩ := I.tuple hq.t
    rw [e1] at rs
    exact set_tup hh (show s.heap.IsTuple l its.toArray from pl) (by simpa using keysV_of rs rv) hb fin
  | str t =>
    rw [hv] at wd hit
    have e3 : (t.map fun c => D.str [c]) = xs := by simpa [itemsOf] using hit
    rw [wd.str] at ru
    obtain ⟨tk, rfl⟩ := ru
    have e4 : ks = t.map fun c => (Sum.inr (SS [c]) : L2.Key) := by
      have h1 : ks.map kD = (t.map fun c => (Sum.inr (SS [c]) : L2.Key)).map kD := by
        rw [← e1, ← e3, List.map_map]; rfl
      exact (List.map_inj_right fun a b h => kD_inj h).mp h1
    refine set_text hh ?_ ?_
    · rw [SS_len]
      have := congrArg List.length e4
      rw [List.length_map] at this
      omega
    · intro h' tk' kp hS
      refine fin h' tk' kp ?_
      rw [e4]
      exact hS
  | _ => rw [hv] at hit; simp [itemsOf] at hit
theorem sk_at {P : Program} {w : World} {h : Heap} {a : Addr} {L : List L2.Key} (R : SK P w h a L) : h.SetOf (mixKind P w) a (fun k => hasK L k) L.length := by
  obtain ⟨o, es, ep, t, ho, hex, hd, hel, hm, nd, hb, hf, hr, hl⟩ := R
  refine ⟨o, es, ep, t, ho, hex, hd, hel, fun k => ?_, hb, hf, ?_⟩
  · rw [hasK_iff]
    constructor
    · intro hk
      have h2 := hm.mem_iff.mpr (List.mem_map.mpr ⟨k, hk, rfl⟩)
      obtain ⟨e, he, q⟩ := List.mem_map.mp h2
      exact ⟨e, he, keyV_is.mpr q⟩
    · rintro ⟨e, he, q⟩
      have h2 := hm.mem_iff.mp (List.mem_map.mpr ⟨e, he, keyV_is.mp q⟩)
      simpa using h2
  · have := hm.length_eq
    simpa using this
def rSortSet (X : Cx) : List V → Hp → VK → Prop := fun vs H Q => ∃ (a : Addr) (L : List L2.Key) (ys : List D), vs = [.ref a] ∧ H a = some (SetH X.prog X.w a L) ∧ L.length < 4000 ∧ sortD (L.map kD) = some ys ∧
  ∀ (p : Addr) (zs : List V), H p = none → (∀ (Ly : Lay) (A : List Addr) (H' : Hp), Rels Ly A H' ys zs) → Q (.ref p) (upd H p (.lst zs))
theorem key_each : ∀ {vs : List Value} {es : List (Option L2.Key)}, vs.map keyV = es → (∀ e ∈ es, ∃ k : L2.Key, e = some k) → ∃ ks : List L2.Key, es = ks.map some ∧ ∀ (L : Lay) (A : List Addr) (H : Hp), PySem.W.EachIs (ValD L A H) vs (ks.map kD)
  | [], _, rfl, _ => ⟨[], rfl, fun _ _ _ => .nil⟩
  | v :: vs, _, rfl, h => by
    obtain ⟨k, hk⟩ := h (keyV v) List.mem_cons_self
    obtain ⟨ks, e1, e2⟩ := key_each (vs := vs) rfl fun e m => h e (List.mem_cons_of_mem _ m)
    refine ⟨k :: ks, by rw [List.map_cons, hk, e1]; rfl, fun L A H => .cons ?_ (e2 L A H)⟩
    cases v <;> simp only [keyV, Option.some.injEq, reduceCtorEq] at hk
    · subst hk; exact ⟨.int _, ⟨_, rfl⟩, by simp only [kD]; exact rel_int⟩
    · subst hk
      rename_i t _
      refine ⟨.str t, ⟨_, rfl⟩, ?_⟩
      have : Rel L A H (.str t.cps.toList) (.str (SS t.cps.toList)) := rel_str
      rw [SS_tl] at this
      exact this
theorem rels_any {ds : List D} (h : ∀ d ∈ ds, keyD d = true) {L : Lay} {A : List Addr} {H : Hp} {zs : List V} (r : Rels L A H ds zs) : ∀ (L' : Lay) (A' : List Addr) (H' : Hp), Rels L' A' H' ds zs := by
  intro L' A' H'
  induction ds generalizing zs with
  | nil => simpa only [Rels] using r
  | cons d ds ih =>
    obtain ⟨x, r', e, h1, h2⟩ := (show ∃ v r, _ from by simpa only [Rels] using r)
    simp only [Rels]
    refine ⟨x, r', e, ?_, ih (fun d m => h d (List.mem_cons_of_mem _ m)) h2⟩
    have hd := h d List.mem_cons_self
    cases d <;> simp [keyD] at hd <;> exact h1
theorem reads_keys {L : Lay} {A : List Addr} {H : Hp} {h : Heap} {a : Addr} : ∀ {vs : List Value} {ks : List L2.Key}, PySem.W.EachIs (ValD L A H) vs (ks.map kD) → PySem.W.EachIs (fun v d => ∃ as, Reads h v (pd d) as ∧ a ∉ as) vs (ks.map kD)
  | [], [], _ => .nil
  | v :: vs, k :: ks, .cons ⟨x, h1, h2⟩ t => by
    refine .cons ?_ (reads_keys t)
    cases k with
    | inl i =>
      have hx : x = V.int i := h2.w.int
      subst hx
      obtain ⟨tk, rfl⟩ := h1
      exact ⟨_, Reads.int i tk, by simp⟩
    | inr y =>
      have hx : x = V.str (SS y.cps.toList) := h2.w.str
      subst hx
      obtain ⟨tk, rfl⟩ := h1
      exact ⟨_, Reads.str (SS y.cps.toList) tk, by simp⟩
theorem cr_sortSet (g : Good c N X sc W) : CallR X (.builtin "sorted") (rSortSet X) := by
  intro pins s σ H vs us Q I r ⟨a, L, ys, e0, ha, hlen, hs, q⟩
  subst e0
  have R := setH_get I ha
  have hh : X.A.handled = none := g.room.hd
  obtain ⟨u, rfl, ru⟩ := Vals.one r
  cases (show u = Value.ref a from ru)
  obtain ⟨o, es, ep, t, ho, hex, hd, hel, hm, nd, hb, hf, hr, hl⟩ := R
  refine Calls.call_function_entry kind_sorted plain_sorted entry_sorted (args_sorted1 _) ?_
  unfold Builtin.«sorted»
  refine wpAny_bind (m := checkCount "sorted" 1 1 _) (wpAny_pure ?_)
  refine wpAny_bind (collect_set (A := X.A.in1) hh ⟨o, ho, hex.1, hd⟩ hf hb hr hl fun s1 vs k1 hz g1 o1 pm => ?_)
  have pk : (vs.map keyV).Perm (L.map some) := by
    have h1 := pm.map keyV
    rw [List.map_map] at h1
    exact h1.trans hm
  obtain ⟨ks, e1, e2⟩ := key_each (vs := vs) rfl fun e m => by
    have := pk.mem_iff.mp m
    obtain ⟨k, _, rfl⟩ := List.mem_map.mp this
    exact ⟨k, rfl⟩
  have pkL : (ks.map kD).Perm (L.map kD) := by
    rw [e1] at pk
    have h1 := pk.map fun o => (o.map kD).getD D.non
    rw [List.map_map, List.map_map] at h1
    exact h1
  have hkl : (ks.map kD).length = L.length := by rw [pkL.length_eq, List.length_map]
  unfold sortD at hs
  split at hs
  · rename_i hok
    cases hs
    obtain ⟨hd12, f1, f2, f3⟩ := sort_facts hok
    have hok2 : sortOk (ks.map kD) = true := by
      unfold sortOk at hok ⊢
      simp only [Bool.and_eq_true, Bool.or_eq_true, List.all_eq_true] at hok ⊢
      refine ⟨fun d m => ⟨(hok.1 d (pkL.mem_iff.mp m)).1, fun e n => (hok.1 d (pkL.mem_iff.mp m)).2 e (pkL.mem_iff.mp n)⟩, ?_⟩
      rcases hok.2 with h | h
      · exact .inl fun d m => h d (pkL.mem_iff.mp m)
      · exact .inr fun d m => h d (pkL.mem_iff.mp m)
    obtain ⟨hd12', f1', f2', f3'⟩ := sort_facts hok2
    have hal : ∀ d ∈ L.map kD, ∀ e ∈ L.map kD, alikeD d e = true := fun d m e n => by
      unfold sortOk at hok
      simp only [Bool.and_eq_true, List.all_eq_true] at hok
      exact (hok.1 d m).2 e n
    have hks : ∀ d ∈ L.map kD, keyD d = true := fun d m => by
      obtain ⟨k, _, rfl⟩ := List.mem_map.mp m
      exact keyD_kD k
    have hsp := sort_perm hks hal pkL
    have hvl : vs.length = L.length := by
      have := pk.length_eq
      simpa using this
    refine wpAny_bind (wpAny_newList ?_ (by rw [hvl, sizeLine_eq]; omega))
    have hoL : (s1.heap.push (seqObj "list" vs.toArray 0)).get? s1.heap.objs.size = some (seqObj "list" vs.toArray 0) := Heap.get?_push_size _ rfl
    have eV := e2 (c.lay X.K []) [] H
    have er : PySem.W.EachIs (fun v d => ∃ as, Reads (s1.heap.push (seqObj "list" vs.toArray 0)) v (pd d) as ∧ s1.heap.objs.size ∉ as) vs (ks.map kD) := by
      exact reads_keys eV
    refine wpAny_bind (wpAny_holding (PySem.W.list_sort_data (enc := pd) (R := ValD (c.lay X.K []) [] H) hoL eV er f1' f2' (by rw [hkl, sizeLine_eq]; omega) (fun b mb => by have := depth_12 (hd12' b mb); have := g.room.un; show X.A.units + 1 + 1 + _ < _; omega) fun out hol ho => ?_))
    rw [f3', hsp] at ho
    obtain ⟨zs, rz, vz⟩ := of_each ho
    obtain ⟨cc, hc⟩ := sortedHeap_at (vs := vs) (out := out.toArray) hoL
    have hkys : ∀ d ∈ (L.map kD).mergeSort leD, keyD d = true := fun d m => hks d ((List.mergeSort_perm _ _).mem_iff.mp m)
    have hlz : zs.length ≤ sizeLine := by
      rw [← rz.len, List.length_mergeSort, List.length_map, sizeLine_eq]; omega
    have hn : H s1.heap.objs.size = none := I.hok.fresh hz
    have kp : ∀ b o, s.heap.get? b = some o → (sortedHeap (s1.heap.push (seqObj "list" vs.toArray 0)) s1.heap.objs.size vs out.toArray).get? b = some o := fun b o e => by
      have q1 := k1 b o e
      have hlt := Heap.lt_size q1
      rw [sortedHeap_old (Nat.ne_of_lt hlt) (by rw [size_push']; exact Nat.lt_succ_of_lt hlt)]
      exact Heap.get?_push_of_some _ q1
    have J : Inv X pins σ (upd H s1.heap.objs.size (.lst zs)) { s with heap := sortedHeap (s1.heap.push (seqObj "list" vs.toArray 0)) s1.heap.objs.size vs out.toArray, gens := s1.gens, drawn := s1.drawn, toks := s1.toks } :=
      I.call (ch := []) (Un.laid kp hz hn) (I.hok.laid kp hz ⟨hlz, out, cc, vz, hc⟩) (by rw [g1]; exact I.bare) (fun _ z => nomatch z)
    refine wpAny_pure ⟨_, rfl, .ref s1.heap.objs.size, _, ?_, rfl, q _ zs hn (rels_any hkys rz)⟩
    obtain ⟨hp1, gn1, dr1, tk1, os1⟩ := s1
    have eo : os1 = s.os := o1
    subst eo
    exact J
  · cases hs
theorem s_sortset (g : Good c N X sc W) {m : Bool} {p' p2 pos2 : Pos} (hg : Gl X "sorted") (hg2 : Gl X "set") (hs : isStar x = false) (ha : okE c X W a x) : okE c X W (.sortset m a) (.Call (.Name "sorted" p') [.Call (.Name "set" p2) [x] [] pos2] [] pos) := by
  have hset : PE X (.Call (.Name "set" p2) [x] [] pos2) (tCB (rSet c X) (tCons (tE c X.K W a) tNil)) := pe_callTy (cr_set g) hg2 (g.fs.free _ (by decide)) (by decide +kernel) (pa_cons ha pa_nil (starEach_cons hs)) (by decide) (by decide) (starEach_cons hs) rfl
  refine PE.mono (pe_callB (cr_sortSet g) hg (g.fs.free _ (by decide)) (by decide +kernel) (pa_cons hset pa_nil rfl) (by decide) (by decide) rfl rfl) fun σ H Q ⟨z, A, S, v, hv, hc, h⟩ => ?_
  simp only [ev] at h
  obtain ⟨z', A', S', v', hv', hc', p⟩ := tR_bind (rel := Rel) hv hc h
  refine ⟨z', A', S', v', hv', hc', p.imp fun x1 H1 ⟨A1, S1, d1, g1, e1, c1, r1, p1⟩ => ?_⟩
  cases hit : itemsOf (view S1 d1) with
  | none => rw [hit] at p1; exact (show False from p1).elim
  | some xs =>
    rw [hit] at p1
    have p1 : Post (c.lay X.K z) W A1 H1 (Rel (c.lay X.K z)) (if xs.all keyD = true ∧ xs.length < 4000 then (match sortD (nubD xs) with
      | some xs => alloc m xs S1
      | none => .no) else .no) Q := p1
    split at p1
    · rename_i hk
      cases hs : sortD (nubD xs) with
      | none => rw [hs] at p1; exact p1.elim
      | some ys =>
        rw [hs] at p1
        exact ⟨z, A1, S1, d1, xs, x1, rfl, c1, r1, hit, hk.1, hk.2, fun q L hq e nd hl => ⟨q, L, ys, rfl, upd_same, hl, by rw [e]; exact hs, fun q2 zs hq2 rz =>
          post_alloc (Post.later (grow_new c1 hq) p1) (c1.new hq) (rz _ _ _) hq2⟩⟩
    · exact p1.elim
def rLenSet (X : Cx) : List V → Hp → VK → Prop := fun vs H Q => ∃ (a : Addr) (L : List L2.Key), vs = [.ref a] ∧ H a = some (SetH X.prog X.w a L) ∧ L.length < 4000 ∧ Q (.int L.length) H
theorem cr_lenSet : CallR X (.builtin "len") (rLenSet X) := by
  intro pins s σ H vs us Q I r ⟨a, L, e0, ha, hlen, q⟩
  subst e0
  have R := setH_get I ha
  obtain ⟨u, rfl, ru⟩ := Vals.one r
  cases (show u = Value.ref a from ru)
  obtain ⟨o, es, ep, t, ho, hex, hd, hel, hm, nd, hb, hf, hr, hl⟩ := R
  have hsz : es.size = L.length := by
    have := hm.length_eq
    simpa using this
  refine call_len_set ho hex hd hf (by rw [hsz]; omega) ⟨.int es.size, H, I.tok _, ⟨_, rfl⟩, ?_⟩
  rw [hsz]; exact q
theorem s_lenset (g : Good c N X sc W) {p' p2 pos2 : Pos} (hg : Gl X "len") (hg2 : Gl X "set") (hs : isStar x = false) (ha : okE c X W a x) : okE c X W (.lenset a) (.Call (.Name "len" p') [.Call (.Name "set" p2) [x] [] pos2] [] pos) := by
  have hset : PE X (.Call (.Name "set" p2) [x] [] pos2) (tCB (rSet c X) (tCons (tE c X.K W a) tNil)) := pe_callTy (cr_set g) hg2 (g.fs.free _ (by decide)) (by decide +kernel) (pa_cons ha pa_nil (starEach_cons hs)) (by decide) (by decide) (starEach_cons hs) rfl
  refine PE.mono (pe_callB (cr_lenSet (X := X)) hg (g.fs.free _ (by decide)) (by decide +kernel) (pa_cons hset pa_nil rfl) (by decide) (by decide) rfl rfl) fun σ H Q ⟨z, A, S, v, hv, hc, h⟩ => ?_
  simp only [ev] at h
  obtain ⟨z', A', S', v', hv', hc', p⟩ := tR_bind (rel := Rel) hv hc h
  refine ⟨z', A', S', v', hv', hc', p.imp fun x1 H1 ⟨A1, S1, d1, g1, e1, c1, r1, p1⟩ => ?_⟩
  cases hit : itemsOf (view S1 d1) with
  | none => rw [hit] at p1; exact (show False from p1).elim
  | some xs =>
    rw [hit] at p1
    have p1 : Post (c.lay X.K z) W A1 H1 (Rel (c.lay X.K z)) (if xs.all keyD = true ∧ xs.length < 4000 then .ok (.int (nubD xs).length) S1 else .no) Q := p1
    split at p1
    · rename_i hk
      refine ⟨z, A1, S1, d1, xs, x1, rfl, c1, r1, hit, hk.1, hk.2, fun q L hq e nd hl => ⟨q, L, rfl, upd_same, hl, ?_⟩⟩
      have e2 : L.length = (nubD xs).length := by rw [← e, List.length_map]
      rw [e2]
      exact p1 A1 _ _ (grow_new c1 hq) (c1.new hq) rel_int
    · exact p1.elim
end
end EV
set_option Elab.async false
set_option linter.all false
set_option maxRecDepth 100000
set_option maxHeartbeats 3200000
namespace EV
open PySem PySem.Spec PyProof.Rows L2
section
variable {c : Cf} {N : List Str} {X : Cx} {sc : Sc} {W : XK} {a b d e : E} {x y w : Expr} {pos : Pos}
def rTupOf (c : Cf) (K : PySem.W.Frag) (W : XK) : List V → Hp → VK → Prop := fun vs H Q => ∃ z A S d x1, vs = [x1] ∧ Cells (c.lay K z) A S H ∧ Rel (c.lay K z) A H d x1 ∧ Post (c.lay K z) W A H (Rel (c.lay K z)) (match seqOf (view S d) with
    | some xs => if xs.length ≤ line then .ok (.tup xs) S else .no
    | none => .no) Q
theorem cr_tupOf (g : Good c N X sc W) : CallR X (.type "tuple") (rTupOf c X.K W) := by
  intro pins s σ H vs us Q I r ⟨z, A, S, d, x1, e0, hc, rd, p⟩
  subst e0
  have wd := view_rel hc rd
  cases hd : view S d with
  | lst xs =>
    rw [hd] at wd p
    have p : Post (c.lay X.K z) W A H (Rel (c.lay X.K z)) (if xs.length ≤ line then .ok (.tup xs) S else .no) Q := p
    split at p
    · obtain ⟨l, vs, rfl, q, rs⟩ := wd
      exact call_tuple_of pins s σ H _ us Q I r ⟨l, vs, rfl, .inl ⟨q, fun q2 hq2 => post_tup p hc rs hq2⟩⟩
    · exact p.elim
  | tup xs =>
    rw [hd] at p
    have e2 : d = .tup xs := by
      cases d <;> simp [view] at hd
      · rw [hd]
      · split at hd <;> cases hd
    subst e2
    have p : Post (c.lay X.K z) W A H (Rel (c.lay X.K z)) (if xs.length ≤ line then .ok (.tup xs) S else .no) Q := p
    split at p
    · obtain ⟨l, vs, rfl, q, rs⟩ := rd.w
      exact call_tuple_of pins s σ H _ us Q I r ⟨l, vs, rfl, .inr ⟨q.t, p.ok hc rd⟩⟩
    · exact p.elim
  | str t =>
    rw [hd] at wd p
    have p : Post (c.lay X.K z) W A H (Rel (c.lay X.K z)) (match (if t.length ≤ line then some (t.map fun ch => EV.D.str [ch]) else none) with
      | some xs => if xs.length ≤ line then .ok (.tup xs) S else .no
      | none => .no) Q := p
    by_cases hz : t.length ≤ line
    · rw [if_pos hz] at p
      have p : Post (c.lay X.K z) W A H (Rel (c.lay X.K z)) (if (t.map fun ch => EV.D.str [ch]).length ≤ line then .ok (.tup (t.map fun ch => EV.D.str [ch])) S else .no) Q := p
      rw [if_pos (by rw [List.length_map]; exact hz)] at p
      rw [wd.str] at r
      obtain ⟨u, rfl, tk, rfl⟩ := Vals.one r
      have hzz : (SS t).cps.size ≤ sizeLine := by rw [← line_eq]; simpa [SS] using hz
      refine call_tuple_str g.room.hd (SS t) tk (fun h' tk' acc kp hacc => ?_) hzz
      have hv : Vals (t.map fun ch => V.str (SS [ch])) acc.toList := by
        have := sgn_vals (x := SS t) (SS t).cps.size (its := acc.toList) (by rw [Array.length_toList]; exact hacc.1) (fun i v hv => by
          rw [Array.getElem?_toList] at hv
          exact hacc.2 i v hv) (Nat.le_refl _)
        rw [List.take_of_length_le (by simp)] at this
        simpa [SS] using this
      have hlz : (t.map fun ch => V.str (SS [ch])).length ≤ sizeLine := by rw [List.length_map, ← line_eq]; exact hz
      have I1 : Inv X pins σ H { s with heap := h' } := I.kept (t' := s.toks) kp
      have I2 : Inv X pins σ (upd H h'.objs.size (.tup (t.map fun ch => V.str (SS [ch])))) { s with heap := h'.push { cls := .type "tuple", data := .seq acc }, toks := tk' } :=
        I1.laid (t' := tk') (fun b o e => Heap.get?_push_of_some _ e) (Nat.le_refl _) (show ObjOk X.prog X.w _ _ _ (.tup _) from ⟨hlz, acc.toList, hv, by simpa using IsTup.new h' acc⟩)
      exact ⟨.ref h'.objs.size, _, I2, rfl, post_tup p hc (rels_sgn t) (I1.hok.fresh (Nat.le_refl _))⟩
    · rw [if_neg hz] at p; exact (show False from p).elim
  | _ => rw [hd] at p; exact (show False from p).elim
theorem s_tupOf (g : Good c N X sc W) {p' : Pos} (hg : Gl X "tuple") (hs : isStar x = false) (hstr : True) (ha : okE c X W a x) : okE c X W (.tupOf a) (.Call (.Name "tuple" p') [x] [] pos) := by
  refine PE.mono (pe_callTy (cr_tupOf (W := W) g) hg (g.fs.free _ (by decide)) (by decide +kernel) (pa_cons ha pa_nil (starEach_cons hs)) (by decide) (by decide) (starEach_cons hs) rfl) fun σ H Q ⟨z, A, S, v, hv, hc, h⟩ => ?_
  simp only [ev] at h
  obtain ⟨z', A', S', v', hv', hc', p⟩ := tR_bind (rel := Rel) hv hc h
  exact ⟨z', A', S', v', hv', hc', p.imp fun x1 H1 ⟨A1, S1, d1, g1, e1, c1, r1, p1⟩ => ⟨z, A1, S1, d1, x1, rfl, c1, r1, p1⟩⟩
def rListOf (c : Cf) (K : PySem.W.Frag) (W : XK) (m : Bool) : List V → Hp → VK → Prop := fun vs H Q => ∃ z A S d x1, vs = [x1] ∧ Cells (c.lay K z) A S H ∧ Rel (c.lay K z) A H d x1 ∧ Post (c.lay K z) W A H (Rel (c.lay K z)) (match itemsOf (view S d) with
    | some xs => if xs.length ≤ line then alloc m xs S else .no
    | none => .no) Q
theorem cr_listOf (g : Good c N X sc W) {m : Bool} : CallR X (.type "list") (rListOf c X.K W m) := by
  intro pins s σ H vs us Q I r ⟨z, A, S, d, x1, e0, hc, rd, p⟩
  subst e0
  have wd := view_rel hc rd
  cases hd : view S d with
  | lst xs =>
    rw [hd] at wd p
    have p : Post (c.lay X.K z) W A H (Rel (c.lay X.K z)) (if xs.length ≤ line then alloc m xs S else .no) Q := p
    split at p
    · obtain ⟨l, vs, rfl, q, rs⟩ := wd
      exact call_list_of pins s σ H _ us Q I r ⟨l, vs, rfl, .inl q, fun q2 hq2 => post_alloc p hc rs hq2⟩
    · exact p.elim
  | tup xs =>
    rw [hd] at wd p
    have p : Post (c.lay X.K z) W A H (Rel (c.lay X.K z)) (if xs.length ≤ line then alloc m xs S else .no) Q := p
    split at p
    · obtain ⟨l, vs, rfl, q, rs⟩ := wd
      exact call_list_of pins s σ H _ us Q I r ⟨l, vs, rfl, .inr q.t, fun q2 hq2 => post_alloc p hc rs hq2⟩
    · exact p.elim
  | str t =>
    rw [hd] at wd p
    have p : Post (c.lay X.K z) W A H (Rel (c.lay X.K z)) (if (t.map fun c => D.str [c]).length ≤ line then alloc m (t.map fun c => D.str [c]) S else .no) Q := p
    split at p
    · rename_i hz
      rw [List.length_map] at hz
      rw [wd.str] at r
      obtain ⟨u, rfl, tk, rfl⟩ := Vals.one r
      have hzz : (SS t).cps.size ≤ sizeLine := by rw [← line_eq]; simpa [SS] using hz
      refine call_list_str g.room.hd (SS t) tk (fun h' tk' acc' c' kp hS hacc => ?_) hzz
      have hn : H s.heap.objs.size = none := I.hok.fresh (Nat.le_refl _)
      obtain ⟨ha1, ha2⟩ := hacc
      have hv : Vals (t.map fun ch => V.str (SS [ch])) acc'.toList := by
        have := signs_vals (x := SS t) (SS t).cps.size (its := acc'.toList) (by rw [Array.length_toList]; exact ha1) (fun i v hv => by
          rw [Array.getElem?_toList] at hv
          exact ha2 i v hv) (Nat.le_refl _)
        simpa [SS] using this
      have hlz : (t.map fun ch => V.str (SS [ch])).length ≤ sizeLine := by rw [List.length_map, ← line_eq]; exact hz
      exact ⟨.ref s.heap.objs.size, _, I.laid (a := s.heap.objs.size) (o := .lst (t.map fun ch => V.str (SS [ch]))) (t' := tk') kp (Nat.le_refl _) (show ObjOk X.prog X.w _ _ _ (.lst _) from ⟨hlz, acc'.toList, c', hv, hS⟩), rfl, post_alloc p hc (rels_signs t) hn⟩
    · exact p.elim
  | _ => rw [hd] at p; exact (show False from p).elim
theorem s_listOf (g : Good c N X sc W) {m : Bool} {p' : Pos} (hg : Gl X "list") (hs : isStar x = false) (ha : okE c X W a x) : okE c X W (.listOf m a) (.Call (.Name "list" p') [x] [] pos) := by
  refine PE.mono (pe_callTy (cr_listOf (W := W) (m := m) g) hg (g.fs.free _ (by decide)) (by decide +kernel) (pa_cons ha pa_nil (starEach_cons hs)) (by decide) (by decide) (starEach_cons hs) rfl) fun σ H Q ⟨z, A, S, v, hv, hc, h⟩ => ?_
  simp only [ev] at h
  obtain ⟨z', A', S', v', hv', hc', p⟩ := tR_bind (rel := Rel) hv hc h
  exact ⟨z', A', S', v', hv', hc', p.imp fun x1 H1 ⟨A1, S1, d1, g1, e1, c1, r1, p1⟩ => ⟨z, A1, S1, d1, x1, rfl, c1, r1, p1⟩⟩
def RelRg (_ : Lay) (_ : List Addr) (_ : Hp) (p : List D × Gd) (ab : Int × Int) : Prop := p.1 = rngL ab.1 (ab.2 - ab.1).toNat ∧ fits62 ab.1 = true ∧ fits62 ab.2 = true
def tRgE (c : Cf) (K : PySem.W.Frag) (W : XK) (it : E) : L2.St → Hp → (Int → Int → Hp → Prop) → Prop := fun σ H Q => tR c K W RelRg (evIt c.G c.κ it) σ H fun ab H1 => Q ab.1 ab.2 H1
abbrev okRg (c : Cf) (X : Cx) (W : XK) (it : E) (x : Expr) : Prop := PRg X x (tRgE c X.K W it)
theorem rg_1 (g : Good c N X sc W) {p' : Pos} (hg : Gl X "range") (hs : isStar x = false) (ha : okE c X W a x) : okRg c X W (.rng1 a) (.Call (.Name "range" p') [x] [] pos) := by
  intro pins s σ H Q I ⟨z, A, S, v, hv, hc, h⟩
  simp only [evIt] at h
  refine prg_1 hg (g.fs.free _ (by decide)) ha (starEach_cons hs) pins s σ H Q I ?_
  obtain ⟨z', A', S', v', hv', hc', p⟩ := tR_bind (rel := Rel) hv hc h
  refine ⟨z', A', S', v', hv', hc', p.imp fun x1 H1 ⟨A1, S1, d1, g1, e1, c1, r1, p1⟩ => ?_⟩
  cases d1 with
  | int j =>
    have p1 : Post (c.lay X.K z) W A1 H1 (RelRg (c.lay X.K z)) (if fits62 j then .ok (rngL 0 j.toNat, []) S1 else .no) (fun ab H1 => Q ab.1 ab.2 H1) := p1
    split at p1
    · rename_i hf
      exact ⟨j, r1.w.int, Post.ok (b := ((0, j) : Int × Int)) p1 c1 ⟨by show rngL 0 j.toNat = rngL 0 (j - 0).toNat; rw [Int.sub_zero], show fits62 0 = true from by decide, hf⟩⟩
    · exact p1.elim
  | _ => exact (show False from p1).elim
theorem rg_2 (g : Good c N X sc W) {p' : Pos} (hg : Gl X "range") (hs : isStar x = false) (hs2 : isStar y = false) (ha : okE c X W a x) (hb : okE c X W b y) : okRg c X W (.rng2 a b) (.Call (.Name "range" p') [x, y] [] pos) := by
  intro pins s σ H Q I ⟨z, A, S, v, hv, hc, h⟩
  simp only [evIt] at h
  refine prg_2 hg (g.fs.free _ (by decide)) ha hb (starEach_cons hs) (starEach_cons hs2) (by rw [starEach_cons hs2]; rfl) pins s σ H Q I ?_
  obtain ⟨z', A', S', v', hv', hc', p⟩ := tR_bind (rel := Rel) hv hc h
  refine ⟨z', A', S', v', hv', hc', p.imp fun x1 H1 ⟨A1, S1, d1, g1, e1, c1, r1, p1⟩ => ?_⟩
  obtain ⟨z2, A2, S2, v2, hv2, hc2, p2⟩ := tR_bind (rel := Rel) e1 c1 p1
  refine ⟨z2, A2, S2, v2, hv2, hc2, p2.imp fun x2 H2 ⟨A3, S3, d2, g2, e2, c2, r2, p3⟩ => ?_⟩
  cases d1 with
  | int i => cases d2 with
    | int j =>
      have p3 : Post (c.lay X.K z) W A3 H2 (RelRg (c.lay X.K z)) (if (fits62 i && fits62 j) = true then .ok (rngL i (j - i).toNat, []) S3 else .no) (fun ab H1 => Q ab.1 ab.2 H1) := p3
      split at p3
      · rename_i hf
        rw [Bool.and_eq_true] at hf
        exact ⟨i, j, (r1.grow g2).w.int, r2.w.int, Post.ok (b := ((i, j) : Int × Int)) p3 c2 ⟨rfl, hf.1, hf.2⟩⟩
      · exact p3.elim
    | _ => exact (show False from p3).elim
  | _ => exact (show False from p3).elim
theorem rels_rng {L : Lay} {A : List Addr} {H : Hp} {i j : Int} : Rels L A H (rngL i (j - i).toNat) (rgV i j) := by
  unfold rngL rgV
  generalize List.range (j - i).toNat = l
  induction l with
  | nil => exact .nil
  | cons k l ih => exact .cons rel_int ih
theorem rg_ok {i j : Int} (h1 : fits62 i = true) (h2 : fits62 j = true) (h3 : (rngL i (j - i).toNat).length ≤ line) : RgOk i j := by
  have a := fits_62 h1
  have b := fits_62 h2
  have e : (rngL i (j - i).toNat).length = (j - i).toNat := by unfold rngL; simp
  rw [e] at h3
  exact ⟨a.1, a.2, b.1, b.2, h3⟩
theorem s_listR (g : Good c N X sc W) {m : Bool} {it : E} {p' : Pos} (hg : Gl X "list") (hs : isStar x = false) (hr : okRg c X W it x) : okE c X W (.listR m it) (.Call (.Name "list" p') [x] [] pos) := by
  refine PE.mono (pe_listRg g.calm hg (g.fs.free _ (by decide)) hr (starEach_cons hs)) fun σ H Q ⟨z, A, S, v, hv, hc, h⟩ => ?_
  simp only [ev] at h
  obtain ⟨z', A', S', v', hv', hc', p⟩ := tR_bind (rel := RelRg) hv hc h
  refine ⟨z', A', S', v', hv', hc', p.imp fun ab H1 ⟨A1, S1, d1, g1, e1, c1, ⟨r1, r2, r3⟩, p1⟩ => ?_⟩
  rw [r1] at p1
  split at p1
  · rename_i hl
    exact ⟨rg_ok r2 r3 hl, fun q hq => post_alloc p1 c1 rels_rng hq⟩
  · exact p1.elim
theorem s_tupR (g : Good c N X sc W) {it : E} {p' : Pos} (hg : Gl X "tuple") (hs : isStar x = false) (hr : okRg c X W it x) : okE c X W (.tupR it) (.Call (.Name "tuple" p') [x] [] pos) := by
  refine PE.mono (pe_tupRg g.calm hg (g.fs.free _ (by decide)) hr (starEach_cons hs)) fun σ H Q ⟨z, A, S, v, hv, hc, h⟩ => ?_
  simp only [ev] at h
  obtain ⟨z', A', S', v', hv', hc', p⟩ := tR_bind (rel := RelRg) hv hc h
  refine ⟨z', A', S', v', hv', hc', p.imp fun ab H1 ⟨A1, S1, d1, g1, e1, c1, ⟨r1, r2, r3⟩, p1⟩ => ?_⟩
  rw [r1] at p1
  split at p1
  · rename_i hl
    exact ⟨rg_ok r2 r3 hl, fun q hq => post_tup p1 c1 rels_rng hq⟩
  · exact p1.elim
end
end EV
set_option Elab.async false
set_option linter.all false
set_option maxRecDepth 100000
set_option maxHeartbeats 3200000
namespace EV
open PySem PySem.Spec PyProof.Rows L2
def PostS (L : Lay) (W : XK) (A : List Addr) (H : Hp) (D : Ends) : RS → Prop
  | .nx v S' => ∀ A' H' σ', Grow A H A' H' → Cells L A' S' H' → EnvOk L A' H' v σ' → D.nx σ' H'
  | .rt d S' => ∀ A' H' x, Grow A H A' H' → Cells L A' S' H' → Rel L A' H' d x → D.rt x H'
  | .bk v S' => ∀ A' H' σ', Grow A H A' H' → Cells L A' S' H' → EnvOk L A' H' v σ' → D.bk σ' H'
  | .ct v S' => ∀ A' H' σ', Grow A H A' H' → Cells L A' S' H' → EnvOk L A' H' v σ' → D.ct σ' H'
  | .ex e _ S' => ∀ A' H' c d, Grow A H A' H' → Cells L A' S' H' → ExR L A' H' e c d → W c d H'
  | .no => False
section
variable {L : Lay} {W : XK} {A A' : List Addr} {H H' : Hp} {D : Ends}
theorem PostS.later {r : RS} (g : Grow A H A' H') (h : PostS L W A H D r) : PostS L W A' H' D r := by
  cases r with
  | nx v S => exact fun A2 H2 σ g2 c e => h A2 H2 σ (g.trans g2) c e
  | rt v S => exact fun A2 H2 σ g2 c e => h A2 H2 σ (g.trans g2) c e
  | bk v S => exact fun A2 H2 σ g2 c e => h A2 H2 σ (g.trans g2) c e
  | ct v S => exact fun A2 H2 σ g2 c e => h A2 H2 σ (g.trans g2) c e
  | ex e v S => exact fun A2 H2 c d g2 cc e => h A2 H2 c d (g.trans g2) cc e
  | no => exact h
theorem PostS.go {r : RS} {f : Env → St → RS} (h : PostS L W A H D (r.go f)) : PostS L W A H { D with nx := fun σ' H1 => ∃ A1 S1 v1, Grow A H A1 H1 ∧ EnvOk L A1 H1 v1 σ' ∧ Cells L A1 S1 H1 ∧ PostS L W A1 H1 D (f v1 S1) } r := by
  cases r with
  | nx v S => exact fun A2 H2 σ g2 c e => ⟨A2, S, v, g2, e, c, PostS.later g2 h⟩
  | rt v S => exact h
  | bk v S => exact h
  | ct v S => exact h
  | ex e v S => exact h
  | no => exact h
theorem PostS.rgo {α β : Type} {rel : List Addr → Hp → α → β → Prop} {r : R α} {v : Env} {f : α → St → RS} (h : PostS L W A H D (r.go v f)) : Post L W A H rel r (fun b H1 => ∃ A1 S1 a, Grow A H A1 H1 ∧ Cells L A1 S1 H1 ∧ rel A1 H1 a b ∧ PostS L W A1 H1 D (f a S1)) := by
  cases r with
  | ok a S => exact fun A1 H1 b g c q => ⟨A1, S, a, g, c, q, PostS.later g h⟩
  | ex e S => exact fun A1 H1 k d g c q => h A1 H1 k d g c q
  | no => exact h
end
def tS (c : Cf) (K : PySem.W.Frag) (W : XK) (f : Env → St → RS) : TS := fun D σ H => ∃ z A S v, EnvOk (c.lay K z) A H v σ ∧ Cells (c.lay K z) A S H ∧ PostS (c.lay K z) W A H D (f v S)
abbrev tC (c : Cf) (K : PySem.W.Frag) (W : XK) (k : C) : TS := tS c K W (ex c.G c.κ k)
theorem PS.mono {X : Cx} {st : Stmt} {t t' : TS} (h : PS X st t) (k : ∀ D σ H, t' D σ H → t D σ H) : PS X st t' := ⟨fun pins s σ H D I q => h.run pins s σ H D I (k D σ H q)⟩
theorem PSs.mono {X : Cx} {sts : List Stmt} {t t' : TS} (h : PSs X sts t) (k : ∀ D σ H, t' D σ H → t D σ H) : PSs X sts t' := ⟨fun pins s σ H D I q => h.run pins s σ H D I (k D σ H q)⟩
section
variable {c : Cf} {N : List Str} {X : Cx} {sc : Sc} {W : XK} {a b d e : E} {x y w tg : Expr} {pos : Pos} {k k2 : C} {st : Stmt} {rest : List Stmt}
abbrev okC (c : Cf) (X : Cx) (W : XK) (k : C) (sts : List Stmt) : Prop := PSs X sts (tC c X.K W k)
abbrev okS (c : Cf) (X : Cx) (W : XK) (f : Env → St → RS) (st : Stmt) : Prop := PS X st (tS c X.K W f)
theorem s_seq {f : Env → St → RS} (h1 : okS c X W f st) (h2 : okC c X W k rest) : PSs X (st :: rest) (tS c X.K W fun v s => (f v s).go fun v s => ex c.G c.κ k v s) := by
  refine PSs.mono (pss_cons h1 h2) fun D σ H ⟨z, A, S, v, hv, hc, h⟩ => ?_
  refine ⟨z, A, S, v, hv, hc, ?_⟩
  have p := PostS.go h
  cases hr : f v S with
  | nx v2 S2 =>
    rw [hr] at p
    intro A2 H2 σ' g2 c2 e2
    obtain ⟨A3, S3, v3, g3, e3, c3, p3⟩ := p A2 H2 σ' g2 c2 e2
    exact ⟨z, A3, S3, v3, e3, c3, p3⟩
  | rt v2 S2 => rw [hr] at p; exact p
  | bk v2 S2 => rw [hr] at p; exact p
  | ct v2 S2 => rw [hr] at p; exact p
  | ex e2 v2 S2 => rw [hr] at p; exact p
  | no => rw [hr] at p; exact p
theorem s_done : okC c X W .done [] := PSs.mono pss_nil fun D σ H ⟨z, A, S, v, hv, hc, h⟩ => by
  simp only [ex] at h
  exact h A H σ .refl hc hv
theorem s_end {f : Env → St → RS} {D : Ends} {t u : TS} (h1 : PS X st t) (h : ∀ D σ H, (tS c X.K W f) D σ H → t { D with nx := u D } σ H) (h2 : PSs X rest u) : PSs X (st :: rest) (tS c X.K W f) := PSs.mono (pss_cons h1 h2) h
theorem s_ret (ha : okE c X W a x) : okC c X W (.ret a) (.Return (some x) pos :: rest) := by
  refine PSs.mono (pss_cons (ps_ret ha) pss_never) fun D σ H ⟨z, A, S, v, hv, hc, h⟩ => ?_
  simp only [ex] at h
  refine ⟨z, A, S, v, hv, hc, (PostS.rgo (rel := Rel (c.lay X.K z)) h).imp fun x1 H1 ⟨A1, S1, d1, g1, c1, r1, p1⟩ => ?_⟩
  exact p1 A1 H1 x1 .refl c1 r1
theorem s_retn : okC c X W .retn (.Return none pos :: rest) := by
  refine PSs.mono (pss_cons ps_retN pss_never) fun D σ H ⟨z, A, S, v, hv, hc, h⟩ => ?_
  simp only [ex] at h
  exact h A H .non .refl hc rel_non
theorem s_brk : okC c X W .brk (.Break pos :: rest) := by
  refine PSs.mono (pss_cons ps_break pss_never) fun D σ H ⟨z, A, S, v, hv, hc, h⟩ => ?_
  simp only [ex] at h
  exact h A H σ .refl hc hv
theorem s_cnt : okC c X W .cnt (.Continue pos :: rest) := by
  refine PSs.mono (pss_cons ps_continue pss_never) fun D σ H ⟨z, A, S, v, hv, hc, h⟩ => ?_
  simp only [ex] at h
  exact h A H σ .refl hc hv
theorem s_pass (h : okC c X W k rest) : okC c X W (.pass k) (.Pass pos :: rest) := PSs.mono (pss_cons ps_pass h) fun D σ H ⟨z, A, S, v, hv, hc, h⟩ => by
  simp only [ex] at h
  exact ⟨z, A, S, v, hv, hc, h⟩
theorem s_raise {r : E} : okC c X W (.raise r) rest := ⟨fun pins s σ H D I ⟨z, A, S, v, hv, hc, h⟩ => by
  simp only [ex] at h
  exact h.elim⟩
theorem s_exp (ha : okE c X W a x) (hs : swapsWith x none pos.line X.env = pure false) (h : okC c X W k rest) : okC c X W (.exp a k) (.Expr x pos :: rest) := by
  refine PSs.mono (pss_cons (ps_expr ha hs) h) fun D σ H ⟨z, A, S, v, hv, hc, h⟩ => ?_
  simp only [ex] at h
  refine ⟨z, A, S, v, hv, hc, (PostS.rgo (rel := Rel (c.lay X.K z)) h).imp fun x1 H1 ⟨A1, S1, d1, g1, c1, r1, p1⟩ => ?_⟩
  exact ⟨z, A1, S1, v, hv.grow g1, c1, p1⟩
theorem c_ite {ka kb : C} {sa sb : List Stmt} (ht : okT c X W a x) (h1 : okC c X W ka sa) (h2 : okC c X W kb sb) (h : okC c X W k rest) : okC c X W (.ite a ka kb k) (.If x sa sb pos :: rest) := by
  have main : okS c X W (fun v s => (tst (ev c.G c.κ a v s)).go v fun t s => if t then ex c.G c.κ ka v s else ex c.G c.κ kb v s) (.If x sa sb pos) := by
    refine PS.mono (ps_if ht h1 h2) fun D σ H ⟨z, A, S, v, hv, hc, h⟩ => ?_
    refine ⟨z, A, S, v, hv, hc, (PostS.rgo (rel := RelBL (c.lay X.K z)) h).imp fun b H1 ⟨A1, S1, b1, g1, c1, r1, p1⟩ => ?_⟩
    have r1 : b1 = b := r1
    subst r1
    cases b1 with
    | true => rw [if_pos rfl] at p1 ⊢; exact ⟨z, A1, S1, v, hv.grow g1, c1, p1⟩
    | false => rw [if_neg Bool.false_ne_true] at p1 ⊢; exact ⟨z, A1, S1, v, hv.grow g1, c1, p1⟩
  refine PSs.mono (s_seq main h) fun D σ H ⟨z, A, S, v, hv, hc, h⟩ => ⟨z, A, S, v, hv, hc, ?_⟩
  simp only [ex] at h
  have e : ((tst (ev c.G c.κ a v S)).go v fun t s => (if t then ex c.G c.κ ka v s else ex c.G c.κ kb v s).go fun v s => ex c.G c.κ k v s) = ((tst (ev c.G c.κ a v S)).go v fun t s => if t then ex c.G c.κ ka v s else ex c.G c.κ kb v s).go fun v s => ex c.G c.κ k v s := by
    cases tst (ev c.G c.κ a v S) <;> rfl
  rw [e] at h
  exact h
theorem s_asg (g : Good c N X sc W) {t : Tg} (ha : okE c X W a x) (ht : okTg N sc t tg = true) (hs : swapsWithSole [tg] x pos.line X.env = pure false) (hw : swappedStores [tg] x X.env = pure none) (h : okC c X W k rest) : okC c X W (.asg t a k) (.Assign [tg] x pos :: rest) := by
  have h1 : (assignEach [tg] X.env).map (·.2) = [assign tg X.env] := by
    cases tg <;> first | rfl | (cases t <;> simp [okTg] at ht)
  refine PSs.mono (pss_cons (ps_asg ha (pg_tg g ht) hs hw h1) h) fun D σ H ⟨z, A, S, v, hv, hc, h⟩ => ?_
  simp only [ex] at h
  refine ⟨z, A, S, v, hv, hc, (PostS.rgo (rel := Rel (c.lay X.K z)) h).imp fun x1 H1 ⟨A1, S1, d1, g1, c1, r1, p1⟩ => ?_⟩
  cases hb : bindT t d1 v with
  | none => rw [hb] at p1; exact p1.elim
  | some v' =>
    rw [hb] at p1
    exact ⟨z, A1, S1, d1, v, v', hv.grow g1, c1, r1, hb, fun σ' e _ _ => ⟨z, A1, S1, v', e, c1, p1⟩⟩
theorem s_for (g : Good c N X sc W) (hp : PassesOwn (model X.prog X.w) X.A X.env X.xe) {t : Tg} {it : E} {kb : C} {body : List Stmt} {iter : Expr} (hi : okI c X W it tg iter) (ht : okTg N sc t tg = true) (hs : ∀ env v, foldedSetIterable iter env v = pure v) (hb : okC c X W kb body) (h : okC c X W k rest) :
    okC c X W (.for t it kb k) (.For tg iter body [] pos :: rest) := by
  have main : okS c X W (fun v s => (evIt c.G c.κ it v s).go v fun p s => forL (fun x v s => match bindT t x v with
    | some v' => ex c.G c.κ kb v' s
    | none => .no) p.2 p.1 v s) (.For tg iter body [] pos) := by
    refine PS.mono (ps_for hp g.calm hi (pg_tg g ht) hb (hs X.env)) fun D σ H ⟨z, A, S, v, hv, hc, h⟩ => ?_
    generalize hstep : (fun x v s => match bindT t x v with
      | some v' => ex c.G c.κ kb v' s
      | none => RS.no) = step at h
    refine ⟨z, A, S, v, hv, hc, (PostS.rgo (rel := ItR (c.lay X.K z)) h).imp fun J H1 ⟨A1, S1, p, g1, c1, r1, p1⟩ => ?_⟩
    refine ⟨fun i m σ2 H2 => m = p.1.length - i ∧ i ≤ p.1.length ∧ ∃ A2 S2 v2, Grow A1 H1 A2 H2 ∧ EnvOk (c.lay X.K z) A2 H2 v2 σ2 ∧ Cells (c.lay X.K z) A2 S2 H2 ∧ PostS (c.lay X.K z) W A2 H2 D (forL step p.2 (p.1.drop i) v2 S2),
      ⟨p.1.length, by simp, Nat.zero_le _, A1, S1, v, .refl, hv.grow g1, c1, p1⟩, ?_⟩
    rintro i m σ2 H2 ⟨rfl, hi, A2, S2, v2, g2, e2, c2, p2⟩
    by_cases hlt : i < p.1.length
    · have hd : p.1[i]? = some p.1[i] := List.getElem?_eq_getElem hlt
      rw [List.drop_eq_getElem_cons hlt] at p2
      unfold forL at p2
      split at p2
      · rename_i ok
        obtain ⟨_, hk⟩ := r1 _ _ _ _ g2.later c2 ok i
        obtain ⟨go, hk⟩ := hk _ hd
        refine .inr ⟨go, fun σ3 H3 => i + 1 ≤ p.1.length ∧ ∃ A3 S3 v3, Grow A1 H1 A3 H3 ∧ EnvOk (c.lay X.K z) A3 H3 v3 σ3 ∧ Cells (c.lay X.K z) A3 S3 H3 ∧ PostS (c.lay X.K z) W A3 H3 D (forL step p.2 (p.1.drop (i + 1)) v3 S3), fun σ' H' q => ⟨_, by omega, rfl, q⟩, fun x1 H3 hy => ?_⟩
        obtain ⟨g3, c3, rd⟩ := hk x1 H3 hy
        have p3 := PostS.later g3 p2
        cases hb2 : bindT t p.1[i] v2 with
        | none =>
          have : step p.1[i] v2 S2 = RS.no := by rw [← hstep]; simp only [hb2]
          rw [this] at p3; exact p3.elim
        | some v3 =>
          have e4 : step p.1[i] v2 S2 = ex c.G c.κ kb v3 S2 := by rw [← hstep]; simp only [hb2]
          rw [e4] at p3
          refine ⟨z, A2, S2, p.1[i], v2, v3, e2.grow g3, c3, rd, hb2, fun σ' e _ _ => ⟨z, A2, S2, v3, e, c3, ?_⟩⟩
          have g13 := g2.trans g3
          cases hr : ex c.G c.κ kb v3 S2 with
          | nx v4 S4 => rw [hr] at p3; exact fun A5 H5 σ5 g5 c5 e5 => ⟨hlt, A5, S4, v4, g13.trans g5, e5, c5, PostS.later g5 p3⟩
          | ct v4 S4 => rw [hr] at p3; exact fun A5 H5 σ5 g5 c5 e5 => ⟨hlt, A5, S4, v4, g13.trans g5, e5, c5, PostS.later g5 p3⟩
          | bk v4 S4 => rw [hr] at p3; exact p3
          | rt v4 S4 => rw [hr] at p3; exact p3
          | ex e5 v4 S4 => rw [hr] at p3; exact p3
          | no => rw [hr] at p3; exact p3
      · exact p2.elim
    · rw [List.drop_eq_nil_of_le (by omega)] at p2
      unfold forL at p2
      split at p2
      · rename_i ok
        exact .inl ⟨(r1 _ _ _ _ g2.later c2 ok i).1 (by omega), p2 A2 H2 σ2 .refl c2 e2⟩
      · exact p2.elim
  refine PSs.mono (s_seq main h) fun D σ H ⟨z, A, S, v, hv, hc, h⟩ => ⟨z, A, S, v, hv, hc, ?_⟩
  simp only [ex] at h
  have e : ((evIt c.G c.κ it v S).go v fun p s => (forL (fun x v s => match bindT t x v with
    | some v' => ex c.G c.κ kb v' s
    | none => .no) p.2 p.1 v s).go fun v s => ex c.G c.κ k v s) = ((evIt c.G c.κ it v S).go v fun p s => forL (fun x v s => match bindT t x v with
    | some v' => ex c.G c.κ kb v' s
    | none => .no) p.2 p.1 v s).go fun v s => ex c.G c.κ k v s := by
    cases evIt c.G c.κ it v S <;> rfl
  exact Eq.mp (congrArg (PostS (c.lay X.K z) W A H D) e) h
theorem s_whl (hp : PassesOwn (model X.prog X.w) X.A X.env X.xe) {kb : C} {body : List Stmt} (ht : okT c X W a x) (hb : okC c X W kb body) (h : okC c X W k rest) : okC c X W (.whl a kb k) (.While x body [] pos :: rest) := by
  have main : okS c X W (fun v s => whlL (fun v s => tst (ev c.G c.κ a v s)) (fun v s => ex c.G c.κ kb v s) bigN v s) (.While x body [] pos) := by
    refine PS.mono (ps_while hp ht hb) fun D σ H ⟨z, A, S, v, hv, hc, h⟩ => ?_
    refine ⟨fun m σ2 H2 => ∃ A2 S2 v2, EnvOk (c.lay X.K z) A2 H2 v2 σ2 ∧ Cells (c.lay X.K z) A2 S2 H2 ∧ PostS (c.lay X.K z) W A2 H2 D (whlL (fun v s => tst (ev c.G c.κ a v s)) (fun v s => ex c.G c.κ kb v s) m v2 S2), ⟨bigN, A, S, v, hv, hc, h⟩, ?_⟩
    rintro m σ2 H2 ⟨A2, S2, v2, e2, c2, p2⟩
    cases m with
    | zero => exact (show False from p2).elim
    | succ m =>
      unfold whlL at p2
      refine ⟨z, A2, S2, v2, e2, c2, (PostS.rgo (rel := RelBL (c.lay X.K z)) p2).imp fun b H3 ⟨A3, S3, b1, g3, c3, r3, p3⟩ => ?_⟩
      have r3 : b1 = b := r3
      subst r3
      cases b1 with
      | false =>
        rw [if_neg Bool.false_ne_true]
        exact p3 A3 H3 σ2 .refl c3 (e2.grow g3)
      | true =>
        rw [if_pos rfl]
        refine ⟨fun σ4 H4 => ∃ A4 S4 v4, EnvOk (c.lay X.K z) A4 H4 v4 σ4 ∧ Cells (c.lay X.K z) A4 S4 H4 ∧ PostS (c.lay X.K z) W A4 H4 D (whlL (fun v s => tst (ev c.G c.κ a v s)) (fun v s => ex c.G c.κ kb v s) m v4 S4), fun σ' H' q => ⟨m, Nat.lt_succ_self _, q⟩, z, A3, S3, v2, e2.grow g3, c3, ?_⟩
        have p3 : PostS (c.lay X.K z) W A3 H3 D (match ex c.G c.κ kb v2 S3 with
          | .nx v s => whlL (fun v s => tst (ev c.G c.κ a v s)) (fun v s => ex c.G c.κ kb v s) m v s
          | .ct v s => whlL (fun v s => tst (ev c.G c.κ a v s)) (fun v s => ex c.G c.κ kb v s) m v s
          | .bk v s => .nx v s
          | r => r) := p3
        cases hr : ex c.G c.κ kb v2 S3 with
        | nx v4 S4 => rw [hr] at p3; exact fun A5 H5 σ5 g5 c5 e5 => ⟨A5, S4, v4, e5, c5, PostS.later g5 p3⟩
        | ct v4 S4 => rw [hr] at p3; exact fun A5 H5 σ5 g5 c5 e5 => ⟨A5, S4, v4, e5, c5, PostS.later g5 p3⟩
        | bk v4 S4 => rw [hr] at p3; exact p3
        | rt v4 S4 => rw [hr] at p3; exact p3
        | ex e5 v4 S4 => rw [hr] at p3; exact p3
        | no => rw [hr] at p3; exact p3
  refine PSs.mono (s_seq main h) fun D σ H ⟨z, A, S, v, hv, hc, h⟩ => ⟨z, A, S, v, hv, hc, ?_⟩
  simp only [ex] at h
  exact h
end
end EV
set_option Elab.async false
set_option linter.all false
set_option maxRecDepth 100000
set_option maxHeartbeats 3200000
namespace EV
open PySem PySem.Spec PyProof.Rows L2
section
variable {c : Cf} {N : List Str} {X : Cx} {sc : Sc} {W : XK} {a b d e : E} {x y w tg : Expr} {pos : Pos} {k k2 : C} {st : Stmt} {rest : List Stmt}
theorem c_setLc (g : Good c N X sc W) {i : Nat} {n : Str} {py p2 : Pos} {m : Bool} {t : Tg} {it cn el : E} {scope : Scope} {ifs : List Expr} {elt iter : Expr} (hn : N[i]? = some n) (hl : sc.eff.names.lookup n = some .local)
    (hsw : swapsWith (.ListComp elt [⟨tg, iter, ifs, 0⟩] scope p2) (some (.Name n py)) pos.line X.env = pure true) (hi : okI c X W it tg iter) (hb : blkC N sc.eff scope (ownOf N (tgV t)) = true) (hs : ∀ env v, foldedSetIterable iter env v = pure v) (ht : okTg N (blkSc sc scope) t tg = true)
    (hcn : ∀ X', Good c N X' (blkSc sc scope) noW → okIf c X' noW cn ifs) (hel : ∀ X', Good c N X' (blkSc sc scope) noW → okE c X' noW el elt) (h : okC c X W k rest) :
    okC c X W (.asg (.one i) (.comp m t it cn el) k) (.Assign [.Name n py] (.ListComp elt [⟨tg, iter, ifs, 0⟩] scope p2) pos :: rest) := by
  have ok : BlkOk X.N X.env.scope scope (ownOf N (tgV t)) := by rw [g.hN, g.hs]; exact blkOk_by hb
  refine PSs.mono (pss_cons (ps_setLc (g := gB c X.K t) (tt := tT c X.K noW cn) (te := tE c X.K noW el) g.calm g.nd (by rw [g.hN]; exact hn) (by rw [g.hs]; exact hl) hsw hi ok (fun s H C cl fp => pg_tg (good_blk g) ht) (fun s H C cl fp => hcn _ (good_blk g)) (fun s H C cl fp => hel _ (good_blk g)) (hs X.env)) h) fun D σ H ⟨z, A, S, v, hv, hc, h⟩ => ?_
  unfold ex at h
  have h1 : tE c X.K W (.comp m t it cn el) σ H (fun x1 H1 => ∃ A1 S1 d1, Grow A H A1 H1 ∧ Cells (c.lay X.K z) A1 S1 H1 ∧ Rel (c.lay X.K z) A1 H1 d1 x1 ∧ PostS (c.lay X.K z) W A1 H1 D (match bindT (.one i) d1 v with
    | some v' => ex c.G c.κ k v' S1
    | none => .no)) := ⟨z, A, S, v, hv, hc, PostS.rgo (rel := Rel (c.lay X.K z)) h⟩
  show tLc _ _ _ _ _ σ H fun x H1 => gName i x σ H1 _
  refine comp_read (m := m) ⟨z, A, S, v, hv, hc, ?_⟩
  obtain ⟨z', A', S', v', hv', hc', p⟩ := h1
  refine (PostS.rgo (rel := Rel (c.lay X.K z)) h).imp fun x1 H1 ⟨A1, S1, d1, g1, c1, r1, p1⟩ => ?_
  exact ⟨z, A1, S1, v.set i (some d1), (hv.grow g1).set r1 i, c1, p1⟩
theorem c_par2 (g : Good c N X sc W) {i j : Nat} {n1 n2 : Str} {es : E} {x1 x2 : Expr} {px py pt pt2 : Pos} {kt k3 : Nat} (h1 : N[i]? = some n1) (h2 : N[j]? = some n2) (hij : i ≠ j) (l1 : sc.eff.names.lookup n1 = some .local) (l2 : sc.eff.names.lookup n2 = some .local)
    (hw : swappedStores [.Tuple [.Name n1 px, .Name n2 py] kt pt] (.Tuple [x1, x2] k3 pt2) X.env = pure (some [n1, n2])) (ha : okEs c X W es [x1, x2]) (h : okC c X W k rest) :
    okC c X W (.asg (.tup [i, j]) (.tup es) k) (.Assign [.Tuple [.Name n1 px, .Name n2 py] kt pt] (.Tuple [x1, x2] k3 pt2) pos :: rest) := by
  refine PSs.mono (pss_cons (ps_par g.calm g.nd (by rw [g.hN]; exact h1) (by rw [g.hN]; exact h2) hij (by rw [g.hs]; exact l1) (by rw [g.hs]; exact l2) ha hw rfl) h) fun D σ H ⟨z, A, S, v, hv, hc, h⟩ => ?_
  simp only [ex, ev] at h
  have e : ((evs c.G c.κ es v S).bind fun ds s => if ds.length ≤ line then .ok (.tup ds) s else (.no : R EV.D)).go v (fun d s => match bindT (.tup [i, j]) d v with
      | some v' => ex c.G c.κ k v' s
      | none => .no) = (evs c.G c.κ es v S).go v fun ds s => if ds.length ≤ line then (match bindT (.tup [i, j]) (.tup ds) v with
      | some v' => ex c.G c.κ k v' s
      | none => .no) else .no := by
    cases evs c.G c.κ es v S with
    | ok ds s =>
      show (if ds.length ≤ line then R.ok (EV.D.tup ds) s else R.no).go v _ = (if ds.length ≤ line then _ else RS.no)
      split <;> rfl
    | ex _ _ => rfl
    | no => rfl
  have h := Eq.mp (congrArg (PostS (c.lay X.K z) W A H D) e) h
  refine ⟨z, A, S, v, hv, hc, (PostS.rgo (rel := Rels (c.lay X.K z)) h).imp fun vs H1 ⟨A1, S1, ds, g1, c1, r1, p1⟩ => ?_⟩
  split at p1
  · match ds, r1, p1 with
    | [d1, d2], r1, p1 =>
      obtain ⟨v1, v2, rfl, q1, q2⟩ := rels2 r1
      exact ⟨v1, v2, rfl, z, A1, S1, _, ((hv.grow g1).set q1 i).set q2 j, c1, p1⟩
    | [], _, p1 => exact p1.elim
    | [_], _, p1 => exact p1.elim
    | _ :: _ :: _ :: _, _, p1 => exact p1.elim
  · exact p1.elim
theorem rels3 {L : Lay} {A : List Addr} {H : Hp} {d e f : EV.D} {vs : List V} (r : Rels L A H [d, e, f] vs) : ∃ x y z, vs = [x, y, z] ∧ Rel L A H d x ∧ Rel L A H e y ∧ Rel L A H f z := by
  obtain ⟨v, t, e1, h1, h2⟩ := (show ∃ v r, _ from by simpa only [Rels] using r)
  obtain ⟨y, z, e2, h3, h4⟩ := rels2 (d := e) (e := f) (vs := t) h2
  exact ⟨v, y, z, by rw [e1, e2], h1, h3, h4⟩
theorem c_par3 (g : Good c N X sc W) {i j l : Nat} {n1 n2 n3 : Str} {es : E} {x1 x2 x3 : Expr} {px py pz pt pt2 : Pos} {kt k3 : Nat} (h1 : N[i]? = some n1) (h2 : N[j]? = some n2) (h3 : N[l]? = some n3) (hij : i ≠ j) (hil : i ≠ l) (hjl : j ≠ l) (l1 : sc.eff.names.lookup n1 = some .local) (l2 : sc.eff.names.lookup n2 = some .local) (l3 : sc.eff.names.lookup n3 = some .local)
    (hw : swappedStores [.Tuple [.Name n1 px, .Name n2 py, .Name n3 pz] kt pt] (.Tuple [x1, x2, x3] k3 pt2) X.env = pure (some [n1, n2, n3])) (ha : okEs c X W es [x1, x2, x3]) (h : okC c X W k rest) :
    okC c X W (.asg (.tup [i, j, l]) (.tup es) k) (.Assign [.Tuple [.Name n1 px, .Name n2 py, .Name n3 pz] kt pt] (.Tuple [x1, x2, x3] k3 pt2) pos :: rest) := by
  refine PSs.mono (pss_cons (ps_par3 g.calm g.nd (by rw [g.hN]; exact h1) (by rw [g.hN]; exact h2) (by rw [g.hN]; exact h3) hij hil hjl (by rw [g.hs]; exact l1) (by rw [g.hs]; exact l2) (by rw [g.hs]; exact l3) ha hw rfl) h) fun D σ H ⟨z, A, S, v, hv, hc, h⟩ => ?_
  simp only [ex, ev] at h
  have e : ((evs c.G c.κ es v S).bind fun ds s => if ds.length ≤ line then .ok (.tup ds) s else (.no : R EV.D)).go v (fun d s => match bindT (.tup [i, j, l]) d v with
      | some v' => ex c.G c.κ k v' s
      | none => .no) = (evs c.G c.κ es v S).go v fun ds s => if ds.length ≤ line then (match bindT (.tup [i, j, l]) (.tup ds) v with
      | some v' => ex c.G c.κ k v' s
      | none => .no) else .no := by
    cases evs c.G c.κ es v S with
    | ok ds s =>
      show (if ds.length ≤ line then R.ok (EV.D.tup ds) s else R.no).go v _ = (if ds.length ≤ line then _ else RS.no)
      split <;> rfl
    | ex _ _ => rfl
    | no => rfl
  have h := Eq.mp (congrArg (PostS (c.lay X.K z) W A H D) e) h
  refine ⟨z, A, S, v, hv, hc, (PostS.rgo (rel := Rels (c.lay X.K z)) h).imp fun vs H1 ⟨A1, S1, ds, g1, c1, r1, p1⟩ => ?_⟩
  split at p1
  · match ds, r1, p1 with
    | [d1, d2, d3], r1, p1 =>
      obtain ⟨v1, v2, v3, rfl, q1, q2, q3⟩ := rels3 r1
      exact ⟨v1, v2, v3, rfl, z, A1, S1, _, (((hv.grow g1).set q1 i).set q2 j).set q3 l, c1, p1⟩
    | [], _, p1 => exact p1.elim
    | [_], _, p1 => exact p1.elim
    | [_, _], _, p1 => exact p1.elim
    | _ :: _ :: _ :: _ :: _, _, p1 => exact p1.elim
  · exact p1.elim
end
end EV
set_option Elab.async false
set_option linter.all false
set_option maxRecDepth 100000
set_option maxHeartbeats 3200000
namespace EV
open PySem PySem.Spec PyProof.Rows L2
theorem belows_set {n : Nat} {d : EV.D} (hd : below n d = true) : ∀ {xs : List EV.D} (k : Nat), belows n xs = true → belows n (xs.set k d) = true
  | [], _, h => by simpa using h
  | x :: xs, 0, h => by
    simp only [belows, Bool.and_eq_true] at h
    simp only [List.set_cons_zero, belows, Bool.and_eq_true]
    exact ⟨hd, h.2⟩
  | x :: xs, k + 1, h => by
    simp only [belows, Bool.and_eq_true] at h
    simp only [List.set_cons_succ, belows, Bool.and_eq_true]
    exact ⟨h.1, belows_set hd k h.2⟩
theorem dkK_eq {a b : DK} : dkEq a b = true ↔ dkK a = dkK b := by
  cases a <;> cases b <;> simp [dkEq, dkK]
theorem lput_hit {κ : Type} [DecidableEq κ] {k : κ} {v u : V} {kvs : List (κ × V)} (h : k ∉ kvs.map (·.1)) : L2.putK ((k, u) :: kvs) k v = (k, v) :: kvs := by
  unfold L2.putK
  rw [if_pos (by simp)]
  simp only [List.map_cons, if_true]
  congr 1
  rw [List.map_congr_left (g := id) (fun p hp => ?_), List.map_id]
  have hne : ¬ p.1 = k := fun e => h (List.mem_map.mpr ⟨p, hp, e⟩)
  simp [hne]
theorem lput_miss {κ : Type} [DecidableEq κ] {k q : κ} {v u : V} {kvs : List (κ × V)} (h : ¬ q = k) : L2.putK ((q, u) :: kvs) k v = (q, u) :: L2.putK kvs k v := by
  unfold L2.putK
  have e : ((q, u) :: kvs).any (fun kv => decide (kv.1 = k)) = kvs.any (fun kv => decide (kv.1 = k)) := by simp [h]
  rw [e]
  split
  · simp [h]
  · rfl
theorem put_rel {L : Lay} {A : List Addr} {H : Hp} {q : DK} {d : EV.D} {x : V} {n : Nat} (rx : Rel L A H d x) (hb : below n d = true) : ∀ {ks : List DK} {ds : List EV.D} {vs : List V}, ks.length = vs.length → ks.Nodup → Rels L A H ds vs → belows n ds = true →
    ∃ vs', ((EV.putK q d ks ds).1.map dkK).zip vs' = L2.putK ((ks.map dkK).zip vs) (dkK q) x ∧ (EV.putK q d ks ds).1.length = vs'.length ∧ (EV.putK q d ks ds).1.Nodup ∧ Rels L A H (EV.putK q d ks ds).2 vs' ∧ belows n (EV.putK q d ks ds).2 = true ∧ (∀ k ∈ (EV.putK q d ks ds).1, k ∈ ks ∨ k = q)
  | [], ds, vs, hl, _, r, _ => by
    have : vs = [] := List.eq_nil_of_length_eq_zero hl.symm
    subst this
    have e : EV.putK q d [] ds = ([q], [d]) := by cases ds <;> rfl
    rw [e]
    exact ⟨[x], rfl, rfl, by simp, .one rx, by simp [belows, hb], fun k hk => .inr (by simpa using hk)⟩
  | k :: ks, [], vs, hl, _, r, _ => by
    simp only [Rels] at r
    subst r; cases hl
  | k :: ks, e :: ds, vs, hl, nd, r, b => by
    obtain ⟨v, r', rfl, h1, h2⟩ := (show ∃ v r, _ from by simpa only [Rels] using r)
    simp only [belows, Bool.and_eq_true] at b
    obtain ⟨nd1, nd2⟩ := List.nodup_cons.mp nd
    by_cases hq : dkEq k q = true
    · have ek : k = q := dkK_inj (dkK_eq.mp hq)
      subst ek
      have e1 : EV.putK k d (k :: ks) (e :: ds) = (k :: ks, d :: ds) := by simp [EV.putK, hq]
      rw [e1]
      refine ⟨x :: r', ?_, by simpa using hl, nd, .cons rx h2, by simp [belows, hb, b.2], fun _ h => .inl h⟩
      simp only [List.map_cons, List.zip_cons_cons]
      rw [lput_hit]
      intro hm
      obtain ⟨p, hp, e2⟩ := List.mem_map.mp hm
      have := (List.of_mem_zip hp).1
      rw [e2] at this
      obtain ⟨k', hk', e3⟩ := List.mem_map.mp this
      exact nd1 (by rw [← dkK_inj e3]; exact hk')
    · have hne : ¬ dkK k = dkK q := fun e => hq (dkK_eq.mpr e)
      have e1 : EV.putK q d (k :: ks) (e :: ds) = (k :: (EV.putK q d ks ds).1, e :: (EV.putK q d ks ds).2) := by simp [EV.putK, hq]
      obtain ⟨vs', i1, i2, i3, i4, i5, i6⟩ := put_rel (q := q) rx hb (ks := ks) (ds := ds) (vs := r') (by simpa using hl) nd2 h2 b.2
      rw [e1]
      refine ⟨v :: vs', ?_, by simp [i2], ?_, .cons h1 i4, by simp [belows, b.1, i5], ?_⟩
      · simp only [List.map_cons, List.zip_cons_cons]
        rw [lput_miss hne, i1]
      · refine List.nodup_cons.mpr ⟨fun hm => ?_, i3⟩
        rcases i6 k hm with h | h
        · exact nd1 h
        · exact hne (by rw [h])
      · intro k' hk'
        rcases List.mem_cons.mp hk' with rfl | hk'
        · exact .inl List.mem_cons_self
        · rcases i6 k' hk' with h | h
          · exact .inl (List.mem_cons_of_mem _ h)
          · exact .inr h
section
variable {c : Cf} {N : List Str} {X : Cx} {sc : Sc} {W : XK} {a b d e : E} {x y w tg : Expr} {pos : Pos} {k k2 : C} {st : Stmt} {rest : List Stmt}
def rSetC (c : Cf) (K : PySem.W.Frag) : V → V → V → Hp → (Hp → Prop) → Prop := fun o i v H Q => ∃ z A S n dk d S', Cells (c.lay K z) A S H ∧ Rel (c.lay K z) A H (.cell n) o ∧ Rel (c.lay K z) A H dk i ∧ Rel (c.lay K z) A H d v ∧ setC S n dk d = some S' ∧
  ∀ H', Grow A H A H' → Cells (c.lay K z) A S' H' → Q H'
theorem pset_c (hu : X.A.units + 1 < cLine) : PSet X (rSetC c X.K) := by
  intro pins s σ H o i v ov iv u Q I ro ri rv ⟨z, A, S, n, dk, d, S', hc, rc, rk, rd, hs, q⟩
  obtain ⟨a, rfl, ea⟩ := cell_at hc rc
  unfold setC at hs
  split at hs
  · rename_i xs e
    cases dk with
    | int j =>
      have hs : (match EV.ixN xs.length j with
        | some j => if below n d then some (S.set n (.lst (xs.set j d))) else none
        | none => none) = some S' := hs
      split at hs
      · rename_i jj hj
        split at hs
        · rename_i hb
          cases hs
          obtain ⟨vs, qH, rs, b⟩ := hc.ok n _ a e ea
          have hl := rs.len
          refine L2.set_list pins s σ H _ _ _ ov iv u _ I ro ri rv ⟨a, vs, j, jj, rfl, by rw [show i = V.int j from rk.w.int], qH, by rw [← hl]; exact hj, ?_⟩
          have G := grow_set (A := A) (H := H) (p := a) (o := HO.lst (vs.set jj v)) ea (by intro od u z; rw [qH] at z; cases z)
          exact q _ G (hc.set ea ⟨vs.set jj v, upd_same, (rs.grow G).set (rd.grow G) jj, belows_set hb jj b⟩ (by intro od u z; rw [qH] at z; cases z))
        · cases hs
      · cases hs
    | _ => cases hs
  · rename_i ks ds e
    split at hs
    · rename_i kk hk
      split at hs
      · rename_i hb
        cases hs
        obtain ⟨vs, qH, hl, nd, rs, b⟩ := hc.ok n _ a e ea
        have ei := keyOf_rel hk (rk.w)
        subst ei
        cases (show ov = Value.ref a from ro)
        have G := fun (o : HO) => grow_set (A := A) (H := H) (p := a) (o := o) ea (by intro od u z; rw [qH] at z; cases z)
        obtain ⟨vs', p1, p2, p3, p4, p5, _⟩ := put_rel (q := kk) rd hb.2 hl nd rs b
        refine d_setItem (H' := upd H a (.dK (L2.putK ((ks.map dkK).zip vs) (dkK kk) v))) hu I (.inl ⟨_, _, qH, rfl, ?_, rfl⟩) ri rv fun s' I' => ⟨_, I', ?_⟩
        · rw [List.length_zip, List.length_map, ← hl, Nat.min_self, ← line_eq]; exact hb.1
        · refine q _ (G _) (hc.set ea ⟨vs', ?_, p2, p3, p4.grow (G _), p5⟩ (by intro od u z; rw [qH] at z; cases z))
          rw [upd_same, p1]
      · cases hs
    · cases hs
  · cases hs
theorem asg_sub {o i : Expr} {env : PySem.Env} (h : isSlice i = false) : ∀ v, assign (.Subscript o i pos) env v = (do
      let ov ← holding [v] (eval o env)
      let iv ← holding [v, ov] (eval i env)
      standAt pos
      holding [v, ov, iv] (setItem ov iv v)
      release [v, ov, iv] []) := by
  intro v
  rw [arm_assign_Subscript]
  cases i <;> first | rfl | cases h
theorem s_seti (g : Good c N X sc W) {i : Nat} {n : Str} {pn ps : Pos} {ix : E} {xi : Expr} (hv : okE c X W (.var i) (.Name n pn)) (hix : okE c X W ix xi) (he : okE c X W a x) (hsl : isSlice xi = false) (hs : swapsWithSole [.Subscript (.Name n pn) xi ps] x pos.line X.env = pure false) (h : okC c X W k rest) :
    okC c X W (.seti i ix a k) (.Assign [.Subscript (.Name n pn) xi ps] x pos :: rest) := by
  have hu : X.A.units + 1 < cLine := by have := g.room.un; omega
  refine PSs.mono (pss_cons (ps_asg he (pg_sub hv hix (pset_c (c := c) hu) (asg_sub hsl)) hs rfl rfl) h) fun D σ H ⟨z, A, S, v, hv, hc, h⟩ => ?_
  unfold ex at h
  refine ⟨z, A, S, v, hv, hc, (PostS.rgo (rel := Rel (c.lay X.K z)) h).imp fun x1 H1 ⟨A1, S1, d1, g1, c1, r1, p1⟩ => ?_⟩
  refine ⟨z, A1, S1, v, hv.grow g1, c1, (PostS.rgo (rel := Rel (c.lay X.K z)) p1).imp fun x2 H2 ⟨A2, S2, d2, g2, c2, r2, p2⟩ => ?_⟩
  refine ⟨z, A2, S2, v, (hv.grow g1).grow g2, c2, (PostS.rgo (rel := Rel (c.lay X.K z)) p2).imp fun x3 H3 ⟨A3, S3, d3, g3, c3, r3, p3⟩ => ?_⟩
  cases d2 with
  | cell m =>
    have p3 : PostS (c.lay X.K z) W A3 H3 D (match setC S3 m d3 d1 with
      | some s' => ex c.G c.κ k v s'
      | none => .no) := p3
    cases hst : setC S3 m d3 d1 with
    | none => rw [hst] at p3; exact p3.elim
    | some S4 =>
      rw [hst] at p3
      exact ⟨z, A3, S3, m, d3, d1, S4, c3, r2.grow g3, r3, (r1.grow g2).grow g3, hst, fun H4 g4 c4 => ⟨z, A3, S4, v, (((hv.grow g1).grow g2).grow g3).grow g4, c4, PostS.later g4 p3⟩⟩
  | _ => exact (show False from p3).elim
theorem put_zip {f : Str} {x : V} : ∀ {fs : List Str} {vs : List V} {i : Nat}, fs.Nodup → fs[i]? = some f → vs.length ≤ fs.length → i ≤ vs.length → putF f x (fs.zip vs) = fs.zip (if i < vs.length then vs.set i x else vs ++ [x])
  | [], vs, i, _, h, _, _ => by simp at h
  | g :: fs, [], 0, nd, h, _, _ => by
    simp only [List.getElem?_cons_zero, Option.some.injEq] at h
    subst h
    simp [putF]
  | g :: fs, [], i + 1, _, _, _, hi => by simp at hi
  | g :: fs, v :: vs, 0, nd, h, _, _ => by
    simp only [List.getElem?_cons_zero, Option.some.injEq] at h
    subst h
    simp [putF]
  | g :: fs, v :: vs, i + 1, nd, h, hl, hi => by
    obtain ⟨nd1, nd2⟩ := List.nodup_cons.mp nd
    simp only [List.getElem?_cons_succ] at h
    have hne : ¬ g = f := fun e => nd1 (by rw [e]; exact List.mem_of_getElem? h)
    have ih := put_zip (x := x) nd2 h (by simpa using hl) (by simpa using hi : i ≤ vs.length)
    simp only [List.zip_cons_cons, putF, if_neg hne, ih]
    by_cases hlt : i < vs.length
    · simp [hlt]
    · simp [hlt]
theorem s_setf (g : Good c N X sc W) {o : E} {xo : Expr} {ps : Pos} {ak : Nat} (ho : okE c X W o xo) (he : okE c X W a x) (hs : swapsWith x (some (.Attribute xo (c.nm.anm ak) ps)) pos.line X.env = pure false) (h : okC c X W k rest) :
    okC c X W (.setf o ak a k) (.Assign [.Attribute xo (c.nm.anm ak) ps] x pos :: rest) := by
  refine PSs.mono (pss_cons (ps_fld ho he hs) h) fun D σ H ⟨z, A, S, v, hv, hc, h⟩ => ?_
  unfold ex at h
  refine ⟨z, A, S, v, hv, hc, (PostS.rgo (rel := Rel (c.lay X.K z)) h).imp fun x1 H1 ⟨A1, S1, d1, g1, c1, r1, p1⟩ => ?_⟩
  refine ⟨z, A1, S1, v, hv.grow g1, c1, (PostS.rgo (rel := Rel (c.lay X.K z)) p1).imp fun x2 H2 ⟨A2, S2, d2, g2, c2, r2, p2⟩ => ?_⟩
  have r1 := r1.grow g2
  cases d2 with
  | cell n =>
    have p2 : PostS (c.lay X.K z) W A2 H2 D (match S2[n]? with
      | some (.ins kc fs) => match (c.G.cl kc).bind fun r => r.fld.lookup ak with
        | some i => if below n d1 then (if i < fs.length then ex c.G c.κ k v (S2.set n (.ins kc (fs.set i d1))) else if i = fs.length then ex c.G c.κ k v (S2.set n (.ins kc (fs ++ [d1]))) else .no) else .no
        | none => .no
      | _ => .no) := p2
    split at p2
    · rename_i kc fs e
      split at p2
      · rename_i i hi
        rw [Option.bind_eq_some_iff] at hi
        obtain ⟨r, hr, hi⟩ := hi
        split at p2
        · rename_i hb
          obtain ⟨l, rfl, el⟩ := cell_at c2 r2
          obtain ⟨dx, vs, qH, hl, rs, b⟩ := c2.ok n _ l e el
          have F := (g.fs.cl kc r hr).ins
          have hfl := F.fld ak i hi
          have G := fun (o : HO) => grow_set (A := A2) (H := H2) (p := l) (o := o) el (by intro od u z; rw [qH] at z; cases z)
          have hlen := rs.len
          have hfew : ((c.cfs kc).zip vs).length < 1000 := by
            have h1 := F.few
            have h2 : ((c.cfs kc).zip vs).length ≤ (c.cfs kc).length := by rw [List.length_zip]; omega
            omega
          have hil : i < (c.cfs kc).length := (List.getElem?_eq_some_iff.mp hfl).1
          refine ⟨l, c.cad kc, dx, (c.cfs kc).zip vs, rfl, qH, F.cls, F.noat _ (List.mem_of_getElem? hfl), hfew, ?_⟩
          split at p2
          · rename_i hlt
            rw [put_zip F.nd hfl hl (by omega), if_pos (by omega)]
            exact ⟨z, A2, _, v, ((hv.grow g1).grow g2).grow (G _), c2.set (c := .ins kc (fs.set i d1)) el ⟨dx, vs.set i x1, upd_same, by rw [List.length_set]; exact hl, (rs.grow (G _)).set (r1.grow (G _)) i, belows_set hb i b⟩ (by intro od u z; rw [qH] at z; cases z), PostS.later (G _) p2⟩
          · split at p2
            · rename_i hlt heq
              rw [put_zip F.nd hfl hl (by omega), if_neg (by omega)]
              refine ⟨z, A2, _, v, ((hv.grow g1).grow g2).grow (G _), c2.set (c := .ins kc (fs ++ [d1])) el ⟨dx, vs ++ [x1], upd_same, ?_, (rs.grow (G _)).app (.one (r1.grow (G _))), belows_app b (by simp [belows, hb])⟩ (by intro od u z; rw [qH] at z; cases z), PostS.later (G _) p2⟩
              rw [List.length_append, List.length_singleton]
              show vs.length + 1 ≤ (c.cfs kc).length
              omega
            · exact p2.elim
        · exact p2.elim
      · exact p2.elim
    · exact p2.elim
  | _ => exact (show False from p2).elim
end
end EV
set_option Elab.async false
set_option linter.all false
set_option maxRecDepth 100000
set_option maxHeartbeats 3200000
namespace EV
open PySem PySem.Spec PyProof.Rows L2
section
variable {c : Cf} {N : List Str} {X : Cx} {sc : Sc} {W : XK} {a b d e : E} {x y w tg : Expr} {pos : Pos}
def stepI (G : Pg) (κ : Nat → List EV.D → St → R EV.D) (t : Tg) (cn el : E) (v : Env) (x : EV.D) (s : St) : R (List EV.D) := match bindT t x (wipeE v (tgV t)) with
    | some v' => elemR G κ cn el v' s
    | none => .no
def stepO (G : Pg) (κ : Nat → List EV.D → St → R EV.D) (t : Tg) (cn : E) (t2 : Tg) (it2 c2 el : E) (v : Env) (x : EV.D) (s : St) : R (List EV.D) := match bindT t x (wipeE v (tgV t ++ tgV t2)) with
    | some v' => (tst (ev G κ cn v' s)).calm.bind fun b s => if b then (evIt G κ it2 v' s).calm.bind fun p2 s => compL (stepI G κ t2 c2 el v') p2.2 p2.1 s else .ok [] s
    | none => .no
theorem calm_stepI {G : Pg} {κ : Nat → List EV.D → St → R EV.D} {t : Tg} {cn el : E} {v : Env} (x : EV.D) (s : St) : Calm (stepI G κ t cn el v x s) := by
  unfold stepI
  split
  · exact calm_calm.bind fun b s => by split; exact calm_calm.map; exact calm_ok
  · exact calm_no
theorem calm_stepO {G : Pg} {κ : Nat → List EV.D → St → R EV.D} {t : Tg} {cn : E} {t2 : Tg} {it2 c2 el : E} {v : Env} (x : EV.D) (s : St) : Calm (stepO G κ t cn t2 it2 c2 el v x s) := by
  unfold stepO
  split
  · refine calm_calm.bind fun b s => ?_
    split
    · exact calm_calm.bind fun p s => calm_comp calm_stepI _ _
    · exact calm_ok
  · exact calm_no
theorem test_ok {z : List Addr} {D : Addr} {L0 : Lay} {A0 : List Addr} {H0 : Hp} {A1 : List Addr} {H1 : Hp} {A' : List Addr} {S' : St} {H' : Hp} {acc : List EV.D} {vs : List V} {cn : E} {v' : Env} {σ' : L2.St} {K : PySem.W.Frag} {b : Bool} {Sb : St} {Q : Bool → Hp → Prop}
    (ci : CI c K z D L0 A0 H0 A1 H1 A' S' H' acc vs) (hv : EnvOk (c.lay K (D :: z)) A' H' v' σ') (e : tst (ev c.G c.κ cn v' S') = .ok b Sb)
    (hN : ∀ A2 H2, Grow A' H' A2 H2 → CI c K z D L0 A0 H0 A1 H1 A2 Sb H2 acc vs → Q b H2) : tT c K noW cn σ' H' Q := by
  refine ⟨D :: z, A', S', v', hv, ci.cs, ?_⟩
  show Post _ noW A' H' _ (tst (ev c.G c.κ cn v' S')) _
  rw [e]
  intro A2 H2 b2 g2 c2 hb
  have hb : b = b2 := hb
  subst hb
  exact hN A2 H2 g2 (ci.grow g2 c2)
theorem comp2_read {m : Bool} {t t2 : Tg} {it cn it2 c2 el : E} {K : PySem.W.Frag} {σ : L2.St} {H : Hp} {Q : VK} (h : tE c K W (.comp2 m t it cn t2 it2 c2 el) σ H Q) :
    tLc2 (tIt c K W it) (gB c K t) (tT c K noW cn) (tIt c K noW it2) (gB c K t2) (tT c K noW c2) (tE c K noW el) ((ownOf N (tgV t ++ tgV t2)).map (·.2)) (tgV t2) σ H Q := by
  obtain ⟨z, A, S, v, hv, hc, h⟩ := h
  rw [own_ix]
  simp only [ev] at h
  obtain ⟨z', A', S', v', hv', hc', p⟩ := tR_bind (rel := ItR) hv hc h
  refine ⟨z', A', S', v', hv', hc', p.imp fun J H1 ⟨A1, S1, d1, g1, e1, c1, r1, p1⟩ D hD => ?_⟩
  have hcalm := calm_comp (step := stepO c.G c.κ t cn t2 it2 c2 el v) (g := d1.2) calm_stepO d1.1 S1
  have p1 : Post (c.lay K z) W A1 H1 (Rel (c.lay K z)) ((compL (stepO c.G c.κ t cn t2 it2 c2 el v) d1.2 d1.1 S1).bind fun ds s => if ds.length ≤ line then alloc m ds s else .no) Q := p1
  cases hr : compL (stepO c.G c.κ t cn t2 it2 c2 el v) d1.2 d1.1 S1 with
  | ex e s => exact absurd hr (hcalm e s)
  | no => rw [hr] at p1; exact (show False from p1).elim
  | ok res S2 =>
    rw [hr] at p1
    have p1 : Post (c.lay K z) W A1 H1 (Rel (c.lay K z)) (if res.length ≤ line then alloc m res S2 else .no) Q := p1
    split at p1
    · rename_i hlen
      have hDz : D ∉ z := c1.freshZ hD
      have ew := wipe_env e1 (tgV t ++ tgV t2)
      refine ⟨fun i mm Hh => mm = d1.1.length - i ∧ CT c K z D (c.lay K z) A1 H1 A1 H1 (stepO c.G c.κ t cn t2 it2 c2 el v) d1.2 d1.1 res S2 i Hh, ⟨d1.1.length, by simp, Nat.zero_le _, A1, S1, [], [], res, ⟨aside_new hD, grow_new c1 hD, upd_same, hide_cells hD c1, .nil⟩, by simpa using hr, rfl⟩, ?_⟩
      rintro i mm Hh ⟨rfl, ct⟩
      by_cases hi : i < d1.1.length
      · obtain ⟨go, k⟩ := ct_go r1 ct hi
        refine .inr ⟨go, fun Hn => CT c K z D (c.lay K z) A1 H1 A1 H1 (stepO c.G c.κ t cn t2 it2 c2 el v) d1.2 d1.1 res S2 (i + 1) Hn, fun H' q => ⟨_, by omega, rfl, q⟩, fun x1 H' hy => ?_⟩
        obtain ⟨A2, S3, acc, vs, d, r0, r1', S4, ci, rd, e4, e5, e6⟩ := k x1 H' hy
        unfold stepO at e4
        split at e4
        · rename_i v2 hbt
          refine ⟨D :: z, A2, S3, d, wipeE v (tgV t ++ tgV t2), v2, ci.lt.env ew, ci.cs, rd, hbt, fun σ2 hσ hl hk => ⟨(wipe_eq hl hk fun i h => List.mem_append_left _ h).trans (wipe_wipe _ _), ?_⟩⟩
          obtain ⟨b, Sb, e7, e8⟩ := bind_inv e4
          refine test_ok ci hσ (calm_inv e7) fun A3 H3 gr3 ci3 => ?_
          cases b with
          | false =>
            rw [if_neg Bool.false_ne_true] at e8 ⊢
            cases e8
            exact ⟨by omega, A3, S4, acc, vs, r1', ci3, e5, by simpa using e6⟩
          | true =>
            rw [if_pos rfl] at e8 ⊢
            obtain ⟨p2, Sc, e9, e10⟩ := bind_inv e8
            have e9 := calm_inv e9
            refine ⟨D :: z, A3, Sb, v2, hσ.grow gr3, ci3.cs, ?_⟩
            show Post _ noW A3 H3 _ (evIt c.G c.κ it2 v2 Sb) _
            rw [e9]
            intro A4 H4 J1 gr4 c4 it1
            have ci4 := ci3.grow gr4 c4
            have hσ4 : EnvOk (c.lay K (D :: z)) A4 H4 v2 σ2 := (hσ.grow gr3).grow gr4
            have ew2 := wipe_env hσ4 (tgV t2)
            have back : ∀ {A5 : List Addr} {S5 : St} {H5 : Hp} {acc5 : List EV.D} {vs5 : List V}, CI c K z D (c.lay K (D :: z)) A4 H4 A1 H1 A5 S5 H5 acc5 vs5 → CI c K z D (c.lay K z) A1 H1 A1 H1 A5 S5 H5 acc5 vs5 := fun q => ⟨ci4.lt.trans q.lt, q.gr, q.hD, q.cs, q.rs⟩
            refine ⟨fun j kk Hh => kk = p2.1.length - j ∧ CT c K z D (c.lay K (D :: z)) A4 H4 A1 H1 (stepI c.G c.κ t2 c2 el v2) p2.2 p2.1 (acc ++ r0) S4 j Hh, ⟨p2.1.length, by simp, Nat.zero_le _, A4, Sc, acc, vs, r0, ⟨Later.refl, ci4.gr, ci4.hD, ci4.cs, ci4.rs⟩, by simpa using e10, rfl⟩, ?_⟩
            rintro j kk Hh2 ⟨rfl, ct2⟩
            by_cases hj : j < p2.1.length
            · obtain ⟨go2, k2⟩ := ct_go it1 ct2 hj
              refine .inr ⟨go2, fun Hn => CT c K z D (c.lay K (D :: z)) A4 H4 A1 H1 (stepI c.G c.κ t2 c2 el v2) p2.2 p2.1 (acc ++ r0) S4 (j + 1) Hn, fun H' q => ⟨_, by omega, rfl, q⟩, fun x2 H5 hy2 => ?_⟩
              obtain ⟨A6, S5, acc2, vs2, d2, q0, q1, S6, ci6, rd6, e42, e52, e62⟩ := k2 x2 H5 hy2
              unfold stepI at e42
              split at e42
              · rename_i w2 hbt2
                refine ⟨D :: z, A6, S5, d2, wipeE v2 (tgV t2), w2, ci6.lt.env ew2, ci6.cs, rd6, hbt2, fun σ3 hσ3 hl3 hk3 => ⟨(wipe_eq hl3 hk3 fun i h => h).trans (wipe_wipe _ _), ?_⟩⟩
                have hl2 : (acc2 ++ q0).length ≤ line := by
                  have h1 : (acc ++ r0).length ≤ line := by
                    rw [← e6] at hlen
                    simp only [List.length_append] at hlen ⊢
                    omega
                  rw [← e62] at h1
                  simp only [List.length_append] at h1 ⊢
                  omega
                exact elem_ok ci6 hD hσ3 e42 hl2 fun A7 H7 vs3 ci7 => ⟨by omega, A7, S6, acc2 ++ q0, vs3, q1, ci7, e52, by rw [List.append_assoc]; exact e62⟩
              · cases e42
            · obtain ⟨stop, A6, vs2, ci6⟩ := ct_stop it1 ct2 hj
              exact .inl ⟨stop, by omega, A6, S4, acc ++ r0, vs2, r1', back ci6, e5, by rw [List.append_assoc]; exact e6⟩
        · cases e4
      · obtain ⟨stop, A2, vs, ci⟩ := ct_stop r1 ct hi
        refine .inl ⟨stop, ?_⟩
        have hDA : D ∉ A2 := (ci.cs.zt D List.mem_cons_self).2
        cases m with
        | false =>
          refine p1 A2 Hh (.ref D) ci.gr (hid_cells ci.cs) ?_
          simp only [Rel]
          exact ⟨D, vs, rfl, .inl ⟨.inl ci.hD, hDA, hDz⟩, hid_rels ci.rs⟩
        | true =>
          have p1 : Post (c.lay K z) W A1 H1 (Rel (c.lay K z)) (if belows S2.length res then .ok (.cell S2.length) (S2 ++ [.lst res]) else .no) Q := p1
          split at p1
          · rename_i hbl
            refine p1 (A2 ++ [D]) Hh (.ref D) ?_ (show_cells ci.cs hDz ci.hD ci.rs hbl) ?_
            · obtain ⟨B, eB⟩ := ci.gr.pre
              refine ⟨⟨B ++ [D], by rw [eB, List.append_assoc]⟩, ci.gr.keep, fun a o e na => ?_, ci.gr.frzs⟩
              simp only [List.mem_append, List.mem_singleton, not_or]
              exact ⟨ci.gr.free a o e na, ne_of_none e hD⟩
            · simp only [Rel]
              exact ⟨D, rfl, by rw [← ci.cs.len]; simp⟩
          · exact p1.elim
    · exact p1.elim
theorem s_comp2 (g : Good c N X sc W) {m : Bool} {t t2 : Tg} {it cn it2 c2 el : E} {scope : Scope} {ifs ifs2 : List Expr} {elt iter tg2 iter2 : Expr} (hi : okI c X W it tg iter) (hb : blkC N sc.eff scope (ownOf N (tgV t ++ tgV t2)) = true) (hs : ∀ env v, foldedSetIterable iter env v = pure v) (hs2 : ∀ env v, foldedSetIterable iter2 env v = pure v)
    (ht : okTg N (blkSc sc scope) t tg = true) (ht2 : okTg N (blkSc sc scope) t2 tg2 = true)
    (hcn : ∀ X', Good c N X' (blkSc sc scope) noW → okIf c X' noW cn ifs) (hi2 : ∀ X', Good c N X' (blkSc sc scope) noW → okI c X' noW it2 tg2 iter2) (hc2 : ∀ X', Good c N X' (blkSc sc scope) noW → okIf c X' noW c2 ifs2) (hel : ∀ X', Good c N X' (blkSc sc scope) noW → okE c X' noW el elt) :
    okE c X W (.comp2 m t it cn t2 it2 c2 el) (.ListComp elt [⟨tg, iter, ifs, 0⟩, ⟨tg2, iter2, ifs2, 0⟩] scope pos) := by
  have ok : BlkOk X.N X.env.scope scope (ownOf N (tgV t ++ tgV t2)) := by rw [g.hN, g.hs]; exact blkOk_by hb
  exact PE.mono (pe_lc2 (g := gB c X.K t) (g1 := gB c X.K t2) (tt := tT c X.K noW cn) (tt1 := tT c X.K noW c2) (te := tE c X.K noW el) (wi1 := tIt c X.K noW it2) (vs1 := tgV t2) g.calm g.nd hi ok (fun i hi => by rw [own_ix]; exact List.mem_append_right _ hi) (fun s H C cl fp => pg_tg (good_blk g) ht) (fun s H C cl fp => hcn _ (good_blk g)) (fun s H C cl fp => hi2 _ (good_blk g))
    (fun s H C cl fp => pg_tg (good_blk g) ht2) (fun s H C cl fp => hc2 _ (good_blk g)) (fun s H C cl fp => hel _ (good_blk g)) (hs X.env) hs2) fun σ H Q h => comp2_read h
theorem s_dct0 {m : Bool} : okE c X W (.dct m [] .nil) (.Dict [] [] pos) := by
  refine PE.mono pe_dnewK fun σ H Q ⟨z, A, S, v, hv, hc, h⟩ p hp => ?_
  simp only [ev, evs] at h
  cases m with
  | false =>
    have h : Post (c.lay X.K z) W A H (Rel (c.lay X.K z)) (if ([] : List DK).length = ([] : List EV.D).length ∧ ([] : List DK).Nodup ∧ ([] : List DK).length ≤ 100 then .ok (.dct [] []) S else .no) Q := h
    rw [if_pos ⟨rfl, List.nodup_nil, by decide⟩] at h
    refine h A (upd H p (.dK [])) (.ref p) (grow_new hc hp) (hc.new hp) ?_
    simp only [Rel]
    exact ⟨p, [], rfl, .inl upd_same, ⟨hc.fresh hp, hc.freshZ hp⟩, rfl, List.nodup_nil, .nil⟩
  | true =>
    have h : Post (c.lay X.K z) W A H (Rel (c.lay X.K z)) (if ([] : List DK).length = ([] : List EV.D).length ∧ ([] : List DK).Nodup ∧ ([] : List DK).length ≤ 100 then (if belows S.length [] then .ok (.cell S.length) (S ++ [.dct [] []]) else .no) else .no) Q := h
    rw [if_pos ⟨rfl, List.nodup_nil, by decide⟩, if_pos (by simp [belows])] at h
    refine h (A ++ [p]) (upd H p (.dK [])) (.ref p) (grow_cell hc hp) (hc.cell hp ⟨[], upd_same, rfl, List.nodup_nil, .nil, by simp [belows]⟩) ?_
    simp only [Rel]
    exact ⟨p, rfl, by rw [← hc.len]; simp⟩
variable {k : C} {rest : List Stmt}
theorem c_setLc2 (g : Good c N X sc W) {i : Nat} {n : Str} {py p2 : Pos} {m : Bool} {t t2 : Tg} {it cn it2 c2 el : E} {scope : Scope} {ifs ifs2 : List Expr} {elt iter tg2 iter2 : Expr} (hn : N[i]? = some n) (hl : sc.eff.names.lookup n = some .local)
    (hsw : swapsWith (.ListComp elt [⟨tg, iter, ifs, 0⟩, ⟨tg2, iter2, ifs2, 0⟩] scope p2) (some (.Name n py)) pos.line X.env = pure true) (hi : okI c X W it tg iter) (hb : blkC N sc.eff scope (ownOf N (tgV t ++ tgV t2)) = true) (hs : ∀ env v, foldedSetIterable iter env v = pure v) (hs2 : ∀ env v, foldedSetIterable iter2 env v = pure v)
    (ht : okTg N (blkSc sc scope) t tg = true) (ht2 : okTg N (blkSc sc scope) t2 tg2 = true)
    (hcn : ∀ X', Good c N X' (blkSc sc scope) noW → okIf c X' noW cn ifs) (hi2 : ∀ X', Good c N X' (blkSc sc scope) noW → okI c X' noW it2 tg2 iter2) (hc2 : ∀ X', Good c N X' (blkSc sc scope) noW → okIf c X' noW c2 ifs2) (hel : ∀ X', Good c N X' (blkSc sc scope) noW → okE c X' noW el elt) (h : okC c X W k rest) :
    okC c X W (.asg (.one i) (.comp2 m t it cn t2 it2 c2 el) k) (.Assign [.Name n py] (.ListComp elt [⟨tg, iter, ifs, 0⟩, ⟨tg2, iter2, ifs2, 0⟩] scope p2) pos :: rest) := by
  have ok : BlkOk X.N X.env.scope scope (ownOf N (tgV t ++ tgV t2)) := by rw [g.hN, g.hs]; exact blkOk_by hb
  refine PSs.mono (pss_cons (ps_setLc2 (g := gB c X.K t) (g1 := gB c X.K t2) (tt := tT c X.K noW cn) (tt1 := tT c X.K noW c2) (te := tE c X.K noW el) (wi1 := tIt c X.K noW it2) (vs1 := tgV t2) g.calm g.nd (by rw [g.hN]; exact hn) (by rw [g.hs]; exact hl) hsw hi ok (fun i hi => by rw [own_ix]; exact List.mem_append_right _ hi) (fun s H C cl fp => pg_tg (good_blk g) ht) (fun s H C cl fp => hcn _ (good_blk g)) (fun s H C cl fp => hi2 _ (good_blk g))
    (fun s H C cl fp => pg_tg (good_blk g) ht2) (fun s H C cl fp => hc2 _ (good_blk g)) (fun s H C cl fp => hel _ (good_blk g)) (hs X.env) hs2) h) fun D σ H ⟨z, A, S, v, hv, hc, h⟩ => ?_
  unfold ex at h
  show tLc2 _ _ _ _ _ _ _ _ _ σ H fun x H1 => gName i x σ H1 _
  refine comp2_read (m := m) ⟨z, A, S, v, hv, hc, ?_⟩
  refine (PostS.rgo (rel := Rel (c.lay X.K z)) h).imp fun x1 H1 ⟨A1, S1, d1, g1, c1, r1, p1⟩ => ?_
  exact ⟨z, A1, S1, v.set i (some d1), (hv.grow g1).set r1 i, c1, p1⟩
theorem s_setit (g : Good c N X sc W) {i j : Nat} {n n2 : Str} {pn ps p2 pt : Pos} {kk : Nat} {ix : E} {xi : Expr} (hv : okE c X W (.var i) (.Name n pn)) (hix : okE c X W ix xi) (he : okE c X W a x) (hsl : isSlice xi = false) (hj : N[j]? = some n2) (hst : okTg.stB sc n2 = true)
    (hs : swapsWithSole [.Tuple [.Subscript (.Name n pn) xi ps, .Name n2 p2] kk pt] x pos.line X.env = pure false) (hw : swappedStores [.Tuple [.Subscript (.Name n pn) xi ps, .Name n2 p2] kk pt] x X.env = pure none) (h : okC c X W k rest) :
    okC c X W (.setit i ix j a k) (.Assign [.Tuple [.Subscript (.Name n pn) xi ps, .Name n2 p2] kk pt] x pos :: rest) := by
  have hu : X.A.units + 1 < cLine := by have := g.room.un; omega
  obtain ⟨k1, k2⟩ := stB_ok g hst
  refine PSs.mono (pss_cons (ps_asg he (pg_tup g.calm (pgs_cons (pg_sub hv hix (pset_c (c := c) hu) (asg_sub hsl)) (pgs_cons (pg_name g.nd (by rw [g.hN]; exact hj) k1 k2) pgs_nil rfl) rfl) rfl rfl) hs hw rfl) h) fun D σ H ⟨z, A, S, v, hv, hc, h⟩ => ?_
  unfold ex at h
  refine ⟨z, A, S, v, hv, hc, (PostS.rgo (rel := Rel (c.lay X.K z)) h).imp fun x1 H1 ⟨A1, S1, d1, g1, c1, r1, p1⟩ => ?_⟩
  cases d1 with
  | tup ds =>
    match ds, r1, p1 with
    | [da, db], r1, p1 =>
      obtain ⟨l, vs, rfl, hq, rs⟩ := r1.w
      obtain ⟨va, r', rfl, ra, rs'⟩ := (show ∃ v r, _ from by simpa only [Rels] using rs)
      obtain ⟨vb, r2', rfl, rb, rs2⟩ := (show ∃ v r, _ from by simpa only [Rels] using rs')
      have e0 : r2' = [] := by simpa only [Rels] using rs2
      subst e0
      refine ⟨l, _, rfl, hq.t, rfl, va, [vb], rfl, ?_⟩
      have p1 : PostS (c.lay X.K z) W A1 H1 D ((ev c.G c.κ (.var i) v S1).go v fun o s => (ev c.G c.κ ix v s).go v fun x s => match o with
        | .cell n => match setC s n x da with
          | some s' => ex c.G c.κ k (v.set j (some db)) s'
          | none => .no
        | _ => .no) := p1
      refine ⟨z, A1, S1, v, hv.grow g1, c1, (PostS.rgo (rel := Rel (c.lay X.K z)) p1).imp fun x2 H2 ⟨A2, S2, d2, g2, c2, r2, p2⟩ => ?_⟩
      refine ⟨z, A2, S2, v, (hv.grow g1).grow g2, c2, (PostS.rgo (rel := Rel (c.lay X.K z)) p2).imp fun x3 H3 ⟨A3, S3, d3, g3, c3, r3, p3⟩ => ?_⟩
      cases d2 with
      | cell m =>
        have p3 : PostS (c.lay X.K z) W A3 H3 D (match setC S3 m d3 da with
          | some s' => ex c.G c.κ k (v.set j (some db)) s'
          | none => .no) := p3
        cases hst : setC S3 m d3 da with
        | none => rw [hst] at p3; exact p3.elim
        | some S4 =>
          rw [hst] at p3
          refine ⟨z, A3, S3, m, d3, da, S4, c3, r2.grow g3, r3, (ra.grow g2).grow g3, hst, fun H4 g4 c4 => ?_⟩
          refine ⟨vb, [], rfl, ?_⟩
          exact ⟨rfl, z, A3, S4, _, ((((hv.grow g1).grow g2).grow g3).grow g4).set (((rb.grow g2).grow g3).grow g4) j, c4, PostS.later g4 p3⟩
      | _ => exact (show False from p3).elim
    | [], r1, p1 => exact (show False from p1).elim
    | [_], r1, p1 => exact (show False from p1).elim
    | _ :: _ :: _ :: _, r1, p1 => exact (show False from p1).elim
  | _ => exact (show False from p1).elim
end
end EV
set_option Elab.async false
set_option linter.all false
set_option maxRecDepth 100000
set_option maxHeartbeats 3200000
namespace EV
open PySem PySem.Spec PyProof.Rows L2
theorem adjust_rev (n : Nat) : Builtin.Slice.sliceAdjust none none (-1) (n : Int) = ((n : Int) - 1, -1) := by
  unfold Builtin.Slice.sliceAdjust
  have h : (-1 : Int) < 0 := by decide
  simp only [h, if_true]
theorem places_rev (n : Nat) : Builtin.Slice.slicePlaces ((n : Int) - 1) (-1) (-1) = n := by
  unfold Builtin.Slice.slicePlaces
  have h1 : ¬ ((-1 : Int) > 0) := by decide
  simp only [h1, if_false]
  have e : ((n : Int) - 1 - -1 - 1) / (- -1) = (n : Int) - 1 := by
    rw [show (- -1 : Int) = 1 by decide, Int.ediv_one]; omega
  rw [e]
  split <;> omega
theorem fm_congr {α β : Type} {f g : α → Option β} : ∀ {l : List α}, (∀ x ∈ l, f x = g x) → l.filterMap f = l.filterMap g
  | [], _ => rfl
  | x :: l, h => by
    rw [List.filterMap_cons, List.filterMap_cons, h x List.mem_cons_self, fm_congr fun y hy => h y (List.mem_cons_of_mem _ hy)]
theorem pick_rev (xs : Array Value) : ((List.range xs.size).filterMap fun (m : Nat) => xs[(((xs.size : Int) - 1) + (m : Int) * (-1)).toNat]?).toArray = xs.toList.reverse.toArray := by
  have e : ((List.range xs.size).filterMap fun (m : Nat) => xs[(((xs.size : Int) - 1) + (m : Int) * (-1)).toNat]?) = ((List.range xs.size).map (fun k => xs.size - 1 - k)).filterMap (xs[·]?) := by
    rw [List.filterMap_map]
    refine fm_congr fun m hm => ?_
    have hm := List.mem_range.mp hm
    have : (((xs.size : Int) - 1) + (m : Int) * (-1)).toNat = xs.size - 1 - m := by omega
    rw [this]; rfl
  rw [e, PySem.W.krv_range, List.filterMap_reverse, PySem.W.krv_all]
section
variable {prog : Program} {w : World} {A : Around} {E : Value → Shared → Prop} {s : Shared}
theorem sliceApplied_rev {sl : Addr} {vs : Value} {n : Nat} {Q : Int × Int × Nat → Shared → Prop} (hs : s.heap.IsSliceOf sl .none .none vs) (pv : IsPart vs (some (-1)))
    (h : Q ((n : Int) - 1, -1, n) s) : wpAny (model prog w) A (Builtin.Slice.sliceApplied (.ref sl) (pure (n : Int))) Q E s := by
  obtain ⟨os, hos, hcs, hds⟩ := id hs
  unfold Builtin.Slice.sliceApplied Builtin.Slice.sliceFields
  refine wpAny_bind (wpAny_bind (wpAny_field hos hds (x := .none) rfl (wpAny_bind (wpAny_field hos hds (x := .none) rfl (wpAny_bind (wpAny_field hos hds (x := vs) rfl (wpAny_pure ?_)))))))
  refine wpAny_bind (HT.slicePart_ pv ?_)
  show wpAny _ _ (if ((-1 : Int) == 0) = true then _ else _) _ _ s
  rw [if_neg (by decide)]
  refine wpAny_bind (HT.slicePart_ .none (wpAny_bind (HT.slicePart_ .none (wpAny_bind (wpAny_pure ?_)))))
  show wpAny _ _ (match Builtin.Slice.sliceAdjust none none (-1) (n : Int) with | (lo, hi) => pure (lo, (-1 : Int), Builtin.Slice.slicePlaces lo hi (-1))) _ _ s
  rw [adjust_rev]
  show wpAny _ _ (pure ((n : Int) - 1, (-1 : Int), Builtin.Slice.slicePlaces ((n : Int) - 1) (-1) (-1))) _ _ s
  rw [places_rev]
  exact wpAny_pure h
theorem getItem_tuple_rev {t sl : Addr} {items : Array Value} {vs : Value} {Q : Value → Shared → Prop} (ht : IsTup s.heap t items) (hs : s.heap.IsSliceOf sl .none .none vs) (pv : IsPart vs (some (-1)))
    (h : Q (.ref s.heap.objs.size) { s with heap := s.heap.push { cls := .type "tuple", data := .seq items.toList.reverse.toArray } })
    (hsz : items.size ≤ sizeLine) : wpAny (model prog w) A (getItem (.ref t) (.ref sl)) Q E s := by
  have htake : sizeOk (.seq items.toList.reverse.toArray) := by
    show items.toList.reverse.toArray.size ≤ sizeLine
    rw [List.size_toArray, List.length_reverse, Array.length_toList]
    exact hsz
  obtain ⟨os, hos, hcs, hds⟩ := id hs
  have hTs : s.TypeIs (.ref sl) "slice" := ⟨os, hos, hcs⟩
  unfold getItem
  try with_reducible refine wpAny_holding ?_
  first | refine wpAny_bind (wpAny_pure ?_) | skip
  refine wpAny_bind (wpAny_sequenceKey ht.typeIs (by decide) ?_)
  refine wpAny_bind (wpAny_callSpecial?_slot (name := Str.ofString "__getitem__") ht.typeIs PyProof.Rows.slot_tuple_getitem
    (wpAny_call_entry PyProof.Rows.slot_tuple_getitem ht.typeIs entry_tuple_getitem ?_ (args_tuple_getitem _ _)))
  show wpAny _ _ (Builtin.Tuple.tupleItemsOf (.ref t) >>= _) _ _ s
  refine wpAny_bind (tupleItemsOf_ ht ?_)
  refine wpAny_bind (wpAny_typeOf hTs ?_)
  rw [if_pos (by decide)]
  refine wpAny_bind (sliceApplied_rev hs pv ?_)
  have hno : ¬ ((((items.size : Int) - 1) == 0 && (-1 : Int) == 1 && items.size == items.size) = true) := by
    intro q
    rw [Bool.and_eq_true, Bool.and_eq_true] at q
    have q1 : ((-1 : Int) == 1) = true := q.1.2
    exact absurd q1 (by decide)
  show wpAny _ _ (if ((((items.size : Int) - 1) == 0 && (-1 : Int) == 1 && items.size == items.size) = true) then _ else _) _ _ s
  rw [if_neg hno, pick_rev]
  first
    | exact wpAny_bind (m := Builtin.Tuple.tupleExact _) (wpAny_newObj_type (wpAny_pure ⟨_, rfl, wpAny_pure h⟩) htake)
    | exact wpAny_bind (m := Builtin.Tuple.tupleExact _) (wpAny_newObj_type (wpAny_bind (wpAny_pure (wpAny_pure ⟨_, rfl, wpAny_pure h⟩))) htake)
    | exact wpAny_bind (wpAny_bind (m := Builtin.Tuple.tupleExact _) (wpAny_newObj_type (wpAny_pure (wpAny_pure ⟨_, rfl, wpAny_pure h⟩)) htake))
    | exact wpAny_bind (wpAny_bind (m := Builtin.Tuple.tupleExact _) (wpAny_newObj_type (wpAny_pure ⟨_, rfl, wpAny_pure h⟩) htake))
end
def tRevA (K : PySem.W.Frag) (te : TE) : TE := fun σ H Q => te σ H fun x H1 => ∃ a xs, x = .ref a ∧ ((SqL K H1 a xs ∧ ∀ p, H1 p = none → Q (.ref p) (upd H1 p (.lst xs.reverse))) ∨ (SqT K H1 a xs ∧ ∀ p, H1 p = none → Q (.ref p) (upd H1 p (.tup xs.reverse))))
theorem pe_revA {X : Cx} {e : Expr} {te : TE} {k : Nat} {p1 p2 p3 pos : Pos} (he : PE X e te) : PE X (.Subscript e (.Slice none none (some (.UnaryOp .USub (.Constant (.int 1) k p1) p2)) p3) pos) (tRevA X.K te) := by
  refine ⟨fun pins s σ H Q I h => ?_⟩
  refine Subscript_ (thn (he.run pins s σ H _ I h) fun v s1 ⟨x, H1, I1, r1, q1⟩ => ?_)
  obtain ⟨a, xs, ex, q⟩ := q1
  subst ex
  cases r1
  have hst : PO X (some (.UnaryOp .USub (.Constant (.int 1) k p1) p2)) (tPart (tUn (rU fun i => V.int (-i)) (L2.tC (V.int 1)))) := po_some (pe_un un_neg pe_int)
  refine wpAny_Slice (thn (po_none.run pins s1 σ H1 (fun o H2 => o = none ∧ H2 = H1) I1 ⟨rfl, rfl⟩) fun vl s2 ⟨l, H2, I2, pl, el, e2⟩ => ?_)
  subst el e2
  refine thn (po_none.run pins s2 σ H2 (fun o H3 => o = none ∧ H3 = H2) I2 ⟨rfl, rfl⟩) fun vu s3 ⟨u, H3, I3, pu, eu, e3⟩ => ?_
  subst eu e3
  refine thn (hst.run pins s3 σ H3 (fun o H4 => o = some (-1) ∧ H4 = H3) I3 ⟨1, rfl, -1, rfl, rfl, rfl⟩) fun vs s4 ⟨o, H4, I4, ps, eo, e4⟩ => ?_
  subst eo e4
  cases pl
  cases pu
  have I5 : Inv X pins σ H4 { s4 with heap := s4.heap.push { cls := .type "slice", data := .fields #[.none, .none, vs] } } := I4.kept (t' := s4.toks) fun b ob q => Heap.get?_push_of_some _ q
  show wpAny (model X.prog X.w) X.A (subscriptTail e (.Slice none none (some (.UnaryOp .USub (.Constant (.int 1) k p1) p2)) p3) (.ref a) (.ref s4.heap.objs.size)) (EP X pins σ Q) X.xe { s4 with heap := s4.heap.push { cls := .type "slice", data := .fields #[.none, .none, vs] } }
  rcases q with ⟨hx, q⟩ | ⟨hx, q⟩
  · obtain ⟨its, r, ht, hz⟩ := I5.list hx
    have hlen := r.length
    refine tail_any (ops := [.ref a, .ref s4.heap.objs.size]) ht.isList.typeIs (PySem.slot_list_getitem.lookup) ?_ (by with_unfolding_all rfl)
    refine wpAny_getItem_list_slice ht.isList (Heap.IsSliceOf.new _ .none .none vs) .none .none ps (by decide) ?_ (by rw [List.size_toArray]; omega)
    rw [PySem.W.krv_pick]
    refine ⟨.ref _, _, I5.laid (t' := s4.toks) (o := .lst xs.reverse) (fun b ob q => Heap.get?_push_of_some _ q) (Nat.le_refl _) ?_, rfl, q _ (I5.hok.fresh (Nat.le_refl _))⟩
    exact ⟨by rw [List.length_reverse]; exact hz, _, 0, r.reverse, Heap.get?_push_size _ rfl⟩
  · obtain ⟨its, r, ht, hz⟩ := I5.tuple hx
    have hlen := r.length
    have ht' : IsTup { s4 with heap := s4.heap.push { cls := .type "slice", data := .fields #[.none, .none, vs] } }.heap a its.toArray := ht
    refine tail_any (ops := [.ref a, .ref s4.heap.objs.size]) ht'.typeIs (PyProof.Rows.slot_tuple_getitem.lookup) ?_ (by with_unfolding_all rfl)
    refine getItem_tuple_rev ht' (Heap.IsSliceOf.new _ .none .none vs) ps ?_ (by rw [List.size_toArray]; omega)
    refine ⟨.ref _, _, I5.laid (t' := s4.toks) (o := .tup xs.reverse) (fun b ob q => Heap.get?_push_of_some _ q) (Nat.le_refl _) ?_, rfl, q _ (I5.hok.fresh (Nat.le_refl _))⟩
    have hn := Heap.get?_push_size ({ s4 with heap := s4.heap.push { cls := .type "slice", data := .fields #[.none, .none, vs] } } : Shared).heap (o := { cls := .type "tuple", data := .seq its.reverse.toArray }) rfl
    exact ⟨by rw [List.length_reverse]; exact hz, its.reverse, r.reverse, ⟨_, hn, rfl, _, rfl⟩⟩
theorem Rels.reverse {L : Lay} {A : List Addr} {H : Hp} : ∀ {ds : List EV.D} {vs : List V}, Rels L A H ds vs → Rels L A H ds.reverse vs.reverse
  | [], vs, r => by
    have e : vs = [] := by simpa only [Rels] using r
    subst e; exact .nil
  | d :: ds, vs, r => by
    obtain ⟨x, r', e, h1, h2⟩ := (show ∃ v r, _ from by simpa only [Rels] using r)
    subst e
    rw [List.reverse_cons, List.reverse_cons]
    exact Rels.app (Rels.reverse h2) (.one h1)
section
variable {c : Cf} {N : List Str} {X : Cx} {sc : Sc} {W : XK} {a b d e : E} {x y w : Expr} {pos : Pos}
theorem s_slR {m : Bool} {k : Nat} {p1 p2 p3 : Pos} (ha : okE c X W a x) : okE c X W (.sl m 1 a .nil .nil) (.Subscript x (.Slice none none (some (.UnaryOp .USub (.Constant (.int 1) k p1) p2)) p3) pos) := by
  refine PE.mono (pe_revA ha) fun σ H Q ⟨z, A, S, v, hv, hc, h⟩ => ?_
  simp only [ev] at h
  obtain ⟨z', A', S', v', hv', hc', p⟩ := tR_bind (rel := Rel) hv hc h
  refine ⟨z', A', S', v', hv', hc', p.imp fun x1 H1 ⟨A1, S1, d1, g1, e1, c1, r1, p1⟩ => ?_⟩
  have wd := view_rel c1 r1
  have p1 : Post (c.lay X.K z) W A1 H1 (Rel (c.lay X.K z)) (match slL 1 (view S1 d1) none none with
    | some xs => alloc m xs S1
    | none => R.opt (slD 1 (view S1 d1) none none) S1) Q := p1
  cases hd : view S1 d1 with
  | lst xs =>
    rw [hd] at wd p1
    have p1 : Post (c.lay X.K z) W A1 H1 (Rel (c.lay X.K z)) (alloc m xs.reverse S1) Q := p1
    obtain ⟨l, vs, rfl, q, rs⟩ := wd
    exact ⟨l, vs, rfl, .inl ⟨q, fun pn hp => post_alloc p1 c1 rs.reverse hp⟩⟩
  | tup xs =>
    rw [hd] at wd p1
    have p1 : Post (c.lay X.K z) W A1 H1 (Rel (c.lay X.K z)) (.ok (.tup xs.reverse) S1) Q := p1
    obtain ⟨l, vs, rfl, q, rs⟩ := wd
    exact ⟨l, vs, rfl, .inr ⟨q.t, fun pn hp => post_tup p1 c1 rs.reverse hp⟩⟩
  | _ => rw [hd] at p1; exact (show False from p1).elim
theorem s_dct1 {m : Bool} {t : List Nat} {i : Int} {j1 j2 : Nat} {q1 q2 : Pos} {y : Str} (hy : y = SS t) : okE c X W (.dct m [.str t] (.cons (.con (.int i)) .nil)) (.Dict [some (.Constant (.str y) j1 q1)] [.Constant (.int i) j2 q2] pos) := by
  subst hy
  refine PE.mono (pe_disp (pps_cons pe_str pe_int pps_nil) rfl rfl (by simp) (by simp)) fun σ H Q ⟨z, A, S, v, hv, hc, h⟩ p hp => ?_
  simp only [ev, evs] at h
  refine ⟨upd_same, [(.inr (SS t), .int i)], rfl, by simp, ?_⟩
  rw [upd_upd]
  have nd : ([.str t] : List DK).Nodup := by simp
  have rr : ∀ A2 H2, Rels (c.lay X.K z) A2 H2 [.int i] [.int i] := fun _ _ => .one rel_int
  cases m with
  | false =>
    have h : Post (c.lay X.K z) W A H (Rel (c.lay X.K z)) (if ([.str t] : List DK).length = ([.int i] : List EV.D).length ∧ ([.str t] : List DK).Nodup ∧ ([.str t] : List DK).length ≤ 100 then .ok (.dct [.str t] [.int i]) S else .no) Q := h
    rw [if_pos ⟨rfl, nd, by simp⟩] at h
    refine h A (upd H p (.dK (mergeK [] [(.inr (SS t), .int i)]))) (.ref p) (grow_new hc hp) (hc.new hp) ?_
    simp only [Rel]
    exact ⟨p, [.int i], rfl, .inl upd_same, ⟨hc.fresh hp, hc.freshZ hp⟩, rfl, nd, rr _ _⟩
  | true =>
    have h : Post (c.lay X.K z) W A H (Rel (c.lay X.K z)) (if ([.str t] : List DK).length = ([.int i] : List EV.D).length ∧ ([.str t] : List DK).Nodup ∧ ([.str t] : List DK).length ≤ 100 then (if belows S.length [.int i] then .ok (.cell S.length) (S ++ [.dct [.str t] [.int i]]) else .no) else .no) Q := h
    rw [if_pos ⟨rfl, nd, by simp⟩, if_pos (by simp [belows, below])] at h
    refine h (A ++ [p]) (upd H p (.dK (mergeK [] [(.inr (SS t), .int i)]))) (.ref p) (grow_cell hc hp) (hc.cell hp ⟨[.int i], upd_same, rfl, nd, rr _ _, by simp [belows, below]⟩) ?_
    simp only [Rel]
    exact ⟨p, rfl, by rw [← hc.len]; simp⟩
end
end EV
set_option Elab.async false
set_option linter.all false
set_option maxRecDepth 100000
set_option maxHeartbeats 3200000
namespace EV
open PySem PySem.Spec PyProof.Rows L2
section
variable {c : Cf} {N : List Str} {X : Cx} {sc : Sc} {W : XK} {a b d e : E} {x y w tg : Expr} {pos : Pos}
theorem tT_val {σ : L2.St} {H : Hp} {K : PySem.W.Frag} {Q : Bool → Hp → Prop} (h : tT c K W e σ H Q) : tE c K W e σ H (fun x H' => ∃ k, x = .bl k ∧ Q k H') := by
  obtain ⟨z, A, S, v, hv, hc, h⟩ := h
  exact ⟨z, A, S, v, hv, hc, (Post.tst h).imp fun x1 H1 ⟨k, e, q⟩ => ⟨k, e, q⟩⟩
def rCmpE (c : Cf) (K : PySem.W.Frag) (W : XK) (op : CmpOp) : R2 := fun x y H Q => ∃ z : List Addr, rCmp (c.lay K z) W op x y H Q
theorem op_cmpE (hr : X.A.units + 65 < cLine) (op : CmpOp) : OpR X (compareOp op) (rCmpE c X.K W op) := OpR.ex fun z : List Addr => op_cmp (z := z) (cad := c.cad) (cfs := c.cfs) (W := W) hr op
theorem cmp_read {K : PySem.W.Frag} {op : CmpOp} {σ : L2.St} {H : Hp} {Q : VK} (h : tE c K W (.cmp op a b) σ H Q) : tOp (rCmpE c K W op) (tE c K W a) (tE c K W b) σ H Q := by
  obtain ⟨z, A, S, v, hv, hc, h⟩ := h
  simp only [ev] at h
  obtain ⟨z', A', S', v', hv', hc', p⟩ := tR_bind (rel := Rel) hv hc h
  refine ⟨z', A', S', v', hv', hc', p.imp fun x1 H1 ⟨A1, S1, d1, g1, e1, c1, r1, p1⟩ => ?_⟩
  obtain ⟨z2, A2, S2, v2, hv2, hc2, p2⟩ := tR_bind (rel := Rel) e1 c1 p1
  refine ⟨z2, A2, S2, v2, hv2, hc2, p2.imp fun x2 H2 ⟨A3, S3, d2, g2, e2, c2, r2, p3⟩ => ?_⟩
  refine ⟨z, A3, S3, view S3 d1, view S3 d2, c2, view_rel c2 (r1.grow g2), view_rel c2 r2, ?_⟩
  unfold cmpI at p3
  split at p3
  · exact p3.elim
  · exact p3.elim
  · exact p3
theorem s_cmp (hr : X.A.units + 65 < cLine) {op : CmpOp} (ha : okE c X W a x) (hb : okE c X W b y) (hm : behindInMarks op y = false) : okE c X W (.cmp op a b) (.Compare x [op] [y] pos) :=
  PE.mono (pe_cmpR (op_cmpE (c := c) (W := W) hr op) ha hb hm) fun σ H Q h => cmp_read h
theorem t_cmp (hr : X.A.units + 65 < cLine) {op : CmpOp} (ha : okE c X W a x) (hb : okE c X W b y) (hm : behindInMarks op y = false) : okT c X W (.cmp op a b) (.Compare x [op] [y] pos) :=
  PT.mono (pt_cmpR (op_cmpE (c := c) (W := W) hr op) ha hb hm) fun σ H Q h => cmp_read (tT_val h)
theorem cmp2_read {K : PySem.W.Frag} {o p : CmpOp} {σ : L2.St} {H : Hp} {Q : VK} (h : tE c K W (.cmp2 o p a b d) σ H Q) : tChain (rCmpE c K W o) (rCmpE c K W p) (tE c K W a) (tE c K W b) (tE c K W d) σ H Q := by
  obtain ⟨z, A, S, v, hv, hc, h⟩ := h
  simp only [ev] at h
  obtain ⟨z', A', S', v', hv', hc', q⟩ := tR_bind (rel := Rel) hv hc h
  refine ⟨z', A', S', v', hv', hc', q.imp fun x1 H1 ⟨A1, S1, d1, g1, e1, c1, r1, p1⟩ => ?_⟩
  obtain ⟨z2, A2, S2, v2, hv2, hc2, p2⟩ := tR_bind (rel := Rel) e1 c1 p1
  refine ⟨z2, A2, S2, v2, hv2, hc2, p2.imp fun x2 H2 ⟨A3, S3, d2, g2, e2, c2, r2, p3⟩ => ?_⟩
  refine ⟨z, A3, S3, d1, d2, c2, (r1.grow g2).w, r2.w, ?_⟩
  cases hk : cmpO o d1 d2 with
  | none => rw [hk] at p3; exact p3.elim
  | some k =>
    rw [hk] at p3
    intro A4 H4 b4 g4 c4 r4
    obtain rfl : b4 = V.bl k := r4.w.bl
    refine ⟨k, rfl, ?_⟩
    cases k with
    | false =>
      have p3 : Post (c.lay K z) W A3 H2 (Rel (c.lay K z)) (.ok (.bl false) S3) Q := p3
      exact p3 A4 H4 _ g4 c4 rel_bl
    | true =>
      have p3 : Post (c.lay K z) W A3 H2 (Rel (c.lay K z)) ((ev c.G c.κ d v S3).bind fun z s => R.opt ((cmpO p d2 z).map .bl) s) Q := p3
      obtain ⟨z5, A5, S5, v5, hv5, hc5, p5⟩ := tR_bind (rel := Rel) (e2.grow g4) c4 (p3.later g4)
      refine ⟨z5, A5, S5, v5, hv5, hc5, p5.imp fun x6 H6 ⟨A6, S6, d6, g6, e6, c6, r6, p6⟩ => ?_⟩
      exact ⟨z, A6, S6, d2, d6, c6, ((r2.grow g4).grow g6).w, r6.w, p6⟩
theorem t_cmp2 (hr : X.A.units + 65 < cLine) {o p : CmpOp} (ha : okE c X W a x) (hb : okE c X W b y) (hd : okE c X W d w) (hm : lastMarks [o, p] [y, w] = false) : okT c X W (.cmp2 o p a b d) (.Compare x [o, p] [y, w] pos) :=
  PT.mono (pt_chain (op_cmpE (c := c) (W := W) hr o) (op_cmpE (c := c) (W := W) hr p) ha hb hd hm) fun σ H Q h => cmp2_read (tT_val h)
theorem t_of_cmp {ops : List CmpOp} {ys : List Expr} {t : TE} (h : PT X (.Compare x ops ys pos) (tTest t)) (k : ∀ σ H Q, tE c X.K W e σ H Q → t σ H Q) : okT c X W e (.Compare x ops ys pos) := PT.mono h fun σ H Q q => k σ H _ (tT_val q)
theorem t_isn {ng : Bool} {k : Nat} {p' : Pos} (ha : okE c X W a x) : okT c X W (.isn a ng) (.Compare x [if ng then .IsNot else .Is] [.Constant .none k p'] pos) := by
  cases ng with
  | false =>
    refine PT.mono (pt_cmp (pc_isN ha)) fun σ H Q h => ?_
    have := isn_read (tT_val h)
    simp only [Bool.bne_false] at this
    exact this
  | true =>
    refine PT.mono (pt_cmp (pc_notN ha)) fun σ H Q h => ?_
    have := isn_read (tT_val h)
    simp only [Bool.bne_true] at this
    exact this
theorem isb_read {b ng : Bool} {σ : L2.St} {H : Hp} {Q : VK} (h : tE c X.K W (.isb a b ng) σ H Q) : tE c X.K W a σ H fun x H1 => ∃ t, x = .bl t ∧ Q (.bl (decide (t = b) != ng)) H1 := by
  obtain ⟨z, A, S, v, hv, hc, h⟩ := h
  simp only [ev] at h
  obtain ⟨z', A', S', v', hv', hc', p⟩ := tR_bind (rel := Rel) hv hc h
  refine ⟨z', A', S', v', hv', hc', p.imp fun x1 H1 ⟨A1, S1, d1, g1, e1, c1, r1, p1⟩ => ?_⟩
  cases d1 with
  | bl t => exact ⟨t, r1.w.bl, p1.ok c1 rel_bl⟩
  | _ => exact p1.elim
theorem t_isb {b ng : Bool} {k : Nat} {p' : Pos} (ha : okE c X W a x) : okT c X W (.isb a b ng) (.Compare x [if ng then .IsNot else .Is] [.Constant (.bool b) k p'] pos) := by
  cases ng with
  | false =>
    refine PT.mono (pt_cmpR op_isBl ha pe_bl rfl) fun σ H Q h => ?_
    obtain ⟨z', A', S', v', hv', hc', p⟩ := isb_read (tT_val h)
    exact ⟨z', A', S', v', hv', hc', p.imp fun x1 H1 ⟨t, e, q⟩ => ⟨t, b, e, rfl, by simpa using q⟩⟩
  | true =>
    refine PT.mono (pt_cmpR op_notBl ha pe_bl rfl) fun σ H Q h => ?_
    obtain ⟨z', A', S', v', hv', hc', p⟩ := isb_read (tT_val h)
    exact ⟨z', A', S', v', hv', hc', p.imp fun x1 H1 ⟨t, e, q⟩ => ⟨t, b, e, rfl, by simpa using q⟩⟩
def plainT : Expr → Bool
  | .UnaryOp .Not _ _ => false | .BoolOp .. => false | .IfExp .. => false | .Compare .. => false
  | _ => true
theorem plainT_ok {env : PySem.Env} (h : plainT x = true) : ∀ whole, PySem.isTrue x env whole = (do let v ← whole; standAt x.pos; holding [v] (truthy v)) := by
  intro whole
  cases x with
  | UnaryOp op y p => cases op <;> first | rfl | cases h
  | BoolOp _ _ _ => cases h
  | IfExp _ _ _ _ => cases h
  | Compare _ _ _ _ => cases h
  | _ => rfl
theorem t_plain (h : okE c X W e x) (hp : plainT x = true) : okT c X W e x := t_val h (plainT_ok hp)
end
end EV
set_option Elab.async false
set_option linter.all false
set_option maxRecDepth 100000
set_option maxHeartbeats 3200000
namespace EV
open PySem PySem.Spec PyProof.Rows L2
section
variable {M : Model} {prog : Program} {w : World} {A : Around} {E : Value → Shared → Prop} {s : Shared} {K : PySem.W.Frag} {x C f : Addr} {ox : Obj} {od : Option Obj} {b : Value}
theorem ifBound_objNe {args : List Value} {Q : Option Value → Shared → Prop} (X : K.In s.heap) (I : PySem.W.InstAt s.heap x ox C od) (hs : PySem.W.findIn K (.ref C) "__ne__" = some (some (.builtin "object.__ne__")))
    (h : wpAny M A (call (.builtin "object.__ne__") (.ref x :: args)) (fun v => Q (some v)) E s) : wpAny M A (callSpecialIfBound? (.ref x) "__ne__" args) Q E s := by
  simp only [callSpecialIfBound?, bindSpecialIfBound?]
  refine wpAny_holding (wpAny_bind (wpAny_bind (wpAny_bind (I.type.here ((PySem.W.looks_findIn X hs).here ?_)))))
  refine wpAny_bind (wpAny_askSetting (wpAny_ite ?_))
  have fin : wpAny M A (call (.builtin "object.__ne__") ([.ref x] ++ args) >>= fun v => pure (some v)) Q E s := wpAny_bind (wpAny_mono h (fun v s' h' => wpAny_pure h') fun _ _ h' => h')
  split
  · exact wpAny_bind (wpAny_of_eq (F.cmp_object.ne.bind _) (wpAny_pure (by exact fin)))
  · exact wpAny_tryCatch (wpAny_bind (wpAny_of_eq (F.cmp_object.ne.bind _) (wpAny_pure (by exact fin))))
theorem objNe_own {Q : Fin → Shared → Prop} (hu : A.units < cLine) (X : K.In s.heap) (I : PySem.W.InstAt s.heap x ox C od) (he : PySem.W.findIn K (.ref C) "__eq__" = some (some (.ref f))) (hf : PySem.W.isFn K (.ref f) = true)
    (hcall : wpAny (model prog w) A (call (.ref f) [.ref x, b]) (fun v s' => ∃ t, v = .bool t ∧ Q (.done (.ret (.bool (!t)))) s') E s) : wpAny (model prog w) A (Builtin.«object.__ne__» ⟨[.ref x, b], []⟩) Q E s := by
  unfold Builtin.«object.__ne__»
  repeat (first
    | with_reducible refine wpAny_cRoomFor hu ?_
    | (refine wpAny_bind (m := callSpecialIfBound? (.ref x) (Str.ofString "__eq__") [b])
        (PySem.W.ifBound_K X I he hf (wpAny_mono hcall (fun r s' hr => by
          obtain ⟨t, rfl, hq⟩ := hr
          repeat (first | exact hq | exact wpAny_pure hq | exact wpAny_truthy_bool hq | (refine wpAny_bind (m := truthy (.bool _)) (wpAny_truthy_bool ?_)) | wp_step)) fun _ _ e => e)))
    | wp_step)
theorem rich_ne {h₀ : Heap} {L : Addr} {m : Str → Option Value} {tb : Value} {Q : Value → Shared → Prop} (hu : A.units + 1 < cLine) (Fm : Fr h₀ L s.heap m) (X₀ : K.In h₀) (I : PySem.W.InstAt s.heap x ox C od) (hb : PySem.W.Looks (model prog w) s.heap (typeOf b) tb) (hn : PySem.W.notFirst K C tb = true)
    (hs : PySem.W.findIn K (.ref C) "__ne__" = some (some (.builtin "object.__ne__"))) (he : PySem.W.findIn K (.ref C) "__eq__" = some (some (.ref f))) (hf : PySem.W.isFn K (.ref f) = true) (hm : PySem.W.mroIn K C (.type "object") = some true)
    (h : wpAny (model prog w) A.in1 (call (.ref f) [.ref x, b]) (fun v s' => ∃ t, v = .bool t ∧ Q (.bool (!t)) s') E s) : wpAny (model prog w) A (richCompare .NotEq (.ref x) b) Q E s := by
  have X := X₀.keeps Fm.keep
  have one : wpAny (model prog w) A (tryCompare (.ref x) (PySem.cmpInfo .NotEq).2.1 b) (fun r s' => ∃ v, r = some v ∧ Q v s') E s := by
    rw [cmpInfo_NotEq]
    unfold tryCompare
    refine wpAny_bind (ifBound_objNe X I hs (wpAny_call (codeAny_call_builtin F.cmp_object.ne.plain F.cmpEntry_ne (PySem.W.check_slot F.cmpKind_ne F.cmpSplit_ne (I.type.andThen (PySem.W.looks_mroIn X hm)) (F.cmpArgs_ne _ _)
      (objNe_own (A := A.in1) (by show A.units + 1 < cLine; exact hu) X I he hf (wpAny_mono h (fun v s' hv => ?_) fun _ _ e => e))))))
    obtain ⟨t, rfl, hq⟩ := hv
    refine ⟨t, rfl, ?_⟩
    first | exact wpAny_pure ⟨_, rfl, hq⟩ | exact ⟨_, rfl, hq⟩
  unfold richCompare
  simp only [oneThing_ref]
  refine wpAny_holding (wpAny_bind (wpAny_cRoomFor (by omega) ?_))
  refine wpAny_bind (I.type.here (wpAny_bind (hb.here ?_)))
  split
  · rename_i q
    have e : PySem.W.subIn K tb (.ref C) = some false := by
      rcases Bool.or_eq_true_iff.mp hn with e | e
      · rw [beq_iff_eq.mp e] at q; simp at q
      · exact beq_iff_eq.mp e
    refine wpAny_bind ((PySem.W.looks_subIn X e).here ?_)
    simp only [Bool.false_eq_true, if_false]
    refine wpAny_bind (wpAny_mono one (fun r s' z => ?_) fun _ _ e => e)
    obtain ⟨v, rfl, hq⟩ := z
    exact wpAny_pure hq
  · refine wpAny_bind (wpAny_pure ?_)
    simp only [Bool.false_eq_true, if_false]
    refine wpAny_bind (wpAny_mono one (fun r s' z => ?_) fun _ _ e => e)
    obtain ⟨v, rfl, hq⟩ := z
    exact wpAny_pure hq
end
section
variable {c : Cf} {N : List Str} {X : Cx} {sc : Sc} {W : XK} {a b d e : E} {x y w tg : Expr} {pos : Pos}
def opN (ng : Bool) : CmpOp := if ng then .NotEq else .Eq
def rEqi (c : Cf) (K : PySem.W.Frag) (W : XK) (ng : Bool) : R2 := fun x y H Q => ∃ z A S d e, Cells (c.lay K z) A S H ∧ Rel (c.lay K z) A H d x ∧ Rel (c.lay K z) A H e y ∧ Post (c.lay K z) W A H (Rel (c.lay K z)) (eqiX c.G c.κ ng d e S) Q
theorem op_eqi (g : Good c N X sc W) (ng : Bool) : OpR X (compareOp (opN ng)) (rEqi c X.K W ng) := by
  intro pins s σ H x y v u Q I rx ry h
  obtain ⟨z, A, S, d, e, hc, rd, re, p⟩ := h
  have wd := view_rel hc rd
  have we := view_rel hc re
  unfold eqiX at p
  cases hv : view S d with
  | ins k fs =>
    cases hv2 : view S e with
    | ins k2 fs2 =>
      rw [hv] at wd p
      rw [hv2] at we p
      have p : Post (c.lay X.K z) W A H (Rel (c.lay X.K z)) (if k = k2 then (match (c.G.cl k).bind ClR.eqF with
        | some f => (c.κ f [d, e] S).calm.bind fun n s => match n with
          | .bl t => .ok (.bl (t != ng)) s
          | _ => .no
        | none => .no) else .no) Q := p
      split at p
      · rename_i hkk
        subst hkk
        obtain ⟨l, dx, vs, rfl, q, hl, r2⟩ := ins_of wd
        obtain ⟨l2, dx2, vs2, rfl, q2, hl2, r22⟩ := ins_of we
        cases hk : c.G.cl k with
        | none => simp only [hk, Option.bind_none] at p; exact p.elim
        | some cr =>
          cases hf : cr.eqF with
          | none => simp only [hk, Option.bind_some, hf] at p; exact p.elim
          | some f =>
            simp only [hk, Option.bind_some, hf] at p
            have Fc := g.fs.cl k cr hk
            obtain ⟨f1, f2, f3⟩ := Fc.ins.eqF f hf
            obtain ⟨m, Fm⟩ := I.fr
            obtain ⟨ob, od, J⟩ := inst_at I q
            obtain ⟨ob2, od2, J2⟩ := inst_at I q2
            cases (show v = Value.ref l from rx)
            cases (show u = Value.ref l2 from ry)
            have rr : Rels (c.lay X.K z) A H [d, e] [V.ref l, V.ref l2] := .cons rd (.cons re .nil)
            have rv2 : Vals [V.ref l, V.ref l2] [Value.ref l, Value.ref l2] := .cons rfl (.cons rfl .nil)
            have fin : ∀ {v s'}, EP X pins σ (fun b H1 => ∃ A1 S1 a, Grow A H A1 H1 ∧ Cells (c.lay X.K z) A1 S1 H1 ∧ Rel (c.lay X.K z) A1 H1 a b ∧ Post (c.lay X.K z) W A1 H1 (Rel (c.lay X.K z)) ((fun n s => match n with
                | .bl t => .ok (.bl (t != ng)) s
                | _ => .no : EV.D → EV.St → R EV.D) a S1) Q) v s' → ∃ t, v = .bool t ∧ EP X pins σ Q (.bool (t != ng)) s' := fun {v s'} hq => by
              obtain ⟨y, H', I', rv, A1, S1, d1, g1, c1, rr1, p1⟩ := hq
              cases d1 with
              | bl t =>
                have p1 : Post (c.lay X.K z) W A1 H' (Rel (c.lay X.K z)) (.ok (.bl (t != ng)) S1) Q := p1
                rw [rr1.w.bl] at rv
                cases (show v = Value.bool t from rv)
                exact ⟨t, rfl, .bl (t != ng), H', I', rfl, p1.ok c1 rel_bl⟩
              | _ => exact p1.elim
            cases ng with
            | false =>
              refine PySem.W.cmp_K (op := .Eq) (tb := .ref (c.cad k)) (show X.A.units < cLine by have := g.room.un; omega) Fm I.mod.kin J J2.type (by show PySem.W.notFirst X.K (c.cad k) (.ref (c.cad k)) = true; simp [PySem.W.notFirst]) f2 f3 (wpAny_mono (run_fA (A' := X.A) (g.fs.fn f f1) g.gd (g.room.mono (by omega)) g.nox I I.env0 rv2 hc rr (Post.calm_bind p)) (fun v s' hq => ?_) fun _ _ e => e)
              obtain ⟨t, hv3, hq2⟩ := fin hq
              subst hv3
              show EP X pins σ Q (.bool t) s'
              simpa using hq2
            | true =>
              refine rich_ne (tb := .ref (c.cad k)) (show X.A.units + 1 < cLine by have := g.room.un; omega) Fm I.mod.kin J J2.type (by show PySem.W.notFirst X.K (c.cad k) (.ref (c.cad k)) = true; simp [PySem.W.notFirst]) Fc.ins.hne f2 f3 Fc.ins.hm (wpAny_mono (run_fA (A' := X.A.in1) (g.fs.fn f f1) g.gd (g.room.mono (by omega)).in1 g.nox I I.env0.in1 rv2 hc rr (Post.calm_bind p)) (fun v s' hq => ?_) fun _ _ e => e)
              obtain ⟨t, hv3, hq2⟩ := fin hq
              subst hv3
              refine ⟨t, rfl, ?_⟩
              simpa using hq2
      · exact p.elim
    | _ => rw [hv, hv2] at p; exact (show False from p).elim
  | _ => rw [hv] at p; exact (show False from p).elim
theorem eqi_read {K : PySem.W.Frag} {ng : Bool} {σ : L2.St} {H : Hp} {Q : VK} (h : tE c K W (.eqi ng a b) σ H Q) : tOp (rEqi c K W ng) (tE c K W a) (tE c K W b) σ H Q := by
  obtain ⟨z, A, S, v, hv, hc, h⟩ := h
  simp only [ev] at h
  obtain ⟨z', A', S', v', hv', hc', p⟩ := tR_bind (rel := Rel) hv hc h
  refine ⟨z', A', S', v', hv', hc', p.imp fun x1 H1 ⟨A1, S1, d1, g1, e1, c1, r1, p1⟩ => ?_⟩
  obtain ⟨z2, A2, S2, v2, hv2, hc2, p2⟩ := tR_bind (rel := Rel) e1 c1 p1
  refine ⟨z2, A2, S2, v2, hv2, hc2, p2.imp fun x2 H2 ⟨A3, S3, d2, g2, e2, c2, r2, p3⟩ => ?_⟩
  exact ⟨z, A3, S3, d1, d2, c2, r1.grow g2, r2, p3⟩
theorem s_eqi (g : Good c N X sc W) {ng : Bool} (ha : okE c X W a x) (hb : okE c X W b y) (hm : behindInMarks (opN ng) y = false) : okE c X W (.eqi ng a b) (.Compare x [opN ng] [y] pos) :=
  PE.mono (pe_cmpR (op_eqi g ng) ha hb hm) fun σ H Q h => eqi_read h
theorem t_eqi (g : Good c N X sc W) {ng : Bool} (ha : okE c X W a x) (hb : okE c X W b y) (hm : behindInMarks (opN ng) y = false) : okT c X W (.eqi ng a b) (.Compare x [opN ng] [y] pos) :=
  PT.mono (pt_cmpR (op_eqi g ng) ha hb hm) fun σ H Q h => eqi_read (tT_val h)
end
end EV
set_option Elab.async false
set_option linter.all false
set_option maxRecDepth 100000
set_option maxHeartbeats 3200000
namespace EV
open PySem PySem.Spec PyProof.Rows L2
section
variable {c : Cf} {N : List Str} {X : Cx} {sc : Sc} {W : XK} {a b d e : E} {x y w tg : Expr} {pos : Pos} {k kb : C} {body rest : List Stmt}
theorem itr3_rel {L : Lay} {A : List Addr} {H : Hp} {lo st : Int} {n : Nat} {gd : Gd} : ItR L A H (rngC lo st n, gd) (Itc lo st n) := by
  intro L' A' H' S' g c' ok i
  refine ⟨fun h => ?_, fun d hd => ?_⟩
  · show n ≤ i
    simpa [rngC] using h
  · simp only [rngC, List.getElem?_map, Option.map_eq_some_iff] at hd
    obtain ⟨k, hk, rfl⟩ := hd
    obtain ⟨h1, h2⟩ := List.getElem?_eq_some_iff.mp hk
    simp only [List.length_range] at h1
    simp only [List.getElem_range] at h2
    subst h2
    refine ⟨h1, fun x H2 hy => ?_⟩
    obtain ⟨rfl, rfl⟩ := hy
    exact ⟨.refl, c', rel_int⟩
theorem size_step {i j st : Int} (h : 1 ≤ st) : Builtin.Range.rangeSize i j st = (((j - i + st - 1) / st).toNat : Int) := by
  unfold Builtin.Range.rangeSize
  rw [if_pos (show st > 0 by omega)]
  split
  · rename_i q
    have e : j - i + st - 1 = (j - i - 1) + 1 * st := by omega
    rw [e, Int.add_mul_ediv_right _ _ (by omega)]
    have := Int.ediv_nonneg (show 0 ≤ j - i - 1 by omega) (show 0 ≤ st by omega)
    omega
  · rename_i q
    have : (j - i + st - 1) / st ≤ 0 := by
      have h1 : (j - i + st - 1) / st ≤ (st - 1) / st := Int.ediv_le_ediv (by omega) (by omega)
      rw [Int.ediv_eq_zero_of_lt (show 0 ≤ st - 1 by omega) (by omega)] at h1
      exact h1
    omega
theorem rgC_step {i j st : Int} (hi : fits62 i = true) (hj : fits62 j = true) (h1 : 1 ≤ st) (h2 : st < 1000) : RgC i j st ((j - i + st - 1) / st).toNat := by
  have a := fits_62 hi
  have b := fits_62 hj
  refine ⟨by omega, by omega, ?_, size_step h1⟩
  have hs : ((j - i + st - 1) / st) ≤ 9223372036854775807 := by
    have h3 : (j - i + st - 1) / st ≤ (j - i + st - 1) / 1 ∨ (j - i + st - 1) < 0 := by
      rcases Int.lt_or_le (j - i + st - 1) 0 with q | q
      · exact .inr q
      · left
        rw [Int.ediv_one]
        exact Int.ediv_le_self _ q
    rcases h3 with q | q
    · rw [Int.ediv_one] at q
      have e1 : (2 : Int) ^ 62 = 4611686018427387904 := by decide
      rw [e1] at a b
      have hlt : j - i + st - 1 ≤ 9223372036854775807 ∨ 9223372036854775807 < j - i + st - 1 := by omega
      rcases hlt with z | z
      · omega
      · have e2 : j - i + st - 1 = (j - i - 1) + 1 * st := by omega
        rcases Int.lt_or_le st 2 with t | t
        · have : st = 1 := by omega
          subst this
          rw [Int.ediv_one]
          omega
        · have h4 : (j - i + st - 1) / st ≤ (j - i + st - 1) / 2 := by
            rw [Int.le_ediv_iff_mul_le (by omega)]
            have h5 := Int.ediv_mul_le (j - i + st - 1) (show st ≠ 0 by omega)
            have h6 := Int.ediv_nonneg (show 0 ≤ j - i + st - 1 by omega) (show 0 ≤ st by omega)
            have h7 : (j - i + st - 1) / st * 2 ≤ (j - i + st - 1) / st * st := Int.mul_le_mul_of_nonneg_left t h6
            omega
          omega
    · have : (j - i + st - 1) / st < 0 := Int.ediv_neg_of_neg_of_pos q (by omega)
      omega
  unfold Builtin.Range.small
  rw [size_step h1]
  simp only [Builtin.Range.rangeFitsLong, Bool.and_eq_true, Bool.or_eq_true, decide_eq_true_eq, beq_iff_eq, show st > 0 by omega, if_true]
  have e1 : (2 : Int) ^ 62 = 4611686018427387904 := by decide
  have e2 : (2 : Int) ^ 63 = 9223372036854775808 := by decide
  rw [e1] at a b
  rw [e2]
  omega
theorem s_rng3 (g : Good c N X sc W) {p' : Pos} (hg : Gl X "range") (hs : isStar x = false) (hs2 : isStar y = false) (hs3 : isStar w = false) (ha : okE c X W a x) (hb : okE c X W b y) (hd : okE c X W d w) : okI c X W (.rng3 a b d) tg (.Call (.Name "range" p') [x, y, w] [] pos) := by
  refine ⟨fun pins s σ H R I ⟨z, A, S, v, hv, hc, h⟩ => ?_⟩
  simp only [evIt] at h
  refine (pi_range3 (ta := tCons (tE c X.K W a) (tCons (tE c X.K W b) (tCons (tE c X.K W d) tNil))) hg (g.fs.free _ (by decide)) (pa_cons ha (pa_cons hb (pa_cons hd pa_nil (starEach_cons hs3)) (starEach_cons hs2)) (starEach_cons hs)) (starEach_cons hs) (by rw [starEach_cons hs2, starEach_cons hs3]; rfl)).run pins s σ H R I ?_
  obtain ⟨z', A', S', v', hv', hc', p⟩ := tR_bind (rel := Rel) hv hc h
  refine ⟨z', A', S', v', hv', hc', p.imp fun x1 H1 ⟨A1, S1, d1, g1, e1, c1, r1, p1⟩ => ?_⟩
  obtain ⟨z2, A2, S2, v2, hv2, hc2, p2⟩ := tR_bind (rel := Rel) e1 c1 p1
  refine ⟨z2, A2, S2, v2, hv2, hc2, p2.imp fun x2 H2 ⟨A3, S3, d2, g2, e2, c2, r2, p3⟩ => ?_⟩
  obtain ⟨z3, A4, S4, v3, hv3, hc3, p4⟩ := tR_bind (rel := Rel) e2 c2 p3
  refine ⟨z3, A4, S4, v3, hv3, hc3, p4.imp fun x3 H3 ⟨A5, S5, d3, g3, e3, c3, r3, p5⟩ => ?_⟩
  cases d1 with
  | int i => cases d2 with
    | int j => cases d3 with
      | int st =>
        have p5 : Post (c.lay X.K z) W A5 H3 (ItR (c.lay X.K z)) (if (fits62 i && fits62 j && decide (1 ≤ st) && decide (st < 1000)) = true then .ok (rngC i st ((j - i + st - 1) / st).toNat, []) S5 else .no) R := p5
        split at p5
        · rename_i hf
          simp only [Bool.and_eq_true, decide_eq_true_eq] at hf
          exact ⟨i, j, st, _, by rw [((r1.grow g2).grow g3).w.int, (r2.grow g3).w.int, r3.w.int], rgC_step hf.1.1.1 hf.1.1.2 hf.1.2 hf.2, p5.ok c3 itr3_rel⟩
        · exact p5.elim
      | _ => exact (show False from p5).elim
    | _ => exact (show False from p5).elim
  | _ => exact (show False from p5).elim
def RelRg3 (_ : Lay) (_ : List Addr) (_ : Hp) (p : List EV.D × Gd) (q : Int × Int × Int) : Prop := p.1 = rngC q.1 q.2.2 ((q.2.1 - q.1 + q.2.2 - 1) / q.2.2).toNat ∧ fits62 q.1 = true ∧ fits62 q.2.1 = true ∧ 1 ≤ q.2.2 ∧ q.2.2 < 1000
theorem rg_3 (g : Good c N X sc W) {p' : Pos} (hg : Gl X "range") (hs : isStar x = false) (hs2 : isStar y = false) (hs3 : isStar w = false) (ha : okE c X W a x) (hb : okE c X W b y) (hd : okE c X W d w) {pins : List (Addr × Obj)} {s : Shared} {σ : L2.St} {H : Hp} {Q : Int × Int × Int → Hp → Prop} (I : Inv X pins σ H s)
    (h : tR c X.K W RelRg3 (evIt c.G c.κ (.rng3 a b d)) σ H Q) : wpAny (model X.prog X.w) X.A (eval (.Call (.Name "range" p') [x, y, w] [] pos) X.env) (fun u s' => ∃ r q t t2 t3 H', u = .ref r ∧ IsRange s'.heap r q.1 q.2.1 q.2.2 t t2 t3 ∧ Inv X pins σ H' s' ∧ 1 ≤ q.2.2 ∧ q.2.2 < 1000 ∧ Q q H') X.xe s := by
  obtain ⟨z, A, S, v, hv, hc, h⟩ := h
  simp only [evIt] at h
  have hA : PA X [x, y, w] (tCons (tE c X.K W a) (tCons (tE c X.K W b) (tCons (tE c X.K W d) tNil))) := pa_cons ha (pa_cons hb (pa_cons hd pa_nil (starEach_cons hs3)) (starEach_cons hs2)) (starEach_cons hs)
  have hT : (tCons (tE c X.K W a) (tCons (tE c X.K W b) (tCons (tE c X.K W d) tNil))) σ H (fun vs H1 => ∃ q : Int × Int × Int, vs = [.int q.1, .int q.2.1, .int q.2.2] ∧ 1 ≤ q.2.2 ∧ q.2.2 < 1000 ∧ Q q H1) := by
    obtain ⟨z', A', S', v', hv', hc', p⟩ := tR_bind (rel := Rel) hv hc h
    refine ⟨z', A', S', v', hv', hc', p.imp fun x1 H1 ⟨A1, S1, d1, g1, e1, c1, r1, p1⟩ => ?_⟩
    obtain ⟨z2, A2, S2, v2, hv2, hc2, p2⟩ := tR_bind (rel := Rel) e1 c1 p1
    refine ⟨z2, A2, S2, v2, hv2, hc2, p2.imp fun x2 H2 ⟨A3, S3, d2, g2, e2, c2, r2, p3⟩ => ?_⟩
    obtain ⟨z3, A4, S4, v3, hv3, hc3, p4⟩ := tR_bind (rel := Rel) e2 c2 p3
    refine ⟨z3, A4, S4, v3, hv3, hc3, p4.imp fun x3 H3 ⟨A5, S5, d3, g3, e3, c3, r3, p5⟩ => ?_⟩
    cases d1 with
    | int i => cases d2 with
      | int j => cases d3 with
        | int st =>
          have p5 : Post (c.lay X.K z) W A5 H3 (RelRg3 (c.lay X.K z)) (if (fits62 i && fits62 j && decide (1 ≤ st) && decide (st < 1000)) = true then .ok (rngC i st ((j - i + st - 1) / st).toNat, []) S5 else .no) Q := p5
          split at p5
          · rename_i hf
            simp only [Bool.and_eq_true, decide_eq_true_eq] at hf
            refine ⟨(i, j, st), by rw [((r1.grow g2).grow g3).w.int, (r2.grow g3).w.int, r3.w.int], hf.1.2, hf.2, ?_⟩
            exact Post.ok (b := ((i, j, st) : Int × Int × Int)) p5 c3 ⟨rfl, hf.1.1.1, hf.1.1.2, hf.1.2, hf.2⟩
          · exact p5.elim
        | _ => exact (show False from p5).elim
      | _ => exact (show False from p5).elim
    | _ => exact (show False from p5).elim
  refine Call_ (ld_blt I hg (g.fs.free _ (by decide)) boot_range (PyProof.Rows.callWith_type1 (thn (hA.run pos pins s σ H _ I hT) fun us s1 ⟨vs, H1, I1, r1, q1⟩ => ?_) (starEach_cons hs) (by rw [starEach_cons hs2, starEach_cons hs3]; rfl)))
  obtain ⟨⟨i, j, st⟩, e, h1, h2, q⟩ := q1
  subst e
  cases r1 with
  | cons r rr =>
    cases rr with
    | cons r' rr =>
      cases rr with
      | cons r'' rr =>
        cases rr
        obtain ⟨t, rfl⟩ := r
        obtain ⟨t', rfl⟩ := r'
        obtain ⟨t'', rfl⟩ := r''
        have h1 : 1 ≤ st := h1
        have h2 : st < 1000 := h2
        refine call_range_3 (by show st ≠ 0; omega) ?_ (.inl (PyProof.noPylong_small (by show st.natAbs < 1073741824; omega)))
        exact ⟨_, (i, j, st), _, _, _, H1, rfl, IsRange.new _ _ _ _ _ _ _, I1.kept fun b u e => Heap.get?_push_of_some _ e, h1, h2, q⟩
theorem rels_rngC {L : Lay} {A : List Addr} {H : Hp} {i st : Int} {n : Nat} : Rels L A H (rngC i st n) ((List.range n).map fun k => V.int (i + (k : Nat) * st)) := by
  unfold rngC
  generalize List.range n = l
  induction l with
  | nil => exact .nil
  | cons k l ih => exact .cons rel_int ih
theorem s_tupR3 (g : Good c N X sc W) {p' p2 pos2 : Pos} (hg : Gl X "tuple") (hgr : Gl X "range") (hs : isStar x = false) (hs2 : isStar y = false) (hs3 : isStar w = false) (ha : okE c X W a x) (hb : okE c X W b y) (hd : okE c X W d w) :
    okE c X W (.tupR (.rng3 a b d)) (.Call (.Name "tuple" p') [.Call (.Name "range" p2) [x, y, w] [] pos2] [] pos) := by
  refine ⟨fun pins s σ H Q I ⟨z, A, S, v, hv, hc, h⟩ => ?_⟩
  simp only [ev] at h
  refine Call_ (ld_blt I hg (g.fs.free _ (by decide)) boot_tuple (PyProof.Rows.callWith_type1 (args_cons (thn (rg_3 g hgr hs hs2 hs3 ha hb hd I (tR_bind (rel := RelRg3) hv hc h)) fun u s1 ⟨r, ⟨i, j, st⟩, t, t2, t3, H1, ex, hr, I1, b1, b2, A1, S1, d1, g1, e1, c1, ⟨r1, r2, r3, _⟩, p1⟩ => args_nil ?_) rfl) rfl))
  subst ex
  have r1 : d1.1 = rngC i st ((j - i + st - 1) / st).toNat := r1
  have b1 : 1 ≤ st := b1
  have b2 : st < 1000 := b2
  obtain ⟨c0, c1', c2, c3⟩ := rgC_step (i := i) (j := j) r2 r3 b1 b2
  rw [r1] at p1
  split at p1
  · rename_i hl
    have hl2 : ((j - i + st - 1) / st).toNat ≤ 2 ^ 24 := by
      have : (rngC i st ((j - i + st - 1) / st).toNat).length = ((j - i + st - 1) / st).toNat := by unfold rngC; simp
      rw [this] at hl
      exact hl
    refine call_tuple_range (n := ((j - i + st - 1) / st).toNat) (I1.ok.hd g.calm) hr c2 c3 hl2 fun h' tk acc hk hi => ?_
    have I2 : Inv X pins σ H1 { s1 with heap := h', toks := tk } := I1.kept hk
    have hvals : Vals ((List.range ((j - i + st - 1) / st).toNat).map fun k => V.int (i + (k : Nat) * st)) acc.toList := by
      have e : acc.toList.length = ((j - i + st - 1) / st).toNat := by rw [Array.length_toList]; exact hi.1
      rw [← e]
      refine vals_of_get acc.toList _ fun q u hj => ?_
      obtain ⟨t, rfl⟩ := hi.2 q u (by rw [← hj, Array.getElem?_toList])
      exact ⟨t, rfl⟩
    refine ⟨.ref h'.objs.size, upd H1 h'.objs.size (.tup ((List.range ((j - i + st - 1) / st).toNat).map fun k => V.int (i + (k : Nat) * st))), I2.laid (t' := tk) (fun c o e => Heap.get?_push_of_some _ e) (Nat.le_refl _) (show ObjOk X.prog X.w _ _ _ (.tup _) from ⟨?_, acc.toList, hvals, ?_⟩), rfl, post_tup p1 c1 rels_rngC (I2.hok.fresh (Nat.le_refl _))⟩
    · rw [List.length_map, List.length_range, sizeLine_eq]; omega
    · rw [Array.toArray_toList]; exact IsTup.new _ _
  · exact p1.elim
theorem rel_dk {L : Lay} {A : List Addr} {H : Hp} {q : DK} : Rel L A H (dkD q) (kV (dkK q)) := by
  cases q with
  | int i => exact rel_int
  | str s => exact rel_str
theorem iti_rel {L : Lay} {A : List Addr} {H : Hp} {a : Addr} {od : Obj} {ks : List DK} {ds : List EV.D} {vs : List V} {gd : Gd} (h : H a = some (.frz od (.dK ((ks.map dkK).zip vs)))) (n : a ∉ A ∧ a ∉ L.z) (hl : ks.length = vs.length) (rs : Rels L A H ds vs) :
    ItR L A H ((ks.zip ds).map fun p => .tup [dkD p.1, p.2], gd) (Iti a od ((ks.map dkK).zip vs)) := by
  intro L' A' H' S' g c' ok i
  have hk : H' a = some (.frz od (.dK ((ks.map dkK).zip vs))) := (g.keep _ _ h n.1 n.2).1.ne fun _ z => nomatch z
  have rs' := g.rels rs
  have l1 := rs.len
  have hlen : ((ks.map dkK).zip vs).length = ks.length := by rw [List.length_zip, List.length_map, ← hl, Nat.min_self]
  refine ⟨fun q => ⟨hk, ?_⟩, fun dd hd => ?_⟩
  · simp only [List.length_map, List.length_zip] at q
    rw [hlen]; omega
  · rw [List.getElem?_map, Option.map_eq_some_iff] at hd
    obtain ⟨⟨q, d1⟩, hz, rfl⟩ := hd
    rw [List.getElem?_zip_eq_some] at hz
    obtain ⟨v1, e1, rv⟩ := rs'.get hz.2
    have hz1 : ks[i]? = some q := hz.1
    have hi := (List.getElem?_eq_some_iff.mp hz1).1
    refine ⟨⟨hk, by rw [hlen]; exact hi⟩, fun x H2 hy => ?_⟩
    obtain ⟨T, k1, v2, h1, hx, hT, hH⟩ := hy
    rw [List.getElem?_zip_eq_some, List.getElem?_map, hz1, e1] at h1
    obtain ⟨h1, h2⟩ := h1
    cases h1; cases h2
    exact pair_new c' rel_dk rv hT hx hH
theorem s_itms {els : List Expr} {kk : Nat} {tp ap : Pos} (ha : okE c X W a x) (hs : noSup x = true) (hp : (ap.endLine == pos.line) = true) : okI c X W (.itms a) (.Tuple els kk tp) (.Call (.Attribute x "items" ap) [] [] pos) := by
  refine ⟨fun pins s σ H R I ⟨z, A, S, v, hv, hc, h⟩ => ?_⟩
  simp only [evIt] at h
  refine wpAny_Call_method (T := "dict") (id := "dict.items") (attrBase hs) rfl hp F.plainAttrs_dict F.slot_dict_items F.type_dict_items (thn (ha.run pins s σ H _ I (tR_bind (rel := Rel) hv hc h)) fun u s1 ⟨x1, H1, I1, ru, A1, S1, d1, g1, e1, c1, r1, p1⟩ => ?_)
  cases d1 with
  | dct ks ds =>
    obtain ⟨dd, vs, rfl, q, n, hl, nd, rs⟩ := (show ∃ a vs, _ from by simpa only [Rel] using r1)
    cases (show u = Value.ref dd from ru)
    suffices key : ∀ (od : Obj) (H2 : Hp), Inv X pins σ H2 s1 → H2 dd = some (.frz od (.dK ((ks.map dkK).zip vs))) → Grow A1 H1 A1 H2 → Cells (c.lay X.K z) A1 S1 H2 → _ by
      rcases q with q | ⟨od, q⟩
      · obtain ⟨od, I2⟩ := I1.lock q trivial
        exact key od _ I2 upd_same (grow_lock q) (c1.lock q n.1)
      · exact key od _ I1 q .refl c1
    intro od H2 I1 hd gr c2
    have q2 : R (Iti dd od ((ks.map dkK).zip vs)) H2 := p1 A1 H2 _ gr c2 (iti_rel hd n hl (rs.grow gr))
    obtain ⟨hs, hgd, hx, es, ep, vs2, hdt, hsz, kv, hm⟩ := I1.frzK hd
    have hl2 : ((ks.map dkK).zip vs).length = vs2.length := Paired.length kv
    refine ⟨hm.dictOf.typeIs, hm.dictOf.mapOf.noDict, ?_⟩
    have I2 : Inv X pins σ H2 { s1 with heap := s1.heap.push { cls := .type "dict_items", data := .fields #[.ref dd] } } := I1.kept (t' := s1.toks) fun b ob q => Heap.get?_push_of_some _ q
    have fin : wpAny (model X.prog X.w) X.A (pyIter (.ref s1.heap.objs.size)) (PIE X pins σ (.Tuple els kk tp) R) X.xe { s1 with heap := s1.heap.push { cls := .type "dict_items", data := .fields #[.ref dd] } } := by
      refine wpAny_pyIter_items (d := dd) (knd := mixKind X.prog X.w) ⟨_, Heap.get?_push_size _ rfl, rfl, rfl⟩ (hm.push _) (pi_one (tk := s1.toks) I2 _ (turn_items _ hdt) ⟨.none, .none, ?_⟩ q2)
      rw [hl2]
      exact Heap.get?_push_size _ rfl
    show wpAny _ _ (callWith pos (.builtin "dict.items") [.ref dd] [] []) _ X.xe s1
    exact method_meetsIn F.slot_dict_items F.entry_dict_items rfl (PySem.evalArgs_none ⟨rfl, hm.dictOf.typeIs, F.args_dict_items_1 _, _, meets_dict_items (mixKind X.prog X.w) dd hs, ⟨vs2, hm.dictOf⟩, fin⟩)
  | _ => exact (show False from p1).elim
theorem facts_nox (F : Facts c X) : Facts c X.nox where
  fn f h := let G := F.fn f h; ⟨G.gl, G.kp, G.len, G.bd, G.kb, G.ok⟩
  gl g d h := F.gl g d h
  kd g ks vs h := F.kd g ks vs h
  cl k r h := by
    have G := F.cl k r h
    have I := G.ins
    exact ⟨G.gl, ⟨I.cls, I.noat, I.nd, I.few, I.fld, I.prop, I.meth, I.init, I.lenF, I.strF, I.boolF, I.eqF, I.ha, I.hn, I.htk, I.hne, I.hm⟩, G.kitT, G.kitB, G.kitO⟩
  free := F.free
theorem good_nox (g : Good c N X sc W) : Good c N X.nox sc noW where
  hN := g.hN
  nd := g.nd
  hs := g.hs
  calm := g.calm
  gd := g.gd
  room := g.room
  pass pins σ H s e s' I h := g.nox _ _ _ _ _ h
  nox := g.nox
  fnx x h := g.fnx x h
  fs := facts_nox g.fs
theorem s_try {cs : List Nat} {i : Option Nat} {kh : C} {h₀ : ExceptHandler} {hds : List ExceptHandler} (hb : okC c X.nox noW kb body) (h : okC c X W k rest) : okC c X W (.try kb cs i kh k) (.Try body (h₀ :: hds) [] [] pos :: rest) := by
  have main : okS c X W (fun v s => (ex c.G c.κ kb v s).calm) (.Try body (h₀ :: hds) [] [] pos) := by
    refine PS.mono (ps_try_thru0 hb) fun D σ H ⟨z, A, S, v, hv, hc, h⟩ => ⟨z, A, S, v, hv, hc, ?_⟩
    show PostS (c.lay X.K z) noW A H D (ex c.G c.κ kb v S)
    have h : PostS (c.lay X.K z) W A H D (ex c.G c.κ kb v S).calm := h
    cases hr : ex c.G c.κ kb v S with
    | ex e2 v2 S2 => rw [hr] at h; exact (show False from h).elim
    | _ => rw [hr] at h; exact h
  refine PSs.mono (s_seq main h) fun D σ H ⟨z, A, S, v, hv, hc, h⟩ => ⟨z, A, S, v, hv, hc, ?_⟩
  simp only [ex] at h
  exact h
end
end EV
set_option Elab.async false
set_option linter.all false
set_option maxRecDepth 100000
set_option maxHeartbeats 3200000
namespace EV
open PySem PySem.Spec PyProof.Rows L2
def dbgB (n : Str) : Bool := !(n == ("__debug__" : Str))
def nmB (n : Str) : Bool := dbgB n && !(n == ("__classdict__" : Str))
def noStars (xs : List Expr) : Bool := xs.all fun x => !isStar x
def isYes : E → Bool
  | .con (.bl true) => true
  | _ => false
def noSetE : Expr → Bool
  | .Set .. => false
  | _ => true
def bindB (nm : Nm) (f n : Nat) (ks : List Str) (pm : List Nat) : Bool := (ks.isEmpty && pm.isEmpty) || (!pm.isEmpty && decide ((n, ks, pm) ∈ nm.kwT f))
def dl1 (y : Str) (j : Int) : List DK → E → Bool
  | [.str t], .cons (.con (.int i)) .nil => decide (y = SS t) && decide (i = j)
  | _, _ => false
def gnB (sc : Sc) (n m : Str) : Bool := decide (n = m) && glB sc.eff n
def kgB (nm : Nm) (sc : Sc) (o : E) (n0 : Str) : Bool := match o with
  | .glob g (.dct ks vs) => gnB sc n0 (nm.gnm g) && dbgB n0 && decide (nm.kval g = some (.dct ks vs))
  | _ => false
section
variable (nm : Nm) (G : Pg) (ncl : Nat) (N : List Str)
mutual
def chkE (t : Bool) (sc : Sc) : E → Expr → Bool
  | .var i, x => match x with
    | .Name n _ => decide (N[i]? = some n) && visB sc.eff n && nmB n
    | _ => false
  | .con d, x => match x with
    | .Constant k _ _ => conB d k
    | _ => false
  | .glob g d, x => match x with
    | .Name n _ => gnB sc n (nm.gnm g) && dbgB n && decide (nm.gval g = some d)
    | _ => false
  | .bin _ op a b, x => match x with
    | .BinOp x op' y _ => decide (op = op') && chkE false sc a x && chkE false sc b y
    | _ => false
  | .neg a, x => match x with
    | .UnaryOp .USub x _ => chkE false sc a x
    | _ => false
  | .eqi ng a b, x => match x with
    | .Compare x [op'] [y] _ => decide (op' = opN ng) && chkE false sc a x && chkE false sc b y && !behindInMarks (opN ng) y
    | _ => false
  | .cmp op a b, x => match x with
    | .Compare x [op'] [y] _ => decide (op = op') && chkE false sc a x && chkE false sc b y && !behindInMarks op y
    | _ => false
  | .cmp2 o p a b d, x => match x with
    | .Compare x [o', p'] [y, w] _ => decide (o = o') && decide (p = p') && chkE false sc a x && chkE false sc b y && chkE false sc d w && !lastMarks [o, p] [y, w]
    | _ => false
  | .isn a ng, x => match x with
    | .Compare x [op] [.Constant .none _ _] _ => decide (op = if ng then .IsNot else .Is) && chkE false sc a x
    | _ => false
  | .isb a b ng, x => match x with
    | .Compare x [op] [.Constant (.bool b') _ _] _ => decide (op = if ng then .IsNot else .Is) && decide (b = b') && chkE false sc a x
    | _ => false
  | .and a b, x => match x with
    | .BoolOp .And (x :: y :: xs) p => chkE t sc a x && chkE t sc b (.BoolOp .And (y :: xs) p)
    | _ => false
  | .or a b, x => match x with
    | .BoolOp .Or (x :: y :: xs) p => chkE t sc a x && chkE t sc b (.BoolOp .Or (y :: xs) p)
    | _ => false
  | .one a, x => match x with
    | .BoolOp _ [x] _ => chkE t sc a x
    | _ => false
  | .not a, x => match x with
    | .UnaryOp .Not x _ => chkE t sc a x
    | _ => false
  | .ite d a b, x => match x with
    | .IfExp w x y _ => chkE true sc d w && chkE t sc a x && chkE t sc b y
    | _ => false
  | .tup es, x => match x with
    | .Tuple xs _ _ => chkS sc es xs
    | _ => false
  | .lst _ es, x => match x with
    | .List xs _ => chkS sc es xs
    | _ => false
  | .idx a i, x => match x with
    | .Subscript x y _ => chkE false sc a x && chkE false sc i y && !isSlice y
    | _ => false
  | .sl _ st a lo hi, x => match x with
    | .Subscript x (.Slice none none (some (.UnaryOp .USub (.Constant (.int i) _ _) _)) _) _ => decide (st = 1) && decide (i = 1) && isNil lo && isNil hi && chkE false sc a x
    | .Subscript x (.Slice l h none _) _ => decide (st = 0) && chkE false sc a x && (match l with | none => isNil lo | some l => !isNil lo && chkE false sc lo l) && (match h with | none => isNil hi | some h => !isNil hi && chkE false sc hi h)
    | _ => false
  | .comp _ tg' it cn el, x => match x with
    | .ListComp elt [⟨tg, iter, ifs, 0⟩] scope _ => chkI sc it tg iter && blkC N sc.eff scope (ownOf N (tgV tg')) && noSetE iter && okTg N (blkSc sc scope) tg' tg && (match ifs with | [] => isYes cn | [y] => chkE true (blkSc sc scope) cn y | _ => false) && chkE false (blkSc sc scope) el elt
    | _ => false
  | .comp2 _ tg1 it cn tg3 it2 c2 el, x => match x with
    | .ListComp elt [⟨tg, iter, ifs, 0⟩, ⟨tg2, iter2, ifs2, 0⟩] scope _ => chkI sc it tg iter && blkC N sc.eff scope (ownOf N (tgV tg1 ++ tgV tg3)) && noSetE iter && noSetE iter2 && okTg N (blkSc sc scope) tg1 tg && okTg N (blkSc sc scope) tg3 tg2 && (match ifs with | [] => isYes cn | [y] => chkE true (blkSc sc scope) cn y | _ => false) && chkI (blkSc sc scope) it2 tg2 iter2 && (match ifs2 with | [] => isYes c2 | [y] => chkE true (blkSc sc scope) c2 y | _ => false) && chkE false (blkSc sc scope) el elt
    | _ => false
  | .dct _ ks es, x => match x with
    | .Dict [] [] _ => ks.isEmpty && isNil es
    | .Dict [some (.Constant (.str y) _ _)] [.Constant (.int j) _ _] _ => dl1 y j ks es
    | _ => false
  | .listOf _ a, x => match x with
    | .Call (.Name n _) [x] [] _ => gnB sc n "list" && !isStar x && chkE false sc a x
    | _ => false
  | .listR _ it, x => match x with
    | .Call (.Name n _) [x] [] _ => gnB sc n "list" && !isStar x && chkR sc it x
    | _ => false
  | .tupR it, x => match x with
    | .Call (.Name n _) [x] [] _ => gnB sc n "tuple" && !isStar x && (chkR sc it x || chkR3 sc it x)
    | _ => false
  | .tupOf a, x => match x with
    | .Call (.Name n _) [x] [] _ => gnB sc n "tuple" && !isStar x && chkE false sc a x
    | _ => false
  | .sorted _ a, x => match x with
    | .Call (.Name n _) [x] [] _ => gnB sc n "sorted" && !isStar x && chkE false sc a x
    | _ => false
  | .sortset _ a, x => match x with
    | .Call (.Name n _) [.Call (.Name n2 _) [x] [] _] [] _ => gnB sc n "sorted" && gnB sc n2 "set" && !isStar x && chkE false sc a x
    | _ => false
  | .lenset a, x => match x with
    | .Call (.Name n _) [.Call (.Name n2 _) [x] [] _] [] _ => gnB sc n "len" && gnB sc n2 "set" && !isStar x && chkE false sc a x
    | _ => false
  | .isi a ty, x => match x with
    | .Call (.Name n _) [x, .Name n2 _] [] _ => gnB sc n "isinstance" && glB sc.eff n2 && dbgB n2 && !isStar x && chkE false sc a x && (match ty with
      | .cls k => decide (n2 = nm.cnm k) && (G.cl k).isSome
      | t => decide (n2 = (tyN t : Str)))
    | _ => false
  | .bi b es, x => match x with
    | .Call (.Name n _) (e1 :: xs) [] _ => gnB sc n (biName b) && noStars (e1 :: xs) && chkS sc es (e1 :: xs)
    | _ => false
  | .divmod a b, x => match x with
    | .Call (.Name n _) [x, y] [] _ => gnB sc n "divmod" && !isStar x && !isStar y && chkE false sc a x && chkE false sc b y
    | _ => false
  | .bm _ b o es, x => match x with
    | .Call (.Attribute (.Name n0 p0) n ap) [e1, e2] [] p => (decide (n = bmN b) && !bm0 b && decide (b ≠ .replace) && decide (b ≠ .kget) && noSup (.Name n0 p0) && (ap.endLine == p.line) && noStars [e1, e2] && chkE false sc o (.Name n0 p0) && chkS sc es [e1, e2]) || (decide (n = "get") && decide (b = .kget) && kgB nm sc o n0 && noSup (.Name n0 p0) && (ap.endLine == p.line) && noStars [e1, e2] && chkS sc es [e1, e2])
    | .Call (.Attribute x n ap) [] [] p => decide (n = bmN b) && bm0 b && noSup x && (ap.endLine == p.line) && chkE false sc o x && (match es with | .nil => true | _ => false)
    | .Call (.Attribute x n ap) (e1 :: xs) [] p => decide (n = bmN b) && !bm0 b && decide (b ≠ .replace) && decide (b ≠ .kget) && noSup x && (ap.endLine == p.line) && decide ((e1 :: xs).length < 29) && noStars (e1 :: xs) && chkE false sc o x && chkS sc es (e1 :: xs)
    | _ => false
  | .call f es pm, x => match x with
    | .Call (.Name n _) xs kws _ => gnB sc n (nm.fnm f) && dbgB n && nm.fgl f && (G.fn f).isSome && noStars xs && (match kwNames kws with
      | some ks => bindB nm f xs.length ks pm
      | none => false) && chkA sc es xs kws
    | _ => false
  | .mk k es pm, x => match x with
    | .Call (.Name n _) xs kws _ => gnB sc n (nm.cnm k) && dbgB n && noStars xs && (match kwNames kws, G.cl k with
      | some ks, some r => (match r.init with
        | some f => bindB nm f (xs.length + 1) ks pm
        | none => false)
      | _, _ => false) && chkA sc es xs kws
    | _ => false
  | .atr a k, x => match x with
    | .Attribute x n _ => decide (n = nm.anm k) && noSup x && chkE false sc a x
    | _ => false
  | .meth a k es pm, x => match x with
    | .Call (.Attribute x n ap) xs kws p => decide (n = nm.anm k) && noSup x && (ap.endLine == p.line) && decide (xs.length + kws.length < 29) && noStars xs && (match kwNames kws with
      | some ks => (List.range ncl).all fun kc => match G.cl kc with
        | some r => (match r.meth.lookup k with
          | some f => bindB nm f (xs.length + 1) ks pm
          | none => true)
        | none => true
      | none => false) && chkE false sc a x && chkA sc es xs kws
    | _ => false
  | _, _ => false
def chkS (sc : Sc) : E → List Expr → Bool
  | .nil, xs => xs.isEmpty
  | .cons a es, xs => match xs with
    | x :: xs => !isStar x && chkE false sc a x && chkS sc es xs
    | _ => false
  | .star a es, xs => match xs with
    | .Starred x _ :: xs => chkE false sc a x && chkS sc es xs
    | _ => false
  | _, _ => false
def chkA (sc : Sc) : E → List Expr → List Keyword → Bool
  | .nil, xs, kws => xs.isEmpty && kws.isEmpty
  | .cons a es, xs, kws => match xs, kws with
    | x :: xs, kws => !isStar x && chkE false sc a x && chkA sc es xs kws
    | [], ⟨_, x, _⟩ :: kws => chkE false sc a x && chkA sc es [] kws
    | [], [] => false
  | _, _, _ => false
def chkR (sc : Sc) : E → Expr → Bool
  | .rng1 a, x => match x with
    | .Call (.Name n _) [x] [] _ => gnB sc n "range" && !isStar x && chkE false sc a x
    | _ => false
  | .rng2 a b, x => match x with
    | .Call (.Name n _) [x, y] [] _ => gnB sc n "range" && !isStar x && !isStar y && chkE false sc a x && chkE false sc b y
    | _ => false
  | _, _ => false
def chkR3 (sc : Sc) : E → Expr → Bool
  | .rng3 a b d, x => match x with
    | .Call (.Name n _) [x, y, w] [] _ => gnB sc n "range" && !isStar x && !isStar y && !isStar w && chkE false sc a x && chkE false sc b y && chkE false sc d w
    | _ => false
  | _, _ => false
def chkI (sc : Sc) : E → Expr → Expr → Bool
  | .rng3 a b d, _, x => match x with
    | .Call (.Name n _) [x, y, w] [] _ => gnB sc n "range" && !isStar x && !isStar y && !isStar w && chkE false sc a x && chkE false sc b y && chkE false sc d w
    | _ => false
  | .itms a, tg, x => match tg, x with
    | .Tuple _ _ _, .Call (.Attribute x n ap) [] [] p => decide (n = "items") && noSup x && (ap.endLine == p.line) && chkE false sc a x
    | _, _ => false
  | .iv a, _, x => chkE false sc a x
  | .rng1 a, _, x => match x with
    | .Call (.Name n _) [x] [] _ => gnB sc n "range" && !isStar x && chkE false sc a x
    | _ => false
  | .rng2 a b, _, x => match x with
    | .Call (.Name n _) [x, y] [] _ => gnB sc n "range" && !isStar x && !isStar y && chkE false sc a x && chkE false sc b y
    | _ => false
  | .zip a b, tg, x => match tg, x with
    | .Tuple _ _ _, .Call (.Name n _) [x, y] [] _ => gnB sc n "zip" && !isStar x && !isStar y && chkE false sc a x && chkE false sc b y
    | _, _ => false
  | .enum a, tg, x => match tg, x with
    | .Tuple _ _ _, .Call (.Name n _) [x] [] _ => gnB sc n "enumerate" && !isStar x && chkE false sc a x
    | _, _ => false
  | _, _, _ => false
end
end
end EV
set_option Elab.async false
set_option linter.all false
set_option maxRecDepth 100000
set_option maxHeartbeats 3200000
namespace EV
open PySem PySem.Spec PyProof.Rows L2
section
variable {c : Cf} {ncl : Nat} {N : List Str}
def okM (c : Cf) (X : Cx) (W : XK) (t : Bool) (e : E) (x : Expr) : Prop := if t = true then okT c X W e x else okE c X W e x
theorem okM.v {X : Cx} {W : XK} {e : E} {x : Expr} (h : okM c X W false e x) : okE c X W e x := h
theorem okM.t {X : Cx} {W : XK} {e : E} {x : Expr} (h : okM c X W true e x) : okT c X W e x := h
theorem okM.mk {X : Cx} {W : XK} {t : Bool} {e : E} {x : Expr} (h : okE c X W e x) (hp : plainT x = true) : okM c X W t e x := by
  cases t with
  | false => exact h
  | true => exact t_plain h hp
theorem okM.two {X : Cx} {W : XK} {t : Bool} {e : E} {x : Expr} (h : t = false → okE c X W e x) (k : t = true → okT c X W e x) : okM c X W t e x := by
  cases t with
  | false => exact h rfl
  | true => exact k rfl
theorem dbg_ok {n : Str} (h : dbgB n = true) : (n == ("__debug__" : Str)) = false := by simpa [dbgB] using h
theorem nm_ok {n : Str} (h : nmB n = true) : (n == ("__debug__" : Str)) = false ∧ (n == ("__classdict__" : Str)) = false := by
  simp only [nmB, Bool.and_eq_true] at h
  exact ⟨dbg_ok h.1, by simpa using h.2⟩
theorem gn_ok {X : Cx} {sc : Sc} {W : XK} (g : Good c N X sc W) {n m : Str} (h : gnB sc n m = true) : n = m ∧ Gl X n := by
  simp only [gnB, Bool.and_eq_true, decide_eq_true_eq] at h
  exact ⟨h.1, glB_ok g.hs h.2⟩
theorem bind_ok {f n : Nat} {ks : List Str} {pm : List Nat} (h : bindB c.nm f n ks pm = true) : bindOk c f n ks pm := by
  simp only [bindB, Bool.or_eq_true, Bool.and_eq_true, List.isEmpty_iff, Bool.not_eq_true', decide_eq_true_eq] at h
  rcases h with h | h
  · exact .inl h
  · exact .inr ⟨by intro e; rw [e] at h; simp at h, h.2⟩
theorem star_not {x : Expr} (h : (!isStar x) = true) : isStar x = false := by simpa using h
theorem set_fold {e : Expr} (h : noSetE e = true) : ∀ env v, foldedSetIterable e env v = pure v := by
  intro env v
  cases e <;> first | rfl | cases h
theorem nil_eq {e : E} (h : isNil e = true) : e = .nil := by cases e <;> first | rfl | cases h
theorem yes_eq {e : E} (h : isYes e = true) : e = .con (.bl true) := by
  unfold isYes at h
  split at h
  · rfl
  · cases h
variable (hcl : ∀ k, (c.G.cl k).isSome = true → k < ncl)
include hcl
set_option maxHeartbeats 20000000
mutual
theorem ckE : ∀ (e : E) (t : Bool) (sc : Sc) (x : Expr), chkE c.nm c.G ncl N t sc e x = true → ∀ (X : Cx) (W : XK), Good c N X sc W → okM c X W t e x
  | .var i, t, sc, x, h, X, W, g => by
    simp only [chkE] at h
    split at h
    · simp only [Bool.and_eq_true, decide_eq_true_eq] at h
      exact .mk (s_var (by rw [g.hN]; exact h.1.1) (by rw [g.hs]; exact visB_ok h.1.2) (nm_ok h.2).1 (nm_ok h.2).2) rfl
    · cases h
  | .con d, t, sc, x, h, X, W, g => by
    simp only [chkE] at h
    split at h
    · exact .mk (s_con h) rfl
    · cases h
  | .glob gi d, t, sc, x, h, X, W, g => by
    simp only [chkE] at h
    split at h
    · simp only [Bool.and_eq_true, decide_eq_true_eq] at h
      obtain ⟨rfl, hg⟩ := gn_ok g h.1.1
      exact .mk (s_glob g.fs hg (dbg_ok h.1.2) h.2) rfl
    · cases h
  | .bin m op a b, t, sc, x, h, X, W, g => by
    simp only [chkE] at h
    split at h
    · simp only [Bool.and_eq_true, decide_eq_true_eq] at h
      obtain ⟨⟨rfl, h1⟩, h2⟩ := h
      exact .mk (s_bin (ckE a false sc _ h1 X W g).v (ckE b false sc _ h2 X W g).v) rfl
    · cases h
  | .neg a, t, sc, x, h, X, W, g => by
    simp only [chkE] at h
    split at h
    · exact .mk (s_neg (ckE a false sc _ h X W g).v) rfl
    · cases h
  | .eqi ng a b, t, sc, x, h, X, W, g => by
    simp only [chkE] at h
    split at h
    · simp only [Bool.and_eq_true, decide_eq_true_eq, Bool.not_eq_true'] at h
      obtain ⟨⟨⟨rfl, h1⟩, h2⟩, h3⟩ := h
      exact .two (fun _ => s_eqi g (ckE a false sc _ h1 X W g).v (ckE b false sc _ h2 X W g).v h3) fun _ => t_eqi g (ckE a false sc _ h1 X W g).v (ckE b false sc _ h2 X W g).v h3
    · cases h
  | .cmp op a b, t, sc, x, h, X, W, g => by
    have hu : X.A.units + 65 < cLine := by have := g.room.un; omega
    simp only [chkE] at h
    split at h
    · simp only [Bool.and_eq_true, decide_eq_true_eq, Bool.not_eq_true'] at h
      obtain ⟨⟨⟨rfl, h1⟩, h2⟩, h3⟩ := h
      exact .two (fun _ => s_cmp hu (ckE a false sc _ h1 X W g).v (ckE b false sc _ h2 X W g).v h3) fun _ => t_cmp hu (ckE a false sc _ h1 X W g).v (ckE b false sc _ h2 X W g).v h3
    · cases h
  | .cmp2 o p a b d, t, sc, x, h, X, W, g => by
    have hu : X.A.units + 65 < cLine := by have := g.room.un; omega
    simp only [chkE] at h
    split at h
    · simp only [Bool.and_eq_true, decide_eq_true_eq, Bool.not_eq_true'] at h
      obtain ⟨⟨⟨⟨⟨rfl, rfl⟩, h1⟩, h2⟩, h3⟩, h4⟩ := h
      exact .two (fun _ => s_cmp2 hu (ckE a false sc _ h1 X W g).v (ckE b false sc _ h2 X W g).v (ckE d false sc _ h3 X W g).v h4) fun _ => t_cmp2 hu (ckE a false sc _ h1 X W g).v (ckE b false sc _ h2 X W g).v (ckE d false sc _ h3 X W g).v h4
    · cases h
  | .isn a ng, t, sc, x, h, X, W, g => by
    simp only [chkE] at h
    split at h
    · simp only [Bool.and_eq_true, decide_eq_true_eq] at h
      obtain ⟨rfl, h1⟩ := h
      exact .two (fun _ => s_isn (ckE a false sc _ h1 X W g).v) fun _ => t_isn (ckE a false sc _ h1 X W g).v
    · cases h
  | .isb a b ng, t, sc, x, h, X, W, g => by
    simp only [chkE] at h
    split at h
    · simp only [Bool.and_eq_true, decide_eq_true_eq] at h
      obtain ⟨⟨rfl, rfl⟩, h1⟩ := h
      exact .two (fun _ => s_isb (ckE a false sc _ h1 X W g).v) fun _ => t_isb (ckE a false sc _ h1 X W g).v
    · cases h
  | .and a b, t, sc, x, h, X, W, g => by
    simp only [chkE] at h
    split at h
    · simp only [Bool.and_eq_true] at h
      refine .two (fun e => ?_) fun e => ?_
      · subst e; exact s_and (ckE a false sc _ h.1 X W g).v (ckE b false sc _ h.2 X W g).v
      · subst e; exact t_and (ckE a true sc _ h.1 X W g).t (ckE b true sc _ h.2 X W g).t
    · cases h
  | .or a b, t, sc, x, h, X, W, g => by
    simp only [chkE] at h
    split at h
    · simp only [Bool.and_eq_true] at h
      refine .two (fun e => ?_) fun e => ?_
      · subst e; exact s_or (ckE a false sc _ h.1 X W g).v (ckE b false sc _ h.2 X W g).v
      · subst e; exact t_or (ckE a true sc _ h.1 X W g).t (ckE b true sc _ h.2 X W g).t
    · cases h
  | .one a, t, sc, x, h, X, W, g => by
    simp only [chkE] at h
    split at h
    · refine .two (fun e => ?_) fun e => ?_
      · subst e; exact s_one (ckE a false sc _ h X W g).v
      · subst e; exact t_one (ckE a true sc _ h X W g).t
    · cases h
  | .not a, t, sc, x, h, X, W, g => by
    simp only [chkE] at h
    split at h
    · refine .two (fun e => ?_) fun e => ?_
      · subst e; exact s_not (ckE a false sc _ h X W g).v
      · subst e; exact t_not (ckE a true sc _ h X W g).t
    · cases h
  | .ite d a b, t, sc, x, h, X, W, g => by
    simp only [chkE] at h
    split at h
    · simp only [Bool.and_eq_true] at h
      refine .two (fun e => ?_) fun e => ?_
      · subst e; exact s_ite (ckE d true sc _ h.1.1 X W g).t (ckE a false sc _ h.1.2 X W g).v (ckE b false sc _ h.2 X W g).v
      · subst e; exact t_ite (ckE d true sc _ h.1.1 X W g).t (ckE a true sc _ h.1.2 X W g).t (ckE b true sc _ h.2 X W g).t
    · cases h
  | .tup es, t, sc, x, h, X, W, g => by
    simp only [chkE] at h
    split at h
    · exact .mk (s_tup (ckS es sc _ h X W g)) rfl
    · cases h
  | .lst m es, t, sc, x, h, X, W, g => by
    simp only [chkE] at h
    split at h
    · exact .mk (s_lst (ckS es sc _ h X W g)) rfl
    · cases h
  | .idx a i, t, sc, x, h, X, W, g => by
    have hu : X.A.units + 1 < cLine := by have := g.room.un; omega
    simp only [chkE] at h
    split at h
    · simp only [Bool.and_eq_true, Bool.not_eq_true'] at h
      exact .mk (s_idx hu (ckE a false sc _ h.1.1 X W g).v (ckE i false sc _ h.1.2 X W g).v h.2) rfl
    · cases h
  | .sl m st a lo hi, t, sc, x, h, X, W, g => by
    simp only [chkE] at h
    split at h
    · simp only [Bool.and_eq_true, decide_eq_true_eq] at h
      obtain ⟨⟨⟨⟨rfl, rfl⟩, h1⟩, h2⟩, h3⟩ := h
      rw [nil_eq h1, nil_eq h2]
      exact .mk (s_slR (ckE a false sc _ h3 X W g).v) rfl
    · rename_i x l hh p q
      simp only [Bool.and_eq_true, decide_eq_true_eq] at h
      obtain ⟨⟨⟨rfl, h1⟩, h2⟩, h3⟩ := h
      refine .mk (s_sl0 (ckE a false sc _ h1 X W g).v ?_ ?_) rfl
      · cases l with
        | none => rw [nil_eq h2]; exact p_none
        | some l =>
          simp only [Bool.and_eq_true, Bool.not_eq_true'] at h2
          exact p_some (ckE lo false sc _ h2.2 X W g).v h2.1
      · cases hh with
        | none => rw [nil_eq h3]; exact p_none
        | some l =>
          simp only [Bool.and_eq_true, Bool.not_eq_true'] at h3
          exact p_some (ckE hi false sc _ h3.2 X W g).v h3.1
    · cases h
  | .comp m tg' it cn el, t, sc, x, h, X, W, g => by
    simp only [chkE] at h
    split at h
    · rename_i elt tg iter ifs scope p
      simp only [Bool.and_eq_true] at h
      obtain ⟨⟨⟨⟨⟨h1, h2⟩, h3⟩, h4⟩, h5⟩, h6⟩ := h
      refine .mk (s_comp g (ckI it sc _ _ h1 X W g) h2 (set_fold h3) h4 (fun X' g' => ?_) fun X' g' => (ckE el false _ _ h6 X' noW g').v) rfl
      split at h5
      · rw [yes_eq h5]; exact if_nil
      · exact if_one (ckE cn true _ _ h5 X' noW g').t
      · cases h5
    · cases h
  | .comp2 m tg1 it cn tg3 it2 c2 el, t, sc, x, h, X, W, g => by
    simp only [chkE] at h
    split at h
    · rename_i elt tg iter ifs tg2 iter2 ifs2 scope p
      simp only [Bool.and_eq_true] at h
      obtain ⟨⟨⟨⟨⟨⟨⟨⟨⟨h1, h2⟩, h3⟩, h4⟩, h5⟩, h6⟩, h7⟩, h8⟩, h9⟩, h10⟩ := h
      refine .mk (s_comp2 g (ckI it sc _ _ h1 X W g) h2 (set_fold h3) (set_fold h4) h5 h6 (fun X' g' => ?_) (fun X' g' => ckI it2 _ _ _ h8 X' noW g') (fun X' g' => ?_) fun X' g' => (ckE el false _ _ h10 X' noW g').v) rfl
      · split at h7
        · rw [yes_eq h7]; exact if_nil
        · exact if_one (ckE cn true _ _ h7 X' noW g').t
        · cases h7
      · split at h9
        · rw [yes_eq h9]; exact if_nil
        · exact if_one (ckE c2 true _ _ h9 X' noW g').t
        · cases h9
    · cases h
  | .dct m ks es, t, sc, x, h, X, W, g => by
    simp only [chkE] at h
    split at h
    · simp only [Bool.and_eq_true, List.isEmpty_iff] at h
      obtain ⟨rfl, h2⟩ := h
      rw [nil_eq h2]
      exact .mk s_dct0 rfl
    · unfold dl1 at h
      split at h
      · simp only [Bool.and_eq_true, decide_eq_true_eq] at h
        obtain ⟨h1, rfl⟩ := h
        exact .mk (s_dct1 h1) rfl
      · cases h
    · cases h
  | .listOf m a, t, sc, x, h, X, W, g => by
    simp only [chkE] at h
    split at h
    · simp only [Bool.and_eq_true] at h
      obtain ⟨rfl, hg⟩ := gn_ok g h.1.1
      exact .mk (s_listOf g hg (star_not h.1.2) (ckE a false sc _ h.2 X W g).v) rfl
    · cases h
  | .listR m it, t, sc, x, h, X, W, g => by
    simp only [chkE] at h
    split at h
    · simp only [Bool.and_eq_true] at h
      obtain ⟨rfl, hg⟩ := gn_ok g h.1.1
      exact .mk (s_listR g hg (star_not h.1.2) (ckR it sc _ h.2 X W g)) rfl
    · cases h
  | .tupR it, t, sc, x, h, X, W, g => by
    simp only [chkE] at h
    split at h
    · simp only [Bool.and_eq_true] at h
      obtain ⟨rfl, hg⟩ := gn_ok g h.1.1
      rw [Bool.or_eq_true] at h
      rcases h.2 with h2 | h2
      · exact .mk (s_tupR g hg (star_not h.1.2) (ckR it sc _ h2 X W g)) rfl
      · exact .mk (ckR3 it sc _ h2 X W g _ _ hg) rfl
    · cases h
  | .tupOf a, t, sc, x, h, X, W, g => by
    simp only [chkE] at h
    split at h
    · simp only [Bool.and_eq_true] at h
      obtain ⟨rfl, hg⟩ := gn_ok g h.1.1
      exact .mk (s_tupOf g hg (star_not h.1.2) trivial (ckE a false sc _ h.2 X W g).v) rfl
    · cases h
  | .sorted m a, t, sc, x, h, X, W, g => by
    simp only [chkE] at h
    split at h
    · simp only [Bool.and_eq_true] at h
      obtain ⟨rfl, hg⟩ := gn_ok g h.1.1
      exact .mk (s_sorted g hg (star_not h.1.2) (ckE a false sc _ h.2 X W g).v) rfl
    · cases h
  | .sortset m a, t, sc, x, h, X, W, g => by
    simp only [chkE] at h
    split at h
    · simp only [Bool.and_eq_true] at h
      obtain ⟨rfl, hg⟩ := gn_ok g h.1.1.1
      obtain ⟨rfl, hg2⟩ := gn_ok g h.1.1.2
      exact .mk (s_sortset g hg hg2 (star_not h.1.2) (ckE a false sc _ h.2 X W g).v) rfl
    · cases h
  | .lenset a, t, sc, x, h, X, W, g => by
    simp only [chkE] at h
    split at h
    · simp only [Bool.and_eq_true] at h
      obtain ⟨rfl, hg⟩ := gn_ok g h.1.1.1
      obtain ⟨rfl, hg2⟩ := gn_ok g h.1.1.2
      exact .mk (s_lenset g hg hg2 (star_not h.1.2) (ckE a false sc _ h.2 X W g).v) rfl
    · cases h
  | .isi a ty, t, sc, x, h, X, W, g => by
    simp only [chkE] at h
    split at h
    · rename_i n p1 x n2 p2 p3
      simp only [Bool.and_eq_true] at h
      obtain ⟨⟨⟨⟨⟨h1, h2⟩, h3⟩, h4⟩, h5⟩, h6⟩ := h
      obtain ⟨rfl, hg⟩ := gn_ok g h1
      have e : n2 = tyX c ty ∧ ∀ k, ty = .cls k → (c.G.cl k).isSome = true := by
        cases ty with
        | cls k =>
          simp only [Bool.and_eq_true, decide_eq_true_eq] at h6
          exact ⟨h6.1, fun k' e => by cases e; exact h6.2⟩
        | _ => exact ⟨of_decide_eq_true h6, fun k' e => by cases e⟩
      obtain ⟨rfl, e2⟩ := e
      exact .mk (s_isi g (ckE a false sc _ h5 X W g).v (star_not h4) hg (glB_ok g.hs h2) (dbg_ok h3) e2) rfl
    · cases h
  | .bi b es, t, sc, x, h, X, W, g => by
    simp only [chkE] at h
    split at h
    · simp only [Bool.and_eq_true] at h
      obtain ⟨rfl, hg⟩ := gn_ok g h.1.1
      exact .mk (s_bi g hg h.1.2 (ckS es sc _ h.2 X W g)) rfl
    · cases h
  | .divmod a b, t, sc, x, h, X, W, g => by
    simp only [chkE] at h
    split at h
    · simp only [Bool.and_eq_true] at h
      obtain ⟨rfl, hg⟩ := gn_ok g h.1.1.1.1
      exact .mk (s_divmod g (ckE a false sc _ h.1.2 X W g).v (ckE b false sc _ h.2 X W g).v (star_not h.1.1.1.2) (star_not h.1.1.2) hg) rfl
    · cases h
  | .bm m b o es, t, sc, x, h, X, W, g => by
    simp only [chkE] at h
    split at h
    · rw [Bool.or_eq_true] at h
      rcases h with h | h
      · simp only [Bool.and_eq_true, decide_eq_true_eq, Bool.not_eq_true'] at h
        obtain ⟨⟨⟨⟨⟨⟨⟨⟨rfl, h1⟩, h2⟩, h9⟩, h3⟩, h4⟩, h6⟩, h7⟩, h8⟩ := h
        exact .mk (s_bm g h1 h2 h9 (ckE o false sc _ h7 X W g).v h3 h4 (by simp) h6 (ckS es sc _ h8 X W g)) rfl
      · simp only [Bool.and_eq_true, decide_eq_true_eq] at h
        obtain ⟨⟨⟨⟨⟨⟨rfl, rfl⟩, h1⟩, h3⟩, h4⟩, h6⟩, h8⟩ := h
        unfold kgB at h1
        split at h1
        · simp only [Bool.and_eq_true, decide_eq_true_eq] at h1
          obtain ⟨⟨hg, hd⟩, hk⟩ := h1
          obtain ⟨rfl, hgl⟩ := gn_ok g hg
          exact .mk (s_kget g hgl (dbg_ok hd) hk h3 h4 h6 (ckS es sc _ h8 X W g)) rfl
        · cases h1
    · simp only [Bool.and_eq_true, decide_eq_true_eq] at h
      obtain ⟨⟨⟨⟨⟨rfl, h1⟩, h2⟩, h3⟩, h4⟩, h5⟩ := h
      cases es <;> first
        | exact .mk (s_bm0 g h1 (ckE o false sc _ h4 X W g).v h2 h3) rfl
        | cases h5
    · simp only [Bool.and_eq_true, decide_eq_true_eq, Bool.not_eq_true'] at h
      obtain ⟨⟨⟨⟨⟨⟨⟨⟨⟨rfl, h1⟩, h2⟩, h9⟩, h3⟩, h4⟩, h5⟩, h6⟩, h7⟩, h8⟩ := h
      exact .mk (s_bm g h1 h2 h9 (ckE o false sc _ h7 X W g).v h3 h4 h5 h6 (ckS es sc _ h8 X W g)) rfl
    · cases h
  | .call f es pm, t, sc, x, h, X, W, g => by
    simp only [chkE] at h
    split at h
    · simp only [Bool.and_eq_true] at h
      obtain ⟨⟨⟨⟨⟨⟨h1, h2⟩, h3⟩, h4⟩, h5⟩, h6⟩, h7⟩ := h
      obtain ⟨rfl, hg⟩ := gn_ok g h1
      split at h6
      · rename_i ks hks
        exact .mk (s_call (g.fs.fn f h4) h3 g.gd (g.room.mono (by omega)) g.pass hg (dbg_ok h2) h5 hks (bind_ok h6) (ckA es sc _ _ h7 X W g)) rfl
      · cases h6
    · cases h
  | .mk k es pm, t, sc, x, h, X, W, g => by
    simp only [chkE] at h
    split at h
    · simp only [Bool.and_eq_true] at h
      obtain ⟨⟨⟨⟨h1, h2⟩, h3⟩, h4⟩, h5⟩ := h
      obtain ⟨rfl, hg⟩ := gn_ok g h1
      split at h4
      · rename_i ks r hks hr
        split at h4
        · rename_i f hf
          exact .mk (s_mk g hg (dbg_ok h2) hr hf h3 hks (bind_ok h4) (ckA es sc _ _ h5 X W g)) rfl
        · cases h4
      · cases h4
    · cases h
  | .atr a k, t, sc, x, h, X, W, g => by
    simp only [chkE] at h
    split at h
    · simp only [Bool.and_eq_true, decide_eq_true_eq] at h
      obtain ⟨⟨rfl, h1⟩, h2⟩ := h
      exact .mk (s_atr g (ckE a false sc _ h2 X W g).v h1) rfl
    · cases h
  | .meth a k es pm, t, sc, x, h, X, W, g => by
    simp only [chkE] at h
    split at h
    · simp only [Bool.and_eq_true, decide_eq_true_eq] at h
      obtain ⟨⟨⟨⟨⟨⟨⟨rfl, h1⟩, h2⟩, h3⟩, h4⟩, h5⟩, h6⟩, h7⟩ := h
      split at h5
      · rename_i ks hks
        refine .mk (s_meth g (ckE a false sc _ h6 X W g).v h1 h2 h3 h4 hks (fun kc r f hr hf => ?_) (ckA es sc _ _ h7 X W g)) rfl
        have := List.all_eq_true.mp h5 kc (List.mem_range.mpr (hcl kc (by rw [hr]; rfl)))
        simp only [hr, hf] at this
        exact bind_ok this
      · cases h5
    · cases h
  | .nil, t, sc, x, h, X, W, g | .cons _ _, t, sc, x, h, X, W, g | .star _ _, t, sc, x, h, X, W, g | .iv _, t, sc, x, h, X, W, g | .rng1 _, t, sc, x, h, X, W, g | .rng2 _ _, t, sc, x, h, X, W, g | .rng3 _ _ _, t, sc, x, h, X, W, g
  | .zip _ _, t, sc, x, h, X, W, g | .enum _, t, sc, x, h, X, W, g | .itms _, t, sc, x, h, X, W, g | .dictOf _ _, t, sc, x, h, X, W, g | .clm .., t, sc, x, h, X, W, g | .act _ _, t, sc, x, h, X, W, g | .lam _ _, t, sc, x, h, X, W, g => by simp [chkE] at h
theorem ckS : ∀ (es : E) (sc : Sc) (xs : List Expr), chkS c.nm c.G ncl N sc es xs = true → ∀ (X : Cx) (W : XK), Good c N X sc W → okEs c X W es xs
  | .nil, sc, xs, h, X, W, g => by
    simp only [chkS, List.isEmpty_iff] at h
    subst h; exact s_nil
  | .cons a es, sc, xs, h, X, W, g => by
    simp only [chkS] at h
    split at h
    · simp only [Bool.and_eq_true] at h
      exact s_cons (ckE a false sc _ h.1.2 X W g).v (ckS es sc _ h.2 X W g) (starEach_cons (star_not h.1.1))
    · cases h
  | .star a es, sc, xs, h, X, W, g => by
    simp only [chkS] at h
    split at h
    · simp only [Bool.and_eq_true] at h
      exact s_star g (ckE a false sc _ h.1 X W g).v (ckS es sc _ h.2 X W g)
    · cases h
  | .var _, sc, xs, h, X, W, g | .con _, sc, xs, h, X, W, g | .glob _ _, sc, xs, h, X, W, g | .bin .., sc, xs, h, X, W, g | .neg _, sc, xs, h, X, W, g | .eqi .., sc, xs, h, X, W, g | .cmp .., sc, xs, h, X, W, g | .cmp2 .., sc, xs, h, X, W, g | .isn .., sc, xs, h, X, W, g | .isb .., sc, xs, h, X, W, g
  | .and .., sc, xs, h, X, W, g | .or .., sc, xs, h, X, W, g | .one _, sc, xs, h, X, W, g | .not _, sc, xs, h, X, W, g | .ite .., sc, xs, h, X, W, g | .tup _, sc, xs, h, X, W, g | .lst .., sc, xs, h, X, W, g | .dct .., sc, xs, h, X, W, g | .idx .., sc, xs, h, X, W, g | .sl .., sc, xs, h, X, W, g
  | .iv _, sc, xs, h, X, W, g | .rng1 _, sc, xs, h, X, W, g | .rng2 .., sc, xs, h, X, W, g | .rng3 .., sc, xs, h, X, W, g | .zip .., sc, xs, h, X, W, g | .enum _, sc, xs, h, X, W, g | .itms _, sc, xs, h, X, W, g | .comp .., sc, xs, h, X, W, g | .comp2 .., sc, xs, h, X, W, g
  | .listR .., sc, xs, h, X, W, g | .tupR _, sc, xs, h, X, W, g | .listOf .., sc, xs, h, X, W, g | .tupOf _, sc, xs, h, X, W, g | .sorted .., sc, xs, h, X, W, g | .sortset .., sc, xs, h, X, W, g | .lenset _, sc, xs, h, X, W, g | .dictOf .., sc, xs, h, X, W, g | .isi .., sc, xs, h, X, W, g | .bi .., sc, xs, h, X, W, g | .divmod .., sc, xs, h, X, W, g
  | .bm .., sc, xs, h, X, W, g | .call .., sc, xs, h, X, W, g | .mk .., sc, xs, h, X, W, g | .clm .., sc, xs, h, X, W, g | .atr .., sc, xs, h, X, W, g | .meth .., sc, xs, h, X, W, g | .act .., sc, xs, h, X, W, g | .lam .., sc, xs, h, X, W, g => by simp [chkS] at h
theorem ckR : ∀ (it : E) (sc : Sc) (x : Expr), chkR c.nm c.G ncl N sc it x = true → ∀ (X : Cx) (W : XK), Good c N X sc W → okRg c X W it x
  | .rng1 a, sc, x, h, X, W, g => by
    simp only [chkR] at h
    split at h
    · simp only [Bool.and_eq_true] at h
      obtain ⟨rfl, hg⟩ := gn_ok g h.1.1
      exact rg_1 g hg (star_not h.1.2) (ckE a false sc _ h.2 X W g).v
    · cases h
  | .rng2 a b, sc, x, h, X, W, g => by
    simp only [chkR] at h
    split at h
    · simp only [Bool.and_eq_true] at h
      obtain ⟨rfl, hg⟩ := gn_ok g h.1.1.1.1
      exact rg_2 g hg (star_not h.1.1.1.2) (star_not h.1.1.2) (ckE a false sc _ h.1.2 X W g).v (ckE b false sc _ h.2 X W g).v
    · cases h
  | .nil, sc, x, h, X, W, g => by simp [chkR] at h
  | .var _, sc, x, h, X, W, g => by simp [chkR] at h
  | .con _, sc, x, h, X, W, g => by simp [chkR] at h
  | .glob _ _, sc, x, h, X, W, g => by simp [chkR] at h
  | .bin .., sc, x, h, X, W, g => by simp [chkR] at h
  | .neg _, sc, x, h, X, W, g => by simp [chkR] at h
  | .eqi .., sc, x, h, X, W, g => by simp [chkR] at h
  | .cmp .., sc, x, h, X, W, g => by simp [chkR] at h
  | .cmp2 .., sc, x, h, X, W, g => by simp [chkR] at h
  | .isn .., sc, x, h, X, W, g => by simp [chkR] at h
  | .isb .., sc, x, h, X, W, g => by simp [chkR] at h
  | .and .., sc, x, h, X, W, g => by simp [chkR] at h
  | .or .., sc, x, h, X, W, g => by simp [chkR] at h
  | .one _, sc, x, h, X, W, g => by simp [chkR] at h
  | .not _, sc, x, h, X, W, g => by simp [chkR] at h
  | .ite .., sc, x, h, X, W, g => by simp [chkR] at h
  | .tup _, sc, x, h, X, W, g => by simp [chkR] at h
  | .lst .., sc, x, h, X, W, g => by simp [chkR] at h
  | .dct .., sc, x, h, X, W, g => by simp [chkR] at h
  | .idx .., sc, x, h, X, W, g => by simp [chkR] at h
  | .sl .., sc, x, h, X, W, g => by simp [chkR] at h
  | .iv _, sc, x, h, X, W, g => by simp [chkR] at h
  | .rng3 .., sc, x, h, X, W, g => by simp [chkR] at h
  | .zip .., sc, x, h, X, W, g => by simp [chkR] at h
  | .enum _, sc, x, h, X, W, g => by simp [chkR] at h
  | .itms _, sc, x, h, X, W, g => by simp [chkR] at h
  | .comp .., sc, x, h, X, W, g => by simp [chkR] at h
  | .comp2 .., sc, x, h, X, W, g => by simp [chkR] at h
  | .listOf .., sc, x, h, X, W, g => by simp [chkR] at h
  | .listR .., sc, x, h, X, W, g => by simp [chkR] at h
  | .tupR _, sc, x, h, X, W, g => by simp [chkR] at h
  | .tupOf _, sc, x, h, X, W, g => by simp [chkR] at h
  | .sorted .., sc, x, h, X, W, g => by simp [chkR] at h
  | .sortset .., sc, x, h, X, W, g => by simp [chkR] at h
  | .lenset _, sc, x, h, X, W, g => by simp [chkR] at h
  | .dictOf .., sc, x, h, X, W, g => by simp [chkR] at h
  | .isi .., sc, x, h, X, W, g => by simp [chkR] at h
  | .bi .., sc, x, h, X, W, g => by simp [chkR] at h
  | .divmod .., sc, x, h, X, W, g => by simp [chkR] at h
  | .bm .., sc, x, h, X, W, g => by simp [chkR] at h
  | .call .., sc, x, h, X, W, g => by simp [chkR] at h
  | .mk .., sc, x, h, X, W, g => by simp [chkR] at h
  | .clm .., sc, x, h, X, W, g => by simp [chkR] at h
  | .atr .., sc, x, h, X, W, g => by simp [chkR] at h
  | .meth .., sc, x, h, X, W, g => by simp [chkR] at h
  | .act .., sc, x, h, X, W, g => by simp [chkR] at h
  | .lam .., sc, x, h, X, W, g => by simp [chkR] at h
  | .cons .., sc, x, h, X, W, g => by simp [chkR] at h
  | .star .., sc, x, h, X, W, g => by simp [chkR] at h
theorem ckR3 : ∀ (it : E) (sc : Sc) (x : Expr), chkR3 c.nm c.G ncl N sc it x = true → ∀ (X : Cx) (W : XK), Good c N X sc W → ∀ (p pos : Pos), Gl X "tuple" → okE c X W (.tupR it) (.Call (.Name "tuple" p) [x] [] pos)
  | .rng3 a b d, sc, x, h, X, W, g => by
    intro p pos hgt
    simp only [chkR3] at h
    split at h
    · simp only [Bool.and_eq_true] at h
      obtain ⟨rfl, hg⟩ := gn_ok g h.1.1.1.1.1.1
      exact s_tupR3 g hgt hg (star_not h.1.1.1.1.1.2) (star_not h.1.1.1.1.2) (star_not h.1.1.1.2) (ckE a false sc _ h.1.1.2 X W g).v (ckE b false sc _ h.1.2 X W g).v (ckE d false sc _ h.2 X W g).v
    · cases h
  | .rng1 _, sc, x, h, X, W, g => by simp [chkR3] at h
  | .rng2 .., sc, x, h, X, W, g => by simp [chkR3] at h
  | .nil, sc, x, h, X, W, g => by simp [chkR3] at h
  | .var _, sc, x, h, X, W, g => by simp [chkR3] at h
  | .con _, sc, x, h, X, W, g => by simp [chkR3] at h
  | .glob _ _, sc, x, h, X, W, g => by simp [chkR3] at h
  | .bin .., sc, x, h, X, W, g => by simp [chkR3] at h
  | .neg _, sc, x, h, X, W, g => by simp [chkR3] at h
  | .eqi .., sc, x, h, X, W, g => by simp [chkR3] at h
  | .cmp .., sc, x, h, X, W, g => by simp [chkR3] at h
  | .cmp2 .., sc, x, h, X, W, g => by simp [chkR3] at h
  | .isn .., sc, x, h, X, W, g => by simp [chkR3] at h
  | .isb .., sc, x, h, X, W, g => by simp [chkR3] at h
  | .and .., sc, x, h, X, W, g => by simp [chkR3] at h
  | .or .., sc, x, h, X, W, g => by simp [chkR3] at h
  | .one _, sc, x, h, X, W, g => by simp [chkR3] at h
  | .not _, sc, x, h, X, W, g => by simp [chkR3] at h
  | .ite .., sc, x, h, X, W, g => by simp [chkR3] at h
  | .tup _, sc, x, h, X, W, g => by simp [chkR3] at h
  | .lst .., sc, x, h, X, W, g => by simp [chkR3] at h
  | .dct .., sc, x, h, X, W, g => by simp [chkR3] at h
  | .idx .., sc, x, h, X, W, g => by simp [chkR3] at h
  | .sl .., sc, x, h, X, W, g => by simp [chkR3] at h
  | .iv _, sc, x, h, X, W, g => by simp [chkR3] at h
  | .zip .., sc, x, h, X, W, g => by simp [chkR3] at h
  | .enum _, sc, x, h, X, W, g => by simp [chkR3] at h
  | .itms _, sc, x, h, X, W, g => by simp [chkR3] at h
  | .comp .., sc, x, h, X, W, g => by simp [chkR3] at h
  | .comp2 .., sc, x, h, X, W, g => by simp [chkR3] at h
  | .listOf .., sc, x, h, X, W, g => by simp [chkR3] at h
  | .listR .., sc, x, h, X, W, g => by simp [chkR3] at h
  | .tupR _, sc, x, h, X, W, g => by simp [chkR3] at h
  | .tupOf _, sc, x, h, X, W, g => by simp [chkR3] at h
  | .sorted .., sc, x, h, X, W, g => by simp [chkR3] at h
  | .sortset .., sc, x, h, X, W, g => by simp [chkR3] at h
  | .lenset _, sc, x, h, X, W, g => by simp [chkR3] at h
  | .dictOf .., sc, x, h, X, W, g => by simp [chkR3] at h
  | .isi .., sc, x, h, X, W, g => by simp [chkR3] at h
  | .bi .., sc, x, h, X, W, g => by simp [chkR3] at h
  | .divmod .., sc, x, h, X, W, g => by simp [chkR3] at h
  | .bm .., sc, x, h, X, W, g => by simp [chkR3] at h
  | .call .., sc, x, h, X, W, g => by simp [chkR3] at h
  | .mk .., sc, x, h, X, W, g => by simp [chkR3] at h
  | .clm .., sc, x, h, X, W, g => by simp [chkR3] at h
  | .atr .., sc, x, h, X, W, g => by simp [chkR3] at h
  | .meth .., sc, x, h, X, W, g => by simp [chkR3] at h
  | .act .., sc, x, h, X, W, g => by simp [chkR3] at h
  | .lam .., sc, x, h, X, W, g => by simp [chkR3] at h
  | .cons .., sc, x, h, X, W, g => by simp [chkR3] at h
  | .star .., sc, x, h, X, W, g => by simp [chkR3] at h
theorem ckA : ∀ (es : E) (sc : Sc) (xs : List Expr) (kws : List Keyword), chkA c.nm c.G ncl N sc es xs kws = true → ∀ (X : Cx) (W : XK), Good c N X sc W → okA c X W es xs kws
  | .nil, sc, xs, kws, h, X, W, g => by
    simp only [chkA, Bool.and_eq_true, List.isEmpty_iff] at h
    obtain ⟨rfl, rfl⟩ := h
    exact a_nil
  | .cons a es, sc, xs, kws, h, X, W, g => by
    simp only [chkA] at h
    split at h
    · simp only [Bool.and_eq_true] at h
      exact a_cons (ckE a false sc _ h.1.2 X W g).v (ckA es sc _ _ h.2 X W g) (star_not h.1.1)
    · simp only [Bool.and_eq_true] at h
      exact a_kw (ckE a false sc _ h.1 X W g).v (ckA es sc _ _ h.2 X W g)
    · cases h
  | .star _ _, sc, xs, kws, h, X, W, g | .var _, sc, xs, kws, h, X, W, g | .con _, sc, xs, kws, h, X, W, g | .glob _ _, sc, xs, kws, h, X, W, g | .bin .., sc, xs, kws, h, X, W, g | .neg _, sc, xs, kws, h, X, W, g | .eqi .., sc, xs, kws, h, X, W, g | .cmp .., sc, xs, kws, h, X, W, g | .cmp2 .., sc, xs, kws, h, X, W, g | .isn .., sc, xs, kws, h, X, W, g | .isb .., sc, xs, kws, h, X, W, g
  | .and .., sc, xs, kws, h, X, W, g | .or .., sc, xs, kws, h, X, W, g | .one _, sc, xs, kws, h, X, W, g | .not _, sc, xs, kws, h, X, W, g | .ite .., sc, xs, kws, h, X, W, g | .tup _, sc, xs, kws, h, X, W, g | .lst .., sc, xs, kws, h, X, W, g | .dct .., sc, xs, kws, h, X, W, g | .idx .., sc, xs, kws, h, X, W, g | .sl .., sc, xs, kws, h, X, W, g
  | .iv _, sc, xs, kws, h, X, W, g | .rng1 _, sc, xs, kws, h, X, W, g | .rng2 .., sc, xs, kws, h, X, W, g | .rng3 .., sc, xs, kws, h, X, W, g | .zip .., sc, xs, kws, h, X, W, g | .enum _, sc, xs, kws, h, X, W, g | .itms _, sc, xs, kws, h, X, W, g | .comp .., sc, xs, kws, h, X, W, g | .comp2 .., sc, xs, kws, h, X, W, g
  | .listR .., sc, xs, kws, h, X, W, g | .tupR _, sc, xs, kws, h, X, W, g | .listOf .., sc, xs, kws, h, X, W, g | .tupOf _, sc, xs, kws, h, X, W, g | .sorted .., sc, xs, kws, h, X, W, g | .sortset .., sc, xs, kws, h, X, W, g | .lenset _, sc, xs, kws, h, X, W, g | .dictOf .., sc, xs, kws, h, X, W, g | .isi .., sc, xs, kws, h, X, W, g | .bi .., sc, xs, kws, h, X, W, g | .divmod .., sc, xs, kws, h, X, W, g
  | .bm .., sc, xs, kws, h, X, W, g | .call .., sc, xs, kws, h, X, W, g | .mk .., sc, xs, kws, h, X, W, g | .clm .., sc, xs, kws, h, X, W, g | .atr .., sc, xs, kws, h, X, W, g | .meth .., sc, xs, kws, h, X, W, g | .act .., sc, xs, kws, h, X, W, g | .lam .., sc, xs, kws, h, X, W, g => by simp [chkA] at h
theorem ckI : ∀ (it : E) (sc : Sc) (tg x : Expr), chkI c.nm c.G ncl N sc it tg x = true → ∀ (X : Cx) (W : XK), Good c N X sc W → okI c X W it tg x
  | .iv a, sc, tg, x, h, X, W, g => by
    simp only [chkI] at h
    exact s_iv (ckE a false sc _ h X W g).v
  | .rng1 a, sc, tg, x, h, X, W, g => by
    simp only [chkI] at h
    split at h
    · simp only [Bool.and_eq_true] at h
      obtain ⟨rfl, hg⟩ := gn_ok g h.1.1
      exact s_rng1 g hg (star_not h.1.2) (ckE a false sc _ h.2 X W g).v
    · cases h
  | .rng2 a b, sc, tg, x, h, X, W, g => by
    simp only [chkI] at h
    split at h
    · simp only [Bool.and_eq_true] at h
      obtain ⟨rfl, hg⟩ := gn_ok g h.1.1.1.1
      exact s_rng2 g hg (star_not h.1.1.1.2) (star_not h.1.1.2) (ckE a false sc _ h.1.2 X W g).v (ckE b false sc _ h.2 X W g).v
    · cases h
  | .rng3 a b d, sc, tg, x, h, X, W, g => by
    simp only [chkI] at h
    split at h
    · simp only [Bool.and_eq_true] at h
      obtain ⟨rfl, hg⟩ := gn_ok g h.1.1.1.1.1.1
      exact s_rng3 g hg (star_not h.1.1.1.1.1.2) (star_not h.1.1.1.1.2) (star_not h.1.1.1.2) (ckE a false sc _ h.1.1.2 X W g).v (ckE b false sc _ h.1.2 X W g).v (ckE d false sc _ h.2 X W g).v
    · cases h
  | .itms a, sc, tg, x, h, X, W, g => by
    simp only [chkI] at h
    split at h
    · simp only [Bool.and_eq_true, decide_eq_true_eq] at h
      obtain ⟨⟨⟨rfl, h1⟩, h2⟩, h3⟩ := h
      exact s_itms (ckE a false sc _ h3 X W g).v h1 h2
    · cases h
  | .zip a b, sc, tg, x, h, X, W, g => by
    simp only [chkI] at h
    split at h
    · simp only [Bool.and_eq_true] at h
      obtain ⟨rfl, hg⟩ := gn_ok g h.1.1.1.1
      exact s_zip g hg (star_not h.1.1.1.2) (star_not h.1.1.2) (ckE a false sc _ h.1.2 X W g).v (ckE b false sc _ h.2 X W g).v
    · cases h
  | .enum a, sc, tg, x, h, X, W, g => by
    simp only [chkI] at h
    split at h
    · simp only [Bool.and_eq_true] at h
      obtain ⟨rfl, hg⟩ := gn_ok g h.1.1
      exact s_enum g hg (star_not h.1.2) (ckE a false sc _ h.2 X W g).v
    · cases h
  | .nil, sc, xs, kws, h, X, W, g | .cons _ _, sc, xs, kws, h, X, W, g | .star _ _, sc, xs, kws, h, X, W, g | .var _, sc, xs, kws, h, X, W, g | .con _, sc, xs, kws, h, X, W, g | .glob _ _, sc, xs, kws, h, X, W, g | .bin .., sc, xs, kws, h, X, W, g | .neg _, sc, xs, kws, h, X, W, g | .eqi .., sc, xs, kws, h, X, W, g | .cmp .., sc, xs, kws, h, X, W, g | .cmp2 .., sc, xs, kws, h, X, W, g | .isn .., sc, xs, kws, h, X, W, g | .isb .., sc, xs, kws, h, X, W, g
  | .and .., sc, xs, kws, h, X, W, g | .or .., sc, xs, kws, h, X, W, g | .one _, sc, xs, kws, h, X, W, g | .not _, sc, xs, kws, h, X, W, g | .ite .., sc, xs, kws, h, X, W, g | .tup _, sc, xs, kws, h, X, W, g | .lst .., sc, xs, kws, h, X, W, g | .dct .., sc, xs, kws, h, X, W, g | .idx .., sc, xs, kws, h, X, W, g | .sl .., sc, xs, kws, h, X, W, g
  | .comp .., sc, xs, kws, h, X, W, g | .comp2 .., sc, xs, kws, h, X, W, g
  | .listR .., sc, xs, kws, h, X, W, g | .tupR _, sc, xs, kws, h, X, W, g | .listOf .., sc, xs, kws, h, X, W, g | .tupOf _, sc, xs, kws, h, X, W, g | .sorted .., sc, xs, kws, h, X, W, g | .sortset .., sc, xs, kws, h, X, W, g | .lenset _, sc, xs, kws, h, X, W, g | .dictOf .., sc, xs, kws, h, X, W, g | .isi .., sc, xs, kws, h, X, W, g | .bi .., sc, xs, kws, h, X, W, g | .divmod .., sc, xs, kws, h, X, W, g
  | .bm .., sc, xs, kws, h, X, W, g | .call .., sc, xs, kws, h, X, W, g | .mk .., sc, xs, kws, h, X, W, g | .clm .., sc, xs, kws, h, X, W, g | .atr .., sc, xs, kws, h, X, W, g | .meth .., sc, xs, kws, h, X, W, g | .act .., sc, xs, kws, h, X, W, g | .lam .., sc, xs, kws, h, X, W, g => by simp [chkI] at h
end
end
end EV
set_option Elab.async false
set_option linter.all false
set_option maxRecDepth 100000
set_option maxHeartbeats 3200000
namespace EV
open PySem PySem.Spec PyProof.Rows L2
def bkF (sc : Scope) : ScopeKind := if sc.kind.isAnnotationScope then .function else sc.kind
def swapsW (sc : Scope) (value tg : Expr) : Option Bool := match value with
  | .ListComp _ _ s _ => match tg with
    | .Name t p => some (bkF sc == .function && sc.names.lookup t == some .local && p.line == value.pos.line && !(s.names.any fun (n, k) => n == t && (k == .local || k == .cell)))
    | _ => some false
  | .SetComp .. => none
  | .DictComp .. => none
  | _ => some false
theorem swapsW_ok {sc : Scope} {value tg : Expr} {l : Nat} {env : PySem.Env} {b : Bool} (hs : env.scope = sc) (h : swapsW sc value tg = some b) : swapsWith value (some tg) l env = pure b := by
  subst hs
  unfold swapsW at h
  split at h
  · rename_i e g s p
    split at h
    · cases h; rfl
    · rename_i hn
      cases h
      cases tg <;> first | rfl | exact absurd rfl (hn _ _)
  · cases h
  · cases h
  · rename_i h1 h2 h3
    cases h
    cases value <;> first | rfl | exact absurd rfl (h1 _ _ _ _) | exact absurd rfl (h2 _ _ _ _) | exact absurd rfl (h3 _ _ _ _ _)
def swNames (sc : Scope) (ts : List Expr) : List Str := ts.filterMap fun
    | .Name id pos => if sc.names.lookup id == some .local && pos.line == (ts.head?.map (·.pos.line)).getD 0 then some id else none
    | _ => none
def swapS (sc : Scope) (tg value : Expr) : Option (Option (List Str)) := match tg, value with
  | .Tuple ts _ _, .Tuple vs _ _ =>
    if !(ts.length == 2 || ts.length == 3) || vs.length != ts.length || bkF sc != .function then some none
    else if vs.any (fun | .Starred .. => true | _ => false) then some none
    else if (swNames sc ts).length != ts.length || (swNames sc ts).eraseDups.length != (swNames sc ts).length then some none
    else if vs.all (foldedForSure 8) then some none
    else if vs.all (constantsAlone 8) then none
    else some (some (swNames sc ts))
  | .List .., _ => none
  | _, _ => some none
theorem swapS_ok {sc : Scope} {tg value : Expr} {env : PySem.Env} {r : Option (List Str)} (hs : env.scope = sc) (h : swapS sc tg value = some r) : swappedStores [tg] value env = pure r := by
  subst hs
  unfold swapS at h
  split at h
  · rename_i ts k p vs k2 p2
    show (do
      if (!(ts.length == 2 || ts.length == 3) || vs.length != ts.length || bkF env.scope != .function) = true then return none
      if (vs.any fun | .Starred .. => true | _ => false) = true then return none
      if ((swNames env.scope ts).length != ts.length || (swNames env.scope ts).eraseDups.length != (swNames env.scope ts).length) = true then return none
      if vs.all (foldedForSure 8) = true then return none
      if vs.all (constantsAlone 8) = true then unsupported "assign.tuple-of-constant-expressions:order-of-the-stores"
      return some (swNames env.scope ts) : Sem (Option (List Str))) = pure r
    split at h
    · rename_i q; cases h; rw [if_pos q]
    · rename_i q
      rw [if_neg q]
      split at h
      · rename_i q2; cases h; rw [if_pos q2]
      · rename_i q2
        rw [if_neg q2]
        split at h
        · rename_i q3; cases h; rw [if_pos q3]
        · rename_i q3
          rw [if_neg q3]
          split at h
          · rename_i q4; cases h; rw [if_pos q4]
          · rename_i q4
            rw [if_neg q4]
            split at h
            · cases h
            · rename_i q5
              cases h
              rw [if_neg q5]
  · cases h
  · rename_i h1 h2
    cases h
    cases tg with
    | Tuple ts k p => cases value <;> first | rfl | exact (h1 _ _ _ _ _ _ rfl rfl).elim | exact (h2 _ _ _ _ _ _ rfl rfl).elim | exact (h1 _ _ _ rfl _ _ _ rfl).elim | exact (h2 _ _ _ rfl _ _ _ rfl).elim
    | List ts p => first | exact (h1 _ _ rfl).elim | exact (h2 _ _ rfl).elim | exact (h1 rfl).elim | exact (h2 rfl).elim
    | _ => rfl
section
variable (nm : Nm) (G : Pg) (ncl : Nat) (N : List Str)
def chkSet (sc : Sc) : Tg → E → Expr → Expr → Bool
  | .one i, .comp _ t' it cn el, .Name n _, .ListComp elt [⟨tg, iter, ifs, 0⟩] scope _ => decide (N[i]? = some n) && decide (sc.eff.names.lookup n = some .local) && chkI nm G ncl N sc it tg iter && blkC N sc.eff scope (ownOf N (tgV t')) && noSetE iter && okTg N (blkSc sc scope) t' tg &&
      (match ifs with | [] => isYes cn | [y] => chkE nm G ncl N true (blkSc sc scope) cn y | _ => false) && chkE nm G ncl N false (blkSc sc scope) el elt
  | .one i, .comp2 _ tg1 it cn tg3 it2 c2 el, .Name n _, .ListComp elt [⟨tg, iter, ifs, 0⟩, ⟨tg2, iter2, ifs2, 0⟩] scope _ => decide (N[i]? = some n) && decide (sc.eff.names.lookup n = some .local) && chkI nm G ncl N sc it tg iter && blkC N sc.eff scope (ownOf N (tgV tg1 ++ tgV tg3)) && noSetE iter && noSetE iter2 && okTg N (blkSc sc scope) tg1 tg && okTg N (blkSc sc scope) tg3 tg2 &&
      (match ifs with | [] => isYes cn | [y] => chkE nm G ncl N true (blkSc sc scope) cn y | _ => false) && chkI nm G ncl N (blkSc sc scope) it2 tg2 iter2 && (match ifs2 with | [] => isYes c2 | [y] => chkE nm G ncl N true (blkSc sc scope) c2 y | _ => false) && chkE nm G ncl N false (blkSc sc scope) el elt
  | _, _, _, _ => false
def chkPar (sc : Sc) (ns : List Str) : Tg → E → Expr → Expr → Bool
  | .tup [i, j], .tup es, .Tuple [.Name n1 _, .Name n2 _] _ _, .Tuple [x1, x2] _ _ => decide (ns = [n1, n2]) && decide (N[i]? = some n1) && decide (N[j]? = some n2) && decide (i ≠ j) && decide (sc.eff.names.lookup n1 = some .local) && decide (sc.eff.names.lookup n2 = some .local) && chkS nm G ncl N sc es [x1, x2]
  | .tup [i, j, l], .tup es, .Tuple [.Name n1 _, .Name n2 _, .Name n3 _] _ _, .Tuple [x1, x2, x3] _ _ => decide (ns = [n1, n2, n3]) && decide (N[i]? = some n1) && decide (N[j]? = some n2) && decide (N[l]? = some n3) && decide (i ≠ j) && decide (i ≠ l) && decide (j ≠ l) && decide (sc.eff.names.lookup n1 = some .local) && decide (sc.eff.names.lookup n2 = some .local) && decide (sc.eff.names.lookup n3 = some .local) && chkS nm G ncl N sc es [x1, x2, x3]
  | _, _, _, _ => false
def chkC (sc : Sc) : C → List Stmt → Bool
  | .done, sts => sts.isEmpty
  | .ret e, sts => match sts with
    | .Return (some x) _ :: _ => chkE nm G ncl N false sc e x
    | _ => false
  | .retn, sts => match sts with
    | .Return none _ :: _ => true
    | _ => false
  | .asg t e k, sts => match sts with
    | .Assign [tg] x _ :: rest => chkC sc k rest && (match swapsW sc.eff x tg, swapS sc.eff tg x with
      | some false, some none => okTg N sc t tg && chkE nm G ncl N false sc e x
      | some true, _ => chkSet nm G ncl N sc t e tg x
      | some false, some (some ns) => chkPar nm G ncl N sc ns t e tg x
      | _, _ => false)
    | _ => false
  | .seti i ix e k, sts => match sts with
    | .Assign [.Subscript (.Name n p1) xi p2] x _ :: rest => chkC sc k rest && decide (swapsW sc.eff x (.Subscript (.Name n p1) xi p2) = some false) && !isSlice xi && chkE nm G ncl N false sc (.var i) (.Name n p1) && chkE nm G ncl N false sc ix xi && chkE nm G ncl N false sc e x
    | _ => false
  | .setit i ix j e k, sts => match sts with
    | .Assign [.Tuple [.Subscript (.Name n p1) xi p2, .Name n2 p3] kk p4] x _ :: rest => chkC sc k rest && (decide (swapsW sc.eff x (.Tuple [.Subscript (.Name n p1) xi p2, .Name n2 p3] kk p4) = some false) && decide (swapS sc.eff (.Tuple [.Subscript (.Name n p1) xi p2, .Name n2 p3] kk p4) x = some none)) && !isSlice xi && (decide (N[j]? = some n2) && okTg.stB sc n2) && chkE nm G ncl N false sc (.var i) (.Name n p1) && chkE nm G ncl N false sc ix xi && chkE nm G ncl N false sc e x
    | _ => false
  | .setf o a e k, sts => match sts with
    | .Assign [.Attribute xo n p2] x _ :: rest => chkC sc k rest && decide (n = nm.anm a) && decide (swapsW sc.eff x (.Attribute xo n p2) = some false) && chkE nm G ncl N false sc o xo && chkE nm G ncl N false sc e x
    | _ => false
  | .exp e k, sts => match sts with
    | .Expr x _ :: rest => chkC sc k rest && plainX x && chkE nm G ncl N false sc e x
    | _ => false
  | .ite c a b k, sts => match sts with
    | .If x sa sb _ :: rest => chkE nm G ncl N true sc c x && chkC sc a sa && chkC sc b sb && chkC sc k rest
    | _ => false
  | .for t it b k, sts => match sts with
    | .For tg iter body [] _ :: rest => chkI nm G ncl N sc it tg iter && okTg N sc t tg && noSetE iter && chkC sc b body && chkC sc k rest
    | _ => false
  | .whl c b k, sts => match sts with
    | .While x body [] _ :: rest => chkE nm G ncl N true sc c x && chkC sc b body && chkC sc k rest
    | _ => false
  | .brk, sts => match sts with
    | .Break _ :: _ => true
    | _ => false
  | .cnt, sts => match sts with
    | .Continue _ :: _ => true
    | _ => false
  | .pass k, sts => match sts with
    | .Pass _ :: rest => chkC sc k rest
    | _ => false
  | .raise _, _ => true
  | .try b _ _ _ k, sts => match sts with
    | .Try body (_ :: _) [] [] _ :: rest => chkC sc b body && chkC sc k rest
    | _ => false
where
  plainX : Expr → Bool
    | .ListComp .. => false | .SetComp .. => false | .DictComp .. => false
    | _ => true
end
theorem plainX_ok {x : Expr} {l : Nat} {env : PySem.Env} (h : chkC.plainX x = true) : swapsWith x none l env = pure false := by
  cases x <;> first | rfl | cases h
section
variable {c : Cf} {ncl : Nat} {N : List Str}
variable (hcl : ∀ k, (c.G.cl k).isSome = true → k < ncl)
include hcl
set_option maxHeartbeats 20000000
theorem ckC (X : Cx) (W : XK) (sc : Sc) (g : Good c N X sc W) (hp : PassesOwn (model X.prog X.w) X.A X.env X.xe) : ∀ (k : C) (sts : List Stmt), chkC c.nm c.G ncl N sc k sts = true → okC c X W k sts
  | .done, sts, h => by
    simp only [chkC, List.isEmpty_iff] at h
    subst h; exact s_done
  | .ret e, sts, h => by
    simp only [chkC] at h
    split at h
    · exact s_ret (ckE hcl e false sc _ h X W g).v
    · cases h
  | .retn, sts, h => by
    simp only [chkC] at h
    split at h
    · exact s_retn
    · cases h
  | .asg t e k, sts, h => by
    simp only [chkC] at h
    split at h
    · rename_i tg x pos rest
      rw [Bool.and_eq_true] at h
      obtain ⟨h0, h⟩ := h
      have hk := ckC X W sc g hp k rest h0
      split at h
      · rename_i e1 e2
        simp only [Bool.and_eq_true] at h
        exact s_asg g (ckE hcl e false sc _ h.2 X W g).v h.1 (swapsW_ok g.hs e1) (swapS_ok g.hs e2) hk
      · rename_i e1
        unfold chkSet at h
        split at h
        · rename_i i m t' it cn el n pn elt tg' iter ifs scope p2
          simp only [Bool.and_eq_true, decide_eq_true_eq] at h
          obtain ⟨⟨⟨⟨⟨⟨⟨h1, h2⟩, h3⟩, h4⟩, h5⟩, h6⟩, h7⟩, h8⟩ := h
          refine c_setLc g h1 h2 (swapsW_ok g.hs e1) (ckI hcl it sc _ _ h3 X W g) h4 (set_fold h5) h6 (fun X' g' => ?_) (fun X' g' => (ckE hcl el false _ _ h8 X' noW g').v) hk
          split at h7
          · rw [yes_eq h7]; exact if_nil
          · exact if_one (ckE hcl cn true _ _ h7 X' noW g').t
          · cases h7
        · rename_i i m tg1 it cn tg3 it2 c2 el n pn elt tg' iter ifs tg2 iter2 ifs2 scope p2
          simp only [Bool.and_eq_true, decide_eq_true_eq] at h
          obtain ⟨⟨⟨⟨⟨⟨⟨⟨⟨⟨⟨h1, h2⟩, h3⟩, h4⟩, h5⟩, h5b⟩, h6⟩, h6b⟩, h7⟩, h7b⟩, h7c⟩, h8⟩ := h
          refine c_setLc2 g h1 h2 (swapsW_ok g.hs e1) (ckI hcl it sc _ _ h3 X W g) h4 (set_fold h5) (set_fold h5b) h6 h6b (fun X' g' => ?_) (fun X' g' => ckI hcl it2 _ _ _ h7b X' noW g') (fun X' g' => ?_) (fun X' g' => (ckE hcl el false _ _ h8 X' noW g').v) hk
          · split at h7
            · rw [yes_eq h7]; exact if_nil
            · exact if_one (ckE hcl cn true _ _ h7 X' noW g').t
            · cases h7
          · split at h7c
            · rw [yes_eq h7c]; exact if_nil
            · exact if_one (ckE hcl c2 true _ _ h7c X' noW g').t
            · cases h7c
        · cases h
      · rename_i ns e1 e2
        unfold chkPar at h
        split at h
        · simp only [Bool.and_eq_true, decide_eq_true_eq] at h
          obtain ⟨⟨⟨⟨⟨⟨rfl, h1⟩, h2⟩, h3⟩, h4⟩, h5⟩, h6⟩ := h
          exact c_par2 g h1 h2 h3 h4 h5 (swapS_ok g.hs e2) (ckS hcl _ sc _ h6 X W g) hk
        · simp only [Bool.and_eq_true, decide_eq_true_eq] at h
          obtain ⟨⟨⟨⟨⟨⟨⟨⟨⟨⟨rfl, h1⟩, h2⟩, h3⟩, h4⟩, h5⟩, h6⟩, h7⟩, h8⟩, h9⟩, h10⟩ := h
          exact c_par3 g h1 h2 h3 h4 h5 h6 h7 h8 h9 (swapS_ok g.hs e2) (ckS hcl _ sc _ h10 X W g) hk
        · cases h
      · cases h
    · cases h
  | .seti i ix e k, sts, h => by
    simp only [chkC] at h
    split at h
    · rename_i n p1 xi p2 x pos rest
      simp only [Bool.and_eq_true, decide_eq_true_eq, Bool.not_eq_true'] at h
      obtain ⟨⟨⟨⟨⟨h0, h1⟩, h2⟩, h3⟩, h4⟩, h5⟩ := h
      exact s_seti g (ckE hcl (.var i) false sc _ h3 X W g).v (ckE hcl ix false sc _ h4 X W g).v (ckE hcl e false sc _ h5 X W g).v h2 (swapsW_ok (l := pos.line) g.hs h1) (ckC X W sc g hp k _ h0)
    · cases h
  | .setit i ix j e k, sts, h => by
    simp only [chkC] at h
    split at h
    · rename_i n p1 xi p2 n2 p3 kk p4 x pos rest
      simp only [Bool.and_eq_true, decide_eq_true_eq, Bool.not_eq_true'] at h
      obtain ⟨⟨⟨⟨⟨⟨h0, h1, h1'⟩, h2⟩, h2a, h2b⟩, h3⟩, h4⟩, h5⟩ := h
      exact s_setit g (ckE hcl (.var i) false sc _ h3 X W g).v (ckE hcl ix false sc _ h4 X W g).v (ckE hcl e false sc _ h5 X W g).v h2 h2a h2b (swapsW_ok (l := pos.line) g.hs h1) (swapS_ok g.hs h1') (ckC X W sc g hp k _ h0)
    · cases h
  | .setf o a e k, sts, h => by
    simp only [chkC] at h
    split at h
    · simp only [Bool.and_eq_true, decide_eq_true_eq] at h
      obtain ⟨⟨⟨⟨h0, rfl⟩, h2⟩, h3⟩, h4⟩ := h
      exact s_setf g (ckE hcl o false sc _ h3 X W g).v (ckE hcl e false sc _ h4 X W g).v (swapsW_ok g.hs h2) (ckC X W sc g hp k _ h0)
    · cases h
  | .exp e k, sts, h => by
    simp only [chkC] at h
    split at h
    · simp only [Bool.and_eq_true] at h
      exact s_exp (ckE hcl e false sc _ h.2 X W g).v (plainX_ok h.1.2) (ckC X W sc g hp k _ h.1.1)
    · cases h
  | .ite d a b k, sts, h => by
    simp only [chkC] at h
    split at h
    · simp only [Bool.and_eq_true] at h
      exact c_ite (ckE hcl d true sc _ h.1.1.1 X W g).t (ckC X W sc g hp a _ h.1.1.2) (ckC X W sc g hp b _ h.1.2) (ckC X W sc g hp k _ h.2)
    · cases h
  | .for t it b k, sts, h => by
    simp only [chkC] at h
    split at h
    · simp only [Bool.and_eq_true] at h
      exact s_for g hp (ckI hcl it sc _ _ h.1.1.1.1 X W g) h.1.1.1.2 (set_fold h.1.1.2) (ckC X W sc g hp b _ h.1.2) (ckC X W sc g hp k _ h.2)
    · cases h
  | .whl d b k, sts, h => by
    simp only [chkC] at h
    split at h
    · simp only [Bool.and_eq_true] at h
      exact s_whl hp (ckE hcl d true sc _ h.1.1 X W g).t (ckC X W sc g hp b _ h.1.2) (ckC X W sc g hp k _ h.2)
    · cases h
  | .brk, sts, h => by
    simp only [chkC] at h
    split at h
    · exact s_brk
    · cases h
  | .cnt, sts, h => by
    simp only [chkC] at h
    split at h
    · exact s_cnt
    · cases h
  | .pass k, sts, h => by
    simp only [chkC] at h
    split at h
    · exact s_pass (ckC X W sc g hp k _ h)
    · cases h
  | .raise _, _, _ => s_raise
  | .try b cs i kh k, sts, h => by
    simp only [chkC] at h
    split at h
    · simp only [Bool.and_eq_true] at h
      exact s_try (ckC X.nox noW sc (good_nox g) PassesOwn.never b _ h.1) (ckC X W sc g hp k _ h.2)
    · cases h
end
end EV
set_option Elab.async false
set_option linter.all false
set_option maxRecDepth 100000
set_option maxHeartbeats 3200000
namespace EV
open PySem PySem.Spec PyProof.Rows L2
section
variable {L : Lay} {W : XK} {A : List Addr} {H : Hp} {S : St} {Q : VK}
def endR (tr : Bool) (n : Nat) : RS → R D
  | .nx _ s' => fin tr n .non s'
  | .rt d s' => fin tr n d s'
  | .ex e _ s' => .ex e s'
  | _ => .no
theorem post_fin {tr : Bool} {d : D} {S' : St} (C0 : Cells L A S H) (h : Post L W A H (Rel L) (fin tr S.length d S') Q) {A' : List Addr} {H' : Hp} {x : V} (g : Grow A H A' H') (C : Cells L A' S' H') (r : Rel L A' H' d x) : Q x H' := by
  cases tr with
  | false => exact h A' H' x g C r
  | true =>
    simp only [fin] at h
    split at h
    · rename_i d' e
      exact h (A'.take S.length) H' x (g.cut (by rw [C0.len]; exact Nat.le_refl _)) (C.cut _) (frz_rel C e r)
    · exact h.elim
theorem postS_end {tr : Bool} {r : RS} (C0 : Cells L A S H) (h : Post L W A H (Rel L) (endR tr S.length r) Q) : PostS L W A H { nx := fun _ H' => Q .non H', rt := Q } r := by
  cases r with
  | nx v S' => exact fun A' H' σ g C e => post_fin C0 h g C rel_non
  | rt d S' => exact fun A' H' x g C r => post_fin C0 h g C r
  | ex e v S' => exact fun A' H' c d g C q => h A' H' c d g C q
  | bk v S' => exact h.elim
  | ct v S' => exact h.elim
  | no => exact h.elim
theorem run_succ (G : Pg) (k f : Nat) (ds : List D) (s : St) : run G (k + 1) f ds s = match G.fn f with
    | none => .no
    | some r => if ds.length = r.np then endR r.tr s.length (ex G (run G k) r.body (ds.map some ++ List.replicate (r.ns - r.np) none) s) else .no := by
  rw [run]
  cases G.fn f with
  | none => rfl
  | some r =>
    dsimp only
    split
    · generalize ex G (run G k) r.body _ s = q
      cases q <;> rfl
    · rfl
theorem env_start {ds : List D} {vs : List V} {N : List Str} (r : Rels L A H ds vs) : EnvOk L A H (ds.map some ++ List.replicate (N.length - ds.length) none) (L2.start N vs) := by
  have e := r.len
  refine ⟨by simp [L2.start, e], fun i d h => ?_⟩
  rw [List.getElem?_append] at h
  split at h
  · rename_i hi
    rw [List.getElem?_map] at h
    cases q : ds[i]? with
    | none => rw [q] at h; cases h
    | some d' =>
      rw [q] at h
      cases h
      obtain ⟨x, ex, rx⟩ := r.get q
      have hi' : i < (vs.map some).length := by
        have := (List.getElem?_eq_some_iff.mp ex).1
        simpa using this
      refine ⟨x, ?_, rx⟩
      unfold L2.start
      rw [List.getElem?_append_left hi', List.getElem?_map, ex]
      rfl
  · rw [List.getElem?_replicate] at h
    split at h <;> cases h
end
theorem fnG_of {CX : CXT} {P : Program} {w : World} {K : PySem.W.Frag} {mg : Str → Option Value} {base : Heap} {k : Nat} {f : Addr} {name qual : Str} {params : Arguments} {body : List Stmt} {scope : Scope} {dV kV doc pm cdv ct oc : Value} {an od : Option Addr}
    {osl : Array (Option Value)} {N ps : List Str} {sp : Sp} (lk : K.lookup f = some ⟨oc, od, .func (PySem.W.fnOf name qual params body scope dV kV doc pm an cdv ct), osl⟩) (hcd : PySem.W.codeIn K cdv qual = true) (S : FnScope N ps scope)
    (len : ∀ vs H Q E, sp vs H Q E → vs.length = ps.length)
    (hbody : ∀ (A : Around) (outer : List PySem.Env) (s : Shared) (H : Hp) (vs : List V) (Q : VK) (E : XK), A.guards = some [] → Room k (A.deeper (envOfC qual scope s.heap.objs.size f cdv)) → sp vs H Q E →
      ∃ t, PSs (cxOf CX P w K mg base N qual scope f cdv A outer s H E) body t ∧ t { nx := fun _ H' => Q .non H', rt := Q } (L2.start N vs) H) :
    FnOkG P w K mg base CX (k + 1) f (PySem.W.fnOf name qual params body scope dV kV doc pm an cdv ct) ps sp := by
  refine ⟨fun A outer s H args us vs Q E hgd hr e0 hb r hsp => ?_⟩
  have hl := len _ _ _ _ hsp
  have KX : K.In s.heap := e0.mod.kin.keeps fun b o e => (e0.bs b o e).1
  have lim : s.heap.NoLimit := e0.mod.nolimit.keeps fun b o e => (e0.bs b o e).1
  have hkind : ∀ y ∈ ps.zip us, scope.names.lookup y.1 = some .local ∨ (scope.names.lookup y.1 = some .cell ∧ ((cellsFrom (s.heap.objs.size + 1) scope.names []).lookup y.1).isSome = true) := fun ⟨n, v⟩ hy => by
    rcases S.par n (List.of_mem_zip hy).1 with q | q
    · exact .inl q
    · exact .inr ⟨q, PySem.W.cellsFrom_some _ _ _ (.inl q)⟩
  refine codeAny_call_function hr.depth (KX _ _ lk) rfl S.co S.gen rfl (PySem.W.codeRec_of KX hcd) (hb _ _ _ _ ?_)
  refine wpAny_newFunctionEnv_cells S.kind hkind fun env he s1 x => ?_
  subst he
  refine ⟨lim.keeps x.toInCall.keep, codeAny_func ?_⟩
  obtain ⟨t, ht, hq⟩ := hbody A outer s H vs Q E hgd (hr.deeper _) hsp
  have I : Inv (cxOf CX P w K mg base N qual scope f cdv A outer s H E) [] (L2.start N vs) H s1 := inv_start S hr.hd e0 hl r x
  refine wpAny_mono (ht.run [] s1 (L2.start N vs) H _ I hq) (fun fl s' hs => ?_) fun e s' hs => hs
  have fin : ∀ {σ' : L2.St} {H' : Hp} {v : V} {u : Value}, Inv (cxOf CX P w K mg base N qual scope f cdv A outer s H E) [] σ' H' s' → RelV v u → Q v H' → CE outer P w H s Q u s' :=
    fun {σ' H' v u} J rv q => ⟨v, H', J.os, J.bare, J.base, J.hok, rv, q⟩
  cases fl with
  | ret u =>
    obtain ⟨v, σ', H', J, rv, q⟩ := hs
    exact fin J rv q
  | next =>
    obtain ⟨σ', H', J, q⟩ := hs
    exact fin (v := V.non) (u := Value.none) J rfl q
  | brk =>
    obtain ⟨_, _, _, q⟩ := hs
    exact False.elim q
  | cont =>
    obtain ⟨_, _, _, q⟩ := hs
    exact False.elim q
theorem fnG_up {c c' : Cf} {P : Program} {w : World} {K : PySem.W.Frag} {mg : Str → Option Value} {base : Heap} {k f ncl : Nat} {ro : FnR} {name qual : Str} {params : Arguments} {body : List Stmt} {scope : Scope} {dV kV doc pm cdv ct oc : Value} {an od : Option Addr}
    {osl : Array (Option Value)} {N : List Str} (hcl : ∀ k, (c.G.cl k).isSome = true → k < ncl) (hk : c.κ = run c.G k) (hk' : c'.κ = run c.G (k + 1)) (hnm : c'.nm = c.nm) (hcad : c'.cad = c.cad) (hcfs : c'.cfs = c.cfs) (hCX : c'.CX = c.CX)
    (hpass : ∀ X E, Passes c.CX X E) (nox : ∀ l H s e s', c.CX l H s (fun _ _ _ => False) e s' → False)
    (fs : ∀ X : Cx, X.prog = P → X.w = w → X.K = K → X.mg = mg → X.base = base → Facts c X)
    (lk : K.lookup (c.ad f) = some ⟨oc, od, .func (PySem.W.fnOf name qual params body scope dV kV doc pm an cdv ct), osl⟩) (hcd : PySem.W.codeIn K cdv qual = true) (S : FnScope N (c.nm.fps f) scope)
    (hf : c.G.fn f = some ro) (hnp : (c.nm.fps f).length = ro.np) (hns : N.length = ro.ns) (hch : chkC c.nm c.G ncl N ⟨scope, fun _ => true⟩ ro.body body = true) :
    FnOkG P w K mg base c'.CX (c.lv + 3) (c.ad f) (PySem.W.fnOf name qual params body scope dV kV doc pm an cdv ct) (c'.nm.fps f) (spF c' K f) := by
  rw [hnm, hCX]
  have hlay : ∀ z, c'.lay K z = c.lay K z := fun z => by simp only [Cf.lay, hcad, hcfs]
  refine fnG_of (k := c.lv + 2) lk hcd S (fun vs H Q E ⟨z, A, s, ds, hl, _, r, _⟩ => ?_) fun A outer s H vs Q E hgd hr ⟨z, A1, s1, ds, hl, cc, r, p⟩ => ?_
  · rw [← r.len, hl, hnm]
  · rw [hlay] at cc r p
    have hlen : ds.length = ro.np := by rw [hl, hnm, hnp]
    rw [hk', run_succ, hf] at p
    dsimp only at p
    rw [if_pos hlen, ← hk] at p
    have g : Good c N (cxOf c.CX P w K mg base N qual scope (c.ad f) cdv A outer s H E) ⟨scope, fun _ => true⟩ E := {
      hN := rfl
      nd := S.nd
      hs := rfl
      calm := rfl
      gd := hgd
      room := hr
      pass := hpass _ _
      nox := nox
      fnx := fun _ _ => rfl
      fs := fs _ rfl rfl rfl rfl rfl }
    refine ⟨_, ckC hcl _ E _ g (passes_of (K := fun e s'' => c.CX outer H s E e s'') rfl) ro.body body hch, z, A1, s1, _, ?_, cc, postS_end cc p⟩
    have := env_start (N := N) r
    rw [hns, hlen] at this
    exact this
end EV
set_option Elab.async false
set_option linter.all false
set_option maxRecDepth 100000
set_option maxHeartbeats 3200000
namespace EV
open PySem PySem.Spec PyProof.Rows L2
abbrev Cf.up (c : Cf) (n : Nat) : Cf := { c with κ := run c.G n, lv := 3 * n }
theorem InsF.up {c : Cf} {X : Cx} {k : Nat} {r : ClR} (n : Nat) (h : InsF c X k r) : InsF (c.up n) X k r :=
  { cls := h.cls, noat := h.noat, nd := h.nd, few := h.few, fld := h.fld, prop := h.prop, meth := h.meth, init := h.init, lenF := h.lenF, strF := h.strF, boolF := h.boolF, eqF := h.eqF, ha := h.ha, hn := h.hn, htk := h.htk, hne := h.hne, hm := h.hm }
theorem ClF.up {c : Cf} {X : Cx} {k : Nat} {r : ClR} (n : Nat) (h : ClF c X k r) : ClF (c.up n) X k r :=
  { gl := h.gl, ins := h.ins.up n, kitT := h.kitT, kitB := h.kitB, kitO := h.kitO }
structure DefOk (c : Cf) (ncl : Nat) (K : PySem.W.Frag) (mg : Str → Option Value) (f : Nat) (r : FnR) : Prop where
  ex : ∃ (name qual : Str) (params : Arguments) (body : List Stmt) (scope : Scope) (dvs : List V) (kws : List (Str × V)) (N : List Str),
    FunD K name qual params body scope dvs kws (c.ad f) (c.fd f) ∧ FnScope N (c.nm.fps f) scope ∧ N.length = r.ns ∧ chkC c.nm c.G ncl N ⟨scope, fun _ => true⟩ r.body body = true
  np : (c.nm.fps f).length = r.np
  gl : c.nm.fgl f = true → mg (c.nm.fnm f) = some (.ref (c.ad f))
  bd : Binds K (c.fd f) (c.nm.fps f) []
  kb : ∀ n ks pm, (n, ks, pm) ∈ c.nm.kwT f → ∀ (s : Shared) (us ws : List Value), K.In s.heap → us.length = n → ws.length = ks.length → ∃ as, pm.mapM (fun i => (us ++ ws)[i]?) = some as ∧ BindsTo s (c.fd f) ⟨us, ks.zip ws⟩ ((c.nm.fps f).zip as)
theorem run_len {G : Pg} {n f : Nat} {r : FnR} (hf : G.fn f = some r) {ds : List D} (S : St) (h : ds.length ≠ r.np) : run G n f ds S = .no := by
  cases n with
  | zero => rfl
  | succ n =>
    rw [run_succ, hf]
    dsimp only
    rw [if_neg h]
section
variable {c : Cf} {ncl : Nat} {P : Program} {w : World} {K : PySem.W.Frag} {mg : Str → Option Value} {base : Heap}
structure Txt (c : Cf) (ncl : Nat) (P : Program) (w : World) (K : PySem.W.Frag) (mg : Str → Option Value) (base : Heap) : Prop where
  hcl : ∀ k, (c.G.cl k).isSome = true → k < ncl
  pass : ∀ X E, Passes c.CX X E
  nox : ∀ l H s e s', c.CX l H s (fun _ _ _ => False) e s' → False
  defs : ∀ f r, c.G.fn f = some r → DefOk c ncl K mg f r
  gl : ∀ X : Cx, X.K = K → X.mg = mg → ∀ g d, c.nm.gval g = some d → GlF c X g d
  cl : ∀ X : Cx, X.K = K → X.mg = mg → ∀ k r, c.G.cl k = some r → ClF c X k r
  kd : ∀ X : Cx, X.K = K → X.w = w → X.mg = mg → ∀ g ks vs, c.nm.kval g = some (.dct ks vs) → KdF c X g ks vs
  free : ∀ x ∈ ([("len" : Str), "abs", "max", "min", "sum", "all", "any", "int", "str", "repr", "bool", "range", "zip", "enumerate", "list", "tuple", "sorted", "set", "dict", "isinstance", "divmod"] : List Str), mg x = none
theorem Txt.facts_of (T : Txt c ncl P w K mg base) (n : Nat) (h : ∀ f, (c.G.fn f).isSome = true → FnOkG P w K mg base c.CX (3 * n) (c.ad f) (c.fd f) (c.nm.fps f) (spF (c.up n) K f)) (X : Cx) (h1 : X.prog = P) (h2 : X.w = w) (h3 : X.K = K) (h4 : X.mg = mg) (h5 : X.base = base) : Facts (c.up n) X := by
  refine ⟨fun f hf => ?_, fun g d e => T.gl X h3 h4 g d e, fun k r e => (T.cl X h3 h4 k r e).up n, fun x hx => by rw [h4]; exact T.free x hx, fun g ks vs e => T.kd X h3 h2 h4 g ks vs e⟩
  obtain ⟨r, e⟩ := Option.isSome_iff_exists.mp hf
  have O := T.defs f r e
  have k := h f hf
  obtain ⟨_, _, _, _, _, _, _, _, F, _⟩ := O.ex
  subst h1 h2 h3 h4 h5
  exact { gl := O.gl, kp := F.kp, len := fun ds S hl => run_len e S (by rw [← O.np]; exact hl), bd := O.bd, kb := O.kb, ok := k }
theorem Txt.ok (T : Txt c ncl P w K mg base) : ∀ (n f : Nat), (c.G.fn f).isSome = true → FnOkG P w K mg base c.CX (3 * n) (c.ad f) (c.fd f) (c.nm.fps f) (spF (c.up n) K f)
  | 0, f, _ => ⟨fun A outer s H args us vs Q E _ _ _ _ _ ⟨z, A1, S, ds, _, _, _, p⟩ => False.elim p⟩
  | n + 1, f, hf => by
    obtain ⟨r, e⟩ := Option.isSome_iff_exists.mp hf
    have O := T.defs f r e
    obtain ⟨name, qual, params, body, scope, dvs, kws, N, F, S, hN, hch⟩ := O.ex
    obtain ⟨oc, od, dV, kV, doc, pm, an, cdv, ct, osl, efd, lk, hcd, _, _⟩ := F.ex
    have ih := fun f hf => Txt.ok T n f hf
    have q := fnG_up (c := c.up n) (c' := c.up (n + 1)) (P := P) (w := w) (base := base) (mg := mg) (k := n) (f := f) (ncl := ncl) (ro := r) (N := N) T.hcl rfl rfl rfl rfl rfl rfl T.pass T.nox (T.facts_of n ih) (efd ▸ lk) hcd S e O.np hN hch
    have e3 : 3 * (n + 1) = (c.up n).lv + 3 := rfl
    rw [e3, efd]
    exact q
end
end EV
set_option Elab.async false
set_option linter.all false
set_option maxRecDepth 100000
set_option maxHeartbeats 3200000
namespace EV
open PySem PySem.Spec PyProof.Rows L2
def CXN : CXT := fun _ _ _ _ _ _ => False
theorem passN (X : Cx) (E : XK) : Passes CXN X E := fun _ _ _ _ _ _ _ h => False.elim h
theorem noxN (l : List PySem.Env) (H : Hp) (s : Shared) (e : Value) (s' : Shared) (h : CXN l H s (fun _ _ _ => False) e s') : False := h
theorem law_post {c : Cf} {K : PySem.W.Frag} {n fl : Nat} {H : Hp} {a : Addr} {ns : List Int} {S' : St} (hp : (c.nm.fps fl).length = 1) (hS : SqL K H a (ns.map V.int))
    (h : run c.G n fl [.lst (ns.map D.int)] [] = .ok (.bl true) S') : spF (c.up n) K fl [.ref a] H (fun v _ => v = .bl true) fun _ _ _ => False := by
  have ri : ∀ (L : Lay) (A : List Addr) (H : Hp) (l : List Int), Rels L A H (l.map D.int) (l.map V.int) := fun L A H l => by
    induction l with
    | nil => exact Rels.nil
    | cons i l ih => exact Rels.cons rel_int ih
  refine ⟨[], [], [], [.lst (ns.map D.int)], hp.symm, ⟨rfl, List.nodup_nil, fun n c a e _ => by simp at e, fun a m => by cases m⟩, Rels.one ?_, ?_⟩
  · simp only [Rel]
    exact ⟨a, ns.map V.int, rfl, hS.imp (fun z => ⟨z, by simp, by simp [Cf.lay]⟩) id, ri _ _ _ _⟩
  · show Post _ _ _ _ _ (run c.G n fl [.lst (ns.map D.int)] []) _
    rw [h]
    exact fun A' H' x g C r => r.w.bl
structure AtCall (K : PySem.W.Frag) (mg : Str → Option Value) (a : Addr) (vs : List Value) (ns : List Int) (s : Shared) : Prop where
  k : K.In s.heap
  ns_ : s.heap.Ns mainGlobals mg
  blt : ∃ mb : Str → Option Value, s.heap.Ns builtinsNs mb ∧ ∀ x : Str, x ≠ "__name__" → mb x = bootBuiltins x
  lim : s.heap.NoLimit
  gens : s.gens = #[]
  scr : s.heap.get? a = some { cls := .type "list", data := .seq vs.toArray }
  its : IntsAre vs ns
  len : ns.length ≤ sizeLine
section
variable {P : Program} {w : World} {K : PySem.W.Frag} {mg : Str → Option Value} {CX : CXT} {k : Nat} {fa a : Addr} {fd : FuncData} {x : Str} {sp : Sp} {s : Shared} {vs : List Value} {ns : List Int}
def scrH (K : PySem.W.Frag) (a : Addr) (vs : List Value) (ns : List Int) : Hp := fun b => if b = a ∧ K.lookup a = none then some (.frz { cls := .type "list", data := .seq vs.toArray } (.lst (ns.map V.int))) else none
theorem scrH_some {b : Addr} {o : HO} (h : scrH K a vs ns b = some o) : b = a ∧ K.lookup a = none ∧ o = .frz { cls := .type "list", data := .seq vs.toArray } (.lst (ns.map V.int)) := by
  unfold scrH at h
  split at h
  · rename_i e
    cases h
    exact ⟨e.1, e.2, rfl⟩
  · cases h
theorem AtCall.seq (c : AtCall K mg a vs ns s) : SqL K (scrH K a vs ns) a (ns.map V.int) := by
  cases hk : K.lookup a with
  | some o =>
    have e := c.k a o hk
    rw [c.scr] at e
    cases e
    exact .inr ⟨_, vs.toArray, _, hk, rfl, rfl, rfl, by rw [List.size_toArray, c.its.length]; exact c.len, by simpa using vals_ints c.its⟩
  | none => exact .inl (.inr ⟨_, if_pos ⟨rfl, hk⟩⟩)
theorem AtCall.hok (c : AtCall K mg a vs ns s) : HOk P w (scrH K a vs ns) s.heap := fun b u z => by
  obtain ⟨rfl, _, rfl⟩ := scrH_some z
  exact ⟨c.scr, by rw [List.length_map]; exact c.len, vs, _, vals_ints c.its, c.scr⟩
theorem AtCall.off (c : AtCall K mg a vs ns s) {b : Addr} {o : Obj} (e : s.heap.get? b = some o) (h : (∃ es ep, o.data = .dict es ep) ∨ K.lookup b = some o) : (hidT s.heap (scrH K a vs ns)).get? b = some o := by
  refine hidT_get e ?_
  cases q : scrH K a vs ns b with
  | none => rfl
  | some u =>
    obtain ⟨rfl, hk, _⟩ := scrH_some q
    rcases h with ⟨es, ep, d⟩ | h
    · rw [c.scr] at e
      cases e
      cases (show Data.seq vs.toArray _ = Data.dict es ep from d)
    · rw [hk] at h; cases h
theorem AtCall.nsp (c : AtCall K mg a vs ns s) {b : Addr} {m : Str → Option Value} : s.heap.Ns b m → (hidT s.heap (scrH K a vs ns)).Ns b m :=
  fun ⟨o, es, ep, e, d, r⟩ => ⟨o, es, ep, c.off e (.inl ⟨es, ep, d⟩), d, r⟩
theorem AtCall.kin (c : AtCall K mg a vs ns s) : K.In (hidT s.heap (scrH K a vs ns)) := fun b o e => c.off (c.k b o e) (.inr e)
theorem AtCall.env (c : AtCall K mg a vs ns s) : Env0 P w K mg (hidT s.heap (scrH K a vs ns)) callerA [] s (scrH K a vs ns) :=
  ⟨rfl, ⟨c.kin, c.nsp c.ns_, let ⟨mb, h, q⟩ := c.blt; ⟨mb, c.nsp h, q⟩, let ⟨mc, h1, h2⟩ := c.lim; ⟨mc, c.nsp h1, h2⟩⟩, fun b o e => of_hidT e, Nat.le_of_eq (hidT_size _ _), trivial, fun b hb => absurd (show b ∈ ([] : List Addr) from hb) (by simp), c.hok, .of_eq c.gens⟩
theorem AtCall.run (c : AtCall K mg a vs ns s) (hr : Room k callerA) (F : ∀ base : Heap, K.In base → base.Ns mainGlobals mg → FnOkG P w K mg base CX k fa fd [x] sp) (hbind : ∀ (s : Shared) (u : Value), BindsTo s fd ⟨[u], []⟩ [(x, u)])
    (hsp : ∀ H : Hp, SqL K H a (ns.map V.int) → sp [.ref a] H (fun v _ => v = .bl true) fun _ _ _ => False) (hCX : ∀ H e s', CX [] H s (fun _ _ _ => False) e s' → False) :
    codeAny (model P w) callerA (.call (.ref fa) ⟨[.ref a], []⟩) (fun r s' => r = .ok (.ret (.bool true)) ∧ OldK s.heap s'.heap ∧ s'.os = s.os ∧ AllBare s'.gens) s := by
  refine codeAny_mono ((F _ c.kin (c.nsp c.ns_)).run callerA [] s _ ⟨[.ref a], []⟩ [.ref a] [.ref a] _ _ rfl hr c.env (hbind s (.ref a)) (.cons rfl .nil) (hsp _ c.seq)) fun r s' h => ?_
  match r, h with
  | .error e, h => exact (hCX _ e s' h).elim
  | .ok .next, h => exact False.elim h
  | .ok .brk, h => exact False.elim h
  | .ok .cont, h => exact False.elim h
  | .ok (.ret u), ⟨v, H', os, bare, un, hok', r', q⟩ =>
    obtain rfl : v = .bl true := q
    obtain rfl : u = Value.bool true := r'
    refine ⟨rfl, OldK.of_keep fun b o e => ?_, os, bare⟩
    cases z : scrH K a vs ns b with
    | none => exact un.keep b o e z (by intro z; exact absurd (show b ∈ ([] : List Addr) from z) (by simp)) (by simp)
    | some u =>
      obtain ⟨_, _, rfl⟩ := scrH_some z
      have z2 := un.frzs b _ _ z
      obtain ⟨e1, _⟩ := c.hok (P := P) (w := w) b _ z
      obtain ⟨e2, _⟩ := hok' b _ z2
      rw [e] at e1; cases e1
      exact e2
end
theorem walk_ev {l : PySem.W.OpenLaw} {n k : Nat} {q : Program} {loose : List Str} {XP : (Str → Option Value) → Heap → Prop} {YP : World → Heap → Prop} {d : DefRec} {x : Str}
    (hn : l.most = some n) (hn2 : n ≤ sizeLine) (hdf : d.params.defaults = []) (hr : Room k callerA)
    (F : ∀ (w : World) (mg : Str → Option Value) (fa : Addr) (h : Heap), YP w h → h.Ns mainGlobals mg → mg d.name = some (.ref fa) →
      ∃ (K : PySem.W.Frag) (fd : FuncData) (sp : Sp), K.In h ∧ (∀ (s : Shared) (u : Value), BindsTo s fd ⟨[u], []⟩ [(x, u)]) ∧
        (∀ (H : Hp) (a : Addr) (ns : List Int), ns.length ≤ n → SqL K H a (ns.map V.int) → sp [.ref a] H (fun v _ => v = .bl true) fun _ _ _ => False) ∧
        ∀ base : Heap, K.In base → base.Ns mainGlobals mg → FnOkG l.prog w K mg base CXN k fa fd [x] sp) :
    PySem.W.WalkO q loose XP YP l.row.toRowW d [] (fun f vs => PySem.call f vs) := by
  refine Att.attach_call hn hdf fun w s₀ s₁ mg mb fa o pm cd doc a vs ns G Y ho hd hcd hmg hobj hints hlen hg => ?_
  obtain ⟨K, fd, sp, KX, hb, hsp, hF⟩ := F w mg fa _ Y G.T.g hmg
  have c : AtCall K mg a vs ns s₁ := ⟨KX, G.T.g, ⟨mb, G.T.b, G.T.builtins⟩, G.T.nolimit, hg, hobj, hints, Nat.le_trans hlen hn2⟩
  exact c.run hr hF hb (fun H hS => hsp H a ns hlen hS) fun H e s' h => h
end EV
set_option Elab.async false
set_option linter.all false
set_option maxRecDepth 100000
set_option maxHeartbeats 3200000
namespace EV
open PySem PySem.Spec PyProof.Rows L2 He
inductive Pl where
  | glo (x : Str)
  | meth (C m : Str)
  | prop (C m : Str)
def Pl.ad (K : PySem.W.Frag) : Pl → Addr
  | .glo x => ga K x
  | .meth C m => ma K (ga K C) m
  | .prop C m => match PySem.W.recIn K (ma K (ga K C) m) "property" with
    | some (.ref g :: _) => g
    | _ => 0
abbrev AlK : Type := He.AlT
def obsX (B : PySem.W.Frag → Bool) (fn : List He5.DefA) (ts : List He.Tab) (K : PySem.W.Frag) : AlK := ((B K && fn.all fun d => d.ok K, fn.map fun d => He5.fnA K (d.at_ K)), ts.map fun t => He.dicW K (t.1 K))
def valX (fn : List He5.DefA) (ts : List He.Tab) (w : World) : AlK := (He5.valA fn, ts.map fun t => some (He.keysIn w.params t.2))
def SaysX (B : PySem.W.Frag → Bool) (fn : List He5.DefA) (ts : List He.Tab) (w : World) (K : PySem.W.Frag) : Prop := obsX B fn ts K = valX fn ts w
def asF (g : Addr → Option Obj) : Nat → List Addr → List Addr
  | 0, fr => fr
  | n + 1, fr => fr ++ asF g n (fr.flatMap fun a => match g a with
    | some o => He.refsD o
    | none => [])
def obsXG (n : Nat) (B : PySem.W.Frag → Bool) (fn : List He5.DefA) (ts : List He.Tab) (g : Addr → Option Obj) : AlK := obsX B fn ts (frG g (asF g n [mainGlobals] ++ [cStatics]))
def hookX (n : Nat) (B : PySem.W.Frag → Bool) (fn : List He5.DefA) (ts : List He.Tab) : PySem.W.Hook where
  α := AlK
  obs := fun s => obsXG n B fn ts s.heap.get?
  val := fun w => valX fn ts w
  says := fun w h => ∃ K : PySem.W.Frag, K.In h ∧ SaysX B fn ts w K
  of := fun _ _ e => ⟨_, frG_in, e⟩
  keeps := fun _ _ _ ⟨K, hK, c⟩ k => ⟨K, PySem.W.Frag.In.keeps hK k, c⟩
theorem obsXG_eq {n : Nat} {B : PySem.W.Frag → Bool} {fn : List He5.DefA} {ts : List He.Tab} {g : Addr → Option Obj} {s : Shared} (h : ∀ a, g a = s.heap.get? a) : obsXG n B fn ts g = (hookX n B fn ts).obs s := by
  have e : g = s.heap.get? := funext h
  rw [e]; rfl
section
variable {B : PySem.W.Frag → Bool} {fn : List He5.DefA} {ts : List He.Tab} {w : World} {K : PySem.W.Frag}
theorem SaysX.fact (c : SaysX B fn ts w K) : B K = true := (ba (show (B K && fn.all fun d => d.ok K) = true from congrArg (fun z : AlK => z.1.1) c)).1
theorem SaysX.def_ (c : SaysX B fn ts w K) (i : Nat) {d : He5.DefA} (h : fn[i]? = some d) : ∃ fd, L2.FunD K d.name d.qual d.params d.body d.scope (d.dvs K) (d.kws K) (d.at_ K) fd := by
  have c2 := (ba (show (B K && fn.all fun d => d.ok K) = true from congrArg (fun z : AlK => z.1.1) c)).2
  have e : fn.map (fun d => He5.fnA K (d.at_ K)) = fn.map He5.DefA.val := congrArg (fun z : AlK => z.1.2) c
  have e2 : (fn.map fun d => He5.fnA K (d.at_ K))[i]? = (fn.map He5.DefA.val)[i]? := by rw [e]
  rw [List.getElem?_map, List.getElem?_map, h] at e2
  exact He5.DefA.funD (Option.some.inj e2) (List.all_eq_true.mp c2 d (List.mem_of_getElem? h))
theorem SaysX.tab (c : SaysX B fn ts w K) {t : He.Tab} (h : t ∈ ts) : He.dicW K (t.1 K) = some (He.keysIn w.params t.2) := by
  have e : ts.map (fun t => He.dicW K (t.1 K)) = ts.map fun t => some (He.keysIn w.params t.2) := congrArg (fun z : AlK => z.2) c
  exact List.map_inj_left.mp e t h
end
mutual
def gvB (K : PySem.W.Frag) : D → Value → Bool
  | .non, .none => true
  | .bl b, .bool c => b == c
  | .int i, .int j _ => decide (i = j)
  | .str l, .str x _ => decide (x = SS l)
  | .tup ds, .ref a => match K.lookup a with
    | some o => decide (o.cls = .type "tuple") && match o.data with
      | .seq its _ => decide (its.size ≤ sizeLine) && gvsB K ds its.toList
      | _ => false
    | none => false
  | .lst ds, .ref a => match K.lookup a with
    | some o => decide (o.cls = .type "list" ∧ o.dict = none) && match o.data with
      | .seq its _ => decide (its.size ≤ sizeLine) && gvsB K ds its.toList
      | _ => false
    | none => false
  | _, _ => false
def gvsB (K : PySem.W.Frag) : List D → List Value → Bool
  | [], [] => true
  | d :: ds, u :: us => gvB K d u && gvsB K ds us
  | _, _ => false
end
mutual
theorem gvB_ok {c : Cf} {K : PySem.W.Frag} : ∀ {d : D} {u : Value}, gvB K d u = true → ∃ x, RelV x u ∧ ∀ z A H, Rel (c.lay K z) A H d x
  | .non, u, h => by
    cases u <;> first | exact ⟨.non, rfl, fun _ _ _ => rel_non⟩ | cases h
  | .bl b, u, h => by
    cases u with
    | bool k =>
      have : b = k := beq_iff_eq.mp h
      subst this
      exact ⟨.bl b, rfl, fun _ _ _ => rel_bl⟩
    | _ => cases h
  | .int i, u, h => by
    cases u with
    | int j t =>
      have : i = j := of_decide_eq_true h
      subst this
      exact ⟨.int i, ⟨t, rfl⟩, fun _ _ _ => rel_int⟩
    | _ => cases h
  | .str l, u, h => by
    cases u with
    | str x t =>
      have : x = SS l := of_decide_eq_true h
      subst this
      exact ⟨.str (SS l), ⟨t, rfl⟩, fun _ _ _ => rel_str⟩
    | _ => cases h
  | .tup ds, u, h => by
    cases u with
    | ref a =>
      unfold gvB at h
      split at h
      · rename_i o e
        have ⟨h1, h2⟩ := Bool.and_eq_true_iff.mp h
        split at h2
        · rename_i its n ed
          have ⟨h3, h4⟩ := Bool.and_eq_true_iff.mp h2
          obtain ⟨xs, hv, hr⟩ := gvsB_ok (c := c) (K := K) h4
          exact ⟨.ref a, rfl, fun z A H => by simp only [Rel]; exact ⟨a, xs, rfl, .inr ⟨o, its, n, e, of_decide_eq_true h1, ed, of_decide_eq_true h3, hv⟩, hr z A H⟩⟩
        · cases h2
      · cases h
    | _ => cases h
  | .lst ds, u, h => by
    cases u with
    | ref a =>
      unfold gvB at h
      split at h
      · rename_i o e
        have ⟨h1, h2⟩ := Bool.and_eq_true_iff.mp h
        have h1 := of_decide_eq_true h1
        split at h2
        · rename_i its n ed
          have ⟨h3, h4⟩ := Bool.and_eq_true_iff.mp h2
          obtain ⟨xs, hv, hr⟩ := gvsB_ok (c := c) (K := K) h4
          exact ⟨.ref a, rfl, fun z A H => by simp only [Rel]; exact ⟨a, xs, rfl, .inr ⟨o, its, n, e, h1.1, h1.2, ed, of_decide_eq_true h3, hv⟩, hr z A H⟩⟩
        · cases h2
      · cases h
    | _ => cases h
  | .dct _ _, u, h => by cases u <;> cases h
  | .ins _ _, u, h => by cases u <;> cases h
  | .cell _, u, h => by cases u <;> cases h
  | .cls _, u, h => by cases u <;> cases h
  | .clo _ _, u, h => by cases u <;> cases h
theorem gvsB_ok {c : Cf} {K : PySem.W.Frag} : ∀ {ds : List D} {us : List Value}, gvsB K ds us = true → ∃ xs, Vals xs us ∧ ∀ z A H, Rels (c.lay K z) A H ds xs
  | [], us, h => by
    cases us with
    | nil => exact ⟨[], .nil, fun _ _ _ => Rels.nil⟩
    | cons u us => cases h
  | d :: ds, us, h => by
    cases us with
    | nil => cases h
    | cons u us =>
      have ⟨h1, h2⟩ := Bool.and_eq_true_iff.mp (show (gvB K d u && gvsB K ds us) = true from h)
      obtain ⟨x, r, k⟩ := gvB_ok (c := c) h1
      obtain ⟨xs, rs, ks⟩ := gvsB_ok (c := c) h2
      exact ⟨x :: xs, .cons r rs, fun z A H => Rels.cons (k z A H) (ks z A H)⟩
end
def glbB (K : PySem.W.Frag) (x : Str) (d : D) : Bool := match PySem.W.nsIn K mainGlobals x with
  | some (some u) => gvB K d u
  | _ => false
def dkS : DK → Str
  | .str t => SS t
  | .int _ => ""
def kvsB (K : PySem.W.Frag) (a : Addr) (ks : List DK) (vs : List D) : Bool := decide (ks.length = vs.length) && (ks.zip vs).all fun q => match q.1 with
  | .str t => match PySem.W.nsIn K a (SS t) with
    | some (some u) => gvB K q.2 u
    | _ => false
  | .int _ => false
def kdbB (K : PySem.W.Frag) (x : Str) (d : D) : Bool := match d with
  | .dct ks vs => match PySem.W.nsIn K mainGlobals x with
    | some (some (.ref a)) => kvsB K a ks vs
    | _ => false
  | _ => false
theorem lookK_mem {k : DK} {d : D} : ∀ {ks : List DK} {vs : List D}, lookK k ks vs = some d → ∃ q, dkEq q k = true ∧ (q, d) ∈ ks.zip vs
  | [], vs, h => by simp [lookK] at h
  | _ :: _, [], h => by simp [lookK] at h
  | q :: ks, v :: vs, h => by
    simp only [lookK] at h
    split at h
    · rename_i e
      cases h
      exact ⟨q, e, by simp⟩
    · obtain ⟨q', e, m⟩ := lookK_mem h
      exact ⟨q', e, by simp [m]⟩
theorem lookK_not {k : DK} : ∀ {ks : List DK} {vs : List D}, ks.length = vs.length → lookK k ks vs = none → ∀ q ∈ ks, dkEq q k = false
  | [], vs, _, h => by simp
  | _ :: _, [], l, h => by simp at l
  | q :: ks, v :: vs, l, h => by
    simp only [lookK] at h
    split at h
    · cases h
    · rename_i e
      intro x hx
      rcases List.mem_cons.mp hx with rfl | m
      · simpa using e
      · exact lookK_not (by simpa using l) h x m
theorem keys_none {P : Params} {x : Str} : ∀ {l : List DictEntry} {ks : List Str}, l.map He.keyOf = He.keysIn P ks → x ∉ ks → l.find? (·.key.isStr x) = none ∧ l.any (·.refKey) = false
  | [], _, _, _ => ⟨rfl, rfl⟩
  | e :: r, [], h, _ => by cases h
  | e :: r, k :: ks, h, hx => by
    have h1 : He.keyOf e :: r.map He.keyOf = some (k, PyData.keyHash P k) :: He.keysIn P ks := h
    injection h1 with h2 h3
    have ⟨r1, r2⟩ := keys_none h3 (fun m => hx (List.mem_cons_of_mem _ m))
    unfold He.keyOf at h2
    split at h2
    · rename_i y t q
      have h4 := Option.some.inj h2
      obtain ⟨h5, h6⟩ := Prod.mk.inj h4
      have hne : y ≠ x := fun e => hx (by rw [← e, h5]; exact List.mem_cons_self)
      constructor
      · rw [List.find?_cons, q]
        have : (Value.str y t).isStr x = false := by
          show (y == x) = false
          simpa using hne
        rw [this]; exact r1
      · rw [List.any_cons, r2]
        have : e.refKey = false := by
          unfold DictEntry.refKey; rw [q]
        rw [this]; rfl
    · cases h2
theorem kd_ok {c : Cf} {K : PySem.W.Frag} {w : World} {a : Addr} {ks : List DK} {vs : List D} (hd : He.dicW K a = some (He.keysIn w.params (ks.map dkS))) (hb : kvsB K a ks vs = true) : ∃ es n, KDict K w a es n ∧ ∀ t : List Nat, (∃ d u v, lookK (.str t) ks vs = some d ∧ PySem.W.nsIn K a (SS t) = some (some u) ∧ RelV v u ∧ ∀ z A H, Rel (c.lay K z) A H d v) ∨ (lookK (.str t) ks vs = none ∧ PySem.W.nsIn K a (SS t) = some none) := by
  obtain ⟨es, n, dd⟩ := He.dicW_ok hd
  have ek : es.toList.map He.keyOf = He.keysIn w.params (ks.map dkS) := by
    unfold He.dicW at hd
    rw [dd.at_] at hd
    simp only [dd.low] at hd
    simpa using hd
  obtain ⟨b1, b2⟩ := ba hb
  have b1 := of_decide_eq_true b1
  refine ⟨es, n, dd, fun t => ?_⟩
  have hstr : ∀ q ∈ ks, ∃ t, q = .str t := fun q hq => by
    obtain ⟨i, hi, rfl⟩ := List.mem_iff_getElem.mp hq
    have hm : (ks[i], vs[i]'(by omega)) ∈ ks.zip vs := by
      rw [List.mem_iff_getElem]
      exact ⟨i, by simp; omega, by simp⟩
    have := List.all_eq_true.mp b2 _ hm
    cases hk : ks[i] with
    | str t => exact ⟨t, rfl⟩
    | int j => rw [hk] at this; cases this
  cases e : lookK (.str t) ks vs with
  | some d =>
    obtain ⟨q, eq, m⟩ := lookK_mem e
    have this := List.all_eq_true.mp b2 _ m
    obtain ⟨t', rfl⟩ := hstr q (List.of_mem_zip m).1
    have et : t' = t := by simpa [dkEq] using eq
    subst et
    dsimp only at this
    split at this
    · rename_i u eu
      obtain ⟨x, r, k⟩ := gvB_ok (c := c) this
      exact .inl ⟨d, u, x, rfl, eu, r, k⟩
    · cases this
  | none =>
    have hn : SS t ∉ ks.map dkS := fun m => by
      obtain ⟨q, hq, e2⟩ := List.mem_map.mp m
      obtain ⟨t', rfl⟩ := hstr q hq
      have := lookK_not b1 e _ hq
      have et : t' = t := SS_inj e2
      simp [dkEq, et] at this
    obtain ⟨k1, k2⟩ := keys_none ek hn
    refine .inr ⟨rfl, ?_⟩
    unfold PySem.W.nsIn
    rw [dd.at_]
    dsimp only
    rw [k1, k2]; rfl
section
open PySem PySem.W PySem.Calls PyProof.Rows HandSHeadRun
noncomputable abbrev runX (r : OpenRow) (M : Nat) (w : World) (os : OsState) : Option SharedT := HandSHeadRun.endF (stepQ (denQ tabQ) r.prog w) M r.prog w os
def RunA (r : OpenRow) (q : Program) (M : Nat) (loose : List PySem.Str) (w : World) : Prop :=
  ∀ os : OsState, (runX r M w os).map (fun s => (looksF r.prog (boot_heap w.params) s.abs, HandSHeadRun.seenQ q loose (importedModules r.prog.main.body) (fun s => PySem.W.xlAt q [] s && recOk r.toRowW.records s) s.abs)) = some (true, openGood q loose)
def RunB (r : OpenRow) (H : PySem.W.Hook) (ob : SharedT → H.α) (M : Nat) (w : World) : Prop :=
  ∀ os : OsState, (runX r M w os).map ob = some (H.val w)
theorem run_parts {r : OpenRow} {q : Program} {H : PySem.W.Hook} {ob : SharedT → H.α} {M : Nat} {loose : List PySem.Str} {w : World} (a : RunA r q M loose w) (b : RunB r H ob M w) : HandSHeadRun.RunEq r q H ob M loose w := by
  intro os
  have a := a os
  have b := b os
  unfold runX at a b
  revert a b
  generalize HandSHeadRun.endF _ M r.prog w os = x
  intro a b
  cases x with
  | none => cases a
  | some s =>
    simp only [Option.map_some, Option.some.injEq, Prod.mk.injEq] at a b ⊢
    exact ⟨a.1, a.2, b⟩
end
end EV
set_option Elab.async false
set_option linter.all false
set_option maxRecDepth 100000
set_option maxHeartbeats 3200000
namespace EV
open PySem PySem.Spec PyProof.Rows L2 He
theorem mem_of_look {β : Type} {a : Nat} {b : β} : ∀ {l : List (Nat × β)}, l.lookup a = some b → (a, b) ∈ l
  | [], h => by cases h
  | (x, y) :: l, h => by
    rw [List.lookup_cons] at h
    split at h
    · rename_i e
      have e := beq_iff_eq.mp e
      cases h
      rw [e]; exact .head _
    · exact .tail _ (mem_of_look h)
def spB (K : PySem.W.Frag) (G : Pg) (ad : Nat → Addr) (C : Addr) (m : Str) : Option Nat → Bool
  | none => true
  | some f => (G.fn f).isSome && (He.eqO (PySem.W.findIn K (.ref C) m) (some (some (.ref (ad f)))) && PySem.W.isFn K (.ref (ad f)))
theorem spB_ok {K : PySem.W.Frag} {G : Pg} {ad : Nat → Addr} {C : Addr} {m : Str} {o : Option Nat} (h : spB K G ad C m o = true) : ∀ f, o = some f → (G.fn f).isSome = true ∧ PySem.W.findIn K (.ref C) m = some (some (.ref (ad f))) ∧ PySem.W.isFn K (.ref (ad f)) = true := by
  rintro f rfl
  obtain ⟨h1, h2⟩ := ba h
  obtain ⟨h2, h3⟩ := ba h2
  exact ⟨h1, eqO_ok h2, h3⟩
def propB (K : PySem.W.Frag) (C : Addr) (m : Str) (g : Addr) : Bool := match PySem.W.findIn K (.ref C) m with
  | some (some (.ref p)) => He.eqO (PySem.W.specialIn K (.ref p) "__get__") (some (some (.builtin "property.__get__"))) && (decide (PySem.W.takesIn K (.ref p) = some true) && (match PySem.W.recIn K p "property" with
    | some (.ref g' :: _) => decide (g' = g)
    | _ => false))
  | _ => false
theorem propB_ok {K : PySem.W.Frag} {C : Addr} {m : Str} {g : Addr} (h : propB K C m g = true) : ∃ p, PropOf K C m p g := by
  unfold propB at h
  split at h
  · rename_i p e
    obtain ⟨h1, h2⟩ := ba h
    obtain ⟨hA, hB⟩ := ba h2
    split at hB
    · rename_i g' rest e3
      have := of_decide_eq_true hB
      subst this
      exact ⟨p, ⟨e, eqO_ok h1, of_decide_eq_true hA, rest, e3⟩⟩
    · cases hB
  · cases h
def clsB (K : PySem.W.Frag) (C : Addr) : Bool := PySem.W.plainGet K C Str.empty && (PySem.W.hasDictIn K C && (PySem.W.plainOver K C && He.eqO (PySem.W.findIn K (.ref C) "__setattr__") (some (some (.builtin "object.__setattr__")))))
theorem clsB_ok {K : PySem.W.Frag} {C : Addr} (h : clsB K C = true) : Cls K C := by
  obtain ⟨h1, h2⟩ := ba h
  obtain ⟨h2, h3⟩ := ba h2
  obtain ⟨h3, h4⟩ := ba h3
  exact ⟨h1, h2, h3, eqO_ok h4⟩
def topB (K : PySem.W.Frag) (C : Addr) : Bool := He.eqO (PySem.W.findIn K (.ref C) "__class__") (some (some (.builtin "object.__class__"))) && (He.eqO (PySem.W.specialIn K (.builtin "object.__class__") "__get__") (some (some (.builtin "getset_descriptor.__get__")))
  && (decide (PySem.W.takesIn K (.builtin "object.__class__") = some true) && (He.eqO (PySem.W.findIn K (.ref C) "__ne__") (some (some (.builtin "object.__ne__"))) && decide (PySem.W.mroIn K C (.type "object") = some true))))
def insB (K : PySem.W.Frag) (G : Pg) (nm : Nm) (ad cad : Nat → Addr) (cfs : Nat → List Str) (k : Nat) (r : ClR) : Bool :=
  clsB K (cad k) && (topB K (cad k) && ((cfs k).all (fun f => He.eqO (PySem.W.findIn K (.ref (cad k)) f) (some none)) && (decide ((cfs k).Nodup ∧ (cfs k).length ≤ 900)
  && (r.fld.all (fun q => decide ((cfs k)[q.2]? = some (nm.anm q.1))) && (r.prop.all (fun q => (G.fn q.2).isSome && propB K (cad k) (nm.anm q.1) (ad q.2))
  && (r.meth.all (fun q => decide (nm.anm q.1 ∉ cfs k) && ((G.fn q.2).isSome && (He.eqO (PySem.W.findIn K (.ref (cad k)) (nm.anm q.1)) (some (some (.ref (ad q.2)))) && (PySem.W.isFn K (.ref (ad q.2)) && PySem.W.keepIn K (.ref (ad q.2))))))
  && ((match r.init with
    | none => true
    | some f => (G.fn f).isSome && (PySem.W.makesIn K (cad k) && (He.eqO (PySem.W.findIn K (.ref (cad k)) "__init__") (some (some (.ref (ad f)))) && (PySem.W.isFn K (.ref (ad f)) && PySem.W.keepIn K (.ref (cad k))))))
  && (spB K G ad (cad k) "__len__" r.lenF && (spB K G ad (cad k) "__str__" r.strF && (spB K G ad (cad k) "__bool__" r.boolF && spB K G ad (cad k) "__eq__" r.eqF))))))))))
theorem insB_ok {c : Cf} {X : Cx} {k : Nat} {r : ClR} (h : insB X.K c.G c.nm c.ad c.cad c.cfs k r = true) : InsF c X k r := by
  obtain ⟨h1, h⟩ := ba h
  obtain ⟨h2, h⟩ := ba h
  obtain ⟨h3, h⟩ := ba h
  obtain ⟨h4, h⟩ := ba h
  obtain ⟨h5, h⟩ := ba h
  obtain ⟨h6, h⟩ := ba h
  obtain ⟨h7, h⟩ := ba h
  obtain ⟨h8, h⟩ := ba h
  obtain ⟨h9, h⟩ := ba h
  obtain ⟨h10, h⟩ := ba h
  obtain ⟨h11, h12⟩ := ba h
  obtain ⟨t1, t⟩ := ba h2
  obtain ⟨t2, t⟩ := ba t
  obtain ⟨t3, t⟩ := ba t
  obtain ⟨t3b, t4⟩ := ba t
  have h4 := of_decide_eq_true h4
  exact {
    cls := clsB_ok h1
    noat := fun f hf => eqO_ok (List.all_eq_true.mp h3 f hf)
    nd := h4.1
    few := h4.2
    fld := fun a i e => of_decide_eq_true (List.all_eq_true.mp h5 _ (mem_of_look e))
    prop := fun a f e => by
      obtain ⟨q1, q2⟩ := ba (List.all_eq_true.mp h6 _ (mem_of_look e))
      exact ⟨q1, propB_ok q2⟩
    meth := fun a f e => by
      obtain ⟨q1, q⟩ := ba (List.all_eq_true.mp h7 _ (mem_of_look e))
      obtain ⟨q2, q⟩ := ba q
      obtain ⟨q3, q⟩ := ba q
      obtain ⟨q4, q5⟩ := ba q
      exact ⟨of_decide_eq_true q1, q2, eqO_ok q3, q4, q5⟩
    init := fun f e => by
      rw [e] at h8
      obtain ⟨q1, q⟩ := ba h8
      obtain ⟨q2, q⟩ := ba q
      obtain ⟨q3, q⟩ := ba q
      obtain ⟨q4, q5⟩ := ba q
      exact ⟨q1, q2, eqO_ok q3, q4, q5⟩
    lenF := spB_ok h9
    strF := spB_ok h10
    boolF := spB_ok h11
    eqF := spB_ok h12
    ha := eqO_ok t1
    hn := eqO_ok t2
    htk := of_decide_eq_true t3
    hne := eqO_ok t3b
    hm := of_decide_eq_true t4 }
def clB (K : PySem.W.Frag) (G : Pg) (nm : Nm) (ad cad : Nat → Addr) (cfs : Nat → List Str) (ncl k : Nat) (r : ClR) : Bool :=
  He.eqO (PySem.W.nsIn K mainGlobals (nm.cnm k)) (some (some (.ref (cad k)))) && (insB K G nm ad cad cfs k r && (tyNames.all (fun t => decide (PySem.W.kitOne K (.type t) (.ref (cad k)) = some false) && decide (PySem.W.kitOne K (.ref (cad k)) (.type t) = some false))
  && (List.range ncl).all (fun k' => match G.cl k' with
    | none => true
    | some r' => decide (PySem.W.kitOne K (.ref (cad k')) (.ref (cad k)) = some (k' == k || r'.sup.contains k)))))
theorem clB_ok {c : Cf} {X : Cx} {ncl k : Nat} {r : ClR} {h0 : Heap} (KX : X.K.In h0) (hns : h0.Ns mainGlobals X.mg) (hcl : ∀ k, (c.G.cl k).isSome = true → k < ncl) (h : clB X.K c.G c.nm c.ad c.cad c.cfs ncl k r = true) : ClF c X k r := by
  obtain ⟨h1, h⟩ := ba h
  obtain ⟨h2, h⟩ := ba h
  obtain ⟨h3, h4⟩ := ba h
  have k3 := fun t ht => ba (List.all_eq_true.mp h3 t ht)
  exact {
    gl := PySem.W.mg_of KX hns (eqO_ok h1)
    ins := insB_ok h2
    kitT := fun t ht => of_decide_eq_true (k3 t ht).1
    kitB := fun t ht => of_decide_eq_true (k3 t ht).2
    kitO := fun k' r' e => by
      have q := List.all_eq_true.mp h4 k' (List.mem_range.mpr (hcl k' (by rw [e]; rfl)))
      rw [e] at q
      exact of_decide_eq_true q }
end EV
set_option Elab.async false
set_option linter.all false
set_option maxRecDepth 100000
set_option maxHeartbeats 3200000
namespace EV
open PySem PySem.Spec PyProof.Rows L2 He
structure DT where
  pl : Pl
  name : Str
  qual : Str
  params : Arguments
  body : List Stmt
  scope : Scope
  N : List Str
  dfl : List He.Dv := []
  kwd : List (Str × He.Dv) := []
def DT.da (d : DT) : He5.DefA := ⟨d.pl.ad, d.name, d.qual, d.params, d.body, d.scope, d.dfl, d.kwd⟩
abbrev DT.fun_ (d : DT) (K : PySem.W.Frag) (f : Addr) (fd : FuncData) : Prop := FunD K d.name d.qual d.params d.body d.scope (d.da.dvs K) (d.da.kws K) f fd
structure Tb where
  G : Pg
  nm : Nm
  dts : List DT
  cfs : Nat → List Str
  ncl : Nat
  ngl : Nat
def Tb.ad (T : Tb) (K : PySem.W.Frag) (f : Nat) : Addr := match T.dts[f]? with
  | some d => d.pl.ad K
  | none => 0
def Tb.cad (T : Tb) (K : PySem.W.Frag) (k : Nat) : Addr := ga K (T.nm.cnm k)
def Tb.cf (T : Tb) (K : PySem.W.Frag) (fd : Nat → FuncData) : Cf := ⟨T.G, fun _ _ _ => .no, T.nm, T.ad K, fd, T.cad K, T.cfs, CXN, 0⟩
def freeL : List Str := [("len" : Str), "abs", "max", "min", "sum", "all", "any", "int", "str", "repr", "bool", "range", "zip", "enumerate", "list", "tuple", "sorted", "set", "dict", "isinstance", "divmod"]
def Tb.B (T : Tb) (K : PySem.W.Frag) : Bool :=
  (List.range T.ncl).all (fun k => match T.G.cl k with
    | none => true
    | some r => clB K T.G T.nm (T.ad K) (T.cad K) T.cfs T.ncl k r) &&
  ((List.range T.ngl).all (fun g => (match T.nm.gval g with
    | none => true
    | some d => glbB K (T.nm.gnm g) d) && (match T.nm.kval g with
    | none => true
    | some d => kdbB K (T.nm.gnm g) d)) &&
  ((List.range T.dts.length).all (fun f => !T.nm.fgl f || He.eqO (PySem.W.nsIn K mainGlobals (T.nm.fnm f)) (some (some (.ref (T.ad K f))))) &&
   freeL.all (fun x => He.eqO (PySem.W.nsIn K mainGlobals x) (some none))))
def Tb.tabs (T : Tb) : List He.Tab := (List.range T.ngl).filterMap fun g => match T.nm.kval g with
  | some (.dct ks _) => some (fun K => ga K (T.nm.gnm g), ks.map dkS)
  | _ => none
structure Tb.Ok (T : Tb) : Prop where
  cl : ∀ k, (T.G.cl k).isSome = true → k < T.ncl
  gl : ∀ g, (T.nm.gval g).isSome = true → g < T.ngl
  kg : ∀ g, (T.nm.kval g).isSome = true → g < T.ngl
  fn : ∀ f r, T.G.fn f = some r → ∃ d, T.dts[f]? = some d ∧ FnScope d.N (T.nm.fps f) d.scope ∧ d.N.length = r.ns ∧ (T.nm.fps f).length = r.np ∧ chkC T.nm T.G T.ncl d.N ⟨d.scope, fun _ => true⟩ r.body d.body = true
  bd : ∀ (f : Nat) (d : DT), T.dts[f]? = some d → ∀ K a fd, d.fun_ K a fd → Binds K fd (T.nm.fps f) []
  kb : ∀ (f : Nat) (d : DT), T.dts[f]? = some d → ∀ K a fd, d.fun_ K a fd → ∀ n ks pm, (n, ks, pm) ∈ T.nm.kwT f → ∀ (s : Shared) (us ws : List Value), K.In s.heap → us.length = n → ws.length = ks.length → ∃ as, pm.mapM (fun i => (us ++ ws)[i]?) = some as ∧ BindsTo s fd ⟨us, ks.zip ws⟩ ((T.nm.fps f).zip as)
section
variable {T : Tb} {K : PySem.W.Frag} {h : Heap} {mg : Str → Option Value} {w : World}
theorem Tb.funs (c : SaysX T.B (T.dts.map DT.da) T.tabs w K) [Nonempty FuncData] : ∃ fd : Nat → FuncData, ∀ (f : Nat) (d : DT), T.dts[f]? = some d → d.fun_ K (T.ad K f) (fd f) := by
  have key : ∀ f : Nat, ∃ fd : FuncData, ∀ (d : DT), T.dts[f]? = some d → d.fun_ K (T.ad K f) fd := fun f => by
    cases e : T.dts[f]? with
    | none => exact ⟨Classical.choice inferInstance, fun d q => by cases q⟩
    | some d =>
      obtain ⟨fd, F⟩ := c.def_ f (d := d.da) (by rw [List.getElem?_map, e]; rfl)
      refine ⟨fd, fun d' q => ?_⟩
      cases q
      have : T.ad K f = d.da.at_ K := by unfold Tb.ad; rw [e]; rfl
      rw [this]; exact F
  exact ⟨fun f => Classical.choose (key f), fun f => Classical.choose_spec (key f)⟩
theorem Tb.txt (O : T.Ok) (c : SaysX T.B (T.dts.map DT.da) T.tabs w K) (KX : K.In h) (hns : h.Ns mainGlobals mg) {fd : Nat → FuncData} (F : ∀ (f : Nat) (d : DT), T.dts[f]? = some d → d.fun_ K (T.ad K f) (fd f)) (P : Program) (base : Heap) :
    Txt (T.cf K fd) T.ncl P w K mg base := by
  obtain ⟨b1, b⟩ := ba c.fact
  obtain ⟨b2, b⟩ := ba b
  obtain ⟨b3, b4⟩ := ba b
  exact {
    hcl := O.cl
    pass := passN
    nox := noxN
    defs := fun f r e => by
      obtain ⟨d, ed, S, hN, hp, hch⟩ := O.fn f r e
      refine ⟨⟨d.name, d.qual, d.params, d.body, d.scope, _, _, d.N, F f d ed, S, hN, hch⟩, hp, fun q => ?_, O.bd f d ed K _ _ (F f d ed), O.kb f d ed K _ _ (F f d ed)⟩
      have := List.all_eq_true.mp b3 f (List.mem_range.mpr (List.getElem?_eq_some_iff.mp ed).1)
      have q : T.nm.fgl f = true := q
      rw [q] at this
      exact PySem.W.mg_of KX hns (He.eqO_ok this)
    gl := fun X hK hm g d e => by
      have e : T.nm.gval g = some d := e
      have := (ba (List.all_eq_true.mp b2 g (List.mem_range.mpr (O.gl g (by rw [e]; rfl))))).1
      rw [e] at this
      have this : glbB K (T.nm.gnm g) d = true := this
      unfold glbB at this
      split at this
      · rename_i u eu
        obtain ⟨x, r, k⟩ := gvB_ok (c := T.cf K fd) this
        exact ⟨u, x, by rw [hm]; exact PySem.W.mg_of KX hns eu, r, fun z A S H _ => by rw [hK]; exact k z A H⟩
      · cases this
    kd := fun X hK hw hm g ks vs e => by
      subst hK hw hm
      have e : T.nm.kval g = some (.dct ks vs) := e
      have hr := List.mem_range.mpr (O.kg g (by rw [e]; rfl))
      have := (ba (List.all_eq_true.mp b2 g hr)).2
      rw [e] at this
      have this : kdbB X.K (T.nm.gnm g) (.dct ks vs) = true := this
      have ht : (fun K => ga K (T.nm.gnm g), ks.map dkS) ∈ T.tabs := List.mem_filterMap.mpr ⟨g, hr, by rw [e]⟩
      have hd := c.tab ht
      dsimp only at hd
      unfold kdbB at this
      dsimp only at this
      split at this
      · rename_i a ea
        have hga : ga X.K (T.nm.gnm g) = a := by unfold ga; rw [ea]
        rw [hga] at hd
        obtain ⟨es, n, dd, tab⟩ := kd_ok (c := T.cf X.K fd) hd this
        exact ⟨a, es, n, PySem.W.mg_of KX hns ea, dd, tab⟩
      · cases this
    cl := fun X hK hm k r e => by
      subst hK hm
      have e : T.G.cl k = some r := e
      have := List.all_eq_true.mp b1 k (List.mem_range.mpr (O.cl k (by rw [e]; rfl)))
      rw [e] at this
      exact clB_ok (c := T.cf X.K fd) KX hns O.cl this
    free := fun x hx => PySem.W.mg_none_of KX hns (He.eqO_ok (List.all_eq_true.mp b4 x hx)) }
theorem Tb.law (O : T.Ok) {n fl m : Nat} {d : DT} {x : Str} (P : Program) (ed : T.dts[fl]? = some d) (hps : T.nm.fps fl = [x]) (hpl : ∃ y, d.pl = .glo y) (hG : (T.G.fn fl).isSome = true) (hgl : T.nm.fgl fl = true) (hd : ∀ K a fd, d.fun_ K a fd → ∀ (s : Shared) (u : Value), BindsTo s fd ⟨[u], []⟩ [(x, u)])
    (hrun : ∀ ns : List Int, ns.length ≤ m → ∃ S', run T.G n fl [.lst (ns.map D.int)] [] = .ok (.bl true) S') (fa : Addr) (KX : K.In h) (hns : h.Ns mainGlobals mg) (hfa : mg (T.nm.fnm fl) = some (.ref fa)) (c : SaysX T.B (T.dts.map DT.da) T.tabs w K) :
    ∃ (fd : FuncData) (sp : Sp), (∀ (s : Shared) (u : Value), BindsTo s fd ⟨[u], []⟩ [(x, u)]) ∧
        (∀ (H : Hp) (a : Addr) (ns : List Int), ns.length ≤ m → SqL K H a (ns.map V.int) → sp [.ref a] H (fun v _ => v = .bl true) fun _ _ _ => False) ∧
        ∀ base : Heap, K.In base → base.Ns mainGlobals mg → FnOkG P w K mg base CXN (3 * n) fa fd [x] sp := by
  obtain ⟨fd0, _⟩ := c.def_ fl (d := d.da) (by rw [List.getElem?_map, ed]; rfl)
  have : Nonempty FuncData := ⟨fd0⟩
  obtain ⟨fd, F⟩ := Tb.funs c
  have ea : T.ad K fl = fa := by
    have q := ((Tb.txt O c KX hns F P h).defs fl _ (Option.some_get hG).symm).gl hgl
    rw [show mg ((T.cf K fd).nm.fnm fl) = some (.ref fa) from hfa] at q
    exact (Value.ref.inj (Option.some.inj q)).symm
  refine ⟨fd fl, spF ((T.cf K fd).up n) K fl, hd K _ _ (F fl d ed), fun H a ns hl hS => ?_, fun base hb hn => ?_⟩
  · obtain ⟨S', e⟩ := hrun ns hl
    exact law_post (c := T.cf K fd) (by show (T.nm.fps fl).length = 1; rw [hps]; rfl) hS e
  · have q := (Tb.txt O c KX hns F P base).ok n fl hG
    have q : FnOkG P w K mg base CXN (3 * n) (T.ad K fl) (fd fl) (T.nm.fps fl) (spF ((T.cf K fd).up n) K fl) := q
    rw [ea, hps] at q
    exact q
end
end EV
set_option Elab.async false
set_option linter.all false
set_option maxRecDepth 100000
set_option maxHeartbeats 3200000
namespace EV
open PySem PySem.Spec PyProof.Rows L2 He
structure TL where
  fnL : List (Option FnR)
  clL : List (Option ClR)
  dts : List DT
  fnmL : List Str
  fglL : List Bool
  fpsL : List (List Str)
  kwL : List (List (Nat × List Str × List Nat))
  cnmL : List Str
  cfsL : List (List Str)
  gnmL : List Str
  gvL : List D
  anmL : List Str
  kvL : List (Option D) := []
def TL.nm (t : TL) : Nm := ⟨fun f => t.fnmL.getD f "", fun f => t.fglL.getD f false, fun f => t.fpsL.getD f [], fun k => t.cnmL.getD k "", fun g => t.gnmL.getD g "", fun g => if (t.kvL.getD g none).isSome then none else t.gvL[g]?, fun a => t.anmL.getD a "", fun f => t.kwL.getD f [], fun g => t.kvL.getD g none⟩
def TL.T (t : TL) : Tb := ⟨⟨fun n => t.fnL.getD n none, fun k => t.clL.getD k none⟩, t.nm, t.dts, fun k => t.cfsL.getD k [], t.clL.length, max t.gvL.length t.kvL.length⟩
def fscB (N P : List Str) (sc : Scope) : Bool := decide (sc.kind = .function) && (!sc.isCoroutine && (!sc.isGenerator && (decide N.Nodup && (decide (N.take P.length = P) && (P.all (fun x => match sc.names.lookup x with
  | some .local => true
  | some .cell => true
  | _ => false) && sc.names.all fun y => decide (y.2 ≠ .free))))))
theorem fscB_ok {N P : List Str} {sc : Scope} (h : fscB N P sc = true) : FnScope N P sc := by
  obtain ⟨h1, h⟩ := ba h
  obtain ⟨h2, h⟩ := ba h
  obtain ⟨h3, h⟩ := ba h
  obtain ⟨h4, h⟩ := ba h
  obtain ⟨h5, h⟩ := ba h
  obtain ⟨h6, h7⟩ := ba h
  refine ⟨of_decide_eq_true h1, by simpa using h2, by simpa using h3, of_decide_eq_true h4, of_decide_eq_true h5, fun x m => ?_, fun y m => of_decide_eq_true (List.all_eq_true.mp h7 y m)⟩
  have := List.all_eq_true.mp h6 x m
  split at this
  · rename_i e; exact .inl e
  · rename_i e; exact .inr e
  · cases this
def TL.chkF (t : TL) (f : Nat) : Bool := match t.fnL.getD f none with
  | none => true
  | some r => match t.dts[f]? with
    | none => false
    | some d => fscB d.N (t.nm.fps f) d.scope && (decide (d.N.length = r.ns) && (decide ((t.nm.fps f).length = r.np) && chkC t.nm t.T.G t.T.ncl d.N ⟨d.scope, fun _ => true⟩ r.body d.body))
structure DP (ps : List Str) (kw : List (Nat × List Str × List Nat)) (d : DT) : Prop where
  bd : ∀ K a fd, d.fun_ K a fd → Binds K fd ps []
  kb : ∀ K a fd, d.fun_ K a fd → ∀ n ks pm, (n, ks, pm) ∈ kw → ∀ (s : Shared) (us ws : List Value), K.In s.heap → us.length = n → ws.length = ks.length → ∃ as, pm.mapM (fun i => (us ++ ws)[i]?) = some as ∧ BindsTo s fd ⟨us, ks.zip ws⟩ (ps.zip as)
theorem DP.of {ps : List Str} {kw : List (Nat × List Str × List Nat)} {pl : Pl} {name qual : Str} {params : Arguments} {body : List Stmt} {scope : Scope} {N : List Str}
    (h : ∀ (kV doc pm : Value) (an : Option Addr) (cdv ct : Value) (us : List Value), us.length = ps.length → bindArgs (PySem.W.fnOf name qual params body scope .none kV doc pm an cdv ct) ⟨us, []⟩ = pure (ps.zip us))
    (hk : ∀ n ks pm, (n, ks, pm) ∈ kw → ∀ (kV doc pm' : Value) (an : Option Addr) (cdv ct : Value) (us ws : List Value), us.length = n → ws.length = ks.length → ∃ as, pm.mapM (fun i => (us ++ ws)[i]?) = some as ∧ bindArgs (PySem.W.fnOf name qual params body scope .none kV doc pm' an cdv ct) ⟨us, ks.zip ws⟩ = pure (ps.zip as)) :
    DP ps kw ⟨pl, name, qual, params, body, scope, N, [], []⟩ := by
  refine ⟨fun K a fd F => FunD.bindsN F h, fun K a fd F n ks pm m s us ws _ l1 l2 => ?_⟩
  obtain ⟨oc, od, dV, kV, doc, pm', an, cdv, ct, osl, rfl, lk, hcd, hD, hK⟩ := F.ex
  rcases hD with ⟨_, rfl⟩ | ⟨e, _⟩
  · obtain ⟨as, e1, e2⟩ := hk n ks pm m kV doc pm' an cdv ct us ws l1 l2
    exact ⟨as, e1, .of_eq e2⟩
  · exact absurd rfl e
inductive AllF (P : Nat → DT → Prop) : Nat → List DT → Prop
  | nil {i : Nat} : AllF P i []
  | cons {i : Nat} {d : DT} {ds : List DT} (h : P i d) (t : AllF P (i + 1) ds) : AllF P i (d :: ds)
theorem AllF.get {P : Nat → DT → Prop} : ∀ {i : Nat} {ds : List DT} {k : Nat} {d : DT}, AllF P i ds → ds[k]? = some d → P (i + k) d
  | _, _, 0, _, .cons h t, e => by simp at e; subst e; exact h
  | i, _, k + 1, d, .cons h t, e => by
    have := AllF.get (k := k) t (by simpa using e)
    rwa [show i + 1 + k = i + (k + 1) by omega] at this
  | _, _, _, _, .nil, e => by simp at e
theorem TL.ok {t : TL} (h1 : (List.range t.fnL.length).all t.chkF = true) (h2 : AllF (fun f d => DP (t.nm.fps f) (t.nm.kwT f) d) 0 t.dts) : t.T.Ok where
  cl k h := by
    have h : (t.clL.getD k none).isSome = true := h
    show k < t.clL.length
    rcases Nat.lt_or_ge k t.clL.length with q | q
    · exact q
    · rw [List.getD_eq_getElem?_getD, List.getElem?_eq_none q] at h; simp at h
  gl g h := by
    have h : (if (t.kvL.getD g none).isSome then none else t.gvL[g]?).isSome = true := h
    show g < max t.gvL.length t.kvL.length
    rcases Nat.lt_or_ge g t.gvL.length with q | q
    · omega
    · rw [List.getElem?_eq_none q] at h; simp at h
  kg g h := by
    have h : (t.kvL.getD g none).isSome = true := h
    show g < max t.gvL.length t.kvL.length
    rcases Nat.lt_or_ge g t.kvL.length with q | q
    · omega
    · rw [List.getD_eq_getElem?_getD, List.getElem?_eq_none q] at h; simp at h
  fn f r e := by
    have e : t.fnL.getD f none = some r := e
    have hf : f < t.fnL.length := by
      rcases Nat.lt_or_ge f t.fnL.length with q | q
      · exact q
      · rw [List.getD_eq_getElem?_getD, List.getElem?_eq_none q] at e; simp at e
    have k := List.all_eq_true.mp h1 f (List.mem_range.mpr hf)
    unfold TL.chkF at k
    rw [e] at k
    dsimp only at k
    split at k
    · cases k
    · rename_i d ed
      obtain ⟨k1, k⟩ := ba k
      obtain ⟨k2, k⟩ := ba k
      obtain ⟨k3, k4⟩ := ba k
      exact ⟨d, ed, fscB_ok k1, of_decide_eq_true k2, of_decide_eq_true k3, k4⟩
  bd f d e := by
    have := (h2.get e).bd
    rwa [Nat.zero_add] at this
  kb f d e := by
    have := (h2.get e).kb
    rwa [Nat.zero_add] at this
end EV
set_option linter.all false
set_option maxRecDepth 100000
namespace EV
open PySem (Operator CmpOp)
inductive W {α : Type} (r : R α) (Q : α → St → Prop) : Prop
  | mk (a : α) (s : St) (e : r = .ok a s) (q : Q a s)
inductive WS (r : RS) (N : Env → St → Prop) (T : D → St → Prop) (B Ct : Env → St → Prop) : Prop
  | nx (v : Env) (s : St) (e : r = .nx v s) (q : N v s)
  | rt (d : D) (s : St) (e : r = .rt d s) (q : T d s)
  | bk (v : Env) (s : St) (e : r = .bk v s) (q : B v s)
  | ct (v : Env) (s : St) (e : r = .ct v s) (q : Ct v s)
section
variable {α β : Type} {Q : α → St → Prop} {N B Ct : Env → St → Prop} {T : D → St → Prop}
@[simp] theorem W_ok {a : α} {s : St} : W (.ok a s) Q = Q a s :=
  propext ⟨fun ⟨_, _, e, q⟩ => by cases e; exact q, fun q => ⟨_, _, rfl, q⟩⟩
@[simp] theorem W_no : W (.no : R α) Q = False := propext ⟨(fun ⟨_, _, e, _⟩ => nomatch e), False.elim⟩
theorem W_ex {e : D} {s : St} : W (.ex e s : R α) Q = False := propext ⟨(fun ⟨_, _, e, _⟩ => nomatch e), False.elim⟩
@[simp] theorem W_bind {r : R β} {f : β → St → R α} : W (r.bind f) Q = W r (fun b s => W (f b s) Q) := by
  cases r with
  | ok a s => rw [W_ok]; rfl
  | ex e s => rw [W_ex]; exact W_ex
  | no => rw [W_no]; exact W_no
@[simp] theorem W_map {r : R β} {f : β → α} : W (r.map f) Q = W r (fun b s => Q (f b) s) := by
  cases r with
  | ok a s => rw [W_ok]; exact W_ok
  | ex e s => rw [W_ex]; exact W_ex
  | no => rw [W_no]; exact W_no
@[simp] theorem W_calm {r : R α} : W r.calm Q = W r Q := by
  cases r with
  | ok a s => rfl
  | ex e s => rw [W_ex]; exact W_no
  | no => rfl
@[simp] theorem W_opt {o : Option α} {s : St} : W (R.opt o s) Q = ∃ a, o = some a ∧ Q a s := by
  cases o with
  | none =>
    apply propext
    exact ⟨(fun ⟨_, _, e, _⟩ => nomatch e), (fun ⟨a, h, _⟩ => nomatch h)⟩
  | some a =>
    apply propext
    exact ⟨fun ⟨_, _, e, h⟩ => ⟨a, rfl, by cases e; exact h⟩, fun ⟨b, e, h⟩ => by cases e; exact ⟨_, _, rfl, h⟩⟩
theorem W_tst_bl {b : Bool} {s : St} {Q : Bool → St → Prop} : W (tst (.ok (.bl b) s)) Q = Q b s := W_ok
@[simp] theorem W_tst {r : R D} {Q : Bool → St → Prop} : W (tst r) Q = W r (fun d s => ∃ b, d = .bl b ∧ Q b s) := by
  unfold tst
  rw [W_bind]
  congr; funext d s
  apply propext
  cases d <;> simp
theorem W_mono {r : R α} {Q' : α → St → Prop} (h : W r Q') (k : ∀ a s, Q' a s → Q a s) : W r Q :=
  let ⟨a, s, e, q⟩ := h; ⟨a, s, e, k a s q⟩
theorem W_eq {r : R α} {a : α} {s : St} (h : r = .ok a s) (q : Q a s) : W r Q := ⟨a, s, h, q⟩
theorem eq_of_W {r : R α} {a : α} {s : St} (h : W r fun x y => x = a ∧ y = s) : r = .ok a s := by
  obtain ⟨x, y, e, rfl, rfl⟩ := h; exact e
theorem of_W {r : R α} (h : W r Q) : ∃ a s, r = .ok a s ∧ Q a s := let ⟨a, s, e, q⟩ := h; ⟨a, s, e, q⟩
theorem WS_mono {r : RS} {N' B' Ct' : Env → St → Prop} {T' : D → St → Prop} (h : WS r N' T' B' Ct') (k1 : ∀ v s, N' v s → N v s) (k2 : ∀ d s, T' d s → T d s) (k3 : ∀ v s, B' v s → B v s) (k4 : ∀ v s, Ct' v s → Ct v s) : WS r N T B Ct := by
  cases h with
  | nx v s e q => exact .nx v s e (k1 _ _ q)
  | rt v s e q => exact .rt v s e (k2 _ _ q)
  | bk v s e q => exact .bk v s e (k3 _ _ q)
  | ct v s e q => exact .ct v s e (k4 _ _ q)
@[simp] theorem WS_nx {v : Env} {s : St} : WS (.nx v s) N T B Ct = N v s := propext ⟨fun h => by cases h <;> rename_i e q <;> cases e <;> exact q, fun q => .nx _ _ rfl q⟩
@[simp] theorem WS_rt {d : D} {s : St} : WS (.rt d s) N T B Ct = T d s := propext ⟨fun h => by cases h <;> rename_i e q <;> cases e <;> exact q, fun q => .rt _ _ rfl q⟩
@[simp] theorem WS_bk {v : Env} {s : St} : WS (.bk v s) N T B Ct = B v s := propext ⟨fun h => by cases h <;> rename_i e q <;> cases e <;> exact q, fun q => .bk _ _ rfl q⟩
@[simp] theorem WS_ct {v : Env} {s : St} : WS (.ct v s) N T B Ct = Ct v s := propext ⟨fun h => by cases h <;> rename_i e q <;> cases e <;> exact q, fun q => .ct _ _ rfl q⟩
@[simp] theorem WS_no : WS .no N T B Ct = False := propext ⟨(fun h => by cases h <;> rename_i e q <;> cases e), False.elim⟩
theorem WS_ex {d : D} {v : Env} {s : St} : WS (.ex d v s) N T B Ct = False := propext ⟨(fun h => by cases h <;> rename_i e q <;> cases e), False.elim⟩
theorem WS_go {r : R α} {v : Env} {f : α → St → RS} : WS (r.go v f) N T B Ct = W r (fun a s => WS (f a s) N T B Ct) := by
  cases r with
  | ok a s => rw [W_ok]; rfl
  | ex e s => rw [W_ex]; exact WS_ex
  | no => rw [W_no]; exact WS_no
theorem WS_then {r : RS} {f : Env → St → RS} : WS (r.go f) N T B Ct = WS r (fun v s => WS (f v s) N T B Ct) T B Ct := by
  cases r with
  | nx v s => rw [WS_nx]; rfl
  | rt d s => rw [WS_rt]; exact WS_rt
  | bk v s => rw [WS_bk]; exact WS_bk
  | ct v s => rw [WS_ct]; exact WS_ct
  | ex d v s => rw [WS_ex]; exact WS_ex
  | no => rw [WS_no]; exact WS_no
end
section
variable {step : D → St → R (List D)} {g : Gd} {s : St}
theorem okG_nil : okG [] s = true := rfl
theorem compL_pure {f : D → List D} (hg : okG g s = true) : ∀ {xs : List D}, (∀ x ∈ xs, step x s = .ok (f x) s) → compL step g xs s = .ok (xs.flatMap f) s
  | [], _ => by simp [compL, hg]
  | x :: xs, h => by
    have ih := compL_pure (f := f) hg (xs := xs) fun y m => h y (List.mem_cons_of_mem _ m)
    simp only [compL, hg, if_true, h x List.mem_cons_self, R.bind, ih, R.map, List.flatMap_cons]
theorem compL_enc {β : Type} {enc : β → D} {f : β → List D} (hg : okG g s = true) : ∀ {xs : List β}, (∀ x ∈ xs, step (enc x) s = .ok (f x) s) → compL step g (xs.map enc) s = .ok (xs.flatMap f) s
  | [], _ => by simp [compL, hg]
  | x :: xs, h => by
    have ih := compL_enc (f := f) (enc := enc) hg (xs := xs) fun y m => h y (List.mem_cons_of_mem _ m)
    simp only [List.map_cons, compL, hg, if_true, h x List.mem_cons_self, R.bind, ih, R.map, List.flatMap_cons]
theorem compL_map {β : Type} {enc : β → D} {e : β → D} {xs : List β} (hg : okG g s = true) (h : ∀ x ∈ xs, step (enc x) s = .ok [e x] s) : compL step g (xs.map enc) s = .ok (xs.map e) s := by
  rw [compL_enc (f := fun x => [e x]) hg h]
  congr 1
  clear h
  induction xs with
  | nil => rfl
  | cons x xs ih => rw [List.flatMap_cons, ih]; rfl
theorem compL_fm {β : Type} {enc : β → D} {p : β → Bool} {e : β → D} {xs : List β} (hg : okG g s = true) (h : ∀ x ∈ xs, step (enc x) s = .ok (if p x then [e x] else []) s) : compL step g (xs.map enc) s = .ok ((xs.filter p).map e) s := by
  rw [compL_enc (f := fun x => if p x then [e x] else []) hg h]
  congr 1
  clear h
  induction xs with
  | nil => rfl
  | cons x xs ih =>
    simp only [List.flatMap_cons, ih, List.filter_cons]
    split <;> simp
theorem W_compL {Q : List D → St → Prop} {xs : List D} (I : Nat → List D → St → Prop) (h0 : I 0 [] s) (hg : ∀ k acc s, I k acc s → okG g s = true) (hs : ∀ k x acc s, xs[k]? = some x → I k acc s → W (step x s) (fun ds s' => I (k + 1) (acc ++ ds) s'))
    (hd : ∀ acc s, I xs.length acc s → Q acc s) : W (compL step g xs s) Q := by
  suffices h : ∀ (n k : Nat) (acc : List D) (s : St), n + k = xs.length → I k acc s → W (compL step g (xs.drop k) s) (fun ds s' => I xs.length (acc ++ ds) s') by
    refine W_mono (h xs.length 0 [] s (by simp) h0) fun a s' q => hd _ _ (by simpa using q)
  intro n
  induction n with
  | zero =>
    intro k acc s e i
    rw [List.drop_eq_nil_of_le (by omega)]
    simp only [compL, hg k acc s i, if_true, W_ok, List.append_nil]
    rw [show xs.length = k by omega]; exact i
  | succ n ih =>
    intro k acc s e i
    have hk : k < xs.length := by omega
    rw [List.drop_eq_getElem_cons hk]
    simp only [compL, hg k acc s i, if_true, W_bind, W_map]
    refine W_mono (hs k xs[k] acc s (List.getElem?_eq_getElem hk) i) fun ds s' q => ?_
    refine W_mono (ih (k + 1) (acc ++ ds) s' (by omega) q) fun ds2 s2 q2 => ?_
    rw [← List.append_assoc]; exact q2
end
section
variable {step : D → Env → St → RS} {g : Gd}
theorem WS_forL {N B Ct : Env → St → Prop} {T : D → St → Prop} {xs : List D} {v : Env} {s : St} (I : Nat → Env → St → Prop) (h0 : I 0 v s) (hg : ∀ k v s, I k v s → okG g s = true)
    (hs : ∀ k x v s, xs[k]? = some x → I k v s → WS (step x v s) (I (k + 1)) T N (I (k + 1))) (hd : ∀ v s, I xs.length v s → N v s) : WS (forL step g xs v s) N T B Ct := by
  suffices h : ∀ (n k : Nat) (v : Env) (s : St), n + k = xs.length → I k v s → WS (forL step g (xs.drop k) v s) N T B Ct from h xs.length 0 v s (by simp) h0
  intro n
  induction n with
  | zero =>
    intro k v s e i
    rw [List.drop_eq_nil_of_le (by omega)]
    simp only [forL, hg k v s i, if_true, WS_nx]
    exact hd v s (by rw [show xs.length = k by omega]; exact i)
  | succ n ih =>
    intro k v s e i
    have hk : k < xs.length := by omega
    rw [List.drop_eq_getElem_cons hk]
    simp only [forL, hg k v s i, if_true]
    have q := hs k xs[k] v s (List.getElem?_eq_getElem hk) i
    cases hr : step xs[k] v s with
    | nx v' s' => rw [hr, WS_nx] at q; exact ih (k + 1) v' s' (by omega) q
    | ct v' s' => rw [hr, WS_ct] at q; exact ih (k + 1) v' s' (by omega) q
    | bk v' s' => rw [hr, WS_bk] at q; exact .nx _ _ rfl q
    | rt d s' => rw [hr, WS_rt] at q; exact .rt _ _ rfl q
    | ex _ _ _ => rw [hr, WS_ex] at q; exact q.elim
    | no => rw [hr, WS_no] at q; exact q.elim
theorem WS_whlL {c : Env → St → R Bool} {b : Env → St → RS} {N B Ct : Env → St → Prop} {T : D → St → Prop} {v : Env} {s : St} {m : Nat} (I : Nat → Env → St → Prop) (h0 : I m v s)
    (hs : ∀ n v s, I n v s → W (c v s) fun t s' => match t with
      | false => N v s'
      | true => WS (b v s') (fun v s => ∃ k, k < n ∧ I k v s) T N (fun v s => ∃ k, k < n ∧ I k v s)) : ∀ {f : Nat}, m < f → WS (whlL c b f v s) N T B Ct := by
  intro f hf
  induction f generalizing m v s with
  | zero => omega
  | succ f ih =>
    simp only [whlL, WS_go]
    refine W_mono (hs m v s h0) fun t s' q => ?_
    cases t with
    | false => exact .nx _ _ rfl q
    | true =>
      dsimp only at q ⊢
      cases hr : b v s' with
      | nx v2 s2 => rw [hr, WS_nx] at q; obtain ⟨k, hk, i⟩ := q; exact ih i (by omega)
      | ct v2 s2 => rw [hr, WS_ct] at q; obtain ⟨k, hk, i⟩ := q; exact ih i (by omega)
      | bk v2 s2 => rw [hr, WS_bk] at q; exact .nx _ _ rfl q
      | rt d2 s2 => rw [hr, WS_rt] at q; exact .rt _ _ rfl q
      | ex _ _ _ => rw [hr, WS_ex] at q; exact q.elim
      | no => rw [hr, WS_no] at q; exact q.elim
end
section
variable {G : Pg} {κ : Nat → List D → St → R D} {N B Ct : Env → St → Prop} {T : D → St → Prop} {v : Env} {s : St}
theorem ws_done (h : N v s) : WS (ex G κ .done v s) N T B Ct := .nx _ _ rfl h
theorem ws_ret {e : E} (h : W (ev G κ e v s) T) : WS (ex G κ (.ret e) v s) N T B Ct := by
  rw [ex, WS_go]; exact W_mono h fun d s q => .rt _ _ rfl q
theorem ws_retn (h : T .non s) : WS (ex G κ .retn v s) N T B Ct := .rt _ _ rfl h
theorem ws_asg {t : Tg} {e : E} {k : C} (h : W (ev G κ e v s) fun d s' => ∃ v', bindT t d v = some v' ∧ WS (ex G κ k v' s') N T B Ct) : WS (ex G κ (.asg t e k) v s) N T B Ct := by
  rw [ex, WS_go]
  refine W_mono h fun d s' ⟨v', e, q⟩ => ?_
  rw [e]; exact q
theorem ws_one {i : Nat} {e : E} {k : C} (h : W (ev G κ e v s) fun d s' => WS (ex G κ k (v.set i (some d)) s') N T B Ct) : WS (ex G κ (.asg (.one i) e k) v s) N T B Ct :=
  ws_asg (W_mono h fun d s' q => ⟨_, rfl, q⟩)
theorem ws_exp {e : E} {k : C} (h : W (ev G κ e v s) fun _ s' => WS (ex G κ k v s') N T B Ct) : WS (ex G κ (.exp e k) v s) N T B Ct := by
  rw [ex, WS_go]; exact h
theorem ws_ite {c : E} {a b k : C} (h : W (ev G κ c v s) fun d s' => ∃ t, d = .bl t ∧ (t = true → WS (ex G κ a v s') (fun v s => WS (ex G κ k v s) N T B Ct) T B Ct) ∧ (t = false → WS (ex G κ b v s') (fun v s => WS (ex G κ k v s) N T B Ct) T B Ct)) : WS (ex G κ (.ite c a b k) v s) N T B Ct := by
  rw [ex, WS_go, W_tst]
  refine W_mono h fun d s' ⟨t, e, h1, h2⟩ => ⟨t, e, ?_⟩
  rw [WS_then]
  cases t with
  | true => exact h1 rfl
  | false => exact h2 rfl
theorem ws_for {t : Tg} {it : E} {b k : C} (h : W (evIt G κ it v s) fun p s' => WS (forL (fun x v s => match bindT t x v with
    | some v' => ex G κ b v' s
    | none => .no) p.2 p.1 v s') (fun v s => WS (ex G κ k v s) N T B Ct) T B Ct) : WS (ex G κ (.for t it b k) v s) N T B Ct := by
  rw [ex, WS_go]
  refine W_mono h fun p s' q => ?_
  rw [WS_then]; exact q
theorem ws_whl {c : E} {b k : C} (h : WS (whlL (fun v s => tst (ev G κ c v s)) (fun v s => ex G κ b v s) bigN v s) (fun v s => WS (ex G κ k v s) N T B Ct) T B Ct) : WS (ex G κ (.whl c b k) v s) N T B Ct := by
  rw [ex, WS_then]; exact h
theorem ws_itT {c : E} {a b k : C} {s' : St} (h : ev G κ c v s = .ok (.bl true) s') (q : WS (ex G κ a v s') (fun v s => WS (ex G κ k v s) N T B Ct) T B Ct) : WS (ex G κ (.ite c a b k) v s) N T B Ct :=
  ws_ite (W_eq h ⟨true, rfl, fun _ => q, nofun⟩)
theorem ws_itF {c : E} {a b k : C} {s' : St} (h : ev G κ c v s = .ok (.bl false) s') (q : WS (ex G κ b v s') (fun v s => WS (ex G κ k v s) N T B Ct) T B Ct) : WS (ex G κ (.ite c a b k) v s) N T B Ct :=
  ws_ite (W_eq h ⟨false, rfl, nofun, fun _ => q⟩)
theorem ws_it0 {c : E} {a k : C} {s' : St} (h : ev G κ c v s = .ok (.bl false) s') (q : WS (ex G κ k v s') N T B Ct) : WS (ex G κ (.ite c a .done k) v s) N T B Ct :=
  ws_itF h (.nx _ _ rfl q)
theorem ws_itB {c : E} {a b k : C} {s' : St} (t : Bool) (h : ev G κ c v s = .ok (.bl t) s') (q1 : t = true → WS (ex G κ a v s') (fun v s => WS (ex G κ k v s) N T B Ct) T B Ct) (q2 : t = false → WS (ex G κ b v s') (fun v s => WS (ex G κ k v s) N T B Ct) T B Ct) : WS (ex G κ (.ite c a b k) v s) N T B Ct :=
  ws_ite (W_eq h ⟨t, rfl, q1, q2⟩)
theorem ws_set {i : Nat} {e : E} {k : C} {d : D} {s' : St} (h : ev G κ e v s = .ok d s') (q : WS (ex G κ k (v.set i (some d)) s') N T B Ct) : WS (ex G κ (.asg (.one i) e k) v s) N T B Ct := ws_one (W_eq h q)
theorem ws_expE {e : E} {k : C} {d : D} {s' : St} (h : ev G κ e v s = .ok d s') (q : WS (ex G κ k v s') N T B Ct) : WS (ex G κ (.exp e k) v s) N T B Ct := ws_exp (W_eq h q)
theorem ws_retE {e : E} {d : D} {s' : St} (h : ev G κ e v s = .ok d s') (q : T d s') : WS (ex G κ (.ret e) v s) N T B Ct := ws_ret (W_eq h q)
theorem ws_forE {t : Tg} {it : E} {b k : C} {xs : List D} {g : Gd} {s' : St} (h : evIt G κ it v s = .ok (xs, g) s') (q : WS (forL (fun x v s => match bindT t x v with
    | some v' => ex G κ b v' s
    | none => .no) g xs v s') (fun v s => WS (ex G κ k v s) N T B Ct) T B Ct) : WS (ex G κ (.for t it b k) v s) N T B Ct := ws_for (W_eq h q)
theorem ws_for1 {i : Nat} {it : E} {b k : C} {xs : List D} {g : Gd} {s' : St} (I : Nat → Env → St → Prop) (h : evIt G κ it v s = .ok (xs, g) s') (h0 : I 0 v s') (hg : ∀ k v s, I k v s → okG g s = true)
    (hs : ∀ j x v s, xs[j]? = some x → I j v s → WS (ex G κ b (v.set i (some x)) s) (I (j + 1)) T (fun v s => WS (ex G κ k v s) N T B Ct) (I (j + 1))) (hd : ∀ v s, I xs.length v s → WS (ex G κ k v s) N T B Ct) : WS (ex G κ (.for (.one i) it b k) v s) N T B Ct := by
  exact ws_forE h (WS_forL I h0 hg hs hd)
theorem ws_forT {is : List Nat} {it : E} {b k : C} {xs : List D} {g : Gd} {s' : St} (I : Nat → Env → St → Prop) (h : evIt G κ it v s = .ok (xs, g) s') (h0 : I 0 v s') (hg : ∀ k v s, I k v s → okG g s = true)
    (hs : ∀ j x v s, xs[j]? = some x → I j v s → ∃ v', bindT (.tup is) x v = some v' ∧ WS (ex G κ b v' s) (I (j + 1)) T (fun v s => WS (ex G κ k v s) N T B Ct) (I (j + 1))) (hd : ∀ v s, I xs.length v s → WS (ex G κ k v s) N T B Ct) : WS (ex G κ (.for (.tup is) it b k) v s) N T B Ct := by
  refine ws_forE h (WS_forL I h0 hg (fun k x v s hx i => ?_) hd)
  obtain ⟨v', e, q⟩ := hs k x v s hx i
  rw [e]; exact q
theorem ws_setT {is : List Nat} {e : E} {k : C} {d : D} {s' : St} {v' : Env} (h : ev G κ e v s = .ok d s') (hb : bindT (.tup is) d v = some v') (q : WS (ex G κ k v' s') N T B Ct) : WS (ex G κ (.asg (.tup is) e k) v s) N T B Ct := ws_asg (W_eq h ⟨_, hb, q⟩)
theorem ws_brk (h : B v s) : WS (ex G κ .brk v s) N T B Ct := .bk _ _ rfl h
theorem ws_cnt (h : Ct v s) : WS (ex G κ .cnt v s) N T B Ct := .ct _ _ rfl h
theorem ws_try {b h k : C} {cs : List Nat} {i : Option Nat} (q : WS (ex G κ b v s) (fun v s => WS (ex G κ k v s) N T B Ct) T B Ct) : WS (ex G κ (.try b cs i h k) v s) N T B Ct := by
  rw [ex, WS_then]
  cases q with
  | nx v s e q => rw [e]; exact .nx _ _ rfl q
  | rt d s e q => rw [e]; exact .rt _ _ rfl q
  | bk v s e q => rw [e]; exact .bk _ _ rfl q
  | ct v s e q => rw [e]; exact .ct _ _ rfl q
theorem ws_pass {k : C} (h : WS (ex G κ k v s) N T B Ct) : WS (ex G κ (.pass k) v s) N T B Ct := by rw [ex]; exact h
end
theorem run_W {G : Pg} {k f : Nat} {ds : List D} {s : St} {r : FnR} {Q : D → St → Prop} (hf : G.fn f = some r) (hl : ds.length = r.np)
    (h : WS (ex G (run G k) r.body (ds.map some ++ List.replicate (r.ns - r.np) none) s) (fun _ s' => W (fin r.tr s.length .non s') Q) (fun d s' => W (fin r.tr s.length d s') Q) (fun _ _ => False) (fun _ _ => False)) : W (run G (k + 1) f ds s) Q := by
  rw [run, hf]
  dsimp only
  rw [if_pos hl]
  cases h with
  | nx v s' e q => rw [e]; exact q
  | rt d s' e q => rw [e]; exact q
  | bk v s' e q => exact q.elim
  | ct v s' e q => exact q.elim
mutual
def plain : D → Bool
  | .tup xs => plains xs | .lst xs => plains xs | .dct _ vs => plains vs | .ins _ vs => plains vs
  | .clo _ _ => false | .cell _ => false
  | _ => true
def plains : List D → Bool
  | [] => true
  | x :: xs => plain x && plains xs
end
mutual
theorem plain_below : ∀ {d : D} (n : Nat), plain d = true → below n d = true
  | .tup xs, n, h => by simp only [plain] at h; simp only [below]; exact plains_below n h
  | .lst xs, n, h => by simp only [plain] at h; simp only [below]; exact plains_below n h
  | .dct _ xs, n, h => by simp only [plain] at h; simp only [below]; exact plains_below n h
  | .ins _ xs, n, h => by simp only [plain] at h; simp only [below]; exact plains_below n h
  | .clo _ _, n, h => by simp [plain] at h
  | .cell _, n, h => by simp [plain] at h
  | .non, _, _ | .bl _, _, _ | .int _, _, _ | .str _, _, _ | .cls _, _, _ => rfl
theorem plains_below : ∀ {ds : List D} (n : Nat), plains ds = true → belows n ds = true
  | [], _, _ => rfl
  | d :: ds, n, h => by
    simp only [plains, Bool.and_eq_true] at h
    simp only [belows, Bool.and_eq_true]
    exact ⟨plain_below n h.1, plains_below n h.2⟩
end
mutual
theorem plain_frz : ∀ {d : D} (n : Nat) (s : St), plain d = true → frz n s d = some d
  | .tup xs, n, s, h => by simp only [plain] at h; simp only [frz, plains_frz n s h, Option.map_some]
  | .lst xs, n, s, h => by simp only [plain] at h; simp only [frz, plains_below n h, if_true]
  | .dct _ xs, n, s, h => by simp only [plain] at h; simp only [frz, plains_below n h, if_true]
  | .ins _ xs, n, s, h => by simp only [plain] at h; simp only [frz, plains_below n h, if_true]
  | .clo _ _, n, s, h => by simp [plain] at h
  | .cell _, n, s, h => by simp [plain] at h
  | .non, _, _, _ | .bl _, _, _, _ | .int _, _, _, _ | .str _, _, _, _ | .cls _, _, _, _ => by simp only [frz]
theorem plains_frz : ∀ {ds : List D} (n : Nat) (s : St), plains ds = true → frzs n s ds = some ds
  | [], _, _, _ => by simp only [frzs]
  | d :: ds, n, s, h => by
    simp only [plains, Bool.and_eq_true] at h
    simp only [frzs, plain_frz n s h.1, plains_frz n s h.2]
end
theorem plains_map {β : Type} {e : β → D} (h : ∀ x, plain (e x) = true) : ∀ xs : List β, plains (xs.map e) = true
  | [] => rfl
  | x :: xs => by simp only [List.map_cons, plains, h, plains_map h xs, Bool.and_self]
theorem plains_mem : ∀ {ds : List D}, (∀ d ∈ ds, plain d = true) → plains ds = true
  | [], _ => rfl
  | d :: ds, h => by simp only [plains, h d List.mem_cons_self, plains_mem fun x m => h x (List.mem_cons_of_mem _ m), Bool.and_self]
theorem fin_plain {tr : Bool} {n : Nat} {d : D} {s : St} (h : plain d = true) : fin tr n d s = .ok d (if tr then s.take n else s) := by
  cases tr with
  | false => rfl
  | true => simp [fin, plain_frz n s h]
@[simp] theorem take_app {s t : St} : (s ++ t).take s.length = s := by simp
end EV
set_option linter.all false
set_option maxRecDepth 100000
namespace EV
open PySem (Operator CmpOp)
section
variable {G : Pg} {κ : Nat → List D → St → R D} {v : Env} {s : St}
@[simp] theorem R_bind_ok {α β : Type} {a : α} {f : α → St → R β} : (R.ok a s).bind f = f a s := (rfl)
@[simp] theorem R_map_ok {α β : Type} {a : α} {f : α → β} : (R.ok a s).map f = .ok (f a) s := (rfl)
@[simp] theorem R_calm_ok {α : Type} {a : α} : (R.ok a s).calm = .ok a s := (rfl)
@[simp] theorem R_opt_some {α : Type} {a : α} : R.opt (some a) s = .ok a s := (rfl)
@[simp] theorem R_opt_none {α : Type} : R.opt (none : Option α) s = .no := (rfl)
@[simp] theorem R_bind_no {α β : Type} {f : α → St → R β} : (R.no).bind f = .no := (rfl)
@[simp] theorem R_map_no {α β : Type} {f : α → β} : (R.no).map f = .no := (rfl)
@[simp] theorem R_calm_no {α : Type} : (R.no : R α).calm = .no := (rfl)
@[simp] theorem tst_bl {b : Bool} : tst (.ok (.bl b) s) = .ok b s := (rfl)
@[simp] theorem R_ok_inj {α : Type} {a b : α} {t : St} : (R.ok a s = R.ok b t) = (a = b ∧ s = t) := by simp
@[simp] theorem view_non : view s .non = .non := (rfl)
@[simp] theorem view_bl {b : Bool} : view s (.bl b) = .bl b := (rfl)
@[simp] theorem view_int {i : Int} : view s (.int i) = .int i := (rfl)
@[simp] theorem view_str {x : List Nat} : view s (.str x) = .str x := (rfl)
@[simp] theorem view_tup {x : List D} : view s (.tup x) = .tup x := (rfl)
@[simp] theorem view_lst {x : List D} : view s (.lst x) = .lst x := (rfl)
@[simp] theorem view_dct {k : List DK} {x : List D} : view s (.dct k x) = .dct k x := (rfl)
@[simp] theorem view_ins {k : Nat} {x : List D} : view s (.ins k x) = .ins k x := (rfl)
def cellD (n : Nat) : Option Cell → D
  | some (.fdc ks vs) => .dct ks vs
  | some (.lst xs) => .lst xs
  | some (.dct ks vs) => .dct ks vs
  | some (.ins c fs) => .ins c fs
  | none => .cell n
@[simp] theorem cellD_lst {n : Nat} {xs : List D} : cellD n (some (.lst xs)) = .lst xs := (rfl)
@[simp] theorem cellD_dct {n : Nat} {ks : List DK} {vs : List D} : cellD n (some (.dct ks vs)) = .dct ks vs := (rfl)
@[simp] theorem cellD_fdc {n : Nat} {ks : List DK} {vs : List D} : cellD n (some (.fdc ks vs)) = .dct ks vs := (rfl)
@[simp] theorem cellD_ins {n c : Nat} {fs : List D} : cellD n (some (.ins c fs)) = .ins c fs := (rfl)
@[simp] theorem view_cell {n : Nat} : view s (.cell n) = cellD n s[n]? := by
  simp only [view]
  rcases s[n]? with _ | (_ | _ | _ | _) <;> rfl
def guardD (n : Nat) : Option Cell → Gd
  | some (.lst xs) => [(n, xs)]
  | _ => []
@[simp] theorem guardD_lst {n : Nat} {xs : List D} : guardD n (some (.lst xs)) = [(n, xs)] := (rfl)
@[simp] theorem guard_cell {n : Nat} : guardOf s (.cell n) = guardD n s[n]? := by
  simp only [guardOf]
  rcases s[n]? with _ | (_ | _ | _ | _) <;> rfl
@[simp] theorem guard_tup {x : List D} : guardOf s (.tup x) = [] := (rfl)
@[simp] theorem guard_lst {x : List D} : guardOf s (.lst x) = [] := (rfl)
@[simp] theorem guard_str {x : List Nat} : guardOf s (.str x) = [] := (rfl)
@[simp] theorem okG_nil' : okG [] s = true := (rfl)
@[simp] theorem okG_one {n : Nat} {xs : List D} : okG [(n, xs)] s = decide (s[n]? = some (.lst xs)) := by simp [okG]
@[simp] theorem items_tup {x : List D} : itemsOf (.tup x) = some x := (rfl)
@[simp] theorem items_lst {x : List D} : itemsOf (.lst x) = some x := (rfl)
@[simp] theorem items_str {x : List Nat} : itemsOf (.str x) = some (x.map fun c => .str [c]) := (rfl)
@[simp] theorem seq_tup {x : List D} : seqOf (.tup x) = some x := (rfl)
@[simp] theorem seq_lst {x : List D} : seqOf (.lst x) = some x := (rfl)
theorem seq_str {x : List Nat} (h : x.length ≤ line) : seqOf (.str x) = some (x.map fun c => .str [c]) := by simp only [seqOf, if_pos h]
def gv : Option (Option D) → St → R D
  | some (some d), s => .ok d s
  | _, _ => .no
@[simp] theorem gv_some {d : D} : gv (some (some d)) s = .ok d s := (rfl)
@[simp] theorem le_line1 : (1 ≤ line) = True := by apply propext; exact ⟨fun _ => trivial, fun _ => by show 1 ≤ 16777216; omega⟩
@[simp] theorem le_line2 : (2 ≤ line) = True := by apply propext; exact ⟨fun _ => trivial, fun _ => by show 2 ≤ 16777216; omega⟩
@[simp] theorem le_line3 : (3 ≤ line) = True := by apply propext; exact ⟨fun _ => trivial, fun _ => by show 3 ≤ 16777216; omega⟩
@[simp] theorem le_line4 : (4 ≤ line) = True := by apply propext; exact ⟨fun _ => trivial, fun _ => by show 4 ≤ 16777216; omega⟩
@[simp] theorem le_line5 : (5 ≤ line) = True := by apply propext; exact ⟨fun _ => trivial, fun _ => by show 5 ≤ 16777216; omega⟩
@[simp] theorem le_line6 : (6 ≤ line) = True := by apply propext; exact ⟨fun _ => trivial, fun _ => by show 6 ≤ 16777216; omega⟩
@[simp] theorem le_line7 : (7 ≤ line) = True := by apply propext; exact ⟨fun _ => trivial, fun _ => by show 7 ≤ 16777216; omega⟩
@[simp] theorem le_line8 : (8 ≤ line) = True := by apply propext; exact ⟨fun _ => trivial, fun _ => by show 8 ≤ 16777216; omega⟩
@[simp] theorem le_line9 : (9 ≤ line) = True := by apply propext; exact ⟨fun _ => trivial, fun _ => by show 9 ≤ 16777216; omega⟩
@[simp] theorem le_line10 : (10 ≤ line) = True := by apply propext; exact ⟨fun _ => trivial, fun _ => by show 10 ≤ 16777216; omega⟩
@[simp] theorem le_line11 : (11 ≤ line) = True := by apply propext; exact ⟨fun _ => trivial, fun _ => by show 11 ≤ 16777216; omega⟩
@[simp] theorem le_line12 : (12 ≤ line) = True := by apply propext; exact ⟨fun _ => trivial, fun _ => by show 12 ≤ 16777216; omega⟩
@[simp] theorem le_line13 : (13 ≤ line) = True := by apply propext; exact ⟨fun _ => trivial, fun _ => by show 13 ≤ 16777216; omega⟩
@[simp] theorem le_line14 : (14 ≤ line) = True := by apply propext; exact ⟨fun _ => trivial, fun _ => by show 14 ≤ 16777216; omega⟩
@[simp] theorem le_line15 : (15 ≤ line) = True := by apply propext; exact ⟨fun _ => trivial, fun _ => by show 15 ≤ 16777216; omega⟩
@[simp] theorem le_line16 : (16 ≤ line) = True := by apply propext; exact ⟨fun _ => trivial, fun _ => by show 16 ≤ 16777216; omega⟩
@[simp] theorem ev_var {i : Nat} : ev G κ (.var i) v s = gv v[i]? s := by
  rw [ev]; unfold gv
  rcases v[i]? with _ | (_ | d) <;> rfl
@[simp] theorem ev_con {d : D} : ev G κ (.con d) v s = .ok d s := by rw [ev]
@[simp] theorem ev_glob {g : Nat} {d : D} : ev G κ (.glob g d) v s = .ok d s := by rw [ev]
def binX (m : Bool) (op : Operator) (x y : D) (s : St) : R D := match binL op x y with
  | some xs => alloc m xs s
  | none => R.opt (binD op x y) s
@[simp] theorem ev_bin {m : Bool} {op : Operator} {a b : E} : ev G κ (.bin m op a b) v s = (ev G κ a v s).bind fun x s => (ev G κ b v s).bind fun y s => binX m op (view s x) (view s y) s := by rw [ev]; rfl
@[simp] theorem bin_addI {m : Bool} {i j : Int} : binX m .Add (.int i) (.int j) s = .ok (.int (i + j)) s := (rfl)
@[simp] theorem bin_subI {m : Bool} {i j : Int} : binX m .Sub (.int i) (.int j) s = .ok (.int (i - j)) s := (rfl)
theorem bin_mulI {m : Bool} {i j : Int} (h : smallI i = true ∨ smallI j = true) : binX m .Mult (.int i) (.int j) s = .ok (.int (i * j)) s := by
  simp only [binX, binL, binD]
  rw [if_pos (by simpa using h)]; rfl
theorem bin_mulB {m : Bool} {i j : Int} (h : i.natAbs < 2 ^ 4000) (k : j.natAbs < 2 ^ 4000) : binX m .Mult (.int i) (.int j) s = .ok (.int (i * j)) s := by
  simp only [binX, binL, binD]
  split
  · rfl
  · rw [if_pos ⟨h, k⟩]; rfl
theorem bin_divI {m : Bool} {i j : Int} (h : 0 < j) (k : j.natAbs < 1073741824) : binX m .FloorDiv (.int i) (.int j) s = .ok (.int (i / j)) s := by
  simp only [binX, binL, binD]
  rw [if_pos ⟨by omega, k⟩]
  simp only [R.opt]
  rw [Int.fdiv_eq_ediv_of_nonneg _ (by omega)]
theorem bin_divB {m : Bool} {i j : Int} (h : 0 < j) (k : j.natAbs < 2 ^ 4000) (k2 : i.natAbs < 2 ^ 4000) : binX m .FloorDiv (.int i) (.int j) s = .ok (.int (i / j)) s := by
  simp only [binX, binL, binD]
  split
  · simp only [R.opt]
    rw [Int.fdiv_eq_ediv_of_nonneg _ (by omega)]
  · rw [if_pos ⟨by omega, k, k2⟩, Int.fdiv_eq_ediv_of_nonneg _ (by omega)]; rfl
theorem bin_fdivB {m : Bool} {i j : Int} (h : j ≠ 0) (k : j.natAbs < 2 ^ 4000) (k2 : i.natAbs < 2 ^ 4000) : binX m .FloorDiv (.int i) (.int j) s = .ok (.int (i.fdiv j)) s := by
  simp only [binX, binL, binD]
  split
  · rfl
  · rw [if_pos ⟨h, k, k2⟩]; rfl
theorem bin_fmod {m : Bool} {i j : Int} (h : j ≠ 0) : binX m .Mod (.int i) (.int j) s = .ok (.int (i.fmod j)) s := by
  simp only [binX, binL, binD]
  rw [if_pos h]; rfl
theorem bin_modI {m : Bool} {i j : Int} (h : 0 < j) : binX m .Mod (.int i) (.int j) s = .ok (.int (i % j)) s := by
  simp only [binX, binL, binD]
  rw [if_pos (by omega)]
  simp only [R.opt]
  rw [Int.fmod_eq_emod_of_nonneg _ (by omega)]
theorem bin_addS {m : Bool} {a b : List Nat} (h : a.length + b.length ≤ line) : binX m .Add (.str a) (.str b) s = .ok (.str (a ++ b)) s := by
  simp only [binX, binL, binD]
  rw [if_pos h]; rfl
theorem bin_addT {m : Bool} {a b : List D} (h : a.length + b.length ≤ line) : binX m .Add (.tup a) (.tup b) s = .ok (.tup (a ++ b)) s := by
  simp only [binX, binL, binD]
  rw [if_pos h]; rfl
theorem bin_addL {m : Bool} {a b : List D} (h : a.length + b.length ≤ line) : binX m .Add (.lst a) (.lst b) s = alloc m (a ++ b) s := by
  simp only [binX, binL]
  rw [if_pos h]
theorem bin_repL {m : Bool} {a : List D} {k : Int} (h : 0 ≤ k ∧ k < 1000000 ∧ a.length * k.toNat ≤ line) : binX m .Mult (.lst a) (.int k) s = alloc m (rep a k.toNat) s := by
  simp only [binX, binL]
  rw [if_pos h]
theorem bin_rep1 {m : Bool} {a : List D} : binX m .Mult (.tup a) (.int 1) s = .ok (.tup a) s := (rfl)
theorem bin_repT {m : Bool} {a : List D} {k : Int} (h : a ≠ [] ∧ 2 ≤ k ∧ k ≤ 1000 ∧ a.length ≤ 1000) : binX m .Mult (.tup a) (.int k) s = .ok (.tup (rep a k.toNat)) s := by
  simp only [binX, binL, binD]
  rw [if_neg (by omega)]
  rw [if_pos h]; rfl
theorem bin_shl {m : Bool} {i j : Int} (h : 0 ≤ j ∧ j ≤ 1000 ∧ i.natAbs < 18446744073709551616) : binX m .LShift (.int i) (.int j) s = .ok (.int (i * 2 ^ j.toNat)) s := by
  simp only [binX, binL, binD]
  rw [if_pos h]; rfl
theorem bin_pow {m : Bool} {i j : Int} (h : 0 ≤ j ∧ j ≤ 1000 ∧ i.natAbs < 18446744073709551616) : binX m .Pow (.int i) (.int j) s = .ok (.int (i ^ j.toNat)) s := by
  simp only [binX, binL, binD]
  rw [if_pos h]; rfl
theorem bin_shr {m : Bool} {i j : Int} (h : 0 ≤ j) : binX m .RShift (.int i) (.int j) s = .ok (.int (i / 2 ^ j.toNat)) s := by
  simp only [binX, binL, binD]
  rw [if_pos h]; rfl
@[simp] theorem bin_and {m : Bool} {i j : Int} : binX m .BitAnd (.int i) (.int j) s = .ok (.int (PySem.Builtin.bitAnd i j)) s := (rfl)
@[simp] theorem bin_or {m : Bool} {i j : Int} : binX m .BitOr (.int i) (.int j) s = .ok (.int (PySem.Builtin.bitOr i j)) s := (rfl)
@[simp] theorem alloc_f {xs : List D} : alloc false xs s = .ok (.lst xs) s := (rfl)
theorem alloc_t {xs : List D} (h : belows s.length xs = true) : alloc true xs s = .ok (.cell s.length) (s ++ [.lst xs]) := by simp [alloc, h]
@[simp] theorem alloc_tn : alloc true [] s = .ok (.cell s.length) (s ++ [.lst []]) := (rfl)
def negX : D → St → R D
  | .int i, s => .ok (.int (-i)) s
  | _, _ => .no
@[simp] theorem negX_int {i : Int} : negX (.int i) s = .ok (.int (-i)) s := (rfl)
@[simp] theorem ev_neg {a : E} : ev G κ (.neg a) v s = (ev G κ a v s).bind negX := by rw [ev]; congr; funext x s; cases x <;> rfl
@[simp] theorem ev_cmp {op : CmpOp} {a b : E} : ev G κ (.cmp op a b) v s = (ev G κ a v s).bind fun x s => (ev G κ b v s).bind fun y s => cmpI op x y s := by rw [ev]
def cmp2X (o : Option Bool) (r : R D) (s : St) : R D := match o with
  | some false => .ok (.bl false) s
  | some true => r
  | none => .no
@[simp] theorem cmp2X_f {r : R D} : cmp2X (some false) r s = .ok (.bl false) s := (rfl)
@[simp] theorem cmp2X_t {r : R D} : cmp2X (some true) r s = r := (rfl)
@[simp] theorem ev_cmp2 {o p : CmpOp} {a b c : E} : ev G κ (.cmp2 o p a b c) v s = (ev G κ a v s).bind fun x s => (ev G κ b v s).bind fun y s => cmp2X (cmpO o x y) ((ev G κ c v s).bind fun z s => R.opt ((cmpO p y z).map .bl) s) s := by
  rw [ev]; rfl
@[simp] theorem ev_isn {a : E} {ng : Bool} : ev G κ (.isn a ng) v s = (ev G κ a v s).bind fun x s => .ok (.bl (decide (x = .non) != ng)) s := by rw [ev]
def isbX (b ng : Bool) : D → St → R D
  | .bl a, s => .ok (.bl (decide (a = b) != ng)) s
  | _, _ => .no
@[simp] theorem isbX_bl {a b ng : Bool} : isbX b ng (.bl a) s = .ok (.bl (decide (a = b) != ng)) s := (rfl)
@[simp] theorem ev_isb {a : E} {b ng : Bool} : ev G κ (.isb a b ng) v s = (ev G κ a v s).bind (isbX b ng) := by rw [ev]; congr; funext x s; cases x <;> rfl
@[simp] theorem ev_and {a b : E} : ev G κ (.and a b) v s = (tst (ev G κ a v s)).bind fun t s => if t then ev G κ b v s else .ok (.bl false) s := by rw [ev]
@[simp] theorem ev_or {a b : E} : ev G κ (.or a b) v s = (tst (ev G κ a v s)).bind fun t s => if t then .ok (.bl true) s else ev G κ b v s := by rw [ev]
@[simp] theorem ev_one {a : E} : ev G κ (.one a) v s = ev G κ a v s := by rw [ev]
@[simp] theorem ev_not {a : E} : ev G κ (.not a) v s = (tst (ev G κ a v s)).bind fun t s => .ok (.bl (!t)) s := by rw [ev]
@[simp] theorem ev_ite {c a b : E} : ev G κ (.ite c a b) v s = (tst (ev G κ c v s)).bind fun t s => if t then ev G κ a v s else ev G κ b v s := by rw [ev]
@[simp] theorem ev_tup {es : E} : ev G κ (.tup es) v s = (evs G κ es v s).bind fun ds s => if ds.length ≤ line then .ok (.tup ds) s else .no := by rw [ev]
@[simp] theorem ev_lst {m : Bool} {es : E} : ev G κ (.lst m es) v s = (evs G κ es v s).bind fun ds s => if ds.length ≤ line then alloc m ds s else .no := by rw [ev]
def dctX (m : Bool) (ks : List DK) (ds : List D) (s : St) : R D := if ks.length = ds.length ∧ ks.Nodup ∧ ks.length ≤ 100 then (match m with
    | true => if belows s.length ds then .ok (.cell s.length) (s ++ [.dct ks ds]) else .no
    | false => .ok (.dct ks ds) s) else .no
@[simp] theorem ev_dct {m : Bool} {ks : List DK} {es : E} : ev G κ (.dct m ks es) v s = (evs G κ es v s).bind fun ds s => dctX m ks ds s := by rw [ev]; rfl
@[simp] theorem dctX_nil : dctX true [] [] s = .ok (.cell s.length) (s ++ [.dct [] []]) := (rfl)
@[simp] theorem ev_idx {a i : E} : ev G κ (.idx a i) v s = (ev G κ a v s).bind fun x s => (ev G κ i v s).bind fun y s => R.opt (idxD (view s x) y) s := by rw [ev]
def slX (m : Bool) (st : Nat) (d : D) (lo hi : Option Int) (s : St) : R D := match slL st d lo hi with
  | some xs => alloc m xs s
  | none => R.opt (slD st d lo hi) s
@[simp] theorem ev_sl {m : Bool} {st : Nat} {a lo hi : E} : ev G κ (.sl m st a lo hi) v s = (ev G κ a v s).bind fun x s => (partR (isNil lo) (ev G κ lo v s) s).bind fun l s => (partR (isNil hi) (ev G κ hi v s) s).bind fun h s => slX m st (view s x) l h s := by rw [ev]; rfl
@[simp] theorem isNil_nil : isNil .nil = true := (rfl)
@[simp] theorem isNil_bin {m : Bool} {o : Operator} {a b : E} : isNil (.bin m o a b) = false := (rfl)
@[simp] theorem isNil_con {d : D} : isNil (.con d) = false := (rfl)
@[simp] theorem isNil_var {i : Nat} : isNil (.var i) = false := (rfl)
@[simp] theorem isNil_glob {g : Nat} {d : D} : isNil (.glob g d) = false := (rfl)
@[simp] theorem isNil_neg {a : E} : isNil (.neg a) = false := (rfl)
@[simp] theorem isNil_bi {b : Bi} {a : E} : isNil (.bi b a) = false := (rfl)
@[simp] theorem part_t {r : R D} : partR true r s = .ok none s := (rfl)
def intX : D → St → R (Option Int)
  | .int i, s => .ok (some i) s
  | _, _ => .no
@[simp] theorem intX_int {i : Int} : intX (.int i) s = .ok (some i) s := (rfl)
@[simp] theorem part_f {r : R D} : partR false r s = r.bind intX := by simp only [partR, Bool.false_eq_true, if_false]; congr; funext d s; cases d <;> rfl
@[simp] theorem sl_lst {m : Bool} {xs : List D} {l h : Option Int} : slX m 0 (.lst xs) l h s = alloc m (cut xs l h) s := (rfl)
@[simp] theorem sl_tup {m : Bool} {xs : List D} {l h : Option Int} : slX m 0 (.tup xs) l h s = .ok (.tup (cut xs l h)) s := (rfl)
theorem sl_str {m : Bool} {xs : List Nat} {l h : Option Int} (k : xs.length ≤ line) : slX m 0 (.str xs) l h s = .ok (.str (cut xs l h)) s := by simp [slX, slL, slD, k]
@[simp] theorem sl_lst1 {m : Bool} {xs : List D} {l h : Option Int} : slX m 1 (.lst xs) l h s = alloc m xs.reverse s := (rfl)
@[simp] theorem sl_tup1 {m : Bool} {xs : List D} {l h : Option Int} : slX m 1 (.tup xs) l h s = .ok (.tup xs.reverse) s := (rfl)
def cstep (G : Pg) (κ : Nat → List D → St → R D) (t : Tg) (c e : E) (v : Env) (x : D) (s : St) : R (List D) := match bindT t x (wipeE v (tgV t)) with
    | some v' => (tst (ev G κ c v' s)).calm.bind fun b s => if b then (ev G κ e v' s).calm.map ([·]) else .ok [] s
    | none => .no
theorem cstep_one {i : Nat} {c e : E} {x : D} : cstep G κ (.one i) c e v x s = (tst (ev G κ c (v.set i (some x)) s)).calm.bind fun b s => if b then (ev G κ e (v.set i (some x)) s).calm.map ([·]) else .ok [] s := by
  simp only [cstep, tgV, wipeE, bindT, List.set_set]
theorem cstep_tup {is : List Nat} {c e : E} {ds : List D} (h : is.length = ds.length) : cstep G κ (.tup is) c e v (.tup ds) s = (tst (ev G κ c ((is.zip ds).foldl (fun v p => v.set p.1 (some p.2)) (wipeE v is)) s)).calm.bind fun b s => if b then (ev G κ e ((is.zip ds).foldl (fun v p => v.set p.1 (some p.2)) (wipeE v is)) s).calm.map ([·]) else .ok [] s := by
  simp only [cstep, tgV, bindT, h, if_true]
@[simp] theorem ev_comp {m : Bool} {t : Tg} {it c e : E} : ev G κ (.comp m t it c e) v s = (evIt G κ it v s).bind fun p s => (compL (cstep G κ t c e v) p.2 p.1 s).bind fun ds s => if ds.length ≤ line then alloc m ds s else .no := by rw [ev]; rfl
def cstep2 (G : Pg) (κ : Nat → List D → St → R D) (t : Tg) (c : E) (t2 : Tg) (it2 c2 e : E) (v : Env) (x : D) (s : St) : R (List D) := match bindT t x (wipeE v (tgV t ++ tgV t2)) with
    | some v' => (tst (ev G κ c v' s)).calm.bind fun b s => if b then (evIt G κ it2 v' s).calm.bind fun p2 s => compL (cstep G κ t2 c2 e v') p2.2 p2.1 s else .ok [] s
    | none => .no
@[simp] theorem ev_comp2 {m : Bool} {t t2 : Tg} {it c it2 c2 e : E} : ev G κ (.comp2 m t it c t2 it2 c2 e) v s = (evIt G κ it v s).bind fun p s => (compL (cstep2 G κ t c t2 it2 c2 e v) p.2 p.1 s).bind fun ds s => if ds.length ≤ line then alloc m ds s else .no := by rw [ev]; rfl
def allocO (m : Bool) (o : Option (List D)) (s : St) : R D := match o with
  | some xs => if xs.length ≤ line then alloc m xs s else .no
  | none => .no
theorem allocO_f {xs : List D} (h : xs.length ≤ line) : allocO false (some xs) s = .ok (.lst xs) s := by simp [allocO, h]
theorem allocO_t {xs : List D} (h : xs.length ≤ line) (k : belows s.length xs = true) : allocO true (some xs) s = .ok (.cell s.length) (s ++ [.lst xs]) := by simp [allocO, h, alloc, k]
@[simp] theorem ev_listOf {m : Bool} {e : E} : ev G κ (.listOf m e) v s = (ev G κ e v s).bind fun d s => allocO m (itemsOf (view s d)) s := by rw [ev]; rfl
@[simp] theorem ev_listR {m : Bool} {e : E} : ev G κ (.listR m e) v s = (evIt G κ e v s).bind fun p s => allocO m (some p.1) s := by rw [ev]; rfl
def tupO (o : Option (List D)) (s : St) : R D := match o with
  | some xs => if xs.length ≤ line then .ok (.tup xs) s else .no
  | none => .no
theorem tupO_ok {xs : List D} (h : xs.length ≤ line) : tupO (some xs) s = .ok (.tup xs) s := by simp [tupO, h]
@[simp] theorem ev_tupOf {e : E} : ev G κ (.tupOf e) v s = (ev G κ e v s).bind fun d s => tupO (seqOf (view s d)) s := by rw [ev]; rfl
@[simp] theorem ev_tupR {e : E} : ev G κ (.tupR e) v s = (evIt G κ e v s).bind fun p s => tupO (some p.1) s := by rw [ev]; rfl
def sortX (m : Bool) : D → St → R D
  | .lst xs, s => allocO m (sortD xs) s
  | .dct ks _, s => allocO m (sortD (ks.map dkD)) s
  | .str x, s => allocO m (sortD (x.map fun c => .str [c])) s
  | .tup xs, s => allocO m (sortD xs) s
  | _, _ => .no
@[simp] theorem sortX_dct {m : Bool} {ks : List DK} {vs : List D} : sortX m (.dct ks vs) s = allocO m (sortD (ks.map dkD)) s := (rfl)
@[simp] theorem sortX_tup {m : Bool} {xs : List D} : sortX m (.tup xs) s = allocO m (sortD xs) s := (rfl)
@[simp] theorem sortX_lst {m : Bool} {xs : List D} : sortX m (.lst xs) s = allocO m (sortD xs) s := (rfl)
@[simp] theorem ev_sorted {m : Bool} {e : E} : ev G κ (.sorted m e) v s = (ev G κ e v s).bind fun d s => sortX m (view s d) s := by
  rw [ev]; congr; funext d s
  cases view s d <;> rfl
def setX (m : Bool) (o : Option (List D)) (s : St) : R D := match o with
    | some xs => if xs.all keyD = true ∧ xs.length < 4000 then (match sortD (nubD xs) with
      | some xs => alloc m xs s
      | none => .no) else .no
    | none => .no
@[simp] theorem ev_sortset {m : Bool} {e : E} : ev G κ (.sortset m e) v s = (ev G κ e v s).bind fun d s => setX m (itemsOf (view s d)) s := by rw [ev]; rfl
def lensetX (o : Option (List D)) (s : St) : R D := match o with
    | some xs => if xs.all keyD = true ∧ xs.length < 4000 then .ok (.int (nubD xs).length) s else .no
    | none => .no
@[simp] theorem ev_lenset {e : E} : ev G κ (.lenset e) v s = (ev G κ e v s).bind fun d s => lensetX (itemsOf (view s d)) s := by rw [ev]; rfl
@[simp] theorem ev_eqi {ng : Bool} {a b : E} : ev G κ (.eqi ng a b) v s = (ev G κ a v s).bind fun x s => (ev G κ b v s).bind fun y s => eqiX G κ ng x y s := by rw [ev]
def isiX (G : Pg) (d : D) (t : Ty) (s : St) : R D := if kindOk G d then .ok (.bl (isTy G d t)) s else .no
@[simp] theorem ev_isi {e : E} {t : Ty} : ev G κ (.isi e t) v s = (ev G κ e v s).bind fun x s => isiX G (view s x) t s := by rw [ev]; rfl
@[simp] theorem isi_non {t : Ty} : isiX G .non t s = .ok (.bl (isTy G .non t)) s := (rfl)
@[simp] theorem isi_bl {t : Ty} {b : Bool} : isiX G (.bl b) t s = .ok (.bl (isTy G (.bl b) t)) s := (rfl)
@[simp] theorem isi_int {t : Ty} {b : Int} : isiX G (.int b) t s = .ok (.bl (isTy G (.int b) t)) s := (rfl)
@[simp] theorem isi_str {t : Ty} {b : List Nat} : isiX G (.str b) t s = .ok (.bl (isTy G (.str b) t)) s := (rfl)
@[simp] theorem isi_tup {t : Ty} {b : List D} : isiX G (.tup b) t s = .ok (.bl (isTy G (.tup b) t)) s := (rfl)
@[simp] theorem isi_lst {t : Ty} {b : List D} : isiX G (.lst b) t s = .ok (.bl (isTy G (.lst b) t)) s := (rfl)
@[simp] theorem isi_dct {t : Ty} {k : List DK} {b : List D} : isiX G (.dct k b) t s = .ok (.bl (isTy G (.dct k b) t)) s := (rfl)
@[simp] theorem ty_str1 {b : List Nat} : isTy G (.str b) .str = true := (rfl)
@[simp] theorem ty_str2 {b : List Nat} : isTy G (.str b) .int = false := (rfl)
@[simp] theorem ty_str3 {b : List Nat} : isTy G (.str b) .bool = false := (rfl)
@[simp] theorem ty_str4 {b : List Nat} : isTy G (.str b) .tuple = false := (rfl)
@[simp] theorem ty_str5 {b : List Nat} : isTy G (.str b) .list = false := (rfl)
@[simp] theorem ty_str6 {b : List Nat} {c : Nat} : isTy G (.str b) (.cls c) = false := (rfl)
@[simp] theorem ty_int1 {b : Int} : isTy G (.int b) .int = true := (rfl)
@[simp] theorem ty_int2 {b : Int} : isTy G (.int b) .bool = false := (rfl)
@[simp] theorem ty_int3 {b : Int} : isTy G (.int b) .str = false := (rfl)
@[simp] theorem ty_int4 {b : Int} : isTy G (.int b) .tuple = false := (rfl)
@[simp] theorem ty_int5 {b : Int} : isTy G (.int b) .list = false := (rfl)
@[simp] theorem ty_int6 {b : Int} {c : Nat} : isTy G (.int b) (.cls c) = false := (rfl)
@[simp] theorem ty_tup1 {b : List D} : isTy G (.tup b) .tuple = true := (rfl)
@[simp] theorem ty_tup2 {b : List D} : isTy G (.tup b) .str = false := (rfl)
@[simp] theorem ty_tup3 {b : List D} : isTy G (.tup b) .int = false := (rfl)
@[simp] theorem ty_tup4 {b : List D} : isTy G (.tup b) .bool = false := (rfl)
@[simp] theorem ty_tup5 {b : List D} : isTy G (.tup b) .list = false := (rfl)
@[simp] theorem ty_tup6 {b : List D} {c : Nat} : isTy G (.tup b) (.cls c) = false := (rfl)
@[simp] theorem ev_bi {b : Bi} {es : E} : ev G κ (.bi b es) v s = (evs G κ es v s).bind fun ds s => biI G κ b ds s := by rw [ev]
def dmX : D → D → St → R D
  | .int i, .int j, s => if 0 < j ∧ j < 1073741824 then .ok (.tup [.int (i / j), .int (i % j)]) s else .no
  | _, _, _ => .no
theorem dmX_ok {i j : Int} (h : 0 < j ∧ j < 1073741824) : dmX (.int i) (.int j) s = .ok (.tup [.int (i / j), .int (i % j)]) s := by simp [dmX, h]
@[simp] theorem ev_divmod {a b : E} : ev G κ (.divmod a b) v s = (ev G κ a v s).bind fun x s => (ev G κ b v s).bind fun y s => dmX x y s := by
  rw [ev]; congr; funext x s; congr; funext y s; cases x <;> cases y <;> rfl
@[simp] theorem ev_bm {m : Bool} {b : Bm} {o es : E} : ev G κ (.bm m b o es) v s = (ev G κ o v s).bind fun x s => if bmOk b (view s x) then (evs G κ es v s).bind fun ds s => bmR m b x ds s else .no := by rw [ev]
def callX (κ : Nat → List D → St → R D) (f : Nat) (pm : List Nat) (ds : List D) (s : St) : R D := match permA pm ds with
    | some ds => κ f ds s
    | none => .no
@[simp] theorem callX_nil {f : Nat} {ds : List D} : callX κ f [] ds s = κ f ds s := (rfl)
theorem callX_pm {f : Nat} {pm : List Nat} {ds es : List D} (h : permA pm ds = some es) : callX κ f pm ds s = κ f es s := by simp [callX, h]
@[simp] theorem ev_call {f : Nat} {es : E} {pm : List Nat} : ev G κ (.call f es pm) v s = (evs G κ es v s).bind fun ds s => callX κ f pm ds s := by rw [ev]; rfl
@[simp] theorem ev_mk {c : Nat} {es : E} {pm : List Nat} : ev G κ (.mk c es pm) v s = (evs G κ es v s).bind fun ds s => mkI G κ c pm ds s := by rw [ev]
@[simp] theorem ev_clm {c f : Nat} {es : E} {pm : List Nat} : ev G κ (.clm c f es pm) v s = (evs G κ es v s).bind fun ds s => callX κ f pm (.cls c :: ds) s := by rw [ev]; rfl
@[simp] theorem ev_atr {o : E} {a : Nat} : ev G κ (.atr o a) v s = (ev G κ o v s).bind fun x s => atrI G κ x a s := by rw [ev]
def methX (G : Pg) (κ : Nat → List D → St → R D) (x : D) (a : Nat) (es : E) (pm : List Nat) (v : Env) (s : St) : R D := match methF G x a s with
    | some f => (evs G κ es v s).bind fun ds s => callX κ f pm (x :: ds) s
    | none => .no
@[simp] theorem ev_meth {o : E} {a : Nat} {es : E} {pm : List Nat} : ev G κ (.meth o a es pm) v s = (ev G κ o v s).bind fun x s => methX G κ x a es pm v s := by
  rw [ev]; rfl
theorem methX_ok {x : D} {a : Nat} {es : E} {pm : List Nat} {f : Nat} (h : methF G x a s = some f) : methX G κ x a es pm v s = (evs G κ es v s).bind fun ds s => callX κ f pm (x :: ds) s := by simp [methX, h]
@[simp] theorem evs_nil : evs G κ .nil v s = .ok [] s := by rw [evs]
@[simp] theorem evs_cons {e es : E} : evs G κ (.cons e es) v s = (ev G κ e v s).bind fun d s => (evs G κ es v s).map (d :: ·) := by rw [evs]
def starX (o : Option (List D)) (r : R (List D)) : R (List D) := match o with
    | some xs => r.map (xs ++ ·)
    | none => .no
@[simp] theorem starX_some {xs : List D} {r : R (List D)} : starX (some xs) r = r.map (xs ++ ·) := (rfl)
@[simp] theorem evs_star {e es : E} : evs G κ (.star e es) v s = (ev G κ e v s).bind fun d s => starX (seqOf (view s d)) (evs G κ es v s) := by rw [evs]; rfl
def ivK (s : St) (d : D) : Option (List D) → R (List D × Gd)
  | some xs => .ok (xs, []) (lockS s d)
  | none => .no
def ivX (s : St) (d : D) (o : Option (List D)) : R (List D × Gd) := match o with
  | some xs => .ok (xs, guardOf s d) s
  | none => ivK s d (keysOf (view s d))
@[simp] theorem ivK_some {d : D} {xs : List D} : ivK s d (some xs) = .ok (xs, []) (lockS s d) := (rfl)
@[simp] theorem ivX_none {d : D} : ivX s d none = ivK s d (keysOf (view s d)) := (rfl)
@[simp] theorem keys_dct {ks : List DK} {vs : List D} : keysOf (.dct ks vs) = some (ks.map dkD) := (rfl)
@[simp] theorem items_dct {ks : List DK} {vs : List D} : itemsOf (.dct ks vs) = none := (rfl)
@[simp] theorem lock_dct {ks : List DK} {vs : List D} : lockS s (.dct ks vs) = s := (rfl)
theorem lock_cell {n : Nat} {ks : List DK} {vs : List D} (h : s[n]? = some (.dct ks vs)) : lockS s (.cell n) = s.set n (.fdc ks vs) := by simp only [lockS, h]
@[simp] theorem ivX_some {d : D} {xs : List D} : ivX s d (some xs) = .ok (xs, guardOf s d) s := (rfl)
@[simp] theorem evIt_iv {e : E} : evIt G κ (.iv e) v s = (ev G κ e v s).bind fun d s => ivX s d (itemsOf (view s d)) := by rw [evIt]; rfl
def rgX : D → D → St → R (List D × Gd)
  | .int i, .int j, s => if fits62 i && fits62 j then .ok (rngL i (j - i).toNat, []) s else .no
  | _, _, _ => .no
theorem rgX_ok {i j : Int} (h : fits62 i = true) (k : fits62 j = true) : rgX (.int i) (.int j) s = .ok (rngL i (j - i).toNat, []) s := by simp [rgX, h, k]
theorem fits62_of {i : Int} (h : -4611686018427387904 ≤ i ∧ i < 4611686018427387904) : fits62 i = true := by simp [fits62, h]
@[simp] theorem evIt_rng1 {a : E} : evIt G κ (.rng1 a) v s = (ev G κ a v s).bind fun d s => rgX (.int 0) d s := by
  rw [evIt]; congr; funext d s
  cases d <;> try rfl
  rename_i j
  simp only [rgX]
  have : fits62 0 = true := by decide
  simp [this]
@[simp] theorem evIt_rng2 {a b : E} : evIt G κ (.rng2 a b) v s = (ev G κ a v s).bind fun d s => (ev G κ b v s).bind fun e s => rgX d e s := by
  rw [evIt]; congr; funext d s; congr; funext e s; cases d <;> cases e <;> rfl
def zipX (s : St) (d e : D) : D → D → R (List D × Gd)
    | .lst xs, .lst ys => .ok ((xs.zip ys).map fun p => .tup [p.1, p.2], guardOf s d ++ guardOf s e) s
    | .tup xs, .tup ys => .ok ((xs.zip ys).map fun p => .tup [p.1, p.2], []) s
    | _, _ => .no
@[simp] theorem zipX_l {d e : D} {xs ys : List D} : zipX s d e (.lst xs) (.lst ys) = .ok ((xs.zip ys).map fun p => .tup [p.1, p.2], guardOf s d ++ guardOf s e) s := (rfl)
@[simp] theorem zipX_t {d e : D} {xs ys : List D} : zipX s d e (.tup xs) (.tup ys) = .ok ((xs.zip ys).map fun p => .tup [p.1, p.2], []) s := (rfl)
def itmX : D → St → R (List D × Gd)
  | .dct ks vs, s => .ok ((ks.zip vs).map fun p => .tup [dkD p.1, p.2], []) s
  | _, _ => .no
@[simp] theorem evIt_itms {a : E} : evIt G κ (.itms a) v s = (ev G κ a v s).bind fun d s => itmX d s := by
  rw [evIt]
  congr; funext d s
  cases d <;> rfl
@[simp] theorem itmX_dct {ks : List DK} {vs : List D} : itmX (.dct ks vs) s = .ok ((ks.zip vs).map fun p => .tup [dkD p.1, p.2], []) s := (rfl)
def rg3X : D → D → D → St → R (List D × Gd)
  | .int i, .int j, .int st, s => if fits62 i && fits62 j && decide (1 ≤ st) && decide (st < 1000) then .ok (rngC i st ((j - i + st - 1) / st).toNat, []) s else .no
  | _, _, _, _ => .no
@[simp] theorem evIt_rng3 {a b c : E} : evIt G κ (.rng3 a b c) v s = (ev G κ a v s).bind fun d s => (ev G κ b v s).bind fun e s => (ev G κ c v s).bind fun f s => rg3X d e f s := by
  rw [evIt]
  congr; funext d s; congr; funext e s; congr; funext f s
  cases d <;> cases e <;> cases f <;> rfl
@[simp] theorem evIt_zip {a b : E} : evIt G κ (.zip a b) v s = (ev G κ a v s).bind fun d s => (ev G κ b v s).bind fun e s => zipX s d e (view s d) (view s e) := by
  rw [evIt]; rfl
end
section
variable {s : St} {op : CmpOp}
@[simp] theorem cmpI_ii {i j : Int} : cmpI op (.int i) (.int j) s = R.opt ((cmpO op (.int i) (.int j)).map .bl) s := (rfl)
@[simp] theorem cmpI_ss {i j : List Nat} : cmpI op (.str i) (.str j) s = R.opt ((cmpO op (.str i) (.str j)).map .bl) s := (rfl)
@[simp] theorem cmpI_tt {i j : List D} : cmpI op (.tup i) (.tup j) s = R.opt ((cmpO op (.tup i) (.tup j)).map .bl) s := (rfl)
@[simp] theorem cmpI_ll {i j : List D} : cmpI op (.lst i) (.lst j) s = R.opt ((cmpO op (.lst i) (.lst j)).map .bl) s := (rfl)
@[simp] theorem cmpI_st {i : List Nat} {j : List D} : cmpI op (.str i) (.tup j) s = R.opt ((cmpO op (.str i) (.tup j)).map .bl) s := (rfl)
@[simp] theorem cmpI_sl {i : List Nat} {j : List D} : cmpI op (.str i) (.lst j) s = R.opt ((cmpO op (.str i) (.lst j)).map .bl) s := (rfl)
@[simp] theorem cmpI_it {i : Int} {j : List D} : cmpI op (.int i) (.tup j) s = R.opt ((cmpO op (.int i) (.tup j)).map .bl) s := (rfl)
@[simp] theorem cmpI_il {i : Int} {j : List D} : cmpI op (.int i) (.lst j) s = R.opt ((cmpO op (.int i) (.lst j)).map .bl) s := (rfl)
@[simp] theorem cmpI_tl {i : List D} {j : List D} : cmpI op (.tup i) (.lst j) s = R.opt ((cmpO op (.tup i) (.lst j)).map .bl) s := (rfl)
@[simp] theorem cmpI_cl {n : Nat} {xs j : List D} (h : s[n]? = some (.lst xs)) : cmpI op (.cell n) (.lst j) s = R.opt ((cmpO op (.lst xs) (.lst j)).map .bl) s := by
  unfold cmpI; rw [view_cell, h]; rfl
@[simp] theorem cmpO_eqi {i j : Int} : cmpO .Eq (.int i) (.int j) = some (decide (i = j)) := (rfl)
@[simp] theorem cmpO_nei {i j : Int} : cmpO .NotEq (.int i) (.int j) = some (!decide (i = j)) := (rfl)
@[simp] theorem cmpO_lti {i j : Int} : cmpO .Lt (.int i) (.int j) = some (decide (i < j)) := (rfl)
@[simp] theorem cmpO_lei {i j : Int} : cmpO .LtE (.int i) (.int j) = some (decide (i ≤ j)) := by
  have e : (!decide (j < i)) = decide (i ≤ j) := by rw [Bool.eq_iff_iff]; simp
  simp [cmpO, ltO, e]
@[simp] theorem cmpO_gti {i j : Int} : cmpO .Gt (.int i) (.int j) = some (decide (j < i)) := (rfl)
@[simp] theorem cmpO_gei {i j : Int} : cmpO .GtE (.int i) (.int j) = some (decide (j ≤ i)) := by
  have e : (!decide (i < j)) = decide (j ≤ i) := by rw [Bool.eq_iff_iff]; simp
  simp [cmpO, ltO, e]
@[simp] theorem cmpO_eqs {i j : List Nat} : cmpO .Eq (.str i) (.str j) = some (decide (i = j)) := (rfl)
@[simp] theorem cmpO_nes {i j : List Nat} : cmpO .NotEq (.str i) (.str j) = some (!decide (i = j)) := (rfl)
@[simp] theorem cmpO_lts {i j : List Nat} : cmpO .Lt (.str i) (.str j) = some (decide (i < j)) := (rfl)
@[simp] theorem cmpO_ins {c : Nat} {j : List Nat} : cmpO .In (.str [c]) (.str j) = some (decide (c ∈ j)) := (rfl)
@[simp] theorem cmpO_nis {c : Nat} {j : List Nat} : cmpO .NotIn (.str [c]) (.str j) = some (!decide (c ∈ j)) := (rfl)
mutual
def nob : D → Bool
  | .non => true | .int _ => true | .str s => s.all fun c => decide (c < 1114112)
  | .tup xs => nobs xs | .lst xs => nobs xs
  | _ => false
def nobs : List D → Bool
  | [] => true
  | x :: xs => nob x && nobs xs
end
mutual
theorem eqD_nob : ∀ {x y : D}, nob x = true → nob y = true → eqD x y = decide (x = y)
  | .non, y, _, hy => by cases y <;> simp_all [eqD, nob]
  | .int a, y, _, hy => by cases y <;> simp_all [eqD, nob]
  | .str a, y, _, hy => by cases y <;> simp_all [eqD, nob]
  | .tup xs, y, hx, hy => by
    cases y with
    | tup ys => simp only [nob] at hx hy; simp only [eqD, eqDs_nob hx hy, D.tup.injEq]
    | _ => simp_all [eqD, nob]
  | .lst xs, y, hx, hy => by
    cases y with
    | lst ys => simp only [nob] at hx hy; simp only [eqD, eqDs_nob hx hy, D.lst.injEq]
    | _ => simp_all [eqD, nob]
  | .bl _, _, hx, _ | .dct _ _, _, hx, _ | .ins _ _, _, hx, _ | .cell _, _, hx, _ | .cls _, _, hx, _ | .clo _ _, _, hx, _ => by simp [nob] at hx
theorem eqDs_nob : ∀ {xs ys : List D}, nobs xs = true → nobs ys = true → eqDs xs ys = decide (xs = ys)
  | [], [], _, _ => by simp [eqDs]
  | [], _ :: _, _, _ => by simp [eqDs]
  | _ :: _, [], _, _ => by simp [eqDs]
  | x :: xs, y :: ys, hx, hy => by
    simp only [nobs, Bool.and_eq_true] at hx hy
    simp only [eqDs, eqD_nob hx.1 hy.1, eqDs_nob hx.2 hy.2, List.cons.injEq]
    rw [Bool.eq_iff_iff]; simp
end
theorem nobs_map {β : Type} {e : β → D} : ∀ {xs : List β}, (∀ x ∈ xs, nob (e x) = true) → nobs (xs.map e) = true
  | [], _ => rfl
  | x :: xs, h => by simp only [List.map_cons, nobs, h x List.mem_cons_self, nobs_map fun y m => h y (List.mem_cons_of_mem _ m), Bool.and_self]
theorem nobs_mem {xs : List D} : nobs xs = true ↔ ∀ x ∈ xs, nob x = true := by
  induction xs with
  | nil => simp [nobs]
  | cons x xs ih => simp [nobs, ih]
theorem eqO_nob {x y : D} (hx : nob x = true) (hy : nob y = true) (dx : dat x = true) (dy : dat y = true) : eqO x y = some (decide (x = y)) := by
  have h := eqD_nob hx hy
  unfold eqO
  split
  · simp
  · simp
  · rw [if_pos (by simp [dx, dy]), h]
end
section
variable {G : Pg} {κ : Nat → List D → St → R D} {v : Env} {s : St} {N B Ct : Env → St → Prop} {T : D → St → Prop}
theorem mkI_frz {c f : Nat} {r : ClR} {pm : List Nat} {ds as fs : List D} (hc : G.cl c = some r) (hi : r.init = some f) (hf : r.frz = true) (hp : permA pm (.cell s.length :: ds) = some as) (h : κ f as (s ++ [.ins c []]) = .ok .non (s ++ [.ins c fs])) (hb : belows s.length fs = true) : mkI G κ c pm ds s = .ok (.ins c fs) s := by
  simp only [mkI, hc, hi, hp, h, R.bind, hf, if_true]
  simp [hb]
theorem ws_setf_new {o e : E} {a c n : Nat} {k : C} {d : D} {fs : List D} {s1 s2 : St} (h1 : ev G κ e v s = .ok d s1) (h2 : ev G κ o v s1 = .ok (.cell n) s2) (h3 : s2[n]? = some (.ins c fs)) (h4 : ((G.cl c).bind fun r => r.fld.lookup a) = some fs.length) (h5 : below n d = true)
    (q : WS (ex G κ k v (s2.set n (.ins c (fs ++ [d])))) N T B Ct) : WS (ex G κ (.setf o a e k) v s) N T B Ct := by
  rw [ex, h1]
  simp only [R.go, h2, h3, h4, h5, if_true, Nat.lt_irrefl, if_false]
  exact q
theorem ws_setf_old {o e : E} {a c n i : Nat} {k : C} {d : D} {fs : List D} {s1 s2 : St} (h1 : ev G κ e v s = .ok d s1) (h2 : ev G κ o v s1 = .ok (.cell n) s2) (h3 : s2[n]? = some (.ins c fs)) (h4 : ((G.cl c).bind fun r => r.fld.lookup a) = some i) (hi : i < fs.length) (h5 : below n d = true)
    (q : WS (ex G κ k v (s2.set n (.ins c (fs.set i d)))) N T B Ct) : WS (ex G κ (.setf o a e k) v s) N T B Ct := by
  rw [ex, h1]
  simp only [R.go, h2, h3, h4, h5, if_true, hi]
  exact q
theorem atr_fld {c a i : Nat} {r : ClR} {fs : List D} {d : D} (hc : G.cl c = some r) (ha : r.fld.lookup a = some i) (hd : fs[i]? = some d) : atrI G κ (.ins c fs) a s = .ok d s := by
  simp only [atrI, view_ins, hc, ha, hd, R.opt]
theorem atr_prop {c a f : Nat} {r : ClR} {fs : List D} {d : D} (hc : G.cl c = some r) (ha : r.fld.lookup a = none) (hp : r.prop.lookup a = some f) (h : κ f [.ins c fs] s = .ok d s) : atrI G κ (.ins c fs) a s = .ok d s := by
  simp only [atrI, view_ins, hc, ha, hp, h, R.calm]
theorem len_ins {c f : Nat} {r : ClR} {fs : List D} {i : Int} (hc : G.cl c = some r) (hl : r.lenF = some f) (h : κ f [.ins c fs] s = .ok (.int i) s) (hi : 0 ≤ i ∧ i < 1000000) : biI G κ .len [.ins c fs] s = .ok (.int i) s := by
  simp only [biI, view_ins, hc, Option.bind_some, hl, h, R.calm, R.bind, if_pos hi]
theorem str_ins {c f : Nat} {r : ClR} {fs : List D} {x : List Nat} (hc : G.cl c = some r) (hl : r.strF = some f) (h : κ f [.ins c fs] s = .ok (.str x) s) : biI G κ .str [.ins c fs] s = .ok (.str x) s := by
  simp only [biI, view_ins, hc, Option.bind_some, hl, h, R.calm, R.bind]
end
section
variable {G : Pg} {κ : Nat → List D → St → R D} {v : Env} {s : St} {N B Ct : Env → St → Prop} {T : D → St → Prop}
theorem ws_seti {i : Nat} {ix e : E} {k : C} (h : W (ev G κ e v s) fun d s1 => W (ev G κ (.var i) v s1) fun o s2 => W (ev G κ ix v s2) fun x s3 => ∃ n s4, o = .cell n ∧ setC s3 n x d = some s4 ∧ WS (ex G κ k v s4) N T B Ct) : WS (ex G κ (.seti i ix e k) v s) N T B Ct := by
  rw [ex, WS_go]
  refine W_mono h fun d s1 h => ?_
  rw [WS_go]
  refine W_mono h fun o s2 h => ?_
  rw [WS_go]
  refine W_mono h fun x s3 ⟨n, s4, e1, e2, q⟩ => ?_
  rw [e1]; dsimp only; rw [e2]; exact q
theorem setC_lst {n j : Nat} {i : Int} {d : D} {xs : List D} (h : s[n]? = some (.lst xs)) (hk : ixN xs.length i = some j) (hb : below n d = true) : setC s n (.int i) d = some (s.set n (.lst (xs.set j d))) := by
  simp only [setC, h, hk, hb, if_true]
theorem setC_dct {n : Nat} {q : DK} {k d : D} {ks : List DK} {vs : List D} (h : s[n]? = some (.dct ks vs)) (hk : keyOf k = some q) (hl : ks.length < line) (hb : below n d = true) : setC s n k d = some (s.set n (.dct (putK q d ks vs).1 (putK q d ks vs).2)) := by
  simp only [setC, h, hk, hb, hl, and_self, if_true]
end
section
variable {s t : St}
@[simp] theorem loc_get {k : Nat} : (s ++ t)[s.length + k]? = t[k]? := by
  rw [List.getElem?_append_right (by omega)]; congr 1; omega
@[simp] theorem loc_get0 : (s ++ t)[s.length]? = t[0]? := loc_get (k := 0)
@[simp] theorem loc_set {k : Nat} {c : Cell} : (s ++ t).set (s.length + k) c = s ++ t.set k c := by
  rw [List.set_append_right _ _ (by omega)]; congr 2; omega
@[simp] theorem loc_set0 {c : Cell} : (s ++ t).set s.length c = s ++ t.set 0 c := loc_set (k := 0)
theorem out_get {j : Nat} (h : j < s.length) : (s ++ t)[j]? = s[j]? := List.getElem?_append_left h
theorem out_set {j : Nat} {c : Cell} (h : j < s.length) : (s ++ t).set j c = s.set j c ++ t := List.set_append_left _ _ h
end
section
variable {G : Pg} {κ : Nat → List D → St → R D} {v : Env} {s : St} {β : Type} {enc f : β → D} {p : β → Bool} {xs : List β} {g : Gd} {i : Nat} {it c e : E}
theorem comp_fm (hit : evIt G κ it v s = .ok (xs.map enc, g) s) (hg : okG g s = true) (h : ∀ x ∈ xs, cstep G κ (.one i) c e v (enc x) s = .ok (if p x then [f x] else []) s) (hl : xs.length ≤ line) : ev G κ (.comp false (.one i) it c e) v s = .ok (.lst ((xs.filter p).map f)) s := by
  have := List.length_filter_le p xs
  simp only [ev_comp, hit, R_bind_ok]
  rw [compL_fm hg h]
  simp only [R_bind_ok]
  rw [if_pos (by rw [List.length_map]; omega)]
  rfl
theorem comp_map (hit : evIt G κ it v s = .ok (xs.map enc, g) s) (hg : okG g s = true) (h : ∀ x ∈ xs, cstep G κ (.one i) c e v (enc x) s = .ok [f x] s) (hl : xs.length ≤ line) : ev G κ (.comp false (.one i) it c e) v s = .ok (.lst (xs.map f)) s := by
  simp only [ev_comp, hit, R_bind_ok]
  rw [compL_map hg h]
  simp only [R_bind_ok]
  rw [if_pos (by rw [List.length_map]; omega)]
  rfl
end
end EV
set_option linter.all false
set_option maxRecDepth 100000
namespace EV
open PySem (Operator CmpOp)
theorem line_val : line = 16777216 := rfl
abbrev chD (c : Nat) : D := .str [c]
@[simp] theorem sortX_str {s : St} {m : Bool} {x : List Nat} : sortX m (.str x) s = allocO m (sortD (x.map chD)) s := (rfl)
abbrev nD (k : Nat) : D := .int (k : Int)
@[simp] theorem plain_str {x : List Nat} : plain (.str x) = true := by simp only [plain]
@[simp] theorem plain_int {x : Int} : plain (.int x) = true := by simp only [plain]
@[simp] theorem plain_bl {x : Bool} : plain (.bl x) = true := by simp only [plain]
@[simp] theorem plain_non : plain .non = true := by simp only [plain]
@[simp] theorem plain_tup {x : List D} : plain (.tup x) = plains x := by simp only [plain]
@[simp] theorem plain_lst {x : List D} : plain (.lst x) = plains x := by simp only [plain]
@[simp] theorem plain_ins {c : Nat} {x : List D} : plain (.ins c x) = plains x := by simp only [plain]
@[simp] theorem plain_dct {c : List DK} {x : List D} : plain (.dct c x) = plains x := by simp only [plain]
@[simp] theorem plains_nil : plains [] = true := by simp only [plains]
@[simp] theorem plains_cons {x : D} {xs : List D} : plains (x :: xs) = (plain x && plains xs) := by simp only [plains]
@[simp] theorem plains_app {xs ys : List D} : plains (xs ++ ys) = (plains xs && plains ys) := by
  induction xs with
  | nil => simp
  | cons x xs ih => simp [ih, Bool.and_assoc]
theorem plains_iff {xs : List D} : plains xs = true ↔ ∀ x ∈ xs, plain x = true := by
  induction xs with
  | nil => simp
  | cons x xs ih => simp [ih]
@[simp] theorem plains_mapS {l : List (List Nat)} : plains (l.map .str) = true := plains_map (fun _ => rfl) l
@[simp] theorem plains_mapC {l : List Nat} : plains (l.map chD) = true := plains_map (fun _ => rfl) l
@[simp] theorem plains_mapN {l : List Nat} : plains (l.map nD) = true := plains_map (fun _ => rfl) l
@[simp] theorem plains_mapI {l : List Int} : plains (l.map .int) = true := plains_map (fun _ => rfl) l
@[simp] theorem plains_mapB {l : List Bool} : plains (l.map .bl) = true := plains_map (fun _ => rfl) l
@[simp] theorem strsOf_map : ∀ ws : List (List Nat), strsOf (ws.map D.str) = some ws
  | [] => rfl
  | w :: ws => by simp [strsOf, strsOf_map ws]
theorem strsOf_mapF {β : Type} {f : β → List Nat} (l : List β) : strsOf (l.map fun x => D.str (f x)) = some (l.map f) := by
  have := strsOf_map (l.map f)
  rwa [List.map_map] at this
@[simp] theorem strsOf_ch (w : List Nat) : strsOf (w.map chD) = some (w.map fun c => [c]) := strsOf_mapF w
theorem blsOf_mapF {β : Type} {f : β → Bool} : ∀ l : List β, blsOf (l.map fun x => D.bl (f x)) = some (l.map f)
  | [] => rfl
  | x :: l => by simp [blsOf, blsOf_mapF l]
theorem intsOf_mapF {β : Type} {f : β → Int} : ∀ l : List β, intsOf (l.map fun x => D.int (f x)) = some (l.map f)
  | [] => rfl
  | x :: l => by simp [intsOf, intsOf_mapF l]
theorem joinL_nil : ∀ ws : List (List Nat), joinL [] ws = ws.flatten
  | [] => rfl
  | [x] => by simp [joinL]
  | x :: y :: ws => by simp [joinL, joinL_nil (y :: ws)]
theorem flat_ch (w : List Nat) : (w.map fun c => [c]).flatten = w := by
  induction w with
  | nil => rfl
  | cons c w ih => simp [ih]
section
variable {s : St} {m : Bool}
@[simp] theorem ok_join {x : List Nat} : bmOk .join (.str x) = true := (rfl)
@[simp] theorem ok_split {x : List Nat} : bmOk .split (.str x) = true := (rfl)
@[simp] theorem ok_sidx {x : List Nat} : bmOk .sidx (.str x) = true := (rfl)
@[simp] theorem ok_scnt {x : List Nat} : bmOk .scnt (.str x) = true := (rfl)
@[simp] theorem ok_lidx {x : List D} : bmOk .lidx (.lst x) = true := (rfl)
@[simp] theorem ok_lcnt {x : List D} : bmOk .lcnt (.lst x) = true := (rfl)
@[simp] theorem ok_app {x : List D} : bmOk .append (.lst x) = true := (rfl)
@[simp] theorem ok_ext {x : List D} : bmOk .extend (.lst x) = true := (rfl)
@[simp] theorem ok_pop {x : List D} : bmOk .pop (.lst x) = true := (rfl)
@[simp] theorem ok_pop0 {x : List D} : bmOk .pop0 (.lst x) = true := (rfl)
@[simp] theorem ok_bit {i : Int} : bmOk .bitlen (.int i) = true := (rfl)
@[simp] theorem ok_get {ks : List DK} {x : List D} : bmOk .get (.dct ks x) = true := (rfl)
@[simp] theorem bm_join {x : List Nat} {d : D} : bmR m .join (.str x) [d] s = R.opt (bmD .join (.str x) [view s d]) s := (rfl)
theorem join_ch {w : List Nat} (h : w.length ≤ line) : bmD .join (.str []) [.lst (w.map chD)] = some (.str w) := by
  simp only [bmD, joinT, strsOf_ch, Option.bind_some, joinL_nil, flat_ch]
  rw [if_pos]
  have : ((w.map fun c => [c]).map (·.length)).sum = w.length := by rw [← List.length_flatten, flat_ch]
  simp only [this, List.length_nil, Nat.mul_zero, Nat.add_zero]
  exact h
theorem join_strL {ws : List (List Nat)} (h : ws.flatten.length ≤ line) : bmD .join (.str []) [.lst (ws.map .str)] = some (.str ws.flatten) := by
  simp only [bmD, joinT, strsOf_map, Option.bind_some, joinL_nil]
  rw [if_pos]
  rw [← List.length_flatten]; simpa using h
theorem join_strT {ws : List (List Nat)} (h : ws.flatten.length ≤ line) : bmD .join (.str []) [.tup (ws.map .str)] = some (.str ws.flatten) := by
  simp only [bmD, joinT, strsOf_map, Option.bind_some, joinL_nil]
  rw [if_pos]
  rw [← List.length_flatten]; simpa using h
theorem app_ok {n : Nat} {d : D} {xs : List D} (h : s[n]? = some (.lst xs)) (hl : xs.length < line) (hb : below n d = true) : bmR m .append (.cell n) [d] s = .ok .non (s.set n (.lst (xs ++ [d]))) := by
  simp only [bmR, bmC, h]
  rw [if_pos ⟨hl, hb⟩]
theorem pop_ok {n : Nat} {i : Int} {k : Nat} {d : D} {xs : List D} (h : s[n]? = some (.lst xs)) (hk : ixN xs.length i = some k) (hd : xs[k]? = some d) : bmR m .pop (.cell n) [.int i] s = .ok d (s.set n (.lst (xs.eraseIdx k))) := by
  simp only [bmR, bmC, h, hk, hd]
theorem ixN_nat {n k : Nat} (h : k < n) : ixN n (k : Int) = some k := by
  unfold ixN
  rw [if_pos (by omega), if_pos (by omega)]; rfl
variable {G : Pg} {κ : Nat → List D → St → R D}
@[simp] theorem len_str {x : List Nat} : biI G κ .len [.str x] s = R.opt ((lenOf (.str x)).map fun (n : Nat) => D.int n) s := by
  simp only [biI, view_str, biD]
  cases lenOf (.str x) <;> rfl
@[simp] theorem len_tup {x : List D} : biI G κ .len [.tup x] s = .ok (nD x.length) s := (rfl)
@[simp] theorem len_lst {x : List D} : biI G κ .len [.lst x] s = .ok (nD x.length) s := (rfl)
theorem len_cell {n : Nat} {x : List D} (h : s[n]? = some (.lst x)) : biI G κ .len [.cell n] s = .ok (nD x.length) s := by
  simp only [biI, view_cell, h, cellD_lst]; rfl
theorem lenOf_str {x : List Nat} (h : x.length ≤ line) : lenOf (.str x) = some x.length := by simp [lenOf, h]
@[simp] theorem bi_all {d : D} : biI G κ .all [d] s = R.opt (biD .all [view s d]) s := (rfl)
@[simp] theorem bi_any {d : D} : biI G κ .any [d] s = R.opt (biD .any [view s d]) s := (rfl)
@[simp] theorem bi_sum {d : D} : biI G κ .sum [d] s = R.opt (biD .sum [view s d]) s := (rfl)
@[simp] theorem bi_int {i : Int} : biI G κ .int [.int i] s = .ok (.int i) s := (rfl)
@[simp] theorem bi_intb {b : Bool} : biI G κ .int [.bl b] s = .ok (.int (b2i b)) s := (rfl)
@[simp] theorem bi_abs {i : Int} : biI G κ .abs [.int i] s = .ok (.int (if i < 0 then -i else i)) s := (rfl)
@[simp] theorem bi_max2 {i j : Int} : biI G κ .max2 [.int i, .int j] s = .ok (.int (if j > i then j else i)) s := (rfl)
@[simp] theorem bi_min2 {i j : Int} : biI G κ .min2 [.int i, .int j] s = .ok (.int (if j < i then j else i)) s := (rfl)
@[simp] theorem bi_repr {d : D} : biI G κ .repr [d] s = R.opt (biD .repr [view s d]) s := (rfl)
theorem all_mapF {β : Type} {f : β → Bool} (l : List β) : biD .all [.lst (l.map fun x => .bl (f x))] = some (.bl (l.all f)) := by
  simp only [biD, blsOf_mapF, Option.map_some]
  congr 2; induction l <;> simp_all
theorem any_mapF {β : Type} {f : β → Bool} (l : List β) : biD .any [.lst (l.map fun x => .bl (f x))] = some (.bl (l.any f)) := by
  simp only [biD, blsOf_mapF, Option.map_some]
  congr 2; induction l <;> simp_all
theorem sum_mapF {β : Type} {f : β → Int} (l : List β) : biD .sum [.lst (l.map fun x => .int (f x))] = some (.int (l.map f).sum) := by
  simp only [biD, intsOf_mapF, Option.map_some]
end
theorem atI_nat {α : Type} {xs : List α} {k : Nat} : atI xs (k : Int) = xs[k]? := by
  unfold atI
  by_cases h : k < xs.length
  · rw [ixN_nat h]; rfl
  · unfold ixN
    rw [if_pos (by omega), if_neg (by omega)]
    rw [List.getElem?_eq_none (by omega)]; rfl
theorem idx_tup {xs : List D} {k : Nat} : idxD (.tup xs) (nD k) = xs[k]? := atI_nat
theorem idx_lst {xs : List D} {k : Nat} : idxD (.lst xs) (nD k) = xs[k]? := atI_nat
theorem idx_str {x : List Nat} {k : Nat} (h : x.length ≤ line) : idxD (.str x) (nD k) = (x[k]?).map chD := by
  simp only [idxD, h, if_true]
  rw [atI_nat]
@[simp] theorem idx_tup0 {x : D} {xs : List D} : idxD (.tup (x :: xs)) (.int 0) = some x := by
  exact idx_tup (xs := x :: xs) (k := 0)
@[simp] theorem idx_tup1 {x y : D} {xs : List D} : idxD (.tup (x :: y :: xs)) (.int 1) = some y := by
  exact idx_tup (xs := x :: y :: xs) (k := 1)
@[simp] theorem idx_tup2 {x y z : D} {xs : List D} : idxD (.tup (x :: y :: z :: xs)) (.int 2) = some z := by
  exact idx_tup (xs := x :: y :: z :: xs) (k := 2)
@[simp] theorem idx_lst0 {x : D} {xs : List D} : idxD (.lst (x :: xs)) (.int 0) = some x := by
  exact idx_lst (xs := x :: xs) (k := 0)
@[simp] theorem idx_lst1 {x y : D} {xs : List D} : idxD (.lst (x :: y :: xs)) (.int 1) = some y := by
  exact idx_lst (xs := x :: y :: xs) (k := 1)
@[simp] theorem idx_lst2 {x y z : D} {xs : List D} : idxD (.lst (x :: y :: z :: xs)) (.int 2) = some z := by
  exact idx_lst (xs := x :: y :: z :: xs) (k := 2)
@[simp] theorem rngL_zero {n : Nat} : rngL 0 n = (List.range n).map nD := by simp [rngL]
theorem cut_take {α : Type} {xs : List α} {k : Nat} : cut xs none (some (k : Int)) = xs.take k := by
  unfold cut sIx
  simp only [List.drop_zero, Nat.sub_zero]
  rw [if_neg (by omega)]
  simp only [Int.toNat_natCast]
  rcases Nat.le_total k xs.length with h | h
  · rw [Nat.min_eq_left h]
  · rw [Nat.min_eq_right h, List.take_of_length_le (Nat.le_refl _), List.take_of_length_le h]
theorem cut_drop {α : Type} {xs : List α} {k : Nat} : cut xs (some (k : Int)) none = xs.drop k := by
  have e : ¬ (k : Int) < 0 := by omega
  simp only [cut, sIx, e, if_false, Int.toNat_natCast]
  rcases Nat.le_total k xs.length with h | h
  · rw [Nat.min_eq_left h, List.take_of_length_le (by rw [List.length_drop]; omega)]
  · rw [Nat.min_eq_right h, List.drop_of_length_le (Nat.le_refl _), List.drop_of_length_le h]; simp
theorem cut_mapD {α β : Type} {f : α → β} {xs : List α} {lo hi : Option Int} : cut (xs.map f) lo hi = (cut xs lo hi).map f := by
  unfold cut; simp [List.map_take, List.map_drop]
theorem asc_ext : ∀ {a b : List Nat}, a.Pairwise (· < ·) → b.Pairwise (· < ·) → (∀ x, x ∈ a ↔ x ∈ b) → a = b
  | [], [], _, _, _ => rfl
  | [], y :: b, _, _, h => by have := (h y).mpr List.mem_cons_self; simp at this
  | x :: a, [], _, _, h => by have := (h x).mp List.mem_cons_self; simp at this
  | x :: a, y :: b, ha, hb, h => by
    rw [List.pairwise_cons] at ha hb
    have e : x = y := by
      rcases List.mem_cons.mp ((h x).mp List.mem_cons_self) with e | m
      · exact e
      · rcases List.mem_cons.mp ((h y).mpr List.mem_cons_self) with e | m2
        · exact e.symm
        · have := hb.1 x m; have := ha.1 y m2; omega
    subst e
    congr 1
    refine asc_ext ha.2 hb.2 fun z => ⟨fun m => ?_, fun m => ?_⟩
    · rcases List.mem_cons.mp ((h z).mp (List.mem_cons_of_mem _ m)) with e | m2
      · subst e; have := ha.1 z m; omega
      · exact m2
    · rcases List.mem_cons.mp ((h z).mpr (List.mem_cons_of_mem _ m)) with e | m2
      · subst e; have := hb.1 z m; omega
      · exact m2
def uniq (w : List Nat) : List Nat := (List.range 128).filter fun c => decide (c ∈ w)
theorem uniq_asc (w : List Nat) : (uniq w).Pairwise (· < ·) := List.Pairwise.filter _ List.pairwise_lt_range
theorem mem_uniq {w : List Nat} (h : ∀ c ∈ w, c < 128) {c : Nat} : c ∈ uniq w ↔ c ∈ w := by
  simp only [uniq, List.mem_filter, List.mem_range, decide_eq_true_eq]
  exact ⟨fun z => z.2, fun z => ⟨h c z, z⟩⟩
theorem mem_uniq' {w : List Nat} {c : Nat} (h : c ∈ uniq w) : c ∈ w := by
  simp only [uniq, List.mem_filter, decide_eq_true_eq] at h; exact h.2
theorem uniq_lt {w : List Nat} {c : Nat} (h : c ∈ uniq w) : c < 128 := by
  simp only [uniq, List.mem_filter, List.mem_range] at h; exact h.1
theorem uniq_len (w : List Nat) : (uniq w).length ≤ 128 := by
  unfold uniq
  have := List.length_filter_le (fun c => decide (c ∈ w)) (List.range 128)
  simpa using this
theorem uniq_of_asc {w : List Nat} (h : ∀ c ∈ w, c < 128) (a : w.Pairwise (· < ·)) : uniq w = w := asc_ext (uniq_asc w) a fun _ => mem_uniq h
theorem uniq_ext {a b : List Nat} (h : ∀ x, x ∈ a ↔ x ∈ b) : uniq a = uniq b := by
  unfold uniq; congr; funext c; rw [Bool.eq_iff_iff]; simp [h]
theorem nodup_of_asc {w : List Nat} (a : w.Pairwise (· < ·)) : w.Nodup := a.imp fun h e => by omega
theorem nub_map {f : Nat → D} (hf : ∀ a b, eqD (f a) (f b) = decide (a = b)) (l : List Nat) : ∃ m : List Nat, nubD (l.map f) = m.map f ∧ m.Nodup ∧ ∀ x, x ∈ m ↔ x ∈ l := by
  suffices h : ∀ (l acc : List Nat), acc.Nodup → ∃ m : List Nat, (l.map f).foldl addD (acc.map f) = m.map f ∧ m.Nodup ∧ ∀ x, x ∈ m ↔ x ∈ acc ∨ x ∈ l by
    obtain ⟨m, e, n, k⟩ := h l [] List.nodup_nil
    exact ⟨m, e, n, fun x => by rw [k]; simp⟩
  intro l
  induction l with
  | nil => intro acc n; exact ⟨acc, rfl, n, by simp⟩
  | cons y l ih =>
    intro acc n
    have e : addD (acc.map f) (f y) = (if y ∈ acc then acc else acc ++ [y]).map f := by
      unfold addD
      have : ((acc.map f).any fun x => eqD x (f y)) = decide (y ∈ acc) := by
        rw [Bool.eq_iff_iff]
        simp [List.any_map, hf]
      rw [this]
      by_cases h : y ∈ acc <;> simp [h]
    obtain ⟨m, e2, n2, k⟩ := ih (if y ∈ acc then acc else acc ++ [y]) (by
      split
      · exact n
      · rename_i h
        rw [List.nodup_append]
        exact ⟨n, by simp, fun a ha b hb e2 => by rw [List.mem_singleton] at hb; rw [e2, hb] at ha; exact h ha⟩)
    refine ⟨m, by rw [List.map_cons, List.foldl_cons, e, e2], n2, fun x => ?_⟩
    rw [k]
    split
    · rename_i h
      simp only [List.mem_cons]
      exact ⟨fun z => z.elim .inl (fun z => .inr (.inr z)), fun z => z.elim .inl fun z => z.elim (fun e => .inl (e ▸ h)) .inr⟩
    · simp only [List.mem_append, List.mem_cons, List.not_mem_nil, or_false, or_assoc]
theorem sort_map {f : Nat → D} (h1 : ∀ a b, ltD (f a) (f b) = decide (a < b)) (m : List Nat) : (m.map f).mergeSort leD = (m.mergeSort fun a b => decide (a ≤ b)).map f := by
  rw [List.map_mergeSort]
  intro a _ b _
  simp only [leD, h1]
  rw [Bool.eq_iff_iff]; simp
theorem msort_asc {m : List Nat} (h : m.Nodup) : (m.mergeSort fun a b => decide (a ≤ b)).Pairwise (· < ·) := by
  have s := List.pairwise_mergeSort (le := fun a b : Nat => decide (a ≤ b)) (fun a b c h1 h2 => by simp at *; omega) (fun a b => by simp; omega) m
  have n : (m.mergeSort fun a b => decide (a ≤ b)).Nodup := (List.mergeSort_perm m _).nodup_iff.mpr h
  refine List.Pairwise.imp₂ (fun a b h1 h2 => ?_) s n
  simp at h1; omega
@[simp] theorem leD_ch {a b : Nat} : ltD (chD a) (chD b) = decide (a < b) := by
  simp only [ltD]
  rw [Bool.eq_iff_iff, decide_eq_true_eq, decide_eq_true_eq, List.cons_lt_cons_iff]
  simp
@[simp] theorem leD_n {a b : Nat} : ltD (nD a) (nD b) = decide (a < b) := by
  simp only [ltD]
  rw [Bool.eq_iff_iff]; simp
theorem sortOk_ch {m : List Nat} (h : ∀ c ∈ m, c < 1114112) : sortOk (m.map chD) = true := by
  simp only [sortOk, Bool.and_eq_true, Bool.or_eq_true, List.all_eq_true, List.mem_map]
  refine ⟨?_, .inr ?_⟩
  · rintro _ ⟨c, hc, rfl⟩
    refine ⟨by simp [dat, datN, h c hc], ?_⟩
    rintro _ ⟨e, he, rfl⟩; rfl
  · rintro _ ⟨c, hc, rfl⟩; rfl
theorem sortOk_n {m : List Nat} : sortOk (m.map nD) = true := by
  simp only [sortOk, Bool.and_eq_true, Bool.or_eq_true, List.all_eq_true, List.mem_map]
  refine ⟨?_, .inr ?_⟩
  · rintro _ ⟨c, hc, rfl⟩
    refine ⟨rfl, ?_⟩
    rintro _ ⟨e, he, rfl⟩; rfl
  · rintro _ ⟨c, hc, rfl⟩; rfl
theorem setX_ch {m : Bool} {s : St} {w : List Nat} (h : ∀ c ∈ w, c < 128) (hl : w.length < 4000) : setX m (some (w.map chD)) s = alloc m ((uniq w).map chD) s := by
  obtain ⟨u, e, n, k⟩ := nub_map (f := chD) (fun a b => by simp [eqD]) w
  have e2 : (u.mergeSort fun a b => decide (a ≤ b)) = uniq w := asc_ext (msort_asc n) (uniq_asc w) fun x => by rw [List.mem_mergeSort, k, mem_uniq h]
  simp only [setX]
  rw [if_pos ⟨by simp [keyD], by simpa using hl⟩, e]
  simp only [sortD, sortOk_ch fun c hc => Nat.lt_trans (h c ((k c).mp hc)) (by decide), if_true, sort_map (f := chD) (fun a b => leD_ch), e2]
theorem sortD_ch {m : List Nat} (h : ∀ c ∈ m, c < 128) (n : m.Nodup) : sortD (m.map chD) = some ((uniq m).map chD) := by
  have e2 : (m.mergeSort fun a b => decide (a ≤ b)) = uniq m := asc_ext (msort_asc n) (uniq_asc m) fun x => by rw [List.mem_mergeSort, mem_uniq h]
  simp only [sortD, sortOk_ch fun c hc => Nat.lt_trans (h c hc) (by decide), if_true, sort_map (f := chD) (fun a b => leD_ch), e2]
theorem map_at {β : Type} {f : β → D} {l : List β} {k : Nat} {x : D} (h : (l.map f)[k]? = some x) : ∃ (hk : k < l.length), x = f l[k] := by
  rw [List.getElem?_map, Option.map_eq_some_iff] at h
  obtain ⟨b, h1, rfl⟩ := h
  obtain ⟨h2, h3⟩ := List.getElem?_eq_some_iff.mp h1
  exact ⟨h2, by rw [h3]⟩
theorem nD_inj {a b : Nat} : (nD a = nD b) = (a = b) := by
  apply propext; simp only [D.int.injEq]; omega
theorem asc_len {w p : List Nat} (h : w.Pairwise (· < ·)) (k : ∀ c ∈ w, c ∈ p) : w.length ≤ p.length := by
  have := List.Nodup.length_le_of_subset (nodup_of_asc h) k
  exact this
end EV
set_option linter.all false
set_option maxRecDepth 100000
namespace EV
open PySem (Operator CmpOp)
theorem digCore_len (b : Nat) : ∀ (fuel n : Nat) (acc : List Char), (Nat.toDigitsCore b fuel n acc).length ≤ fuel + acc.length
  | 0, n, acc => by simp [Nat.toDigitsCore]
  | fuel + 1, n, acc => by
    unfold Nat.toDigitsCore
    dsimp only
    split
    · simp; omega
    · have := digCore_len b fuel (n / b) (Nat.digitChar (n % b) :: acc)
      simp only [List.length_cons] at this
      omega
theorem digL_len (n : Nat) : (digL n).length ≤ n + 1 := by
  unfold digL
  rw [List.length_map]
  exact digCore_len 10 (n + 1) n []
theorem intL_len (i : Int) : (intL i).length ≤ i.natAbs + 2 := by
  cases i with
  | ofNat n => have := digL_len n; simp only [intL, Int.natAbs]; omega
  | negSucc n => have := digL_len (n + 1); simp only [intL, Int.natAbs, List.length_cons]; omega
mutual
def rok : Nat → D → Bool
  | n, .non => decide (4 ≤ n)
  | n, .bl _ => decide (5 ≤ n)
  | n, .int i => decide (i.natAbs + 2 ≤ n) && decide (i.natAbs < 10 ^ 60)
  | n, .str s => decide (s.length + 2 ≤ n) && s.all fun c => (32 ≤ c && c ≤ 126 && c != 39 && c != 92)
  | _, _ => false
end
theorem reprs_len : ∀ {xs : List D} {m : Nat}, (∀ x ∈ xs, ∃ t, reprD x = some t ∧ t.length ≤ m) → ∃ ts, reprDs xs = some ts ∧ (joinL [44, 32] ts).length ≤ xs.length * (m + 2) ∧ ts.length = xs.length
  | [], m, _ => ⟨[], rfl, by simp [joinL], rfl⟩
  | x :: xs, m, h => by
    obtain ⟨t, e, l⟩ := h x List.mem_cons_self
    obtain ⟨ts, e2, l2, l3⟩ := reprs_len fun y hy => h y (List.mem_cons_of_mem _ hy)
    refine ⟨t :: ts, by simp only [reprDs, e, e2], ?_, by simp [l3]⟩
    have : (xs.length + 1) * (m + 2) = xs.length * (m + 2) + (m + 2) := Nat.succ_mul _ _
    cases ts with
    | nil => simp only [joinL, List.length_cons]; omega
    | cons t2 ts => simp only [joinL, List.length_append, List.length_cons, List.length_nil]; simp only [List.length_cons] at l3; omega
def Rp (d : D) (m : Nat) : Prop := ∃ t, reprD d = some t ∧ t.length ≤ m
theorem Rp.mono {d : D} {m n : Nat} (h : Rp d m) (k : m ≤ n) : Rp d n := let ⟨t, e, l⟩ := h; ⟨t, e, by omega⟩
theorem rp_int {i : Int} (h : i.natAbs < 10 ^ 60) : Rp (.int i) (i.natAbs + 2) := ⟨intL i, by simp [reprD, h], intL_len i⟩
theorem rp_nat {k m : Nat} (h : k ≤ m) (hm : m ≤ 1000) : Rp (nD k) (m + 2) := (rp_int (by simp; omega)).mono (by simp; omega)
theorem rp_bl {b : Bool} : Rp (.bl b) 5 := by cases b <;> exact ⟨_, rfl, by decide⟩
theorem rp_non : Rp .non 4 := ⟨_, rfl, by decide⟩
theorem rp_str {s : List Nat} (h : ∀ c ∈ s, 32 ≤ c ∧ c ≤ 126 ∧ c ≠ 39 ∧ c ≠ 92) : Rp (.str s) (s.length + 2) := by
  refine ⟨39 :: s ++ [39], ?_, by simp⟩
  simp only [reprD]
  rw [if_pos]
  simp only [List.all_eq_true, Bool.and_eq_true, decide_eq_true_eq, bne_iff_ne, ne_eq]
  exact fun c hc => by have := h c hc; exact ⟨⟨⟨this.1, this.2.1⟩, this.2.2.1⟩, this.2.2.2⟩
theorem rp_tup {xs : List D} {m : Nat} (h : ∀ x ∈ xs, Rp x m) : Rp (.tup xs) (xs.length * (m + 2) + 3) := by
  obtain ⟨ts, e, l, l2⟩ := reprs_len h
  refine ⟨40 :: joinL [44, 32] ts ++ (if ts.length == 1 then [44, 41] else [41]), by simp only [reprD, e, Option.map_some], ?_⟩
  simp only [List.cons_append, List.length_cons, List.length_append]
  split <;> simp <;> omega
theorem rp_lst {xs : List D} {m : Nat} (h : ∀ x ∈ xs, Rp x m) : Rp (.lst xs) (xs.length * (m + 2) + 3) := by
  obtain ⟨ts, e, l, l2⟩ := reprs_len h
  refine ⟨91 :: joinL [44, 32] ts ++ [93], by simp only [reprD, e, Option.map_some], ?_⟩
  simp only [List.cons_append, List.length_cons, List.length_append, List.length_nil]
  omega
theorem repr_ok {d : D} {m : Nat} (h : Rp d m) (hm : m ≤ line) (hd : dat d = true) : ∃ t, biD .repr [d] = some (.str t) := by
  obtain ⟨t, e, l⟩ := h
  refine ⟨t, ?_⟩
  simp only [biD, hd, if_true, e, Option.bind_some]
  rw [if_pos (by omega)]
theorem datN_nat {n : Nat} {k : Nat} : datN n (nD k) = true := by cases n <;> rfl
theorem datN_str {n : Nat} {s : List Nat} (h : ∀ c ∈ s, c < 1114112) : datN n (.str s) = true := by cases n <;> simpa [datN] using h
theorem datN_tup {n : Nat} {xs : List D} (h : ∀ x ∈ xs, datN n x = true) : datN (n + 1) (.tup xs) = true := by simpa [datN] using h
theorem datN_lst {n : Nat} {xs : List D} (h : ∀ x ∈ xs, datN n x = true) : datN (n + 1) (.lst xs) = true := by simpa [datN] using h
end EV
namespace EV
open PySem (Operator CmpOp)
set_option maxHeartbeats 4000000
def F_Lots___bool__ : Nat := 0
def F_Lots___eq__ : Nat := 1
def F_Lots___init__ : Nat := 2
def F_Lots___len__ : Nat := 3
def F_Lots___str__ : Nat := 4
def F_Lots_lots : Nat := 5
def F_Lots_things : Nat := 6
def F_check_lots : Nat := 7
def F_check_words : Nat := 8
def F_common : Nat := 9
def F_first_place : Nat := 10
def F_is_free : Nat := 11
def F_is_lot : Nat := 12
def F_is_rising : Nat := 13
def F_law_bag : Nat := 14
def F_law_letters : Nat := 15
def F_law_lot : Nat := 16
def F_law_of : Nat := 17
def F_law_right_v26 : Nat := 18
def F_law_shared : Nat := 19
def F_law_steps : Nat := 20
def F_law_take : Nat := 21
def F_law_v26 : Nat := 22
def F_law_words_v2 : Nat := 23
def F_less : Nat := 24
def F_lowest : Nat := 25
def F_mixed : Nat := 26
def F_over : Nat := 27
def F_product : Nat := 28
def F_rank : Nat := 29
def F_reduced : Nat := 30
def F_row_of : Nat := 31
def F_things_in : Nat := 32
def C_InvalidLots : Nat := 0
def C_Lots : Nat := 1
def C_NotLots : Nat := 2
def C_WrongValue : Nat := 3
def A_words : Nat := 0
def A_letters : Nat := 1
def A_things : Nat := 2
def A_lots : Nat := 3
def A_index : Nat := 4
def A_given : Nat := 5
def V_MOST_LOTS : Nat := 0
def D_MOST_LOTS : D := (.int 9)
def V_MOST_THINGS : Nat := 1
def D_MOST_THINGS : D := (.int 8)
def V_LETTERS : Nat := 2
def D_LETTERS : D := (.str [97, 98, 99, 100, 101, 102, 103, 104, 105, 106, 107, 108, 109, 110, 111, 112, 113, 114, 115, 116, 117, 118, 119, 120, 121, 122])
abbrev S_Lots___bool___1 : C := .ret (.con (.bl true))
def R_Lots___bool__ : FnR := ⟨1, 1, S_Lots___bool___1, true⟩
abbrev S_Lots___eq___1 : C := .ret (.and (.isi (.var 1) (.cls C_Lots)) (.one (.cmp .Eq (.atr (.var 0) A_words) (.atr (.var 1) A_words))))
def R_Lots___eq__ : FnR := ⟨2, 2, S_Lots___eq___1, true⟩
abbrev S_Lots___init___1 : C := .setf (.var 0) A_letters (.call F_things_in (.cons (.var 1) .nil) []) .done
abbrev S_Lots___init___2 : C := .setf (.var 0) A_words (.var 1) S_Lots___init___1
abbrev S_Lots___init___3 : C := .exp (.call F_check_words (.cons (.var 1) .nil) []) S_Lots___init___2
def R_Lots___init__ : FnR := ⟨2, 2, S_Lots___init___3, false⟩
abbrev S_Lots___len___1 : C := .ret (.bi .len (.cons (.atr (.var 0) A_words) .nil))
def R_Lots___len__ : FnR := ⟨1, 1, S_Lots___len___1, true⟩
abbrev S_Lots___str___1 : C := .ret (.bm false .join (.con (.str [32])) (.cons (.atr (.var 0) A_words) .nil))
def R_Lots___str__ : FnR := ⟨1, 1, S_Lots___str___1, true⟩
abbrev S_Lots_lots_1 : C := .ret (.atr (.var 0) A_words)
def R_Lots_lots : FnR := ⟨1, 1, S_Lots_lots_1, true⟩
abbrev S_Lots_things_1 : C := .ret (.atr (.var 0) A_letters)
def R_Lots_things : FnR := ⟨1, 1, S_Lots_things_1, true⟩
abbrev S_check_lots_1 : C := .raise (.mk C_NotLots (.cons (.var 0) .nil) [])
abbrev S_check_lots_2 : C := .ite (.not (.isi (.var 0) (.cls C_Lots))) S_check_lots_1 .done .done
def R_check_lots : FnR := ⟨1, 1, S_check_lots_2, true⟩
abbrev S_check_words_1 : C := .raise (.mk C_InvalidLots (.cons (.var 1) .nil) [])
abbrev S_check_words_2 : C := .ite (.or (.cmp .Eq (.var 1) (.glob V_MOST_LOTS D_MOST_LOTS)) (.or (.not (.call F_is_lot (.cons (.idx (.var 0) (.var 1)) .nil) [])) (.one (.cmp .Gt (.bi .len (.cons (.call F_things_in (.cons (.sl false 0 (.var 0) .nil (.bin false .Add (.var 1) (.con (.int 1)))) .nil) []) .nil)) (.glob V_MOST_THINGS D_MOST_THINGS))))) S_check_words_1 .done .done
abbrev S_check_words_3 : C := .for (.one 1) (.rng1 (.bi .len (.cons (.var 0) .nil))) S_check_words_2 .done
abbrev S_check_words_4 : C := .raise (.mk C_InvalidLots (.cons (.con .non) .nil) [])
abbrev S_check_words_5 : C := .ite (.or (.not (.isi (.var 0) .tuple)) (.one (.cmp .Eq (.var 0) (.tup .nil)))) S_check_words_4 .done S_check_words_3
def R_check_words : FnR := ⟨1, 2, S_check_words_5, true⟩
abbrev S_common_1 : C := .ret (.bi .abs (.cons (.var 0) .nil))
abbrev S_common_2 : C := .asg (.tup [0, 1]) (.tup (.cons (.var 1) (.cons (.bin false .Mod (.var 0) (.var 1)) .nil))) .done
abbrev S_common_3 : C := .whl (.cmp .NotEq (.var 1) (.con (.int 0))) S_common_2 S_common_1
def R_common : FnR := ⟨2, 2, S_common_3, true⟩
abbrev S_first_place_1 : C := .ret (.con .non)
abbrev S_first_place_2 : C := .ret (.var 2)
abbrev S_first_place_3 : C := .ite (.cmp .NotEq (.idx (.idx (.var 0) (.var 2)) (.con (.int 0))) (.con (.int 0))) S_first_place_2 .done .done
abbrev S_first_place_4 : C := .for (.one 2) (.rng1 (.var 1)) S_first_place_3 S_first_place_1
def R_first_place : FnR := ⟨2, 3, S_first_place_4, true⟩
abbrev S_is_free_1 : C := .ret (.cmp .Eq (.idx (.call F_reduced (.cons (.var 0) .nil) []) (.con (.int 1))) (.lst false .nil))
abbrev S_is_free_2 : C := .exp (.call F_check_lots (.cons (.var 0) .nil) []) S_is_free_1
def R_is_free : FnR := ⟨1, 1, S_is_free_2, true⟩
abbrev S_is_lot_1 : C := .ret (.and (.call F_is_rising (.cons (.var 0) .nil) []) (.one (.cmp .LtE (.bi .len (.cons (.var 0) .nil)) (.glob V_MOST_THINGS D_MOST_THINGS))))
def R_is_lot : FnR := ⟨1, 1, S_is_lot_1, true⟩
def E_is_rising_1 : E := .comp false (.one 1) (.rng1 (.bin false .Sub (.bi .len (.cons (.var 0) .nil)) (.con (.int 1)))) (.con (.bl true)) (.cmp .Lt (.idx (.var 0) (.var 1)) (.idx (.var 0) (.bin false .Add (.var 1) (.con (.int 1)))))
abbrev S_is_rising_1 : C := .ret (.bi .all (.cons E_is_rising_1 .nil))
def E_is_rising_2 : E := .comp false (.one 2) (.iv (.var 0)) (.con (.bl true)) (.cmp .In (.var 2) (.glob V_LETTERS D_LETTERS))
abbrev S_is_rising_2 : C := .ret (.con (.bl false))
abbrev S_is_rising_3 : C := .ite (.or (.not (.isi (.var 0) .str)) (.or (.cmp .Eq (.var 0) (.con (.str []))) (.one (.not (.bi .all (.cons E_is_rising_2 .nil)))))) S_is_rising_2 .done S_is_rising_1
def R_is_rising : FnR := ⟨1, 3, S_is_rising_3, true⟩
abbrev S_law_bag_1 : C := .ret (.lst true (.cons (.bin false .Mod (.bi .int (.cons (.var 2) .nil)) (.con (.int 2147483587))) (.cons (.ite (.or (.cmp .Lt (.var 2) (.con (.int 0))) (.one (.cmp .GtE (.var 2) (.bin false .Pow (.con (.int 10)) (.con (.int 18)))))) (.bi .abs (.cons (.var 2) .nil)) (.con (.int 0))) (.cons (.con (.int 0)) .nil))))
abbrev S_law_bag_2 : C := .asg (.one 2) (.bin false .Mod (.bi .int (.cons (.bin false .Add (.bin false .Mult (.var 2) (.con (.int 37))) (.var 3)) .nil)) (.con (.int 2147483587))) .done
abbrev S_law_bag_3 : C := .for (.one 3) (.iv (.ite (.cmp .GtE (.var 1) (.bi .len (.cons (.var 0) .nil))) (.sl false 0 (.var 0) .nil (.con (.int 3))) (.lst false .nil))) S_law_bag_2 S_law_bag_1
abbrev S_law_bag_4 : C := .asg (.one 2) (.ite (.cmp .Lt (.var 1) (.bi .len (.cons (.var 0) .nil))) (.idx (.var 0) (.var 1)) (.bin false .Add (.bin false .Mult (.con (.int 6151)) (.var 1)) (.con (.int 98317)))) S_law_bag_3
def R_law_bag : FnR := ⟨2, 4, S_law_bag_4, false⟩
abbrev S_law_letters_1 : C := .ret (.sl false 0 (.call F_law_of (.cons (.var 0) (.cons (.lst false (.cons (.con (.str [97, 98, 99, 100, 101, 102, 103, 104])) (.cons (.con (.str [97, 98, 99, 100, 101, 102, 103, 104])) (.cons (.con (.str [98, 100, 103, 104, 107, 112, 113, 122])) (.cons (.con (.str [104, 105, 106, 107, 108, 109, 110, 111])) (.cons (.con (.str [97, 99, 102, 109, 116, 118, 120, 122])) .nil)))))) .nil)) []) .nil (.bin false .Add (.con (.int 1)) (.call F_law_take (.cons (.var 0) (.cons (.var 1) .nil)) [])))
def R_law_letters : FnR := ⟨2, 2, S_law_letters_1, true⟩
abbrev S_law_lot_1 : C := .ret (.ite (.cmp .NotEq (.var 2) (.con (.str []))) (.var 2) (.call F_law_of (.cons (.var 0) (.cons (.var 1) .nil)) []))
def E_law_lot_1 : E := .comp false (.one 3) (.iv (.var 1)) (.cmp .Eq (.call F_law_take (.cons (.var 0) (.cons (.con (.int 3)) .nil)) []) (.con (.int 0))) (.var 3)
abbrev S_law_lot_2 : C := .asg (.one 2) (.bm false .join (.con (.str [])) (.cons E_law_lot_1 .nil)) S_law_lot_1
def R_law_lot : FnR := ⟨2, 4, S_law_lot_2, true⟩
abbrev S_law_of_1 : C := .ret (.idx (.var 1) (.call F_law_take (.cons (.var 0) (.cons (.bi .len (.cons (.var 1) .nil)) .nil)) []))
def R_law_of : FnR := ⟨2, 2, S_law_of_1, true⟩
abbrev S_law_right_v26_1 : C := .ret (.con (.bl true))
abbrev S_law_right_v26_2 : C := .asg (.one 3) (.var 7) .done
abbrev S_law_right_v26_3 : C := .ret (.con (.bl false))
abbrev S_law_right_v26_4 : C := .ite (.cmp .NotEq (.call F_rank (.cons (.mk C_Lots (.cons (.sl false 1 (.sl false 0 (.var 2) .nil (.var 4)) .nil .nil) .nil) []) .nil) []) (.var 7)) S_law_right_v26_3 .done S_law_right_v26_2
abbrev S_law_right_v26_5 : C := .ret (.con (.bl false))
abbrev S_law_right_v26_6 : C := .ite (.or (.not (.cmp2 .LtE .LtE (.var 3) (.var 7) (.bin false .Add (.var 3) (.con (.int 1))))) (.one (.cmp .Gt (.var 7) (.bi .len (.cons (.atr (.var 6) A_things) .nil))))) S_law_right_v26_5 .done S_law_right_v26_4
abbrev S_law_right_v26_7 : C := .ret (.con (.bl false))
abbrev S_law_right_v26_8 : C := .ite (.cmp .NotEq (.bi .repr (.cons (.lst false (.cons (.call F_is_free (.cons (.var 6) .nil) []) (.cons (.call F_is_free (.cons (.var 6) .nil) [0]) .nil))) .nil)) (.bi .repr (.cons (.lst false (.cons (.var 5) (.cons (.var 5) .nil))) .nil))) S_law_right_v26_7 .done S_law_right_v26_6
abbrev S_law_right_v26_9 : C := .asg (.one 5) (.cmp .Eq (.var 7) (.var 4)) S_law_right_v26_8
abbrev S_law_right_v26_10 : C := .ret (.con (.bl false))
abbrev S_law_right_v26_11 : C := .ite (.cmp .NotEq (.bi .repr (.cons (.lst false (.cons (.call F_rank (.cons (.var 6) .nil) []) (.cons (.call F_rank (.cons (.var 6) .nil) [0]) .nil))) .nil)) (.bi .repr (.cons (.lst false (.cons (.var 7) (.cons (.var 7) .nil))) .nil))) S_law_right_v26_10 .done S_law_right_v26_9
abbrev S_law_right_v26_12 : C := .asg (.tup [6, 7]) (.tup (.cons (.mk C_Lots (.cons (.sl false 0 (.var 2) .nil (.var 4)) .nil) []) (.cons (.bi .len (.cons (.idx (.call F_law_steps (.cons (.sl false 0 (.var 2) .nil (.var 4)) .nil) []) (.con (.int 0))) .nil)) .nil))) S_law_right_v26_11
abbrev S_law_right_v26_13 : C := .for (.one 4) (.rng2 (.con (.int 1)) (.bin false .Add (.bi .len (.cons (.var 2) .nil)) (.con (.int 1)))) S_law_right_v26_12 .done
abbrev S_law_right_v26_14 : C := .asg (.one 3) (.con (.int 0)) S_law_right_v26_13
abbrev S_law_right_v26_15 : C := .asg (.one 2) (.call F_law_words_v2 (.cons (.var 0) (.cons (.con (.int 8)) (.cons (.con (.int 8)) .nil))) []) S_law_right_v26_14
abbrev S_law_right_v26_16 : C := .for (.one 1) (.rng1 (.con (.int 6))) S_law_right_v26_15 S_law_right_v26_1
def R_law_right_v26 : FnR := ⟨1, 8, S_law_right_v26_16, true⟩
abbrev S_law_shared_1 : C := .ret (.var 1)
abbrev S_law_shared_2 : C := .asg (.one 1) (.var 4) .done
abbrev S_law_shared_3 : C := .asg (.tup [4, 5]) (.tup (.cons (.var 5) (.cons (.bin false .Mod (.bi .int (.cons (.var 4) .nil)) (.var 5)) .nil))) .done
abbrev S_law_shared_4 : C := .ite (.cmp .Eq (.var 5) (.con (.int 0))) .brk .done S_law_shared_3
abbrev S_law_shared_5 : C := .for (.one 3) (.rng1 (.con (.int 400))) S_law_shared_4 S_law_shared_2
abbrev S_law_shared_6 : C := .asg (.tup [4, 5]) (.tup (.cons (.bi .abs (.cons (.var 2) .nil)) (.cons (.var 1) .nil))) S_law_shared_5
abbrev S_law_shared_7 : C := .for (.one 2) (.iv (.var 0)) S_law_shared_6 S_law_shared_1
abbrev S_law_shared_8 : C := .asg (.one 1) (.con (.int 0)) S_law_shared_7
def R_law_shared : FnR := ⟨1, 6, S_law_shared_8, true⟩
abbrev S_law_steps_1 : C := .ret (.tup (.cons (.var 3) (.cons (.var 4) .nil)))
abbrev S_law_steps_2 : C := .exp (.bm false .append (.var 4) (.cons (.sl false 0 (.var 5) (.bi .len (.cons (.var 2) .nil)) .nil) .nil)) .done
abbrev S_law_steps_3 : C := .exp (.bm false .append (.var 3) (.cons (.tup (.cons (.idx (.var 6) (.con (.int 0))) (.cons (.var 5) .nil))) .nil)) .done
abbrev S_law_steps_4 : C := .ite (.cmp .Eq (.var 6) (.lst false .nil)) S_law_steps_2 S_law_steps_3 .done
def E_law_steps_1 : E := .comp false (.one 12) (.rng1 (.bi .len (.cons (.var 2) .nil))) (.cmp .NotEq (.idx (.var 5) (.var 12)) (.con (.int 0))) (.var 12)
abbrev S_law_steps_5 : C := .asg (.one 6) E_law_steps_1 S_law_steps_4
def E_law_steps_2 : E := .comp false (.one 14) (.iv (.var 5)) (.con (.bl true)) (.bin false .FloorDiv (.var 14) (.var 9))
abbrev S_law_steps_6 : C := .asg (.one 5) E_law_steps_2 .done
abbrev S_law_steps_7 : C := .asg (.one 9) (.call F_law_shared (.cons (.var 5) .nil) []) S_law_steps_6
def E_law_steps_3 : E := .comp false (.one 12) (.rng1 (.bi .len (.cons (.var 5) .nil))) (.con (.bl true)) (.bin false .Sub (.bin false .Mult (.var 10) (.idx (.var 5) (.var 12))) (.bin false .Mult (.var 11) (.idx (.var 8) (.var 12))))
abbrev S_law_steps_8 : C := .asg (.one 5) E_law_steps_3 S_law_steps_7
abbrev S_law_steps_9 : C := .asg (.tup [10, 11]) (.tup (.cons (.idx (.var 8) (.var 7)) (.cons (.idx (.var 5) (.var 7)) .nil))) S_law_steps_8
abbrev S_law_steps_10 : C := .for (.tup [7, 8]) (.iv (.var 3)) S_law_steps_9 S_law_steps_5
def E_law_steps_4 : E := .comp false (.one 13) (.iv (.var 2)) (.con (.bl true)) (.bi .int (.cons (.cmp .In (.var 13) (.idx (.var 0) (.var 1))) .nil))
def E_law_steps_5 : E := .comp false (.one 12) (.rng1 (.bi .len (.cons (.var 0) .nil))) (.con (.bl true)) (.bi .int (.cons (.cmp .Eq (.var 12) (.var 1)) .nil))
abbrev S_law_steps_11 : C := .asg (.one 5) (.bin false .Add E_law_steps_4 E_law_steps_5) S_law_steps_10
abbrev S_law_steps_12 : C := .for (.one 1) (.rng1 (.bi .len (.cons (.var 0) .nil))) S_law_steps_11 S_law_steps_1
abbrev S_law_steps_13 : C := .asg (.tup [2, 3, 4]) (.tup (.cons (.sortset false (.bm false .join (.con (.str [])) (.cons (.var 0) .nil))) (.cons (.lst true .nil) (.cons (.lst true .nil) .nil)))) S_law_steps_12
def R_law_steps : FnR := ⟨1, 15, S_law_steps_13, true⟩
abbrev S_law_take_1 : C := .ret (.bin false .Mod (.bi .int (.cons (.bin false .FloorDiv (.idx (.var 0) (.con (.int 0))) (.con (.int 512))) .nil)) (.var 1))
abbrev S_law_take_2 : C := .ret (.var 4)
abbrev S_law_take_3 : C := .setit 0 (.con (.int 1)) 4 (.divmod (.idx (.var 0) (.con (.int 1))) (.var 1)) S_law_take_2
abbrev S_law_take_4 : C := .ite (.cmp .Gt (.idx (.var 0) (.con (.int 1))) (.con (.int 0))) S_law_take_3 .done S_law_take_1
abbrev S_law_take_5 : C := .seti 0 (.con (.int 0)) (.bin false .Mod (.bi .int (.cons (.bin false .Add (.bin false .Add (.bin false .Add (.bin false .Mult (.var 2) (.con (.int 39373))) (.bin false .Mult (.var 3) (.var 3))) (.bin false .Mult (.con (.int 92821)) (.idx (.var 0) (.con (.int 2))))) (.con (.int 5))) .nil)) (.con (.int 2147483587))) S_law_take_4
abbrev S_law_take_6 : C := .asg (.one 3) (.bin false .FloorDiv (.var 2) (.con (.int 4093))) S_law_take_5
abbrev S_law_take_7 : C := .asg (.one 2) (.bi .int (.cons (.idx (.var 0) (.con (.int 0))) .nil)) S_law_take_6
abbrev S_law_take_8 : C := .seti 0 (.con (.int 2)) (.bin false .Add (.idx (.var 0) (.con (.int 2))) (.con (.int 1))) S_law_take_7
def R_law_take : FnR := ⟨2, 5, S_law_take_8, true⟩
def E_law_v26_1 : E := .comp false (.one 4) (.rng1 (.bi .max2 (.cons (.con (.int 2)) (.cons (.bi .min2 (.cons (.bi .len (.cons (.var 0) .nil)) (.cons (.con (.int 6)) .nil))) .nil)))) (.con (.bl true)) (.call F_law_right_v26 (.cons (.call F_law_bag (.cons (.var 0) (.cons (.var 4) .nil)) []) .nil) [])
abbrev S_law_v26_1 : C := .ret (.bi .all (.cons E_law_v26_1 .nil))
abbrev S_law_v26_2 : C := .ret (.con (.bl false))
abbrev S_law_v26_3 : C := .ite (.cmp .NotEq (.bi .repr (.cons (.var 2) .nil)) (.bi .repr (.cons (.lst false (.cons (.lst false (.cons (.con (.int 3)) (.cons (.con (.bl false)) .nil))) (.cons (.lst false (.cons (.con (.int 2)) (.cons (.con (.bl false)) .nil))) (.cons (.lst false (.cons (.con (.int 3)) (.cons (.con (.bl true)) .nil))) (.cons (.lst false (.cons (.con (.int 1)) (.cons (.con (.bl false)) .nil))) (.cons (.lst false (.cons (.con (.int 3)) (.cons (.con (.bl true)) .nil))) .nil)))))) .nil))) S_law_v26_2 .done S_law_v26_1
def E_law_v26_2 : E := .comp false (.one 3) (.iv (.var 1)) (.con (.bl true)) (.lst false (.cons (.call F_rank (.cons (.mk C_Lots (.cons (.var 3) .nil) []) .nil) []) (.cons (.call F_is_free (.cons (.mk C_Lots (.cons (.var 3) .nil) []) .nil) []) .nil)))
abbrev S_law_v26_4 : C := .asg (.one 2) E_law_v26_2 S_law_v26_3
abbrev S_law_v26_5 : C := .asg (.one 1) (.bin false .Add (.var 1) (.lst false (.cons (.bin false .Mult (.tup (.cons (.con (.str [97, 98, 99, 100, 101, 102, 103, 104])) .nil)) (.con (.int 9))) (.cons (.tup (.cons (.con (.str [97, 98])) (.cons (.con (.str [98, 99])) (.cons (.con (.str [97, 98, 99])) .nil)))) .nil)))) S_law_v26_4
abbrev S_law_v26_6 : C := .asg (.one 1) (.lst false (.cons (.tup (.cons (.con (.str [97, 98])) (.cons (.con (.str [99, 100])) (.cons (.con (.str [97, 99])) (.cons (.con (.str [98, 100])) .nil))))) (.cons (.tup (.cons (.con (.str [97])) (.cons (.con (.str [97])) (.cons (.con (.str [98])) (.cons (.con (.str [98])) (.cons (.con (.str [97, 98])) .nil)))))) (.cons (.tup (.cons (.con (.str [97, 98])) (.cons (.con (.str [97, 99])) (.cons (.con (.str [98, 99])) .nil)))) .nil)))) S_law_v26_5
def R_law_v26 : FnR := ⟨1, 5, S_law_v26_6, true⟩
abbrev S_law_words_v2_1 : C := .ret (.tupOf (.var 5))
abbrev S_law_words_v2_2 : C := .exp (.bm false .append (.var 5) (.cons (.call F_law_of (.cons (.var 0) (.cons (.var 5) .nil)) []) .nil)) .done
abbrev S_law_words_v2_3 : C := .exp (.bm false .append (.var 5) (.cons (.bm false .join (.con (.str [])) (.cons (.sortset false (.lst false (.cons (.call F_law_of (.cons (.var 0) (.cons (.var 4) .nil)) []) (.cons (.call F_law_of (.cons (.var 0) (.cons (.var 4) .nil)) []) .nil)))) .nil)) .nil)) .done
abbrev S_law_words_v2_4 : C := .exp (.bm false .append (.var 5) (.cons (.call F_law_lot (.cons (.var 0) (.cons (.var 4) .nil)) []) .nil)) .done
abbrev S_law_words_v2_5 : C := .ite (.cmp .Lt (.var 6) (.con (.int 3))) S_law_words_v2_3 S_law_words_v2_4 .done
abbrev S_law_words_v2_6 : C := .ite (.and (.cmp .Eq (.var 6) (.con (.int 0))) (.one (.cmp .NotEq (.var 5) (.lst false .nil)))) S_law_words_v2_2 S_law_words_v2_5 .done
abbrev S_law_words_v2_7 : C := .asg (.one 6) (.call F_law_take (.cons (.var 0) (.cons (.con (.int 7)) .nil)) []) S_law_words_v2_6
abbrev S_law_words_v2_8 : C := .for (.one 3) (.rng1 (.bin false .Add (.con (.int 1)) (.call F_law_take (.cons (.var 0) (.cons (.var 1) .nil)) []))) S_law_words_v2_7 S_law_words_v2_1
abbrev S_law_words_v2_9 : C := .asg (.tup [4, 5]) (.tup (.cons (.call F_law_letters (.cons (.var 0) (.cons (.var 2) .nil)) []) (.cons (.lst true .nil) .nil))) S_law_words_v2_8
def R_law_words_v2 : FnR := ⟨3, 7, S_law_words_v2_9, true⟩
abbrev S_less_1 : C := .ret (.call F_lowest (.cons (.bin false .Sub (.bin false .Mult (.idx (.var 0) (.con (.int 0))) (.idx (.var 1) (.con (.int 1)))) (.bin false .Mult (.idx (.var 1) (.con (.int 0))) (.idx (.var 0) (.con (.int 1))))) (.cons (.bin false .Mult (.idx (.var 0) (.con (.int 1))) (.idx (.var 1) (.con (.int 1)))) .nil)) [])
def R_less : FnR := ⟨2, 2, S_less_1, true⟩
abbrev S_lowest_1 : C := .ret (.tup (.cons (.bin false .FloorDiv (.var 0) (.var 2)) (.cons (.bin false .FloorDiv (.var 1) (.var 2)) .nil)))
abbrev S_lowest_2 : C := .asg (.one 2) (.neg (.var 2)) .done
abbrev S_lowest_3 : C := .ite (.cmp .Lt (.var 1) (.con (.int 0))) S_lowest_2 .done S_lowest_1
abbrev S_lowest_4 : C := .asg (.one 2) (.call F_common (.cons (.var 0) (.cons (.var 1) .nil)) []) S_lowest_3
def R_lowest : FnR := ⟨2, 3, S_lowest_4, true⟩
def E_mixed_1 : E := .comp false (.tup [3, 4]) (.zip (.var 0) (.var 1)) (.con (.bl true)) (.call F_less (.cons (.var 3) (.cons (.call F_product (.cons (.var 2) (.cons (.var 4) .nil)) []) .nil)) [])
abbrev S_mixed_1 : C := .ret E_mixed_1
def R_mixed : FnR := ⟨3, 5, S_mixed_1, true⟩
abbrev S_over_1 : C := .ret (.call F_lowest (.cons (.bin false .Mult (.idx (.var 0) (.con (.int 0))) (.idx (.var 1) (.con (.int 1)))) (.cons (.bin false .Mult (.idx (.var 0) (.con (.int 1))) (.idx (.var 1) (.con (.int 0)))) .nil)) [])
def R_over : FnR := ⟨2, 2, S_over_1, true⟩
abbrev S_product_1 : C := .ret (.call F_lowest (.cons (.bin false .Mult (.idx (.var 0) (.con (.int 0))) (.idx (.var 1) (.con (.int 0)))) (.cons (.bin false .Mult (.idx (.var 0) (.con (.int 1))) (.idx (.var 1) (.con (.int 1)))) .nil)) [])
def R_product : FnR := ⟨2, 2, S_product_1, true⟩
abbrev S_rank_1 : C := .ret (.bi .len (.cons (.idx (.call F_reduced (.cons (.var 0) .nil) []) (.con (.int 0))) .nil))
abbrev S_rank_2 : C := .exp (.call F_check_lots (.cons (.var 0) .nil) []) S_rank_1
def R_rank : FnR := ⟨1, 1, S_rank_2, true⟩
abbrev S_reduced_1 : C := .ret (.tup (.cons (.var 3) (.cons (.var 4) .nil)))
abbrev S_reduced_2 : C := .exp (.bm false .append (.var 4) (.cons (.sl false 0 (.var 5) (.var 2) .nil) .nil)) .done
def E_reduced_1 : E := .comp false (.tup [10, 7]) (.iv (.var 3)) (.con (.bl true)) (.tup (.cons (.var 10) (.cons (.call F_mixed (.cons (.var 7) (.cons (.var 5) (.cons (.idx (.var 7) (.var 6)) .nil))) []) .nil)))
abbrev S_reduced_3 : C := .asg (.one 3) (.bin false .Add E_reduced_1 (.lst false (.cons (.tup (.cons (.var 6) (.cons (.var 5) .nil))) .nil))) .done
def E_reduced_2 : E := .comp false (.one 9) (.iv (.var 5)) (.con (.bl true)) (.call F_over (.cons (.var 9) (.cons (.var 8) .nil)) [])
abbrev S_reduced_4 : C := .asg (.one 5) E_reduced_2 S_reduced_3
abbrev S_reduced_5 : C := .asg (.one 8) (.idx (.var 5) (.var 6)) S_reduced_4
abbrev S_reduced_6 : C := .ite (.isn (.var 6) false) S_reduced_2 S_reduced_5 .done
abbrev S_reduced_7 : C := .asg (.one 6) (.call F_first_place (.cons (.var 5) (.cons (.var 2) .nil)) []) S_reduced_6
abbrev S_reduced_8 : C := .asg (.one 5) (.call F_mixed (.cons (.var 5) (.cons (.var 7) (.cons (.idx (.var 5) (.var 6)) .nil))) []) .done
abbrev S_reduced_9 : C := .for (.tup [6, 7]) (.iv (.var 3)) S_reduced_8 S_reduced_7
abbrev S_reduced_10 : C := .asg (.one 5) (.call F_row_of (.cons (.var 0) (.cons (.var 1) .nil)) []) S_reduced_9
abbrev S_reduced_11 : C := .for (.one 1) (.rng1 (.bi .len (.cons (.var 0) .nil))) S_reduced_10 S_reduced_1
abbrev S_reduced_12 : C := .asg (.tup [2, 3, 4]) (.tup (.cons (.bi .len (.cons (.atr (.var 0) A_things) .nil)) (.cons (.lst false .nil) (.cons (.lst true .nil) .nil)))) S_reduced_11
def R_reduced : FnR := ⟨1, 11, S_reduced_12, true⟩
def E_row_of_1 : E := .comp false (.one 3) (.iv (.atr (.var 0) A_things)) (.con (.bl true)) (.tup (.cons (.bi .int (.cons (.cmp .In (.var 3) (.var 2)) .nil)) (.cons (.con (.int 1)) .nil)))
def E_row_of_2 : E := .comp false (.one 4) (.rng1 (.bi .len (.cons (.var 0) .nil))) (.con (.bl true)) (.tup (.cons (.bi .int (.cons (.cmp .Eq (.var 4) (.var 1)) .nil)) (.cons (.con (.int 1)) .nil)))
abbrev S_row_of_1 : C := .ret (.bin false .Add E_row_of_1 E_row_of_2)
abbrev S_row_of_2 : C := .asg (.one 2) (.idx (.atr (.var 0) A_lots) (.var 1)) S_row_of_1
def R_row_of : FnR := ⟨2, 5, S_row_of_2, true⟩
abbrev S_things_in_1 : C := .ret (.bm false .join (.con (.str [])) (.cons (.sortset false (.bm false .join (.con (.str [])) (.cons (.var 0) .nil))) .nil))
def R_things_in : FnR := ⟨1, 1, S_things_in_1, true⟩
def fnL : List (Option FnR) := (some R_Lots___bool__ :: some R_Lots___eq__ :: some R_Lots___init__ :: some R_Lots___len__ :: some R_Lots___str__ :: some R_Lots_lots :: some R_Lots_things :: some R_check_lots :: some R_check_words :: some R_common :: some R_first_place :: some R_is_free :: some R_is_lot :: some R_is_rising :: some R_law_bag :: some R_law_letters :: some R_law_lot :: some R_law_of :: some R_law_right_v26 :: some R_law_shared :: some R_law_steps :: some R_law_take :: some R_law_v26 :: some R_law_words_v2 :: some R_less :: some R_lowest :: some R_mixed :: some R_over :: some R_product :: some R_rank :: some R_reduced :: some R_row_of :: some R_things_in :: [])
def K_InvalidLots : ClR := { frz := true, nf := 1, sup := [C_WrongValue], fld := [(A_index, 0)], prop := [], meth := [] }
def K_Lots : ClR := { frz := true, nf := 2, sup := [], fld := [(A_words, 0), (A_letters, 1)], prop := [(A_lots, F_Lots_lots), (A_things, F_Lots_things)], meth := [], init := some F_Lots___init__, lenF := some F_Lots___len__, boolF := some F_Lots___bool__, eqF := some F_Lots___eq__, strF := some F_Lots___str__ }
def K_NotLots : ClR := { frz := true, nf := 1, sup := [C_WrongValue], fld := [(A_given, 0)], prop := [], meth := [] }
def K_WrongValue : ClR := { frz := true, nf := 0, sup := [], fld := [], prop := [], meth := [] }
def clL : List (Option ClR) := [none, some K_Lots, none, none]
def G : Pg := ⟨fun n => fnL.getD n none, fun k => clL.getD k none⟩
theorem g_Lots___bool__ : G.fn F_Lots___bool__ = some R_Lots___bool__ := rfl
theorem in_Lots___bool__ {n : Nat} {s : St} {Q : D → St → Prop} {a0 : D} (h : WS (ex G (run G n) S_Lots___bool___1 [some a0] s) (fun _ s' => W (fin true s.length .non s') Q) (fun d s' => W (fin true s.length d s') Q) (fun _ _ => False) (fun _ _ => False)) : W (run G (n + 1) F_Lots___bool__ [a0] s) Q := run_W (r := R_Lots___bool__) g_Lots___bool__ rfl h
theorem g_Lots___eq__ : G.fn F_Lots___eq__ = some R_Lots___eq__ := rfl
theorem in_Lots___eq__ {n : Nat} {s : St} {Q : D → St → Prop} {a0 : D} {a1 : D} (h : WS (ex G (run G n) S_Lots___eq___1 [some a0, some a1] s) (fun _ s' => W (fin true s.length .non s') Q) (fun d s' => W (fin true s.length d s') Q) (fun _ _ => False) (fun _ _ => False)) : W (run G (n + 1) F_Lots___eq__ [a0, a1] s) Q := run_W (r := R_Lots___eq__) g_Lots___eq__ rfl h
theorem g_Lots___init__ : G.fn F_Lots___init__ = some R_Lots___init__ := rfl
theorem in_Lots___init__ {n : Nat} {s : St} {Q : D → St → Prop} {a0 : D} {a1 : D} (h : WS (ex G (run G n) S_Lots___init___3 [some a0, some a1] s) (fun _ s' => W (fin false s.length .non s') Q) (fun d s' => W (fin false s.length d s') Q) (fun _ _ => False) (fun _ _ => False)) : W (run G (n + 1) F_Lots___init__ [a0, a1] s) Q := run_W (r := R_Lots___init__) g_Lots___init__ rfl h
theorem g_Lots___len__ : G.fn F_Lots___len__ = some R_Lots___len__ := rfl
theorem in_Lots___len__ {n : Nat} {s : St} {Q : D → St → Prop} {a0 : D} (h : WS (ex G (run G n) S_Lots___len___1 [some a0] s) (fun _ s' => W (fin true s.length .non s') Q) (fun d s' => W (fin true s.length d s') Q) (fun _ _ => False) (fun _ _ => False)) : W (run G (n + 1) F_Lots___len__ [a0] s) Q := run_W (r := R_Lots___len__) g_Lots___len__ rfl h
theorem g_Lots___str__ : G.fn F_Lots___str__ = some R_Lots___str__ := rfl
theorem in_Lots___str__ {n : Nat} {s : St} {Q : D → St → Prop} {a0 : D} (h : WS (ex G (run G n) S_Lots___str___1 [some a0] s) (fun _ s' => W (fin true s.length .non s') Q) (fun d s' => W (fin true s.length d s') Q) (fun _ _ => False) (fun _ _ => False)) : W (run G (n + 1) F_Lots___str__ [a0] s) Q := run_W (r := R_Lots___str__) g_Lots___str__ rfl h
theorem g_Lots_lots : G.fn F_Lots_lots = some R_Lots_lots := rfl
theorem in_Lots_lots {n : Nat} {s : St} {Q : D → St → Prop} {a0 : D} (h : WS (ex G (run G n) S_Lots_lots_1 [some a0] s) (fun _ s' => W (fin true s.length .non s') Q) (fun d s' => W (fin true s.length d s') Q) (fun _ _ => False) (fun _ _ => False)) : W (run G (n + 1) F_Lots_lots [a0] s) Q := run_W (r := R_Lots_lots) g_Lots_lots rfl h
theorem g_Lots_things : G.fn F_Lots_things = some R_Lots_things := rfl
theorem in_Lots_things {n : Nat} {s : St} {Q : D → St → Prop} {a0 : D} (h : WS (ex G (run G n) S_Lots_things_1 [some a0] s) (fun _ s' => W (fin true s.length .non s') Q) (fun d s' => W (fin true s.length d s') Q) (fun _ _ => False) (fun _ _ => False)) : W (run G (n + 1) F_Lots_things [a0] s) Q := run_W (r := R_Lots_things) g_Lots_things rfl h
theorem g_check_lots : G.fn F_check_lots = some R_check_lots := rfl
theorem in_check_lots {n : Nat} {s : St} {Q : D → St → Prop} {a0 : D} (h : WS (ex G (run G n) S_check_lots_2 [some a0] s) (fun _ s' => W (fin true s.length .non s') Q) (fun d s' => W (fin true s.length d s') Q) (fun _ _ => False) (fun _ _ => False)) : W (run G (n + 1) F_check_lots [a0] s) Q := run_W (r := R_check_lots) g_check_lots rfl h
theorem g_check_words : G.fn F_check_words = some R_check_words := rfl
theorem in_check_words {n : Nat} {s : St} {Q : D → St → Prop} {a0 : D} (h : WS (ex G (run G n) S_check_words_5 [some a0, none] s) (fun _ s' => W (fin true s.length .non s') Q) (fun d s' => W (fin true s.length d s') Q) (fun _ _ => False) (fun _ _ => False)) : W (run G (n + 1) F_check_words [a0] s) Q := run_W (r := R_check_words) g_check_words rfl h
theorem g_common : G.fn F_common = some R_common := rfl
theorem in_common {n : Nat} {s : St} {Q : D → St → Prop} {a0 : D} {a1 : D} (h : WS (ex G (run G n) S_common_3 [some a0, some a1] s) (fun _ s' => W (fin true s.length .non s') Q) (fun d s' => W (fin true s.length d s') Q) (fun _ _ => False) (fun _ _ => False)) : W (run G (n + 1) F_common [a0, a1] s) Q := run_W (r := R_common) g_common rfl h
theorem g_first_place : G.fn F_first_place = some R_first_place := rfl
theorem in_first_place {n : Nat} {s : St} {Q : D → St → Prop} {a0 : D} {a1 : D} (h : WS (ex G (run G n) S_first_place_4 [some a0, some a1, none] s) (fun _ s' => W (fin true s.length .non s') Q) (fun d s' => W (fin true s.length d s') Q) (fun _ _ => False) (fun _ _ => False)) : W (run G (n + 1) F_first_place [a0, a1] s) Q := run_W (r := R_first_place) g_first_place rfl h
theorem g_is_free : G.fn F_is_free = some R_is_free := rfl
theorem in_is_free {n : Nat} {s : St} {Q : D → St → Prop} {a0 : D} (h : WS (ex G (run G n) S_is_free_2 [some a0] s) (fun _ s' => W (fin true s.length .non s') Q) (fun d s' => W (fin true s.length d s') Q) (fun _ _ => False) (fun _ _ => False)) : W (run G (n + 1) F_is_free [a0] s) Q := run_W (r := R_is_free) g_is_free rfl h
theorem g_is_lot : G.fn F_is_lot = some R_is_lot := rfl
theorem in_is_lot {n : Nat} {s : St} {Q : D → St → Prop} {a0 : D} (h : WS (ex G (run G n) S_is_lot_1 [some a0] s) (fun _ s' => W (fin true s.length .non s') Q) (fun d s' => W (fin true s.length d s') Q) (fun _ _ => False) (fun _ _ => False)) : W (run G (n + 1) F_is_lot [a0] s) Q := run_W (r := R_is_lot) g_is_lot rfl h
theorem g_is_rising : G.fn F_is_rising = some R_is_rising := rfl
theorem in_is_rising {n : Nat} {s : St} {Q : D → St → Prop} {a0 : D} (h : WS (ex G (run G n) S_is_rising_3 [some a0, none, none] s) (fun _ s' => W (fin true s.length .non s') Q) (fun d s' => W (fin true s.length d s') Q) (fun _ _ => False) (fun _ _ => False)) : W (run G (n + 1) F_is_rising [a0] s) Q := run_W (r := R_is_rising) g_is_rising rfl h
theorem g_law_bag : G.fn F_law_bag = some R_law_bag := rfl
theorem in_law_bag {n : Nat} {s : St} {Q : D → St → Prop} {a0 : D} {a1 : D} (h : WS (ex G (run G n) S_law_bag_4 [some a0, some a1, none, none] s) (fun _ s' => W (fin false s.length .non s') Q) (fun d s' => W (fin false s.length d s') Q) (fun _ _ => False) (fun _ _ => False)) : W (run G (n + 1) F_law_bag [a0, a1] s) Q := run_W (r := R_law_bag) g_law_bag rfl h
theorem g_law_letters : G.fn F_law_letters = some R_law_letters := rfl
theorem in_law_letters {n : Nat} {s : St} {Q : D → St → Prop} {a0 : D} {a1 : D} (h : WS (ex G (run G n) S_law_letters_1 [some a0, some a1] s) (fun _ s' => W (fin true s.length .non s') Q) (fun d s' => W (fin true s.length d s') Q) (fun _ _ => False) (fun _ _ => False)) : W (run G (n + 1) F_law_letters [a0, a1] s) Q := run_W (r := R_law_letters) g_law_letters rfl h
theorem g_law_lot : G.fn F_law_lot = some R_law_lot := rfl
theorem in_law_lot {n : Nat} {s : St} {Q : D → St → Prop} {a0 : D} {a1 : D} (h : WS (ex G (run G n) S_law_lot_2 [some a0, some a1, none, none] s) (fun _ s' => W (fin true s.length .non s') Q) (fun d s' => W (fin true s.length d s') Q) (fun _ _ => False) (fun _ _ => False)) : W (run G (n + 1) F_law_lot [a0, a1] s) Q := run_W (r := R_law_lot) g_law_lot rfl h
theorem g_law_of : G.fn F_law_of = some R_law_of := rfl
theorem in_law_of {n : Nat} {s : St} {Q : D → St → Prop} {a0 : D} {a1 : D} (h : WS (ex G (run G n) S_law_of_1 [some a0, some a1] s) (fun _ s' => W (fin true s.length .non s') Q) (fun d s' => W (fin true s.length d s') Q) (fun _ _ => False) (fun _ _ => False)) : W (run G (n + 1) F_law_of [a0, a1] s) Q := run_W (r := R_law_of) g_law_of rfl h
theorem g_law_right_v26 : G.fn F_law_right_v26 = some R_law_right_v26 := rfl
theorem in_law_right_v26 {n : Nat} {s : St} {Q : D → St → Prop} {a0 : D} (h : WS (ex G (run G n) S_law_right_v26_16 [some a0, none, none, none, none, none, none, none] s) (fun _ s' => W (fin true s.length .non s') Q) (fun d s' => W (fin true s.length d s') Q) (fun _ _ => False) (fun _ _ => False)) : W (run G (n + 1) F_law_right_v26 [a0] s) Q := run_W (r := R_law_right_v26) g_law_right_v26 rfl h
theorem g_law_shared : G.fn F_law_shared = some R_law_shared := rfl
theorem in_law_shared {n : Nat} {s : St} {Q : D → St → Prop} {a0 : D} (h : WS (ex G (run G n) S_law_shared_8 [some a0, none, none, none, none, none] s) (fun _ s' => W (fin true s.length .non s') Q) (fun d s' => W (fin true s.length d s') Q) (fun _ _ => False) (fun _ _ => False)) : W (run G (n + 1) F_law_shared [a0] s) Q := run_W (r := R_law_shared) g_law_shared rfl h
theorem g_law_steps : G.fn F_law_steps = some R_law_steps := rfl
theorem in_law_steps {n : Nat} {s : St} {Q : D → St → Prop} {a0 : D} (h : WS (ex G (run G n) S_law_steps_13 [some a0, none, none, none, none, none, none, none, none, none, none, none, none, none, none] s) (fun _ s' => W (fin true s.length .non s') Q) (fun d s' => W (fin true s.length d s') Q) (fun _ _ => False) (fun _ _ => False)) : W (run G (n + 1) F_law_steps [a0] s) Q := run_W (r := R_law_steps) g_law_steps rfl h
theorem g_law_take : G.fn F_law_take = some R_law_take := rfl
theorem in_law_take {n : Nat} {s : St} {Q : D → St → Prop} {a0 : D} {a1 : D} (h : WS (ex G (run G n) S_law_take_8 [some a0, some a1, none, none, none] s) (fun _ s' => W (fin true s.length .non s') Q) (fun d s' => W (fin true s.length d s') Q) (fun _ _ => False) (fun _ _ => False)) : W (run G (n + 1) F_law_take [a0, a1] s) Q := run_W (r := R_law_take) g_law_take rfl h
theorem g_law_v26 : G.fn F_law_v26 = some R_law_v26 := rfl
theorem in_law_v26 {n : Nat} {s : St} {Q : D → St → Prop} {a0 : D} (h : WS (ex G (run G n) S_law_v26_6 [some a0, none, none, none, none] s) (fun _ s' => W (fin true s.length .non s') Q) (fun d s' => W (fin true s.length d s') Q) (fun _ _ => False) (fun _ _ => False)) : W (run G (n + 1) F_law_v26 [a0] s) Q := run_W (r := R_law_v26) g_law_v26 rfl h
theorem g_law_words_v2 : G.fn F_law_words_v2 = some R_law_words_v2 := rfl
theorem in_law_words_v2 {n : Nat} {s : St} {Q : D → St → Prop} {a0 : D} {a1 : D} {a2 : D} (h : WS (ex G (run G n) S_law_words_v2_9 [some a0, some a1, some a2, none, none, none, none] s) (fun _ s' => W (fin true s.length .non s') Q) (fun d s' => W (fin true s.length d s') Q) (fun _ _ => False) (fun _ _ => False)) : W (run G (n + 1) F_law_words_v2 [a0, a1, a2] s) Q := run_W (r := R_law_words_v2) g_law_words_v2 rfl h
theorem g_less : G.fn F_less = some R_less := rfl
theorem in_less {n : Nat} {s : St} {Q : D → St → Prop} {a0 : D} {a1 : D} (h : WS (ex G (run G n) S_less_1 [some a0, some a1] s) (fun _ s' => W (fin true s.length .non s') Q) (fun d s' => W (fin true s.length d s') Q) (fun _ _ => False) (fun _ _ => False)) : W (run G (n + 1) F_less [a0, a1] s) Q := run_W (r := R_less) g_less rfl h
theorem g_lowest : G.fn F_lowest = some R_lowest := rfl
theorem in_lowest {n : Nat} {s : St} {Q : D → St → Prop} {a0 : D} {a1 : D} (h : WS (ex G (run G n) S_lowest_4 [some a0, some a1, none] s) (fun _ s' => W (fin true s.length .non s') Q) (fun d s' => W (fin true s.length d s') Q) (fun _ _ => False) (fun _ _ => False)) : W (run G (n + 1) F_lowest [a0, a1] s) Q := run_W (r := R_lowest) g_lowest rfl h
theorem g_mixed : G.fn F_mixed = some R_mixed := rfl
theorem in_mixed {n : Nat} {s : St} {Q : D → St → Prop} {a0 : D} {a1 : D} {a2 : D} (h : WS (ex G (run G n) S_mixed_1 [some a0, some a1, some a2, none, none] s) (fun _ s' => W (fin true s.length .non s') Q) (fun d s' => W (fin true s.length d s') Q) (fun _ _ => False) (fun _ _ => False)) : W (run G (n + 1) F_mixed [a0, a1, a2] s) Q := run_W (r := R_mixed) g_mixed rfl h
theorem g_over : G.fn F_over = some R_over := rfl
theorem in_over {n : Nat} {s : St} {Q : D → St → Prop} {a0 : D} {a1 : D} (h : WS (ex G (run G n) S_over_1 [some a0, some a1] s) (fun _ s' => W (fin true s.length .non s') Q) (fun d s' => W (fin true s.length d s') Q) (fun _ _ => False) (fun _ _ => False)) : W (run G (n + 1) F_over [a0, a1] s) Q := run_W (r := R_over) g_over rfl h
theorem g_product : G.fn F_product = some R_product := rfl
theorem in_product {n : Nat} {s : St} {Q : D → St → Prop} {a0 : D} {a1 : D} (h : WS (ex G (run G n) S_product_1 [some a0, some a1] s) (fun _ s' => W (fin true s.length .non s') Q) (fun d s' => W (fin true s.length d s') Q) (fun _ _ => False) (fun _ _ => False)) : W (run G (n + 1) F_product [a0, a1] s) Q := run_W (r := R_product) g_product rfl h
theorem g_rank : G.fn F_rank = some R_rank := rfl
theorem in_rank {n : Nat} {s : St} {Q : D → St → Prop} {a0 : D} (h : WS (ex G (run G n) S_rank_2 [some a0] s) (fun _ s' => W (fin true s.length .non s') Q) (fun d s' => W (fin true s.length d s') Q) (fun _ _ => False) (fun _ _ => False)) : W (run G (n + 1) F_rank [a0] s) Q := run_W (r := R_rank) g_rank rfl h
theorem g_reduced : G.fn F_reduced = some R_reduced := rfl
theorem in_reduced {n : Nat} {s : St} {Q : D → St → Prop} {a0 : D} (h : WS (ex G (run G n) S_reduced_12 [some a0, none, none, none, none, none, none, none, none, none, none] s) (fun _ s' => W (fin true s.length .non s') Q) (fun d s' => W (fin true s.length d s') Q) (fun _ _ => False) (fun _ _ => False)) : W (run G (n + 1) F_reduced [a0] s) Q := run_W (r := R_reduced) g_reduced rfl h
theorem g_row_of : G.fn F_row_of = some R_row_of := rfl
theorem in_row_of {n : Nat} {s : St} {Q : D → St → Prop} {a0 : D} {a1 : D} (h : WS (ex G (run G n) S_row_of_2 [some a0, some a1, none, none, none] s) (fun _ s' => W (fin true s.length .non s') Q) (fun d s' => W (fin true s.length d s') Q) (fun _ _ => False) (fun _ _ => False)) : W (run G (n + 1) F_row_of [a0, a1] s) Q := run_W (r := R_row_of) g_row_of rfl h
theorem g_things_in : G.fn F_things_in = some R_things_in := rfl
theorem in_things_in {n : Nat} {s : St} {Q : D → St → Prop} {a0 : D} (h : WS (ex G (run G n) S_things_in_1 [some a0] s) (fun _ s' => W (fin true s.length .non s') Q) (fun d s' => W (fin true s.length d s') Q) (fun _ _ => False) (fun _ _ => False)) : W (run G (n + 1) F_things_in [a0] s) Q := run_W (r := R_things_in) g_things_in rfl h
theorem k_Lots : G.cl C_Lots = some K_Lots := rfl
end EV
set_option maxHeartbeats 0
namespace EV
open PySem PySem.W PySem.Calls PyProof.Rows L2
def top (k : Nat) : Stmt := PySem.Challenge.pw_sameunions_k43_whole_ranks.main.body.getD k (.Pass ⟨0, 0, 0, 0⟩)
def dt_Lots___bool__ : DT := ⟨.meth "Lots" "__bool__", "__bool__", "Lots.__bool__", defArgs (inClass (top 19) 5), defBody (inClass (top 19) 5), defScope (inClass (top 19) 5), ["self"], [], []⟩
def dt_Lots___eq__ : DT := ⟨.meth "Lots" "__eq__", "__eq__", "Lots.__eq__", defArgs (inClass (top 19) 6), defBody (inClass (top 19) 6), defScope (inClass (top 19) 6), ["self", "other"], [], []⟩
def dt_Lots___init__ : DT := ⟨.meth "Lots" "__init__", "__init__", "Lots.__init__", defArgs (inClass (top 19) 0), defBody (inClass (top 19) 0), defScope (inClass (top 19) 0), ["self", "lots"], [], []⟩
def dt_Lots___len__ : DT := ⟨.meth "Lots" "__len__", "__len__", "Lots.__len__", defArgs (inClass (top 19) 4), defBody (inClass (top 19) 4), defScope (inClass (top 19) 4), ["self"], [], []⟩
def dt_Lots___str__ : DT := ⟨.meth "Lots" "__str__", "__str__", "Lots.__str__", defArgs (inClass (top 19) 7), defBody (inClass (top 19) 7), defScope (inClass (top 19) 7), ["self"], [], []⟩
def dt_Lots_lots : DT := ⟨.prop "Lots" "lots", "lots", "Lots.lots", defArgs (inClass (top 19) 2), defBody (inClass (top 19) 2), defScope (inClass (top 19) 2), ["self"], [], []⟩
def dt_Lots_things : DT := ⟨.prop "Lots" "things", "things", "Lots.things", defArgs (inClass (top 19) 3), defBody (inClass (top 19) 3), defScope (inClass (top 19) 3), ["self"], [], []⟩
def dt_check_lots : DT := ⟨.glo "check_lots", "check_lots", "check_lots", defArgs (top 20), defBody (top 20), defScope (top 20), ["value"], [], []⟩
def dt_check_words : DT := ⟨.glo "check_words", "check_words", "check_words", defArgs (top 18), defBody (top 18), defScope (top 18), ["words", "index"], [], []⟩
def dt_common : DT := ⟨.glo "common", "common", "common", defArgs (top 6), defBody (top 6), defScope (top 6), ["one", "two"], [], []⟩
def dt_first_place : DT := ⟨.glo "first_place", "first_place", "first_place", defArgs (top 24), defBody (top 24), defScope (top 24), ["row", "many", "place"], [], []⟩
def dt_is_free : DT := ⟨.glo "is_free", "is_free", "is_free", defArgs (top 27), defBody (top 27), defScope (top 27), ["lots"], [], []⟩
def dt_is_lot : DT := ⟨.glo "is_lot", "is_lot", "is_lot", defArgs (top 16), defBody (top 16), defScope (top 16), ["value"], [], []⟩
def dt_is_rising : DT := ⟨.glo "is_rising", "is_rising", "is_rising", defArgs (top 15), defBody (top 15), defScope (top 15), ["value", "k", "letter"], [], []⟩
def dt_law_bag : DT := ⟨.glo "_law_bag", "_law_bag", "_law_bag", defArgs (top 29), defBody (top 29), defScope (top 29), ["_law_script", "_law_spot", "_law_cell", "_law_part"], [], []⟩
def dt_law_letters : DT := ⟨.glo "_law_letters", "_law_letters", "_law_letters", defArgs (top 33), defBody (top 33), defScope (top 33), ["_law_bag_here", "_law_wide"], [], []⟩
def dt_law_lot : DT := ⟨.glo "_law_lot", "_law_lot", "_law_lot", defArgs (top 32), defBody (top 32), defScope (top 32), ["_law_bag_here", "_law_letters_here", "_law_word", "_law_x"], [], []⟩
def dt_law_of : DT := ⟨.glo "_law_of", "_law_of", "_law_of", defArgs (top 31), defBody (top 31), defScope (top 31), ["_law_bag_here", "_law_things"], [], []⟩
def dt_law_right_v26 : DT := ⟨.glo "_law_right", "_law_right", "_law_right", defArgs (top 37), defBody (top 37), defScope (top 37), ["_law_bag_here", "_law_turn", "_law_words_here", "_law_before", "_law_size", "_law_fine", "_law_mine", "_law_due"], [], []⟩
def dt_law_shared : DT := ⟨.glo "_law_shared", "_law_shared", "_law_shared", defArgs (top 36), defBody (top 36), defScope (top 36), ["_law_numbers_here", "_law_found", "_law_each", "_law_turn", "_law_one", "_law_two"], [], []⟩
def dt_law_steps : DT := ⟨.glo "_law_steps", "_law_steps", "_law_steps", defArgs (top 35), defBody (top 35), defScope (top 35), ["_law_words_here", "_law_k", "_law_letters_here", "_law_steps_here", "_law_gone", "_law_row", "_law_spots", "_law_place", "_law_lead", "_law_by", "_law_high", "_law_low", "_law_j", "_law_x", "_law_n"], [], []⟩
def dt_law_take : DT := ⟨.glo "_law_take", "_law_take", "_law_take", defArgs (top 30), defBody (top 30), defScope (top 30), ["_law_bag_here", "_law_many", "_law_seed", "_law_high", "_law_digit"], [], []⟩
def dt_law_v26 : DT := ⟨.glo "law", "law", "law", defArgs (top 38), defBody (top 38), defScope (top 38), ["_law_script", "_law_some", "_law_told", "_law_words_here", "_law_spot"], [], []⟩
def dt_law_words_v2 : DT := ⟨.glo "_law_words", "_law_words", "_law_words", defArgs (top 34), defBody (top 34), defScope (top 34), ["_law_bag_here", "_law_most", "_law_wide", "_law_k", "_law_letters_here", "_law_found", "_law_way"], [], []⟩
def dt_less : DT := ⟨.glo "less", "less", "less", defArgs (top 8), defBody (top 8), defScope (top 8), ["one", "two"], [], []⟩
def dt_lowest : DT := ⟨.glo "lowest", "lowest", "lowest", defArgs (top 7), defBody (top 7), defScope (top 7), ["number", "of", "shared"], [], []⟩
def dt_mixed : DT := ⟨.glo "mixed", "mixed", "mixed", defArgs (top 23), defBody (top 23), defScope (top 23), ["row", "other", "factor", "one", "two"], [], []⟩
def dt_over : DT := ⟨.glo "over", "over", "over", defArgs (top 10), defBody (top 10), defScope (top 10), ["one", "two"], [], []⟩
def dt_product : DT := ⟨.glo "product", "product", "product", defArgs (top 9), defBody (top 9), defScope (top 9), ["one", "two"], [], []⟩
def dt_rank : DT := ⟨.glo "rank", "rank", "rank", defArgs (top 26), defBody (top 26), defScope (top 26), ["lots"], [], []⟩
def dt_reduced : DT := ⟨.glo "reduced", "reduced", "reduced", defArgs (top 25), defBody (top 25), defScope (top 25), ["lots", "index", "many", "kept", "loose", "row", "place", "other", "lead", "part", "spot"], [], []⟩
def dt_row_of : DT := ⟨.glo "row_of", "row_of", "row_of", defArgs (top 22), defBody (top 22), defScope (top 22), ["lots", "index", "word", "thing", "k"], [], []⟩
def dt_things_in : DT := ⟨.glo "things_in", "things_in", "things_in", defArgs (top 17), defBody (top 17), defScope (top 17), ["words"], [], []⟩
def tl : TL := { fnL := fnL, clL := clL, dts := (dt_Lots___bool__ :: dt_Lots___eq__ :: dt_Lots___init__ :: dt_Lots___len__ :: dt_Lots___str__ :: dt_Lots_lots :: dt_Lots_things :: dt_check_lots :: dt_check_words :: dt_common :: dt_first_place :: dt_is_free :: dt_is_lot :: dt_is_rising :: dt_law_bag :: dt_law_letters :: dt_law_lot :: dt_law_of :: dt_law_right_v26 :: dt_law_shared :: dt_law_steps :: dt_law_take :: dt_law_v26 :: dt_law_words_v2 :: dt_less :: dt_lowest :: dt_mixed :: dt_over :: dt_product :: dt_rank :: dt_reduced :: dt_row_of :: dt_things_in :: []), fnmL := ("__bool__" :: "__eq__" :: "__init__" :: "__len__" :: "__str__" :: "lots" :: "things" :: "check_lots" :: "check_words" :: "common" :: "first_place" :: "is_free" :: "is_lot" :: "is_rising" :: "_law_bag" :: "_law_letters" :: "_law_lot" :: "_law_of" :: "_law_right" :: "_law_shared" :: "_law_steps" :: "_law_take" :: "law" :: "_law_words" :: "less" :: "lowest" :: "mixed" :: "over" :: "product" :: "rank" :: "reduced" :: "row_of" :: "things_in" :: []), fglL := (false :: false :: false :: false :: false :: false :: false :: true :: true :: true :: true :: true :: true :: true :: true :: true :: true :: true :: true :: true :: true :: true :: true :: true :: true :: true :: true :: true :: true :: true :: true :: true :: true :: []), fpsL := (["self"] :: ["self", "other"] :: ["self", "lots"] :: ["self"] :: ["self"] :: ["self"] :: ["self"] :: ["value"] :: ["words"] :: ["one", "two"] :: ["row", "many"] :: ["lots"] :: ["value"] :: ["value"] :: ["_law_script", "_law_spot"] :: ["_law_bag_here", "_law_wide"] :: ["_law_bag_here", "_law_letters_here"] :: ["_law_bag_here", "_law_things"] :: ["_law_bag_here"] :: ["_law_numbers_here"] :: ["_law_words_here"] :: ["_law_bag_here", "_law_many"] :: ["_law_script"] :: ["_law_bag_here", "_law_most", "_law_wide"] :: ["one", "two"] :: ["number", "of"] :: ["row", "other", "factor"] :: ["one", "two"] :: ["one", "two"] :: ["lots"] :: ["lots"] :: ["lots", "index"] :: ["words"] :: []), kwL := ([] :: [] :: [] :: [] :: [] :: [] :: [] :: [] :: [] :: [] :: [] :: [(0, ["lots"], [0])] :: [] :: [] :: [] :: [] :: [] :: [] :: [] :: [] :: [] :: [] :: [] :: [] :: [] :: [] :: [] :: [] :: [] :: [(0, ["lots"], [0])] :: [] :: [] :: [] :: []), cnmL := ["InvalidLots", "Lots", "NotLots", "WrongValue"], cfsL := [["index"], ["words", "letters"], ["given"], []], gnmL := ["MOST_LOTS", "MOST_THINGS", "LETTERS"], gvL := [D_MOST_LOTS, D_MOST_THINGS, D_LETTERS], anmL := ["words", "letters", "things", "lots", "index", "given"], kvL := [none, none, none] }
theorem tl_chk : (List.range tl.fnL.length).all tl.chkF = true := by decide +kernel
theorem dp_Lots___bool__ : DP ["self"] [] dt_Lots___bool__ := by
  refine DP.of (fun kV doc pm an cdv ct us hl => ?_) (fun n ks pm m kV doc pm2 an cdv ct us ws h1 h2 => ?_)
  · rcases us with _ | ⟨us0, _ | ⟨z, zz⟩⟩ <;> first | (exfalso; simp at hl; done) | skip; rfl
  · simp at m
theorem dp_Lots___eq__ : DP ["self", "other"] [] dt_Lots___eq__ := by
  refine DP.of (fun kV doc pm an cdv ct us hl => ?_) (fun n ks pm m kV doc pm2 an cdv ct us ws h1 h2 => ?_)
  · rcases us with _ | ⟨us0, _ | ⟨us1, _ | ⟨z, zz⟩⟩⟩ <;> first | (exfalso; simp at hl; done) | skip; rfl
  · simp at m
theorem dp_Lots___init__ : DP ["self", "lots"] [] dt_Lots___init__ := by
  refine DP.of (fun kV doc pm an cdv ct us hl => ?_) (fun n ks pm m kV doc pm2 an cdv ct us ws h1 h2 => ?_)
  · rcases us with _ | ⟨us0, _ | ⟨us1, _ | ⟨z, zz⟩⟩⟩ <;> first | (exfalso; simp at hl; done) | skip; rfl
  · simp at m
theorem dp_Lots___len__ : DP ["self"] [] dt_Lots___len__ := by
  refine DP.of (fun kV doc pm an cdv ct us hl => ?_) (fun n ks pm m kV doc pm2 an cdv ct us ws h1 h2 => ?_)
  · rcases us with _ | ⟨us0, _ | ⟨z, zz⟩⟩ <;> first | (exfalso; simp at hl; done) | skip; rfl
  · simp at m
theorem dp_Lots___str__ : DP ["self"] [] dt_Lots___str__ := by
  refine DP.of (fun kV doc pm an cdv ct us hl => ?_) (fun n ks pm m kV doc pm2 an cdv ct us ws h1 h2 => ?_)
  · rcases us with _ | ⟨us0, _ | ⟨z, zz⟩⟩ <;> first | (exfalso; simp at hl; done) | skip; rfl
  · simp at m
theorem dp_Lots_lots : DP ["self"] [] dt_Lots_lots := by
  refine DP.of (fun kV doc pm an cdv ct us hl => ?_) (fun n ks pm m kV doc pm2 an cdv ct us ws h1 h2 => ?_)
  · rcases us with _ | ⟨us0, _ | ⟨z, zz⟩⟩ <;> first | (exfalso; simp at hl; done) | skip; rfl
  · simp at m
theorem dp_Lots_things : DP ["self"] [] dt_Lots_things := by
  refine DP.of (fun kV doc pm an cdv ct us hl => ?_) (fun n ks pm m kV doc pm2 an cdv ct us ws h1 h2 => ?_)
  · rcases us with _ | ⟨us0, _ | ⟨z, zz⟩⟩ <;> first | (exfalso; simp at hl; done) | skip; rfl
  · simp at m
theorem dp_check_lots : DP ["value"] [] dt_check_lots := by
  refine DP.of (fun kV doc pm an cdv ct us hl => ?_) (fun n ks pm m kV doc pm2 an cdv ct us ws h1 h2 => ?_)
  · rcases us with _ | ⟨us0, _ | ⟨z, zz⟩⟩ <;> first | (exfalso; simp at hl; done) | skip; rfl
  · simp at m
theorem dp_check_words : DP ["words"] [] dt_check_words := by
  refine DP.of (fun kV doc pm an cdv ct us hl => ?_) (fun n ks pm m kV doc pm2 an cdv ct us ws h1 h2 => ?_)
  · rcases us with _ | ⟨us0, _ | ⟨z, zz⟩⟩ <;> first | (exfalso; simp at hl; done) | skip; rfl
  · simp at m
theorem dp_common : DP ["one", "two"] [] dt_common := by
  refine DP.of (fun kV doc pm an cdv ct us hl => ?_) (fun n ks pm m kV doc pm2 an cdv ct us ws h1 h2 => ?_)
  · rcases us with _ | ⟨us0, _ | ⟨us1, _ | ⟨z, zz⟩⟩⟩ <;> first | (exfalso; simp at hl; done) | skip; rfl
  · simp at m
theorem dp_first_place : DP ["row", "many"] [] dt_first_place := by
  refine DP.of (fun kV doc pm an cdv ct us hl => ?_) (fun n ks pm m kV doc pm2 an cdv ct us ws h1 h2 => ?_)
  · rcases us with _ | ⟨us0, _ | ⟨us1, _ | ⟨z, zz⟩⟩⟩ <;> first | (exfalso; simp at hl; done) | skip; rfl
  · simp at m
theorem dp_is_free : DP ["lots"] [(0, ["lots"], [0])] dt_is_free := by
  refine DP.of (fun kV doc pm an cdv ct us hl => ?_) (fun n ks pm m kV doc pm2 an cdv ct us ws h1 h2 => ?_)
  · rcases us with _ | ⟨us0, _ | ⟨z, zz⟩⟩ <;> first | (exfalso; simp at hl; done) | skip; rfl
  · simp only [List.mem_cons, List.not_mem_nil, or_false, Prod.mk.injEq] at m
    rcases m with ⟨rfl, rfl, rfl⟩
    · obtain rfl := List.length_eq_zero_iff.mp h1; rcases ws with _ | ⟨ws0, _ | ⟨z, zz⟩⟩ <;> first | (exfalso; simp at h2; done) | skip; exact ⟨_, rfl, rfl⟩
theorem dp_is_lot : DP ["value"] [] dt_is_lot := by
  refine DP.of (fun kV doc pm an cdv ct us hl => ?_) (fun n ks pm m kV doc pm2 an cdv ct us ws h1 h2 => ?_)
  · rcases us with _ | ⟨us0, _ | ⟨z, zz⟩⟩ <;> first | (exfalso; simp at hl; done) | skip; rfl
  · simp at m
theorem dp_is_rising : DP ["value"] [] dt_is_rising := by
  refine DP.of (fun kV doc pm an cdv ct us hl => ?_) (fun n ks pm m kV doc pm2 an cdv ct us ws h1 h2 => ?_)
  · rcases us with _ | ⟨us0, _ | ⟨z, zz⟩⟩ <;> first | (exfalso; simp at hl; done) | skip; rfl
  · simp at m
theorem dp_law_bag : DP ["_law_script", "_law_spot"] [] dt_law_bag := by
  refine DP.of (fun kV doc pm an cdv ct us hl => ?_) (fun n ks pm m kV doc pm2 an cdv ct us ws h1 h2 => ?_)
  · rcases us with _ | ⟨us0, _ | ⟨us1, _ | ⟨z, zz⟩⟩⟩ <;> first | (exfalso; simp at hl; done) | skip; rfl
  · simp at m
theorem dp_law_letters : DP ["_law_bag_here", "_law_wide"] [] dt_law_letters := by
  refine DP.of (fun kV doc pm an cdv ct us hl => ?_) (fun n ks pm m kV doc pm2 an cdv ct us ws h1 h2 => ?_)
  · rcases us with _ | ⟨us0, _ | ⟨us1, _ | ⟨z, zz⟩⟩⟩ <;> first | (exfalso; simp at hl; done) | skip; rfl
  · simp at m
theorem dp_law_lot : DP ["_law_bag_here", "_law_letters_here"] [] dt_law_lot := by
  refine DP.of (fun kV doc pm an cdv ct us hl => ?_) (fun n ks pm m kV doc pm2 an cdv ct us ws h1 h2 => ?_)
  · rcases us with _ | ⟨us0, _ | ⟨us1, _ | ⟨z, zz⟩⟩⟩ <;> first | (exfalso; simp at hl; done) | skip; rfl
  · simp at m
theorem dp_law_of : DP ["_law_bag_here", "_law_things"] [] dt_law_of := by
  refine DP.of (fun kV doc pm an cdv ct us hl => ?_) (fun n ks pm m kV doc pm2 an cdv ct us ws h1 h2 => ?_)
  · rcases us with _ | ⟨us0, _ | ⟨us1, _ | ⟨z, zz⟩⟩⟩ <;> first | (exfalso; simp at hl; done) | skip; rfl
  · simp at m
theorem dp_law_right_v26 : DP ["_law_bag_here"] [] dt_law_right_v26 := by
  refine DP.of (fun kV doc pm an cdv ct us hl => ?_) (fun n ks pm m kV doc pm2 an cdv ct us ws h1 h2 => ?_)
  · rcases us with _ | ⟨us0, _ | ⟨z, zz⟩⟩ <;> first | (exfalso; simp at hl; done) | skip; rfl
  · simp at m
theorem dp_law_shared : DP ["_law_numbers_here"] [] dt_law_shared := by
  refine DP.of (fun kV doc pm an cdv ct us hl => ?_) (fun n ks pm m kV doc pm2 an cdv ct us ws h1 h2 => ?_)
  · rcases us with _ | ⟨us0, _ | ⟨z, zz⟩⟩ <;> first | (exfalso; simp at hl; done) | skip; rfl
  · simp at m
theorem dp_law_steps : DP ["_law_words_here"] [] dt_law_steps := by
  refine DP.of (fun kV doc pm an cdv ct us hl => ?_) (fun n ks pm m kV doc pm2 an cdv ct us ws h1 h2 => ?_)
  · rcases us with _ | ⟨us0, _ | ⟨z, zz⟩⟩ <;> first | (exfalso; simp at hl; done) | skip; rfl
  · simp at m
theorem dp_law_take : DP ["_law_bag_here", "_law_many"] [] dt_law_take := by
  refine DP.of (fun kV doc pm an cdv ct us hl => ?_) (fun n ks pm m kV doc pm2 an cdv ct us ws h1 h2 => ?_)
  · rcases us with _ | ⟨us0, _ | ⟨us1, _ | ⟨z, zz⟩⟩⟩ <;> first | (exfalso; simp at hl; done) | skip; rfl
  · simp at m
theorem dp_law_v26 : DP ["_law_script"] [] dt_law_v26 := by
  refine DP.of (fun kV doc pm an cdv ct us hl => ?_) (fun n ks pm m kV doc pm2 an cdv ct us ws h1 h2 => ?_)
  · rcases us with _ | ⟨us0, _ | ⟨z, zz⟩⟩ <;> first | (exfalso; simp at hl; done) | skip; rfl
  · simp at m
theorem dp_law_words_v2 : DP ["_law_bag_here", "_law_most", "_law_wide"] [] dt_law_words_v2 := by
  refine DP.of (fun kV doc pm an cdv ct us hl => ?_) (fun n ks pm m kV doc pm2 an cdv ct us ws h1 h2 => ?_)
  · rcases us with _ | ⟨us0, _ | ⟨us1, _ | ⟨us2, _ | ⟨z, zz⟩⟩⟩⟩ <;> first | (exfalso; simp at hl; done) | skip; rfl
  · simp at m
theorem dp_less : DP ["one", "two"] [] dt_less := by
  refine DP.of (fun kV doc pm an cdv ct us hl => ?_) (fun n ks pm m kV doc pm2 an cdv ct us ws h1 h2 => ?_)
  · rcases us with _ | ⟨us0, _ | ⟨us1, _ | ⟨z, zz⟩⟩⟩ <;> first | (exfalso; simp at hl; done) | skip; rfl
  · simp at m
theorem dp_lowest : DP ["number", "of"] [] dt_lowest := by
  refine DP.of (fun kV doc pm an cdv ct us hl => ?_) (fun n ks pm m kV doc pm2 an cdv ct us ws h1 h2 => ?_)
  · rcases us with _ | ⟨us0, _ | ⟨us1, _ | ⟨z, zz⟩⟩⟩ <;> first | (exfalso; simp at hl; done) | skip; rfl
  · simp at m
theorem dp_mixed : DP ["row", "other", "factor"] [] dt_mixed := by
  refine DP.of (fun kV doc pm an cdv ct us hl => ?_) (fun n ks pm m kV doc pm2 an cdv ct us ws h1 h2 => ?_)
  · rcases us with _ | ⟨us0, _ | ⟨us1, _ | ⟨us2, _ | ⟨z, zz⟩⟩⟩⟩ <;> first | (exfalso; simp at hl; done) | skip; rfl
  · simp at m
theorem dp_over : DP ["one", "two"] [] dt_over := by
  refine DP.of (fun kV doc pm an cdv ct us hl => ?_) (fun n ks pm m kV doc pm2 an cdv ct us ws h1 h2 => ?_)
  · rcases us with _ | ⟨us0, _ | ⟨us1, _ | ⟨z, zz⟩⟩⟩ <;> first | (exfalso; simp at hl; done) | skip; rfl
  · simp at m
theorem dp_product : DP ["one", "two"] [] dt_product := by
  refine DP.of (fun kV doc pm an cdv ct us hl => ?_) (fun n ks pm m kV doc pm2 an cdv ct us ws h1 h2 => ?_)
  · rcases us with _ | ⟨us0, _ | ⟨us1, _ | ⟨z, zz⟩⟩⟩ <;> first | (exfalso; simp at hl; done) | skip; rfl
  · simp at m
theorem dp_rank : DP ["lots"] [(0, ["lots"], [0])] dt_rank := by
  refine DP.of (fun kV doc pm an cdv ct us hl => ?_) (fun n ks pm m kV doc pm2 an cdv ct us ws h1 h2 => ?_)
  · rcases us with _ | ⟨us0, _ | ⟨z, zz⟩⟩ <;> first | (exfalso; simp at hl; done) | skip; rfl
  · simp only [List.mem_cons, List.not_mem_nil, or_false, Prod.mk.injEq] at m
    rcases m with ⟨rfl, rfl, rfl⟩
    · obtain rfl := List.length_eq_zero_iff.mp h1; rcases ws with _ | ⟨ws0, _ | ⟨z, zz⟩⟩ <;> first | (exfalso; simp at h2; done) | skip; exact ⟨_, rfl, rfl⟩
theorem dp_reduced : DP ["lots"] [] dt_reduced := by
  refine DP.of (fun kV doc pm an cdv ct us hl => ?_) (fun n ks pm m kV doc pm2 an cdv ct us ws h1 h2 => ?_)
  · rcases us with _ | ⟨us0, _ | ⟨z, zz⟩⟩ <;> first | (exfalso; simp at hl; done) | skip; rfl
  · simp at m
theorem dp_row_of : DP ["lots", "index"] [] dt_row_of := by
  refine DP.of (fun kV doc pm an cdv ct us hl => ?_) (fun n ks pm m kV doc pm2 an cdv ct us ws h1 h2 => ?_)
  · rcases us with _ | ⟨us0, _ | ⟨us1, _ | ⟨z, zz⟩⟩⟩ <;> first | (exfalso; simp at hl; done) | skip; rfl
  · simp at m
theorem dp_things_in : DP ["words"] [] dt_things_in := by
  refine DP.of (fun kV doc pm an cdv ct us hl => ?_) (fun n ks pm m kV doc pm2 an cdv ct us ws h1 h2 => ?_)
  · rcases us with _ | ⟨us0, _ | ⟨z, zz⟩⟩ <;> first | (exfalso; simp at hl; done) | skip; rfl
  · simp at m
theorem tl_dp : AllF (fun f d => DP (tl.nm.fps f) (tl.nm.kwT f) d) 0 tl.dts := .cons dp_Lots___bool__ (.cons dp_Lots___eq__ (.cons dp_Lots___init__ (.cons dp_Lots___len__ (.cons dp_Lots___str__ (.cons dp_Lots_lots (.cons dp_Lots_things (.cons dp_check_lots (.cons dp_check_words (.cons dp_common (.cons dp_first_place (.cons dp_is_free (.cons dp_is_lot (.cons dp_is_rising (.cons dp_law_bag (.cons dp_law_letters (.cons dp_law_lot (.cons dp_law_of (.cons dp_law_right_v26 (.cons dp_law_shared (.cons dp_law_steps (.cons dp_law_take (.cons dp_law_v26 (.cons dp_law_words_v2 (.cons dp_less (.cons dp_lowest (.cons dp_mixed (.cons dp_over (.cons dp_product (.cons dp_rank (.cons dp_reduced (.cons dp_row_of (.cons dp_things_in (.nil)))))))))))))))))))))))))))))))))
def hk : Hook := hookX 5 tl.T.B (tl.T.dts.map DT.da) tl.T.tabs
def hob (s : SharedT) : AlK := obsXG 5 tl.T.B (tl.T.dts.map DT.da) tl.T.tabs (HandSHeadRun.getT s)
theorem hob_eq (s : SharedT) : hob s = hk.obs s.abs := obsXG_eq (HandSHeadRun.getT_eq s)
def hnames : List PySem.Str := ("_wall" :: "WrongValue" :: "NotLots" :: "InvalidLots" :: "common" :: "lowest" :: "less" :: "product" :: "over" :: "MOST_LOTS" :: "MOST_THINGS" :: "LETTERS" :: "is_rising" :: "is_lot" :: "things_in" :: "check_words" :: "Lots" :: "check_lots" :: "row_of" :: "mixed" :: "first_place" :: "reduced" :: "rank" :: "is_free" :: "_law_bag" :: "_law_take" :: "_law_of" :: "_law_lot" :: "_law_letters" :: "_law_words" :: "_law_steps" :: "_law_shared" :: "_law_right" :: [])
abbrev RR : OpenRow := OpenLaw.row PySem.Challenge.rw_sameunions_k43_whole_ranks
theorem hrun (w : World) : HandSHeadRun.RunEq RR (PySem.W.view RR.prog [38]) hk hob 6000 hnames w := by
  intro os
  kernel_rfl
theorem hlaw {K : PySem.W.Frag} {a : Addr} {fd : FuncData} (F : dt_law_v26.fun_ K a fd) (s : Shared) (u : Value) : BindsTo s fd ⟨[u], []⟩ [("_law_script", u)] :=
  FunD.bindsA (ps := ["_law_script"]) F (fun kV doc pm an cdv ct us hl => by
    rcases us with _ | ⟨u0, _ | ⟨z, zz⟩⟩ <;> first | (exfalso; simp at hl; done) | rfl) s [u] rfl
end EV
set_option linter.all false
set_option maxRecDepth 100000
namespace EV
open PySem (Operator CmpOp)
def LET : List Nat := [97, 98, 99, 100, 101, 102, 103, 104, 105, 106, 107, 108, 109, 110, 111, 112, 113, 114, 115, 116, 117, 118, 119, 120, 121, 122]
theorem mem_LET {c : Nat} : c ∈ LET ↔ 97 ≤ c ∧ c ≤ 122 := by
  simp only [LET, List.mem_cons, List.not_mem_nil, or_false]; omega
def Rising (w : List Nat) : Prop := w ≠ [] ∧ (∀ c ∈ w, c ∈ LET) ∧ w.Pairwise (· < ·)
instance (w : List Nat) : Decidable (Rising w) := inferInstanceAs (Decidable (_ ∧ _ ∧ _))
def Lot (w : List Nat) : Prop := Rising w ∧ w.length ≤ 8
instance (w : List Nat) : Decidable (Lot w) := inferInstanceAs (Decidable (_ ∧ _))
def thingsIn (ws : List (List Nat)) : List Nat := uniq ws.flatten
structure LotsOk (ws : List (List Nat)) : Prop where
  ne : ws ≠ []
  few : ws.length ≤ 9
  lot : ∀ w ∈ ws, Lot w
  things : (thingsIn ws).length ≤ 8
def lotsD (ws : List (List Nat)) : D := .ins C_Lots [.tup (ws.map .str), .str (thingsIn ws)]
@[simp] theorem plain_lots {ws : List (List Nat)} : plain (lotsD ws) = true := by simp [lotsD]
theorem Lot.asc {w : List Nat} (h : Lot w) : w.Pairwise (· < ·) := h.1.2.2
theorem Lot.let_ {w : List Nat} (h : Lot w) {c : Nat} (m : c ∈ w) : 97 ≤ c ∧ c ≤ 122 := mem_LET.mp (h.1.2.1 c m)
theorem Lot.lt {w : List Nat} (h : Lot w) {c : Nat} (m : c ∈ w) : c < 128 := by have := h.let_ m; omega
theorem flat_len {ws : List (List Nat)} {k : Nat} (h : ∀ w ∈ ws, w.length ≤ k) : ws.flatten.length ≤ k * ws.length := by
  induction ws with
  | nil => simp
  | cons w ws ih =>
    have := ih fun w m => h w (List.mem_cons_of_mem _ m)
    have := h w List.mem_cons_self
    simp only [List.flatten_cons, List.length_append, List.length_cons, Nat.mul_add]
    omega
theorem flat_lt {ws : List (List Nat)} (h : ∀ w ∈ ws, Lot w) {c : Nat} (m : c ∈ ws.flatten) : c < 128 := by
  obtain ⟨w, hw, hc⟩ := List.mem_flatten.mp m
  exact (h w hw).lt hc
theorem things_in_ok {n : Nat} {s : St} {ws : List (List Nat)} (h1 : ∀ c ∈ ws.flatten, c < 128) (h2 : ws.flatten.length < 4000) : run G (n + 1) F_things_in [.tup (ws.map .str)] s = .ok (.str (thingsIn ws)) s := by
  apply eq_of_W
  refine run_W g_things_in rfl (ws_ret ?_)
  have hl : ws.flatten.length ≤ line := by rw [line_val]; omega
  have hu : (uniq ws.flatten).length ≤ line := by have := uniq_len ws.flatten; rw [line_val]; omega
  simp [-List.map_flatten, join_strT hl, setX_ch h1 h2, join_ch hu, fin_plain, R_things_in, thingsIn]
theorem cons_lt1 {a b : Nat} : (([a] : List Nat) < [b]) = (a < b) := by rw [List.cons_lt_cons_iff]; simp
theorem e_rising_2 {κ : Nat → List D → St → R D} {s : St} {w : List Nat} {o1 o2 : Option D} (h : w.length ≤ line) : ev G κ E_is_rising_2 [some (.str w), o1, o2] s = .ok (.lst (w.map fun c => .bl (decide (c ∈ LET)))) s := by
  simp only [E_is_rising_2, ev_comp, evIt_iv, ev_var, List.getElem?_cons_zero, gv_some, R_bind_ok, view_str, items_str, ivX_some, guard_str]
  rw [compL_map (e := fun c => .bl (decide (c ∈ LET))) rfl fun c _ => by simp [cstep_one, D_LETTERS, LET]]
  simp [h]
theorem asc_range {w : List Nat} : (List.range (w.length - 1)).all (fun k => decide ((w[k]?).getD 0 < (w[k + 1]?).getD 0)) = decide (w.Pairwise (· < ·)) := by
  rw [Bool.eq_iff_iff, decide_eq_true_eq]
  simp only [List.all_eq_true, List.mem_range, decide_eq_true_eq]
  induction w with
  | nil => simp
  | cons a w ih =>
    cases w with
    | nil => simp
    | cons b w =>
      rw [List.pairwise_cons, ← ih]
      simp only [List.length_cons]
      constructor
      · intro h
        have h0 : a < b := by simpa using h 0 (by omega)
        have ht : ∀ k, k < (b :: w).length - 1 → ((b :: w)[k]?).getD 0 < ((b :: w)[k + 1]?).getD 0 := fun k hk => by
          have := h (k + 1) (by simp only [List.length_cons] at hk; omega)
          simpa using this
        refine ⟨fun c hc => ?_, ht⟩
        have hp : (b :: w).Pairwise (· < ·) := ih.mp ht
        rcases List.mem_cons.mp hc with rfl | m
        · exact h0
        · have := (List.pairwise_cons.mp hp).1 c m; omega
      · intro ⟨h0, ht⟩ k hk
        cases k with
        | zero => simpa using h0 b List.mem_cons_self
        | succ k =>
          have := ht k (by omega)
          simpa using this
theorem e_rising_1 {κ : Nat → List D → St → R D} {s : St} {w : List Nat} {o1 o2 : Option D} (h : w.length ≤ line) : ev G κ E_is_rising_1 [some (.str w), o1, o2] s = .ok (.lst ((List.range (w.length - 1)).map fun k => .bl (decide ((w[k]?).getD 0 < (w[k + 1]?).getD 0)))) s := by
  have hl : w.length ≤ 16777216 := h
  simp only [E_is_rising_1, ev_comp, evIt_rng1, ev_bin, ev_bi, ev_con, evs_cons, evs_nil, ev_var, List.getElem?_cons_zero, gv_some, R_bind_ok, R_map_ok, len_str, lenOf_str h, Option.map_some, R_opt_some, view_int, bin_subI]
  rw [rgX_ok (by decide) (fits62_of (by omega))]
  have e : ((w.length : Int) - 1 - 0).toNat = w.length - 1 := by omega
  simp only [R_bind_ok, e, rngL_zero]
  rw [compL_map (e := fun k => .bl (decide ((w[k]?).getD 0 < (w[k + 1]?).getD 0))) rfl fun k hk => by
    have hk := List.mem_range.mp hk
    have e1 : idxD (.str w) (.int ((k : Int) + 1)) = (w[k + 1]?).map chD := idx_str (k := k + 1) h
    have e2 : w[k]? = some w[k] := List.getElem?_eq_getElem (by omega)
    have e3 : w[k + 1]? = some w[k + 1] := List.getElem?_eq_getElem (by omega)
    simp only [cstep_one, ev_con, tst_bl, R_calm_ok, R_bind_ok, if_true, ev_cmp, ev_idx, ev_bin]
    simp [idx_str h, e1, e2, e3, cons_lt1]]
  simp only [R_bind_ok]
  rw [if_pos (by simp; omega)]; rfl
theorem is_rising_ok {n : Nat} {s : St} {w : List Nat} (h : w.length ≤ line) : run G (n + 1) F_is_rising [.str w] s = .ok (.bl (decide (Rising w))) s := by
  apply eq_of_W
  refine in_is_rising ?_
  by_cases h0 : w = []
  · subst h0
    with_reducible refine ws_itT (s' := s) (by simp) (ws_retE (d := .bl false) (s' := s) (by simp) ?_)
    simp [fin_plain, Rising]
  · by_cases h1 : ∀ c ∈ w, c ∈ LET
    · with_reducible refine ws_it0 (s' := s) (by simp [e_rising_2 h, h0, all_mapF]; exact h1) (ws_ret ?_)
      simp [e_rising_1 h, all_mapF, fin_plain, Rising, h0, asc_range]
      intro _; exact h1
    · with_reducible refine ws_itT (s' := s) (by simp [e_rising_2 h, h0, all_mapF]; simpa using h1) (ws_retE (d := .bl false) (s' := s) (by simp) ?_)
      have : decide (Rising w) = false := decide_eq_false fun q => h1 q.2.1
      simp [fin_plain, this]
theorem is_lot_ok {n : Nat} {s : St} {w : List Nat} (h : w.length ≤ line) : run G (n + 2) F_is_lot [.str w] s = .ok (.bl (decide (Lot w))) s := by
  apply eq_of_W
  refine in_is_lot (ws_ret ?_)
  simp [is_rising_ok h, lenOf_str h, D_MOST_THINGS, Lot]
  by_cases hr : Rising w <;> simp [hr, fin_plain]
  omega
theorem uniq_mono {a b : List Nat} (h : ∀ c ∈ a, c ∈ b) : (uniq a).length ≤ (uniq b).length := by
  unfold uniq
  have key : ∀ l : List Nat, (l.filter fun c => decide (c ∈ a)).length ≤ (l.filter fun c => decide (c ∈ b)).length := fun l => by
    induction l with
    | nil => simp
    | cons c l ih =>
      by_cases h1 : c ∈ a
      · simp [h1, h c h1]; exact ih
      · by_cases h2 : c ∈ b <;> simp [h1, h2] <;> omega
  exact key _
theorem eq_nil_S {ws : List (List Nat)} (h : ∀ c ∈ ws.flatten, c < 128) : cmpO .Eq (.tup (ws.map .str)) (.tup []) = some (decide (ws = [])) := by
  have hn : nob (.tup (ws.map .str)) = true := by
    simp only [nob]
    refine nobs_map fun w m => ?_
    simp only [nob, List.all_eq_true, decide_eq_true_eq]
    exact fun c hc => Nat.lt_trans (h c (List.mem_flatten.mpr ⟨w, m, hc⟩)) (by decide)
  have hd : dat (.tup (ws.map .str)) = true := by
    simp only [dat, datN, List.all_eq_true, List.mem_map]
    rintro _ ⟨w, m, rfl⟩
    simp only [datN, List.all_eq_true, decide_eq_true_eq]
    exact fun c hc => Nat.lt_trans (h c (List.mem_flatten.mpr ⟨w, m, hc⟩)) (by decide)
  simp only [cmpO]
  rw [eqO_nob hn rfl hd rfl]
  congr 1; rw [Bool.eq_iff_iff]; simp
theorem range_at {n k : Nat} {x : D} (h : ((List.range n).map nD)[k]? = some x) : ∃ hk : k < n, x = nD k := by
  rw [List.getElem?_map, Option.map_eq_some_iff] at h
  obtain ⟨j, h1, rfl⟩ := h
  obtain ⟨h2, h3⟩ := List.getElem?_eq_some_iff.mp h1
  rw [List.length_range] at h2
  rw [List.getElem_range] at h3
  exact ⟨h2, by rw [h3]⟩
theorem thingsIn_take {ws : List (List Nat)} (h : LotsOk ws) (k : Nat) : (thingsIn (ws.take k)).length ≤ 8 := by
  refine Nat.le_trans ?_ h.things
  refine uniq_mono fun c hc => ?_
  obtain ⟨w, hw, m⟩ := List.mem_flatten.mp hc
  exact List.mem_flatten.mpr ⟨w, List.mem_of_mem_take hw, m⟩
theorem LotsOk.flat {ws : List (List Nat)} (h : LotsOk ws) : ws.flatten.length < 4000 := by
  have := flat_len (ws := ws) (k := 8) fun w m => (h.lot w m).2
  have := h.few
  omega
theorem LotsOk.lt {ws : List (List Nat)} (h : LotsOk ws) : ∀ c ∈ ws.flatten, c < 128 := fun c m => flat_lt h.lot m
theorem check_words_ok {n : Nat} {s : St} {ws : List (List Nat)} (h : LotsOk ws) : run G (n + 3) F_check_words [.tup (ws.map .str)] s = .ok .non s := by
  apply eq_of_W
  refine in_check_words ?_
  have hne := h.ne
  have hfew := h.few
  with_reducible refine ws_it0 (s' := s) ?_ (ws_for1 (fun k v s' => ∃ o, v = [some (.tup (ws.map .str)), o] ∧ s' = s) (s' := s) (xs := (List.range ws.length).map nD) (g := []) ?_ ⟨_, rfl, rfl⟩ (fun _ _ _ _ => rfl) ?_ ?_)
  · have : cmpO .Eq (.tup (ws.map .str)) (.tup []) = some (decide (ws = [])) := eq_nil_S h.lt
    simp [this, hne]
  · simp
    rw [rgX_ok (by decide) (fits62_of (by omega))]
    simp
  · rintro k x v s' hx ⟨o, rfl, rfl⟩
    obtain ⟨hk, rfl⟩ := range_at hx
    have hw : Lot ws[k] := h.lot _ (List.getElem_mem hk)
    have hle : (ws[k]).length ≤ line := by have := hw.2; rw [line_val]; omega
    have ht := thingsIn_take h (k + 1)
    have hc : cut (ws.map D.str) none (some ((k : Int) + 1)) = (ws.take (k + 1)).map D.str := by rw [cut_mapD]; exact congrArg (List.map D.str) (cut_take (k := k + 1))
    have hf : ∀ c ∈ (ws.take (k + 1)).flatten, c < 128 := fun c m => by
      obtain ⟨w, hw, m⟩ := List.mem_flatten.mp m
      exact (h.lot w (List.mem_of_mem_take hw)).lt m
    have hf2 : (ws.take (k + 1)).flatten.length < 4000 := by
      have := flat_len (ws := ws.take (k + 1)) (k := 8) fun w m => (h.lot w (List.mem_of_mem_take m)).2
      have : (ws.take (k + 1)).length ≤ ws.length := by rw [List.length_take]; omega
      omega
    have ht2 : (thingsIn (ws.take (k + 1))).length ≤ line := by rw [line_val]; omega
    have e9 : ¬ (k : Int) = 9 := by omega
    have e8 : ¬ (8 : Int) < (thingsIn (ws.take (k + 1))).length := by omega
    with_reducible refine ws_it0 (s' := s') ?_ (ws_done ⟨_, rfl, rfl⟩)
    simp [-List.map_take, D_MOST_LOTS, D_MOST_THINGS, idx_tup, hk, is_lot_ok hle, hw, hc, things_in_ok hf hf2, lenOf_str ht2, e9, e8]
  · rintro v s' ⟨o, rfl, rfl⟩
    with_reducible refine ws_done ?_
    simp [fin_plain]
theorem init_lots {n : Nat} {s : St} {ws : List (List Nat)} (h : LotsOk ws) : run G (n + 4) F_Lots___init__ [.cell s.length, .tup (ws.map .str)] (s ++ [.ins C_Lots []]) = .ok .non (s ++ [.ins C_Lots [.tup (ws.map .str), .str (thingsIn ws)]]) := by
  apply eq_of_W
  refine in_Lots___init__ ?_
  with_reducible refine ws_expE (d := .non) (s' := s ++ [.ins C_Lots []]) ?_ (ws_setf_new (n := s.length) (c := C_Lots) (fs := []) (d := .tup (ws.map .str)) (s1 := s ++ [.ins C_Lots []]) (s2 := s ++ [.ins C_Lots []]) ?_ ?_ ?_ ?_ ?_
    (ws_setf_new (n := s.length) (c := C_Lots) (fs := [.tup (ws.map .str)]) (d := .str (thingsIn ws)) (s1 := s ++ [.ins C_Lots [.tup (ws.map .str)]]) (s2 := s ++ [.ins C_Lots [.tup (ws.map .str)]]) ?_ ?_ ?_ ?_ ?_ (ws_done ?_)))
  · simp [check_words_ok h]
  · simp
  · simp
  · simp
  · rfl
  · exact plain_below _ (by simp)
  · simp [things_in_ok h.lt h.flat]
  · simp
  · simp
  · rfl
  · rfl
  · simp [fin_plain]
theorem mk_lots_ok {n : Nat} {s : St} {ws : List (List Nat)} (h : LotsOk ws) : mkI G (run G (n + 4)) C_Lots [] [.tup (ws.map .str)] s = .ok (lotsD ws) s :=
  mkI_frz k_Lots rfl rfl rfl (init_lots h) (plains_below _ (by simp))
@[simp] theorem view_lots {s : St} {ws : List (List Nat)} : view s (lotsD ws) = lotsD ws := (rfl)
theorem lots_lots {n : Nat} {s : St} {ws : List (List Nat)} : run G (n + 1) F_Lots_lots [lotsD ws] s = .ok (.tup (ws.map .str)) s := by
  apply eq_of_W
  refine in_Lots_lots (ws_ret ?_)
  simp only [ev_atr, ev_var, List.getElem?_cons_zero, gv_some, R_bind_ok]
  refine W_eq (atr_fld k_Lots rfl rfl) ?_
  simp [fin_plain]
theorem lots_things {n : Nat} {s : St} {ws : List (List Nat)} : run G (n + 1) F_Lots_things [lotsD ws] s = .ok (.str (thingsIn ws)) s := by
  apply eq_of_W
  refine in_Lots_things (ws_ret ?_)
  simp only [ev_atr, ev_var, List.getElem?_cons_zero, gv_some, R_bind_ok]
  refine W_eq (atr_fld k_Lots rfl rfl) ?_
  simp [fin_plain]
theorem lots_len {n : Nat} {s : St} {ws : List (List Nat)} : run G (n + 1) F_Lots___len__ [lotsD ws] s = .ok (nD ws.length) s := by
  apply eq_of_W
  refine in_Lots___len__ (ws_ret ?_)
  simp only [ev_bi, evs_cons, evs_nil, ev_atr, ev_var, List.getElem?_cons_zero, gv_some, R_bind_ok]
  rw [show atrI G (run G n) (lotsD ws) A_words s = .ok (.tup (ws.map .str)) s from atr_fld k_Lots rfl rfl]
  simp [fin_plain]
@[simp] theorem atr_lots {n : Nat} {s : St} {ws : List (List Nat)} : atrI G (run G (n + 1)) (lotsD ws) A_lots s = .ok (.tup (ws.map .str)) s := atr_prop k_Lots rfl rfl lots_lots
@[simp] theorem atr_things {n : Nat} {s : St} {ws : List (List Nat)} : atrI G (run G (n + 1)) (lotsD ws) A_things s = .ok (.str (thingsIn ws)) s := atr_prop k_Lots rfl rfl lots_things
@[simp] theorem atr_words {κ : Nat → List D → St → R D} {s : St} {ws : List (List Nat)} : atrI G κ (lotsD ws) A_words s = .ok (.tup (ws.map .str)) s := atr_fld k_Lots rfl rfl
theorem len_lots {n : Nat} {s : St} {ws : List (List Nat)} (h : ws.length ≤ 9) : biI G (run G (n + 1)) .len [lotsD ws] s = .ok (nD ws.length) s := len_ins k_Lots rfl lots_len (by omega)
theorem isi_lots {s : St} {ws : List (List Nat)} : isiX G (lotsD ws) (.cls C_Lots) s = .ok (.bl true) s := rfl
theorem check_lots_ok {n : Nat} {s : St} {ws : List (List Nat)} : run G (n + 1) F_check_lots [lotsD ws] s = .ok .non s := by
  apply eq_of_W
  refine in_check_lots ?_
  with_reducible refine ws_it0 (s' := s) (by simp [isi_lots]) (ws_done ?_)
  simp [fin_plain]
end EV
set_option linter.all false
set_option maxRecDepth 100000
set_option maxHeartbeats 2000000
namespace EV
open PySem (Operator CmpOp)
def Jar (s : St) (j : Nat) : Prop := ∃ a b c : Int, s[j]? = some (.lst [.int a, .int b, .int c]) ∧ 0 ≤ a ∧ 0 ≤ b ∧ 0 ≤ c
def JS (j : Nat) (s s' : St) : Prop := (∃ c, s' = s.set j c) ∧ Jar s' j
theorem Jar.lt {s : St} {j : Nat} (h : Jar s j) : j < s.length := by
  obtain ⟨_, _, _, e, _⟩ := h
  exact (List.getElem?_eq_some_iff.mp e).1
theorem set_same {s : St} {j : Nat} {c : Cell} (e : s[j]? = some c) : s = s.set j c := by
  apply List.ext_getElem?
  intro i
  by_cases hi : j = i
  · subst hi
    rw [List.getElem?_set_self (List.getElem?_eq_some_iff.mp e).1, e]
  · rw [List.getElem?_set_ne hi]
theorem Jar.refl {s : St} {j : Nat} (h : Jar s j) : JS j s s := by
  obtain ⟨a, b, c, e, _⟩ := id h
  exact ⟨⟨_, set_same e⟩, h⟩
theorem JS.trans {s t u : St} {j : Nat} (h : JS j s t) (k : JS j t u) : JS j s u := by
  obtain ⟨⟨c, rfl⟩, _⟩ := h
  obtain ⟨⟨d, rfl⟩, q⟩ := k
  exact ⟨⟨d, List.set_set ..⟩, q⟩
theorem Rising.ne {w : List Nat} (h : Rising w) : w ≠ [] := h.1
theorem JS.len {s t : St} {j : Nat} (h : JS j s t) : t.length = s.length := by
  obtain ⟨⟨c, rfl⟩, _⟩ := h; simp
theorem JS.ne {s t : St} {j i : Nat} (h : JS j s t) (hi : i ≠ j) : t[i]? = s[i]? := by
  obtain ⟨⟨c, rfl⟩, _⟩ := h
  exact List.getElem?_set_ne (Ne.symm hi)
theorem Jar.app {s t : St} {j : Nat} (h : Jar s j) : Jar (s ++ t) j := by
  have := h.lt
  obtain ⟨a, b, c, e, r⟩ := h
  exact ⟨a, b, c, by rw [List.getElem?_append_left this, e], r⟩
theorem JS.app {s t u : St} {j : Nat} (hj : j < s.length) (h : JS j (s ++ t) u) : ∃ s', u = s' ++ t ∧ JS j s s' := by
  obtain ⟨⟨c, rfl⟩, a, b, d, e, r⟩ := h
  refine ⟨s.set j c, List.set_append_left _ _ hj, ⟨c, rfl⟩, a, b, d, ?_, r⟩
  rw [List.set_append_left _ _ hj, List.getElem?_append_left (by simpa using hj)] at e
  exact e
theorem JS.cut {s t u : St} {j : Nat} (hj : j < s.length) (h : JS j (s ++ t) u) : JS j s (u.take s.length) := by
  obtain ⟨s', rfl, k⟩ := h.app hj
  rw [← k.len]; simpa using k
theorem JS.fin {s u : St} {j : Nat} (h : JS j s u) : JS j s (u.take s.length) := by
  rw [List.take_of_length_le (by rw [h.len]; exact Nat.le_refl _)]; exact h
def SubW (w p : List Nat) : Prop := Rising w ∧ (∀ c ∈ w, c ∈ p) ∧ w.length ≤ p.length
theorem SubW.of {w p : List Nat} (h : w ≠ []) (a : w.Pairwise (· < ·)) (k : ∀ c ∈ w, c ∈ p) (l : ∀ c ∈ p, c ∈ LET) : SubW w p := ⟨⟨h, fun c m => l c (k c m), a⟩, k, asc_len a k⟩
theorem SubW.lot {w p : List Nat} (h : SubW w p) (k : p.length ≤ 8) : Lot w := ⟨h.1, Nat.le_trans h.2.2 k⟩
theorem thingsIn_sub {ws : List (List Nat)} {p : List Nat} (h : ∀ w ∈ ws, SubW w p) : (thingsIn ws).length ≤ p.length := by
  refine asc_len (uniq_asc _) fun c m => ?_
  obtain ⟨w, hw, hc⟩ := List.mem_flatten.mp (mem_uniq' m)
  exact (h w hw).2.1 c hc
theorem smallI_of {i : Int} (h : -18446744073709551616 < i ∧ i < 18446744073709551616) : smallI i = true := by simp [smallI, h]
end EV
set_option linter.all false
set_option maxRecDepth 100000
set_option maxHeartbeats 2000000
namespace EV
open PySem (Operator CmpOp)
section
variable {G : Pg} {κ : Nat → List D → St → R D} {N B Ct : Env → St → Prop} {T : D → St → Prop} {v : Env} {s : St}
theorem ws_setit {i j : Nat} {ix e : E} {k : C} (h : W (ev G κ e v s) fun d s1 => ∃ d1 d2, d = .tup [d1, d2] ∧ W (ev G κ (.var i) v s1) fun o s2 => W (ev G κ ix v s2) fun x s3 => ∃ n s4, o = .cell n ∧ setC s3 n x d1 = some s4 ∧ WS (ex G κ k (v.set j (some d2)) s4) N T B Ct) : WS (ex G κ (.setit i ix j e k) v s) N T B Ct := by
  rw [ex, WS_go]
  refine W_mono h fun d s1 ⟨d1, d2, e1, h⟩ => ?_
  subst e1
  dsimp only
  rw [WS_go]
  refine W_mono h fun o s2 h => ?_
  rw [WS_go]
  refine W_mono h fun x s3 ⟨n, s4, e1, e2, q⟩ => ?_
  rw [e1]; dsimp only; rw [e2]; exact q
end
def Bag (s : St) (j : Nat) : Prop := ∃ a b c : Int, s[j]? = some (.lst [.int a, .int b, .int c]) ∧ (0 ≤ a ∧ a < 2147483587) ∧ 0 ≤ b ∧ 0 ≤ c
def BS (j : Nat) (s s' : St) : Prop := (∃ c, s' = s.set j c) ∧ Bag s' j
theorem Bag.lt {s : St} {j : Nat} (h : Bag s j) : j < s.length := by
  obtain ⟨_, _, _, e, _⟩ := h
  exact (List.getElem?_eq_some_iff.mp e).1
theorem Bag.refl {s : St} {j : Nat} (h : Bag s j) : BS j s s := by
  obtain ⟨a, b, c, e, _⟩ := id h
  exact ⟨⟨_, set_same e⟩, h⟩
theorem BS.trans {s t u : St} {j : Nat} (h : BS j s t) (k : BS j t u) : BS j s u := by
  obtain ⟨⟨c, rfl⟩, _⟩ := h
  obtain ⟨⟨d, rfl⟩, q⟩ := k
  exact ⟨⟨d, List.set_set ..⟩, q⟩
theorem BS.bag {s t : St} {j : Nat} (h : BS j s t) : Bag t j := h.2
theorem BS.len {s t : St} {j : Nat} (h : BS j s t) : t.length = s.length := by
  obtain ⟨⟨c, rfl⟩, _⟩ := h; simp
theorem BS.ne {s t : St} {j i : Nat} (h : BS j s t) (hi : i ≠ j) : t[i]? = s[i]? := by
  obtain ⟨⟨c, rfl⟩, _⟩ := h
  exact List.getElem?_set_ne (Ne.symm hi)
theorem Bag.app {s t : St} {j : Nat} (h : Bag s j) : Bag (s ++ t) j := by
  have := h.lt
  obtain ⟨a, b, c, e, r⟩ := h
  exact ⟨a, b, c, by rw [List.getElem?_append_left this, e], r⟩
theorem BS.app {s t u : St} {j : Nat} (hj : j < s.length) (h : BS j (s ++ t) u) : ∃ s', u = s' ++ t ∧ BS j s s' := by
  obtain ⟨⟨c, rfl⟩, a, b, d, e, r⟩ := h
  refine ⟨s.set j c, List.set_append_left _ _ hj, ⟨c, rfl⟩, a, b, d, ?_, r⟩
  rw [List.set_append_left _ _ hj, List.getElem?_append_left (by simpa using hj)] at e
  exact e
theorem BS.fin {s u : St} {j : Nat} (h : BS j s u) : BS j s (u.take s.length) := by
  rw [List.take_of_length_le (by rw [h.len]; exact Nat.le_refl _)]; exact h
theorem law_take_ok {n : Nat} {s : St} {j : Nat} {w : Int} (hj : Bag s j) (hw : 0 < w ∧ w < 1000000) : W (run G (n + 1) F_law_take [.cell j, .int w] s) fun d s' => ∃ k : Nat, d = nD k ∧ (k : Int) < w ∧ BS j s s' := by
  obtain ⟨a, b, c, e, ⟨ha, ha2⟩, hb, hc⟩ := hj
  have hl := (List.getElem?_eq_some_iff.mp e).1
  refine in_law_take ?_
  with_reducible refine ws_seti ?_
  simp [e]
  refine ⟨_, setC_lst (j := 2) e rfl rfl, ?_⟩
  simp only [List.set_cons_succ, List.set_cons_zero]
  generalize hs : s.set j (.lst [.int a, .int b, .int (c + 1)]) = s1
  have e1 : s1[j]? = some (.lst [.int a, .int b, .int (c + 1)]) := by rw [← hs]; exact List.getElem?_set_self hl
  have hh1 : 0 ≤ a / 4093 := Int.ediv_nonneg ha (by omega)
  have hh2 : a / 4093 < 18446744073709551616 := by omega
  with_reducible refine ws_set (d := .int a) (s' := s1) (by simp [e1]) (ws_set (d := .int (a / 4093)) (s' := s1) (by simp [bin_divI (j := 4093) (by decide) (by decide)]) (ws_seti ?_))
  simp [e1, bin_mulI (j := 39373) (.inr rfl), bin_mulI (i := 92821) (.inl rfl), bin_mulI (i := a / 4093) (j := a / 4093) (.inr (smallI_of ⟨by omega, hh2⟩)), bin_modI (j := 2147483587) (by decide)]
  have hm := Int.emod_nonneg (a * 39373 + a / 4093 * (a / 4093) + 92821 * (c + 1) + 5) (show (2147483587 : Int) ≠ 0 by omega)
  have hm2 := Int.emod_lt_of_pos (a * 39373 + a / 4093 * (a / 4093) + 92821 * (c + 1) + 5) (show (0 : Int) < 2147483587 by omega)
  generalize (a * 39373 + a / 4093 * (a / 4093) + 92821 * (c + 1) + 5) % 2147483587 = m at hm hm2
  refine ⟨_, setC_lst (j := 0) e1 rfl rfl, ?_⟩
  simp only [List.set_cons_succ, List.set_cons_zero]
  have hl1 := (List.getElem?_eq_some_iff.mp e1).1
  generalize hs2 : s1.set j (.lst [.int m, .int b, .int (c + 1)]) = s2
  have e2 : s2[j]? = some (.lst [.int m, .int b, .int (c + 1)]) := by rw [← hs2]; exact List.getElem?_set_self hl1
  have es2 : s2 = s.set j (.lst [.int m, .int b, .int (c + 1)]) := by rw [← hs2, ← hs]; simp
  with_reducible refine ws_itB (decide (0 < b)) (s' := s2) (by simp [e2]) (fun h => ?_) (fun h => ws_done ?_)
  · have h := of_decide_eq_true h
    with_reducible refine ws_setit (W_eq (a := .tup [.int (b / w), .int (b % w)]) (s := s2) (by simp [e2, dmX_ok (i := b) (j := w) ⟨hw.1, by omega⟩]) ⟨_, _, rfl, ?_⟩)
    simp
    refine ⟨_, setC_lst (j := 1) e2 rfl rfl, ?_⟩
    simp only [List.set_cons_succ, List.set_cons_zero]
    with_reducible refine ws_retE (d := .int (b % w)) (s' := s2.set j (.lst [.int m, .int (b / w), .int (c + 1)])) (by simp) ?_
    have h1 := Int.emod_nonneg b (show w ≠ 0 by omega)
    have h2 := Int.emod_lt_of_pos b hw.1
    simp [fin_plain]
    refine ⟨(b % w).toNat, by omega, by omega, BS.fin ⟨⟨.lst [.int m, .int (b / w), .int (c + 1)], ?_⟩, ?_⟩⟩
    · rw [es2]; simp
    · refine ⟨m, b / w, c + 1, ?_, ⟨hm, hm2⟩, Int.ediv_nonneg hb (by omega), by omega⟩
      exact List.getElem?_set_self (List.getElem?_eq_some_iff.mp e2).1
  · with_reducible refine ws_retE (d := .int (m / 512 % w)) (s' := s2) (by simp [e2, bin_divI (j := 512) (by decide) (by decide), bin_modI hw.1]) ?_
    have h1 := Int.emod_nonneg (m / 512) (show w ≠ 0 by omega)
    have h2 := Int.emod_lt_of_pos (m / 512) hw.1
    simp [fin_plain]
    refine ⟨(m / 512 % w).toNat, by omega, by omega, BS.fin ⟨⟨.lst [.int m, .int b, .int (c + 1)], es2⟩, ?_⟩⟩
    exact ⟨m, b, c + 1, e2, ⟨hm, hm2⟩, hb, by omega⟩
theorem law_of_str {n : Nat} {s : St} {j : Nat} {w : List Nat} (hj : Bag s j) (h0 : w ≠ []) (hw : w.length < 1000000) : W (run G (n + 2) F_law_of [.cell j, .str w] s) fun d s' => (∃ c ∈ w, d = chD c) ∧ BS j s s' := by
  have hl : w.length ≤ line := by rw [line_val]; omega
  have hp : 0 < w.length := List.length_pos_iff.mpr h0
  refine in_law_of ?_
  with_reducible refine ws_ret ?_
  simp [lenOf_str hl]
  with_reducible refine W_mono (law_take_ok hj (by omega)) ?_
  rintro _ s1 ⟨k, rfl, hk, j1⟩
  have hk : k < w.length := by omega
  simp [idx_str hl, hk, fin_plain, j1.fin]
theorem law_of_lst {n : Nat} {s : St} {j : Nat} {xs : List D} (hj : Bag s j) (h0 : xs ≠ []) (hw : xs.length < 1000000) (hp : plains xs = true) : W (run G (n + 2) F_law_of [.cell j, .lst xs] s) fun d s' => d ∈ xs ∧ BS j s s' := by
  have hq : 0 < xs.length := List.length_pos_iff.mpr h0
  refine in_law_of ?_
  with_reducible refine ws_ret ?_
  simp
  with_reducible refine W_mono (law_take_ok hj (by omega)) ?_
  rintro _ s1 ⟨k, rfl, hk, j1⟩
  have hk : k < xs.length := by omega
  have := plains_iff.mp hp xs[k] (List.getElem_mem hk)
  simp [idx_lst, hk, fin_plain, j1.fin, this]
theorem law_of_cell {n : Nat} {s : St} {j i : Nat} {xs : List D} (hj : Bag s j) (hi : s[i]? = some (.lst xs)) (hij : i ≠ j) (h0 : xs ≠ []) (hw : xs.length < 1000000) (hp : plains xs = true) : W (run G (n + 2) F_law_of [.cell j, .cell i] s) fun d s' => d ∈ xs ∧ BS j s s' := by
  have hq : 0 < xs.length := List.length_pos_iff.mpr h0
  refine in_law_of ?_
  with_reducible refine ws_ret ?_
  simp [len_cell hi]
  with_reducible refine W_mono (law_take_ok hj (by omega)) ?_
  rintro _ s1 ⟨k, rfl, hk, j1⟩
  have hk : k < xs.length := by omega
  have e1 : s1[i]? = some (.lst xs) := by rw [j1.ne hij, hi]
  have := plains_iff.mp hp xs[k] (List.getElem_mem hk)
  simp [e1, idx_lst, hk, fin_plain, j1.fin, this]
theorem e_law_lot {n : Nat} {s : St} {j : Nat} {p : List Nat} {o2 o3 : Option D} (hj : Bag s j) (hp : p.length ≤ 26) : W (ev G (run G (n + 1)) E_law_lot_1 [some (.cell j), some (.str p), o2, o3] s) fun d s' => (∃ w : List Nat, d = .lst (w.map chD) ∧ w.Sublist p) ∧ BS j s s' := by
  simp [E_law_lot_1]
  refine W_compL (fun k acc s' => (∃ w : List Nat, acc = w.map chD ∧ w.Sublist (p.take k)) ∧ BS j s s') ⟨⟨[], rfl, by simp⟩, hj.refl⟩ (fun _ _ _ _ => rfl) ?_ ?_
  · rintro k x acc s1 hx ⟨⟨w, rfl, hs⟩, j1⟩
    obtain ⟨hk, rfl⟩ := map_at hx
    simp [cstep_one]
    with_reducible refine W_mono (law_take_ok j1.bag (by omega)) ?_
    rintro _ s2 ⟨q, rfl, hq, j2⟩
    have tk : p.take (k + 1) = p.take k ++ [p[k]] := by rw [List.take_succ, List.getElem?_eq_getElem hk]; rfl
    simp
    by_cases h0 : q = 0
    · exact .inr ⟨h0, ⟨w ++ [p[k]], by simp, by rw [tk]; exact hs.append (List.Sublist.refl _)⟩, j1.trans j2⟩
    · exact .inl ⟨h0, ⟨w, rfl, by rw [tk]; exact hs.trans (List.sublist_append_left _ _)⟩, j1.trans j2⟩
  · rintro acc s1 ⟨⟨w, rfl, hs⟩, j1⟩
    have hl : w.length ≤ p.length := Nat.le_trans hs.length_le (by simp)
    rw [if_pos (by simp [line_val]; omega)]
    simp
    exact ⟨⟨w, rfl, hs.trans (List.take_sublist _ _)⟩, j1⟩
theorem law_lot_ok {n : Nat} {s : St} {j : Nat} {p : List Nat} (hj : Bag s j) (hp : Rising p) : W (run G (n + 3) F_law_lot [.cell j, .str p] s) fun d s' => (∃ w : List Nat, d = .str w ∧ SubW w p) ∧ BS j s s' := by
  have hl : p.length ≤ 26 := asc_len (p := LET) hp.2.2 hp.2.1
  have hl2 : p.length ≤ line := by rw [line_val]; omega
  refine in_law_lot ?_
  with_reducible refine ws_one ?_
  simp
  refine W_mono (e_law_lot (n := n + 1) (p := p) hj hl) ?_
  rintro _ s1 ⟨⟨w, rfl, hs⟩, j1⟩
  have hw : w.length ≤ line := Nat.le_trans hs.length_le hl2
  simp [join_ch hw]
  have hm : ∀ c ∈ w, c ∈ p := fun c m => hs.subset m
  have ha : w.Pairwise (· < ·) := hp.2.2.sublist hs
  with_reducible refine ws_ret ?_
  by_cases h0 : w = []
  · simp [h0]
    with_reducible refine W_mono (law_of_str (n := n) j1.bag hp.ne (by omega)) ?_
    rintro _ s2 ⟨⟨c, hc, rfl⟩, j2⟩
    simp [fin_plain, (j1.trans j2).fin]
    exact .of (by simp) (by simp) (by simpa using hc) hp.2.1
  · simp [h0, fin_plain, j1.fin]
    exact .of h0 ha hm hp.2.1
theorem law_letters_ok {n : Nat} {s : St} {j y : Nat} (hj : Bag s j) (hy : 1 ≤ y ∧ y ≤ 8) : W (run G (n + 3) F_law_letters [.cell j, nD y] s) fun d s' => (∃ p : List Nat, d = .str p ∧ Rising p ∧ p.length ≤ y ∧ 1 ≤ p.length) ∧ BS j s s' := by
  refine in_law_letters ?_
  with_reducible refine ws_ret ?_
  simp
  with_reducible refine W_mono (law_of_lst (n := n) hj (by simp) (by simp) (by simp)) ?_
  rintro d s1 ⟨hd, j1⟩
  obtain ⟨p, rfl, hp, lp⟩ : ∃ p : List Nat, d = .str p ∧ Rising p ∧ p.length = 8 := by
    simp only [List.mem_cons, List.not_mem_nil, or_false] at hd
    rcases hd with rfl | rfl | rfl | rfl | rfl
    all_goals
      refine ⟨_, rfl, ⟨by simp, ?_, by decide⟩, rfl⟩
      intro c hc
      simp only [List.mem_cons, List.not_mem_nil, or_false] at hc
      rw [mem_LET]; omega
  simp
  with_reducible refine W_mono (law_take_ok (n := n + 1) (w := (y : Int)) j1.bag (by omega)) ?_
  rintro _ s2 ⟨k, rfl, hk, j2⟩
  have hk : k < y := by omega
  have e : (1 : Int) + (k : Int) = ((k + 1 : Nat) : Int) := by omega
  have hl : p.length ≤ line := by rw [line_val]; omega
  have hc : slX false 0 (.str p) none (some (1 + (k : Int))) s2 = .ok (.str (p.take (k + 1))) s2 := by
    rw [e, sl_str hl, cut_take]
  simp [hc, fin_plain, (j1.trans j2).fin]
  refine ⟨⟨?_, fun c m => hp.2.1 c (List.mem_of_mem_take m), hp.2.2.sublist (List.take_sublist _ _)⟩, by omega, by omega⟩
  intro z
  have : (p.take (k + 1)).length = 0 := by rw [z]; rfl
  rw [List.length_take] at this; omega
def wordsB (j m y : Nat) (p : List Nat) (s : St) (k : Nat) (v : Env) (s' : St) : Prop := ∃ (o1 o2 : Option D) (ws : List (List Nat)) (s1 : St), v = [some (.cell j), some (nD m), some (nD y), o1, some (.str p), some (.cell s.length), o2] ∧ s' = s1 ++ [.lst (ws.map .str)] ∧ BS j s s1 ∧ ws.length = k ∧ ∀ w ∈ ws, SubW w p
theorem nilS {ws : List (List Nat)} {p : List Nat} (hs : ∀ w ∈ ws, SubW w p) : cmpO .NotEq (.lst (ws.map .str)) (.lst []) = some (!decide (ws = [])) := by
  have hc : ∀ c ∈ ws.flatten, c < 128 := fun c m => by
    obtain ⟨w, hw, hcw⟩ := List.mem_flatten.mp m
    have := mem_LET.mp ((hs w hw).1.2.1 c hcw); omega
  have hn : nob (.lst (ws.map .str)) = true := by
    simp only [nob]
    refine nobs_map fun w m => ?_
    simp only [nob, List.all_eq_true, decide_eq_true_eq]
    exact fun c h => Nat.lt_trans (hc c (List.mem_flatten.mpr ⟨w, m, h⟩)) (by decide)
  have hd : dat (.lst (ws.map .str)) = true := by
    simp only [dat, datN, List.all_eq_true, List.mem_map]
    rintro _ ⟨w, m, rfl⟩
    simp only [datN, List.all_eq_true, decide_eq_true_eq]
    exact fun c h => Nat.lt_trans (hc c (List.mem_flatten.mpr ⟨w, m, h⟩)) (by decide)
  simp only [cmpO]
  rw [eqO_nob hn rfl hd rfl]
  simp only [Option.map_some]
  congr 2; rw [Bool.eq_iff_iff]; simp
theorem law_words2_ok {n : Nat} {s : St} {j m y : Nat} (hj : Bag s j) (hm : 1 ≤ m ∧ m ≤ 9) (hy : 1 ≤ y ∧ y ≤ 8) : W (run G (n + 4) F_law_words_v2 [.cell j, nD m, nD y] s) fun d s' => (∃ ws : List (List Nat), d = .tup (ws.map .str) ∧ LotsOk ws ∧ ws.length ≤ m ∧ ∃ p : List Nat, Rising p ∧ p.length ≤ y ∧ ∀ w ∈ ws, SubW w p) ∧ BS j s s' := by
  have jl := hj.lt
  refine in_law_words_v2 ?_
  with_reducible refine ws_asg ?_
  simp
  with_reducible refine W_mono (law_letters_ok (n := n) hj hy) ?_
  rintro _ s2 ⟨⟨p, rfl, hp, hpl, hp1⟩, j12⟩
  have hpc : ∀ c ∈ p, c < 128 := fun c hc => by have := mem_LET.mp (hp.2.1 c hc); omega
  simp [bindT]
  rw [j12.len]
  with_reducible refine ws_for ?_
  simp
  with_reducible refine W_mono (law_take_ok (n := n + 2) (w := (m : Int)) (s := s2 ++ [.lst []]) j12.bag.app (by omega)) ?_
  rintro _ u ⟨z, rfl, hz, ju⟩
  obtain ⟨s3, rfl, j3⟩ := ju.app (by rw [j12.len]; exact jl)
  have e1 : (D.int (1 + (z : Int))) = nD (z + 1) := by simp; omega
  simp only [view_int, bin_addI, e1, W_ok]
  rw [rgX_ok (by decide) (fits62_of (by omega))]
  simp only [W_ok, Int.sub_zero, Int.toNat_natCast, rngL_zero]
  refine WS_forL (wordsB j m y p s) ⟨none, none, [], s3, rfl, rfl, j12.trans j3, rfl, by simp⟩ (fun _ _ _ _ => rfl) ?_ ?_
  · rintro k x v s' hx ⟨o1, o2, ws, s4, rfl, rfl, j4, hl, hs⟩
    obtain ⟨hk, rfl⟩ := range_at hx
    have sl := j4.len
    show WS (ex G (run G (n + 3)) S_law_words_v2_7 _ _) _ _ _ _
    with_reducible refine ws_one ?_
    simp
    with_reducible refine W_mono (law_take_ok (n := n + 2) (w := 7) (s := s4 ++ [Cell.lst (ws.map .str)]) j4.bag.app (by omega)) ?_
    rintro _ u ⟨a, rfl, ha, ju⟩
    obtain ⟨s5, rfl, j5⟩ := ju.app (by rw [sl]; exact jl)
    have sl5 : s5.length = s.length := by rw [j5.len, sl]
    have e5 : (s5 ++ [Cell.lst (ws.map .str)])[s.length]? = some (.lst (ws.map .str)) := by rw [← sl5]; simp
    have fin : ∀ (w : List Nat) (s6 : St), SubW w p → BS j s5 s6 → W (bmR false .append (.cell s.length) [.str w] (s6 ++ [.lst (ws.map .str)])) fun _ s' => wordsB j m y p s (k + 1) [some (.cell j), some (nD m), some (nD y), some (nD k), some (.str p), some (.cell s.length), some (nD a)] s' := by
      intro w s6 hw j6
      have sl6 : s6.length = s.length := by rw [j6.len, sl5]
      have e6 : (s6 ++ [Cell.lst (ws.map .str)])[s.length]? = some (.lst (ws.map .str)) := by rw [← sl6]; simp
      rw [app_ok e6 (by simp [line_val]; omega) rfl]
      simp only [W_ok]
      refine ⟨_, _, ws ++ [w], s6, rfl, ?_, (j4.trans j5).trans j6, by simp [hl], ?_⟩
      · rw [← sl6]; simp
      · intro x hx
        rcases List.mem_append.mp hx with h | h
        · exact hs x h
        · rw [List.mem_singleton.mp h]; exact hw
    have hq2 := nilS hs
    have hc : cmpI .NotEq (.cell s.length) (.lst []) (s5 ++ [.lst (ws.map .str)]) = .ok (.bl (!decide (ws = []))) (s5 ++ [.lst (ws.map .str)]) := by rw [cmpI_cl e5, hq2]; rfl
    have hcond : ev G (run G (n + 3)) (.and (.cmp .Eq (.var 6) (.con (.int 0))) (.one (.cmp .NotEq (.var 5) (.lst false .nil)))) [some (.cell j), some (nD m), some (nD y), some (nD k), some (.str p), some (.cell s.length), some (nD a)] (s5 ++ [.lst (ws.map .str)]) = .ok (.bl (decide (a = 0) && !decide (ws = []))) (s5 ++ [.lst (ws.map .str)]) := by
      by_cases h0 : a = 0
      · subst h0; simp [hc]
      · have h1 : ¬ (a : Int) = 0 := by omega
        simp [h0, h1]
    with_reducible refine ws_itB (decide (a = 0) && !decide (ws = [])) (s' := s5 ++ [.lst (ws.map .str)]) hcond (fun h => ?_) (fun h => ?_)
    · rw [Bool.and_eq_true] at h
      have hne : ws ≠ [] := by simpa using h.2
      with_reducible refine ws_exp ?_
      simp [e5]
      with_reducible refine W_mono (law_of_cell (n := n + 1) (s := s5 ++ [.lst (ws.map .str)]) j5.bag.app e5 (by omega) (by simpa using hne) (by simp; omega) (by simp)) ?_
      rintro d u ⟨hd, ju⟩
      obtain ⟨w, hw, rfl⟩ := List.mem_map.mp hd
      obtain ⟨s6, rfl, j6⟩ := ju.app (by rw [sl5]; exact jl)
      refine W_mono (fin w s6 (hs w hw) j6) fun _ _ q => ?_
      exact ws_done (ws_done q)
    · with_reducible refine ws_itB (decide (a < 3)) (s' := s5 ++ [.lst (ws.map .str)]) ?_ (fun h => ?_) (fun h => ?_)
      · have : decide ((a : Int) < 3) = decide (a < 3) := by rw [Bool.eq_iff_iff, decide_eq_true_eq, decide_eq_true_eq]; omega
        simp only [ev_cmp, ev_var, ev_con, List.getElem?_cons_succ, List.getElem?_cons_zero, gv_some, R_bind_ok, cmpI_ii, cmpO_lti, Option.map_some, R_opt_some, this]
      · with_reducible refine ws_exp ?_
        simp [view_cell, e5]
        with_reducible refine W_mono (law_of_str (n := n + 1) (s := s5 ++ [.lst (ws.map .str)]) j5.bag.app hp.ne (by omega)) ?_
        rintro _ u ⟨⟨c1, hc1, rfl⟩, ju⟩
        obtain ⟨s6, rfl, j6⟩ := ju.app (by rw [sl5]; exact jl)
        with_reducible refine W_mono (law_of_str (n := n + 1) (s := s6 ++ [.lst (ws.map .str)]) j6.bag.app hp.ne (by omega)) ?_
        rintro _ u ⟨⟨c2, hc2, rfl⟩, ju⟩
        obtain ⟨s7, rfl, j7⟩ := ju.app (by rw [j6.len, sl5]; exact jl)
        have hcs : ∀ c ∈ [c1, c2], c < 128 := fun c hc => by
          simp only [List.mem_cons, List.not_mem_nil, or_false] at hc
          rcases hc with rfl | rfl
          · exact hpc _ hc1
          · exact hpc _ hc2
        have hset : setX false (some ([c1, c2].map chD)) (s7 ++ [.lst (ws.map .str)]) = .ok (.lst ((uniq [c1, c2]).map chD)) (s7 ++ [.lst (ws.map .str)]) := by
          rw [setX_ch hcs (by simp)]; rfl
        have hul : (uniq [c1, c2]).length ≤ line := by have := uniq_len [c1, c2]; rw [line_val]; omega
        have hsub : SubW (uniq [c1, c2]) p := by
          refine .of ?_ (uniq_asc _) (fun c hc => ?_) hp.2.1
          · intro z
            have : c1 ∈ uniq [c1, c2] := (mem_uniq hcs).mpr (by simp)
            rw [z] at this; cases this
          · have := mem_uniq' hc
            simp only [List.mem_cons, List.not_mem_nil, or_false] at this
            rcases this with rfl | rfl
            · exact hc1
            · exact hc2
        have hset2 : setX false (some [chD c1, chD c2]) (s7 ++ [.lst (ws.map .str)]) = .ok (.lst ((uniq [c1, c2]).map chD)) (s7 ++ [.lst (ws.map .str)]) := hset
        simp [hset2, join_ch hul]
        refine W_mono (fin _ s7 hsub (j6.trans j7)) fun _ _ q => ?_
        exact ws_done (ws_done (ws_done q))
      · with_reducible refine ws_exp ?_
        simp [e5]
        with_reducible refine W_mono (law_lot_ok (n := n) (s := s5 ++ [.lst (ws.map .str)]) j5.bag.app hp) ?_
        rintro _ u ⟨⟨w, rfl, hw⟩, ju⟩
        obtain ⟨s6, rfl, j6⟩ := ju.app (by rw [sl5]; exact jl)
        refine W_mono (fin w s6 hw j6) fun _ _ q => ?_
        exact ws_done (ws_done (ws_done q))
  · rintro v s' ⟨o1, o2, ws, s4, rfl, rfl, j4, hl, hs⟩
    have sl := j4.len
    have hl : ws.length = z + 1 := by simpa using hl
    have e3 : (s4 ++ [Cell.lst (ws.map .str)])[s.length]? = some (.lst (ws.map .str)) := by rw [← sl]; simp
    with_reducible refine ws_retE (d := .tup (ws.map .str)) (s' := s4 ++ [Cell.lst (ws.map .str)]) ?_ ?_
    · simp [e3]
      exact tupO_ok (by simp [line_val]; omega)
    · have := thingsIn_sub hs
      simp [fin_plain, ← sl]
      exact ⟨⟨ws, rfl, ⟨fun e => by rw [e] at hl; simp at hl, by omega, fun w hw => (hs w hw).lot (by omega), by omega⟩, by omega, p, hp, by omega, hs⟩, j4⟩
end EV
set_option linter.all false
set_option maxRecDepth 100000
set_option maxHeartbeats 2000000
namespace EV
open PySem (Operator CmpOp)
def wAt (ws : List (List Nat)) (k : Nat) : List Nat := ws.getD k []
def Idx (ws : List (List Nat)) (left : List Nat) : Prop := (∀ k ∈ left, k < ws.length) ∧ left.length ≤ 9
theorem wAt_get {ws : List (List Nat)} {k : Nat} (h : k < ws.length) : ws[k]? = some (wAt ws k) := by
  unfold wAt; rw [List.getD_eq_getElem?_getD, List.getElem?_eq_getElem h]; rfl
theorem idxT_w {ws : List (List Nat)} {k : Nat} (h : k < ws.length) : idxD (.tup (ws.map .str)) (nD k) = some (.str (wAt ws k)) := by
  rw [idx_tup, List.getElem?_map, wAt_get h]; rfl
section
variable {n : Nat} {s : St} {ws : List (List Nat)} {left : List Nat} {k : Nat}
theorem Idx.few (hi : Idx ws left) : left.length ≤ 9 := hi.2
end
end EV
set_option linter.all false
set_option maxRecDepth 100000
set_option maxHeartbeats 2000000
namespace EV
open PySem (Operator CmpOp)
structure Fam (n : Nat) (f : List Nat) : Prop where
  ne : f ≠ []
  lt : ∀ k ∈ f, k < n
  asc : f.Pairwise (· < ·)
theorem Fam.few {n : Nat} {f : List Nat} (h : Fam n f) : f.length ≤ n := by
  have := List.Nodup.length_le_of_subset (nodup_of_asc h.asc) (l₂ := List.range n) fun k m => List.mem_range.mpr (h.lt k m)
  simpa using this
theorem mem_things {ws : List (List Nat)} (h : LotsOk ws) {c : Nat} : c ∈ thingsIn ws ↔ ∃ w ∈ ws, c ∈ w := by
  unfold thingsIn
  rw [mem_uniq h.lt, List.mem_flatten]
section
variable {n : Nat} {s : St} {ws : List (List Nat)} {f : List Nat}
end
end EV
set_option linter.all false
set_option maxRecDepth 100000
set_option maxHeartbeats 2000000
namespace EV
open PySem (Operator CmpOp)
theorem dup_repr {d : D} {m : Nat} (h : Rp d m) (hm : m ≤ 100000) (hd : datN 11 d = true) : ∃ t, biD .repr [.lst [d, d]] = some (.str t) := by
  refine repr_ok (m := 2 * (m + 2) + 3) (rp_lst fun x hx => ?_) (by rw [line_val]; omega) (datN_lst (n := 11) fun x hx => ?_)
  · have : x = d := by simpa using hx
    rw [this]; exact h
  · have : x = d := by simpa using hx
    rw [this]; exact hd
section
variable {n : Nat} {s : St} {ws : List (List Nat)} {f : List Nat}
end
end EV
set_option linter.all false
set_option maxRecDepth 100000
namespace EV
@[simp] theorem bitAnd_nat {a b : Nat} : PySem.Builtin.bitAnd (a : Int) (b : Int) = ((a &&& b : Nat) : Int) := by
  have h1 : (0 : Int) ≤ a := Int.natCast_nonneg a
  have h2 : (0 : Int) ≤ b := Int.natCast_nonneg b
  simp [PySem.Builtin.bitAnd, h1, h2]
theorem bitNot_nat (a : Nat) : PySem.Builtin.bitNot (a : Int) = -(a : Int) - 1 := by
  simp only [PySem.Builtin.bitNot]
theorem bitNot_neg (a : Nat) : PySem.Builtin.bitNot (-(a : Int) - 1) = a := by
  simp only [PySem.Builtin.bitNot]; omega
@[simp] theorem bitOr_nat {a b : Nat} : PySem.Builtin.bitOr (a : Int) (b : Int) = ((a ||| b : Nat) : Int) := by
  unfold PySem.Builtin.bitOr
  rw [bitNot_nat, bitNot_nat]
  have h1 : ¬ (0 : Int) ≤ -(a : Int) - 1 := by omega
  have h2 : ¬ (0 : Int) ≤ -(b : Int) - 1 := by omega
  simp only [PySem.Builtin.bitAnd, decide_eq_false h1, decide_eq_false h2, bitNot_neg, Int.toNat_natCast, bitNot_nat]
end EV
set_option linter.all false
set_option maxRecDepth 100000
namespace EV
end EV
set_option linter.all false
set_option maxRecDepth 100000
namespace EV
end EV
set_option linter.all false
set_option maxRecDepth 100000
set_option maxHeartbeats 2000000
namespace EV
open PySem (Operator CmpOp)
section
variable {n : Nat} {s : St} {ws : List (List Nat)} {bits : List Nat}
end
end EV
set_option linter.all false
set_option maxRecDepth 100000
set_option maxHeartbeats 2000000
namespace EV
open PySem (Operator CmpOp)
def Coil (s : St) (j N : Nat) : Prop := ∃ a b c : Int, s[j]? = some (.lst [.int a, .int b, .int c]) ∧ 0 ≤ a ∧ (0 ≤ b ∧ b < 2147483563) ∧ 0 ≤ c ∧ c ≤ (N : Int)
def CS (j N : Nat) (s s' : St) : Prop := (∃ c, s' = s.set j c) ∧ Coil s' j N
section
variable {s t u : St} {j N M : Nat}
theorem Coil.lt (h : Coil s j N) : j < s.length := by
  obtain ⟨_, _, _, e, _⟩ := h
  exact (List.getElem?_eq_some_iff.mp e).1
theorem Coil.refl (h : Coil s j N) : CS j N s s := by
  obtain ⟨a, b, c, e, _⟩ := id h
  exact ⟨⟨_, set_same e⟩, h⟩
theorem CS.trans (h : CS j N s t) (k : CS j M t u) : CS j M s u := by
  obtain ⟨⟨c, rfl⟩, _⟩ := h
  obtain ⟨⟨d, rfl⟩, q⟩ := k
  exact ⟨⟨d, List.set_set ..⟩, q⟩
theorem CS.len (h : CS j N s t) : t.length = s.length := by
  obtain ⟨⟨c, rfl⟩, _⟩ := h; simp
theorem CS.ne {i : Nat} (h : CS j N s t) (hi : i ≠ j) : t[i]? = s[i]? := by
  obtain ⟨⟨c, rfl⟩, _⟩ := h
  exact List.getElem?_set_ne (Ne.symm hi)
theorem Coil.app (h : Coil s j N) : Coil (s ++ t) j N := by
  have := h.lt
  obtain ⟨a, b, c, e, r⟩ := h
  exact ⟨a, b, c, by rw [List.getElem?_append_left this, e], r⟩
theorem CS.app (hj : j < s.length) (h : CS j N (s ++ t) u) : ∃ s', u = s' ++ t ∧ CS j N s s' := by
  obtain ⟨⟨c, rfl⟩, a, b, d, e, r⟩ := h
  refine ⟨s.set j c, List.set_append_left _ _ hj, ⟨c, rfl⟩, a, b, d, ?_, r⟩
  rw [List.set_append_left _ _ hj, List.getElem?_append_left (by simpa using hj)] at e
  exact e
theorem CS.fin (h : CS j N s u) : CS j N s (u.take s.length) := by
  rw [List.take_of_length_le (by rw [h.len]; exact Nat.le_refl _)]; exact h
end
section
variable {n : Nat} {s s8 : St} {j N m y k a : Nat} {b : Bool} {p w : List Nat} {ws : List (List Nat)} {T : D → St → Prop} {B Ct : Env → St → Prop}
end
end EV
set_option linter.all false
set_option maxRecDepth 100000
set_option maxHeartbeats 2000000
namespace EV
open PySem (Operator CmpOp)
end EV
set_option linter.all false
set_option maxRecDepth 100000
set_option maxHeartbeats 2000000
namespace EV
open PySem (Operator CmpOp)
section
variable {n : Nat} {s : St} {ws : List (List Nat)} {f : List Nat}
end
end EV
set_option linter.all false
set_option maxRecDepth 100000
set_option maxHeartbeats 2000000
namespace EV
end EV
set_option linter.all false
set_option maxRecDepth 100000
set_option maxHeartbeats 2000000
namespace EV
open PySem (Operator CmpOp)
section
variable {n : Nat} {s : St} {ws : List (List Nat)}
end
end EV
set_option linter.all false
set_option maxRecDepth 100000
set_option maxHeartbeats 2000000
namespace EV
open PySem (Operator CmpOp)
section
variable {n : Nat} {s : St} {ws : List (List Nat)} {left : List Nat} {k : Nat}
end
end EV
set_option linter.all false
set_option maxRecDepth 100000
set_option maxHeartbeats 2000000
namespace EV
open PySem (Operator CmpOp)
theorem inD_tn {k : Nat} {f : List Nat} : inD (nD k) (.tup (f.map nD)) = some (decide (k ∈ f)) := by
  have ha : (atom (nD k) && (f.map nD).all atom || dat (nD k) && dat (.tup (f.map nD))) = true := by
    rw [Bool.or_eq_true]; left
    simp [atom]
  simp only [inD]
  rw [if_pos ha]
  congr 1
  rw [Bool.eq_iff_iff]
  simp only [List.any_eq_true, List.mem_map, decide_eq_true_eq]
  constructor
  · rintro ⟨_, ⟨a, ha, rfl⟩, e⟩
    simp only [eqD, decide_eq_true_eq] at e
    have : a = k := by omega
    exact this ▸ ha
  · intro h
    exact ⟨_, ⟨k, h, rfl⟩, by simp [eqD]⟩
@[simp] theorem in_tn {k : Nat} {f : List Nat} : cmpO .In (nD k) (.tup (f.map nD)) = some (decide (k ∈ f)) := by simp only [cmpO, inD_tn]
@[simp] theorem nin_tn {k : Nat} {f : List Nat} : cmpO .NotIn (nD k) (.tup (f.map nD)) = some (!decide (k ∈ f)) := by simp only [cmpO, inD_tn, Option.map_some]
section
variable {n : Nat} {s : St} {ws : List (List Nat)} {f : List Nat}
end
end EV
set_option linter.all false
set_option maxRecDepth 100000
set_option maxHeartbeats 2000000
namespace EV
open PySem (Operator CmpOp)
theorem datN_up : ∀ (n : Nat) (d : D), datN n d = true → datN (n + 1) d = true
  | n, .non, _ => by simp [datN]
  | n, .bl _, _ => by simp [datN]
  | n, .int _, _ => by simp [datN]
  | 0, .str s, h => by simpa [datN] using h
  | n + 1, .str s, h => by simpa [datN] using h
  | 0, .tup xs, h => by simp [datN] at h
  | 0, .lst xs, h => by simp [datN] at h
  | n + 1, .tup xs, h => by
    simp only [datN, List.all_eq_true] at h ⊢
    exact fun x hx => datN_up n x (h x hx)
  | n + 1, .lst xs, h => by
    simp only [datN, List.all_eq_true] at h ⊢
    exact fun x hx => datN_up n x (h x hx)
  | 0, .dct _ _, h => by simp [datN] at h
  | n + 1, .dct _ _, h => by simp [datN] at h
  | 0, .ins _ _, h => by simp [datN] at h
  | n + 1, .ins _ _, h => by simp [datN] at h
  | 0, .cell _, h => by simp [datN] at h
  | n + 1, .cell _, h => by simp [datN] at h
  | 0, .cls _, h => by simp [datN] at h
  | n + 1, .cls _, h => by simp [datN] at h
  | 0, .clo _ _, h => by simp [datN] at h
  | n + 1, .clo _ _, h => by simp [datN] at h
section
variable {G : Pg} {s : St}
end
section
variable {G : Pg} {s : St}
end
section
variable {n : Nat} {s : St} {ws : List (List Nat)}
end
end EV
set_option linter.all false
set_option maxRecDepth 100000
namespace EV
end EV
set_option linter.all false
set_option maxRecDepth 100000
set_option maxHeartbeats 2000000
namespace EV
end EV
set_option linter.all false
set_option maxRecDepth 100000
set_option maxHeartbeats 2000000
namespace EV
open PySem (Operator CmpOp)
section
variable {n : Nat} {s : St} {ws : List (List Nat)}
end
end EV
set_option linter.all false
set_option maxRecDepth 100000
set_option maxHeartbeats 2000000
namespace EV
open PySem (Operator CmpOp)
theorem lots_take {ws : List (List Nat)} (h : LotsOk ws) {m : Nat} (hm : 1 ≤ m ∧ m ≤ ws.length) : LotsOk (ws.take m) := by
  have e : (ws.take m).length = m := by rw [List.length_take]; omega
  have hs : ∀ w ∈ ws.take m, w ∈ ws := fun w hw => List.mem_of_mem_take hw
  refine ⟨?_, by have := h.few; omega, fun w hw => h.lot w (hs w hw), ?_⟩
  · intro z; rw [z] at e; simp at e; omega
  · refine Nat.le_trans (uniq_mono fun c hc => ?_) h.things
    obtain ⟨w, hw, hcw⟩ := List.mem_flatten.mp hc
    exact List.mem_flatten.mpr ⟨w, hs w hw, hcw⟩
section
variable {n : Nat} {s : St} {ws : List (List Nat)} {f : List Nat}
end
end EV
set_option linter.all false
set_option maxRecDepth 100000
set_option maxHeartbeats 2000000
namespace EV
end EV
set_option linter.all false
set_option maxRecDepth 100000
set_option maxHeartbeats 2000000
namespace EV
open PySem (Operator CmpOp)
section
variable {n : Nat} {s : St} {ws : List (List Nat)}
end
end EV
set_option linter.all false
set_option maxRecDepth 100000
set_option maxHeartbeats 2000000
namespace EV
open PySem (Operator CmpOp)
section
variable {n : Nat} {s : St} {ws : List (List Nat)}
end
end EV
set_option linter.all false
set_option maxRecDepth 100000
set_option maxHeartbeats 2000000
namespace EV
open PySem (Operator CmpOp)
section
variable {ws : List (List Nat)} {p : List Nat}
end
section
variable {n : Nat} {s : St} {ws : List (List Nat)}
end
end EV
set_option linter.all false
set_option maxRecDepth 100000
set_option maxHeartbeats 2000000
namespace EV
section
variable {ws : List (List Nat)}
end
end EV
set_option linter.all false
set_option maxRecDepth 100000
set_option maxHeartbeats 2000000
namespace EV
open PySem (Operator CmpOp)
section
variable {n : Nat} {s : St} {ws : List (List Nat)}
def Src (b : Nat) (s : St) (d : D) (xs : List D) : Prop := d = .lst xs ∨ ∃ q, b ≤ q ∧ d = .cell q ∧ s[q]? = some (.lst xs)
theorem Src.app {b : Nat} {s : St} {d : D} {xs : List D} (h : Src b s d xs) (t : St) : Src b (s ++ t) d xs := by
  rcases h with h | ⟨q, h1, h2, h3⟩
  · exact .inl h
  · exact .inr ⟨q, h1, h2, by rw [List.getElem?_append_left (List.getElem?_eq_some_iff.mp h3).1]; exact h3⟩
theorem Src.view {b : Nat} {s : St} {d : D} {xs : List D} (h : Src b s d xs) : view s d = .lst xs := by
  rcases h with h | ⟨q, h1, h2, h3⟩
  · rw [h]; rfl
  · rw [h2, view_cell, h3]; rfl
theorem Src.fin {s : St} {tl : St} {d : D} {xs : List D} (h : Src s.length (s ++ tl) d xs) (hp : plains xs = true) : EV.fin true s.length d (s ++ tl) = .ok (.lst xs) s := by
  rcases h with h | ⟨q, h1, h2, h3⟩
  · rw [h, fin_plain (by simpa using hp)]; simp
  · rw [h2]
    have hn : ¬ q < s.length := by omega
    simp [EV.fin, frz, hn, h3, plains_below _ hp]
end
end EV
set_option linter.all false
set_option maxRecDepth 100000
set_option maxHeartbeats 2000000
namespace EV
open PySem (Operator CmpOp)
section
variable {n : Nat} {s : St} {ws : List (List Nat)}
end
end EV
set_option linter.all false
set_option maxRecDepth 100000
set_option maxHeartbeats 2000000
namespace EV
open PySem (Operator CmpOp)
section
variable {n : Nat} {s : St} {ws : List (List Nat)}
end
end EV
set_option linter.all false
set_option maxRecDepth 100000
set_option maxHeartbeats 2000000
namespace EV
open PySem (Operator CmpOp)
section
variable {n : Nat} {s : St} {ws : List (List Nat)}
end
end EV
set_option linter.all false
set_option maxRecDepth 100000
set_option maxHeartbeats 2000000
namespace EV
open PySem (Operator CmpOp)
theorem law_bag_ok {n : Nat} {s : St} {k : Nat} {ns : List Int} (hk : k < 63) (hn : ns.length ≤ 63) : W (run G (n + 1) F_law_bag [.lst (ns.map .int), nD k] s) fun d s' => d = .cell s.length ∧ ∃ a b : Int, s' = s ++ [.lst [.int a, .int b, .int 0]] ∧ (0 ≤ a ∧ a < 2147483587) ∧ 0 ≤ b := by
  refine in_law_bag ?_
  have h0 : ∃ c : Int, ev G (run G n) (.ite (.cmp .Lt (.var 1) (.bi .len (.cons (.var 0) .nil))) (.idx (.var 0) (.var 1)) (.bin false .Add (.bin false .Mult (.con (.int 6151)) (.var 1)) (.con (.int 98317)))) [some (.lst (ns.map .int)), some (nD k), none, none] s = .ok (.int c) s := by
    by_cases h : k < ns.length
    · have h2 : (k : Int) < ns.length := by omega
      exact ⟨ns[k], by simp [h2, idx_lst, h]⟩
    · have h2 : ¬ (k : Int) < ns.length := by omega
      exact ⟨6151 * k + 98317, by simp [h2, bin_mulI (i := 6151) (.inl rfl)]⟩
  obtain ⟨c, h0⟩ := h0
  with_reducible refine ws_set (d := .int c) (s' := s) h0 ?_
  simp only [List.set_cons_succ, List.set_cons_zero]
  have h1 : ∃ xs : List Int, evIt G (run G n) (.iv (.ite (.cmp .GtE (.var 1) (.bi .len (.cons (.var 0) .nil))) (.sl false 0 (.var 0) .nil (.con (.int 3))) (.lst false .nil))) [some (.lst (ns.map .int)), some (nD k), some (.int c), none] s = .ok (xs.map .int, []) s := by
    have e : cut (ns.map D.int) none (some 3) = (ns.take 3).map D.int := by rw [cut_mapD]; exact congrArg (List.map D.int) (cut_take (k := 3))
    by_cases h : k < ns.length
    · have h2 : ¬ (ns.length : Int) ≤ k := by omega
      exact ⟨[], by simp [h2]⟩
    · have h2 : (ns.length : Int) ≤ k := by omega
      exact ⟨ns.take 3, by simp [-List.map_take, h2, e]⟩
  obtain ⟨xs, h1⟩ := h1
  with_reducible refine ws_for1 (fun _ v s' => ∃ (ch : Int) (o : Option D), v = [some (.lst (ns.map .int)), some (nD k), some (.int ch), o] ∧ s' = s) (s' := s) (xs := xs.map .int) (g := []) h1 ⟨_, _, rfl, rfl⟩ (fun _ _ _ _ => rfl) ?_ ?_
  · rintro j x v s' hx ⟨ch, o, rfl, rfl⟩
    obtain ⟨hj, rfl⟩ := map_at hx
    with_reducible refine ws_set (d := .int ((ch * 37 + xs[j]) % 2147483587)) (s' := s') ?_ (ws_done ⟨_, _, rfl, rfl⟩)
    simp [bin_mulI (j := 37) (.inr rfl), bin_modI (j := 2147483587) (by decide)]
  · rintro v s' ⟨ch, o, rfl, rfl⟩
    have hd : ∃ a : Int, 0 ≤ a ∧ ev G (run G n) (.ite (.or (.cmp .Lt (.var 2) (.con (.int 0))) (.one (.cmp .GtE (.var 2) (.bin false .Pow (.con (.int 10)) (.con (.int 18)))))) (.bi .abs (.cons (.var 2) .nil)) (.con (.int 0))) [some (.lst (ns.map .int)), some (nD k), some (.int ch), o] s' = .ok (.int a) s' := by
      by_cases h : ch < 0
      · exact ⟨-ch, by omega, by simp [h]⟩
      · by_cases h2 : (1000000000000000000 : Int) ≤ ch
        · exact ⟨ch, by omega, by simp [h, h2, bin_pow (i := 10) (j := 18) (by decide)]⟩
        · exact ⟨0, by omega, by simp [h, h2, bin_pow (i := 10) (j := 18) (by decide)]⟩
    obtain ⟨a, ha, hd⟩ := hd
    have hm := Int.emod_nonneg ch (show (2147483587 : Int) ≠ 0 by omega)
    have hm2 := Int.emod_lt_of_pos ch (show (0 : Int) < 2147483587 by omega)
    with_reducible refine ws_retE (d := .cell s'.length) (s' := s' ++ [.lst [.int (ch % 2147483587), .int a, .int 0]]) ?_ ?_
    · have e1 : ev G (run G n) (.bin false .Mod (.bi .int (.cons (.var 2) .nil)) (.con (.int 2147483587))) [some (.lst (ns.map .int)), some (nD k), some (.int ch), o] s' = .ok (.int (ch % 2147483587)) s' := by
        simp [bin_modI (j := 2147483587) (by decide)]
      simp only [ev_lst, evs_cons, evs_nil, e1, hd, R_bind_ok, R_map_ok, ev_con, List.length_cons, List.length_nil, Nat.reduceAdd, le_line3, if_true]
      exact alloc_t (plains_below _ (by simp))
    · simp only [EV.fin, W_ok]
      exact ⟨trivial, _, _, rfl, ⟨hm, hm2⟩, ha⟩
theorem law_drvB {n fr i : Nat} {M : Int} {s : St} {ns : List Int} {v : Env} (hM : 2 ≤ M ∧ M ≤ 63) (hn : ns.length ≤ 63) (hv : v[0]? = some (some (.lst (ns.map .int)))) (hi0 : i ≠ 0) (hi : i < v.length) (hr : ∀ (s : St) (j : Nat), Bag s j → W (run G (n + 1) fr [.cell j] s) fun d _ => d = .bl true) :
    W (ev G (run G (n + 1)) (.bi .all (.cons (.comp false (.one i) (.rng1 (.bi .max2 (.cons (.con (.int 2)) (.cons (.bi .min2 (.cons (.bi .len (.cons (.var 0) .nil)) (.cons (.con (.int M)) .nil))) .nil)))) (.con (.bl true)) (.call fr (.cons (.call F_law_bag (.cons (.var 0) (.cons (.var i) .nil)) []) .nil) [])) .nil)) v s) fun d _ => d = .bl true := by
  have hmx : ∃ m : Nat, m ≤ 63 ∧ evIt G (run G (n + 1)) (.rng1 (.bi .max2 (.cons (.con (.int 2)) (.cons (.bi .min2 (.cons (.bi .len (.cons (.var 0) .nil)) (.cons (.con (.int M)) .nil))) .nil)))) v s = .ok ((List.range m).map nD, []) s := by
    by_cases h1 : M < ns.length
    · refine ⟨M.toNat, by omega, ?_⟩
      by_cases h3 : M > 2
      · simp [hv, h1, h3]; rw [rgX_ok (by decide) (fits62_of (by omega))]; simp
      · have : M = 2 := by omega
        subst this
        simp [hv, h1]; rw [rgX_ok (by decide) (fits62_of (by omega))]; simp
    · by_cases h2 : (ns.length : Int) > 2
      · exact ⟨ns.length, hn, by simp [hv, h1, h2]; rw [rgX_ok (by decide) (fits62_of (by omega))]; simp⟩
      · exact ⟨2, by omega, by simp [hv, h1, h2]; rw [rgX_ok (by decide) (by decide)]; simp⟩
  obtain ⟨m, hm, he⟩ := hmx
  have hcomp : W (compL (cstep G (run G (n + 1)) (.one i) (.con (.bl true)) (.call fr (.cons (.call F_law_bag (.cons (.var 0) (.cons (.var i) .nil)) []) .nil) []) v) [] ((List.range m).map nD) s) fun acc _ => acc = (List.range m).map fun _ => .bl true := by
    refine W_compL (fun k acc _ => acc = (List.range k).map fun _ => D.bl true) (by simp) (fun _ _ _ _ => rfl) ?_ ?_
    · rintro k x acc s1 hx rfl
      obtain ⟨hk, rfl⟩ := range_at hx
      have g0 : (v.set i (some (nD k)))[0]? = some (some (.lst (ns.map .int))) := by rw [List.getElem?_set_ne hi0, hv]
      have g1 : (v.set i (some (nD k)))[i]? = some (some (nD k)) := List.getElem?_set_self hi
      rw [cstep_one]
      simp only [ev_con, tst_bl, R_calm_ok, R_bind_ok, if_true, ev_call, evs_cons, evs_nil, ev_var, g0, g1, gv_some, R_map_ok, callX_nil, W_map, W_bind, W_calm]
      with_reducible refine W_mono (law_bag_ok (n := n) (s := s1) (k := k) (by omega) hn) ?_
      intro d s2 hd
      have hd1 := hd.1
      obtain ⟨a, b, hs, ha, hb⟩ := hd.2
      clear hd
      rw [hd1]
      have hj : Bag s2 s1.length := ⟨a, b, 0, by rw [hs]; simp, ha, hb, by omega⟩
      simp only [W_ok, callX_nil]
      with_reducible refine W_mono (hr s2 s1.length hj) ?_
      intro d s3 hd
      rw [hd, List.range_succ, List.map_append]; rfl
    · rintro acc s1 e
      rw [e, List.length_map, List.length_range]
  simp only [ev_bi, evs_cons, evs_nil, ev_comp, he, R_bind_ok, R_map_ok, W_bind, W_map]
  refine W_mono hcomp ?_
  intro acc s1 e
  rw [e, if_pos (by rw [List.length_map, List.length_range, line_val]; omega)]
  simp only [alloc_f, W_ok, bi_all, view_lst, all_mapF]
  simp
end EV
set_option linter.all false
set_option maxRecDepth 100000
set_option maxHeartbeats 2000000
namespace EV
open PySem (Operator CmpOp)
theorem datN_le {m n : Nat} (h : m ≤ n) {d : D} (k : datN m d = true) : datN n d = true := by
  induction h with
  | refl => exact k
  | step _ ih => exact datN_up _ _ ih
theorem dat_plain : ∀ (n : Nat) (d : D), datN n d = true → plain d = true
  | n, .non, _ => by simp
  | n, .bl _, _ => by simp
  | n, .int _, _ => by simp
  | n, .str _, _ => by simp
  | 0, .tup xs, h => by simp [datN] at h
  | 0, .lst xs, h => by simp [datN] at h
  | n + 1, .tup xs, h => by
    simp only [datN, List.all_eq_true] at h
    rw [plain_tup]
    exact plains_mem fun x hx => dat_plain n x (h x hx)
  | n + 1, .lst xs, h => by
    simp only [datN, List.all_eq_true] at h
    rw [plain_lst]
    exact plains_mem fun x hx => dat_plain n x (h x hx)
  | 0, .dct _ _, h => by simp [datN] at h
  | n + 1, .dct _ _, h => by simp [datN] at h
  | 0, .ins _ _, h => by simp [datN] at h
  | n + 1, .ins _ _, h => by simp [datN] at h
  | 0, .cell _, h => by simp [datN] at h
  | n + 1, .cell _, h => by simp [datN] at h
  | 0, .cls _, h => by simp [datN] at h
  | n + 1, .cls _, h => by simp [datN] at h
  | 0, .clo _ _, h => by simp [datN] at h
  | n + 1, .clo _ _, h => by simp [datN] at h
def Len (m : Nat) (d : D) : Prop := ∀ ys, d = .tup ys → ys.length ≤ m
structure Small (n m : Nat) (d : D) : Prop where
  ok : datN n d = true ∨ ∃ ks vs, d = .dct ks vs ∧ plains vs = true
  len : ∀ ys, d = .tup ys → ys.length ≤ m ∧ ∀ y ∈ ys, Len m y
theorem Small.plain {n m : Nat} {d : D} (h : Small n m d) : plain d = true := by
  rcases h.ok with k | ⟨ks, vs, rfl, k⟩
  · exact dat_plain n d k
  · simpa using k
structure Base (n m : Nat) (xs : List D) : Prop where
  dat : ∀ x ∈ xs, datN n x = true
  few : xs.length ≤ m
  len : ∀ x ∈ xs, Len m x
theorem Base.small {n m : Nat} {xs : List D} (h : Base n m xs) : Small (n + 1) m (.tup xs) := ⟨.inl (datN_tup (n := n) h.dat), fun ys e => by
  rw [← D.tup.inj e]; exact ⟨h.few, h.len⟩⟩
section
variable {n : Nat} {s : St} {ws : List (List Nat)}
end
end EV
set_option linter.all false
set_option maxRecDepth 100000
set_option maxHeartbeats 2000000
namespace EV
open PySem (Operator CmpOp)
section
variable {n : Nat} {s : St} {ws : List (List Nat)}
end
end EV
set_option linter.all false
set_option maxRecDepth 100000
set_option maxHeartbeats 2000000
namespace EV
open PySem (Operator CmpOp)
section
variable {n : Nat} {s : St} {ws : List (List Nat)}
end
end EV
set_option linter.all false
set_option maxRecDepth 100000
namespace EV
open PySem (Operator CmpOp)
end EV
set_option linter.all false
set_option maxRecDepth 100000
set_option maxHeartbeats 2000000
namespace EV
open PySem (Operator CmpOp)
section
variable {n : Nat} {s : St} {ws : List (List Nat)}
end
end EV
set_option linter.all false
set_option maxRecDepth 100000
set_option maxHeartbeats 2000000
namespace EV
open PySem (Operator CmpOp)
structure Sm (n m : Nat) (d : D) : Prop where
  dat : datN n d = true
  rp : Rp d m
  inn : ∀ ys, d = .tup ys → ys.length ≤ 30 ∧ ∀ y ∈ ys, ∀ zs, y = .tup zs → zs.length ≤ 30
theorem Sm.mono {n m n' m' : Nat} {d : D} (h : Sm n m d) (h1 : n ≤ n') (h2 : m ≤ m') : Sm n' m' d := ⟨datN_le h1 h.dat, h.rp.mono h2, h.inn⟩
theorem Sm.plain {n m : Nat} {d : D} (h : Sm n m d) : plain d = true := dat_plain n d h.dat
theorem Sm.dat12 {n m : Nat} {d : D} (h : Sm n m d) (hn : n ≤ 12) : EV.dat d = true := datN_le hn h.dat
section
variable {n : Nat} {s : St} {j N m : Nat}
end
end EV
set_option linter.all false
set_option maxRecDepth 100000
set_option maxHeartbeats 2000000
namespace EV
open PySem (Operator CmpOp)
def CE (j M : Nat) (s s' : St) : Prop := ∃ s1 tl, s' = s1 ++ tl ∧ CS j M s s1
theorem CE.step {j M M' : Nat} {s s' u : St} (hj : j < s.length) (h : CE j M s s') (k : CS j M' s' u) : CE j M' s u := by
  obtain ⟨s1, tl, rfl, c⟩ := h
  obtain ⟨s2, rfl, c2⟩ := k.app (by rw [c.len]; exact hj)
  exact ⟨s2, tl, rfl, c.trans c2⟩
def reprT (d : D) : List Nat := (reprD d).getD []
theorem Sm.repr {n m : Nat} {d : D} (h : Sm n m d) (hn : n ≤ 12) (hm : m ≤ line) : reprD d = some (reprT d) ∧ biD .repr [d] = some (.str (reprT d)) := by
  obtain ⟨t, e, l⟩ := h.rp
  have e1 : reprD d = some (reprT d) := by unfold reprT; rw [e]; rfl
  have hl : (reprT d).length ≤ line := by rw [e] at e1; rw [← Option.some.inj e1]; omega
  refine ⟨e1, ?_⟩
  simp only [biD, h.dat12 hn, if_true, e1, Option.bind_some, hl]
section
variable {n : Nat} {s : St} {ws : List (List Nat)}
end
end EV
set_option linter.all false
set_option maxRecDepth 100000
set_option maxHeartbeats 2000000
namespace EV
open PySem (Operator CmpOp)
section
variable {n : Nat} {s : St} {ws : List (List Nat)}
end
end EV
set_option linter.all false
set_option maxRecDepth 100000
set_option maxHeartbeats 2000000
namespace EV
open PySem (Operator CmpOp)
section
variable {n : Nat} {s : St}
end
end EV
set_option linter.all false
set_option maxRecDepth 100000
set_option maxHeartbeats 2000000
namespace EV
open PySem (Operator CmpOp)
section
variable {n : Nat} {s : St} {bits : List Nat}
end
end EV
set_option linter.all false
set_option maxRecDepth 100000
set_option maxHeartbeats 2000000
namespace EV
end EV
set_option linter.all false
set_option maxRecDepth 100000
set_option maxHeartbeats 2000000
namespace EV
open PySem (Operator CmpOp)
section
variable {n : Nat} {s : St} {ws : List (List Nat)}
end
end EV
set_option linter.all false
set_option maxRecDepth 100000
set_option maxHeartbeats 2000000
namespace EV
open PySem (Operator CmpOp)
section
variable {n : Nat} {s : St} {ws : List (List Nat)}
end
end EV
set_option linter.all false
set_option maxRecDepth 100000
set_option maxHeartbeats 2000000
namespace EV
open PySem (Operator CmpOp)
section
variable {n : Nat} {s : St} {ws : List (List Nat)}
theorem lot_by {w : List Nat} (h : (decide (w ≠ []) && (w.all fun c => decide (c ∈ LET)) && decide (w.Pairwise (· < ·)) && decide (w.length ≤ 8)) = true) : Lot w := by
  simp only [Bool.and_eq_true, decide_eq_true_eq, List.all_eq_true] at h
  exact ⟨⟨h.1.1.1, h.1.1.2, h.1.2⟩, h.2⟩
theorem lots_by {ws : List (List Nat)} (h1 : ws ≠ []) (h2 : ws.length ≤ 9) (h3 : (ws.all fun w => decide (w ≠ []) && (w.all fun c => decide (c ∈ LET)) && decide (w.Pairwise (· < ·)) && decide (w.length ≤ 8)) = true) (h4 : (thingsIn ws).length ≤ 8) : LotsOk ws :=
  ⟨h1, h2, fun w hw => lot_by (List.all_eq_true.mp h3 w hw), h4⟩
end
end EV
set_option linter.all false
set_option maxRecDepth 100000
set_option maxHeartbeats 2000000
namespace EV
open PySem (Operator CmpOp)
theorem dat_nl {l : List Nat} : dat (.lst (l.map nD)) = true := datN_lst (n := 11) fun x hx => by
  obtain ⟨k, _, rfl⟩ := List.mem_map.mp hx
  exact datN_nat
section
variable {n : Nat} {s : St} {ws : List (List Nat)}
abbrev wsD (ws : List (List Nat)) : D := .tup (ws.map .str)
end
end EV
set_option linter.all false
set_option maxRecDepth 100000
set_option maxHeartbeats 2000000
namespace EV
open PySem (Operator CmpOp)
def PartN (d : D) : Prop := Sm 1 1863 d
structure NoTup (d : D) : Prop where
  pl : plain d = true
  nt : ∀ xs, d ≠ .tup xs
  vw : ∀ S, view S d = d
  ty : ∀ S, isiX G d .tuple S = .ok (.bl false) S
def PapN (d : D) : Prop := (∃ xs, d = .tup xs ∧ xs.length ≤ 100 ∧ ∀ x ∈ xs, PartN x) ∨ NoTup d
theorem PapN.plain {d : D} (h : PapN d) : plain d = true := by
  rcases h with ⟨xs, rfl, _, h⟩ | h
  · rw [plain_tup]; exact plains_mem fun x hx => (h x hx).plain
  · exact h.pl
section
variable {n : Nat} {s : St} {ws : List (List Nat)}
theorem eq_nL {f g : List Nat} : cmpO .Eq (.lst (f.map nD)) (.lst (g.map nD)) = some (decide (f = g)) := by
  have hn : ∀ l : List Nat, nob (.lst (l.map nD)) = true := fun l => by
    simp only [nob]; exact nobs_map fun k _ => rfl
  simp only [cmpO]
  rw [eqO_nob (hn _) (hn _) dat_nl dat_nl]
  congr 1
  rw [Bool.eq_iff_iff, decide_eq_true_eq, decide_eq_true_eq]
  constructor
  · intro e
    exact (List.map_inj_right fun a b h => by rw [nD_inj] at h; exact h).mp (D.lst.inj e)
  · intro e; rw [e]
end
end EV
set_option linter.all false
set_option maxRecDepth 100000
set_option maxHeartbeats 2000000
namespace EV
open PySem (Operator CmpOp)
section
variable {n : Nat} {s : St} {ws : List (List Nat)}
end
end EV
set_option linter.all false
set_option maxRecDepth 100000
set_option maxHeartbeats 2000000
namespace EV
open PySem (Operator CmpOp)
section
variable {n : Nat} {s : St} {ws : List (List Nat)}
end
end EV
set_option linter.all false
set_option maxRecDepth 100000
set_option maxHeartbeats 2000000
namespace EV
open PySem (Operator CmpOp)
def PapB (d : D) : Prop := (∃ xs, d = .tup xs ∧ xs.length ≤ 100 ∧ ∀ x ∈ xs, datN 11 x = true) ∨ NoTup d
theorem PapB.plain {d : D} (h : PapB d) : plain d = true := by
  rcases h with ⟨xs, rfl, _, h⟩ | h
  · rw [plain_tup]; exact plains_mem fun x hx => dat_plain 11 x (h x hx)
  · exact h.pl
section
variable {n : Nat} {s : St} {ws : List (List Nat)}
end
end EV
set_option linter.all false
set_option maxRecDepth 100000
set_option maxHeartbeats 2000000
namespace EV
open PySem (Operator CmpOp)
section
variable {n : Nat} {s : St} {ws : List (List Nat)}
end
end EV
set_option linter.all false
set_option maxRecDepth 100000
set_option maxHeartbeats 2000000
namespace EV
open PySem (Operator CmpOp)
def gcdL (zs : List Int) : Nat := zs.foldl (fun g z => Nat.gcd z.natAbs g) 0
theorem gcdL_snoc {zs : List Int} {z : Int} : gcdL (zs ++ [z]) = Nat.gcd z.natAbs (gcdL zs) := by simp [gcdL]
theorem gcd_lt {a b m : Nat} (ha : a < m) (hb : b < m) : Nat.gcd a b < m := by
  rcases Nat.eq_zero_or_pos a with e | e
  · subst e; rw [Nat.gcd_zero_left]; exact hb
  · exact Nat.lt_of_le_of_lt (Nat.gcd_le_left _ e) ha
theorem gcdL_lt {m : Nat} (hm : 0 < m) {zs : List Int} (h : ∀ z ∈ zs, z.natAbs < m) : gcdL zs < m := by
  have : ∀ (zs : List Int) (g : Nat), g < m → (∀ z ∈ zs, z.natAbs < m) → zs.foldl (fun g z => Nat.gcd z.natAbs g) g < m := by
    intro zs
    induction zs with
    | nil => intro g hg _; exact hg
    | cons z zs ih =>
      intro g hg h
      exact ih _ (gcd_lt (h z List.mem_cons_self) hg) fun y hy => h y (List.mem_cons_of_mem _ hy)
  exact this zs 0 hm h
theorem gcdL_dvd {zs : List Int} : ∀ z ∈ zs, (gcdL zs : Int) ∣ z := by
  have : ∀ (zs : List Int) (g : Nat), (zs.foldl (fun g z => Nat.gcd z.natAbs g) g ∣ g) ∧ ∀ z ∈ zs, zs.foldl (fun g z => Nat.gcd z.natAbs g) g ∣ z.natAbs := by
    intro zs
    induction zs with
    | nil => intro g; exact ⟨Nat.dvd_refl _, by simp⟩
    | cons z zs ih =>
      intro g
      obtain ⟨h1, h2⟩ := ih (Nat.gcd z.natAbs g)
      refine ⟨Nat.dvd_trans h1 (Nat.gcd_dvd_right _ _), fun y hy => ?_⟩
      rcases List.mem_cons.mp hy with rfl | hy
      · exact Nat.dvd_trans h1 (Nat.gcd_dvd_left _ _)
      · exact h2 y hy
  intro z hz
  exact Int.ofNat_dvd_left.mpr ((this zs 0).2 z hz)
theorem gcdL_pos {zs : List Int} (h : ∃ z ∈ zs, z ≠ 0) : 0 < gcdL zs := by
  obtain ⟨z, hz, h0⟩ := h
  rcases Nat.eq_zero_or_pos (gcdL zs) with e | e
  · have := gcdL_dvd z hz
    rw [e] at this
    exact absurd (Int.zero_dvd.mp this) h0
  · exact e
def fibP : Nat → Nat × Nat
  | 0 => (0, 1)
  | n + 1 => ((fibP n).2, (fibP n).1 + (fibP n).2)
def fibN (n : Nat) : Nat := (fibP n).1
theorem fib_succ (n : Nat) : fibN (n + 2) = fibN n + fibN (n + 1) := rfl
def Near (m a b : Nat) : Prop := b < fibN (m + 1) ∨ (a < fibN (m + 2) ∧ fibN (m + 1) ≤ b ∧ b ≤ a)
theorem near_step {m a b : Nat} (h : Near m a b) (hb : b ≠ 0) : ∃ k, m = k + 1 ∧ Near k b (a % b) := by
  have hr : a % b < b := Nat.mod_lt _ (Nat.pos_of_ne_zero hb)
  cases m with
  | zero =>
    rcases h with h | ⟨h1, h2, h3⟩
    · have : fibN (0 + 1) = 1 := rfl
      omega
    · have e1 : fibN (0 + 1) = 1 := rfl
      have e2 : fibN (0 + 2) = 1 := rfl
      omega
  | succ k =>
    refine ⟨k, rfl, ?_⟩
    rcases h with h | ⟨h1, h2, h3⟩
    · by_cases q : a % b < fibN (k + 1)
      · exact .inl q
      · exact .inr ⟨h, by omega, by omega⟩
    · have e := fib_succ (k + 1)
      have hd := Nat.div_add_mod a b
      have hq : 1 ≤ a / b := (Nat.one_le_div_iff (Nat.pos_of_ne_zero hb)).mpr h3
      have hbr : b * 1 ≤ b * (a / b) := Nat.mul_le_mul_left _ hq
      refine .inl ?_
      have : k + 1 + 2 = k + 3 := rfl
      have e3 : fibN (k + 1 + 1) ≤ b := h2
      omega
section
variable {n : Nat} {s : St}
theorem abs_nat {z : Int} : biD .abs [.int z] = some (nD z.natAbs) := by
  show some (D.int (if z < 0 then -z else z)) = _
  congr 2
  split <;> omega
theorem bi_intI {G : Pg} {κ : Nat → List D → St → R D} {z : Int} : biI G κ .int [.int z] s = .ok (.int z) s := rfl
theorem bi_absI {G : Pg} {κ : Nat → List D → St → R D} {z : Int} : biI G κ .abs [.int z] s = .ok (nD z.natAbs) s := by
  show R.opt (biD .abs [.int z]) s = _
  rw [abs_nat]; rfl
def shI (zs : List Int) (s : St) (k : Nat) (v : Env) (s' : St) : Prop := (∃ o2 o3 o4 o5, v = [some (.lst (zs.map .int)), some (nD (gcdL (zs.take k))), o2, o3, o4, o5]) ∧ s' = s
theorem law_shared_ok {zs : List Int} (h : ∀ z ∈ zs, z.natAbs < 2 ^ 260) : run G (n + 1) F_law_shared [.lst (zs.map .int)] s = .ok (nD (gcdL zs)) s := by
  apply eq_of_W
  refine in_law_shared ?_
  with_reducible refine ws_set (d := .int 0) (s' := s) (by simp) ?_
  simp only [List.set_cons_succ, List.set_cons_zero]
  with_reducible refine ws_for1 (shI zs s) (xs := zs.map .int) (g := []) (s' := s) (by simp) ?_ (fun _ _ _ _ => rfl) ?_ ?_
  · exact ⟨⟨_, _, _, _, rfl⟩, rfl⟩
  · rintro k x v s' hx ⟨⟨o2, o3, o4, o5, rfl⟩, rfl⟩
    obtain ⟨hk, rfl⟩ := map_at hx
    simp only [List.set_cons_succ, List.set_cons_zero]
    have htk : zs.take (k + 1) = zs.take k ++ [zs[k]] := by rw [List.take_add_one, List.getElem?_eq_getElem hk]; rfl
    have hz := h _ (List.getElem_mem hk)
    have hg : gcdL (zs.take k) < 2 ^ 260 := gcdL_lt (by decide) fun z hz => h z (List.mem_of_mem_take hz)
    have hnew : gcdL (zs.take (k + 1)) = Nat.gcd zs[k].natAbs (gcdL (zs.take k)) := by rw [htk, gcdL_snoc]
    have fin_ : ∀ {o3 : Option D}, WS (ex G (run G n) S_law_shared_2 [some (.lst (zs.map .int)), some (nD (gcdL (zs.take k))), some (.int zs[k]), o3, some (nD (Nat.gcd zs[k].natAbs (gcdL (zs.take k)))), some (.int 0)] s') (shI zs s' (k + 1)) (fun d s'_1 => W (fin true s'.length d s'_1) fun x y => x = nD (gcdL zs) ∧ y = s') (fun v s_1 => WS (ex G (run G n) S_law_shared_1 v s_1) (fun _ s'_1 => W (fin true s'.length .non s'_1) fun x y => x = nD (gcdL zs) ∧ y = s') (fun d s'_1 => W (fin true s'.length d s'_1) fun x y => x = nD (gcdL zs) ∧ y = s') (fun _ _ => False) (fun _ _ => False)) (shI zs s' (k + 1)) := fun {o3} => by
      with_reducible refine ws_set (d := nD (Nat.gcd zs[k].natAbs (gcdL (zs.take k)))) (s' := s') (by simp) (ws_done ?_)
      rw [← hnew]
      exact ⟨⟨_, _, _, _, rfl⟩, rfl⟩
    with_reducible refine ws_setT (is := [4, 5]) (d := .tup [nD zs[k].natAbs, nD (gcdL (zs.take k))]) (s' := s') ?_ rfl ?_
    · simp only [ev_tup, evs_cons, evs_nil, ev_bi, ev_var, List.getElem?_cons_succ, List.getElem?_cons_zero, gv_some, R_bind_ok, R_map_ok, bi_absI, List.length_cons, List.length_nil, Nat.zero_add, Nat.reduceAdd, le_line2, if_true]
    simp only [List.zip_cons_cons, List.zip_nil_left, List.zip_nil_right, List.foldl_cons, List.foldl_nil, List.set_cons_succ, List.set_cons_zero]
    generalize zs[k].natAbs = A at *
    generalize gcdL (zs.take k) = B at *
    with_reducible refine ws_for1 (fun t v s1 => (∃ (o3 : Option D) (a b : Nat), v = [some (.lst (zs.map .int)), some (nD B), some (.int zs[k]), o3, some (nD a), some (nD b)] ∧ Nat.gcd a b = Nat.gcd A B ∧ ∃ m, t + m ≤ 385 ∧ Near m a b) ∧ s1 = s') (xs := (List.range 400).map nD) (g := []) (s' := s') ?_ ?_ (fun _ _ _ _ => rfl) ?_ ?_
    · simp only [evIt_rng1, ev_con, R_bind_ok]
      rw [rgX_ok (by decide) (by decide)]
      rfl
    · exact ⟨⟨_, _, _, rfl, rfl, 385, by omega, .inl (Nat.lt_of_lt_of_le hg (by decide +kernel))⟩, rfl⟩
    · rintro t x v s1 hx ⟨⟨o3, a, b, rfl, hgc, m, hm, hn⟩, rfl⟩
      obtain ⟨ht, rfl⟩ := range_at hx
      simp only [List.set_cons_succ, List.set_cons_zero]
      by_cases hb : b = 0
      · subst hb
        rw [Nat.gcd_zero_right] at hgc
        subst hgc
        with_reducible refine ws_itT (s' := s1) (by simp) (ws_brk ?_)
        exact fin_
      · with_reducible refine ws_it0 (s' := s1) ?_ ?_
        · simp [hb]
        with_reducible refine ws_setT (is := [4, 5]) (d := .tup [nD b, nD (a % b)]) (s' := s1) ?_ rfl (ws_done ?_)
        · simp only [ev_tup, evs_cons, evs_nil, ev_bin, ev_bi, ev_var, List.getElem?_cons_succ, List.getElem?_cons_zero, gv_some, R_bind_ok, R_map_ok, bi_intI, view_int]
          rw [bin_modI (by omega)]
          simp
        obtain ⟨m', rfl, hn'⟩ := near_step hn hb
        exact ⟨⟨_, _, _, rfl, by rw [← hgc, Nat.gcd_comm a b, Nat.gcd_rec b a, Nat.gcd_comm], m', by omega, hn'⟩, rfl⟩
    · rintro v s1 ⟨⟨o3, a, b, rfl, hgc, m, hm, hn⟩, rfl⟩
      rw [List.length_map, List.length_range] at hm
      omega
  · rintro v s' ⟨⟨o2, o3, o4, o5, rfl⟩, rfl⟩
    rw [List.length_map, List.take_length]
    with_reducible refine ws_retE (d := nD (gcdL zs)) (s' := s') (by simp) (by simp [fin_plain])
def rB : Nat → Nat
  | 0 => 0
  | i + 1 => 2 * rB i + 1
structure RowB (L W e k : Nat) (row : List Int) : Prop where
  len : row.length = L + W
  small : ∀ z ∈ row, z.natAbs ≤ 2 ^ rB e
  last : row.getD (L + k) 0 ≠ 0
  zero : ∀ j, k < j → j < W → row.getD (L + j) 0 = 0
structure StepB (L W i k : Nat) (p : Nat × List Int) : Prop where
  lt : p.1 < L
  piv : p.2.getD p.1 0 ≠ 0
  len : p.2.length = L + W
  small : ∀ z ∈ p.2, z.natAbs ≤ 2 ^ rB i
  zero : ∀ j, k ≤ j → j < W → p.2.getD (L + j) 0 = 0
def comb (high low : Int) (row lead : List Int) : List Int := (List.range row.length).map fun j => high * row.getD j 0 - low * lead.getD j 0
def redL (row : List Int) : List Int := row.map fun z => z / (gcdL row : Int)
theorem getD_le {l : List Int} {m j : Nat} (h : ∀ z ∈ l, z.natAbs ≤ m) : (l.getD j 0).natAbs ≤ m := by
  rw [List.getD_eq_getElem?_getD]
  cases e : l[j]? with
  | none => simp
  | some z => exact h z (List.mem_of_getElem? e)
theorem comb_at {high low : Int} {row lead : List Int} {j : Nat} (h : j < row.length) : (comb high low row lead).getD j 0 = high * row.getD j 0 - low * lead.getD j 0 := by
  unfold comb
  rw [List.getD_eq_getElem?_getD, List.getElem?_map, List.getElem?_range h]; rfl
theorem comb_lt {high low : Int} {row lead : List Int} {a : Nat} (h1 : high.natAbs ≤ 2 ^ a) (h2 : low.natAbs ≤ 2 ^ a) (h3 : ∀ z ∈ row, z.natAbs ≤ 2 ^ a) (h4 : ∀ z ∈ lead, z.natAbs ≤ 2 ^ a) : ∀ z ∈ comb high low row lead, z.natAbs ≤ 2 ^ (2 * a + 1) := by
  intro z hz
  obtain ⟨j, hj, rfl⟩ := List.mem_map.mp hz
  have q1 := getD_le (j := j) h3
  have q2 := getD_le (j := j) h4
  have e1 : (high * row.getD j 0).natAbs ≤ 2 ^ a * 2 ^ a := by rw [Int.natAbs_mul]; exact Nat.mul_le_mul h1 q1
  have e2 : (low * lead.getD j 0).natAbs ≤ 2 ^ a * 2 ^ a := by rw [Int.natAbs_mul]; exact Nat.mul_le_mul h2 q2
  have e3 : 2 ^ (2 * a + 1) = 2 * (2 ^ a * 2 ^ a) := by rw [Nat.pow_succ, Nat.two_mul, Nat.pow_add]; omega
  rw [e3]
  generalize high * row.getD j 0 = x at e1 ⊢
  generalize low * lead.getD j 0 = y at e2 ⊢
  omega
theorem red_at {row : List Int} {j : Nat} : (redL row).getD j 0 = row.getD j 0 / (gcdL row : Int) := by
  unfold redL
  rw [List.getD_eq_getElem?_getD, List.getElem?_map, List.getD_eq_getElem?_getD]
  cases row[j]? with
  | none => simp
  | some z => rfl
theorem mem_getD {l : List Int} {j : Nat} (h : l.getD j 0 ≠ 0) : l.getD j 0 ∈ l := by
  rw [List.getD_eq_getElem?_getD] at *
  cases e : l[j]? with
  | none => rw [e] at h; exact absurd rfl h
  | some z => exact List.mem_of_getElem? e
theorem red_lt {row : List Int} {m : Nat} (h : ∀ z ∈ row, z.natAbs ≤ m) : ∀ z ∈ redL row, z.natAbs ≤ m := by
  intro z hz
  obtain ⟨y, hy, rfl⟩ := List.mem_map.mp hz
  exact Nat.le_trans (Int.natAbs_ediv_le_natAbs _ _) (h y hy)
theorem red_ne {row : List Int} {j : Nat} (h : row.getD j 0 ≠ 0) : (redL row).getD j 0 ≠ 0 := by
  rw [red_at]
  intro e
  have hd := gcdL_dvd _ (mem_getD h)
  have := Int.mul_ediv_cancel' hd
  rw [e, Int.mul_zero] at this
  exact h this.symm
theorem row_step {L W e k : Nat} {row : List Int} {p : Nat × List Int} (h : RowB L W e k row) (hp : StepB L W e k p) (hk : k < W) : RowB L W (e + 1) k (redL (comb (p.2.getD p.1 0) (row.getD p.1 0) row p.2)) := by
  have p2 : 0 < 2 ^ rB e := Nat.two_pow_pos _
  have hl : (comb (p.2.getD p.1 0) (row.getD p.1 0) row p.2).length = L + W := by simp [comb, h.len]
  have at_ : ∀ j, j < W → (comb (p.2.getD p.1 0) (row.getD p.1 0) row p.2).getD (L + j) 0 = p.2.getD p.1 0 * row.getD (L + j) 0 - row.getD p.1 0 * p.2.getD (L + j) 0 := fun j hj => comb_at (by rw [h.len]; omega)
  refine ⟨by rw [redL, List.length_map, hl], red_lt (comb_lt (getD_le hp.small) (getD_le h.small) h.small hp.small), red_ne ?_, fun j h1 h2 => ?_⟩
  · rw [at_ k hk, hp.zero k (Nat.le_refl _) hk, Int.mul_zero, Int.sub_zero]
    exact Int.mul_ne_zero hp.piv h.last
  · rw [red_at, at_ j h2, h.zero j h1 h2, hp.zero j (by omega) h2]; simp
theorem comb_ne {L W e k : Nat} {row : List Int} {p : Nat × List Int} (h : RowB L W e k row) (hp : StepB L W e k p) (hk : k < W) : ∃ z ∈ comb (p.2.getD p.1 0) (row.getD p.1 0) row p.2, z ≠ 0 := by
  have e1 : (comb (p.2.getD p.1 0) (row.getD p.1 0) row p.2).getD (L + k) 0 ≠ 0 := by
    rw [comb_at (by rw [h.len]; omega), hp.zero k (Nat.le_refl _) hk, Int.mul_zero, Int.sub_zero]
    exact Int.mul_ne_zero hp.piv h.last
  exact ⟨_, mem_getD e1, e1⟩
def row0 (ws : List (List Nat)) (k : Nat) : List Int := ((thingsIn ws).map fun c => b2i (decide (c ∈ wAt ws k))) ++ (List.range ws.length).map fun j => b2i (decide (j = k))
theorem row0_at {ws : List (List Nat)} {k j : Nat} (h : j < ws.length) : (row0 ws k).getD ((thingsIn ws).length + j) 0 = b2i (decide (j = k)) := by
  unfold row0
  rw [List.getD_eq_getElem?_getD, List.getElem?_append_right (by simp), List.length_map, Nat.add_sub_cancel_left, List.getElem?_map, List.getElem?_range h]; rfl
theorem row0_ok {ws : List (List Nat)} {k : Nat} (h : k < ws.length) : RowB (thingsIn ws).length ws.length 0 k (row0 ws k) := by
  refine ⟨by simp [row0], fun z hz => ?_, ?_, fun j h1 h2 => ?_⟩
  · rcases List.mem_append.mp hz with m | m
    · obtain ⟨c, _, rfl⟩ := List.mem_map.mp m
      unfold b2i; split <;> decide
    · obtain ⟨c, _, rfl⟩ := List.mem_map.mp m
      unfold b2i; split <;> decide
  · rw [row0_at h]; simp [b2i]
  · rw [row0_at h2, decide_eq_false (by omega)]; rfl
abbrev rwI (l : List Int) : D := .lst (l.map .int)
abbrev stD (p : Nat × List Int) : D := .tup [nD p.1, rwI p.2]
theorem idxI {l : List Int} {j : Nat} (h : j < l.length) : idxD (rwI l) (nD j) = some (.int (l.getD j 0)) := by
  rw [idx_lst, List.getElem?_map, List.getElem?_eq_getElem h, List.getD_eq_getElem?_getD, List.getElem?_eq_getElem h]; rfl
theorem plains_stD {l : List (Nat × List Int)} : plains (l.map stD) = true := plains_map (fun p => by simp) _
theorem plains_rwI {l : List (List Int)} : plains (l.map rwI) = true := plains_map (fun p => by simp) _
theorem rB_mono {i j : Nat} (h : i ≤ j) : rB i ≤ rB j := by
  induction h with
  | refl => exact Nat.le_refl _
  | step _ ih => rw [rB]; omega
theorem lt_up {a i j : Nat} (h : a ≤ 2 ^ rB i) (k : i ≤ j) : a ≤ 2 ^ rB j := Nat.le_trans h (Nat.pow_le_pow_right (by decide) (rB_mono k))
def lawRow (st : List (Nat × List Int)) (r : List Int) : List Int := st.foldl (fun row p => redL (comb (p.2.getD p.1 0) (row.getD p.1 0) row p.2)) r
def spotsF (L : Nat) (row : List Int) : List Nat := (List.range L).filter fun j => !decide (row.getD j 0 = 0)
def lawStep (ws : List (List Nat)) (S : List (Nat × List Int) × List (List Int)) (k : Nat) : List (Nat × List Int) × List (List Int) := match spotsF (thingsIn ws).length (lawRow S.1 (row0 ws k)) with
  | [] => (S.1, S.2 ++ [(lawRow S.1 (row0 ws k)).drop (thingsIn ws).length])
  | a :: _ => (S.1 ++ [(a, lawRow S.1 (row0 ws k))], S.2)
def lawSteps (ws : List (List Nat)) (k : Nat) : List (Nat × List Int) × List (List Int) := (List.range k).foldl (lawStep ws) ([], [])
theorem lawSteps_succ (ws : List (List Nat)) (k : Nat) : lawSteps ws (k + 1) = lawStep ws (lawSteps ws k) k := by
  unfold lawSteps
  rw [List.range_succ, List.foldl_append]; rfl
theorem lawRow_succ {st : List (Nat × List Int)} {r : List Int} {i : Nat} {p : Nat × List Int} (h : st[i]? = some p) : lawRow (st.take (i + 1)) r = redL (comb (p.2.getD p.1 0) ((lawRow (st.take i) r).getD p.1 0) (lawRow (st.take i) r) p.2) := by
  rw [List.take_add_one, h]
  unfold lawRow
  rw [List.foldl_append]; rfl
structure StI (ws : List (List Nat)) (k : Nat) (st : List (Nat × List Int)) (gn : List (List Int)) : Prop where
  few : st.length ≤ k
  fewg : gn.length ≤ k
  ok : ∀ i p, st[i]? = some p → StepB (thingsIn ws).length ws.length i k p
  gok : ∀ g ∈ gn, g.length = ws.length ∧ ∀ z ∈ g, z.natAbs < 2 ^ 256
  eq : lawSteps ws k = (st, gn)
def stpI (ws : List (List Nat)) (s : St) (k : Nat) (v : Env) (s' : St) : Prop := ∃ (st : List (Nat × List Int)) (gn : List (List Int)) (o1 o5 o6 o7 o8 o9 o10 o11 o12 o13 o14 : Option D), v = [some (.tup (ws.map .str)), o1, some (.lst ((thingsIn ws).map chD)), some (.cell s.length), some (.cell (s.length + 1)), o5, o6, o7, o8, o9, o10, o11, o12, o13, o14] ∧ s' = s ++ [.lst (st.map stD), .lst (gn.map rwI)] ∧ StI ws k st gn
section
variable {ws : List (List Nat)}
theorem law_steps_ok (h : LotsOk ws) (h7 : ws.length ≤ 9) : W (run G (n + 2) F_law_steps [.tup (ws.map .str)] s) fun d s' => (∃ (st : List (Nat × List Int)) (gn : List (List Int)), d = .tup [.lst (st.map stD), .lst (gn.map rwI)] ∧ gn.length ≤ 9 ∧ (∀ g ∈ gn, g.length = ws.length ∧ ∀ z ∈ g, z.natAbs < 2 ^ 256) ∧ lawSteps ws ws.length = (st, gn)) ∧ s' = s := by
  have hfew := h.few
  have hth := h.things
  have hlt : ∀ c ∈ ws.flatten, c < 128 := fun c hc => by
    obtain ⟨w, hw, hcw⟩ := List.mem_flatten.mp hc
    exact (h.lot w hw).lt hcw
  have hfl : ws.flatten.length < 4000 := by
    have := flat_len (k := 8) (ws := ws) fun w hw => (h.lot w hw).2
    omega
  have hfl2 : ws.flatten.length ≤ line := by rw [line_val]; omega
  refine in_law_steps ?_
  with_reducible refine ws_setT (is := [2, 3, 4]) (d := .tup [.lst ((thingsIn ws).map chD), .cell s.length, .cell (s.length + 1)]) (s' := s ++ [.lst [], .lst []]) ?_ rfl ?_
  · have jn : ∀ S, bmR false .join (.str []) [.tup (ws.map .str)] S = .ok (.str ws.flatten) S := fun S => by rw [bm_join, view_tup, join_strT hfl2]; rfl
    simp only [ev_tup, evs_cons, evs_nil, ev_sortset, ev_bm, ev_con, ev_lst, ev_var, List.getElem?_cons_succ, List.getElem?_cons_zero, gv_some, R_bind_ok, R_map_ok, view_str, ok_join, if_true, jn, items_str, setX_ch hlt hfl, alloc_f, List.length_nil, Nat.zero_le, alloc_tn]
    simp [thingsIn]
  simp only [List.zip_cons_cons, List.zip_nil_left, List.zip_nil_right, List.foldl_cons, List.foldl_nil, List.set_cons_succ, List.set_cons_zero]
  have hlenW : ∀ S : St, biI G (run G (n + 1)) .len [.tup (ws.map D.str)] S = .ok (nD ws.length) S := fun S => by simp
  have hlenL : ∀ S : St, biI G (run G (n + 1)) .len [.lst ((thingsIn ws).map chD)] S = .ok (nD (thingsIn ws).length) S := fun S => by simp
  with_reducible refine ws_for1 (stpI ws s) (xs := (List.range ws.length).map nD) (g := []) (s' := s ++ [.lst [], .lst []]) ?_ ?_ (fun _ _ _ _ => rfl) ?_ ?_
  · simp only [evIt_rng1, ev_bi, evs_cons, evs_nil, ev_var, List.getElem?_cons_succ, List.getElem?_cons_zero, gv_some, R_bind_ok, R_map_ok, hlenW]
    rw [rgX_ok (by decide) (fits62_of (by omega))]
    simp
  · exact ⟨[], [], _, _, _, _, _, _, _, _, _, _, _, rfl, rfl, ⟨by simp, by simp, by simp, by simp, rfl⟩⟩
  · rintro k x v s0 hx ⟨st, gn, o1, o5, o6, o7, o8, o9, o10, o11, o12, o13, o14, rfl, rfl, I⟩
    obtain ⟨hk, rfl⟩ := range_at hx
    simp only [List.set_cons_succ, List.set_cons_zero]
    obtain ⟨If, Ig, Iok, Igok, Ieq⟩ := I
    generalize hS : s ++ [Cell.lst (st.map stD), Cell.lst (gn.map rwI)] = S
    have hc0 : S[s.length]? = some (.lst (st.map stD)) := by rw [← hS]; simp
    have hc1 : S[s.length + 1]? = some (.lst (gn.map rwI)) := by rw [← hS, List.getElem?_append_right (by omega)]; simp
    have hw := idxT_w hk
    have e4 : ev G (run G (n + 1)) E_law_steps_4 [some (.tup (ws.map .str)), some (nD k), some (.lst ((thingsIn ws).map chD)), some (.cell s.length), some (.cell (s.length + 1)), o5, o6, o7, o8, o9, o10, o11, o12, o13, o14] S = .ok (rwI ((thingsIn ws).map fun c => b2i (decide (c ∈ wAt ws k)))) S := by
      have := comp_map (G := G) (κ := run G (n + 1)) (v := [some (.tup (ws.map .str)), some (nD k), some (.lst ((thingsIn ws).map chD)), some (.cell s.length), some (.cell (s.length + 1)), o5, o6, o7, o8, o9, o10, o11, o12, o13, o14]) (s := S) (i := 13) (it := .iv (.var 2)) (c := .con (.bl true)) (e := .bi .int (.cons (.cmp .In (.var 13) (.idx (.var 0) (.var 1))) .nil)) (xs := thingsIn ws) (enc := chD) (f := fun c => .int (b2i (decide (c ∈ wAt ws k)))) (g := []) (by simp) rfl (fun c hc => by
        simp [cstep_one, hw]) (by rw [line_val]; omega)
      unfold E_law_steps_4; rw [this, rwI, List.map_map]; rfl
    have e5 : ev G (run G (n + 1)) E_law_steps_5 [some (.tup (ws.map .str)), some (nD k), some (.lst ((thingsIn ws).map chD)), some (.cell s.length), some (.cell (s.length + 1)), o5, o6, o7, o8, o9, o10, o11, o12, o13, o14] S = .ok (rwI ((List.range ws.length).map fun j => b2i (decide (j = k)))) S := by
      have := comp_map (G := G) (κ := run G (n + 1)) (v := [some (.tup (ws.map .str)), some (nD k), some (.lst ((thingsIn ws).map chD)), some (.cell s.length), some (.cell (s.length + 1)), o5, o6, o7, o8, o9, o10, o11, o12, o13, o14]) (s := S) (i := 12) (it := .rng1 (.bi .len (.cons (.var 0) .nil))) (c := .con (.bl true)) (e := .bi .int (.cons (.cmp .Eq (.var 12) (.var 1)) .nil)) (xs := List.range ws.length) (enc := nD) (f := fun j => .int (b2i (decide (j = k)))) (g := []) (by
          simp only [evIt_rng1, ev_bi, evs_cons, evs_nil, ev_var, List.getElem?_cons_succ, List.getElem?_cons_zero, gv_some, R_bind_ok, R_map_ok, hlenW]
          rw [rgX_ok (by decide) (fits62_of (by omega))]
          simp) rfl (fun j hj => by
        have hh : decide ((j : Int) = (k : Int)) = decide (j = k) := by rw [Bool.eq_iff_iff, decide_eq_true_eq, decide_eq_true_eq]; omega
        simp only [cstep_one, List.set_cons_succ, List.set_cons_zero, ev_con, tst_bl, R_calm_ok, R_bind_ok, if_true, ev_bi, evs_cons, evs_nil, ev_cmp, ev_var, List.getElem?_cons_succ, List.getElem?_cons_zero, gv_some, R_map_ok, cmpI_ii, cmpO_eqi, hh, Option.map_some, R_opt_some, bi_intb]) (by rw [List.length_range, line_val]; omega)
      unfold E_law_steps_5; rw [this, rwI, List.map_map]; rfl
    with_reducible refine ws_set (d := rwI (row0 ws k)) (s' := S) ?_ ?_
    · simp only [ev_bin, e4, e5, R_bind_ok, view_lst]
      rw [bin_addL (by simp only [List.length_map, List.length_range, line_val]; omega)]
      simp [row0]
    simp only [List.set_cons_succ, List.set_cons_zero]
    with_reducible refine ws_forT (fun i v s' => (∃ (row : List Int) (o7 o8 o9 o10 o11 : Option D), v = [some (.tup (ws.map .str)), some (nD k), some (.lst ((thingsIn ws).map chD)), some (.cell s.length), some (.cell (s.length + 1)), some (rwI row), o6, o7, o8, o9, o10, o11, o12, o13, o14] ∧ RowB (thingsIn ws).length ws.length i k row ∧ row = lawRow (st.take i) (row0 ws k)) ∧ s' = S) (xs := st.map stD) (g := [(s.length, st.map stD)]) (s' := S) ?_ ?_ ?_ ?_ ?_
    · simp only [evIt_iv, ev_var, List.getElem?_cons_succ, List.getElem?_cons_zero, gv_some, R_bind_ok, view_cell, hc0, cellD_lst, items_lst, ivX_some, guard_cell, guardD_lst]
    · exact ⟨⟨_, _, _, _, _, _, rfl, row0_ok hk, rfl⟩, rfl⟩
    · rintro i v s' ⟨_, rfl⟩
      rw [okG_one, hc0]; simp
    · rintro i x v s' hx ⟨⟨row, o7, o8, o9, o10, o11, rfl, R, Rq⟩, rfl⟩
      rw [List.getElem?_map] at hx
      obtain ⟨p, hp, rfl⟩ := Option.map_eq_some_iff.mp hx
      have P := Iok i p hp
      have hi : i < st.length := (List.getElem?_eq_some_iff.mp hp).1
      refine ⟨_, rfl, ?_⟩
      simp only [List.zip_cons_cons, List.zip_nil_left, List.zip_nil_right, List.foldl_cons, List.foldl_nil, List.set_cons_succ, List.set_cons_zero]
      have i1 : idxD (rwI p.2) (nD p.1) = some (.int (p.2.getD p.1 0)) := idxI (by rw [P.len]; have := P.lt; omega)
      have i2 : idxD (rwI row) (nD p.1) = some (.int (row.getD p.1 0)) := idxI (by rw [R.len]; have := P.lt; omega)
      with_reducible refine ws_setT (is := [10, 11]) (d := .tup [.int (p.2.getD p.1 0), .int (row.getD p.1 0)]) (s' := s') ?_ rfl ?_
      · simp only [ev_tup, evs_cons, evs_nil, ev_idx, ev_var, List.getElem?_cons_succ, List.getElem?_cons_zero, gv_some, R_bind_ok, R_map_ok, view_lst, i1, i2, R_opt_some, List.length_cons, List.length_nil, Nat.zero_add, Nat.reduceAdd, le_line2, if_true]
      simp only [List.zip_cons_cons, List.zip_nil_left, List.zip_nil_right, List.foldl_cons, List.foldl_nil, List.set_cons_succ, List.set_cons_zero]
      have hlenR : ∀ S : St, biI G (run G (n + 1)) .len [rwI row] S = .ok (nD row.length) S := fun S => by simp
      have pw : (2 : Nat) ^ rB i < 2 ^ 4000 := Nat.pow_lt_pow_right (by decide) (Nat.lt_of_le_of_lt (rB_mono (show i ≤ 8 by omega)) (by decide))
      have p2 : 0 < 2 ^ rB i := Nat.two_pow_pos _
      have hrl := R.len
      have e3 : ev G (run G (n + 1)) E_law_steps_3 [some (.tup (ws.map .str)), some (nD k), some (.lst ((thingsIn ws).map chD)), some (.cell s.length), some (.cell (s.length + 1)), some (rwI row), o6, some (nD p.1), some (rwI p.2), o9, some (.int (p.2.getD p.1 0)), some (.int (row.getD p.1 0)), o12, o13, o14] s' = .ok (rwI (comb (p.2.getD p.1 0) (row.getD p.1 0) row p.2)) s' := by
        have := comp_map (G := G) (κ := run G (n + 1)) (v := [some (.tup (ws.map .str)), some (nD k), some (.lst ((thingsIn ws).map chD)), some (.cell s.length), some (.cell (s.length + 1)), some (rwI row), o6, some (nD p.1), some (rwI p.2), o9, some (.int (p.2.getD p.1 0)), some (.int (row.getD p.1 0)), o12, o13, o14]) (s := s') (i := 12) (it := .rng1 (.bi .len (.cons (.var 5) .nil))) (c := .con (.bl true)) (e := .bin false .Sub (.bin false .Mult (.var 10) (.idx (.var 5) (.var 12))) (.bin false .Mult (.var 11) (.idx (.var 8) (.var 12)))) (xs := List.range row.length) (enc := nD) (f := fun j => .int (p.2.getD p.1 0 * row.getD j 0 - row.getD p.1 0 * p.2.getD j 0)) (g := []) (by
            simp only [evIt_rng1, ev_bi, evs_cons, evs_nil, ev_var, List.getElem?_cons_succ, List.getElem?_cons_zero, gv_some, R_bind_ok, R_map_ok, hlenR]
            rw [rgX_ok (by decide) (fits62_of (by omega))]
            simp) rfl (fun j hj => by
          have hj := List.mem_range.mp hj
          have j1 : idxD (rwI row) (nD j) = some (.int (row.getD j 0)) := idxI hj
          have j2 : idxD (rwI p.2) (nD j) = some (.int (p.2.getD j 0)) := idxI (by rw [P.len]; omega)
          have m1 : ∀ S, binX false .Mult (.int (p.2.getD p.1 0)) (.int (row.getD j 0)) S = .ok (.int (p.2.getD p.1 0 * row.getD j 0)) S := fun S => bin_mulB (Nat.lt_of_le_of_lt (getD_le P.small) pw) (Nat.lt_of_le_of_lt (getD_le R.small) pw)
          have m2 : ∀ S, binX false .Mult (.int (row.getD p.1 0)) (.int (p.2.getD j 0)) S = .ok (.int (row.getD p.1 0 * p.2.getD j 0)) S := fun S => bin_mulB (Nat.lt_of_le_of_lt (getD_le R.small) pw) (Nat.lt_of_le_of_lt (getD_le P.small) pw)
          simp only [cstep_one, List.set_cons_succ, List.set_cons_zero, ev_con, tst_bl, R_calm_ok, R_bind_ok, if_true, ev_bin, ev_idx, ev_var, List.getElem?_cons_succ, List.getElem?_cons_zero, gv_some, R_map_ok, view_lst, j1, j2, R_opt_some, view_int, m1, m2, bin_subI]) (by rw [List.length_range, line_val]; omega)
        unfold E_law_steps_3; rw [this]
        simp [comb, List.map_map, Function.comp_def]
      with_reducible refine ws_set (d := rwI (comb (p.2.getD p.1 0) (row.getD p.1 0) row p.2)) (s' := s') e3 ?_
      simp only [List.set_cons_succ, List.set_cons_zero]
      have R2 := row_step R P hk
      have hq : redL (comb (p.2.getD p.1 0) (row.getD p.1 0) row p.2) = lawRow (st.take (i + 1)) (row0 ws k) := by rw [lawRow_succ hp, ← Rq]
      have hne := gcdL_pos (comb_ne R P hk)
      have hcl := comb_lt (getD_le P.small (j := p.1)) (getD_le R.small (j := p.1)) R.small P.small
      have hcm : ∀ z ∈ comb (p.2.getD p.1 0) (row.getD p.1 0) row p.2, z.natAbs < 2 ^ 260 := fun z hz => Nat.lt_of_le_of_lt (hcl z hz) (Nat.pow_lt_pow_right (by decide) (by
        have := rB_mono (show i ≤ 7 by omega)
        have : rB 7 = 127 := by decide
        omega))
      have hcn : (comb (p.2.getD p.1 0) (row.getD p.1 0) row p.2).length ≤ 20 := by simp [comb]; omega
      generalize comb (p.2.getD p.1 0) (row.getD p.1 0) row p.2 = C at *
      with_reducible refine ws_set (d := nD (gcdL C)) (s' := s') ?_ ?_
      · simp only [ev_call, evs_cons, evs_nil, ev_var, List.getElem?_cons_succ, List.getElem?_cons_zero, gv_some, R_bind_ok, R_map_ok, callX_nil, law_shared_ok (n := n) hcm]
      simp only [List.set_cons_succ, List.set_cons_zero]
      have hgl : gcdL C < 2 ^ 260 := gcdL_lt (by decide) hcm
      have p4 : (2 : Nat) ^ 260 ≤ 2 ^ 4000 := Nat.pow_le_pow_right (by decide) (by decide)
      have e2 : ev G (run G (n + 1)) E_law_steps_2 [some (.tup (ws.map .str)), some (nD k), some (.lst ((thingsIn ws).map chD)), some (.cell s.length), some (.cell (s.length + 1)), some (rwI C), o6, some (nD p.1), some (rwI p.2), some (nD (gcdL C)), some (.int (p.2.getD p.1 0)), some (.int (row.getD p.1 0)), o12, o13, o14] s' = .ok (rwI (redL C)) s' := by
        have := comp_map (G := G) (κ := run G (n + 1)) (v := [some (.tup (ws.map .str)), some (nD k), some (.lst ((thingsIn ws).map chD)), some (.cell s.length), some (.cell (s.length + 1)), some (rwI C), o6, some (nD p.1), some (rwI p.2), some (nD (gcdL C)), some (.int (p.2.getD p.1 0)), some (.int (row.getD p.1 0)), o12, o13, o14]) (s := s') (i := 14) (it := .iv (.var 5)) (c := .con (.bl true)) (e := .bin false .FloorDiv (.var 14) (.var 9)) (xs := C) (enc := D.int) (f := fun z => .int (z / (gcdL C : Int))) (g := []) (by simp) rfl (fun z hz => by
          simp only [cstep_one, List.set_cons_succ, List.set_cons_zero, ev_con, tst_bl, R_calm_ok, R_bind_ok, if_true, ev_bin, ev_var, List.getElem?_cons_succ, List.getElem?_cons_zero, gv_some, R_map_ok, view_int]
          rw [bin_divB (by omega) (by simpa using Nat.lt_of_lt_of_le hgl p4) (Nat.lt_of_lt_of_le (hcm z hz) p4)]
          simp only [R_calm_ok, R_map_ok]) (by rw [line_val]; omega)
        unfold E_law_steps_2; rw [this]
        simp [redL, List.map_map, Function.comp_def]
      with_reducible refine ws_set (d := rwI (redL C)) (s' := s') e2 (ws_done ?_)
      exact ⟨⟨_, _, _, _, _, _, rfl, R2, hq⟩, rfl⟩
    · rintro v s' ⟨⟨row, o7, o8, o9, o10, o11, rfl, R, Rq⟩, rfl⟩
      rw [List.length_map] at R
      rw [List.length_map, List.take_length] at Rq
      have hrl := R.len
      have e1 : ev G (run G (n + 1)) E_law_steps_1 [some (.tup (ws.map .str)), some (nD k), some (.lst ((thingsIn ws).map chD)), some (.cell s.length), some (.cell (s.length + 1)), some (rwI row), o6, o7, o8, o9, o10, o11, o12, o13, o14] s' = .ok (.lst (((List.range (thingsIn ws).length).filter fun j => !decide (row.getD j 0 = 0)).map nD)) s' := comp_fm (xs := List.range (thingsIn ws).length) (enc := nD) (p := fun j => !decide (row.getD j 0 = 0)) (f := nD) (g := []) (by
          simp only [evIt_rng1, ev_bi, evs_cons, evs_nil, ev_var, List.getElem?_cons_succ, List.getElem?_cons_zero, gv_some, R_bind_ok, R_map_ok, hlenL]
          rw [rgX_ok (by decide) (fits62_of (by omega))]
          simp) rfl (fun j hj => by
        have hj := List.mem_range.mp hj
        have j1 : idxD (rwI row) (nD j) = some (.int (row.getD j 0)) := idxI (by omega)
        simp only [cstep_one, List.set_cons_succ, List.set_cons_zero, ev_con, ev_cmp, ev_idx, ev_var, List.getElem?_cons_succ, List.getElem?_cons_zero, gv_some, R_bind_ok, view_lst, j1, R_opt_some, cmpI_ii, cmpO_nei, Option.map_some, tst_bl, R_calm_ok, R_map_ok]
        cases decide (row.getD j 0 = 0) <;> rfl) (by rw [List.length_range, line_val]; omega)
      with_reducible refine ws_set (d := .lst (((List.range (thingsIn ws).length).filter fun j => !decide (row.getD j 0 = 0)).map nD)) (s' := s') e1 ?_
      simp only [List.set_cons_succ, List.set_cons_zero]
      have hsp : ∀ j ∈ (List.range (thingsIn ws).length).filter (fun j => !decide (row.getD j 0 = 0)), j < (thingsIn ws).length ∧ row.getD j 0 ≠ 0 := fun j hj => by
        obtain ⟨h1, h2⟩ := List.mem_filter.mp hj
        exact ⟨List.mem_range.mp h1, by simpa using h2⟩
      generalize hspd : (List.range (thingsIn ws).length).filter (fun j => !decide (row.getD j 0 = 0)) = sp at hsp ⊢
      have eqn : cmpO .Eq (.lst (sp.map nD)) (.lst []) = some (decide (sp = [])) := eq_nL (f := sp) (g := [])
      have hun : ∀ i p, st[i]? = some p → StepB (thingsIn ws).length ws.length i (k + 1) p := fun i p e => by
        have P := Iok i p e
        exact ⟨P.lt, P.piv, P.len, P.small, fun j h1 h2 => P.zero j (by omega) h2⟩
      have hsl : s.length < s'.length := (List.getElem?_eq_some_iff.mp hc0).1
      cases sp with
      | nil =>
        with_reducible refine ws_itT (s' := s') ?_ ?_
        · simp only [ev_cmp, ev_lst, evs_nil, ev_var, List.getElem?_cons_succ, List.getElem?_cons_zero, gv_some, R_bind_ok, List.length_nil, Nat.zero_le, if_true, alloc_f, cmpI_ll, eqn]
          rfl
        with_reducible refine ws_expE (d := .non) (s' := s ++ [.lst (st.map stD), .lst ((gn ++ [row.drop (thingsIn ws).length]).map rwI)]) ?_ ?_
        · have hvc : view s' (.cell (s.length + 1)) = .lst (gn.map rwI) := by rw [view_cell, hc1]; rfl
          simp only [ev_bm, ev_sl, ev_bi, evs_cons, evs_nil, ev_var, List.getElem?_cons_succ, List.getElem?_cons_zero, gv_some, R_bind_ok, R_map_ok, hvc, ok_app, if_true, view_lst, hlenL, isNil_bi, isNil_nil, part_t, part_f, intX_int, sl_lst, alloc_f, cut_drop]
          have hpd : plains ((row.map D.int).drop (thingsIn ws).length) = true := plains_mem fun x hx => by
            obtain ⟨z, _, rfl⟩ := List.mem_map.mp (List.mem_of_mem_drop hx); rfl
          rw [app_ok (xs := gn.map rwI) hc1 (by rw [List.length_map, line_val]; omega) (plain_below _ (by rw [plain_lst]; exact hpd)), ← hS]
          simp [List.map_drop]
        refine ws_done (ws_done ?_)
        refine ⟨st, gn ++ [row.drop (thingsIn ws).length], _, _, _, _, _, _, _, _, _, _, _, rfl, rfl, ⟨by omega, by rw [List.length_append, List.length_singleton]; omega, hun, fun g hg => ?_, by rw [lawSteps_succ, Ieq]; unfold lawStep spotsF; dsimp only; rw [← Rq, hspd]⟩⟩
        rcases List.mem_append.mp hg with m | m
        · exact Igok g m
        · rw [List.mem_singleton.mp m]
          refine ⟨by rw [List.length_drop]; omega, fun z hz => ?_⟩
          have := lt_up (R.small z (List.mem_of_mem_drop hz)) (show st.length ≤ 8 by omega)
          exact Nat.lt_of_le_of_lt this (Nat.pow_lt_pow_right (by decide) (by decide))
      | cons a r =>
        obtain ⟨ha, hra⟩ := hsp a List.mem_cons_self
        with_reducible refine ws_ite ?_
        refine W_eq (a := .bl false) (s := s') ?_ ⟨false, rfl, nofun, fun _ => ?_⟩
        · simp only [ev_cmp, ev_lst, evs_nil, ev_var, List.getElem?_cons_succ, List.getElem?_cons_zero, gv_some, R_bind_ok, List.length_nil, Nat.zero_le, if_true, alloc_f, cmpI_ll, eqn]
          rfl
        with_reducible refine ws_expE (d := .non) (s' := s ++ [.lst ((st ++ [(a, row)]).map stD), .lst (gn.map rwI)]) ?_ (ws_done (ws_done ?_))
        · have hvc : view s' (.cell s.length) = .lst (st.map stD) := by rw [view_cell, hc0]; rfl
          simp only [ev_bm, ev_tup, ev_idx, ev_con, evs_cons, evs_nil, ev_var, List.getElem?_cons_succ, List.getElem?_cons_zero, gv_some, R_bind_ok, R_map_ok, hvc, ok_app, if_true, view_lst, List.map_cons, idx_lst0, R_opt_some, List.length_cons, List.length_nil, Nat.zero_add, Nat.reduceAdd, le_line2]
          rw [app_ok (xs := st.map stD) hc0 (by rw [List.length_map, line_val]; omega) (plain_below _ (by simp)), ← hS]
          simp
        refine ⟨st ++ [(a, row)], gn, _, _, _, _, _, _, _, _, _, _, _, rfl, rfl, ⟨by rw [List.length_append, List.length_singleton]; omega, by omega, fun i p e => ?_, Igok, by rw [lawSteps_succ, Ieq]; unfold lawStep spotsF; dsimp only; rw [← Rq, hspd]⟩⟩
        by_cases q : i < st.length
        · rw [List.getElem?_append_left q] at e
          exact hun i p e
        · have hi : i = st.length := by
            have := (List.getElem?_eq_some_iff.mp e).1
            rw [List.length_append, List.length_singleton] at this; omega
          subst hi
          simp at e
          subst e
          exact ⟨ha, hra, hrl, R.small, fun j h1 h2 => R.zero j (by omega) h2⟩
  · rintro v s0 ⟨st, gn, o1, o5, o6, o7, o8, o9, o10, o11, o12, o13, o14, rfl, rfl, I⟩
    rw [List.length_map, List.length_range] at I
    have hp1 : belows s.length (st.map stD) = true := plains_below _ plains_stD
    have hp2 : belows s.length (gn.map rwI) = true := plains_below _ plains_rwI
    with_reducible refine ws_retE (d := .tup [.cell s.length, .cell (s.length + 1)]) (s' := s ++ [.lst (st.map stD), .lst (gn.map rwI)]) ?_ ?_
    · simp
    · have hc1 : (s ++ [Cell.lst (st.map stD), Cell.lst (gn.map rwI)])[s.length + 1]? = some (.lst (gn.map rwI)) := by rw [List.getElem?_append_right (by omega)]; simp
      have hf : fin true s.length (.tup [.cell s.length, .cell (s.length + 1)]) (s ++ [Cell.lst (st.map stD), Cell.lst (gn.map rwI)]) = .ok (.tup [.lst (st.map stD), .lst (gn.map rwI)]) s := by
        have hn : ¬ s.length + 1 < s.length := by omega
        simp [EV.fin, frz, frzs, hp1, hp2, hc1, hn]
      rw [hf]
      refine ⟨_, _, rfl, ⟨st, gn, rfl, by have := I.fewg; omega, I.gok, I.eq⟩, rfl⟩
end
end
end EV
set_option linter.all false
set_option maxRecDepth 100000
namespace EV
abbrev QV (ι : Type) := ι → Rat
abbrev QK (ι : Type) := List (ι × QV ι)
section
variable {ι : Type}
def smK : QK ι → (ι × QV ι → Rat) → Rat
  | [], _ => 0
  | p :: K, f => f p + smK K f
theorem smK_app (f : ι × QV ι → Rat) : ∀ K L : QK ι, smK (K ++ L) f = smK K f + smK L f
  | [], L => by simp only [List.nil_append, smK]; grind
  | p :: K, L => by simp only [List.cons_append, smK, smK_app f K L]; grind
theorem smK_congr {f g : ι × QV ι → Rat} : ∀ {K : QK ι}, (∀ p ∈ K, f p = g p) → smK K f = smK K g
  | [], _ => rfl
  | p :: K, h => by simp only [smK]; rw [h p List.mem_cons_self, smK_congr fun q m => h q (List.mem_cons_of_mem _ m)]
theorem smK_lin (a b : Rat) (f g : ι × QV ι → Rat) : ∀ K : QK ι, smK K (fun p => a * f p + b * g p) = a * smK K f + b * smK K g
  | [] => by simp only [smK]; grind
  | p :: K => by simp only [smK]; rw [smK_lin a b f g K]; grind
theorem smK_map (f : ι × QV ι → Rat) (m : ι × QV ι → ι × QV ι) : ∀ K : QK ι, smK (K.map m) f = smK K fun p => f (m p)
  | [] => rfl
  | p :: K => by simp only [List.map_cons, smK, smK_map f m K]
theorem smK_zero {f : ι × QV ι → Rat} {K : QK ι} (h : ∀ p ∈ K, f p = 0) : smK K f = 0 := by
  rw [smK_congr (g := fun _ => 0) h]
  induction K with
  | nil => rfl
  | cons p K ih => simp only [smK]; rw [ih fun q m => h q (List.mem_cons_of_mem _ m)]; grind
theorem smK_swap (f : ι × QV ι → ι × QV ι → Rat) : ∀ K L : QK ι, smK K (fun p => smK L fun q => f p q) = smK L fun q => smK K fun p => f p q
  | [], L => by simp only [smK]; exact (smK_zero fun _ _ => rfl).symm
  | p :: K, L => by
    simp only [smK]
    rw [smK_swap f K L]
    have := smK_lin 1 1 (fun q => f p q) (fun q => smK K fun p => f p q) L
    have h2 : (smK L fun q => f p q + smK K fun p => f p q) = smK L fun q => 1 * f p q + 1 * smK K fun p => f p q := smK_congr fun q _ => by simp only [Rat.one_mul]
    rw [h2, this]; simp only [Rat.one_mul]
theorem smK_one : ∀ K : QK ι, smK K (fun _ => 1) = (K.length : Rat)
  | [] => rfl
  | p :: K => by simp only [smK, List.length_cons]; rw [smK_one K]; push_cast; grind
variable [DecidableEq ι]
structure Red (K : QK ι) : Prop where
  nd : (K.map (·.1)).Nodup
  at_ : ∀ p ∈ K, ∀ q ∈ K, q.2 p.1 = if q.1 = p.1 then 1 else 0
theorem smK_delta {f : ι × QV ι → Rat} : ∀ {K : QK ι} {p : ι × QV ι}, (K.map (·.1)).Nodup → p ∈ K → smK K (fun q => (if q.1 = p.1 then 1 else 0) * f q) = f p
  | q :: K, p, nd, m => by
    rw [List.map_cons, List.nodup_cons] at nd
    simp only [smK]
    rcases List.mem_cons.mp m with e | m
    · subst e
      rw [if_pos rfl, smK_zero fun q hq => by
        rw [if_neg fun e : q.1 = p.1 => nd.1 (by rw [← e]; exact List.mem_map_of_mem (f := (·.1)) hq), Rat.zero_mul]]
      grind
    · rw [if_neg fun e : q.1 = p.1 => nd.1 (by rw [e]; exact List.mem_map_of_mem (f := (·.1)) m), smK_delta nd.2 m, Rat.zero_mul, Rat.zero_add]
def Sp (P : ι → Prop) (K : QK ι) (u : QV ι) : Prop := ∀ j, P j → u j = smK K fun p => u p.1 * p.2 j
variable {P : ι → Prop} {K : QK ι} {u v : QV ι}
theorem Sp.lin (a b : Rat) (h : Sp P K u) (k : Sp P K v) : Sp P K fun j => a * u j + b * v j := fun j hj => by
  show a * u j + b * v j = _
  rw [h j hj, k j hj, ← smK_lin]
  exact smK_congr fun p _ => by grind
theorem Sp.zero0 : Sp P K fun _ => 0 := fun j _ => (smK_zero fun p _ => by grind).symm
theorem Sp.congr (h : Sp P K u) (e : ∀ j, P j → u j = v j) (hP : ∀ p ∈ K, P p.1) : Sp P K v := fun j hj => by
  rw [← e j hj, h j hj]
  exact smK_congr fun p m => by rw [e _ (hP p m)]
theorem Red.sp (R : Red K) {p : ι × QV ι} (m : p ∈ K) : Sp P K p.2 := fun j _ => by
  rw [smK_congr (g := fun q => (if q.1 = p.1 then 1 else 0) * q.2 j) fun q hq => by
    rw [R.at_ q hq p m]
    have : (p.1 = q.1) = (q.1 = p.1) := propext eq_comm
    simp only [this]]
  exact (smK_delta (f := fun q => q.2 j) R.nd m).symm
theorem Sp.none (h : Sp P K u) (z : ∀ p ∈ K, u p.1 = 0) {j : ι} (hj : P j) : u j = 0 := by
  rw [h j hj]
  exact smK_zero fun p m => by rw [z p m]; grind
def swp (K : QK ι) (r : QV ι) : QV ι := fun j => r j - smK K fun p => r p.1 * p.2 j
theorem Red.swp_at (R : Red K) {r : QV ι} {p : ι × QV ι} (m : p ∈ K) : swp K r p.1 = 0 := by
  unfold swp
  rw [smK_congr (g := fun q => (if q.1 = p.1 then 1 else 0) * r q.1) fun q hq => by rw [R.at_ p m q hq]; grind, smK_delta (f := fun q => r q.1) R.nd m]
  grind
theorem Red.swp_sp (R : Red K) {r : QV ι} : Sp P K fun j => r j - swp K r j := fun j _ => by
  have e : ∀ p ∈ K, r p.1 - swp K r p.1 = r p.1 := fun p m => by rw [R.swp_at m]; grind
  rw [smK_congr (g := fun p => r p.1 * p.2 j) fun p m => by rw [show (fun j => r j - swp K r j) p.1 = r p.1 from e p m]]
  show r j - (r j - _) = _
  grind
def adrK (K : QK ι) (c : ι) (n : QV ι) : QK ι := K.map (fun q => (q.1, fun j => q.2 j - q.2 c * n j)) ++ [(c, n)]
theorem mem_adrK {K : QK ι} {c : ι} {n : QV ι} {p : ι × QV ι} : p ∈ adrK K c n ↔ (∃ q ∈ K, p = (q.1, fun j => q.2 j - q.2 c * n j)) ∨ p = (c, n) := by
  unfold adrK
  rw [List.mem_append, List.mem_map, List.mem_singleton]
  constructor
  · rintro (⟨q, m, rfl⟩ | h)
    · exact .inl ⟨q, m, rfl⟩
    · exact .inr h
  · rintro (⟨q, m, rfl⟩ | h)
    · exact .inl ⟨q, m, rfl⟩
    · exact .inr h
theorem Red.add (R : Red K) {c : ι} {n : QV ι} (h1 : n c = 1) (h0 : ∀ p ∈ K, n p.1 = 0) : Red (adrK K c n) := by
  have hne : ∀ p ∈ K, p.1 ≠ c := fun p m e => by
    have := h0 p m
    rw [e, h1] at this; exact absurd this (by decide)
  refine ⟨?_, fun p hp q hq => ?_⟩
  · unfold adrK
    rw [List.map_append, List.map_map, List.nodup_append]
    refine ⟨R.nd, by simp, fun a ha b hb e => ?_⟩
    obtain ⟨p, m, rfl⟩ := List.mem_map.mp ha
    simp only [List.map_cons, List.map_nil, List.mem_singleton] at hb
    exact hne p m (e.trans hb)
  · rcases mem_adrK.mp hp with ⟨p, mp, rfl⟩ | rfl <;> rcases mem_adrK.mp hq with ⟨q, mq, rfl⟩ | rfl
    · show q.2 p.1 - q.2 c * n p.1 = _
      rw [R.at_ p mp q mq, h0 p mp]; grind
    · show n p.1 = if c = p.1 then 1 else 0
      rw [h0 p mp, if_neg (Ne.symm (hne p mp))]
    · show q.2 c - q.2 c * n c = if q.1 = c then 1 else 0
      rw [h1, if_neg (hne q mq)]; grind
    · show n c = if c = c then 1 else 0
      rw [h1, if_pos rfl]
theorem Sp.add {c : ι} {n : QV ι} (hc : P c) (h : Sp P K u) : Sp P (adrK K c n) u := fun j hj => by
  unfold adrK
  rw [smK_app, smK_map]
  simp only [smK]
  rw [smK_congr (g := fun p => 1 * (u p.1 * p.2 j) + (- n j) * (u p.1 * p.2 c)) fun p _ => by grind, smK_lin, ← h j hj, ← h c hc]
  grind
theorem Red.count {L : QK ι} (R : Red K) (R2 : Red L) (hK : ∀ p ∈ K, P p.1) (hL : ∀ p ∈ L, P p.1) (h : ∀ p ∈ K, Sp P L p.2) (k : ∀ p ∈ L, Sp P K p.2) : K.length = L.length := by
  have e1 : smK K (fun p => smK L fun q => p.2 q.1 * q.2 p.1) = (K.length : Rat) := by
    rw [← smK_one K]
    exact smK_congr fun p m => by rw [← h p m p.1 (hK p m), R.at_ p m p m, if_pos rfl]
  have e2 : smK L (fun q => smK K fun p => q.2 p.1 * p.2 q.1) = (L.length : Rat) := by
    rw [← smK_one L]
    exact smK_congr fun p m => by rw [← k p m p.1 (hL p m), R2.at_ p m p m, if_pos rfl]
  rw [smK_swap] at e1
  rw [smK_congr (g := fun q => smK K fun p => q.2 p.1 * p.2 q.1) fun q _ => smK_congr fun p _ => by grind, e2] at e1
  exact_mod_cast e1.symm
end
end EV
set_option linter.all false
set_option maxRecDepth 100000
namespace EV
structure LinC {ι : Type} (C : QV ι → Prop) : Prop where
  zero : C fun _ => 0
  lin : ∀ (a b : Rat) (u v : QV ι), C u → C v → C fun j => a * u j + b * v j
section
variable {ι : Type} {C : QV ι → Prop}
theorem LinC.smK (L : LinC C) (g : ι × QV ι → Rat) : ∀ {K : QK ι}, (∀ p ∈ K, C p.2) → C fun j => EV.smK K fun p => g p * p.2 j
  | [], _ => by simpa only [EV.smK] using L.zero
  | p :: K, h => by
    have := L.lin (g p) 1 _ _ (h p List.mem_cons_self) (LinC.smK L g fun q m => h q (List.mem_cons_of_mem _ m))
    simpa only [EV.smK, Rat.one_mul] using this
theorem LinC.swp (L : LinC C) {K : QK ι} {r : QV ι} (h : ∀ p ∈ K, C p.2) (hr : C r) : C (EV.swp K r) := by
  have := L.lin 1 (-1) _ _ hr (L.smK (fun p => r p.1) h)
  have e : (fun j => 1 * r j + -1 * EV.smK K fun p => r p.1 * p.2 j) = EV.swp K r := funext fun j => by unfold EV.swp; grind
  rwa [e] at this
theorem LinC.mul (L : LinC C) {u : QV ι} (a : Rat) (h : C u) : C fun j => a * u j := by
  have := L.lin a 0 _ _ h h
  have e : (fun j => a * u j + 0 * u j) = fun j => a * u j := funext fun j => by grind
  rwa [e] at this
theorem LinC.div (L : LinC C) {u : QV ι} (a : Rat) (h : C u) : C fun j => u j / a := by
  have := L.mul a⁻¹ h
  have e : (fun j => a⁻¹ * u j) = fun j => u j / a := funext fun j => by rw [Rat.div_def, Rat.mul_comm]
  rwa [e] at this
theorem LinC.add [DecidableEq ι] (L : LinC C) {K : QK ι} {c : ι} {n : QV ι} (h : ∀ p ∈ K, C p.2) (hn : C n) : ∀ p ∈ adrK K c n, C p.2 := fun p hp => by
  rcases mem_adrK.mp hp with ⟨q, m, rfl⟩ | rfl
  · have := L.lin 1 (-(q.2 c)) _ _ (h q m) hn
    have e : (fun j => 1 * q.2 j + -(q.2 c) * n j) = fun j => q.2 j - q.2 c * n j := funext fun j => by grind
    rwa [e] at this
  · exact hn
end
abbrev Co := Nat ⊕ Nat
def isL : Co → Prop
  | .inl _ => True
  | .inr _ => False
def rowW (w : List Nat) : QV Co
  | .inl c => if c ∈ w then 1 else 0
  | .inr _ => 0
def rowQ (ws : List (List Nat)) (i : Nat) : QV Co
  | .inl c => if c ∈ wAt ws i then 1 else 0
  | .inr k => if k = i then 1 else 0
def firstC (v : QV Co) (th : List Nat) : Option Nat := th.find? fun c => decide (v (.inl c) ≠ 0)
def stepQ (th : List Nat) (S : QK Co × List (QV Co)) (r : QV Co) : QK Co × List (QV Co) := match firstC (swp S.1 r) th with
  | none => (S.1, S.2 ++ [swp S.1 r])
  | some c => (adrK S.1 (.inl c) (fun j => swp S.1 r j / swp S.1 r (.inl c)), S.2)
def redQ (ws : List (List Nat)) (n : Nat) : QK Co × List (QV Co) := (List.range n).foldl (fun S i => stepQ (thingsIn ws) S (rowQ ws i)) ([], [])
theorem redQ_succ (ws : List (List Nat)) (n : Nat) : redQ ws (n + 1) = stepQ (thingsIn ws) (redQ ws n) (rowQ ws n) := by
  unfold redQ
  rw [List.range_succ, List.foldl_append]; rfl
def InR (ws : List (List Nat)) (u : QV Co) : Prop := ∀ K : QK Co, (∀ p ∈ K, isL p.1) → (∀ w ∈ ws, Sp isL K (rowW w)) → Sp isL K u
theorem inR_lin {ws : List (List Nat)} : LinC (InR ws) := ⟨fun K _ _ => Sp.zero0, fun a b u v h k K h1 h2 => (h K h1 h2).lin a b (k K h1 h2)⟩
theorem inR_mono {ws ws' : List (List Nat)} {u : QV Co} (h : InR ws u) (k : ∀ w ∈ ws, w ∈ ws') : InR ws' u := fun K h1 h2 => h K h1 fun w m => h2 w (k w m)
theorem inR_row {ws : List (List Nat)} {w : List Nat} (m : w ∈ ws) {r : QV Co} (e : ∀ j, isL j → rowW w j = r j) : InR ws r := fun K h1 h2 => (h2 w m).congr e h1
structure Bas (ws : List (List Nat)) (K : QK Co) : Prop where
  red : Red K
  piv : ∀ p ∈ K, isL p.1
  sp : ∀ w ∈ ws, Sp isL K (rowW w)
  inR : ∀ p ∈ K, InR ws p.2
theorem Bas.unique {ws ws' : List (List Nat)} {K L : QK Co} (a : Bas ws K) (b : Bas ws' L) (h : ∀ w, w ∈ ws ↔ w ∈ ws') : K.length = L.length :=
  a.red.count b.red a.piv b.piv (fun p m => a.inR p m L b.piv fun w hw => b.sp w ((h w).mp hw)) fun p m => b.inR p m K a.piv fun w hw => a.sp w ((h w).mpr hw)
section
variable {ws : List (List Nat)} {K : QK Co} {w : List Nat} {r : QV Co}
theorem Bas.keep (a : Bas ws K) (e : ∀ j, isL j → rowW w j = r j) (z : ∀ c, swp K r (.inl c) = 0) : Bas (ws ++ [w]) K := by
  refine ⟨a.red, a.piv, fun x m => ?_, fun p m => inR_mono (a.inR p m) fun w hw => List.mem_append_left _ hw⟩
  rcases List.mem_append.mp m with m | m
  · exact a.sp x m
  · rw [List.mem_singleton.mp m]
    refine (a.red.swp_sp (P := isL) (r := r)).congr (fun j hj => ?_) a.piv
    rw [e j hj]
    cases j with
    | inl c => rw [z c]; grind
    | inr k => exact hj.elim
theorem div_self' {a : Rat} (h : a ≠ 0) : a / a = 1 := by grind
theorem Bas.add (a : Bas ws K) (e : ∀ j, isL j → rowW w j = r j) {c : Nat} (z : swp K r (.inl c) ≠ 0) : Bas (ws ++ [w]) (adrK K (.inl c) fun j => swp K r j / swp K r (.inl c)) := by
  have h1 : (fun j => swp K r j / swp K r (.inl c)) (.inl c) = 1 := div_self' z
  have h0 : ∀ p ∈ K, (fun j => swp K r j / swp K r (.inl c)) p.1 = 0 := fun p m => by
    show swp K r p.1 / _ = 0
    rw [a.red.swp_at m]; grind
  have R := a.red.add (n := fun j => swp K r j / swp K r (.inl c)) h1 h0
  have hp : ∀ p ∈ adrK K (.inl c) (fun j => swp K r j / swp K r (.inl c)), isL p.1 := fun p hp => by
    rcases mem_adrK.mp hp with ⟨q, m, rfl⟩ | rfl
    · exact a.piv q m
    · trivial
  refine ⟨R, hp, fun x m => ?_, ?_⟩
  · rcases List.mem_append.mp m with m | m
    · exact (a.sp x m).add trivial
    · rw [List.mem_singleton.mp m]
      have s1 : Sp isL (adrK K (.inl c) fun j => swp K r j / swp K r (.inl c)) fun j => swp K r j / swp K r (.inl c) := R.sp (p := (.inl c, _)) (mem_adrK.mpr (.inr rfl))
      have s2 := ((a.red.swp_sp (P := isL) (r := r)).add (c := .inl c) (n := fun j => swp K r j / swp K r (.inl c)) trivial).lin 1 (swp K r (.inl c)) s1
      refine s2.congr (fun j hj => ?_) hp
      rw [e j hj]
      show 1 * (r j - swp K r j) + swp K r (.inl c) * (swp K r j / swp K r (.inl c)) = r j
      grind
  · refine inR_lin.add (fun p m => inR_mono (a.inR p m) fun w hw => List.mem_append_left _ hw) (inR_lin.div _ (inR_lin.swp (fun p m => inR_mono (a.inR p m) fun w hw => List.mem_append_left _ hw) (inR_row (w := w) (by simp) e)))
theorem row_agree {ws : List (List Nat)} {i : Nat} : ∀ j, isL j → rowW (wAt ws i) j = rowQ ws i j := fun j hj => by
  cases j with
  | inl c => rfl
  | inr k => exact hj.elim
end
def sumN : Nat → (Nat → Rat) → Rat
  | 0, _ => 0
  | n + 1, f => sumN n f + f n
theorem sumN_congr {f g : Nat → Rat} : ∀ {n : Nat}, (∀ i, i < n → f i = g i) → sumN n f = sumN n g
  | 0, _ => rfl
  | n + 1, h => by simp only [sumN]; rw [sumN_congr fun i hi => h i (by omega), h n (by omega)]
theorem sumN_lin (a b : Rat) (f g : Nat → Rat) : ∀ n, sumN n (fun i => a * f i + b * g i) = a * sumN n f + b * sumN n g
  | 0 => by simp only [sumN]; grind
  | n + 1 => by simp only [sumN]; rw [sumN_lin a b f g n]; grind
theorem sumN_zero {f : Nat → Rat} : ∀ {n : Nat}, (∀ i, i < n → f i = 0) → sumN n f = 0
  | 0, _ => rfl
  | n + 1, h => by simp only [sumN]; rw [sumN_zero fun i hi => h i (by omega), h n (by omega)]; grind
def Aug (ws : List (List Nat)) (n : Nat) (u : QV Co) : Prop := (∀ c, u (.inl c) = sumN n fun i => u (.inr i) * rowQ ws i (.inl c)) ∧ ∀ i, n ≤ i → u (.inr i) = 0
theorem aug_lin {ws : List (List Nat)} {n : Nat} : LinC (Aug ws n) := by
  refine ⟨⟨fun c => (sumN_zero fun i _ => by grind).symm, fun _ _ => rfl⟩, fun a b u v h k => ⟨fun c => ?_, fun i hi => ?_⟩⟩
  · show a * u _ + b * v _ = _
    rw [h.1 c, k.1 c, ← sumN_lin]
    exact sumN_congr fun i _ => by grind
  · show a * u _ + b * v _ = _
    rw [h.2 i hi, k.2 i hi]; grind
theorem Aug.up {ws : List (List Nat)} {n : Nat} {u : QV Co} (h : Aug ws n u) : Aug ws (n + 1) u := by
  refine ⟨fun c => ?_, fun i hi => h.2 i (by omega)⟩
  simp only [sumN]
  rw [h.2 n (Nat.le_refl _), ← h.1 c]; grind
theorem aug_row {ws : List (List Nat)} {n : Nat} : Aug ws (n + 1) (rowQ ws n) := by
  refine ⟨fun c => ?_, fun i hi => ?_⟩
  · simp only [sumN]
    rw [sumN_zero fun i hi => by
      show (if i = n then (1 : Rat) else 0) * _ = 0
      rw [if_neg (by omega)]; grind]
    show _ = 0 + (if n = n then (1 : Rat) else 0) * _
    rw [if_pos rfl]; grind
  · show (if i = n then (1 : Rat) else 0) = 0
    rw [if_neg (by omega)]
structure RI (ws : List (List Nat)) (n : Nat) (S : QK Co × List (QV Co)) : Prop where
  bas : Bas (ws.take n) S.1
  piv : ∀ p ∈ S.1, ∃ c ∈ thingsIn ws, p.1 = .inl c
  spA : S.2 = [] → ∀ i, i < n → Sp (fun _ => True) S.1 (rowQ ws i)
  aug : ∀ p ∈ S.1, Aug ws n p.2
  lz : ∀ v ∈ S.2, (∀ c, v (.inl c) = 0) ∧ Aug ws n v ∧ ∃ i, i < n ∧ v (.inr i) = 1
  cnt : S.1.length + S.2.length = n
theorem firstC_none {v : QV Co} {th : List Nat} (h : firstC v th = none) : ∀ c ∈ th, v (.inl c) = 0 := fun c m => by
  have := List.find?_eq_none.mp h c m
  simpa using this
theorem firstC_some {v : QV Co} {th : List Nat} {c : Nat} (h : firstC v th = some c) : c ∈ th ∧ v (.inl c) ≠ 0 := ⟨List.mem_of_find?_eq_some h, by have := List.find?_some h; simpa using this⟩
def Off (ws : List (List Nat)) (u : QV Co) : Prop := ∀ c, c ∉ thingsIn ws → u (.inl c) = 0
theorem off_row {ws : List (List Nat)} (h : LotsOk ws) {i : Nat} (hi : i < ws.length) : Off ws (rowQ ws i) := fun c hc => if_neg fun m => hc ((mem_things h).mpr ⟨_, List.getElem_mem hi, by
  have : wAt ws i = ws[i] := by unfold wAt; rw [List.getD_eq_getElem?_getD, List.getElem?_eq_getElem hi]; rfl
  rwa [this] at m⟩)
theorem off_aug {ws : List (List Nat)} (h : LotsOk ws) {n : Nat} (hn : n ≤ ws.length) {u : QV Co} (a : Aug ws n u) : Off ws u := fun c hc => by
  rw [a.1 c]
  exact sumN_zero fun i hi => by rw [off_row h (Nat.lt_of_lt_of_le hi hn) c hc]; grind
theorem redQ_ok {ws : List (List Nat)} (h : LotsOk ws) : ∀ n, n ≤ ws.length → RI ws n (redQ ws n)
  | 0, _ => ⟨⟨⟨by simp [redQ], by simp [redQ]⟩, by simp [redQ], by simp, by simp [redQ]⟩, by simp [redQ], by omega, by simp [redQ], by simp [redQ], rfl⟩
  | n + 1, hn => by
    have I := redQ_ok h n (by omega)
    rw [redQ_succ]
    generalize redQ ws n = S at *
    obtain ⟨K, lo⟩ := S
    have et : ws.take (n + 1) = ws.take n ++ [wAt ws n] := by
      rw [List.take_add_one, List.getElem?_eq_getElem (show n < ws.length by omega)]
      unfold wAt; rw [List.getD_eq_getElem?_getD, List.getElem?_eq_getElem (show n < ws.length by omega)]; rfl
    have aK : ∀ p ∈ K, Aug ws (n + 1) p.2 := fun p m => (I.aug p m).up
    have av : Aug ws (n + 1) (swp K (rowQ ws n)) := aug_lin.swp aK aug_row
    have one : swp K (rowQ ws n) (.inr n) = 1 := by
      unfold swp
      rw [smK_zero fun p m => by rw [(I.aug p m).2 n (Nat.le_refl _)]; grind]
      show (if n = n then (1 : Rat) else 0) - 0 = 1
      rw [if_pos rfl]; grind
    unfold stepQ
    dsimp only
    cases e : firstC (swp K (rowQ ws n)) (thingsIn ws) with
    | none =>
      have z : ∀ c, swp K (rowQ ws n) (.inl c) = 0 := fun c => by
        by_cases hc : c ∈ thingsIn ws
        · exact firstC_none e c hc
        · exact off_aug h hn av c hc
      refine ⟨by rw [et]; exact I.bas.keep row_agree z, I.piv, fun q => by simp at q, aK, fun v m => ?_, ?_⟩
      · rcases List.mem_append.mp m with m | m
        · obtain ⟨h1, h2, i, h3, h4⟩ := I.lz v m
          exact ⟨h1, h2.up, i, by omega, h4⟩
        · rw [List.mem_singleton.mp m]
          exact ⟨z, av, n, by omega, one⟩
      · have := I.cnt
        simp only [List.length_append, List.length_singleton]
        dsimp only at this; omega
    | some c =>
      obtain ⟨hc, z⟩ := firstC_some e
      have B := I.bas.add (w := wAt ws n) row_agree z
      refine ⟨by rw [et]; exact B, fun p hp => ?_, fun q i hi => ?_, aug_lin.add aK (aug_lin.div _ av), fun v m => ?_, ?_⟩
      · rcases mem_adrK.mp hp with ⟨q, m, rfl⟩ | rfl
        · exact I.piv q m
        · exact ⟨c, hc, rfl⟩
      · rcases Nat.lt_or_ge i n with q2 | q2
        · exact (I.spA q i q2).add trivial
        · have : i = n := by omega
          subst this
          have s1 : Sp (fun _ => True) (adrK K (.inl c) fun j => swp K (rowQ ws i) j / swp K (rowQ ws i) (.inl c)) fun j => swp K (rowQ ws i) j / swp K (rowQ ws i) (.inl c) := B.red.sp (p := (.inl c, _)) (mem_adrK.mpr (.inr rfl))
          have s2 := ((I.bas.red.swp_sp (P := fun _ => True) (r := rowQ ws i)).add (c := .inl c) (n := fun j => swp K (rowQ ws i) j / swp K (rowQ ws i) (.inl c)) trivial).lin 1 (swp K (rowQ ws i) (.inl c)) s1
          refine s2.congr (fun j _ => ?_) fun _ _ => trivial
          show 1 * (rowQ ws i j - swp K (rowQ ws i) j) + swp K (rowQ ws i) (.inl c) * (swp K (rowQ ws i) j / swp K (rowQ ws i) (.inl c)) = rowQ ws i j
          grind
      · obtain ⟨h1, h2, i, h3, h4⟩ := I.lz v m
        exact ⟨h1, h2.up, i, by omega, h4⟩
      · have := I.cnt
        simp only [adrK, List.length_append, List.length_map, List.length_singleton]
        dsimp only at this; omega
end EV
set_option linter.all false
set_option maxRecDepth 100000
namespace EV
theorem rat_small {q : Rat} {d : Nat} {z : Int} (hd : 0 < d) (h : q * (d : Rat) = (z : Rat)) : q.den ≤ d ∧ q.num.natAbs ≤ z.natAbs := by
  have hd0 : (d : Rat) ≠ 0 := fun e => by have := Rat.natCast_eq_zero_iff.mp e; omega
  have e : q = mkRat z d := by rw [Rat.mkRat_eq_div, ← h, Rat.mul_div_cancel hd0]
  rw [e, Rat.den_mkRat, Rat.num_mkRat, if_neg (by omega), if_neg (by omega)]
  exact ⟨Nat.div_le_self _ _, Int.natAbs_ediv_le_natAbs _ _⟩
def Bz (d B : Nat) (q : Rat) : Prop := ∃ z : Int, q * (d : Rat) = (z : Rat) ∧ z.natAbs ≤ B
theorem Bz.up {d B C : Nat} {q : Rat} (h : Bz d B q) (k : B ≤ C) : Bz d C q := let ⟨z, e, l⟩ := h; ⟨z, e, Nat.le_trans l k⟩
theorem Bz.small {d B : Nat} {q : Rat} (hd : 0 < d) (h : Bz d B q) : q.den ≤ d ∧ q.num.natAbs ≤ B := by
  obtain ⟨z, e, l⟩ := h
  obtain ⟨h1, h2⟩ := rat_small hd e
  exact ⟨h1, Nat.le_trans h2 l⟩
theorem Bz.sum {d B : Nat} {K : QK Co} {r : QV Co} {j : Co} (hr : ∀ p ∈ K, r p.1 = 0 ∨ r p.1 = 1) (h : ∀ p ∈ K, Bz d B (p.2 j)) : Bz d (K.length * B) (smK K fun p => r p.1 * p.2 j) := by
  induction K with
  | nil => exact ⟨0, by simp [smK], by simp⟩
  | cons p K ih =>
    obtain ⟨z, e, l⟩ := ih (fun q m => hr q (List.mem_cons_of_mem _ m)) fun q m => h q (List.mem_cons_of_mem _ m)
    obtain ⟨y, e2, l2⟩ := h p List.mem_cons_self
    simp only [smK, List.length_cons]
    rw [Nat.succ_mul]
    rcases hr p List.mem_cons_self with q | q
    · rw [q]
      exact ⟨z, by rw [← e]; grind, by omega⟩
    · rw [q]
      refine ⟨y + z, ?_, by omega⟩
      rw [Rat.intCast_add, ← e, ← e2]; grind
theorem Bz.sub {d B C : Nat} {a b : Rat} (h : Bz d B a) (k : Bz d C b) : Bz d (B + C) (a - b) := by
  obtain ⟨y, e, l⟩ := h
  obtain ⟨z, e2, l2⟩ := k
  refine ⟨y - z, ?_, by omega⟩
  rw [Rat.intCast_sub, ← e, ← e2]; grind
theorem Bz.swp {d B : Nat} {K : QK Co} {r : QV Co} {j : Co} (hd : d ≤ B) (hr : ∀ j, r j = 0 ∨ r j = 1) (h : ∀ p ∈ K, Bz d B (p.2 j)) : Bz d ((K.length + 1) * B) (swp K r j) := by
  have h1 : Bz d B (r j) := by
    rcases hr j with e | e
    · rw [e]; exact ⟨0, by simp, by simp⟩
    · rw [e]; exact ⟨d, (Rat.one_mul _).trans (Rat.intCast_natCast d).symm, by simpa using hd⟩
  have := h1.sub (Bz.sum (fun p _ => hr p.1) h)
  rw [Nat.add_comm, ← Nat.succ_mul] at this
  exact this
def Bd (K : QK Co) (B : Nat) : Prop := ∃ d : Nat, 0 < d ∧ d ≤ B ∧ ∀ p ∈ K, ∀ j, Bz d B (p.2 j)
theorem Bd.add {K : QK Co} {B : Nat} {r : QV Co} {c : Co} (h : Bd K B) (hr : ∀ j, r j = 0 ∨ r j = 1) (hz : EV.swp K r c ≠ 0) : Bd (adrK K c fun j => EV.swp K r j / EV.swp K r c) (2 * ((K.length + 1) * B) * B) := by
  obtain ⟨d, h0, hd, hK⟩ := h
  have hv : ∀ j, Bz d ((K.length + 1) * B) (EV.swp K r j) := fun j => Bz.swp hd hr fun p m => hK p m j
  generalize EV.swp K r = v at *
  generalize (K.length + 1) * B = M at *
  obtain ⟨zc, ec, lc⟩ := hv c
  have hd0 : (d : Rat) ≠ 0 := fun e => by have := Rat.natCast_eq_zero_iff.mp e; omega
  have hc0 : zc ≠ 0 := fun e => by
    rw [e] at ec
    have : v c * (d : Rat) = 0 := ec
    rcases Rat.mul_eq_zero.mp this with q | q
    · exact hz q
    · exact hd0 q
  obtain ⟨s, hs1, hs2⟩ : ∃ s : Int, (s = 1 ∨ s = -1) ∧ (zc.natAbs : Int) = s * zc := by
    rcases Int.natAbs_eq zc with e | e
    · exact ⟨1, .inl rfl, by omega⟩
    · exact ⟨-1, .inr rfl, by omega⟩
  have hcast : ((d * zc.natAbs : Nat) : Rat) = (d : Rat) * ((s : Rat) * (zc : Rat)) := by
    rw [Rat.natCast_mul, ← Rat.intCast_natCast zc.natAbs, hs2, Rat.intCast_mul]
  have hsn : s.natAbs = 1 := by rcases hs1 with rfl | rfl <;> rfl
  have hzp : 0 < zc.natAbs := by omega
  have mb : d * zc.natAbs ≤ M * B := by rw [Nat.mul_comm M B]; exact Nat.mul_le_mul hd lc
  have hzr : (zc : Rat) ≠ 0 := fun e => hc0 (Rat.intCast_eq_zero_iff.mp e)
  have hn : ∀ j, ∃ z : Int, v j / v c * ((d * zc.natAbs : Nat) : Rat) = ((s * (z * d) : Int) : Rat) ∧ z.natAbs ≤ M ∧ v j / v c * (s * zc : Rat) = (s * z : Rat) := fun j => by
    obtain ⟨z, e, l⟩ := hv j
    have q : v j / v c * (s * zc : Rat) = (s * z : Rat) := by
      rw [← e, ← ec]; grind
    refine ⟨z, ?_, l, q⟩
    rw [hcast, Rat.intCast_mul, Rat.intCast_mul, Rat.intCast_natCast]
    grind
  refine ⟨d * zc.natAbs, Nat.mul_pos h0 hzp, ?_, fun p hp j => ?_⟩
  · rw [Nat.mul_assoc]; omega
  · obtain ⟨z, e, l, q⟩ := hn j
    have le1 : (s * (z * d)).natAbs ≤ M * B := by
      rw [Int.natAbs_mul, hsn, Nat.one_mul, Int.natAbs_mul, Int.natAbs_natCast]
      exact Nat.mul_le_mul l hd
    rcases mem_adrK.mp hp with ⟨k, m, rfl⟩ | rfl
    · obtain ⟨y, e1, l1⟩ := hK k m j
      obtain ⟨x, e2, l2⟩ := hK k m c
      refine ⟨y * (s * zc) - x * (s * z), ?_, ?_⟩
      · show (k.2 j - k.2 c * (v j / v c)) * _ = _
        rw [hcast, Rat.intCast_sub, Rat.intCast_mul, Rat.intCast_mul, Rat.intCast_mul, Rat.intCast_mul, ← e1, ← e2, ← q]
        grind
      · have t1 : (y * (s * zc)).natAbs ≤ M * B := by
          rw [Int.natAbs_mul, Int.natAbs_mul, hsn, Nat.one_mul, Nat.mul_comm M B]; exact Nat.mul_le_mul l1 lc
        have t2 : (x * (s * z)).natAbs ≤ M * B := by
          rw [Int.natAbs_mul, Int.natAbs_mul, hsn, Nat.one_mul, Nat.mul_comm M B]; exact Nat.mul_le_mul l2 l
        rw [Nat.mul_assoc]; omega
    · exact ⟨_, e, by rw [Nat.mul_assoc]; omega⟩
theorem Bd.mono {K : QK Co} {B C : Nat} (h : Bd K B) (k : B ≤ C) : Bd K C := let ⟨d, a, b, c⟩ := h; ⟨d, a, Nat.le_trans b k, fun p m j => (c p m j).up k⟩
def bq : Nat → Nat
  | 0 => 1
  | k + 1 => 16 * bq k * bq k
theorem bq_eq : ∀ k, bq k = 2 ^ (4 * (2 ^ k - 1))
  | 0 => rfl
  | k + 1 => by
    rw [bq, bq_eq k]
    have hp : 1 ≤ 2 ^ k := Nat.one_le_two_pow
    have e : 4 * (2 ^ (k + 1) - 1) = 4 + 4 * (2 ^ k - 1) + 4 * (2 ^ k - 1) := by rw [Nat.pow_succ]; omega
    rw [e, Nat.pow_add, Nat.pow_add]
theorem row_bit {ws : List (List Nat)} {i : Nat} (j : Co) : rowQ ws i j = 0 ∨ rowQ ws i j = 1 := by
  cases j <;> simp only [rowQ] <;> split <;> simp
theorem piv_len {ws : List (List Nat)} {n : Nat} {S : QK Co × List (QV Co)} (I : RI ws n S) : S.1.length ≤ (thingsIn ws).length := by
  have h1 := List.Nodup.length_le_of_subset I.bas.red.nd (l₂ := (thingsIn ws).map Sum.inl) fun x hx => by
    obtain ⟨p, m, rfl⟩ := List.mem_map.mp hx
    obtain ⟨c, hc, e⟩ := I.piv p m
    rw [e]; exact List.mem_map_of_mem hc
  simpa using h1
theorem redQ_bd {ws : List (List Nat)} (h : LotsOk ws) : ∀ n, n ≤ ws.length → Bd (redQ ws n).1 (bq (redQ ws n).1.length)
  | 0, _ => ⟨1, by omega, by simp [redQ, bq], by simp [redQ]⟩
  | n + 1, hn => by
    have I := redQ_bd h n (by omega)
    have J := redQ_ok h (n + 1) hn
    have hl := piv_len J
    have ht := h.things
    rw [redQ_succ] at *
    generalize redQ ws n = S at *
    obtain ⟨K, lo⟩ := S
    unfold stepQ at *
    dsimp only at *
    cases e : firstC (swp K (rowQ ws n)) (thingsIn ws) with
    | none => simp only [e]; exact I
    | some c =>
      simp only [e] at hl ⊢
      obtain ⟨_, z⟩ := firstC_some e
      refine (I.add row_bit z).mono ?_
      have e2 : (adrK K (.inl c) fun j => swp K (rowQ ws n) j / swp K (rowQ ws n) (.inl c)).length = K.length + 1 := by simp [adrK]
      rw [e2] at hl ⊢
      rw [bq]
      have : (K.length + 1) * bq K.length ≤ 8 * bq K.length := Nat.mul_le_mul_right _ (by omega)
      refine Nat.mul_le_mul_right _ ?_
      omega
end EV
set_option linter.all false
set_option maxRecDepth 100000
set_option maxHeartbeats 2000000
namespace EV
open PySem (Operator CmpOp)
abbrev frD (q : Rat) : D := .tup [.int q.num, nD q.den]
def Same (a b : Int) : Prop := (0 ≤ a ∧ 0 < b) ∨ (a ≤ 0 ∧ b < 0)
theorem fmod_pos {a b : Int} (hb : 0 < b) : (a.fmod b).natAbs < b.natAbs ∧ 0 ≤ a.fmod b ∧ (0 ≤ a → (a.fmod b).natAbs = a.natAbs % b.natAbs) := by
  rw [Int.fmod_eq_emod_of_nonneg _ (by omega)]
  have h1 := Int.emod_nonneg a (show b ≠ 0 by omega)
  have h2 := Int.emod_lt_of_pos a hb
  exact ⟨by omega, h1, fun h => Int.natAbs_emod_of_nonneg h b⟩
theorem fmod_lt {a b : Int} (hb : b ≠ 0) : (a.fmod b).natAbs < b.natAbs ∧ (a.fmod b ≠ 0 → Same b (a.fmod b)) ∧ (Same a b → (a.fmod b).natAbs = a.natAbs % b.natAbs) := by
  rcases Int.lt_or_gt_of_ne hb with h | h
  · obtain ⟨h1, h2, h3⟩ := fmod_pos (a := -a) (b := -b) (by omega)
    rw [Int.neg_fmod_neg] at h1 h2 h3
    rw [Int.natAbs_neg, Int.natAbs_neg] at h1
    refine ⟨h1, fun z => .inr ⟨by omega, by omega⟩, fun q => ?_⟩
    have := h3 (by rcases q with q | q <;> omega)
    simpa only [Int.natAbs_neg] using this
  · obtain ⟨h1, h2, h3⟩ := fmod_pos (a := a) h
    exact ⟨h1, fun z => .inl ⟨by omega, by omega⟩, fun q => h3 (by rcases q with q | q <;> omega)⟩
theorem gcd_fmod {a b : Int} : Int.gcd b (a.fmod b) = Int.gcd a b := by
  rw [Int.fmod_def, Int.gcd_sub_mul_left_right, Int.gcd_comm]
def NearI (m : Nat) (a b : Int) : Prop := b.natAbs < fibN (m + 1) ∨ (a.natAbs < fibN (m + 2) ∧ fibN (m + 1) ≤ b.natAbs ∧ b.natAbs ≤ a.natAbs ∧ Same a b)
theorem fib_pos : ∀ n, 1 ≤ fibN (n + 1)
  | 0 => Nat.le_refl _
  | n + 1 => by rw [fib_succ]; have := fib_pos n; omega
theorem near_stepI {m : Nat} {a b : Int} (h : NearI m a b) (hb : b ≠ 0) : ∃ k, m = k + 1 ∧ NearI k b (a.fmod b) := by
  obtain ⟨h1, h2, h3⟩ := fmod_lt (a := a) hb
  cases m with
  | zero =>
    have e1 : fibN (0 + 1) = 1 := rfl
    have e2 : fibN (0 + 2) = 1 := rfl
    rcases h with h | ⟨q1, q2, q3, _⟩ <;> omega
  | succ k =>
    refine ⟨k, rfl, ?_⟩
    rcases h with h | ⟨q1, q2, q3, q4⟩
    · by_cases q : (a.fmod b).natAbs < fibN (k + 1)
      · exact .inl q
      · have := fib_pos k
        exact .inr ⟨h, by omega, by omega, h2 (by omega)⟩
    · refine .inl ?_
      rw [h3 q4]
      have e := fib_succ (k + 1)
      have hd := Nat.div_add_mod a.natAbs b.natAbs
      have hq : 1 ≤ a.natAbs / b.natAbs := (Nat.one_le_div_iff (by omega)).mpr q3
      have hbr : b.natAbs * 1 ≤ b.natAbs * (a.natAbs / b.natAbs) := Nat.mul_le_mul_left _ hq
      have e2 : k + 1 + 2 = k + 3 := rfl
      have e3 : fibN (k + 1 + 1) ≤ b.natAbs := q2
      omega
theorem fib_pow : ∀ k, 2 ^ k ≤ fibN (2 * k + 1)
  | 0 => Nat.le_refl _
  | k + 1 => by
    have h := fib_pow k
    have e1 : fibN (2 * k + 3) = fibN (2 * k + 1) + fibN (2 * k + 2) := fib_succ (2 * k + 1)
    have e2 : fibN (2 * k + 2) = fibN (2 * k) + fibN (2 * k + 1) := fib_succ (2 * k)
    have e3 : 2 * (k + 1) + 1 = 2 * k + 3 := by omega
    rw [e3, Nat.pow_succ]; omega
section
variable {n : Nat} {s : St}
theorem common_ok {a b : Int} (h : b.natAbs < 2 ^ 4000) : run G (n + 1) F_common [.int a, .int b] s = .ok (nD (Int.gcd a b)) s := by
  have hN : NearI 8000 a b := Or.inl (Nat.lt_of_lt_of_le h (fib_pow 4000))
  apply eq_of_W
  refine in_common ?_
  with_reducible refine ws_whl (WS_whlL (m := 8000) (fun m v s' => (∃ x y : Int, v = [some (.int x), some (.int y)] ∧ Int.gcd x y = Int.gcd a b ∧ NearI m x y) ∧ s' = s) ⟨⟨a, b, rfl, rfl, hN⟩, rfl⟩ ?_ (by unfold bigN; omega))
  · rintro m v s' ⟨⟨x, y, rfl, hg, hn⟩, rfl⟩
    by_cases hy : y = 0
    · subst hy
      refine W_eq (a := false) (s := s') (by simp) ?_
      dsimp only
      with_reducible refine ws_retE (d := nD (Int.gcd a b)) (s' := s') ?_ (by simp [fin_plain])
      simp only [ev_bi, evs_cons, evs_nil, ev_var, List.getElem?_cons_zero, gv_some, R_bind_ok, R_map_ok, bi_absI]
      rw [← hg, Int.gcd_zero_right]
    · refine W_eq (a := true) (s := s') (by simp [hy]) ?_
      dsimp only
      obtain ⟨k, rfl, hk⟩ := near_stepI hn hy
      with_reducible refine ws_setT (is := [0, 1]) (d := .tup [.int y, .int (x.fmod y)]) (s' := s') ?_ rfl (ws_done ?_)
      · simp only [ev_tup, evs_cons, evs_nil, ev_bin, ev_var, List.getElem?_cons_succ, List.getElem?_cons_zero, gv_some, R_bind_ok, R_map_ok, view_int]
        rw [bin_fmod hy]
        simp
      exact ⟨k, by omega, ⟨_, _, rfl, by rw [gcd_fmod, hg], hk⟩, rfl⟩
theorem lowest_num {x y : Int} (hy : y ≠ 0) (sg : Int) (hs : sg = if y < 0 then -(Int.gcd x y : Int) else Int.gcd x y) : x.fdiv sg = (Rat.divInt x y).num ∧ y.fdiv sg = (Rat.divInt x y).den := by
  have hg : 0 < Int.gcd x y := Int.gcd_pos_of_ne_zero_right _ hy
  obtain ⟨u, hu⟩ : (Int.gcd x y : Int) ∣ x := Int.gcd_dvd_left ..
  obtain ⟨v, hv⟩ : (Int.gcd x y : Int) ∣ y := Int.gcd_dvd_right ..
  have hgc : (Int.gcd y x : Int) = Int.gcd x y := by rw [Int.gcd_comm]
  have hgn : Int.gcd y x = Int.gcd x y := Int.gcd_comm ..
  rw [Rat.num_divInt, Rat.den_divInt, if_neg hy, hgn]
  generalize Int.gcd x y = g at *
  have hg' : (g : Int) ≠ 0 := by omega
  subst hs
  have hvn : v ≠ 0 := fun e => by rw [e, Int.mul_zero] at hv; exact hy hv
  have d1 : y.natAbs / g = v.natAbs := by rw [hv, Int.natAbs_mul, Int.natAbs_natCast, Nat.mul_div_cancel_left _ hg]
  rw [d1]
  have hneg : ∀ z : Int, ((g : Int) * z).fdiv (-g) = -z := fun z => by
    have : (g : Int) * z = (-g) * (-z) := by rw [Int.neg_mul_neg]
    rw [this, Int.mul_fdiv_cancel_left _ (by omega)]
  by_cases q : y < 0
  · rw [if_pos q]
    have v0 : v < 0 := by
      rcases Int.lt_or_le v 0 with q2 | q2
      · exact q2
      · have := Int.mul_nonneg (show (0 : Int) ≤ g by omega) q2
        omega
    have s1 : y.sign = -1 := Int.sign_eq_neg_one_of_neg q
    rw [s1]
    refine ⟨?_, ?_⟩
    · rw [hu, hneg, show (-1 : Int) * ((g : Int) * u) = g * (-u) by rw [Int.neg_mul, Int.one_mul, Int.mul_neg], Int.mul_ediv_cancel_left _ hg']
    · conv => lhs; rw [hv]
      rw [hneg]; omega
  · rw [if_neg q]
    have v0 : 0 < v := by
      rcases Int.lt_or_le 0 v with q2 | q2
      · exact q2
      · have := Int.mul_nonneg (show (0 : Int) ≤ g by omega) (show (0 : Int) ≤ -v by omega)
        rw [Int.mul_neg] at this
        omega
    have s1 : y.sign = 1 := Int.sign_eq_one_of_pos (by omega)
    rw [s1, Int.one_mul]
    refine ⟨?_, ?_⟩
    · rw [hu, Int.mul_fdiv_cancel_left _ hg', Int.mul_ediv_cancel_left _ hg']
    · conv => lhs; rw [hv]
      rw [Int.mul_fdiv_cancel_left _ hg']; omega
theorem lowest_ok {x y : Int} (hy : y ≠ 0) (hx : x.natAbs < 2 ^ 4000) (h : y.natAbs < 2 ^ 4000) : run G (n + 2) F_lowest [.int x, .int y] s = .ok (frD (Rat.divInt x y)) s := by
  apply eq_of_W
  refine in_lowest ?_
  with_reducible refine ws_set (d := nD (Int.gcd x y)) (s' := s) (by simp [common_ok h]) ?_
  simp only [List.set_cons_succ, List.set_cons_zero]
  have hg : 0 < Int.gcd x y := Int.gcd_pos_of_ne_zero_right _ hy
  have hgl : Int.gcd x y ≤ y.natAbs := Nat.le_of_dvd (by omega) (by simpa using Int.natAbs_dvd_natAbs.mpr (Int.gcd_dvd_right (a := x) (b := y)))
  have fin_ : ∀ sg : Int, (sg = if y < 0 then -(Int.gcd x y : Int) else Int.gcd x y) → WS (ex G (run G (n + 1)) S_lowest_1 [some (.int x), some (.int y), some (.int sg)] s) (fun _ s'_1 => W (fin true s.length .non s'_1) fun x_1 y_1 => x_1 = frD (Rat.divInt x y) ∧ y_1 = s) (fun d s'_1 => W (fin true s.length d s'_1) fun x_1 y_1 => x_1 = frD (Rat.divInt x y) ∧ y_1 = s) (fun _ _ => False) (fun _ _ => False) := fun sg hs => by
    obtain ⟨e1, e2⟩ := lowest_num (x := x) hy sg hs
    have hsn : sg.natAbs = Int.gcd x y := by subst hs; split <;> simp
    have hs0 : sg ≠ 0 := by omega
    have hsl : sg.natAbs < 2 ^ 4000 := by omega
    with_reducible refine ws_retE (d := frD (Rat.divInt x y)) (s' := s) ?_ (by simp [fin_plain])
    simp only [ev_tup, evs_cons, evs_nil, ev_bin, ev_var, List.getElem?_cons_succ, List.getElem?_cons_zero, gv_some, R_bind_ok, R_map_ok, view_int]
    rw [bin_fdivB hs0 hsl hx, R_bind_ok, bin_fdivB hs0 hsl h, e1, e2]
    simp
  by_cases q : y < 0
  · with_reducible refine ws_itT (s' := s) (by simp [q]) ?_
    with_reducible refine ws_set (d := .int (-(Int.gcd x y : Int))) (s' := s) (by simp) (ws_done ?_)
    simp only [List.set_cons_succ, List.set_cons_zero]
    exact fin_ _ (by rw [if_pos q])
  · with_reducible refine ws_it0 (s' := s) (by simp [q]) ?_
    exact fin_ _ (by rw [if_neg q])
end
end EV
set_option linter.all false
set_option maxRecDepth 100000
set_option maxHeartbeats 2000000
namespace EV
open PySem (Operator CmpOp)
section
variable {G : Pg} {κ : Nat → List D → St → R D} {v : Env} {s : St} {β : Type} {enc f : β → D} {p : β → Bool} {xs : List β} {g : Gd} {t : Tg} {it c e : E}
theorem comp_mapT (hit : evIt G κ it v s = .ok (xs.map enc, g) s) (hg : okG g s = true) (h : ∀ x ∈ xs, cstep G κ t c e v (enc x) s = .ok [f x] s) (hl : xs.length ≤ line) : ev G κ (.comp false t it c e) v s = .ok (.lst (xs.map f)) s := by
  simp only [ev_comp, hit, R_bind_ok]
  rw [compL_map hg h]
  simp only [R_bind_ok]
  rw [if_pos (by rw [List.length_map]; omega)]
  rfl
theorem cstep_two {i j : Nat} {a b : D} : cstep G κ (.tup [i, j]) c e v (.tup [a, b]) s = (tst (ev G κ c (((v.set j none).set i none).set i (some a) |>.set j (some b)) s)).calm.bind fun q s => if q then (ev G κ e (((v.set j none).set i none).set i (some a) |>.set j (some b)) s).calm.map ([·]) else .ok [] s := by
  rfl
end
section
variable {s : St}
end
end EV
set_option linter.all false
set_option maxRecDepth 100000
set_option maxHeartbeats 2000000
namespace EV
open PySem (Operator CmpOp)
def Sbt (e : Nat) (q : Rat) : Prop := q.num.natAbs ≤ 2 ^ e ∧ q.den ≤ 2 ^ e
theorem Sbt.up {e f : Nat} {q : Rat} (h : Sbt e q) (k : e ≤ f) : Sbt f q := ⟨Nat.le_trans h.1 (Nat.pow_le_pow_right (by decide) k), Nat.le_trans h.2 (Nat.pow_le_pow_right (by decide) k)⟩
theorem Sbt.zero {e : Nat} : Sbt e 0 := ⟨Nat.zero_le _, Nat.one_le_two_pow⟩
theorem Sbt.one {e : Nat} : Sbt e 1 := ⟨Nat.one_le_two_pow, Nat.one_le_two_pow⟩
theorem mul_sb {x y a b : Nat} (h : x ≤ 2 ^ a) (k : y ≤ 2 ^ b) : x * y ≤ 2 ^ (a + b) := by rw [Nat.pow_add]; exact Nat.mul_le_mul h k
theorem sbt_divInt {x : Int} {y : Nat} {e : Nat} (hx : x.natAbs ≤ 2 ^ e) (hy : y ≤ 2 ^ e) (h0 : y ≠ 0) : Sbt e (Rat.divInt x y) := by
  rw [Rat.divInt_ofNat]
  exact ⟨by rw [Rat.num_mkRat, if_neg h0]; exact Nat.le_trans (Int.natAbs_ediv_le_natAbs _ _) hx, by rw [Rat.den_mkRat, if_neg h0]; exact Nat.le_trans (Nat.div_le_self _ _) hy⟩
theorem Sbt.mul {e f : Nat} {a b : Rat} (ha : Sbt e a) (hb : Sbt f b) : Sbt (e + f) (a * b) := by
  rw [Rat.mul_def', ← Rat.divInt_ofNat]
  exact sbt_divInt (by rw [Int.natAbs_mul]; exact mul_sb ha.1 hb.1) (mul_sb ha.2 hb.2) (Nat.mul_ne_zero a.den_nz b.den_nz)
theorem pw_lt {x e : Nat} (h : x ≤ 2 ^ e) (k : e < 4000) : x < 2 ^ 4000 := Nat.lt_of_le_of_lt h (Nat.pow_lt_pow_right (by decide) k)
section
variable {n : Nat} {s : St}
theorem idx_fr0 {q : Rat} : idxD (frD q) (.int 0) = some (.int q.num) := idx_tup0
theorem idx_fr1 {q : Rat} : idxD (frD q) (.int 1) = some (nD q.den) := idx_tup1
theorem product_ok {a b : Rat} {e f : Nat} (ha : Sbt e a) (hb : Sbt f b) (h : e + f < 4000) : run G (n + 3) F_product [frD a, frD b] s = .ok (frD (a * b)) s := by
  apply eq_of_W
  refine in_product ?_
  have m1 : ∀ S, binX false .Mult (.int a.num) (.int b.num) S = .ok (.int (a.num * b.num)) S := fun S => bin_mulB (pw_lt ha.1 (by omega)) (pw_lt hb.1 (by omega))
  have m2 : ∀ S, binX false .Mult (nD a.den) (nD b.den) S = .ok (.int ((a.den : Int) * (b.den : Int))) S := fun S => bin_mulB (by simpa using pw_lt ha.2 (by omega)) (by simpa using pw_lt hb.2 (by omega))
  have hne : ((a.den * b.den : Nat) : Int) ≠ 0 := by have := Nat.mul_ne_zero a.den_nz b.den_nz; omega
  have hl := lowest_ok (n := n) (s := s) (x := a.num * b.num) (y := ((a.den * b.den : Nat) : Int)) hne (pw_lt (by rw [Int.natAbs_mul]; exact mul_sb ha.1 hb.1) h) (pw_lt (by rw [Int.natAbs_natCast]; exact mul_sb ha.2 hb.2) h)
  rw [Int.natCast_mul] at hl
  have e1 : Rat.divInt (a.num * b.num) ((a.den : Int) * (b.den : Int)) = a * b := by rw [Rat.mul_def', ← Rat.divInt_ofNat, Int.natCast_mul]
  rw [e1] at hl
  with_reducible refine ws_retE (d := frD (a * b)) (s' := s) ?_ (by simp [fin_plain])
  simp only [ev_call, evs_cons, evs_nil, ev_bin, ev_idx, ev_con, ev_var, List.getElem?_cons_succ, List.getElem?_cons_zero, gv_some, R_bind_ok, R_map_ok, view_tup, idx_fr0, idx_fr1, R_opt_some, view_int, m1, m2, callX_nil, hl]
theorem over_ok {a b : Rat} {e f : Nat} (hb0 : b ≠ 0) (ha : Sbt e a) (hb : Sbt f b) (h : e + f < 4000) : run G (n + 3) F_over [frD a, frD b] s = .ok (frD (a / b)) s := by
  apply eq_of_W
  refine in_over ?_
  have m1 : ∀ S, binX false .Mult (.int a.num) (nD b.den) S = .ok (.int (a.num * (b.den : Int))) S := fun S => bin_mulB (pw_lt ha.1 (by omega)) (by simpa using pw_lt hb.2 (by omega))
  have m2 : ∀ S, binX false .Mult (nD a.den) (.int b.num) S = .ok (.int ((a.den : Int) * b.num)) S := fun S => bin_mulB (by simpa using pw_lt ha.2 (by omega)) (pw_lt hb.1 (by omega))
  have hn0 : b.num ≠ 0 := fun q => hb0 (Rat.num_eq_zero.mp q)
  have hne : (a.den : Int) * b.num ≠ 0 := Int.mul_ne_zero (by have := a.den_nz; omega) hn0
  have hl := lowest_ok (n := n) (s := s) (x := a.num * (b.den : Int)) (y := (a.den : Int) * b.num) hne (pw_lt (by rw [Int.natAbs_mul, Int.natAbs_natCast]; exact mul_sb ha.1 hb.2) h) (pw_lt (by rw [Int.natAbs_mul, Int.natAbs_natCast]; exact mul_sb ha.2 hb.1) h)
  have e1 : Rat.divInt (a.num * (b.den : Int)) ((a.den : Int) * b.num) = a / b := by
    rw [← Rat.divInt_mul_divInt, Rat.num_divInt_den, Rat.div_def, Rat.inv_def]
  rw [e1] at hl
  with_reducible refine ws_retE (d := frD (a / b)) (s' := s) ?_ (by simp [fin_plain])
  simp only [ev_call, evs_cons, evs_nil, ev_bin, ev_idx, ev_con, ev_var, List.getElem?_cons_succ, List.getElem?_cons_zero, gv_some, R_bind_ok, R_map_ok, view_tup, idx_fr0, idx_fr1, R_opt_some, view_int, m1, m2, callX_nil, hl]
theorem less_ok {a b : Rat} {e f : Nat} (ha : Sbt e a) (hb : Sbt f b) (h : e + f + 1 < 4000) : run G (n + 3) F_less [frD a, frD b] s = .ok (frD (a - b)) s := by
  apply eq_of_W
  refine in_less ?_
  have m1 : ∀ S, binX false .Mult (.int a.num) (nD b.den) S = .ok (.int (a.num * (b.den : Int))) S := fun S => bin_mulB (pw_lt ha.1 (by omega)) (by simpa using pw_lt hb.2 (by omega))
  have m3 : ∀ S, binX false .Mult (.int b.num) (nD a.den) S = .ok (.int (b.num * (a.den : Int))) S := fun S => bin_mulB (pw_lt hb.1 (by omega)) (by simpa using pw_lt ha.2 (by omega))
  have m2 : ∀ S, binX false .Mult (nD a.den) (nD b.den) S = .ok (.int ((a.den : Int) * (b.den : Int))) S := fun S => bin_mulB (by simpa using pw_lt ha.2 (by omega)) (by simpa using pw_lt hb.2 (by omega))
  have hne : ((a.den * b.den : Nat) : Int) ≠ 0 := by have := Nat.mul_ne_zero a.den_nz b.den_nz; omega
  have q1 : (a.num * (b.den : Int)).natAbs ≤ 2 ^ (e + f) := by rw [Int.natAbs_mul, Int.natAbs_natCast]; exact mul_sb ha.1 hb.2
  have q2 : (b.num * (a.den : Int)).natAbs ≤ 2 ^ (e + f) := by rw [Int.natAbs_mul, Int.natAbs_natCast, Nat.add_comm]; exact mul_sb hb.1 ha.2
  have hl := lowest_ok (n := n) (s := s) (x := a.num * (b.den : Int) - b.num * (a.den : Int)) (y := ((a.den * b.den : Nat) : Int)) hne (pw_lt (e := e + f + 1) (by rw [Nat.pow_succ]; omega) h) (pw_lt (by rw [Int.natAbs_natCast]; exact mul_sb ha.2 hb.2) (by omega))
  rw [Int.natCast_mul] at hl
  have e1 : Rat.divInt (a.num * (b.den : Int) - b.num * (a.den : Int)) ((a.den : Int) * (b.den : Int)) = a - b := by rw [Rat.sub_def', ← Rat.divInt_ofNat, Int.natCast_mul]
  rw [e1] at hl
  with_reducible refine ws_retE (d := frD (a - b)) (s' := s) ?_ (by simp [fin_plain])
  simp only [ev_call, evs_cons, evs_nil, ev_bin, ev_idx, ev_con, ev_var, List.getElem?_cons_succ, List.getElem?_cons_zero, gv_some, R_bind_ok, R_map_ok, view_tup, idx_fr0, idx_fr1, R_opt_some, view_int, m1, m2, m3, bin_subI, callX_nil, hl]
abbrev frL (cs : List Co) (v : QV Co) : D := .lst (cs.map fun c => frD (v c))
theorem mixed_ok {cs : List Co} {u w : QV Co} {f : Rat} (hu : ∀ c ∈ cs, Sbt 1024 (u c)) (hw : ∀ c ∈ cs, Sbt 1024 (w c)) (hf : Sbt 1024 f) (hl : cs.length ≤ 100) : run G (n + 4) F_mixed [frL cs u, frL cs w, frD f] s = .ok (frL cs fun c => u c - f * w c) s := by
  apply eq_of_W
  refine in_mixed ?_
  have e1 : ev G (run G (n + 3)) E_mixed_1 [some (frL cs u), some (frL cs w), some (frD f), none, none] s = .ok (frL cs fun c => u c - f * w c) s := by
    have := comp_mapT (G := G) (κ := run G (n + 3)) (v := [some (frL cs u), some (frL cs w), some (frD f), none, none]) (s := s) (t := .tup [3, 4]) (it := .zip (.var 0) (.var 1)) (c := .con (.bl true)) (e := .call F_less (.cons (.var 3) (.cons (.call F_product (.cons (.var 2) (.cons (.var 4) .nil)) []) .nil)) []) (xs := cs) (enc := fun c => .tup [frD (u c), frD (w c)]) (f := fun c => frD (u c - f * w c)) (g := []) (by
        simp only [evIt_zip, ev_var, List.getElem?_cons_succ, List.getElem?_cons_zero, gv_some, R_bind_ok, view_lst, zipX_l, guard_lst, List.append_nil, List.zip_map', List.map_map]
        rfl) rfl (fun c hc => by
      have p1 := product_ok (n := n) (s := s) hf (hw c hc) (by decide)
      have p2 := less_ok (n := n) (s := s) (hu c hc) (hf.mul (hw c hc)) (by decide)
      rw [cstep_two]
      simp only [List.set_cons_succ, List.set_cons_zero, ev_con, tst_bl, R_calm_ok, R_bind_ok, if_true, ev_call, evs_cons, evs_nil, ev_var, List.getElem?_cons_succ, List.getElem?_cons_zero, gv_some, R_map_ok, callX_nil, p1, p2]) (by rw [line_val]; omega)
    unfold E_mixed_1; exact this
  with_reducible refine ws_retE (d := frL cs fun c => u c - f * w c) (s' := s) e1 ?_
  have : plains (cs.map fun c => frD (u c - f * w c)) = true := plains_map (fun c => by simp) _
  simp [fin_plain, this]
end
end EV
set_option linter.all false
set_option maxRecDepth 100000
set_option maxHeartbeats 2000000
namespace EV
open PySem (Operator CmpOp)
def colsQ (ws : List (List Nat)) : List Co := (thingsIn ws).map .inl ++ (List.range ws.length).map .inr
theorem cols_len {ws : List (List Nat)} : (colsQ ws).length = (thingsIn ws).length + ws.length := by simp [colsQ]
theorem cols_at {ws : List (List Nat)} {k : Nat} (h : k < (thingsIn ws).length) : (colsQ ws)[k]? = some (.inl (thingsIn ws)[k]) := by
  unfold colsQ
  rw [List.getElem?_append_left (by simpa using h), List.getElem?_map, List.getElem?_eq_getElem h]; rfl
def ixC (ws : List (List Nat)) : Co → Nat
  | .inl c => (thingsIn ws).idxOf c
  | .inr _ => 0
theorem cols_ix {ws : List (List Nat)} {c : Nat} (h : c ∈ thingsIn ws) : ixC ws (.inl c) < (thingsIn ws).length ∧ (colsQ ws)[ixC ws (.inl c)]? = some (.inl c) := by
  have h1 : (thingsIn ws).idxOf c < (thingsIn ws).length := List.idxOf_lt_length_of_mem h
  refine ⟨h1, ?_⟩
  rw [show ixC ws (.inl c) = (thingsIn ws).idxOf c from rfl, cols_at h1]
  congr 2
  exact List.getElem_idxOf h1
abbrev keptD (ws : List (List Nat)) (p : Co × QV Co) : D := .tup [nD (ixC ws p.1), frL (colsQ ws) p.2]
abbrev augL (ws : List (List Nat)) (v : QV Co) : D := .lst ((List.range ws.length).map fun i => frD (v (.inr i)))
theorem plain_frL {cs : List Co} {v : QV Co} : plain (frL cs v) = true := by
  have : plains (cs.map fun c => frD (v c)) = true := plains_map (fun c => by simp) _
  simp [this]
theorem plain_augL {ws : List (List Nat)} {v : QV Co} : plain (augL ws v) = true := by
  have : plains ((List.range ws.length).map fun i => frD (v (.inr i))) = true := plains_map (fun c => by simp) _
  simp [this]
theorem plains_kept {ws : List (List Nat)} {K : QK Co} : plains (K.map (keptD ws)) = true := plains_map (fun p => by
  have := plain_frL (cs := colsQ ws) (v := p.2)
  simp only [plain_tup, plains_cons, this]; simp) _
theorem plains_aug {ws : List (List Nat)} {l : List (QV Co)} : plains (l.map (augL ws)) = true := plains_map (fun p => plain_augL) _
theorem b2i_fr {b : Bool} : (D.tup [.int (b2i b), .int 1]) = frD (if b then 1 else 0) := by cases b <;> rfl
section
variable {n : Nat} {s : St} {ws : List (List Nat)}
theorem row_of_ok (h : LotsOk ws) {k : Nat} (hk : k < ws.length) : run G (n + 2) F_row_of [lotsD ws, nD k] s = .ok (frL (colsQ ws) (rowQ ws k)) s := by
  apply eq_of_W
  refine in_row_of ?_
  have hw := idxT_w hk
  have hth := h.things
  have hfew := h.few
  with_reducible refine ws_set (d := .str (wAt ws k)) (s' := s) ?_ ?_
  · simp only [ev_idx, ev_atr, ev_var, List.getElem?_cons_succ, List.getElem?_cons_zero, gv_some, R_bind_ok, atr_lots, view_tup, hw, R_opt_some]
  simp only [List.set_cons_succ, List.set_cons_zero]
  have e1 : ev G (run G (n + 1)) E_row_of_1 [some (lotsD ws), some (nD k), some (.str (wAt ws k)), none, none] s = .ok (.lst ((thingsIn ws).map fun c => frD (rowQ ws k (.inl c)))) s := by
    have := comp_map (G := G) (κ := run G (n + 1)) (v := [some (lotsD ws), some (nD k), some (.str (wAt ws k)), none, none]) (s := s) (i := 3) (it := .iv (.atr (.var 0) A_things)) (c := .con (.bl true)) (e := .tup (.cons (.bi .int (.cons (.cmp .In (.var 3) (.var 2)) .nil)) (.cons (.con (.int 1)) .nil))) (xs := thingsIn ws) (enc := chD) (f := fun c => frD (rowQ ws k (.inl c))) (g := []) (by simp) rfl (fun c hc => by
      have hb : frD (rowQ ws k (.inl c)) = .tup [.int (b2i (decide (c ∈ wAt ws k))), .int 1] := by
        rw [b2i_fr]; simp only [rowQ, decide_eq_true_eq]
      rw [hb]
      simp [cstep_one]) (by rw [line_val]; omega)
    unfold E_row_of_1; exact this
  have e2 : ev G (run G (n + 1)) E_row_of_2 [some (lotsD ws), some (nD k), some (.str (wAt ws k)), none, none] s = .ok (.lst ((List.range ws.length).map fun j => frD (rowQ ws k (.inr j)))) s := by
    have := comp_map (G := G) (κ := run G (n + 1)) (v := [some (lotsD ws), some (nD k), some (.str (wAt ws k)), none, none]) (s := s) (i := 4) (it := .rng1 (.bi .len (.cons (.var 0) .nil))) (c := .con (.bl true)) (e := .tup (.cons (.bi .int (.cons (.cmp .Eq (.var 4) (.var 1)) .nil)) (.cons (.con (.int 1)) .nil))) (xs := List.range ws.length) (enc := nD) (f := fun j => frD (rowQ ws k (.inr j))) (g := []) (by
        simp only [evIt_rng1, ev_bi, evs_cons, evs_nil, ev_var, List.getElem?_cons_succ, List.getElem?_cons_zero, gv_some, R_bind_ok, R_map_ok, len_lots h.few]
        rw [rgX_ok (by decide) (fits62_of (by omega))]
        simp) rfl (fun j hj => by
      have hb : frD (rowQ ws k (.inr j)) = .tup [.int (b2i (decide (j = k))), .int 1] := by
        rw [b2i_fr]; simp only [rowQ, decide_eq_true_eq]
      have hh : decide ((j : Int) = (k : Int)) = decide (j = k) := by rw [Bool.eq_iff_iff, decide_eq_true_eq, decide_eq_true_eq]; omega
      rw [hb]
      simp only [cstep_one, List.set_cons_succ, List.set_cons_zero, ev_con, tst_bl, R_calm_ok, R_bind_ok, if_true, ev_tup, ev_bi, evs_cons, evs_nil, ev_cmp, ev_var, List.getElem?_cons_succ, List.getElem?_cons_zero, gv_some, R_map_ok, cmpI_ii, cmpO_eqi, hh, Option.map_some, R_opt_some, bi_intb, List.length_cons, List.length_nil, Nat.zero_add, Nat.reduceAdd, le_line2]) (by rw [List.length_range, line_val]; omega)
    unfold E_row_of_2; exact this
  with_reducible refine ws_retE (d := frL (colsQ ws) (rowQ ws k)) (s' := s) ?_ ?_
  · simp only [ev_bin, e1, e2, R_bind_ok, view_lst]
    rw [bin_addL (by simp only [List.length_map, List.length_range, line_val]; omega)]
    simp [colsQ, List.map_map, Function.comp_def]
  · rw [fin_plain plain_frL]; simp
def optI (ws : List (List Nat)) : Option Nat → D
  | none => .non
  | some c => nD (ixC ws (.inl c))
theorem first_place_ok (h : LotsOk ws) {v : QV Co} : run G (n + 1) F_first_place [frL (colsQ ws) v, nD (thingsIn ws).length] s = .ok (optI ws (firstC v (thingsIn ws))) s := by
  apply eq_of_W
  refine in_first_place ?_
  have hth := h.things
  with_reducible refine ws_for1 (fun k v' s' => (∃ o, v' = [some (frL (colsQ ws) v), some (nD (thingsIn ws).length), o] ∧ ∀ (j : Nat) (hj : j < (thingsIn ws).length), j < k → v (.inl (thingsIn ws)[j]) = 0) ∧ s' = s) (xs := (List.range (thingsIn ws).length).map nD) (g := []) (s' := s) ?_ ?_ (fun _ _ _ _ => rfl) ?_ ?_
  · simp only [evIt_rng1, ev_var, List.getElem?_cons_succ, List.getElem?_cons_zero, gv_some, R_bind_ok]
    rw [rgX_ok (by decide) (fits62_of (by omega))]
    simp
  · exact ⟨⟨_, rfl, fun j hj q => by omega⟩, rfl⟩
  · rintro k x v' s' hx ⟨⟨o, rfl, hz⟩, rfl⟩
    obtain ⟨hk, rfl⟩ := range_at hx
    simp only [List.set_cons_succ, List.set_cons_zero]
    have i1 : idxD (frL (colsQ ws) v) (nD k) = some (frD (v (.inl (thingsIn ws)[k]))) := by
      rw [idx_lst, List.getElem?_map, cols_at hk]; rfl
    by_cases e : v (.inl (thingsIn ws)[k]) = 0
    · with_reducible refine ws_it0 (s' := s') ?_ (ws_done ?_)
      · have : (v (.inl (thingsIn ws)[k])).num = 0 := by rw [e]; rfl
        simp only [ev_cmp, ev_idx, ev_con, ev_var, List.getElem?_cons_succ, List.getElem?_cons_zero, gv_some, R_bind_ok, view_lst, i1, R_opt_some, view_tup, idx_fr0, cmpI_ii, cmpO_nei, Option.map_some, this]
        rfl
      · refine ⟨⟨_, rfl, fun j hj q => ?_⟩, rfl⟩
        rcases Nat.lt_or_ge j k with q2 | q2
        · exact hz j hj q2
        · have : j = k := by omega
          subst this; exact e
    · have hf : firstC v (thingsIn ws) = some (thingsIn ws)[k] := by
        unfold firstC
        rw [List.find?_eq_some_iff_getElem]
        refine ⟨by simpa using e, k, hk, rfl, fun j hj => ?_⟩
        simpa using hz j (by omega) hj
      have hi : ixC ws (.inl (thingsIn ws)[k]) = k := (nodup_of_asc (uniq_asc _)).idxOf_getElem k hk
      with_reducible refine ws_itT (s' := s') ?_ ?_
      · have : (v (.inl (thingsIn ws)[k])).num ≠ 0 := fun q => e (Rat.num_eq_zero.mp q)
        simp only [ev_cmp, ev_idx, ev_con, ev_var, List.getElem?_cons_succ, List.getElem?_cons_zero, gv_some, R_bind_ok, view_lst, i1, R_opt_some, view_tup, idx_fr0, cmpI_ii, cmpO_nei, Option.map_some, decide_eq_false this]
        rfl
      · with_reducible refine ws_retE (d := nD k) (s' := s') (by simp) ?_
        rw [hf]
        show W (fin true s'.length (nD k) s') fun x y => x = nD (ixC ws (.inl (thingsIn ws)[k])) ∧ y = s'
        rw [hi]; simp [fin_plain]
  · rintro v' s' ⟨⟨o, rfl, hz⟩, rfl⟩
    rw [List.length_map, List.length_range] at hz
    have hf : firstC v (thingsIn ws) = none := by
      unfold firstC
      rw [List.find?_eq_none]
      intro c hc
      obtain ⟨j, hj, rfl⟩ := List.mem_iff_getElem.mp hc
      simpa using hz j hj hj
    rw [hf]
    with_reducible refine ws_retE (d := .non) (s' := s') (by simp) (by simp [fin_plain, optI])
end
end EV
set_option linter.all false
set_option maxRecDepth 100000
set_option maxHeartbeats 1000000
namespace EV
def castI (ws : List (List Nat)) (row : List Int) : QV Co
  | .inl c => if c ∈ thingsIn ws then ((row.getD ((thingsIn ws).idxOf c) 0 : Int) : Rat) else 0
  | .inr _ => 0
section
variable {ws : List (List Nat)}
theorem cast_step {row lead : List Int} {hi lo : Int} (hl : (thingsIn ws).length ≤ row.length) (hg : gcdL (comb hi lo row lead) ≠ 0) (j : Co) (hj : isL j) :
    castI ws (redL (comb hi lo row lead)) j = (hi : Rat) / (gcdL (comb hi lo row lead) : Nat) * castI ws row j + (-(lo : Rat) / (gcdL (comb hi lo row lead) : Nat)) * castI ws lead j := by
  cases j with
  | inr _ => exact hj.elim
  | inl c =>
    unfold castI
    dsimp only
    by_cases hc : c ∈ thingsIn ws
    · rw [if_pos hc, if_pos hc, if_pos hc]
      have hi' : (thingsIn ws).idxOf c < row.length := Nat.lt_of_lt_of_le (List.idxOf_lt_length_of_mem hc) hl
      have e1 := comb_at (high := hi) (low := lo) (row := row) (lead := lead) hi'
      generalize comb hi lo row lead = C at *
      generalize (thingsIn ws).idxOf c = i at *
      have hd : ((gcdL C : Nat) : Int) ∣ C.getD i 0 := by
        by_cases z : C.getD i 0 = 0
        · rw [z]; exact Int.dvd_zero _
        · exact gcdL_dvd _ (mem_getD z)
      have e2 := Int.mul_ediv_cancel' hd
      rw [red_at]
      have e3 : ((gcdL C : Nat) : Rat) * ((C.getD i 0 / (gcdL C : Int) : Int) : Rat) = ((C.getD i 0 : Int) : Rat) := by
        rw [← Rat.intCast_natCast, ← Rat.intCast_mul, e2]
      have hg0 : ((gcdL C : Nat) : Rat) ≠ 0 := fun q => hg (Rat.natCast_eq_zero_iff.mp q)
      rw [e1, Rat.intCast_sub, Rat.intCast_mul, Rat.intCast_mul] at e3
      grind
    · rw [if_neg hc, if_neg hc, if_neg hc]; grind
structure SimI (ws : List (List Nat)) (k : Nat) (st : List (Nat × List Int)) (gn : List (List Int)) (K : QK Co) : Prop where
  bas : Bas (ws.take k) K
  len : K.length = st.length
  piv : ∀ (i : Nat) (p : Nat × List Int) (q : Co × QV Co), st[i]? = some p → K[i]? = some q → q.1 = .inl ((thingsIn ws).getD p.1 0)
  sp : ∀ p ∈ st, Sp isL K (castI ws p.2)
  ech : ∀ (i j : Nat) (p q : Nat × List Int), i < j → st[i]? = some p → st[j]? = some q → q.2.getD p.1 0 = 0
  ok : ∀ (i : Nat) (p : Nat × List Int), st[i]? = some p → StepB (thingsIn ws).length ws.length i k p
  cnt : st.length + gn.length = k
theorem row_cast {k : Nat} (hn : (thingsIn ws).Nodup) (hk : k < ws.length) (hoff : ∀ c ∈ wAt ws k, c ∈ thingsIn ws) (j : Co) (hj : isL j) : castI ws (row0 ws k) j = rowQ ws k j := by
  cases j with
  | inr _ => exact hj.elim
  | inl c =>
    unfold castI rowQ
    dsimp only
    by_cases hc : c ∈ thingsIn ws
    · rw [if_pos hc]
      have hi : (thingsIn ws).idxOf c < (thingsIn ws).length := List.idxOf_lt_length_of_mem hc
      have : (row0 ws k).getD ((thingsIn ws).idxOf c) 0 = b2i (decide (c ∈ wAt ws k)) := by
        unfold row0
        rw [List.getD_eq_getElem?_getD, List.getElem?_append_left (by simpa using hi), List.getElem?_map, List.getElem?_eq_getElem hi, List.getElem_idxOf hi]; rfl
      rw [this]
      by_cases q : c ∈ wAt ws k
      · rw [if_pos q, decide_eq_true q]; rfl
      · rw [if_neg q, decide_eq_false q]; rfl
    · rw [if_neg hc, if_neg fun m => hc (hoff c m)]
theorem sim_row {k : Nat} {st : List (Nat × List Int)} {gn : List (List Int)} {K : QK Co} (S : SimI ws k st gn K) (hk : k < ws.length) (hr : ∀ j, isL j → castI ws (row0 ws k) j = rowQ ws k j) : ∀ i, i ≤ st.length →
    RowB (thingsIn ws).length ws.length i k (lawRow (st.take i) (row0 ws k)) ∧ (∀ (a : Nat) (p : Nat × List Int), a < i → st[a]? = some p → (lawRow (st.take i) (row0 ws k)).getD p.1 0 = 0) ∧
    ∃ μ : Rat, μ ≠ 0 ∧ Sp isL K fun j => castI ws (lawRow (st.take i) (row0 ws k)) j - μ * rowQ ws k j
  | 0, _ => ⟨row0_ok hk, fun a p h => by omega, 1, by decide, fun j hj => by
      have z : ∀ j, isL j → castI ws (lawRow (st.take 0) (row0 ws k)) j - 1 * rowQ ws k j = 0 := fun j hj => by
        have := hr j hj
        show castI ws (row0 ws k) j - _ = 0
        rw [this]; grind
      rw [smK_zero fun p m => by dsimp only; rw [z _ (S.bas.piv p m)]; grind]
      exact z j hj⟩
  | i + 1, hi => by
    obtain ⟨R, hz, μ, hμ, hs⟩ := sim_row S hk hr i (by omega)
    have hlt : i < st.length := hi
    have hp : st[i]? = some st[i] := List.getElem?_eq_getElem hlt
    generalize st[i] = p at hp
    have P := S.ok i p hp
    rw [lawRow_succ hp]
    generalize lawRow (st.take i) (row0 ws k) = row at *
    have hne := gcdL_pos (comb_ne R P hk)
    have hp1 : p.1 < row.length := by rw [R.len]; have := P.lt; omega
    refine ⟨row_step R P hk, fun a q ha hq => ?_, ?_⟩
    · rw [red_at]
      have hq1 : q.1 < row.length := by rw [R.len]; have := (S.ok a q hq).lt; omega
      rw [comb_at hq1]
      rcases Nat.lt_or_ge a i with h1 | h1
      · rw [hz a q h1 hq, S.ech a i q p h1 hq hp]; simp
      · have : a = i := by omega
        subst this
        rw [hp] at hq; cases hq
        rw [Int.mul_comm, Int.sub_self]; simp
    · have hg0 : ((gcdL (comb (p.2.getD p.1 0) (row.getD p.1 0) row p.2) : Nat) : Rat) ≠ 0 := fun q => by have := Rat.natCast_eq_zero_iff.mp q; omega
      have hh0 : ((p.2.getD p.1 0 : Int) : Rat) ≠ 0 := fun q => P.piv (Rat.intCast_eq_zero_iff.mp q)
      have cs := cast_step (ws := ws) (row := row) (lead := p.2) (hi := p.2.getD p.1 0) (lo := row.getD p.1 0) (by rw [R.len]; omega) (by omega)
      generalize (gcdL (comb (p.2.getD p.1 0) (row.getD p.1 0) row p.2) : Nat) = g at *
      generalize ((p.2.getD p.1 0 : Int) : Rat) = hi at *
      generalize ((row.getD p.1 0 : Int) : Rat) = lo at *
      refine ⟨hi / g * μ, fun e => ?_, ?_⟩
      · rcases Rat.mul_eq_zero.mp e with q | q
        · exact hh0 (by grind)
        · exact hμ q
      · have h1 := hs.lin (hi / g) (-lo / g) (S.sp p (List.mem_of_getElem? hp))
        refine h1.congr (fun j hj => ?_) S.bas.piv
        rw [cs j hj]; grind
theorem spots_nil {L : Nat} {row : List Int} (h : spotsF L row = []) {j : Nat} (hj : j < L) : row.getD j 0 = 0 := by
  have := List.filter_eq_nil_iff.mp h j (List.mem_range.mpr hj)
  simpa using this
theorem spots_cons {L a : Nat} {r : List Nat} {row : List Int} (h : spotsF L row = a :: r) : a < L ∧ row.getD a 0 ≠ 0 := by
  have : a ∈ spotsF L row := by rw [h]; exact List.mem_cons_self
  obtain ⟨h1, h2⟩ := List.mem_filter.mp this
  exact ⟨List.mem_range.mp h1, by simpa using h2⟩
theorem sim_ok (h : LotsOk ws) : ∀ k, k ≤ ws.length → ∃ K, SimI ws k (lawSteps ws k).1 (lawSteps ws k).2 K
  | 0, _ => ⟨[], ⟨⟨⟨by simp, by simp⟩, by simp, by simp, by simp⟩, rfl, by simp [lawSteps], by simp [lawSteps], by simp [lawSteps], by simp [lawSteps], rfl⟩⟩
  | k + 1, hk => by
    obtain ⟨K, S⟩ := sim_ok h k (by omega)
    rw [lawSteps_succ]
    generalize lawSteps ws k = T at *
    obtain ⟨st, gn⟩ := T
    dsimp only at S
    have hn : (thingsIn ws).Nodup := nodup_of_asc (uniq_asc _)
    have hkk : k < ws.length := hk
    have hw : wAt ws k = ws[k] := by unfold wAt; rw [List.getD_eq_getElem?_getD, List.getElem?_eq_getElem hkk]; rfl
    have et : ws.take (k + 1) = ws.take k ++ [wAt ws k] := by
      rw [List.take_add_one, List.getElem?_eq_getElem hkk, hw]; rfl
    have hoff : ∀ c ∈ wAt ws k, c ∈ thingsIn ws := fun c hc => (mem_things h).mpr ⟨_, List.getElem_mem hkk, by rwa [hw] at hc⟩
    have hr := row_cast hn hkk hoff
    obtain ⟨R, hz, μ, hμ, hs⟩ := sim_row S hkk hr st.length (Nat.le_refl _)
    rw [List.take_length] at R hz hs
    have hrl := R.len
    unfold lawStep
    dsimp only
    generalize lawRow st (row0 ws k) = row at *
    have hv : ∀ j, isL j → castI ws row j = μ * swp K (rowQ ws k) j := fun j hj => by
      have h1 := hs.lin 1 (μ) (S.bas.red.swp_sp (P := isL) (r := rowQ ws k))
      have h2 : Sp isL K fun j => castI ws row j - μ * swp K (rowQ ws k) j := h1.congr (fun j _ => by grind) S.bas.piv
      have h3 := h2.none (fun q m => by
        rw [S.bas.red.swp_at m]
        obtain ⟨i, hi, rfl⟩ := List.mem_iff_getElem.mp m
        have hi2 : i < st.length := by rw [← S.len]; exact hi
        have e1 := S.piv i st[i] K[i] (List.getElem?_eq_getElem hi2) (List.getElem?_eq_getElem hi)
        have P := S.ok i st[i] (List.getElem?_eq_getElem hi2)
        have e2 := hz i st[i] hi2 (List.getElem?_eq_getElem hi2)
        rw [e1]
        have hth : (thingsIn ws).getD st[i].1 0 = (thingsIn ws)[st[i].1]'P.lt := by rw [List.getD_eq_getElem?_getD, List.getElem?_eq_getElem P.lt]; rfl
        rw [hth]
        unfold castI
        dsimp only
        rw [if_pos (List.getElem_mem P.lt), hn.idxOf_getElem _ P.lt, e2]
        grind) hj
      grind
    have hun : ∀ i p, st[i]? = some p → StepB (thingsIn ws).length ws.length i (k + 1) p := fun i p e => by
      have P := S.ok i p e
      exact ⟨P.lt, P.piv, P.len, P.small, fun j h1 h2 => P.zero j (by omega) h2⟩
    have hcnt := S.cnt
    cases e : spotsF (thingsIn ws).length row with
    | nil =>
      dsimp only
      have z : ∀ c, swp K (rowQ ws k) (.inl c) = 0 := fun c => by
        have h1 := hv (.inl c) trivial
        have h2 : castI ws row (.inl c) = 0 := by
          unfold castI
          dsimp only
          by_cases hc : c ∈ thingsIn ws
          · rw [if_pos hc, spots_nil e (List.idxOf_lt_length_of_mem hc)]; rfl
          · rw [if_neg hc]
        rw [h2] at h1
        rcases Rat.mul_eq_zero.mp h1.symm with q | q
        · exact absurd q hμ
        · exact q
      refine ⟨K, by rw [et]; exact S.bas.keep row_agree z, S.len, S.piv, S.sp, S.ech, hun, ?_⟩
      rw [List.length_append, List.length_singleton]; omega
    | cons a r =>
      dsimp only
      obtain ⟨ha, hra⟩ := spots_cons e
      have hc : (thingsIn ws).getD a 0 = (thingsIn ws)[a] := by rw [List.getD_eq_getElem?_getD, List.getElem?_eq_getElem ha]; rfl
      have hcm : (thingsIn ws)[a] ∈ thingsIn ws := List.getElem_mem ha
      have h1 := hv (.inl (thingsIn ws)[a]) trivial
      have h2 : castI ws row (.inl (thingsIn ws)[a]) = ((row.getD a 0 : Int) : Rat) := by
        unfold castI
        dsimp only
        rw [if_pos hcm, hn.idxOf_getElem _ ha]
      have z : swp K (rowQ ws k) (.inl (thingsIn ws)[a]) ≠ 0 := fun q => by
        rw [h2, q, Rat.mul_zero] at h1
        exact hra (Rat.intCast_eq_zero_iff.mp h1)
      have B := S.bas.add (w := wAt ws k) row_agree z
      refine ⟨_, by rw [et]; exact B, by simp [adrK, S.len], fun i p q hp hq => ?_, fun p m => ?_, fun i j p q hij hp hq => ?_, fun i p hp => ?_, ?_⟩
      · rcases Nat.lt_or_ge i st.length with q2 | q2
        · rw [List.getElem?_append_left q2] at hp
          unfold adrK at hq
          rw [List.getElem?_append_left (by rw [List.length_map, S.len]; exact q2), List.getElem?_map] at hq
          obtain ⟨q', hq', rfl⟩ := Option.map_eq_some_iff.mp hq
          exact S.piv i p q' hp hq'
        · have : i = st.length := by
            have := (List.getElem?_eq_some_iff.mp hp).1
            rw [List.length_append, List.length_singleton] at this; omega
          subst this
          simp at hp
          subst hp
          unfold adrK at hq
          rw [List.getElem?_append_right (by rw [List.length_map, S.len]; exact Nat.le_refl _), List.length_map, S.len] at hq
          simp at hq
          subst hq
          rw [hc]
      · rcases List.mem_append.mp m with m | m
        · exact (S.sp p m).add trivial
        · rw [List.mem_singleton.mp m]
          have s1 : Sp isL (adrK K (.inl (thingsIn ws)[a]) fun j => swp K (rowQ ws k) j / swp K (rowQ ws k) (.inl (thingsIn ws)[a])) fun j => swp K (rowQ ws k) j / swp K (rowQ ws k) (.inl (thingsIn ws)[a]) := B.red.sp (p := (.inl (thingsIn ws)[a], _)) (mem_adrK.mpr (.inr rfl))
          refine (s1.lin (μ * swp K (rowQ ws k) (.inl (thingsIn ws)[a])) 0 s1).congr (fun j hj => ?_) B.piv
          dsimp only
          rw [hv j hj]; grind
      · rcases Nat.lt_or_ge j st.length with q2 | q2
        · rw [List.getElem?_append_left (by omega)] at hp hq
          exact S.ech i j p q hij hp hq
        · have : j = st.length := by
            have := (List.getElem?_eq_some_iff.mp hq).1
            rw [List.length_append, List.length_singleton] at this; omega
          subst this
          rw [List.getElem?_append_left hij] at hp
          simp at hq
          subst hq
          exact hz i p hij hp
      · rcases Nat.lt_or_ge i st.length with q2 | q2
        · rw [List.getElem?_append_left q2] at hp
          exact hun i p hp
        · have : i = st.length := by
            have := (List.getElem?_eq_some_iff.mp hp).1
            rw [List.length_append, List.length_singleton] at this; omega
          subst this
          simp at hp
          subst hp
          exact ⟨ha, hra, hrl, R.small, fun j h1 h2 => R.zero j (by omega) h2⟩
      · rw [List.length_append, List.length_singleton]; omega
abbrev redR (ws : List (List Nat)) : QK Co × List (QV Co) := redQ ws ws.length
def rkQ (ws : List (List Nat)) : Nat := (redR ws).1.length
theorem redR_ok (h : LotsOk ws) : RI ws ws.length (redR ws) := redQ_ok h _ (Nat.le_refl _)
theorem redR_bas (h : LotsOk ws) : Bas ws (redR ws).1 := by
  have := (redR_ok h).bas
  rwa [List.take_length] at this
theorem steps_rank (h : LotsOk ws) : (lawSteps ws ws.length).1.length = rkQ ws ∧ (lawSteps ws ws.length).2.length = (redR ws).2.length := by
  obtain ⟨K, S⟩ := sim_ok h ws.length (Nat.le_refl _)
  have hb := S.bas
  rw [List.take_length] at hb
  have e := hb.unique (redR_bas h) fun _ => Iff.rfl
  have e2 := S.len
  have e3 := S.cnt
  have e4 := (redR_ok h).cnt
  unfold rkQ
  omega
theorem rk_set {us : List (List Nat)} (h : LotsOk ws) (k : LotsOk us) (e : ∀ w, w ∈ ws ↔ w ∈ us) : rkQ ws = rkQ us := (redR_bas h).unique (redR_bas k) e
theorem rk_things (h : LotsOk ws) : rkQ ws ≤ (thingsIn ws).length := piv_len (redR_ok h)
theorem rk_len (h : LotsOk ws) : rkQ ws ≤ ws.length := by have := (redR_ok h).cnt; unfold rkQ; omega
theorem rk_free (h : LotsOk ws) : (redR ws).2 = [] ↔ rkQ ws = ws.length := by
  have := (redR_ok h).cnt
  unfold rkQ
  rw [← List.length_eq_zero_iff]; omega
theorem rk_snoc {w : List Nat} (h : LotsOk ws) (k : LotsOk (ws ++ [w])) : rkQ (ws ++ [w]) = rkQ ws ∨ rkQ (ws ++ [w]) = rkQ ws + 1 := by
  have B := redR_bas h
  by_cases z : ∀ c, swp (redR ws).1 (rowW w) (.inl c) = 0
  · have := (B.keep (w := w) (r := rowW w) (fun _ _ => rfl) z).unique (redR_bas k) fun _ => Iff.rfl
    exact .inl this.symm
  · obtain ⟨c, hc⟩ := Classical.not_forall.mp z
    have := (B.add (w := w) (r := rowW w) (fun _ _ => rfl) hc).unique (redR_bas k) fun _ => Iff.rfl
    refine .inr (this.symm.trans ?_)
    simp [adrK, rkQ]
end
end EV
set_option linter.all false
set_option maxRecDepth 100000
set_option maxHeartbeats 2000000
namespace EV
open PySem (Operator CmpOp)
theorem bq_le {k : Nat} (h : k ≤ 8) : bq k ≤ 2 ^ 1020 := by
  rw [bq_eq]
  refine Nat.pow_le_pow_right (by decide) ?_
  have : 2 ^ k ≤ 2 ^ 8 := Nat.pow_le_pow_right (by decide) h
  omega
theorem pow_1024 : 9 * 2 ^ 1020 ≤ 2 ^ 1024 := by
  rw [show (1024 : Nat) = 1020 + 4 by rfl, Nat.pow_add]
  omega
section
variable {n : Nat} {s : St} {ws : List (List Nat)}
theorem sizes {K : QK Co} (hb : Bd K (bq K.length)) (hk : K.length ≤ 8) : (∀ p ∈ K, ∀ j, Sbt 1024 (p.2 j)) ∧ ∀ (t i : Nat) (j : Co), Sbt 1024 (swp (K.take t) (rowQ ws i) j) := by
  obtain ⟨d, h0, hd, hK⟩ := hb
  have hB := bq_le hk
  have p1 : (2 : Nat) ^ 1020 ≤ 2 ^ 1024 := Nat.pow_le_pow_right (by decide) (by decide)
  have p9 := pow_1024
  generalize bq K.length = B at *
  constructor
  · intro p m j
    obtain ⟨a, b⟩ := (hK p m j).small h0
    exact ⟨by omega, by omega⟩
  · intro t i j
    obtain ⟨a, b⟩ := (Bz.swp (K := K.take t) (r := rowQ ws i) (j := j) hd row_bit fun p m => hK p (List.mem_of_mem_take m) j).small h0
    have hl : (K.take t).length + 1 ≤ 9 := by rw [List.length_take]; omega
    have : ((K.take t).length + 1) * B ≤ 9 * 2 ^ 1020 := Nat.mul_le_mul hl hB
    exact ⟨by omega, by omega⟩
theorem swp_take {K : QK Co} (R : Red K) {t : Nat} {p : Co × QV Co} (hp : K[t]? = some p) (r : QV Co) : swp (K.take t) r p.1 = r p.1 ∧ (fun j => swp (K.take t) r j - swp (K.take t) r p.1 * p.2 j) = swp (K.take (t + 1)) r := by
  have ht : t < K.length := (List.getElem?_eq_some_iff.mp hp).1
  have e : K.take (t + 1) = K.take t ++ [p] := by rw [List.take_add_one, hp]; rfl
  have e1 : swp (K.take t) r p.1 = r p.1 := by
    unfold swp
    rw [smK_zero fun q m => ?_]
    · grind
    · have hm : p ∈ K := List.mem_of_getElem? hp
      have hq : q ∈ K := List.mem_of_mem_take m
      have hne : q.1 ≠ p.1 := fun e2 => by
        obtain ⟨i, hi, hqi⟩ := List.mem_iff_getElem.mp m
        rw [List.getElem_take] at hqi
        rw [List.length_take] at hi
        have h1 : (K.map (·.1))[i]? = (K.map (·.1))[t]? := by
          rw [List.getElem?_map, List.getElem?_map, hp, List.getElem?_eq_getElem (show i < K.length by omega), hqi]
          show some q.1 = some p.1
          rw [e2]
        have := (List.getElem?_inj (by rw [List.length_map]; omega) R.nd).mp h1
        omega
      rw [R.at_ p hm q hq, if_neg hne]; grind
  refine ⟨e1, funext fun j => ?_⟩
  rw [e1, e]
  unfold swp
  rw [smK_app]
  simp only [smK]; grind
def rdI (ws : List (List Nat)) (s : St) (k : Nat) (v : Env) (s' : St) : Prop := ∃ o1 o5 o6 o7 o8 o9 o10 : Option D, v = [some (lotsD ws), o1, some (nD (thingsIn ws).length), some (.lst ((redQ ws k).1.map (keptD ws))), some (.cell s.length), o5, o6, o7, o8, o9, o10] ∧ s' = s ++ [.lst ((redQ ws k).2.map (augL ws))]
theorem reduced_ok (h : LotsOk ws) : run G (n + 6) F_reduced [lotsD ws] s = .ok (.tup [.lst ((redR ws).1.map (keptD ws)), .lst ((redR ws).2.map (augL ws))]) s := by
  apply eq_of_W
  refine in_reduced ?_
  have hth := h.things
  have hfew := h.few
  have hcl : (colsQ ws).length ≤ 20 := by rw [cols_len]; omega
  have hlt : (thingsIn ws).length ≤ line := by rw [line_val]; omega
  with_reducible refine ws_setT (is := [2, 3, 4]) (d := .tup [nD (thingsIn ws).length, .lst [], .cell s.length]) (s' := s ++ [.lst []]) ?_ rfl ?_
  · simp only [ev_tup, evs_cons, evs_nil, ev_bi, ev_atr, ev_lst, ev_var, List.getElem?_cons_succ, List.getElem?_cons_zero, gv_some, R_bind_ok, R_map_ok, atr_things, len_str, lenOf_str hlt, Option.map_some, R_opt_some, List.length_nil, Nat.zero_le, if_true, alloc_f, alloc_tn, List.length_cons, Nat.zero_add, Nat.reduceAdd, le_line3]
  simp only [List.zip_cons_cons, List.zip_nil_left, List.zip_nil_right, List.foldl_cons, List.foldl_nil, List.set_cons_succ, List.set_cons_zero]
  with_reducible refine ws_for1 (rdI ws s) (xs := (List.range ws.length).map nD) (g := []) (s' := s ++ [.lst []]) ?_ ?_ (fun _ _ _ _ => rfl) ?_ ?_
  · simp only [evIt_rng1, ev_bi, evs_cons, evs_nil, ev_var, List.getElem?_cons_succ, List.getElem?_cons_zero, gv_some, R_bind_ok, R_map_ok, len_lots h.few]
    rw [rgX_ok (by decide) (fits62_of (by omega))]
    simp
  · exact ⟨_, _, _, _, _, _, _, rfl, rfl⟩
  · rintro k x v s' hx ⟨o1, o5, o6, o7, o8, o9, o10, rfl, rfl⟩
    obtain ⟨hk, rfl⟩ := range_at hx
    simp only [List.set_cons_succ, List.set_cons_zero]
    have I := redQ_ok h k (by omega)
    have J := redQ_ok h (k + 1) (by omega)
    have hb := redQ_bd h k (by omega)
    have hb' := redQ_bd h (k + 1) (by omega)
    have pl := piv_len I
    have pl' := piv_len J
    have hcnt := I.cnt
    unfold rdI
    rw [redQ_succ] at J hb' pl' ⊢
    generalize redQ ws k = S at *
    obtain ⟨K, lo⟩ := S
    dsimp only at I hb pl hcnt ⊢
    obtain ⟨sz1, sz2⟩ := sizes (ws := ws) hb (by omega)
    have R := I.bas.red
    generalize hS : s ++ [Cell.lst (lo.map (augL ws))] = S' at *
    have hc0 : S'[s.length]? = some (.lst (lo.map (augL ws))) := by rw [← hS]; simp
    with_reducible refine ws_set (d := frL (colsQ ws) (rowQ ws k)) (s' := S') (by simp [row_of_ok (n := n + 3) h hk]) ?_
    simp only [List.set_cons_succ, List.set_cons_zero]
    with_reducible refine ws_forT (fun t v s' => (∃ (o6 o7 : Option D), v = [some (lotsD ws), some (nD k), some (nD (thingsIn ws).length), some (.lst (K.map (keptD ws))), some (.cell s.length), some (frL (colsQ ws) (swp (K.take t) (rowQ ws k))), o6, o7, o8, o9, o10]) ∧ s' = S') (xs := K.map (keptD ws)) (g := []) (s' := S') ?_ ?_ (fun _ _ _ _ => rfl) ?_ ?_
    · simp only [evIt_iv, ev_var, List.getElem?_cons_succ, List.getElem?_cons_zero, gv_some, R_bind_ok, view_lst, items_lst, ivX_some, guard_lst]
    · have e0 : swp (K.take 0) (rowQ ws k) = rowQ ws k := funext fun j => by simp only [swp, List.take_zero, smK]; grind
      exact ⟨⟨o6, o7, by rw [e0]⟩, rfl⟩
    · rintro t x v s' hx ⟨⟨o6, o7, rfl⟩, rfl⟩
      rw [List.getElem?_map] at hx
      obtain ⟨p, hp, rfl⟩ := Option.map_eq_some_iff.mp hx
      have hm : p ∈ K := List.mem_of_getElem? hp
      obtain ⟨c, hc, hpc⟩ := I.piv p hm
      obtain ⟨q1, q2⟩ := cols_ix hc
      rw [← hpc] at q1 q2
      obtain ⟨e1, e2⟩ := swp_take R hp (rowQ ws k)
      refine ⟨_, rfl, ?_⟩
      simp only [List.zip_cons_cons, List.zip_nil_left, List.zip_nil_right, List.foldl_cons, List.foldl_nil, List.set_cons_succ, List.set_cons_zero]
      have i1 : idxD (frL (colsQ ws) (swp (K.take t) (rowQ ws k))) (nD (ixC ws p.1)) = some (frD (swp (K.take t) (rowQ ws k) p.1)) := by
        rw [idx_lst, List.getElem?_map, q2]; rfl
      have m := mixed_ok (n := n + 1) (s := s') (cs := colsQ ws) (u := swp (K.take t) (rowQ ws k)) (w := p.2) (f := swp (K.take t) (rowQ ws k) p.1) (fun c _ => sz2 t k c) (fun c _ => sz1 p hm c) (sz2 t k _) (by omega)
      rw [e2] at m
      with_reducible refine ws_set (d := frL (colsQ ws) (swp (K.take (t + 1)) (rowQ ws k))) (s' := s') ?_ (ws_done ?_)
      · simp only [ev_call, evs_cons, evs_nil, ev_idx, ev_var, List.getElem?_cons_succ, List.getElem?_cons_zero, gv_some, R_bind_ok, R_map_ok, view_lst, i1, R_opt_some, callX_nil, m]
      exact ⟨⟨_, _, rfl⟩, rfl⟩
    · rintro v s' ⟨⟨o6, o7, rfl⟩, rfl⟩
      rw [List.length_map, List.take_length]
      have szv : ∀ j, Sbt 1024 (swp K (rowQ ws k) j) := fun j => by
        have := sz2 K.length k j
        rwa [List.take_length] at this
      unfold stepQ at J hb' pl' ⊢
      dsimp only at J hb' pl' ⊢
      with_reducible refine ws_set (d := optI ws (firstC (swp K (rowQ ws k)) (thingsIn ws))) (s' := s') (by simp [first_place_ok (n := n + 4) h]) ?_
      simp only [List.set_cons_succ, List.set_cons_zero]
      generalize swp K (rowQ ws k) = w at *
      cases e : firstC w (thingsIn ws) with
      | none =>
        simp only [e] at J hb' pl' ⊢
        with_reducible refine ws_itT (s' := s') (by simp [optI]) ?_
        with_reducible refine ws_expE (d := .non) (s' := s ++ [.lst ((lo ++ [w]).map (augL ws))]) ?_ (ws_done (ws_done ?_))
        · have hvc : view s' (.cell s.length) = .lst (lo.map (augL ws)) := by rw [view_cell, hc0]; rfl
          simp only [ev_bm, ev_sl, evs_cons, evs_nil, ev_var, List.getElem?_cons_succ, List.getElem?_cons_zero, gv_some, R_bind_ok, R_map_ok, hvc, ok_app, if_true, view_lst, isNil_var, isNil_nil, part_t, part_f, intX_int, sl_lst, alloc_f, cut_drop]
          have hd : ((colsQ ws).map fun c => frD (w c)).drop (thingsIn ws).length = (List.range ws.length).map fun i => frD (w (.inr i)) := by
            simp [colsQ, List.map_map, Function.comp_def]
          have hbl : below s.length (augL ws w) = true := plain_below _ plain_augL
          rw [hd, app_ok (xs := lo.map (augL ws)) hc0 (by rw [List.length_map, line_val]; omega) hbl, ← hS]
          simp
        · exact ⟨_, _, _, _, _, _, _, rfl, rfl⟩
      | some c =>
        simp only [e] at J hb' pl' ⊢
        obtain ⟨hc, hz⟩ := firstC_some e
        obtain ⟨q1, q2⟩ := cols_ix hc
        obtain ⟨sy1, _⟩ := sizes (ws := ws) hb' (by omega)
        have szn : ∀ j, Sbt 1024 (w j / w (.inl c)) := fun j => sy1 (.inl c, fun j => w j / w (.inl c)) (mem_adrK.mpr (.inr rfl)) j
        have i1 : idxD (frL (colsQ ws) w) (nD (ixC ws (.inl c))) = some (frD (w (.inl c))) := by
          rw [idx_lst, List.getElem?_map, q2]; rfl
        with_reducible refine ws_ite ?_
        refine W_eq (a := .bl false) (s := s') (by simp [optI]) ⟨false, rfl, nofun, fun _ => ?_⟩
        with_reducible refine ws_set (d := frD (w (.inl c))) (s' := s') ?_ ?_
        · simp only [optI, ev_idx, ev_var, List.getElem?_cons_succ, List.getElem?_cons_zero, gv_some, R_bind_ok, view_lst, i1, R_opt_some]
        simp only [List.set_cons_succ, List.set_cons_zero]
        have e2 : ev G (run G (n + 5)) E_reduced_2 [some (lotsD ws), some (nD k), some (nD (thingsIn ws).length), some (.lst (K.map (keptD ws))), some (.cell s.length), some (frL (colsQ ws) w), some (nD (ixC ws (.inl c))), o7, some (frD (w (.inl c))), o9, o10] s' = .ok (frL (colsQ ws) fun j => w j / w (.inl c)) s' := by
          have := comp_map (G := G) (κ := run G (n + 5)) (v := [some (lotsD ws), some (nD k), some (nD (thingsIn ws).length), some (.lst (K.map (keptD ws))), some (.cell s.length), some (frL (colsQ ws) w), some (nD (ixC ws (.inl c))), o7, some (frD (w (.inl c))), o9, o10]) (s := s') (i := 9) (it := .iv (.var 5)) (c := .con (.bl true)) (e := .call F_over (.cons (.var 9) (.cons (.var 8) .nil)) []) (xs := colsQ ws) (enc := fun j => frD (w j)) (f := fun j => frD (w j / w (.inl c))) (g := []) (by
              simp only [evIt_iv, ev_var, List.getElem?_cons_succ, List.getElem?_cons_zero, gv_some, R_bind_ok, view_lst, items_lst, ivX_some, guard_lst]) rfl (fun j hj => by
            have p1 := over_ok (n := n + 2) (s := s') hz (szv j) (szv (.inl c)) (by decide)
            simp only [cstep_one, List.set_cons_succ, List.set_cons_zero, ev_con, tst_bl, R_calm_ok, R_bind_ok, if_true, ev_call, evs_cons, evs_nil, ev_var, List.getElem?_cons_succ, List.getElem?_cons_zero, gv_some, R_map_ok, callX_nil, p1]) (by rw [line_val]; omega)
          unfold E_reduced_2; exact this
        with_reducible refine ws_set (d := frL (colsQ ws) fun j => w j / w (.inl c)) (s' := s') (by simp only [optI]; exact e2) ?_
        simp only [List.set_cons_succ, List.set_cons_zero]
        have szn : ∀ j, Sbt 1024 ((fun j => w j / w (.inl c)) j) := szn
        generalize (fun j => w j / w (.inl c)) = w' at *
        have e1 : ∀ o6 : D, o6 = nD (ixC ws (.inl c)) → ev G (run G (n + 5)) E_reduced_1 [some (lotsD ws), some (nD k), some (nD (thingsIn ws).length), some (.lst (K.map (keptD ws))), some (.cell s.length), some (frL (colsQ ws) w'), some o6, o7, some (frD (w (.inl c))), o9, o10] s' = .ok (.lst ((K.map fun q => (q.1, fun j => q.2 j - q.2 (.inl c) * w' j)).map (keptD ws))) s' := fun o6 ho6 => by
          have := comp_mapT (G := G) (κ := run G (n + 5)) (v := [some (lotsD ws), some (nD k), some (nD (thingsIn ws).length), some (.lst (K.map (keptD ws))), some (.cell s.length), some (frL (colsQ ws) w'), some o6, o7, some (frD (w (.inl c))), o9, o10]) (s := s') (t := .tup [10, 7]) (it := .iv (.var 3)) (c := .con (.bl true)) (e := .tup (.cons (.var 10) (.cons (.call F_mixed (.cons (.var 7) (.cons (.var 5) (.cons (.idx (.var 7) (.var 6)) .nil))) []) .nil))) (xs := K) (enc := keptD ws) (f := fun q => keptD ws (q.1, fun j => q.2 j - q.2 (.inl c) * w' j)) (g := []) (by
              simp only [evIt_iv, ev_var, List.getElem?_cons_succ, List.getElem?_cons_zero, gv_some, R_bind_ok, view_lst, items_lst, ivX_some, guard_lst]) rfl (fun q hq => by
            have i2 : idxD (frL (colsQ ws) q.2) (nD (ixC ws (.inl c))) = some (frD (q.2 (.inl c))) := by
              rw [idx_lst, List.getElem?_map, q2]; rfl
            have m := mixed_ok (n := n + 1) (s := s') (cs := colsQ ws) (u := q.2) (w := w') (f := q.2 (.inl c)) (fun c _ => sz1 q hq c) (fun c _ => szn c) (sz1 q hq _) (by omega)
            subst ho6
            rw [cstep_two]
            simp only [List.set_cons_succ, List.set_cons_zero, ev_con, tst_bl, R_calm_ok, R_bind_ok, if_true, ev_tup, ev_call, ev_idx, evs_cons, evs_nil, ev_var, List.getElem?_cons_succ, List.getElem?_cons_zero, gv_some, R_map_ok, view_lst, i2, R_opt_some, callX_nil, m, List.length_cons, List.length_nil, Nat.zero_add, Nat.reduceAdd, le_line2]) (by rw [line_val]; omega)
          unfold E_reduced_1; rw [this, List.map_map]; rfl
        with_reducible refine ws_set (d := .lst ((adrK K (.inl c) w').map (keptD ws))) (s' := s') ?_ (ws_done (ws_done ?_))
        · simp only [ev_bin, e1 _ rfl, optI, R_bind_ok, view_lst, ev_lst, ev_tup, evs_cons, evs_nil, ev_var, List.getElem?_cons_succ, List.getElem?_cons_zero, gv_some, R_map_ok, List.length_cons, List.length_nil, Nat.zero_add, Nat.reduceAdd, le_line1, le_line2, if_true, alloc_f]
          rw [bin_addL (by simp only [List.length_map, List.length_cons, List.length_nil, line_val]; omega), alloc_f, adrK, List.map_append]
          rfl
        · simp only [List.set_cons_succ, List.set_cons_zero]
          exact ⟨_, _, _, _, _, _, _, rfl, hS.symm⟩
  · rintro v s' ⟨o1, o5, o6, o7, o8, o9, o10, rfl, rfl⟩
    rw [List.length_map, List.length_range]
    have I := redQ_ok h ws.length (Nat.le_refl _)
    with_reducible refine ws_retE (d := .tup [.lst ((redR ws).1.map (keptD ws)), .cell s.length]) (s' := s ++ [.lst ((redR ws).2.map (augL ws))]) ?_ ?_
    · simp only [ev_tup, evs_cons, evs_nil, ev_var, List.getElem?_cons_succ, List.getElem?_cons_zero, gv_some, R_bind_ok, R_map_ok, List.length_cons, List.length_nil, Nat.zero_add, Nat.reduceAdd, le_line2, if_true]
    · have I2 := I.cnt
      have hp1 : belows s.length ((redR ws).1.map (keptD ws)) = true := plains_below _ plains_kept
      have hp2 : belows s.length ((redR ws).2.map (augL ws)) = true := plains_below _ plains_aug
      have hz1 : frzs s.length (s ++ [.lst ((redR ws).2.map (augL ws))]) ((redR ws).1.map (keptD ws)) = some ((redR ws).1.map (keptD ws)) := plains_frz _ _ plains_kept
      have hf : fin true s.length (.tup [.lst ((redR ws).1.map (keptD ws)), .cell s.length]) (s ++ [.lst ((redR ws).2.map (augL ws))]) = .ok (.tup [.lst ((redR ws).1.map (keptD ws)), .lst ((redR ws).2.map (augL ws))]) s := by
        simp [EV.fin, frz, frzs, hp1, hp2, hz1]
      rw [hf]
      exact ⟨_, _, rfl, rfl, rfl⟩
end
end EV
set_option linter.all false
set_option maxRecDepth 100000
set_option maxHeartbeats 2000000
namespace EV
open PySem (Operator CmpOp)
section
variable {n : Nat} {s : St} {ws : List (List Nat)}
theorem datN_augL {v : QV Co} : datN 11 (augL ws v) = true := datN_lst (n := 10) fun x hx => by
  obtain ⟨k, _, rfl⟩ := List.mem_map.mp hx
  rfl
theorem dat_aug {l : List (QV Co)} : dat (.lst (l.map (augL ws))) = true := datN_lst (n := 11) fun x hx => by
  obtain ⟨k, _, rfl⟩ := List.mem_map.mp hx
  exact datN_augL
theorem eq_nilL {l : List D} (hd : dat (.lst l) = true) : cmpO .Eq (.lst l) (.lst []) = some (decide (l = [])) := by
  simp only [cmpO, eqO]
  rw [if_pos (by rw [hd]; rfl)]
  cases l <;> simp [eqD, eqDs]
theorem rank_ok (h : LotsOk ws) : run G (n + 7) F_rank [lotsD ws] s = .ok (nD (rkQ ws)) s := by
  apply eq_of_W
  refine in_rank ?_
  have hl := rk_len h
  have hfew := h.few
  with_reducible refine ws_expE (d := .non) (s' := s) (by simp [check_lots_ok (n := n + 5)]) ?_
  with_reducible refine ws_retE (d := nD (rkQ ws)) (s' := s) ?_ (by simp [fin_plain])
  simp only [ev_bi, ev_idx, ev_call, ev_con, evs_cons, evs_nil, ev_var, List.getElem?_cons_zero, gv_some, R_bind_ok, R_map_ok, callX_nil, reduced_ok (n := n) h, view_tup, idx_tup0, R_opt_some]
  simp [rkQ]
theorem is_free_ok (h : LotsOk ws) : run G (n + 7) F_is_free [lotsD ws] s = .ok (.bl (decide (rkQ ws = ws.length))) s := by
  apply eq_of_W
  refine in_is_free ?_
  have e : decide ((redR ws).2.map (augL ws) = []) = decide (rkQ ws = ws.length) := by
    rw [Bool.eq_iff_iff, decide_eq_true_eq, decide_eq_true_eq, List.map_eq_nil_iff]
    exact rk_free h
  with_reducible refine ws_expE (d := .non) (s' := s) (by simp [check_lots_ok (n := n + 5)]) ?_
  with_reducible refine ws_retE (d := .bl (decide (rkQ ws = ws.length))) (s' := s) ?_ (by simp [fin_plain])
  simp only [ev_cmp, ev_idx, ev_call, ev_con, ev_lst, evs_cons, evs_nil, ev_var, List.getElem?_cons_zero, gv_some, R_bind_ok, R_map_ok, callX_nil, reduced_ok (n := n) h, view_tup, idx_tup1, R_opt_some, List.length_nil, Nat.zero_le, if_true, alloc_f, cmpI_ll, eq_nilL dat_aug, Option.map_some, e]
end
end EV
set_option linter.all false
set_option maxRecDepth 100000
set_option maxHeartbeats 2000000
namespace EV
open PySem (Operator CmpOp)
section
variable {n : Nat} {s : St} {ws : List (List Nat)}
theorem lots_rev (h : LotsOk ws) : LotsOk ws.reverse := by
  refine ⟨fun e => h.ne (by simpa using e), by simpa using h.few, fun w m => h.lot w (List.mem_reverse.mp m), ?_⟩
  have : thingsIn ws.reverse = thingsIn ws := asc_ext (uniq_asc _) (uniq_asc _) fun c => by
    unfold thingsIn
    have h1 : ∀ c ∈ ws.flatten, c < 128 := h.lt
    have h2 : ∀ c ∈ ws.reverse.flatten, c < 128 := fun c hc => by
      obtain ⟨w, hw, hcw⟩ := List.mem_flatten.mp hc
      exact h1 c (List.mem_flatten.mpr ⟨w, List.mem_reverse.mp hw, hcw⟩)
    rw [mem_uniq h1, mem_uniq h2, List.mem_flatten, List.mem_flatten]
    simp
  rw [this]; exact h.things
theorem rk_rev (h : LotsOk ws) : rkQ ws.reverse = rkQ ws := rk_set (lots_rev h) h fun w => List.mem_reverse
def rkP (ws : List (List Nat)) (k : Nat) : Nat := if k = 0 then 0 else rkQ (ws.take k)
theorem rkP_step (h : LotsOk ws) {k : Nat} (hk : k < ws.length) : rkP ws k ≤ rkQ (ws.take (k + 1)) ∧ rkQ (ws.take (k + 1)) ≤ rkP ws k + 1 := by
  have h2 := lots_take h (m := k + 1) ⟨by omega, by omega⟩
  unfold rkP
  split
  · rename_i e
    have := rk_len h2
    rw [List.length_take] at this
    omega
  · have h1 := lots_take h (m := k) ⟨by omega, by omega⟩
    have et : ws.take (k + 1) = ws.take k ++ [ws[k]] := by rw [List.take_add_one, List.getElem?_eq_getElem hk]; rfl
    rw [et] at h2 ⊢
    rcases rk_snoc h1 h2 with e | e <;> omega
theorem rep_n2 {k : Nat} (h : k ≤ 9) : ∃ t, biD .repr [.lst [nD k, nD k]] = some (.str t) := dup_repr (m := 12) (rp_nat (m := 10) (by omega) (by omega)) (by omega) datN_nat
theorem rep_bl2 (b : Bool) : ∃ t, biD .repr [.lst [.bl b, .bl b]] = some (.str t) := by
  cases b
  · exact dup_repr (m := 5) ⟨_, rfl, by decide⟩ (by omega) rfl
  · exact dup_repr (m := 5) ⟨_, rfl, by decide⟩ (by omega) rfl
theorem law_right43_ok {j : Nat} (hj : Bag s j) : W (run G (n + 9) F_law_right_v26 [.cell j] s) fun d _ => d = .bl true := by
  refine in_law_right_v26 ?_
  with_reducible refine ws_for1 (fun _ v s' => (∃ o1 o2 o3 o4 o5 o6 o7, v = [some (.cell j), o1, o2, o3, o4, o5, o6, o7]) ∧ BS j s s') (s' := s) (xs := (List.range 6).map nD) (g := []) ?_ ?_ (fun _ _ _ _ => rfl) ?_ ?_
  · simp
    rw [rgX_ok (by decide) (by decide)]
    simp
  · exact ⟨⟨_, _, _, _, _, _, _, rfl⟩, hj.refl⟩
  · rintro t x v s0 hx ⟨⟨o1, o2, o3, o4, o5, o6, o7, rfl⟩, j0⟩
    with_reducible refine ws_one ?_
    simp
    with_reducible refine W_mono (law_words2_ok (n := n + 4) (m := 8) (y := 8) j0.bag (by omega) (by omega)) ?_
    rintro _ s1 ⟨⟨ws, rfl, h, h8, _⟩, j1⟩
    have j01 := j0.trans j1
    have hf := h.few
    with_reducible refine ws_set (d := .int 0) (s' := s1) (by simp) ?_
    simp only [List.set_cons_succ, List.set_cons_zero]
    with_reducible refine ws_for1 (fun k v s' => (∃ o4 o5 o6 o7, v = [some (.cell j), some x, some (.tup (ws.map .str)), some (nD (rkP ws k)), o4, o5, o6, o7]) ∧ s' = s1) (s' := s1) (xs := (List.range ws.length).map fun k => nD (k + 1)) (g := []) ?_ ?_ (fun _ _ _ _ => rfl) ?_ ?_
    · have hlen : biI G (run G (n + 8)) .len [.tup (ws.map .str)] s1 = .ok (nD ws.length) s1 := by simp
      simp only [evIt_rng2, ev_con, ev_bin, ev_bi, evs_cons, evs_nil, ev_var, List.getElem?_cons_succ, List.getElem?_cons_zero, gv_some, R_bind_ok, R_map_ok, hlen, view_int, bin_addI]
      rw [rgX_ok (by decide) (fits62_of (by omega))]
      have e1 : (((ws.length : Nat) : Int) + 1 - 1).toNat = ws.length := by omega
      rw [e1]
      simp only [rngL, R_ok_inj, Prod.mk.injEq, and_true]
      refine List.map_congr_left fun k _ => ?_
      show D.int (1 + (k : Int)) = D.int ((k + 1 : Nat) : Int)
      congr 1; omega
    · exact ⟨⟨_, _, _, _, rfl⟩, rfl⟩
    · rintro k x2 v s' hx2 ⟨⟨o4, o5, o6, o7, rfl⟩, rfl⟩
      obtain ⟨hk, rfl⟩ := map_at hx2
      rw [List.length_range] at hk
      rw [List.getElem_range]
      simp only [List.set_cons_succ, List.set_cons_zero]
      have h2 := lots_take h (m := k + 1) ⟨by omega, by omega⟩
      obtain ⟨q1, q2⟩ := rkP_step h hk
      have hct : cut (ws.map D.str) none (some ((k + 1 : Nat) : Int)) = (ws.take (k + 1)).map .str := by rw [cut_take, ← List.map_take]
      have hlu : (ws.take (k + 1)).length = k + 1 := by rw [List.length_take]; omega
      have hnx : rkP ws (k + 1) = rkQ (ws.take (k + 1)) := by unfold rkP; rw [if_neg (by omega)]
      rw [hnx]
      generalize ws.take (k + 1) = us at *
      have hrl := rk_len h2
      have hrt := rk_things h2
      have hth := h2.things
      have hls := law_steps_ok (n := n + 6) (s := s') h2 (by omega)
      obtain ⟨dd, s2, est, ⟨⟨st, gn, rfl, _, _, heq⟩, rfl⟩⟩ := of_W hls
      have hst : st.length = rkQ us := by rw [← (steps_rank h2).1, heq]
      have hm := mk_lots_ok (n := n + 4) (s := s2) h2
      with_reducible refine ws_setT (is := [6, 7]) (d := .tup [lotsD us, nD (rkQ us)]) (s' := s2) ?_ rfl ?_
      · have hln : biI G (run G (n + 8)) .len [.lst (st.map stD)] s2 = .ok (nD (rkQ us)) s2 := by simp [hst]
        simp only [ev_tup, ev_mk, ev_sl, ev_bi, ev_idx, ev_call, ev_con, evs_cons, evs_nil, ev_var, List.getElem?_cons_succ, List.getElem?_cons_zero, gv_some, R_bind_ok, R_map_ok, view_tup, isNil_nil, isNil_var, part_t, part_f, intX_int, sl_tup, hct, hm, callX_nil, est, idx_tup0, R_opt_some, hln, List.length_cons, List.length_nil, Nat.zero_add, Nat.reduceAdd, le_line2, if_true]
      simp only [List.zip_cons_cons, List.zip_nil_left, List.zip_nil_right, List.foldl_cons, List.foldl_nil, List.set_cons_succ, List.set_cons_zero]
      have hr := rank_ok (n := n + 1) (s := s2) h2
      have hrp : callX (run G (n + 8)) F_rank [0] [lotsD us] s2 = .ok (nD (rkQ us)) s2 := by rw [callX_pm (es := [lotsD us]) rfl]; exact hr
      have hfr := is_free_ok (n := n + 1) (s := s2) h2
      have hfp : callX (run G (n + 8)) F_is_free [0] [lotsD us] s2 = .ok (.bl (decide (rkQ us = us.length))) s2 := by rw [callX_pm (es := [lotsD us]) rfl]; exact hfr
      obtain ⟨t1, hrep1⟩ := rep_n2 (k := rkQ us) (by omega)
      with_reducible refine ws_it0 (s' := s2) ?_ ?_
      · simp only [ev_cmp, ev_bi, ev_lst, evs_cons, evs_nil, ev_call, ev_var, List.getElem?_cons_succ, List.getElem?_cons_zero, gv_some, R_bind_ok, R_map_ok, callX_nil, hr, hrp, List.length_cons, List.length_nil, Nat.zero_add, Nat.reduceAdd, le_line2, if_true, alloc_f, bi_repr, List.map_cons, List.map_nil, view_lst, hrep1, R_opt_some, cmpI_ss, cmpO_nes, decide_true, Bool.not_true, Option.map_some]
      have hfi : decide (((rkQ us : Nat) : Int) = ((k + 1 : Nat) : Int)) = decide (rkQ us = us.length) := by rw [Bool.eq_iff_iff, decide_eq_true_eq, decide_eq_true_eq, hlu]; omega
      with_reducible refine ws_set (d := .bl (decide (rkQ us = us.length))) (s' := s2) ?_ ?_
      · simp only [ev_cmp, ev_var, List.getElem?_cons_succ, List.getElem?_cons_zero, gv_some, R_bind_ok, cmpI_ii, cmpO_eqi, hfi, Option.map_some, R_opt_some]
      simp only [List.set_cons_succ, List.set_cons_zero]
      obtain ⟨t2, hrep2⟩ := rep_bl2 (decide (rkQ us = us.length))
      with_reducible refine ws_it0 (s' := s2) ?_ ?_
      · simp only [ev_cmp, ev_bi, ev_lst, evs_cons, evs_nil, ev_call, ev_var, List.getElem?_cons_succ, List.getElem?_cons_zero, gv_some, R_bind_ok, R_map_ok, callX_nil, hfr, hfp, List.length_cons, List.length_nil, Nat.zero_add, Nat.reduceAdd, le_line2, if_true, alloc_f, bi_repr, List.map_cons, List.map_nil, view_lst, hrep2, R_opt_some, cmpI_ss, cmpO_nes, decide_true, Bool.not_true, Option.map_some]
      with_reducible refine ws_it0 (s' := s2) ?_ ?_
      · have c1 : decide (((rkP ws k : Nat) : Int) ≤ ((rkQ us : Nat) : Int)) = true := decide_eq_true (by omega)
        have c2 : decide (((rkQ us : Nat) : Int) ≤ ((rkP ws k : Nat) : Int) + 1) = true := decide_eq_true (by omega)
        have c3 : decide ((((thingsIn us).length : Nat) : Int) < ((rkQ us : Nat) : Int)) = false := decide_eq_false (by omega)
        have hlt : biI G (run G (n + 8)) .len [.str (thingsIn us)] s2 = .ok (nD (thingsIn us).length) s2 := by simp [lenOf_str (show (thingsIn us).length ≤ line by rw [line_val]; omega)]
        simp only [ev_or, ev_one, ev_not, ev_cmp2, ev_cmp, ev_bin, ev_bi, ev_atr, ev_con, evs_cons, evs_nil, ev_var, List.getElem?_cons_succ, List.getElem?_cons_zero, gv_some, R_bind_ok, R_map_ok, cmpO_lei, c1, cmp2X_t, view_int, bin_addI, c2, Option.map_some, R_opt_some, tst_bl, Bool.not_true, Bool.false_eq_true, if_false, atr_things, hlt, cmpI_ii, cmpO_gti, c3]
      have h3 := lots_rev h2
      have hm2 := mk_lots_ok (n := n + 4) (s := s2) h3
      have hr2 := rank_ok (n := n + 1) (s := s2) h3
      rw [rk_rev h2] at hr2
      have hrv : (us.map D.str).reverse = us.reverse.map .str := by rw [List.map_reverse]
      with_reducible refine ws_it0 (s' := s2) ?_ ?_
      · simp only [ev_cmp, ev_call, ev_mk, ev_sl, evs_cons, evs_nil, ev_var, List.getElem?_cons_succ, List.getElem?_cons_zero, gv_some, R_bind_ok, R_map_ok, view_tup, isNil_nil, isNil_var, part_t, part_f, intX_int, sl_tup, sl_tup1, hct, hrv, hm2, callX_nil, hr2, cmpI_ii, cmpO_nei, decide_true, Bool.not_true, Option.map_some, R_opt_some]
      with_reducible refine ws_set (d := nD (rkQ us)) (s' := s2) (by simp) (ws_done ?_)
      exact ⟨⟨_, _, _, _, rfl⟩, rfl⟩
    · rintro v s' ⟨⟨o4, o5, o6, o7, rfl⟩, rfl⟩
      exact ws_done ⟨⟨_, _, _, _, _, _, _, rfl⟩, j01⟩
  · rintro v s' ⟨⟨o1, o2, o3, o4, o5, o6, o7, rfl⟩, _⟩
    with_reducible refine ws_retE (d := .bl true) (s' := s') (by simp) ?_
    simp [fin_plain]
theorem rk_by {r : Nat} (h : LotsOk ws) (e : (lawSteps ws ws.length).1.length = r) : rkQ ws = r := by rw [← (steps_rank h).1, e]
def L43 : List (List (List Nat)) := [[[97, 98], [99, 100], [97, 99], [98, 100]], [[97], [97], [98], [98], [97, 98]], [[97, 98], [97, 99], [98, 99]]] ++ [List.replicate 9 [97, 98, 99, 100, 101, 102, 103, 104], [[97, 98], [98, 99], [97, 98, 99]]]
theorem lots43 : ∀ ws ∈ L43, LotsOk ws := fun ws h => by
  simp only [L43, List.cons_append, List.nil_append, List.mem_cons, List.not_mem_nil, or_false] at h
  rcases h with rfl | rfl | rfl | rfl | rfl <;> exact lots_by (by decide) (by decide) (by decide +kernel) (by decide +kernel)
theorem rk43 : (L43.map fun ws => D.lst [nD (rkQ ws), .bl (decide (rkQ ws = ws.length))]) = [.lst [.int 3, .bl false], .lst [.int 2, .bl false], .lst [.int 3, .bl true], .lst [.int 1, .bl false], .lst [.int 3, .bl true]] := by
  have h := lots43
  simp only [L43, List.cons_append, List.nil_append, List.mem_cons, List.not_mem_nil, or_false, forall_eq_or_imp, forall_eq] at h
  obtain ⟨h1, h2, h3, h4, h5⟩ := h
  have r1 := rk_by (r := 3) h1 (by decide +kernel)
  have r2 := rk_by (r := 2) h2 (by decide +kernel)
  have r3 := rk_by (r := 3) h3 (by decide +kernel)
  have r4 := rk_by (r := 1) h4 (by decide +kernel)
  have r5 := rk_by (r := 3) h5 (by decide +kernel)
  simp only [L43, List.cons_append, List.nil_append, List.map_cons, List.map_nil, r1, r2, r3, r4, r5]
  rfl
theorem law43_ok {ns : List Int} (hn : ns.length ≤ 63) : W (run G (n + 11) F_law_v26 [.lst (ns.map .int)] s) fun d _ => d = .bl true := by
  refine in_law_v26 ?_
  with_reducible refine ws_set (d := .lst ((L43.take 3).map wsD)) (s' := s) ?_ ?_
  · simp only [ev_lst, ev_tup, evs_cons, evs_nil, ev_con, R_bind_ok, R_map_ok, List.length_cons, List.length_nil, Nat.zero_add, Nat.reduceAdd, le_line3, le_line4, le_line5, if_true, alloc_f]
    rfl
  simp only [List.set_cons_succ, List.set_cons_zero]
  with_reducible refine ws_set (d := .lst (L43.map wsD)) (s' := s) ?_ ?_
  · have hb : binX false .Mult (.tup [.str [97, 98, 99, 100, 101, 102, 103, 104]]) (.int 9) s = .ok (wsD (List.replicate 9 [97, 98, 99, 100, 101, 102, 103, 104])) s := by
      rw [bin_repT (by decide)]; rfl
    simp only [ev_bin, ev_lst, ev_tup, evs_cons, evs_nil, ev_con, ev_var, List.getElem?_cons_succ, List.getElem?_cons_zero, gv_some, R_bind_ok, R_map_ok, List.length_cons, List.length_nil, Nat.zero_add, Nat.reduceAdd, le_line1, le_line2, le_line3, if_true, alloc_f, view_tup, view_int, hb, view_lst]
    rw [bin_addL (by decide)]
    rfl
  simp only [List.set_cons_succ, List.set_cons_zero]
  have e2 : ev G (run G (n + 10)) E_law_v26_2 [some (.lst (ns.map .int)), some (.lst (L43.map wsD)), none, none, none] s = .ok (.lst (L43.map fun ws => D.lst [nD (rkQ ws), .bl (decide (rkQ ws = ws.length))])) s := comp_map (xs := L43) (enc := wsD) (g := []) (by simp) rfl (fun ws hw => by
    have h := lots43 ws hw
    have hr := rank_ok (n := n + 3) (s := s) h
    have hf := is_free_ok (n := n + 3) (s := s) h
    have hm := mk_lots_ok (n := n + 6) (s := s) h
    simp only [cstep_one, List.set_cons_succ, List.set_cons_zero, ev_con, tst_bl, R_calm_ok, R_bind_ok, if_true, ev_lst, ev_call, ev_mk, evs_cons, evs_nil, ev_var, List.getElem?_cons_succ, List.getElem?_cons_zero, gv_some, R_map_ok, hm, callX_nil, hr, hf, List.length_cons, List.length_nil, Nat.zero_add, Nat.reduceAdd, le_line2, alloc_f]) (by decide)
  rw [rk43] at e2
  with_reducible refine ws_set (d := .lst [.lst [.int 3, .bl false], .lst [.int 2, .bl false], .lst [.int 3, .bl true], .lst [.int 1, .bl false], .lst [.int 3, .bl true]]) (s' := s) e2 ?_
  simp only [List.set_cons_succ, List.set_cons_zero]
  obtain ⟨t, ht⟩ : ∃ t, biD .repr [.lst [.lst [.int 3, .bl false], .lst [.int 2, .bl false], .lst [.int 3, .bl true], .lst [.int 1, .bl false], .lst [.int 3, .bl true]]] = some (.str t) := ⟨_, by with_unfolding_all rfl⟩
  with_reducible refine ws_it0 (s' := s) ?_ (ws_ret ?_)
  · simp only [ev_cmp, ev_bi, ev_lst, evs_cons, evs_nil, ev_con, ev_var, List.getElem?_cons_succ, List.getElem?_cons_zero, gv_some, R_bind_ok, R_map_ok, List.length_cons, List.length_nil, Nat.zero_add, Nat.reduceAdd, le_line2, le_line5, if_true, alloc_f, bi_repr, List.map_cons, List.map_nil, view_lst, ht, R_opt_some, cmpI_ss, cmpO_nes, decide_true, Bool.not_true, Option.map_some]
  · refine W_mono (law_drvB (n := n + 9) (fr := F_law_right_v26) (i := 4) (M := 6) (ns := ns) (by decide) hn rfl (by decide) (by simp) (fun s j hj => law_right43_ok (n := n + 1) hj)) ?_
    rintro d s' rfl
    simp [fin_plain]
end
theorem law_run_k43 (ns : List Int) (hn : ns.length ≤ 63) : ∃ S', run G 20 F_law_v26 [.lst (ns.map D.int)] [] = .ok (.bl true) S' := by
  obtain ⟨d, s', e, rfl⟩ := of_W (law43_ok (n := 9) (s := []) hn)
  exact ⟨s', e⟩
end EV
namespace EV
open PySem PySem.W PySem.Calls PyProof.Rows L2
theorem law_run (ns : List Int) (hl : ns.length ≤ 63) : ∃ S', run tl.T.G 20 F_law_v26 [.lst (ns.map D.int)] [] = .ok (.bl true) S' := law_run_k43 ns hl
end EV
open PySem PySem.W PyProof.Rows
set_option maxRecDepth 100000 in
set_option maxHeartbeats 0 in
theorem PySem.Challenge.cw_sameunions_k43_whole_ranks_holds : PySem.Challenge.rw_sameunions_k43_whole_ranks.Holds := by
  w_on; o_law
  refine HandSHeadRun.head_any (r := OpenLaw.row PySem.Challenge.rw_sameunions_k43_whole_ranks) (q := PySem.W.view (OpenLaw.row PySem.Challenge.rw_sameunions_k43_whole_ranks).prog [38]) (H := EV.hk) (ob := EV.hob) (M := 6000) (loose := EV.hnames) (d := HandSHeadRun.topDef (OpenLaw.row PySem.Challenge.rw_sameunions_k43_whole_ranks).prog 38) (kwd := []) EV.hob_eq
    (by kernel_rfl) (fun s => by kernel_rfl) EV.hrun (by kernel_rfl) (by kernel_rfl) (by kernel_rfl) (by rfl) (by first | assumption | decide +kernel) (by decide +kernel) ⟨rfl, rfl, rfl, rfl, rfl, by decide +kernel⟩ ?hw ?hc
  case hw => w_witness2
  case hc =>
    refine EV.walk_ev (l := PySem.Challenge.rw_sameunions_k43_whole_ranks) (n := 63) (k := 60) (x := "_law_script") rfl (by decide) (by kernel_rfl) ⟨rfl, by decide, by decide⟩ ?F
    intro w mg fa h Y G hmg0
    obtain ⟨K, KX, c⟩ := Y
    obtain ⟨fd, sp, q1, q2, q3⟩ := EV.Tb.law (T := EV.tl.T) (EV.TL.ok EV.tl_chk EV.tl_dp) (n := 20) (fl := EV.F_law_v26) (m := 63) (d := EV.dt_law_v26) (x := "_law_script") _ rfl rfl ⟨_, rfl⟩ rfl rfl
      (fun K a fd F s u => EV.hlaw F s u) EV.law_run fa KX G hmg0 c
    exact ⟨K, fd, sp, KX, q1, q2, q3⟩

